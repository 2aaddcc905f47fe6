import PyProof.Rows.All
import Wide.All
import OpenK.AllK
import Wide.FinOn
import HandS.ForMost
import HandS.Exc
import HandS.IsInst
import HandS.Slots
import HandS.Wide
import HandS.TupAny
import HandS.Conv
import HandS.Deep
import HandS.ExcCtx
import HandS.Property
import HandS.MakeKwOnly
import HandS.SortInts
import HandS.RaiseMore
import HandS.Style
import HandS.Zip
import HandS.CallSlots
import HandS.Defaults
import HandS.HeadHook1
import HandS.HeadHook2
import HandS.HeadHook3
import HandS.HeadHook4
import HandS.HeadEnd
import HandS.ExcIs
import HandS.ExcField
import KE.GoesMore
import PyProof.EnumMake
import PyProof.EnumFor
import HandS.Iter
import HandS.Star
import KE.KExcSuper
import KE.KSuper
import HandS.ExcInit
import KE.KStateDown
import HandS.Head0
import HandS.Head1
import HandS.Head2
import HandS.MakeKw
import PySem.Challenge.RW_countrestarts_k53_solutions_planted
import KE.KExcIs
import HandS.TryOnly
import HandS.TryMany
import HandS.ClsMeth
import HandS.OwnEq
import PyProof.CallFns
import HandS.FStr
import PyProof.Rows.StrWeight2
import PyProof.Rows.StrSplitJoin
import PyProof.Rows.StrFin3
import HandS.ExcOwn
import KE.GoesSet
import HandS.Strs
import KE.KTupSum
import PyProof.Rows.RuleN_abs
import KE.KOpsOwn
import KE.KMethU
import HandS.Dict
import HandS.Flow
import HandS.MethStar
import HandS.GenList
import HandS.GenYield
import KE.GoesZip
import KE.GoesEnum
import HandS.GenCall
import KE.SortData
import KE.SortLaws
import KE.KDictList
import HandS.Text
import HandS.StrMore
import KE.KxField
import PyProof.StrBlock2
import HandS.ReplaceLit
import HandS.ReplaceDef
import HandS.Rev
import PyProof.TupleIter
import PyProof.WalksMore
import PyProof.CollectIter
import PyProof.RulesMatch
import HandS.Finally
import HandS.SuiteRaise
import HandS.RaiseFrom
import HandS.HotCalls
import HandS.SetKeys
import PyProof.DictMoreH
set_option Elab.async false
set_option linter.all false
set_option maxRecDepth 100000
set_option maxHeartbeats 40000000
set_option autoImplicit false
open List renaming set_cons_succ → akP, set_cons_zero → akQ, getElem?_cons_zero → akR, range → akS, getElem?_cons_succ → akT, length_cons → akU, length_nil → akV, length_map → akW, getElem?_eq_getElem → akX, map_cons → akY, append_nil → akZ, getD_eq_getElem?_getD → ak0, length_range → ak1, map_nil → ak2, length_append → ak3, mem_cons_self → ak4, getElem?_map → ak5, lookup → ak6, getElem?_set_ne → ak7, length_set → ak8, getElem?_set_self → ak9, replicate_zero → ala, mem_cons_of_mem → alb, map_map → alc, mem_of_getElem? → ald, replicate_succ → ale, cons_append → alf, length_singleton → alg, nil_append → alh, getElem?_append_right → ali, map_append → alj, getElem?_append_left → alk, getElem_mem → alm, append_assoc → aln, not_mem_nil → alo, map_congr_left → alp, getElem?_eq_none → alq
namespace Pk
open PySem PySem.Spec L2
inductive D where
 | non | bl (b : Bool) | int (i : Int) | str (s : Str)
 | tup (l : List D) | fl (l : List D) | nl (l : List D) | kl (l : List D)
 | obj (c : Nat) (fs : List D) | no (c : Nat) (fs : List D) | ref (n : Nat) | cls (c : Nat) | ty (t : String)
 | sl (lo hi : Option Int)
 /-- a tuple that the heap knows (it may be a key) -/
 | tp (l : List D)
 /-- a dict with tuples for keys, in a cell: its keys, its values -/
 | dc (ks : List (List (Sum Int Str))) (ds : List D)
 /-- a dict with ints and texts for keys, in a cell -/
 | dk (ks : List (Sum Int Str)) (ds : List D)
 /-- an instance with slots, in a cell: its class, the cell of its dict, its slots -/
 | so (c m : Nat) (fs : List D)
 /-- .. its dict, before the first store and behind it -/
 | hid (b : Bool)
 deriving Inhabited
def D.own : D → Bool
 | .nl _ => true
 | .no _ _ => true
 | _ => false
def D.fz : D → D
 | .nl l => .fl l
 | .no c fs => .obj c fs
 | d => d
abbrev Fr := List (Option D)
abbrev Hh := List D
structure Tb where
 cad : Nat → Addr
 fld : Nat → List Str
structure Wd where
 F : Hp
 I : List Addr
def Wd.le (w w' : Wd) : Prop := (∀ a o, w.F a = some o → w'.F a = some o) ∧ ∃ r, w'.I = w.I ++ r
theorem Wd.le_refl (w : Wd) : w.le w := ⟨fun _ _ h => h, [], by simp⟩
theorem Wd.le_trans {a b c : Wd} (x : a.le b) (y : b.le c) : a.le c :=
 ⟨fun p o h => y.1 p o (x.1 p o h), by
  obtain ⟨r, e⟩ := x.2
  obtain ⟨q, f⟩ := y.2
  exact ⟨r ++ q, by rw [f, e, aln]⟩⟩
theorem Wd.le_at {w w' : Wd} (x : w.le w') {n : Nat} {a : Addr} (h : w.I[n]? = some a) : w'.I[n]? = some a := by
 obtain ⟨r, e⟩ := x.2
 rw [e, alk (List.getElem?_eq_some_iff.mp h).1]
 exact h
theorem Wd.le_mem {w w' : Wd} (x : w.le w') {a : Addr} (h : a ∈ w.I) : a ∈ w'.I := by
 obtain ⟨r, e⟩ := x.2
 rw [e]
 exact List.mem_append_left _ h
theorem abT {F F' : Hp} (x : ∀ a o, F a = some o → F' a = some o) {a : Addr} {u : HO} (h : Rd F a u) : Rd F' a u := by
 rcases h with h | ⟨o, h⟩
 · exact .inl (x _ _ h)
 · exact .inr ⟨o, x _ _ h⟩
theorem iJ {K : PySem.W.Frag} {F F' : Hp} (x : ∀ a o, F a = some o → F' a = some o) {a : Addr} {vs : List V} (h : SqL K F a vs) : SqL K F' a vs := by
 rcases h with h | h
 · exact .inl (abT x h)
 · exact .inr h
theorem dR {K : PySem.W.Frag} {F F' : Hp} (x : ∀ a o, F a = some o → F' a = some o) {a : Addr} {vs : List V} (h : SqT K F a vs) : SqT K F' a vs := by
 rcases h with h | h
 · exact .inl (abT x h)
 · exact .inr h
def SlO (a : Addr) (lo hi : Option Int) (h : Heap) : Prop := ∃ vl vu, h.IsSliceOf a vl vu .none ∧ IsPart vl lo ∧ IsPart vu hi
mutual
inductive bO (K : PySem.W.Frag) (T : Tb) (w : Wd) : V → D → Prop where
 | non : bO K T w .non .non
 | bl (b : Bool) : bO K T w (.bl b) (.bl b)
 | int (i : Int) : bO K T w (.int i) (.int i)
 | str (s : Str) : bO K T w (.str s) (.str s)
 | tup {a : Addr} {vs : List V} {ds : List D} : SqT K w.F a vs → az K T w vs ds → bO K T w (.ref a) (.tup ds)
 | fl {a : Addr} {vs : List V} {ds : List D} : w.F a = some (.lst vs) → az K T w vs ds → bO K T w (.ref a) (.fl ds)
 | kl {a : Addr} {vs : List V} {ds : List D} : SqL K w.F a vs → az K T w vs ds → bO K T w (.ref a) (.kl ds)
 | obj {a dx : Addr} {c : Nat} {vs : List V} {ds : List D} : w.F a = some (.ins (T.cad c) dx ((T.fld c).zip vs)) → az K T w vs ds → bO K T w (.ref a) (.obj c ds)
 | ref {a : Addr} {n : Nat} : w.I[n]? = some a → bO K T w (.ref a) (.ref n)
 | cls (c : Nat) : bO K T w (.ref (T.cad c)) (.cls c)
 | ty (t : String) : bO K T w (.ty t) (.ty t)
 | sl {a : Addr} {lo hi : Option Int} : w.F a = some (.ext (SlO a lo hi)) → bO K T w (.ref a) (.sl lo hi)
 | tp {a : Addr} {vs : List V} {ds : List D} : w.F a = some (.tup vs) → az K T w vs ds → bO K T w (.ref a) (.tp ds)
inductive az (K : PySem.W.Frag) (T : Tb) (w : Wd) : List V → List D → Prop where
 | nil : az K T w [] []
 | cons {v : V} {d : D} {vs : List V} {ds : List D} : bO K T w v d → az K T w vs ds → az K T w (v :: vs) (d :: ds)
end
section
variable {K : PySem.W.Frag} {T : Tb} {w w' : Wd}
mutual
theorem bO.mono (x : w.le w') : ∀ {v : V} {d : D}, bO K T w v d → bO K T w' v d
 | _, _, .non => .non
 | _, _, .bl b => .bl b
 | _, _, .int i => .int i
 | _, _, .str s => .str s
 | _, _, .tup h t => .tup (dR x.1 h) (az.mono x t)
 | _, _, .fl h t => .fl (x.1 _ _ h) (az.mono x t)
 | _, _, .kl h t => .kl (iJ x.1 h) (az.mono x t)
 | _, _, .obj h t => .obj (x.1 _ _ h) (az.mono x t)
 | _, _, .ref h => .ref (Wd.le_at x h)
 | _, _, .cls c => .cls c
 | _, _, .ty t => .ty t
 | _, _, .sl h => .sl (x.1 _ _ h)
 | _, _, .tp h t => .tp (x.1 _ _ h) (az.mono x t)
theorem az.mono (x : w.le w') : ∀ {vs : List V} {ds : List D}, az K T w vs ds → az K T w' vs ds
 | _, _, .nil => .nil
 | _, _, .cons h t => .cons (bO.mono x h) (az.mono x t)
end
theorem az.length : ∀ {vs : List V} {ds : List D}, az K T w vs ds → vs.length = ds.length
 | _, _, .nil => rfl
 | _, _, .cons _ t => congrArg Nat.succ (az.length t)
theorem az.get : ∀ {vs : List V} {ds : List D} {i : Nat} {d : D}, az K T w vs ds → ds[i]? = some d → ∃ v, vs[i]? = some v ∧ bO K T w v d
 | _, _, _, _, .nil, e => by simp at e
 | _, _, 0, _, .cons h _, e => by
   simp at e
   subst e
   exact ⟨_, rfl, h⟩
 | _, _, i + 1, d, .cons _ t, e => by
   obtain ⟨v, h1, h2⟩ := az.get (i := i) (d := d) t (by simpa using e)
   exact ⟨v, by simpa using h1, h2⟩
theorem az.append : ∀ {vs us : List V} {ds es : List D}, az K T w vs ds → az K T w us es → az K T w (vs ++ us) (ds ++ es)
 | _, _, _, _, .nil, t => t
 | _, _, _, _, .cons h r, t => .cons h (az.append r t)
theorem az.drop : ∀ {vs : List V} {ds : List D} (n : Nat), az K T w vs ds → az K T w (vs.drop n) (ds.drop n)
 | _, _, 0, h => h
 | _, _, _ + 1, .nil => .nil
 | _, _, n + 1, .cons _ t => az.drop n t
theorem az.take : ∀ {vs : List V} {ds : List D} (n : Nat), az K T w vs ds → az K T w (vs.take n) (ds.take n)
 | _, _, 0, _ => .nil
 | _, _, _ + 1, .nil => .nil
 | _, _, n + 1, .cons h t => .cons h (az.take n t)
theorem az.set : ∀ {vs : List V} {ds : List D} {v : V} {d : D} (n : Nat), az K T w vs ds → bO K T w v d → az K T w (vs.set n v) (ds.set n d)
 | _, _, _, _, _, .nil, _ => .nil
 | _, _, _, _, 0, .cons _ t, h => .cons h t
 | _, _, _, _, n + 1, .cons h t, k => .cons h (az.set n t k)
theorem az.ints : ∀ {vs : List V} {is : List Int}, az K T w vs (is.map D.int) → vs = is.map V.int
 | _, [], .nil => rfl
 | _, i :: is, .cons h t => by
   cases h
   rw [az.ints t]
   rfl
end
structure Bs where
 w0 : Wd
 H0 : Hp
 P : List (Addr × HO)
 /-- where an __init__'s own instance is: in slot 0, as long as that holds an object of the body's own -/
 me : Option Addr
abbrev Bs.of (w : Wd) (H : Hp) : Bs := ⟨w, H, [], none⟩
structure Own (B : Bs) (w : Wd) (p : Addr) : Prop where
 f : w.F p = none
 i : p ∉ w.I
 e : B.H0 p = none
 p : ∀ q ∈ B.P, q.1 ≠ p
inductive sE (K : PySem.W.Frag) (T : Tb) (w : Wd) : HO → D → Prop where
 | lst {vs : List V} {ds : List D} : az K T w vs ds → sE K T w (.lst vs) (.nl ds)
 | obj {dx : Addr} {c : Nat} {vs : List V} {ds : List D} : az K T w vs ds → sE K T w (.ins (T.cad c) dx ((T.fld c).zip vs)) (.no c ds)
theorem sE.own {K : PySem.W.Frag} {T : Tb} {w : Wd} {o : HO} {d : D} (x : sE K T w o d) : d.own = true := by
 cases x <;> rfl
theorem sE.mono {K : PySem.W.Frag} {T : Tb} {w w' : Wd} {o : HO} {d : D} (l : w.le w') (x : sE K T w o d) : sE K T w' o d := by
 cases x with
 | lst r => exact .lst (r.mono l)
 | obj r => exact .obj (r.mono l)
theorem sE.fz {K : PySem.W.Frag} {T : Tb} {w w' : Wd} {o : HO} {d : D} {p : Addr} (l : w.le w') (e : w'.F p = some o) (x : sE K T w o d) : bO K T w' (.ref p) d.fz := by
 cases x with
 | lst r => exact .fl e (r.mono l)
 | obj r => exact .obj e (r.mono l)
theorem Hv {K : PySem.W.Frag} {T : Tb} {w : Wd} {v : V} {d : D} (r : bO K T w v d) : d.own = false := by
 cases r <;> rfl
theorem ace {K : PySem.W.Frag} {T : Tb} {w : Wd} {v : V} {d : D} (r : bO K T w v d) : d.fz = d := by
 cases r <;> rfl
theorem vW {K : PySem.W.Frag} {T : Tb} {w : Wd} {v : V} {d : D} (o : d.own = true) (r : bO K T w v d) : False := by
 rw [Hv r] at o
 cases o
theorem YH (d : D) : d.fz.own = false := by
 cases d <;> rfl
inductive Lq (K : PySem.W.Frag) (T : Tb) (B : Bs) (w : Wd) (H : Hp) : Option V → Option D → Prop where
 | none {v : Option V} : Lq K T B w H v none
 | val {v : V} {d : D} : bO K T w v d → Lq K T B w H (some v) (some d)
 | own {p : Addr} {o : HO} {d : D} : Own B w p → H p = some o → sE K T w o d → Lq K T B w H (some (.ref p)) (some d)
inductive oG (K : PySem.W.Frag) (T : Tb) (w : Wd) : List (Option V) → List D → Prop where
 | nil : oG K T w [] []
 | hole {vs : List (Option V)} {ds : List D} : oG K T w vs ds → oG K T w (none :: vs) (.hid false :: ds)
 | cons {v : V} {d : D} {vs : List (Option V)} {ds : List D} : bO K T w v d → oG K T w vs ds → oG K T w (some v :: vs) (d :: ds)
section
variable {K : PySem.W.Frag} {T : Tb} {w w' : Wd}
theorem oG.mono (l : w.le w') : ∀ {vs : List (Option V)} {ds : List D}, oG K T w vs ds → oG K T w' vs ds
 | _, _, .nil => .nil
 | _, _, .hole t => .hole (t.mono l)
 | _, _, .cons r t => .cons (r.mono l) (t.mono l)
theorem oG.length : ∀ {vs : List (Option V)} {ds : List D}, oG K T w vs ds → vs.length = ds.length
 | _, _, .nil => rfl
 | _, _, .hole t => congrArg Nat.succ t.length
 | _, _, .cons _ t => congrArg Nat.succ t.length
def D.isHid : D → Bool
 | .hid _ => true
 | _ => false
theorem oG.get : ∀ {vs : List (Option V)} {ds : List D} {i : Nat} {d : D}, oG K T w vs ds → ds[i]? = some d → d.isHid = false → ∃ v, vs[i]? = some (some v) ∧ bO K T w v d
 | _, _, _, _, .nil, e, _ => by simp at e
 | _, _, 0, _, .hole _, e, hd => by
   simp at e
   subst e
   cases hd
 | _, _, 0, _, .cons r _, e, _ => by
   simp at e
   subst e
   exact ⟨_, rfl, r⟩
 | _, _, i + 1, _, .hole t, e, hd => t.get (i := i) (by simpa using e) hd
 | _, _, i + 1, _, .cons _ t, e, hd => t.get (i := i) (by simpa using e) hd
theorem oG.append : ∀ {vs us : List (Option V)} {ds es : List D}, oG K T w vs ds → oG K T w us es → oG K T w (vs ++ us) (ds ++ es)
 | _, _, _, _, .nil, t => t
 | _, _, _, _, .hole r, t => .hole (r.append t)
 | _, _, _, _, .cons h r, t => .cons h (r.append t)
theorem oG.set : ∀ {vs : List (Option V)} {ds : List D} {v : V} {d : D} (n : Nat), oG K T w vs ds → bO K T w v d → oG K T w (vs.set n (some v)) (ds.set n d)
 | _, _, _, _, _, .nil, _ => .nil
 | _, _, _, _, 0, .hole t, h => .cons h t
 | _, _, _, _, 0, .cons _ t, h => .cons h t
 | _, _, _, _, n + 1, .hole t, k => .hole (t.set n k)
 | _, _, _, _, n + 1, .cons h t, k => .cons h (t.set n k)
end
inductive qO (K : PySem.W.Frag) (T : Tb) (w : Wd) (a : Addr) : HO → D → Prop where
 | lst {vs : List V} {ds : List D} : az K T w vs ds → qO K T w a (.lst vs) (.nl ds)
 | obj {dx : Addr} {c : Nat} {vs : List V} {ds : List D} : az K T w vs ds → qO K T w a (.ins (T.cad c) dx ((T.fld c).zip vs)) (.no c ds)
 | dct {ks : List (List Key)} {vs : List V} {ds : List D} : ks.length = ds.length → az K T w vs ds → qO K T w a (.dT (ks.zip vs)) (.dc ks ds)
 | dkt {ks : List Key} {vs : List V} {ds : List D} : ks.length = ds.length → az K T w vs ds → qO K T w a (.dK (ks.zip vs)) (.dk ks ds)
 | so0 {dx : Addr} {c m : Nat} : w.I[m]? = some dx → qO K T w a (.ins (T.cad c) dx []) (.so c m [])
 | so1 {dx : Addr} {c m : Nat} {vs : List (Option V)} {d : D} {ds : List D} : w.I[m]? = some dx → oG K T w vs (d :: ds) → qO K T w a (SlX.SlO a (T.cad c) dx vs) (.so c m (d :: ds))
 | hid0 {x : Addr} : qO K T w a (.own x) (.hid false)
 | hid1 : qO K T w a (.xd []) (.hid true)
theorem sE.cel {K : PySem.W.Frag} {T : Tb} {w : Wd} {o : HO} {d : D} (a : Addr) (x : sE K T w o d) : qO K T w a o d := by
 cases x with
 | lst r => exact .lst r
 | obj r => exact .obj r
theorem qO.mono {K : PySem.W.Frag} {T : Tb} {w w' : Wd} {a : Addr} {o : HO} {d : D} (l : w.le w') (x : qO K T w a o d) : qO K T w' a o d := by
 cases x with
 | lst r => exact .lst (r.mono l)
 | obj r => exact .obj (r.mono l)
 | dct h r => exact .dct h (r.mono l)
 | dkt h r => exact .dkt h (r.mono l)
 | so0 h => exact .so0 (Wd.le_at l h)
 | so1 h r => exact .so1 (Wd.le_at l h) (r.mono l)
 | hid0 => exact .hid0
 | hid1 => exact .hid1
def Bh (K : PySem.W.Frag) (T : Tb) (w : Wd) (H : Hp) (a : Addr) (d : D) : Prop := ∃ o, H a = some o ∧ qO K T w a o d
def vq (σ : St) (fr : Fr) (i : Nat) (p : Addr) : Prop := σ[i]? = some (some (.ref p)) ∧ ∃ d, fr[i]? = some (some d) ∧ d.own = true
structure Rel (K : PySem.W.Frag) (T : Tb) (B : Bs) (w : Wd) (σ : St) (H : Hp) (fr : Fr) (h : Hh) : Prop where
 le : B.w0.le w
 nF : ∀ a, w.F a ≠ none → B.w0.F a ≠ none ∨ B.H0 a = none ∨ ∃ vs, B.H0 a = some (.tup vs)
 nI : ∀ a ∈ w.I, a ∈ B.w0.I ∨ B.H0 a = none
 keep : ∀ a o, B.H0 a = some o → a ∉ B.w0.I → H a = some o
 prot : ∀ q ∈ B.P, H q.1 = some q.2 ∧ w.F q.1 = none ∧ q.1 ∉ w.I
 sub : ∀ a o, w.F a = some o → H a = some o
 len : w.I.length = h.length
 nd : w.I.Nodup
 dis : ∀ a ∈ w.I, w.F a = none
 cel : ∀ (n : Nat) a c, w.I[n]? = some a → h[n]? = some c → Bh K T w H a c
 fl : fr.length = σ.length
 sl : ∀ (i : Nat) s d, σ[i]? = some s → fr[i]? = some d → Lq K T B w H s d
 sep : ∀ i j p, i ≠ j → vq σ fr i p → vq σ fr j p → False
 me : ∀ x d, B.me = some x → fr[0]? = some (some d) → d.own = true → σ[0]? = some (some (.ref x))
 pt : ∀ q ∈ B.P, ∀ vs, q.2 ≠ .tup vs
section
variable {K : PySem.W.Frag} {T : Tb} {B : Bs} {w w' : Wd} {σ : St} {H H' : Hp} {fr : Fr} {h : Hh}
theorem Rel.nP (R : Rel K T B w σ H fr h) {p : Addr} (np : H p = none) : w.F p = none ∧ p ∉ w.I ∧ (∀ q ∈ B.P, q.1 ≠ p) := by
 refine ⟨?_, fun hm => ?_, fun q hq e => ?_⟩
 · cases e : w.F p with
   | none => rfl
   | some o =>
     have := R.sub p o e
     rw [np] at this
     cases this
 · obtain ⟨n, hn, e⟩ := List.getElem_of_mem hm
   have hl : n < h.length := by rw [← R.len]; exact hn
   obtain ⟨o, q, _⟩ := R.cel n p h[n] (by rw [akX hn, e]) (akX hl)
   rw [np] at q
   cases q
 · have z := (R.prot q hq).1
   rw [e, np] at z
   cases z
theorem Rel.iSome (R : Rel K T B w σ H fr h) {a : Addr} (hm : a ∈ w.I) : H a ≠ none := fun np => (R.nP np).2.1 hm
theorem Bh.keep {a : Addr} {c : D} (x : w.le w') (e : H' a = H a) (z : Bh K T w H a c) : Bh K T w' H' a c := by
 obtain ⟨o, q, r⟩ := z
 exact ⟨o, by rw [e]; exact q, r.mono x⟩
theorem Rel.grow (R : Rel K T B w σ H fr h) (x : w.le w') (eI : w'.I = w.I) (hk : ∀ a o, H a = some o → H' a = some o) (hF : ∀ a o, w'.F a = some o → H' a = some o)
 (hn : ∀ a, w'.F a ≠ none → w.F a ≠ none ∨ H a = none) (he : ∀ a, H a = none → B.H0 a = none ∨ True) : Rel K T B w' σ H' fr h where
 le := Wd.le_trans R.le x
 nF := fun a ha => by
  rcases hn a ha with q | q
  · exact R.nF a q
  · right
    left
    cases e : B.H0 a with
    | none => rfl
    | some o =>
      by_cases hm : a ∈ B.w0.I
      · exact absurd q (R.iSome (Wd.le_mem R.le hm))
      · have := R.keep a o e hm
        rw [q] at this
        cases this
 nI := fun a ha => R.nI a (by rw [← eI]; exact ha)
 keep := fun a o e hm => hk a o (R.keep a o e hm)
 prot := fun q hq => by
  obtain ⟨h1, h2, h3⟩ := R.prot q hq
  refine ⟨hk _ _ h1, ?_, by rw [eI]; exact h3⟩
  cases e : w'.F q.1 with
  | none => rfl
  | some o =>
    rcases hn q.1 (by rw [e]; simp) with z | z
    · exact absurd h2 z
    · rw [h1] at z
      cases z
 sub := hF
 len := by rw [eI]; exact R.len
 nd := by rw [eI]; exact R.nd
 dis := fun a ha => by
  have hm : a ∈ w.I := by rw [← eI]; exact ha
  cases e : w'.F a with
  | none => rfl
  | some o =>
    rcases hn a (by rw [e]; simp) with z | z
    · exact absurd (R.dis a hm) z
    · exact absurd z (R.iSome hm)
 cel := fun n a c e1 e2 => by
  have e1' : w.I[n]? = some a := by rw [← eI]; exact e1
  have z := R.cel n a c e1' e2
  refine Bh.keep x ?_ z
  have hs := R.iSome (ald e1')
  cases q : H a with
  | none => exact absurd q hs
  | some o => exact hk a o q
 fl := R.fl
 sl := fun i s d e1 e2 => by
  have z := R.sl i s d e1 e2
  cases z with
  | none => exact .none
  | val r => exact .val (r.mono x)
  | own o e r =>
    refine .own ⟨?_, by rw [eI]; exact o.i, o.e, o.p⟩ (hk _ _ e) (r.mono x)
    cases q : w'.F _ with
    | none => rfl
    | some u =>
      rcases hn _ (by rw [q]; simp) with z | z
      · exact absurd o.f z
      · rw [e] at z
        cases z
 sep := R.sep
 me := R.me
 pt := R.pt
def Wd.add (w : Wd) (p : Addr) (o : HO) : Wd := ⟨upd w.F p o, w.I⟩
theorem Wd.le_add {p : Addr} {o : HO} (e : w.F p = none) : w.le (w.add p o) :=
 ⟨fun a u h => by
  show upd w.F p o a = some u
  rw [upd_ne (ne_of_none h e)]
  exact h, [], by simp [Wd.add]⟩
theorem Rel.laid (R : Rel K T B w σ H fr h) {p : Addr} {o : HO} (np : H p = none) : Rel K T B (w.add p o) σ (upd H p o) fr h := by
 refine R.grow (Wd.le_add (R.nP np).1) rfl (fun a u e => ?_) (fun a u e => ?_) (fun a e => ?_) (fun _ _ => .inr trivial)
 · rw [upd_ne (ne_of_none e np)]
   exact e
 · have e' : upd w.F p o a = some u := e
   by_cases ha : a = p
   · subst ha
     rw [upd_same] at e' ⊢
     exact e'
   · rw [upd_ne ha] at e' ⊢
     exact R.sub a u e'
 · have e' : upd w.F p o a ≠ none := e
   by_cases ha : a = p
   · subst ha
     exact .inr np
   · rw [upd_ne ha] at e'
     exact .inl e'
theorem Rel.temp (R : Rel K T B w σ H fr h) {p : Addr} {o : HO} (np : H p = none) : Rel K T B w σ (upd H p o) fr h :=
 R.grow (Wd.le_refl w) rfl (fun a u e => by rw [upd_ne (ne_of_none e np)]; exact e) (fun a u e => by rw [upd_ne (ne_of_none (R.sub a u e) np)]; exact R.sub a u e) (fun a e => .inl e) (fun _ _ => .inr trivial)
theorem Rel.own_new (R : Rel K T B w σ H fr h) {p : Addr} (np : H p = none) : Own B w p := by
 obtain ⟨h1, h2, h3⟩ := R.nP np
 refine ⟨h1, h2, ?_, h3⟩
 cases e : B.H0 p with
 | none => rfl
 | some o =>
   by_cases hm : p ∈ B.w0.I
   · exact absurd np (R.iSome (Wd.le_mem R.le hm))
   · have := R.keep p o e hm
     rw [np] at this
     cases this
def vz (σ : St) (fr : Fr) (p : Addr) : Prop := ∀ i, ¬ vq σ fr i p
theorem Rel.loose_new (R : Rel K T B w σ H fr h) {p : Addr} (np : H p = none) : vz σ fr p := fun i ⟨e1, d, e2, od⟩ => by
 have z := R.sl i _ _ e1 e2
 cases z with
 | val r => exact vW od r
 | own o e r =>
   rw [np] at e
   cases e
theorem Rel.freeze (R : Rel K T B w σ H fr h) {p : Addr} {o : HO} (O : Own B w p) (l : vz σ fr p) (e : H p = some o) : Rel K T B (w.add p o) σ H fr h where
 le := Wd.le_trans R.le (Wd.le_add O.f)
 nF := fun a ha => by
  have e' : upd w.F p o a ≠ none := ha
  by_cases hp : a = p
  · subst hp
    exact .inr (.inl O.e)
  · rw [upd_ne hp] at e'
    exact R.nF a e'
 nI := R.nI
 keep := R.keep
 prot := fun q hq => by
  obtain ⟨h1, h2, h3⟩ := R.prot q hq
  refine ⟨h1, ?_, h3⟩
  show upd w.F p o q.1 = none
  rw [upd_ne (O.p q hq)]
  exact h2
 sub := fun a u ha => by
  have e' : upd w.F p o a = some u := ha
  by_cases hp : a = p
  · subst hp
    rw [upd_same] at e'
    rw [← e']
    exact e
  · rw [upd_ne hp] at e'
    exact R.sub a u e'
 len := R.len
 nd := R.nd
 dis := fun a ha => by
  show upd w.F p o a = none
  have hne : a ≠ p := fun z => O.i (by rw [← z]; exact ha)
  rw [upd_ne hne]
  exact R.dis a ha
 cel := fun n a c e1 e2 => Bh.keep (Wd.le_add O.f) rfl (R.cel n a c e1 e2)
 fl := R.fl
 sl := fun i s d e1 e2 => by
  have z := R.sl i s d e1 e2
  cases z with
  | none => exact .none
  | val r => exact .val (r.mono (Wd.le_add O.f))
  | @own q _ _ o' e' r =>
    refine .own ⟨?_, o'.i, o'.e, o'.p⟩ e' (r.mono (Wd.le_add O.f))
    show upd w.F p o q = none
    have hne : q ≠ p := fun z => l i ⟨by rw [← z]; exact e1, _, e2, r.own⟩
    rw [upd_ne hne]
    exact o'.f
 sep := R.sep
 me := R.me
 pt := R.pt
theorem JQ {σ : St} {fr : Fr} {i j : Nat} {s : Option V} {d : Option D} {p : Addr} (hi : i ≠ j) (o : vq (σ.set j s) (fr.set j d) i p) : vq σ fr i p := by
 obtain ⟨e1, dd, e2, od⟩ := o
 rw [ak7 (Ne.symm hi)] at e1 e2
 exact ⟨e1, dd, e2, od⟩
theorem Rel.set_slot (R : Rel K T B w σ H fr h) {i : Nat} {s : Option V} {d : Option D} (r : Lq K T B w H s d) (hp : ∀ p d', s = some (.ref p) → d = some d' → d'.own = true → vz σ fr p) (hm : i = 0 → ∀ d', d = some d' → d'.own = false) : Rel K T B w (σ.set i s) H (fr.set i d) h :=
 { R with
   me := fun x d' bx e od => by
    by_cases hi : i = 0
    · subst hi
      have l2 : 0 < fr.length := by
       have := (List.getElem?_eq_some_iff.mp e).1
       rwa [ak8] at this
      rw [ak9 l2] at e
      rw [hm rfl d' (Option.some.inj e)] at od
      cases od
    · rw [ak7 hi] at e ⊢
      exact R.me x d' bx e od
   fl := by rw [ak8, ak8]; exact R.fl
   sl := fun j s' d' e1 e2 => by
    by_cases hj : i = j
    · subst hj
      have l1 : i < σ.length := by
       have := (List.getElem?_eq_some_iff.mp e1).1
       rwa [ak8] at this
      rw [ak9 l1] at e1
      rw [ak9 (by rw [R.fl]; exact l1)] at e2
      cases e1
      cases e2
      exact r
    · rw [ak7 hj] at e1 e2
      exact R.sl j s' d' e1 e2
   sep := fun a b p hab o1 o2 => by
    have key : ∀ a b, a ≠ b → a = i → vq (σ.set i s) (fr.set i d) a p → vq (σ.set i s) (fr.set i d) b p → False := fun a b hab ha o1 o2 => by
     subst ha
     have o2' := JQ (Ne.symm hab) o2
     obtain ⟨e1, dd, e2, od⟩ := o1
     have l1 : a < σ.length := by
      have := (List.getElem?_eq_some_iff.mp e1).1
      rwa [ak8] at this
     rw [ak9 l1] at e1
     rw [ak9 (by rw [R.fl]; exact l1)] at e2
     cases e1
     cases e2
     exact hp p dd rfl rfl od b o2'
    by_cases ha : a = i
    · exact key a b hab ha o1 o2
    · by_cases hb : b = i
      · exact key b a (Ne.symm hab) hb o2 o1
      · exact R.sep a b p hab (JQ ha o1) (JQ hb o2) }
theorem Rel.drop_slot (R : Rel K T B w σ H fr h) (i : Nat) : Rel K T B w σ H (fr.set i none) h :=
 { R with
   me := fun x d' bx e od => by
    by_cases hi : i = 0
    · subst hi
      have l2 : 0 < fr.length := by
       have := (List.getElem?_eq_some_iff.mp e).1
       rwa [ak8] at this
      rw [ak9 l2] at e
      cases e
    · rw [ak7 hi] at e
      exact R.me x d' bx e od
   fl := by rw [ak8]; exact R.fl
   sl := fun j s' d' e1 e2 => by
    by_cases hj : i = j
    · subst hj
      have l2 : i < fr.length := by
       have := (List.getElem?_eq_some_iff.mp e2).1
       rwa [ak8] at this
      rw [ak9 l2] at e2
      cases e2
      exact .none
    · rw [ak7 hj] at e2
      exact R.sl j s' d' e1 e2
   sep := fun a b p hab o1 o2 => by
    have key : ∀ a, vq σ (fr.set i none) a p → vq σ fr a p := fun a o => by
     obtain ⟨e1, dd, e2, od⟩ := o
     by_cases ha : i = a
     · subst ha
       have l2 : i < fr.length := by
        have := (List.getElem?_eq_some_iff.mp e2).1
        rwa [ak8] at this
       rw [ak9 l2] at e2
       cases e2
     · rw [ak7 ha] at e2
       exact ⟨e1, dd, e2, od⟩
    exact R.sep a b p hab (key a o1) (key b o2) }
theorem Rel.freeze_slot (R : Rel K T B w σ H fr h) {i : Nat} {d : D} (e : fr[i]? = some (some d)) (od : d.own = true) :
 ∃ p o, σ[i]? = some (some (.ref p)) ∧ H p = some o ∧ sE K T w o d ∧ w.F p = none ∧ Rel K T B (w.add p o) σ H (fr.set i (some d.fz)) h := by
 have l2 : i < fr.length := (List.getElem?_eq_some_iff.mp e).1
 have l1 : i < σ.length := by rw [← R.fl]; exact l2
 have e1 : σ[i]? = some σ[i] := akX l1
 have z := R.sl i _ _ e1 e
 generalize hs : σ[i] = s at z e1
 cases z with
 | val r => exact (vW od r).elim
 | @own p o _ O eH r =>
   refine ⟨p, o, e1, eH, r, O.f, ?_⟩
   have R1 := R.drop_slot i
   have lo : vz σ (fr.set i none) p := fun j q => by
    obtain ⟨q1, dq, q2, oq⟩ := q
    by_cases hj : i = j
    · subst hj
      rw [ak9 l2] at q2
      cases q2
    · rw [ak7 hj] at q2
      exact R.sep i j p hj ⟨e1, d, e, od⟩ ⟨q1, dq, q2, oq⟩
   have R2 := R1.freeze O lo eH
   have R3 := R2.set_slot (i := i) (s := some (.ref p)) (d := some d.fz) (.val (r.fz (Wd.le_add O.f) (by show upd w.F p _ p = _; rw [upd_same]))) (fun _ _ _ q oq => by
    cases q
    rw [YH] at oq
    cases oq) (fun _ d' q => by
    cases q
    exact YH d)
   rw [List.set_set] at R3
   have es : σ.set i (some (.ref p)) = σ := by
    have := List.set_getElem_self (as := σ) (h := l1)
    rw [hs] at this
    exact this
   rw [es] at R3
   exact R3
theorem Nv {α : Type} : ∀ {l : List α} {i j : Nat} {a : α}, l.Nodup → l[i]? = some a → l[j]? = some a → i = j
 | [], _, _, _, _, e, _ => by simp at e
 | b :: l, 0, 0, _, _, _, _ => rfl
 | b :: l, 0, j + 1, a, n, e1, e2 => by
   simp at e1 e2
   subst e1
   exact absurd (ald e2) (List.nodup_cons.mp n).1
 | b :: l, i + 1, 0, a, n, e1, e2 => by
   simp at e1 e2
   subst e2
   exact absurd (ald e1) (List.nodup_cons.mp n).1
 | b :: l, i + 1, j + 1, a, n, e1, e2 => by
   simp at e1 e2
   rw [Nv (List.nodup_cons.mp n).2 e1 e2]
theorem Rel.change_slot (R : Rel K T B w σ H fr h) {i : Nat} {d d' : D} {p : Addr} {o o' : HO} (e1 : σ[i]? = some (some (.ref p))) (e : fr[i]? = some (some d)) (O : Own B w p) (eH : H p = some o) (od : d.own = true) (r' : sE K T w o' d') :
 Rel K T B w σ (upd H p o') (fr.set i (some d')) h := by
 have l2 : i < fr.length := (List.getElem?_eq_some_iff.mp e).1
 have l1 : i < σ.length := by rw [← R.fl]; exact l2
 refine { R with keep := fun a u ha hm => ?_, prot := fun q hq => ?_, sub := fun a u ha => ?_, cel := fun n a c q1 q2 => ?_, fl := by rw [ak8]; exact R.fl, sl := fun j s dj q1 q2 => ?_, sep := fun a b q hab o1 o2 => ?_, me := fun x dx bx q od' => ?_ }
 · rw [upd_ne (fun z => by rw [z, O.e] at ha; cases ha)]
   exact R.keep a u ha hm
 · obtain ⟨h1, h2, h3⟩ := R.prot q hq
   exact ⟨by rw [upd_ne (O.p q hq)]; exact h1, h2, h3⟩
 · rw [upd_ne (fun z => by rw [z, O.f] at ha; cases ha)]
   exact R.sub a u ha
 · refine Bh.keep (Wd.le_refl w) ?_ (R.cel n a c q1 q2)
   exact upd_ne (fun z => O.i (z ▸ ald q1))
 · by_cases hj : i = j
   · subst hj
     rw [e1] at q1
     rw [ak9 l2] at q2
     cases q1
     cases q2
     exact .own O upd_same r'
   · rw [ak7 hj] at q2
     have z := R.sl j s dj q1 q2
     cases z with
     | none => exact .none
     | val r => exact .val r
     | @own q u _ O' eH' rr =>
       refine .own O' ?_ rr
       have hne : q ≠ p := fun z => R.sep i j p hj ⟨e1, d, e, od⟩ ⟨by rw [← z]; exact q1, _, q2, rr.own⟩
       rw [upd_ne hne]
       exact eH'
 · have key : ∀ a, vq σ (fr.set i (some d')) a q → vq σ fr a q := fun a ⟨q1, dq, q2, oq⟩ => by
    by_cases ha : i = a
    · subst ha
      exact ⟨q1, d, e, od⟩
    · rw [ak7 ha] at q2
      exact ⟨q1, dq, q2, oq⟩
   exact R.sep a b q hab (key a o1) (key b o2)
 · by_cases hi : i = 0
   · subst hi
     exact R.me x d bx e od
   · rw [ak7 hi] at q
     exact R.me x dx bx q od'
theorem Rel.change_cell (R : Rel K T B w σ H fr h) {n : Nat} {a : Addr} {d d' : D} {o' : HO} (e1 : w.I[n]? = some a) (e : h[n]? = some d) (r' : qO K T w a o' d') : Rel K T B w σ (upd H a o') fr (h.set n d') := by
 have hm : a ∈ w.I := ald e1
 have lh : n < h.length := (List.getElem?_eq_some_iff.mp e).1
 refine { R with keep := fun b u hb hn => ?_, prot := fun q hq => ?_, sub := fun b u hb => ?_, len := by rw [ak8]; exact R.len, cel := fun k b c q1 q2 => ?_, sl := fun j s dj q1 q2 => ?_ }
 · rw [upd_ne (fun z => by
    subst z
    rcases R.nI _ hm with q | q
    · exact hn q
    · rw [q] at hb
      cases hb)]
   exact R.keep b u hb hn
 · obtain ⟨h1, h2, h3⟩ := R.prot q hq
   have hne : q.1 ≠ a := fun z => h3 (by rw [z]; exact hm)
   exact ⟨by rw [upd_ne hne]; exact h1, h2, h3⟩
 · rw [upd_ne (fun z => by rw [z, R.dis a hm] at hb; cases hb)]
   exact R.sub b u hb
 · by_cases hk : n = k
   · subst hk
     rw [e1] at q1
     rw [ak9 lh] at q2
     cases q1
     cases q2
     exact ⟨o', upd_same, r'⟩
   · rw [ak7 hk] at q2
     refine Bh.keep (Wd.le_refl w) (upd_ne fun z => ?_) (R.cel k b c q1 q2)
     subst z
     exact hk (Nv R.nd e1 q1)
 · have z := R.sl j s dj q1 q2
   cases z with
   | none => exact .none
   | val r => exact .val r
   | @own q u _ O' eH' rr =>
     have hne : q ≠ a := fun z => O'.i (by rw [z]; exact hm)
     exact .own O' (by rw [upd_ne hne]; exact eH') rr
theorem Rel.to_cellO (R : Rel K T B w σ H fr h) {p : Addr} {o : HO} {d : D} (O : Own B w p) (lo : vz σ fr p) (e : H p = some o) (r : qO K T w p o d) : Rel K T B ⟨w.F, w.I ++ [p]⟩ σ H fr (h ++ [d]) := by
 have le : w.le ⟨w.F, w.I ++ [p]⟩ := ⟨fun _ _ q => q, [p], rfl⟩
 refine ⟨Wd.le_trans R.le le, R.nF, fun a ha => ?_, R.keep, fun q hq => ?_, R.sub, ?_, ?_, fun a ha => ?_, fun n a c q1 q2 => ?_, R.fl, fun j s dj q1 q2 => ?_, R.sep, R.me, R.pt⟩
 · rcases List.mem_append.mp ha with q | q
   · exact R.nI a q
   · rw [List.mem_singleton] at q
     subst q
     exact .inr O.e
 · obtain ⟨h1, h2, h3⟩ := R.prot q hq
   refine ⟨h1, h2, fun z => ?_⟩
   rcases List.mem_append.mp z with y | y
   · exact h3 y
   · rw [List.mem_singleton] at y
     exact O.p q hq y
 · show (w.I ++ [p]).length = (h ++ [d]).length
   rw [ak3, ak3, R.len]
   rfl
 · show (w.I ++ [p]).Nodup
   rw [List.nodup_append]
   exact ⟨R.nd, by simp, fun a ha b hb => by
    rw [List.mem_singleton] at hb
    subst hb
    exact fun z => O.i (z ▸ ha)⟩
 · rcases List.mem_append.mp ha with q | q
   · exact R.dis a q
   · rw [List.mem_singleton] at q
     subst q
     exact O.f
 · have q1' : (w.I ++ [p])[n]? = some a := q1
   by_cases hn : n < w.I.length
   · rw [alk hn] at q1'
     rw [alk (by rw [← R.len]; exact hn)] at q2
     exact Bh.keep le rfl (R.cel n a c q1' q2)
   · have hn' : w.I.length ≤ n := Nat.le_of_not_lt hn
     rw [ali hn'] at q1'
     rw [ali (by rw [← R.len]; exact hn'), ← R.len] at q2
     cases k : n - w.I.length with
     | zero =>
       rw [k] at q1' q2
       cases q1'
       cases q2
       exact ⟨o, e, r.mono le⟩
     | succ m =>
       rw [k] at q1'
       simp at q1'
 · have z := R.sl j s dj q1 q2
   cases z with
   | none => exact .none
   | val r => exact .val (r.mono le)
   | @own q u _ O' eH' rr =>
     refine .own ⟨O'.f, fun z => ?_, O'.e, O'.p⟩ eH' (rr.mono le)
     rcases List.mem_append.mp z with y | y
     · exact O'.i y
     · rw [List.mem_singleton] at y
       exact lo j ⟨by rw [← y]; exact q1, _, q2, rr.own⟩
theorem Rel.to_cell (R : Rel K T B w σ H fr h) {p : Addr} {o : HO} {d : D} (O : Own B w p) (lo : vz σ fr p) (e : H p = some o) (r : sE K T w o d) : Rel K T B ⟨w.F, w.I ++ [p]⟩ σ H fr (h ++ [d]) := R.to_cellO O lo e (r.cel p)
theorem Pb {i : Nat} {p : Addr} : ¬ vq [] [] i p := fun ⟨q, _⟩ => by simp at q
theorem Rel.enter (R : Rel K T B w σ H fr h) : Rel K T (Bs.of w H) w [] H [] h where
 le := Wd.le_refl w
 nF := fun _ q => .inl q
 nI := fun _ q => .inl q
 keep := fun _ _ q _ => q
 prot := fun _ q => by cases q
 sub := R.sub
 len := R.len
 nd := R.nd
 dis := R.dis
 cel := R.cel
 fl := rfl
 sl := fun _ _ _ q => by simp at q
 sep := fun _ _ _ _ q => (Pb q).elim
 me := fun _ _ _ q _ => by simp at q
 pt := fun _ q => by cases q
theorem Rel.unframe (R : Rel K T B w σ H fr h) : Rel K T B w [] H [] h where
 le := R.le
 nF := R.nF
 nI := R.nI
 keep := R.keep
 prot := R.prot
 sub := R.sub
 len := R.len
 nd := R.nd
 dis := R.dis
 cel := R.cel
 fl := rfl
 sl := fun _ _ _ q => by simp at q
 sep := fun _ _ _ _ q => (Pb q).elim
 me := fun _ _ _ q _ => by simp at q
 pt := R.pt
theorem qO.no_tup {a : Addr} {vs : List V} {c : D} (z : qO K T w a (.tup vs) c) : False := by cases z
theorem Rel.no_cell (R : Rel K T B w σ H fr h) {a : Addr} {vs : List V} (e : H a = some (.tup vs)) (hm : a ∈ w.I) : False := by
 obtain ⟨n, hn, q⟩ := List.getElem_of_mem hm
 have hl : n < h.length := by rw [← R.len]; exact hn
 obtain ⟨o, q1, r⟩ := R.cel n a h[n] (by rw [akX hn, q]) (akX hl)
 rw [e] at q1
 cases q1
 exact r.no_tup
theorem Rel.old_tup (R : Rel K T B w σ H fr h) {a : Addr} {vs : List V} (q : H a = some (.tup vs)) : B.w0.F a ≠ none ∨ B.H0 a = none ∨ ∃ vs, B.H0 a = some (.tup vs) := by
 right
 cases e : B.H0 a with
 | none => exact .inl rfl
 | some o =>
   by_cases hm : a ∈ B.w0.I
   · exact (R.no_cell q (Wd.le_mem R.le hm)).elim
   · have := R.keep a o e hm
     rw [q] at this
     exact .inr ⟨vs, this.symm⟩
theorem Rel.adopt (R : Rel K T B w σ H fr h) {b : Addr} {vs : List V} (e : H b = some (.tup vs)) : w.le (w.add b (.tup vs)) ∧ Rel K T B (w.add b (.tup vs)) σ H fr h := by
 have le : w.le (w.add b (.tup vs)) := ⟨fun a o q => by
  show upd w.F b (.tup vs) a = some o
  by_cases hb : a = b
  · rw [hb, upd_same]
    have := R.sub a o q
    rw [hb, e] at this
    exact this
  · rw [upd_ne hb]
    exact q, [], by simp [Wd.add]⟩
 have nb : b ∉ w.I := fun z => R.no_cell e z
 refine ⟨le, ⟨Wd.le_trans R.le le, fun a ha => ?_, R.nI, R.keep, fun q hq => ?_, fun a o ha => ?_, R.len, R.nd, fun a ha => ?_, fun n a c q1 q2 => Bh.keep le rfl (R.cel n a c q1 q2), R.fl, fun j s d q1 q2 => ?_, R.sep, R.me, R.pt⟩⟩
 · have ha' : upd w.F b (.tup vs) a ≠ none := ha
   by_cases hb : a = b
   · rw [hb]
     exact R.old_tup e
   · rw [upd_ne hb] at ha'
     exact R.nF a ha'
 · obtain ⟨h1, h2, h3⟩ := R.prot q hq
   refine ⟨h1, ?_, h3⟩
   show upd w.F b (.tup vs) q.1 = none
   by_cases hb : q.1 = b
   · rw [hb, e] at h1
     exact absurd (Option.some.inj h1).symm (R.pt q hq vs)
   · rw [upd_ne hb]
     exact h2
 · have ha' : upd w.F b (.tup vs) a = some o := ha
   by_cases hb : a = b
   · rw [hb, upd_same] at ha'
     rw [hb, e]
     exact ha'
   · rw [upd_ne hb] at ha'
     exact R.sub a o ha'
 · show upd w.F b (.tup vs) a = none
   rw [upd_ne (fun z => nb (by rw [← z]; exact ha))]
   exact R.dis a ha
 · have z := R.sl j s d q1 q2
   cases z with
   | none => exact .none
   | val r => exact .val (r.mono le)
   | @own p o _ O eH rr =>
     refine .own ⟨?_, O.i, O.e, O.p⟩ eH (rr.mono le)
     show upd w.F b (.tup vs) p = none
     by_cases hb : p = b
     · rw [hb, e] at eH
       cases eH
       cases rr
     · rw [upd_ne hb]
       exact O.f
theorem Rel.back {h' : Hh} (R : Rel K T B w σ H fr h) (x : w.le w') (C : Rel K T (Bs.of w H) w' [] H' [] h') : Rel K T B w' σ H' fr h' where
 le := Wd.le_trans R.le x
 nF := fun a ha => by
  rcases C.nF a ha with q | q | ⟨vs, q⟩
  · exact R.nF a q
  · exact .inr (.inl (R.own_new q).e)
  · exact R.old_tup q
 nI := fun a ha => by
  rcases C.nI a ha with q | q
  · exact R.nI a q
  · exact .inr (R.own_new q).e
 keep := fun a o e hm => C.keep a o (R.keep a o e hm) fun z => by
  rcases R.nI a z with q | q
  · exact hm q
  · rw [q] at e
    cases e
 prot := fun q hq => by
  obtain ⟨h1, h2, h3⟩ := R.prot q hq
  refine ⟨C.keep _ _ h1 h3, ?_, fun z => ?_⟩
  · cases e : w'.F q.1 with
    | none => rfl
    | some o =>
      rcases C.nF q.1 (by rw [e]; simp) with y | y | ⟨vs, y⟩
      · exact absurd h2 y
      · have y' : H q.1 = none := y
        rw [h1] at y'
        cases y'
      · have y' : H q.1 = some (.tup vs) := y
        rw [h1] at y'
        exact absurd (Option.some.inj y') (R.pt q hq vs)
  · rcases C.nI _ z with y | y
    · exact h3 y
    · have y' : H q.1 = none := y
      rw [h1] at y'
      cases y'
 sub := C.sub
 len := C.len
 nd := C.nd
 dis := C.dis
 cel := C.cel
 fl := R.fl
 sl := fun i s d e1 e2 => by
  have z := R.sl i s d e1 e2
  cases z with
  | none => exact .none
  | val r => exact .val (r.mono x)
  | @own p o _ O eH rr =>
    refine .own ⟨?_, fun z => ?_, O.e, O.p⟩ (C.keep _ _ eH O.i) (rr.mono x)
    · cases e : w'.F p with
      | none => rfl
      | some o =>
        rcases C.nF p (by rw [e]; simp) with y | y | ⟨vs, y⟩
        · exact absurd O.f y
        · have y' : H p = none := y
          rw [eH] at y'
          cases y'
        · have y' : H p = some (.tup vs) := y
          rw [eH] at y'
          cases y'
          cases rr
    · rcases C.nI _ z with y | y
      · exact O.i y
      · have y' : H p = none := y
        rw [eH] at y'
        cases y'
 sep := R.sep
 me := R.me
 pt := R.pt
end
end Pk
namespace Pk
open PySem PySem.Spec L2
structure aH where
 c : Nat
 fs : List D
inductive R (α : Type) where
 | ok (a : α) (fr : Fr) (h : Hh)
 | exc (x : aH) (fr : Fr) (h : Hh)
 | err
abbrev M (α : Type) := Fr → Hh → R α
def M.ret {α : Type} (a : α) : M α := fun fr h => .ok a fr h
def M.bind {α β : Type} (m : M α) (f : α → M β) : M β := fun fr h => match m fr h with
 | .ok a fr h => f a fr h
 | .exc x fr h => .exc x fr h
 | .err => .err
def M.opt {α : Type} (o : Option α) : M α := fun fr h => match o with
 | some a => .ok a fr h
 | none => .err
@[simp] theorem M.bind_ret {α β : Type} (a : α) (f : α → M β) : (M.ret a).bind f = f a := rfl
@[simp] theorem M.ret_ap {α : Type} (a : α) (fr : Fr) (h : Hh) : M.ret a fr h = .ok a fr h := rfl
@[simp] theorem M.opt_some {α : Type} (a : α) (fr : Fr) (h : Hh) : M.opt (some a) fr h = .ok a fr h := rfl
@[simp] theorem M.opt_none {α : Type} (fr : Fr) (h : Hh) : M.opt (none : Option α) fr h = .err := rfl
theorem M.bind_ok {α β : Type} {m : M α} {f : α → M β} {fr fr1 : Fr} {h h1 : Hh} {a : α} (e : m fr h = .ok a fr1 h1) : m.bind f fr h = f a fr1 h1 := by
 unfold M.bind
 rw [e]
theorem M.bind_exc {α β : Type} {m : M α} {f : α → M β} {fr fr1 : Fr} {h h1 : Hh} {x : aH} (e : m fr h = .exc x fr1 h1) : m.bind f fr h = .exc x fr1 h1 := by
 unfold M.bind
 rw [e]
theorem M.bind_err {α β : Type} {m : M α} {f : α → M β} {fr : Fr} {h : Hh} (e : m fr h = .err) : m.bind f fr h = .err := by
 unfold M.bind
 rw [e]
def QH (K : PySem.W.Frag) (T : Tb) (w : Wd) (x : aH) (cls : Value) (dd : Option Addr) : Prop :=
 cls = .ref (T.cad x.c) ∧ ((x.fs = [] ∧ dd = none) ∨ ∃ d vs, dd = some d ∧ w.F d = some (.xd ((T.fld x.c).zip vs)) ∧ az K T w vs x.fs)
section
variable {α β : Type}
def aZ (K : PySem.W.Frag) (T : Tb) (B : Bs) (W : WX) (VR : Wd → Hp → Fr → β → α → Prop) (w : Wd) (σ : L2.St) (r : R α) (Q : β → Hp → Prop) : Prop :=
 match r with
 | .ok d fr h => ∀ w' H' v, w.le w' → Rel K T B w' σ H' fr h → VR w' H' fr v d → Q v H'
 | .exc x fr h => ∀ w' H' cls dd, w.le w' → Rel K T B w' σ H' fr h → QH K T w' x cls dd → W cls dd σ H'
 | .err => False
end
abbrev kE (β α : Type) := PySem.W.Frag → Tb → Bs → L2.St → Wd → Hp → Fr → β → α → Prop
def vV : kE V D := fun K T _ _ w _ _ v d => bO K T w v d
def vE : kE V D := fun K T B σ w H fr v d => bO K T w v d ∨ ∃ p o, v = .ref p ∧ Own B w p ∧ vz σ fr p ∧ H p = some o ∧ sE K T w o d
def vO : kE V D := fun K T _ _ w H _ v d => bO K T w v d ∨ ∃ p o, v = .ref p ∧ H p = some o ∧ sE K T w o d
def vB : kE Bool Bool := fun _ _ _ _ _ _ _ b c => b = c
def vA : kE (List V) (List D) := fun K T _ _ w _ _ vs ds => az K T w vs ds
def jA {α β : Type} (run : L2.St → Hp → (β → Hp → Prop) → Prop) (K : PySem.W.Frag) (T : Tb) (W : WX) (VR : kE β α) (m : M α) : Prop :=
 ∀ (B : Bs) (w : Wd) (σ : L2.St) (H : Hp) (fr : Fr) (h : Hh) (Q : β → Hp → Prop), Rel K T B w σ H fr h → aZ K T B W (VR K T B σ) w σ (m fr h) Q → run σ H Q
section
variable {α β γ δ : Type} {K : PySem.W.Frag} {T : Tb} {B : Bs} {W : WX} {w w' : Wd} {σ : L2.St} {H : Hp}
theorem aZ.le {VR : Wd → Hp → Fr → β → α → Prop} {r : R α} {Q : β → Hp → Prop} (x : w.le w') (p : aZ K T B W VR w σ r Q) : aZ K T B W VR w' σ r Q := by
 cases r with
 | ok d fr h => exact fun w2 H2 v y => p w2 H2 v (Wd.le_trans x y)
 | exc e fr h => exact fun w2 H2 c d y => p w2 H2 c d (Wd.le_trans x y)
 | err => exact p
theorem aZ.imp {VR : Wd → Hp → Fr → β → α → Prop} {r : R α} {Q Q' : β → Hp → Prop} (p : aZ K T B W VR w σ r Q) (hq : ∀ v H, Q v H → Q' v H) : aZ K T B W VR w σ r Q' := by
 cases r with
 | ok d fr h => exact fun w2 H2 v y r z => hq _ _ (p w2 H2 v y r z)
 | exc e fr h => exact p
 | err => exact p
theorem aZ.bind {VR : Wd → Hp → Fr → γ → δ → Prop} {VR' : Wd → Hp → Fr → β → α → Prop} {m : M δ} {f : δ → M α} {fr : Fr} {h : Hh} {Q : β → Hp → Prop} {Q' : γ → Hp → Prop} (p : aZ K T B W VR' w σ (m.bind f fr h) Q)
 (k : ∀ d fr1 h1 w1 H1 v, m fr h = .ok d fr1 h1 → w.le w1 → Rel K T B w1 σ H1 fr1 h1 → VR w1 H1 fr1 v d → aZ K T B W VR' w1 σ (f d fr1 h1) Q → Q' v H1) : aZ K T B W VR w σ (m fr h) Q' := by
 cases e : m fr h with
 | ok d fr1 h1 =>
   rw [M.bind_ok e] at p
   exact fun w1 H1 v x r z => k d fr1 h1 w1 H1 v e x r z (p.le x)
 | exc y fr1 h1 =>
   rw [M.bind_exc e] at p
   exact p
 | err =>
   rw [M.bind_err e] at p
   exact p
theorem jA.bind {run1 : L2.St → Hp → (γ → Hp → Prop) → Prop} {run2 : γ → L2.St → Hp → (β → Hp → Prop) → Prop} {VR1 : kE γ δ} {VR : kE β α} {m : M δ} {f : δ → M α} (s1 : jA run1 K T W VR1 m)
 (s2 : ∀ B w σ H fr h d v Q, Rel K T B w σ H fr h → VR1 K T B σ w H fr v d → aZ K T B W (VR K T B σ) w σ (f d fr h) Q → run2 v σ H Q) :
 jA (fun σ H Q => run1 σ H fun v H1 => run2 v σ H1 Q) K T W VR (m.bind f) := fun B w σ H fr h Q r p =>
 s1 B w σ H fr h _ r (p.bind fun d fr1 h1 w1 H1 v e x r1 z p1 => s2 B w1 σ H1 fr1 h1 d v Q r1 z p1)
end
structure WE (X : Cx) (e : Expr) (σ : L2.St) (H : Hp) (Q : VK) : Prop where
 go : ∀ pins s, Inv X pins σ H s → wpAny (model X.prog X.w) X.A (eval e X.env) (EP X pins σ Q) X.xe s
structure WT (X : Cx) (e : Expr) (σ : L2.St) (H : Hp) (Q : Bool → Hp → Prop) : Prop where
 go : ∀ pins s, Inv X pins σ H s → wpAny (model X.prog X.w) X.A (isTrue e X.env (eval e X.env)) (TP X pins σ Q) X.xe s
structure WW (X : Cx) (e : Expr) (σ : L2.St) (H : Hp) (Q : Bool → Hp → Prop) : Prop where
 go : ∀ whole pins s, Inv X pins σ H s → wpAny (model X.prog X.w) X.A (isTrue e X.env whole) (TP X pins σ Q) X.xe s
structure WA (X : Cx) (es : List Expr) (σ : L2.St) (H : Hp) (Q : List V → Hp → Prop) : Prop where
 go : ∀ pos pins s, Inv X pins σ H s → wpAny (model X.prog X.w) X.A (spliced (backTo pos (starEach es X.env))) (AP X pins σ Q) X.xe s
structure WS (X : Cx) (st : Stmt) (D : Ends) (σ : L2.St) (H : Hp) : Prop where
 go : ∀ pins s, Inv X pins σ H s → wpAny (model X.prog X.w) X.A (exec st X.env) (SP X pins D) X.xe s
structure YJ (X : Cx) (st : List Stmt) (D : Ends) (σ : L2.St) (H : Hp) : Prop where
 go : ∀ pins s, Inv X pins σ H s → wpAny (model X.prog X.w) X.A (execs st X.env) (SP X pins D) X.xe s
def rM (X : Cx) (f : Value → Value → Sem Value) : R2 := fun x y H Q => ∀ pins s σ v u, Inv X pins σ H s → RelV x v → RelV y u → wpAny (model X.prog X.w) X.A (f v u) (EP X pins σ Q) X.xe s
def uM (X : Cx) (f : Value → Sem Value) : V → Hp → VK → Prop := fun x H Q => ∀ pins s σ v, Inv X pins σ H s → RelV x v → wpAny (model X.prog X.w) X.A (f v) (EP X pins σ Q) X.xe s
def cM (X : Cx) (f : Value) : List V → Hp → VK → Prop := fun xs H Q => ∀ pins s σ us, Inv X pins σ H s → Vals xs us → wpAny (model X.prog X.w) X.A (call f us) (EP X pins σ Q) X.xe s
section
variable {X : Cx} {e : Expr} {es : List Expr} {st : Stmt} {sts : List Stmt}
theorem bF : PE X e (WE X e) := ⟨fun pins s σ H Q I h => h.go pins s I⟩
theorem wD : PT X e (WT X e) := ⟨fun pins s σ H Q I h => h.go pins s I⟩
theorem T6 : PW X e (WW X e) := ⟨fun wh pins s σ H Q I h => h.go wh pins s I⟩
theorem JR : PA X es (WA X es) := ⟨fun pos pins s σ H Q I h => h.go pos pins s I⟩
theorem YK : PS X st (WS X st) := ⟨fun pins s σ H D I h => h.go pins s I⟩
theorem ye : PSs X sts (YJ X sts) := ⟨fun pins s σ H D I h => h.go pins s I⟩
theorem eV {t : TE} (p : PE X e t) {σ : L2.St} {H : Hp} {Q : VK} (h : t σ H Q) : WE X e σ H Q := ⟨fun pins s I => p.run pins s σ H Q I h⟩
theorem Tj {t : TT} (p : PT X e t) {σ : L2.St} {H : Hp} {Q : Bool → Hp → Prop} (h : t σ H Q) : WT X e σ H Q := ⟨fun pins s I => p.run pins s σ H Q I h⟩
theorem Tn {t : TT} (p : PW X e t) {σ : L2.St} {H : Hp} {Q : Bool → Hp → Prop} (h : t σ H Q) : WW X e σ H Q := ⟨fun wh pins s I => p.run wh pins s σ H Q I h⟩
theorem Tq {t : TA} (p : PA X es t) {σ : L2.St} {H : Hp} {Q : List V → Hp → Prop} (h : t σ H Q) : WA X es σ H Q := ⟨fun pos pins s I => p.run pos pins s σ H Q I h⟩
theorem qp {t : TS} (p : PS X st t) {D : Ends} {σ : L2.St} {H : Hp} (h : t D σ H) : WS X st D σ H := ⟨fun pins s I => p.run pins s σ H D I h⟩
theorem QJ {t : TS} (p : PSs X sts t) {D : Ends} {σ : L2.St} {H : Hp} (h : t D σ H) : YJ X sts D σ H := ⟨fun pins s I => p.run pins s σ H D I h⟩
theorem JS {f : Value → Value → Sem Value} : OpR X f (rM X f) := fun pins s σ H x y v u Q I rx ry h => h pins s σ v u I rx ry
theorem wF {f : Value → Value → Sem Value} {r : R2} (o : OpR X f r) {x y : V} {H : Hp} {Q : VK} (h : r x y H Q) : rM X f x y H Q := fun pins s σ v u I rx ry => o pins s σ H x y v u Q I rx ry h
theorem adz {f : Value → Sem Value} : UnR X f (uM X f) := fun pins s σ H x v Q I rx h => h pins s σ v I rx
theorem afd {f : Value → Sem Value} {r : V → Hp → VK → Prop} (o : UnR X f r) {x : V} {H : Hp} {Q : VK} (h : r x H Q) : uM X f x H Q := fun pins s σ v I rx => o pins s σ H x v Q I rx h
theorem Ny {f : Value} : CallR X f (cM X f) := fun pins s σ H xs us Q I r h => h pins s σ us I r
theorem iU {f : Value} {r : List V → Hp → VK → Prop} (o : CallR X f r) {xs : List V} {H : Hp} {Q : VK} (h : r xs H Q) : cM X f xs H Q := fun pins s σ us I rr => o pins s σ H xs us Q I rr h
end
abbrev sG (X : Cx) (T : Tb) (W : WX) (e : Expr) (m : M D) : Prop := jA (WE X e) X.K T W vE m
abbrev aX (X : Cx) (T : Tb) (W : WX) (e : Expr) (m : M D) : Prop := jA (WE X e) X.K T W vV m
abbrev yf (X : Cx) (T : Tb) (W : WX) (e : Expr) (m : M Bool) : Prop := jA (WT X e) X.K T W vB m
abbrev Nz (X : Cx) (T : Tb) (W : WX) (e : Expr) (m : M Bool) : Prop := jA (WW X e) X.K T W vB m
abbrev JT (X : Cx) (T : Tb) (W : WX) (es : List Expr) (m : M (List D)) : Prop := jA (WA X es) X.K T W vA m
abbrev Dk (X : Cx) (T : Tb) (W : WX) (e : Expr) (m : M D) : Prop := jA (WE X e) X.K T W vO m
def bG (m : M D) : M D := m.bind fun d => M.ret d.fz
def mC (d : D) : M D := M.ret d
def aa (i : Nat) : M D := fun fr h => match fr[i]? with
 | some (some d) => if d.own then .ok d.fz (fr.set i (some d.fz)) h else .ok d fr h
 | _ => .err
def uh (i : Nat) : M D := fun fr h => match fr[i]? with
 | some (some d) => .ok d (fr.set i none) h
 | _ => .err
def aN (i : Nat) : M D := fun fr h => match fr[i]? with
 | some (some d) => .ok d fr h
 | _ => .err
section
variable {X : Cx} {T : Tb} {W : WX} {e a b c : Expr} {es : List Expr} {m ma mb mc : M D} {pos : Pos}
theorem QK {α β : Type} {run : L2.St → Hp → (β → Hp → Prop) → Prop} {K : PySem.W.Frag} {VR VR' : kE β α} {m : M α} (s : jA run K T W VR m) (h : ∀ B σ w H fr v d, VR K T B σ w H fr v d → VR' K T B σ w H fr v d) : jA run K T W VR' m :=
 fun B w σ H fr hh Q r p => s B w σ H fr hh Q r (by
  cases q : m fr hh with
  | ok d fr1 h1 =>
    rw [q] at p
    exact fun w1 H1 v x r1 z => p w1 H1 v x r1 (h _ _ _ _ _ _ _ z)
  | exc y fr1 h1 => rw [q] at p; exact p
  | err => rw [q] at p; exact p)
theorem km (s : aX X T W e m) : sG X T W e m := QK s fun _ _ _ _ _ _ _ z => .inl z
theorem pD (s : aX X T W e m) : Dk X T W e m := QK s fun _ _ _ _ _ _ _ z => .inl z
theorem sW (s : sG X T W e m) : Dk X T W e m := QK s fun _ _ _ _ _ _ _ z => by
 rcases z with z | ⟨p, o, e1, _, _, e2, r⟩
 · exact .inl z
 · exact .inr ⟨p, o, e1, e2, r⟩
theorem bZ (s : sG X T W e m) : aX X T W e (bG m) := fun B w σ H fr h Q r p => s B w σ H fr h Q r (by
 refine aZ.bind (VR := vE X.K T B σ) p fun d fr1 h1 w1 H1 v eq x r1 z p1 => ?_
 rcases z with z | ⟨p', o, rfl, O, lo, eH, rd⟩
 · rw [ace z] at p1
   exact p1 w1 H1 v (Wd.le_refl _) r1 z
 · exact p1 (w1.add p' o) H1 (.ref p') (Wd.le_add O.f) (r1.freeze O lo eH) (rd.fz (Wd.le_add O.f) (by show upd w1.F p' _ p' = _; rw [upd_same])))
theorem aO {i : Int} {j : Nat} : aX X T W (.Constant (.int i) j pos) (mC (.int i)) := fun B w σ H fr h Q r p => eV pe_int (p w H _ (Wd.le_refl _) r (.int i))
theorem vC {i : Bool} {j : Nat} : aX X T W (.Constant (.bool i) j pos) (mC (.bl i)) := fun B w σ H fr h Q r p => eV pe_bl (p w H _ (Wd.le_refl _) r (.bl i))
theorem JV {j : Nat} : aX X T W (.Constant .none j pos) (mC .non) := fun B w σ H fr h Q r p => eV pe_non (p w H _ (Wd.le_refl _) r .non)
theorem Bj {i : Str} {j : Nat} : aX X T W (.Constant (.str i) j pos) (mC (.str i)) := fun B w σ H fr h Q r p => eV pe_str (p w H _ (Wd.le_refl _) r (.str i))
theorem kZ {K : PySem.W.Frag} {T : Tb} {B : Bs} {w : Wd} {σ : L2.St} {H : Hp} {fr : Fr} {h : Hh} (R : Rel K T B w σ H fr h) {i : Nat} {d : D} (e : fr[i]? = some (some d)) :
 ∃ v, σ[i]? = some (some v) ∧ Lq K T B w H (some v) (some d) := by
 have l2 : i < fr.length := (List.getElem?_eq_some_iff.mp e).1
 have l1 : i < σ.length := by rw [← R.fl]; exact l2
 have e1 : σ[i]? = some σ[i] := akX l1
 have z := R.sl i _ _ e1 e
 generalize σ[i] = s at z e1
 cases z with
 | val r => exact ⟨_, e1, .val r⟩
 | own O eH r => exact ⟨_, e1, .own O eH r⟩
theorem aj (i : Nat) {x : Str} (hN : X.N[i]? = some x := by rfl) (hv : Vis X.env.scope x := by first | exact Or.inl rfl | exact Or.inr (Or.inl rfl) | exact Or.inr (Or.inr rfl)) (hd : (x == ("__debug__" : Str)) = false := by decide)
 (hcd : (x == ("__classdict__" : Str)) = false := by decide) : aX X T W (.Name x pos) (aa i) := fun B w σ H fr h Q r p => eV (pe_var hN hv hd hcd) (by
 unfold aa at p
 split at p
 · rename_i d e1
   cases od : d.own with
   | true =>
     rw [od] at p
     obtain ⟨q, o, e2, eH, rd, nf, r1⟩ := r.freeze_slot e1 od
     exact ⟨_, e2, p (w.add q o) H (.ref q) (Wd.le_add nf) r1 (rd.fz (Wd.le_add nf) (by show upd w.F q _ q = _; rw [upd_same]))⟩
   | false =>
     rw [od] at p
     obtain ⟨v, e2, z⟩ := kZ r e1
     cases z with
     | val rd => exact ⟨v, e2, p w H v (Wd.le_refl _) r rd⟩
     | own O eH rd =>
       rw [rd.own] at od
       cases od
 · exact p.elim)
theorem bM (i : Nat) {x : Str} (hN : X.N[i]? = some x := by rfl) (hv : Vis X.env.scope x := by first | exact Or.inl rfl | exact Or.inr (Or.inl rfl) | exact Or.inr (Or.inr rfl)) (hd : (x == ("__debug__" : Str)) = false := by decide)
 (hcd : (x == ("__classdict__" : Str)) = false := by decide) : Dk X T W (.Name x pos) (aN i) := fun B w σ H fr h Q r p => eV (pe_var hN hv hd hcd) (by
 unfold aN at p
 split at p
 · rename_i d e1
   obtain ⟨v, e2, z⟩ := kZ r e1
   refine ⟨v, e2, p w H v (Wd.le_refl _) r ?_⟩
   cases z with
   | val rd => exact .inl rd
   | own O eH rd => exact .inr ⟨_, _, rfl, eH, rd⟩
 · exact p.elim)
theorem Lr (i : Nat) {x : Str} (hN : X.N[i]? = some x := by rfl) (hv : Vis X.env.scope x := by first | exact Or.inl rfl | exact Or.inr (Or.inl rfl) | exact Or.inr (Or.inr rfl)) (hd : (x == ("__debug__" : Str)) = false := by decide)
 (hcd : (x == ("__classdict__" : Str)) = false := by decide) : sG X T W (.Name x pos) (uh i) := fun B w σ H fr h Q r p => eV (pe_var hN hv hd hcd) (by
 unfold uh at p
 split at p
 · rename_i d e1
   obtain ⟨v, e2, z⟩ := kZ r e1
   refine ⟨v, e2, p w H v (Wd.le_refl _) (r.drop_slot i) ?_⟩
   cases z with
   | val rd => exact .inl rd
   | @own q o _ O eH rd =>
     refine .inr ⟨q, o, rfl, O, fun j z => ?_, eH, rd⟩
     obtain ⟨q1, dq, q2, oq⟩ := z
     by_cases hj : i = j
     · subst hj
       rw [ak9 (List.getElem?_eq_some_iff.mp e1).1] at q2
       cases q2
     · rw [ak7 hj] at q2
       exact r.sep i j q hj ⟨e2, d, e1, rd.own⟩ ⟨q1, dq, q2, oq⟩
 · exact p.elim)
def big : Nat := 100000
theorem sH {n : Nat} (h : n ≤ big) : n ≤ sizeLine := Nat.le_trans h (by decide)
def D.der (h : Hh) : D → D
 | .ref n => (h[n]?).getD .non
 | d => d
def D.its (h : Hh) (d : D) : Option (List D) := match d.der h with
 | .tup l => some l
 | .fl l => some l
 | .kl l => some l
 | .nl l => some l
 | .tp l => some l
 | _ => none
theorem Ls {K : PySem.W.Frag} {T : Tb} {B : Bs} {w : Wd} {σ : L2.St} {H : Hp} {fr : Fr} {h : Hh} {v : V} {d : D} {ds : List D} (R : Rel K T B w σ H fr h) (z : vO K T B σ w H fr v d) (e : d.its h = some ds) :
 ∃ p vs, v = .ref p ∧ az K T w vs ds ∧ (SqL K H p vs ∨ SqT K H p vs) := by
 rcases z with z | ⟨p, o, rfl, eH, z⟩
 · cases z with
   | tup s r =>
     have e' : some _ = some ds := e
     cases e'
     exact ⟨_, _, rfl, r, .inr (dR R.sub s)⟩
   | fl s r =>
     have e' : some _ = some ds := e
     cases e'
     exact ⟨_, _, rfl, r, .inl (SqL.of (R.sub _ _ s))⟩
   | kl s r =>
     have e' : some _ = some ds := e
     cases e'
     exact ⟨_, _, rfl, r, .inl (iJ R.sub s)⟩
   | @ref a n s =>
     have ln : n < h.length := by
      rw [← R.len]
      exact (List.getElem?_eq_some_iff.mp s).1
     obtain ⟨o, q, rr⟩ := R.cel n a h[n] s (akX ln)
     have e0 : (h[n]?).getD .non = h[n] := by rw [akX ln]; rfl
     unfold D.its D.der at e
     dsimp only at e
     rw [e0] at e
     generalize h[n] = c at rr e
     cases rr with
     | lst r =>
       have e' : some _ = some ds := e
       cases e'
       exact ⟨_, _, rfl, r, .inl (SqL.of q)⟩
     | obj r => cases e
     | dct _ r => cases e
     | dkt _ r => cases e
     | so0 _ => cases e
     | so1 _ _ => cases e
     | hid0 => cases e
     | hid1 => cases e
   | non => cases e
   | bl _ => cases e
   | int _ => cases e
   | str _ => cases e
   | obj _ _ => cases e
   | cls _ => cases e
   | ty _ => cases e
   | sl _ => cases e
   | tp s r =>
     have e' : some _ = some ds := e
     cases e'
     exact ⟨_, _, rfl, r, .inr (.inl (.inl (R.sub _ _ s)))⟩
 · cases z with
   | lst r =>
     have e' : some _ = some ds := e
     cases e'
     exact ⟨_, _, rfl, r, .inl (SqL.of eH)⟩
   | obj r => cases e
def aq {α : Type} (f : Hh → D → D → Option α) (ma mb : M D) : M α := ma.bind fun x => mb.bind fun y fr h => M.opt (f h x y) fr h
theorem NB {α β : Type} {VR2 : kE V D} {VR : kE β α} {f : Hh → D → D → Option α} {r : V → V → Hp → (β → Hp → Prop) → Prop} (sa : aX X T W a ma) (sb : jA (WE X b) X.K T W VR2 mb)
 (hr : ∀ B w σ H fr h x y d e z Q, Rel X.K T B w σ H fr h → bO X.K T w x d → VR2 X.K T B σ w H fr y e → f h d e = some z → (∀ w' H' v, w.le w' → Rel X.K T B w' σ H' fr h → VR X.K T B σ w' H' fr v z → Q v H') → r x y H Q) :
 jA (fun σ H Q => WE X a σ H fun x H1 => WE X b σ H1 fun y H2 => r x y H2 Q) X.K T W VR (aq f ma mb) := fun B w σ H fr h Q r1 p =>
 sa B w σ H fr h _ r1 (aZ.bind (VR := vV X.K T B σ) p fun d fr1 h1 w1 H1 x e1 l1 r1 rx p1 => sb B w1 σ H1 fr1 h1 _ r1 (aZ.bind (VR := VR2 X.K T B σ) p1 fun e fr2 h2 w2 H2 y e2 l2 r2 ry p2 => by
  cases q : f h2 d e with
  | none => rw [q] at p2; exact p2.elim
  | some z =>
    rw [q] at p2
    exact hr B w2 σ H2 fr2 h2 x y d e z Q r2 (rx.mono l2) ry q p2))
end
end Pk
namespace Pk
open PySem PySem.Spec L2
structure Cq (X : Cx) (T : Tb) (W : WX) (k : Nat) : Prop where
 calm : X.calm = true
 nd : X.N.Nodup
 room : Room k X.A
 takes : L2N.Takes X W
 po : PassesOwn (model X.prog X.w) X.A X.env X.xe
theorem Cq.u {X : Cx} {T : Tb} {W : WX} {k : Nat} (C : Cq X T W k) : X.A.units + 65 < cLine := by
 have := C.room.un
 omega
section
variable {X : Cx} {T : Tb} {W : WX} {k : Nat} {e a b c : Expr} {es : List Expr} {m ma mb mc : M D} {pos : Pos}
mutual
def D.toP : D → Option PyData
 | .non => some .none
 | .bl b => some (.bool b)
 | .int i => some (.int i)
 | .str s => some (.str s)
 | .tup l => (D.toPs l).map .tuple
 | .fl l => (D.toPs l).map .list
 | .kl l => (D.toPs l).map .list
 | .nl l => (D.toPs l).map .list
 | .tp l => (D.toPs l).map .tuple
 | _ => none
def D.toPs : List D → Option (List PyData)
 | [] => some []
 | d :: ds => match D.toP d, D.toPs ds with
   | some p, some ps => some (p :: ps)
   | _, _ => none
end
section
variable {K : PySem.W.Frag} {w : Wd} {H : Hp}
mutual
theorem Lw (hs : ∀ a o, w.F a = some o → H a = some o) : ∀ {v : V} {d : D} {p : PyData}, bO K T w v d → d.toP = some p → Dp K H v p
 | _, _, _, .non, e => by cases e; exact .non
 | _, _, _, .bl b, e => by cases e; exact .bl b
 | _, _, _, .int i, e => by cases e; exact .int i
 | _, _, _, .str s, e => by cases e; exact .str s
 | _, _, _, .tup s r, e => by
   unfold D.toP at e
   obtain ⟨ps, e1, e2⟩ := Option.map_eq_some_iff.mp e
   subst e2
   exact .tup (dR hs s) (uW hs r e1)
 | _, _, _, .fl s r, e => by
   unfold D.toP at e
   obtain ⟨ps, e1, e2⟩ := Option.map_eq_some_iff.mp e
   subst e2
   exact .lst (SqL.of (hs _ _ s)) (uW hs r e1)
 | _, _, _, .kl s r, e => by
   unfold D.toP at e
   obtain ⟨ps, e1, e2⟩ := Option.map_eq_some_iff.mp e
   subst e2
   exact .lst (iJ hs s) (uW hs r e1)
 | _, _, _, .obj _ _, e => by cases e
 | _, _, _, .ref _, e => by cases e
 | _, _, _, .cls _, e => by cases e
 | _, _, _, .ty _, e => by cases e
 | _, _, _, .sl _, e => by cases e
 | _, _, _, .tp s r, e => by
   unfold D.toP at e
   obtain ⟨ps, e1, e2⟩ := Option.map_eq_some_iff.mp e
   subst e2
   exact .tup (.inl (.inl (hs _ _ s))) (uW hs r e1)
theorem uW (hs : ∀ a o, w.F a = some o → H a = some o) : ∀ {vs : List V} {ds : List D} {ps : List PyData}, az K T w vs ds → D.toPs ds = some ps → DpAll K H vs ps
 | _, _, _, .nil, e => by cases e; exact .nil
 | _, _, _, @az.cons _ _ _ _ d _ ds h t, e => by
   unfold D.toPs at e
   cases e1 : d.toP with
   | none => rw [e1] at e; cases e
   | some p =>
     cases e2 : D.toPs ds with
     | none => rw [e1, e2] at e; cases e
     | some ps =>
       rw [e1, e2] at e
       cases e
       exact .cons (Lw hs h e1) (uW hs t e2)
end
theorem YL {B : Bs} {σ : L2.St} {fr : Fr} {h : Hh} {v : V} {d : D} {p : PyData} (R : Rel K T B w σ H fr h) (z : vO K T B σ w H fr v d) (e : d.toP = some p) : Dp K H v p := by
 rcases z with z | ⟨q, o, rfl, eH, z⟩
 · exact Lw R.sub z e
 · cases z with
   | lst r =>
     unfold D.toP at e
     obtain ⟨ps, e1, e2⟩ := Option.map_eq_some_iff.mp e
     subst e2
     exact .lst (SqL.of eH) (uW R.sub r e1)
   | obj r => cases e
end
def du (h : Hh) : D → D → Option D
 | .int i, .int j => some (.int (i + j))
 | .str a, .str b => if a.length + b.length ≤ big then some (.str (a ++ b)) else none
 | .tup a, .tup b => if a.length + b.length ≤ big then some (.tup (a ++ b)) else none
 | .fl a, .fl b => if a.length + b.length ≤ big then some (.nl (a ++ b)) else none
 | _, _ => none
theorem NK {w : Wd} {K : PySem.W.Frag} {v : V} {ds : List D} (r : bO K T w v (.fl ds)) : ∃ a vs, v = .ref a ∧ w.F a = some (.lst vs) ∧ az K T w vs ds := by
 cases r with
 | fl s t => exact ⟨_, _, rfl, s, t⟩
theorem vX {w : Wd} {K : PySem.W.Frag} {v : V} {ds : List D} (r : bO K T w v (.tup ds)) : ∃ a vs, v = .ref a ∧ SqT K w.F a vs ∧ az K T w vs ds := by
 cases r with
 | tup s t => exact ⟨_, _, rfl, s, t⟩
theorem jF {w : Wd} {K : PySem.W.Frag} {v : V} {i : Int} (r : bO K T w v (.int i)) : v = .int i := by
 cases r
 rfl
theorem adA {w : Wd} {K : PySem.W.Frag} {v : V} {i : Bool} (r : bO K T w v (.bl i)) : v = .bl i := by
 cases r
 rfl
theorem Ly {w : Wd} {K : PySem.W.Frag} {v : V} {i : Str} (r : bO K T w v (.str i)) : v = .str i := by
 cases r
 rfl
theorem yg {K : PySem.W.Frag} {B : Bs} {w : Wd} {σ : L2.St} {H : Hp} {fr : Fr} {h : Hh} {p : Addr} {vs : List V} {ds : List D} {Q : V → Hp → Prop} (R : Rel K T B w σ H fr h) (r : az K T w vs ds) (np : H p = none)
 (q : ∀ w' H' v, w.le w' → Rel K T B w' σ H' fr h → bO K T w' v (.tup ds) → Q v H') : Q (.ref p) (upd H p (.tup vs)) :=
 q (w.add p (.tup vs)) _ _ (Wd.le_add (R.nP np).1) (R.laid np) (.tup (SqT.of (by show upd w.F p _ p = _; rw [upd_same])) (r.mono (Wd.le_add (R.nP np).1)))
theorem yh {K : PySem.W.Frag} {B : Bs} {w : Wd} {σ : L2.St} {H : Hp} {fr : Fr} {h : Hh} {p : Addr} {vs : List V} {ds : List D} {Q : V → Hp → Prop} (R : Rel K T B w σ H fr h) (r : az K T w vs ds) (np : H p = none)
 (q : ∀ w' H' v, w.le w' → Rel K T B w' σ H' fr h → vE K T B σ w' H' fr v (.nl ds) → Q v H') : Q (.ref p) (upd H p (.lst vs)) :=
 q w _ _ (Wd.le_refl w) (R.temp np) (.inr ⟨p, _, rfl, R.own_new np, R.loose_new np, upd_same, .lst r⟩)
theorem jo (sa : aX X T W a ma) (sb : aX X T W b mb) : sG X T W (.BinOp a .Add b pos) (aq du ma mb) := fun B w σ H fr h Q r1 p =>
 eV (pe_op JS bF bF) (NB (VR := vE) sa sb (fun B w σ H fr h x y d e z Q R rx ry q k => by
  unfold du at q
  split at q
  · cases q
    rw [jF rx, jF ry]
    exact wF op_add ⟨_, _, rfl, rfl, k w H _ (Wd.le_refl _) R (.inl (.int _))⟩
  · split at q
    · rename_i hl
      cases q
      rw [Ly rx, Ly ry]
      exact wF op_add_str ⟨_, _, rfl, rfl, sH hl, k w H _ (Wd.le_refl _) R (.inl (.str _))⟩
    · cases q
  · split at q
    · rename_i ds es hl
      cases q
      obtain ⟨p1, vs, rfl, s1, r1⟩ := vX rx
      obtain ⟨p2, us, rfl, s2, r2⟩ := vX ry
      refine wF op_catA ⟨p1, p2, vs, us, rfl, rfl, dR R.sub s1, dR R.sub s2, by rw [r1.length, r2.length]; exact sH hl, fun e0 => ?_, fun _ e0 => ?_, fun _ _ p np => ?_⟩
      · subst e0
        cases r1
        exact k w H _ (Wd.le_refl _) R (.inl ry)
      · subst e0
        cases r2
        rw [akZ] at k
        exact k w H _ (Wd.le_refl _) R (.inl rx)
      · exact yg R (r1.append r2) np fun w' H' v l R' r' => k w' H' v l R' (.inl r')
    · cases q
  · split at q
    · rename_i ds es hl
      cases q
      obtain ⟨p1, vs, rfl, s1, r1⟩ := NK rx
      obtain ⟨p2, us, rfl, s2, r2⟩ := NK ry
      refine wF op_cat ⟨p1, p2, vs, us, rfl, rfl, R.sub _ _ s1, R.sub _ _ s2, by rw [r1.length, r2.length]; exact sH hl, fun p np => ?_⟩
      exact yh R (r1.append r2) np k
    · cases q
  · cases q) B w σ H fr h Q r1 p)
def tM (C : Int → Int → Bool) (g : Int → Int → Int) (_ : Hh) : D → D → Option D
 | .int i, .int j => if C i j then some (.int (g i j)) else none
 | _, _ => none
theorem Bl {op : Operator} {P : Int → Int → Prop} {C : Int → Int → Bool} {g : Int → Int → Int} (o : OpR X (binaryOp op) (rI P fun i j => .int (g i j))) (hC : ∀ i j, C i j = true → P i j) (sa : aX X T W a ma) (sb : aX X T W b mb) :
 aX X T W (.BinOp a op b pos) (aq (tM C g) ma mb) := fun B w σ H fr h Q r1 p =>
 eV (pe_op JS bF bF) (NB (VR := vV) sa sb (fun B w σ H fr h x y d e z Q R rx ry q k => by
  unfold tM at q
  split at q
  · split at q
    · rename_i hc
      cases q
      rw [jF rx, jF ry]
      exact wF o ⟨_, _, rfl, rfl, hC _ _ hc, k w H _ (Wd.le_refl _) R (.int _)⟩
    · cases q
  · cases q) B w σ H fr h Q r1 p)
def T7 (_ _ : Int) : Bool := true
def uz (i j : Int) : Bool := decide (i.natAbs.log2 + j.natAbs.log2 < 1000000)
def T8 (_ j : Int) : Bool := decide (0 < j)
def JW (_ j : Int) : Bool := decide (0 < j) && decide (j.natAbs.log2 < 9000)
def QL (i j : Int) : Bool := decide (0 ≤ j) && decide (j ≤ 1000000) && decide (i.natAbs < 2 ^ 64)
abbrev yj := tM T7 (fun i j => i - j)
abbrev mF := tM uz (fun i j => i * j)
abbrev JX := tM T8 (fun i j => i % j)
abbrev NP := tM JW (fun i j => i / j)
abbrev Dm := tM QL (fun i j => i ^ j.toNat)
theorem acf : OpR X (binaryOp .Sub) (rI (fun _ _ => True) fun i j => .int (i - j)) := fun pins s σ H x y v u Q I rx ry ⟨i, j, e1, e2, _, q⟩ => op_sub pins s σ H x y v u Q I rx ry ⟨i, j, e1, e2, q⟩
theorem Gk (sa : aX X T W a ma) (sb : aX X T W b mb) : aX X T W (.BinOp a .Sub b pos) (aq yj ma mb) := Bl acf (fun _ _ _ => trivial) sa sb
theorem pN (sa : aX X T W a ma) (sb : aX X T W b mb) : aX X T W (.BinOp a .Mult b pos) (aq mF ma mb) := Bl op_mulW (fun i j h => by
 have h' : decide (i.natAbs.log2 + j.natAbs.log2 < 1000000) = true := h
 have h2 : i.natAbs.log2 + j.natAbs.log2 < 1000000 := of_decide_eq_true h'
 exact h2) sa sb
theorem Gm (sa : aX X T W a ma) (sb : aX X T W b mb) : aX X T W (.BinOp a .Mod b pos) (aq JX ma mb) := Bl op_mod (fun _ j h => by
 have h' : decide (0 < j) = true := h
 exact of_decide_eq_true h') sa sb
theorem Pg (sa : aX X T W a ma) (sb : aX X T W b mb) : aX X T W (.BinOp a .FloorDiv b pos) (aq NP ma mb) := Bl op_fdivW (fun _ _ h => by
 obtain ⟨h1, h2⟩ := Bool.and_eq_true_iff.mp h
 exact ⟨of_decide_eq_true h1, of_decide_eq_true h2⟩) sa sb
theorem JZ (sa : aX X T W a ma) (sb : aX X T W b mb) : aX X T W (.BinOp a .Pow b pos) (aq Dm ma mb) := Bl op_pow (fun _ _ h => by
 obtain ⟨h1, h3⟩ := Bool.and_eq_true_iff.mp h
 obtain ⟨h1, h2⟩ := Bool.and_eq_true_iff.mp h1
 exact ⟨of_decide_eq_true h1, of_decide_eq_true h2, of_decide_eq_true h3⟩) sa sb
def fj : D → Option D
 | .int i => some (.int (-i))
 | _ => none
def aJ {α : Type} (f : Hh → D → Option α) (ma : M D) : M α := ma.bind fun x fr h => M.opt (f h x) fr h
theorem XC {α β : Type} {VR1 : kE V D} {VR : kE β α} {f : Hh → D → Option α} {r : V → Hp → (β → Hp → Prop) → Prop} (sa : jA (WE X a) X.K T W VR1 ma)
 (hr : ∀ B w σ H fr h x d z Q, Rel X.K T B w σ H fr h → VR1 X.K T B σ w H fr x d → f h d = some z → (∀ w' H' v, w.le w' → Rel X.K T B w' σ H' fr h → VR X.K T B σ w' H' fr v z → Q v H') → r x H Q) :
 jA (fun σ H Q => WE X a σ H fun x H1 => r x H1 Q) X.K T W VR (aJ f ma) := fun B w σ H fr h Q r1 p =>
 sa B w σ H fr h _ r1 (aZ.bind (VR := VR1 X.K T B σ) p fun d fr1 h1 w1 H1 x e1 l1 r1 rx p1 => by
  cases q : f h1 d with
  | none => rw [q] at p1; exact p1.elim
  | some z =>
    rw [q] at p1
    exact hr B w1 σ H1 fr1 h1 x d z Q r1 rx q p1)
theorem sX (sa : aX X T W a ma) : aX X T W (.UnaryOp .USub a pos) (aJ (fun _ => fj) ma) := fun B w σ H fr h Q r1 p =>
 eV (pe_un adz bF) (XC (VR := vV) sa (fun B w σ H fr h x d z Q R rx q k => by
  unfold fj at q
  split at q
  · cases q
    rw [jF rx]
    exact afd un_neg ⟨_, rfl, k w H _ (Wd.le_refl _) R (.int _)⟩
  · cases q) B w σ H fr h Q r1 p)
def wG (X : Cx) (T : Tb) (VR2 : kE V D) (op : CmpOp) (f : Hh → D → D → Option Bool) : Prop :=
 ∀ B w σ H fr h x y d e c Q, Rel X.K T B w σ H fr h → bO X.K T w x d → VR2 X.K T B σ w H fr y e → f h d e = some c → Q (.bl c) H → rM X (compareOp op) x y H Q
def cInt (p : Int → Int → Bool) (_ : Hh) : D → D → Option Bool
 | .int i, .int j => some (p i j)
 | _, _ => none
theorem Lz {op : CmpOp} {p : Int → Int → Bool} (o : OpR X (compareOp op) (rI0 fun i j => .bl (p i j))) : wG X T vV op (cInt p) := fun B w σ H fr h x y d e c Q R rx ry q k => by
 unfold cInt at q
 split at q
 · cases q
   rw [jF rx, jF ry]
   exact wF o ⟨_, _, rfl, rfl, k⟩
 · cases q
abbrev CG := cInt fun i j => decide (i < j)
abbrev cLe := cInt fun i j => decide (i ≤ j)
abbrev zf := cInt fun i j => decide (j < i)
abbrev cGe := cInt fun i j => decide (j ≤ i)
theorem cmp_lt : wG X T vV .Lt CG := Lz op_lt
theorem cmp_le : wG X T vV .LtE cLe := Lz op_le
theorem cmp_gt : wG X T vV .Gt zf := Lz op_gt
theorem cmp_ge : wG X T vV .GtE cGe := Lz op_ge
def fX (_ : Hh) (d e : D) : Option Bool := match d.toP, e.toP with
 | some p, some q => if SeqAt.shaped p && SeqAt.shaped q then some (PyData.eqv p q) else none
 | _, _ => none
def zY (h : Hh) (d e : D) : Option Bool := (fX h d e).map (!·)
theorem T9 {h : Hh} {d e : D} {c : Bool} (q : fX h d e = some c) : ∃ p p', d.toP = some p ∧ e.toP = some p' ∧ SeqAt.shaped p = true ∧ SeqAt.shaped p' = true ∧ c = PyData.eqv p p' := by
 unfold fX at q
 split at q
 · rename_i p p' e1 e2
   split at q
   · rename_i hs
     obtain ⟨h1, h2⟩ := Bool.and_eq_true_iff.mp hs
     cases q
     exact ⟨p, p', e1, e2, h1, h2, rfl⟩
   · cases q
 · cases q
theorem cmp_eq (C : Cq X T W k) : wG X T vO .Eq fX := fun B w σ H fr h x y d e c Q R rx ry q kk => by
 obtain ⟨p, p', e1, e2, s1, s2, rfl⟩ := T9 q
 exact wF (op_eqD (by have := C.u; omega)) ⟨p, p', Lw R.sub rx e1, YL R ry e2, s1, s2, kk⟩
theorem Gn (C : Cq X T W k) : wG X T vO .NotEq zY := fun B w σ H fr h x y d e c Q R rx ry q kk => by
 obtain ⟨c', q', rfl⟩ := Option.map_eq_some_iff.mp q
 obtain ⟨p, p', e1, e2, s1, s2, rfl⟩ := T9 q'
 exact wF (op_neD (by have := C.u; omega)) ⟨p, p', Lw R.sub rx e1, YL R ry e2, s1, s2, kk⟩
def D.flat : D → Bool
 | .non => true
 | .bl _ => true
 | .int _ => true
 | .str _ => true
 | _ => false
def D.eqf : D → D → Bool
 | .non, .non => true
 | .bl a, .bl b => a == b
 | .bl a, .int b => (if a then 1 else 0) == b
 | .int a, .bl b => a == (if b then 1 else 0)
 | .int a, .int b => a == b
 | .str a, .str b => a == b
 | _, _ => false
def cIn (h : Hh) (x y : D) : Option Bool := match x, y with
 | .str c, .str z => if c.length = 1 then some (decide (c.cps.toList.headD 0 ∈ z.cps.toList)) else some (!(Builtin.Str.occurrences z c 0 z.length 1).isEmpty)
 | x, y => match y.its h with
   | some l => if x.flat && l.all D.flat then some (l.any fun z => D.eqf z x) else none
   | none => none
def ai5 (h : Hh) (x y : D) : Option Bool := (cIn h x y).map (!·)
def D.isNon : D → Bool
 | .non => true
 | _ => false
theorem YM {K : PySem.W.Frag} {w : Wd} {v : V} {d : D} (r : bO K T w v d) : decide (v = .non) = d.isNon := by
 cases r <;> rfl
def CJ (_ : Hh) (d e : D) : Option Bool := if e.isNon then some d.isNon else none
def ai6 (_ : Hh) (d e : D) : Option Bool := if e.isNon then some (!d.isNon) else none
theorem adC {K : PySem.W.Frag} {w : Wd} {v : V} {d : D} (r : bO K T w v d) (h : d.isNon = true) : v = .non := by
 cases r <;> first | rfl | cases h
theorem Ua : wG X T vV .Is CJ := fun B w σ H fr h x y d e c Q R rx ry q kk => by
 unfold CJ at q
 split at q
 · rename_i he
   cases q
   refine wF op_isN ⟨adC ry he, ?_⟩
   rw [YM rx]
   exact kk
 · cases q
theorem dG {op : CmpOp} {VR2 : kE V D} {f : Hh → D → D → Option Bool} (o : wG X T VR2 op f) (sa : aX X T W a ma) (sb : jA (WE X b) X.K T W VR2 mb) (hm : behindInMarks op b = false := by with_unfolding_all rfl) :
 yf X T W (.Compare a [op] [b] pos) (aq f ma mb) := fun B w σ H fr h Q r1 p =>
 Tj (pt_cmpR JS bF bF hm) (NB (VR := vB) (r := fun x y H Q => rM X (compareOp op) x y H fun z H' => ∃ k, z = .bl k ∧ Q k H') sa sb (fun B w σ H fr h x y d e z Q R rx ry q k =>
  o B w σ H fr h x y d e z _ R rx ry q ⟨z, rfl, k w H z (Wd.le_refl _) R rfl⟩) B w σ H fr h Q r1 p)
def mBl (m : M Bool) : M D := m.bind fun b => M.ret (.bl b)
theorem YQ {op : CmpOp} {VR2 : kE V D} {f : Hh → D → D → Option Bool} (o : wG X T VR2 op f) (sa : aX X T W a ma) (sb : jA (WE X b) X.K T W VR2 mb) (hm : behindInMarks op b = false := by with_unfolding_all rfl) :
 aX X T W (.Compare a [op] [b] pos) (aq (fun h x y => (f h x y).map .bl) ma mb) := fun B w σ H fr h Q r1 p =>
 eV (pe_cmpR JS bF bF hm) (NB (VR := vV) sa sb (fun B w σ H fr h x y d e z Q R rx ry q k => by
  obtain ⟨c, q', rfl⟩ := Option.map_eq_some_iff.mp q
  exact o B w σ H fr h x y d e c _ R rx ry q' (k w H _ (Wd.le_refl _) R (.bl c))) B w σ H fr h Q r1 p)
def agP (f g : Hh → D → D → Option Bool) (ma mb mc : M D) : M Bool := ma.bind fun x => mb.bind fun y fr h => match f h x y with
 | some true => (mc.bind fun z fr h => M.opt (g h y z) fr h) fr h
 | some false => .ok false fr h
 | none => .err
def D.tb : D → Option Bool
 | .bl b => some b
 | _ => none
theorem YS {K : PySem.W.Frag} {B : Bs} {σ : L2.St} {w : Wd} {H : Hp} {fr : Fr} {v : V} {d : D} {b : Bool} (r : vO K T B σ w H fr v d) (e : d.tb = some b) : v = .bl b := by
 rcases r with r | ⟨_, _, _, _, r⟩
 · cases r <;> first | (cases e; rfl) | cases e
 · cases r <;> cases e
def D.tru (h : Hh) (d : D) : Option Bool := match d with
 | .non => some false
 | .bl b => some b
 | .int i => some (i != 0)
 | .str z => if z.length ≤ big then some ((z.length : Int) != 0) else none
 | d => (d.its h).map fun l => !l.isEmpty
theorem RB {K : PySem.W.Frag} {w : Wd} {vs : List V} {ds : List D} (r : az K T w vs ds) : vs.isEmpty = ds.isEmpty := by
 cases r <;> rfl
theorem zg (s : Dk X T W e m) (he : ∀ whole, isTrue e X.env whole = (do let v ← whole; standAt e.pos; holding [v] (truthy v)) := by intro _; rfl) : yf X T W e (aJ D.tru m) := fun B w σ H fr h Q r1 p =>
 Tj (pt_truth bF he) (XC (VR := vB) (r := fun x H Q => ∃ k, TruV X.K x H k ∧ Q k H) s (fun B w σ H fr h x d z Q R rx q k => by
  refine ⟨z, ?_, k w H z (Wd.le_refl _) R rfl⟩
  have viaIts : ∀ {l : List D}, d.its h = some l → (!l.isEmpty) = z → TruV X.K x H z := fun {l} el ez => by
   obtain ⟨p, vs, rfl, rl, sq⟩ := Ls R rx el
   rcases sq with sq | sq
   · exact .inl ⟨vs, sq, by rw [← ez, RB rl]⟩
   · exact .inr (.inl ⟨vs, sq, by rw [← ez, RB rl]⟩)
  unfold D.tru at q
  split at q
  · rcases rx with rx | ⟨_, _, _, _, rx⟩
    · cases rx
      cases q
      rfl
    · cases rx
  · rcases rx with rx | ⟨_, _, _, _, rx⟩
    · cases rx
      cases q
      rfl
    · cases rx
  · rcases rx with rx | ⟨_, _, _, _, rx⟩
    · cases rx
      cases q
      rfl
    · cases rx
  · split at q
    · rename_i hl
      rcases rx with rx | ⟨_, _, _, _, rx⟩
      · cases rx
        cases q
        exact ⟨sH hl, rfl⟩
      · cases rx
    · cases q
  · obtain ⟨l, e1, e2⟩ := Option.map_eq_some_iff.mp q
    exact viaIts e1 e2) B w σ H fr h Q r1 p)
def zP (m : M Bool) : M Bool := m.bind fun b => M.ret !b
def qZ (m n : M Bool) : M Bool := m.bind fun b => if b then n else M.ret false
def uA (m n : M Bool) : M Bool := m.bind fun b => if b then M.ret true else n
variable {n ta tb tc : M Bool} {rest : List Expr}
theorem Ph (s : yf X T W a n) : yf X T W (.UnaryOp .Not a pos) (zP n) := fun B w σ H fr h Q r1 p =>
 Tj (pt_not wD) (s B w σ H fr h _ r1 (aZ.bind (VR := vB X.K T B σ) p fun d fr1 h1 w1 H1 x e1 l1 r1 rx p1 => by
  have rx' : x = d := rx
  subst rx'
  exact p1 w1 H1 _ (Wd.le_refl _) r1 rfl))
theorem uv (s : Nz X T W e n) : yf X T W e n := fun B w σ H fr h Q r1 p => Tj T6.pt (s B w σ H fr h Q r1 p)
theorem Av (s : yf X T W a ta) : Nz X T W (.BoolOp .And [a] pos) ta := fun B w σ H fr h Q r1 p => Tn (pw_and1 wD) (s B w σ H fr h Q r1 p)
theorem zj (s : yf X T W a ta) : Nz X T W (.BoolOp .Or [a] pos) ta := fun B w σ H fr h Q r1 p => Tn (pw_or1 wD) (s B w σ H fr h Q r1 p)
theorem Gp (s : yf X T W a ta) (t : Nz X T W (.BoolOp .And (b :: rest) pos) tb) : Nz X T W (.BoolOp .And (a :: b :: rest) pos) (qZ ta tb) := fun B w σ H fr h Q r1 p =>
 Tn (pw_and wD T6) (s B w σ H fr h _ r1 (aZ.bind (VR := vB X.K T B σ) p fun d fr1 h1 w1 H1 x e1 l1 r1 rx p1 => by
  have rx' : x = d := rx
  subst rx'
  cases x with
  | true => exact t B w1 σ H1 fr1 h1 Q r1 p1
  | false => exact p1 w1 H1 false (Wd.le_refl _) r1 rfl))
theorem Ad (s : yf X T W a ta) (t : Nz X T W (.BoolOp .Or (b :: rest) pos) tb) : Nz X T W (.BoolOp .Or (a :: b :: rest) pos) (uA ta tb) := fun B w σ H fr h Q r1 p =>
 Tn (pw_or wD T6) (s B w σ H fr h _ r1 (aZ.bind (VR := vB X.K T B σ) p fun d fr1 h1 w1 H1 x e1 l1 r1 rx p1 => by
  have rx' : x = d := rx
  subst rx'
  cases x with
  | false => exact t B w1 σ H1 fr1 h1 Q r1 p1
  | true => exact p1 w1 H1 true (Wd.le_refl _) r1 rfl))
def LC (m : M D) : M D := m.bind fun d => M.opt (d.tb.map fun b => .bl (!b))
def LK (m n : M D) : M D := m.bind fun d => match d.tb with
 | some true => n
 | some false => M.ret (.bl false)
 | none => M.opt none
def ai7 (m n : M D) : M D := m.bind fun d => match d.tb with
 | some true => M.ret (.bl true)
 | some false => n
 | none => M.opt none
theorem adD {op : BoolOp} (s : aX X T W a ma) : aX X T W (.BoolOp op [a] pos) ma := fun B w σ H fr h Q r1 p => eV (pe_one bF) (s B w σ H fr h Q r1 p)
theorem adE (s : aX X T W a ma) : aX X T W (.UnaryOp .Not a pos) (LC ma) := fun B w σ H fr h Q r1 p =>
 eV (pe_not bF) (s B w σ H fr h _ r1 (aZ.bind (VR := vV X.K T B σ) p fun d fr1 h1 w1 H1 x e1 l1 r1 rx p1 => by
  cases q : d.tb with
  | none => rw [q] at p1; exact p1.elim
  | some c =>
    rw [q] at p1
    exact ⟨c, YS (fr := fr1) (B := B) (σ := σ) (H := H1) (.inl rx) q, p1 w1 H1 _ (Wd.le_refl _) r1 (.bl _)⟩))
theorem adF (s : aX X T W a ma) (t : aX X T W (.BoolOp .And (b :: rest) pos) mb) : aX X T W (.BoolOp .And (a :: b :: rest) pos) (LK ma mb) := fun B w σ H fr h Q r1 p =>
 eV (pe_and bF bF) (s B w σ H fr h _ r1 (aZ.bind (VR := vV X.K T B σ) p fun d fr1 h1 w1 H1 x e1 l1 r1 rx p1 => by
  cases q : d.tb with
  | none => rw [q] at p1; exact p1.elim
  | some c =>
    rw [q] at p1
    refine ⟨c, YS (fr := fr1) (B := B) (σ := σ) (H := H1) (.inl rx) q, ?_⟩
    cases c with
    | true => exact t B w1 σ H1 fr1 h1 Q r1 p1
    | false => exact p1 w1 H1 _ (Wd.le_refl _) r1 (.bl _)))
def Gq {α : Type} (t : M Bool) (m n : M α) : M α := t.bind fun b => if b then m else n
theorem s_if {VR : kE V D} (st : yf X T W c tc) (sa : jA (WE X a) X.K T W VR ma) (sb : jA (WE X b) X.K T W VR mb) : jA (WE X (.IfExp c a b pos)) X.K T W VR (Gq tc ma mb) := fun B w σ H fr h Q r1 p =>
 eV (pe_ifExp wD bF bF) (st B w σ H fr h _ r1 (aZ.bind (VR := vB X.K T B σ) p fun d fr1 h1 w1 H1 x e1 l1 r1 rx p1 => by
  have rx' : x = d := rx
  subst rx'
  cases x with
  | true => exact sa B w1 σ H1 fr1 h1 Q r1 p1
  | false => exact sb B w1 σ H1 fr1 h1 Q r1 p1))
def afe : Expr → Bool
 | .Starred .. => true
 | _ => false
theorem eE {e : Expr} {es : List Expr} {env : Env} (h : afe e = false) : starEach (e :: es) env = (false, eval e env) :: starEach es env := by
 cases e <;> first | (cases h; done) | rfl
def ak : List (M D) → M (List D)
 | [] => M.ret []
 | m :: ms => m.bind fun d => (ak ms).bind fun ds => M.ret (d :: ds)
variable {ms : List (M D)}
theorem bL : JT X T W [] (ak []) := fun B w σ H fr h Q r1 p => Tq pa_nil (p w H _ (Wd.le_refl _) r1 .nil)
theorem aG (s : aX X T W e m) (t : JT X T W es (ak ms)) (hs : starEach (e :: es) X.env = (false, eval e X.env) :: starEach es X.env := by exact eE rfl) : JT X T W (e :: es) (ak (m :: ms)) := fun B w σ H fr h Q r1 p =>
 Tq (pa_cons bF JR hs) (s B w σ H fr h _ r1 (aZ.bind (VR := vV X.K T B σ) p fun d fr1 h1 w1 H1 x e1 l1 r1 rx p1 =>
  t B w1 σ H1 fr1 h1 _ r1 (aZ.bind (VR := vA X.K T B σ) p1 fun ds fr2 h2 w2 H2 vs e2 l2 r2 rs p2 => p2 w2 H2 _ (Wd.le_refl _) r2 (.cons (rx.mono l2) rs))))
def rA (ms : List (M D)) : M D := (ak ms).bind fun ds => M.opt (if ds.length ≤ big then some (.tup ds) else none)
def eU (ms : List (M D)) : M D := (ak ms).bind fun ds => M.opt (if ds.length ≤ big then some (.nl ds) else none)
theorem zm {x1 : Nat} (s : JT X T W es (ak ms)) : aX X T W (.Tuple es x1 pos) (rA ms) := fun B w σ H fr h Q r1 p =>
 eV (pe_tup JR) (s B w σ H fr h _ r1 (aZ.bind (VR := vA X.K T B σ) p fun ds fr1 h1 w1 H1 vs e1 l1 r1 rs p1 => by
  by_cases hl : ds.length ≤ big
  · rw [if_pos hl] at p1
    exact ⟨by rw [az.length rs]; exact sH hl, fun q nq => yg r1 rs nq p1⟩
  · rw [if_neg hl] at p1
    exact p1.elim))
theorem lg (s : JT X T W es (ak ms)) : sG X T W (.List es pos) (eU ms) := fun B w σ H fr h Q r1 p =>
 eV (pe_lst JR) (s B w σ H fr h _ r1 (aZ.bind (VR := vA X.K T B σ) p fun ds fr1 h1 w1 H1 vs e1 l1 r1 rs p1 => by
  by_cases hl : ds.length ≤ big
  · rw [if_pos hl] at p1
    exact ⟨by rw [az.length rs]; exact sH hl, fun q nq => yh r1 rs nq p1⟩
  · rw [if_neg hl] at p1
    exact p1.elim))
end
end Pk
namespace Pk
open PySem PySem.Spec L2
section
variable {X : Cx} {T : Tb} {W : WX} {k : Nat} {e a b c o : Expr} {es : List Expr} {m ma mb mc : M D} {pos p2 pf : Pos}
def aP (h : Hh) (d i : D) : Option D := match d, i with
 | .str z, .int i => if z.length ≤ big then (atI z.cps.toList i).map fun c => .str ⟨#[c]⟩ else none
 | d, .int i => match d.its h with
   | some l => atI l i
   | none => none
 | _, _ => none
def ixM (X : Cx) : R2 := fun x y H Q => ∀ value slice pins s σ v u, Inv X pins σ H s → RelV x v → RelV y u → subscripted slice false v u = operate [v, u] (getItem v u) → wpAny (model X.prog X.w) X.A (PyProof.Rows.subscriptTail value slice v u) (EP X pins σ Q) X.xe s
theorem YT : IxR X (ixM X) := fun value slice pins s σ H x y v u Q I rx ry h hs => h value slice pins s σ v u I rx ry hs
theorem Ub {r : R2} (o : IxR X r) {x y : V} {H : Hp} {Q : VK} (h : r x y H Q) : ixM X x y H Q := fun value slice pins s σ v u I rx ry hs => o value slice pins s σ H x y v u Q I rx ry h hs
theorem acg {K : PySem.W.Frag} {w : Wd} {vs : List V} {ds : List D} {i : Int} {d : D} (r : az K T w vs ds) (e : atI ds i = some d) : ∃ v, atI vs i = some v ∧ bO K T w v d := by
 unfold atI at e ⊢
 rw [r.length]
 cases q : ixN ds.length i with
 | none => rw [q] at e; cases e
 | some j =>
   rw [q] at e
   exact r.get (show ds[j]? = some d from e)
theorem Uc {K : PySem.W.Frag} {B : Bs} {σ : L2.St} {w : Wd} {H : Hp} {fr : Fr} {v : V} {z : Str} (r : vO K T B σ w H fr v (.str z)) : v = .str z := by
 rcases r with r | ⟨_, _, _, _, r⟩
 · exact Ly r
 · cases r
theorem YW {B : Bs} {w : Wd} {σ : L2.St} {H : Hp} {fr : Fr} {h : Hh} {x y : V} {d i z : D} {Q : VK} (R : Rel X.K T B w σ H fr h) (rx : vO X.K T B σ w H fr x d) (ry : bO X.K T w y i) (q : aP h d i = some z)
 (k : ∀ v, bO X.K T w v z → Q v H) : ixM X x y H Q := by
 unfold aP at q
 split at q
 · rename_i z' i'
   split at q
   · rename_i hl
     obtain ⟨c, ec, rfl⟩ := Option.map_eq_some_iff.mp q
     rw [Uc rx, jF ry]
     exact Ub ix_str ⟨z', i', c, rfl, rfl, sH hl, ec, k _ (.str _)⟩
   · cases q
 · rename_i i' _
   split at q
   · rename_i l el
     obtain ⟨p, vs, rfl, rl, sq⟩ := Ls R rx el
     obtain ⟨v, ev, rv⟩ := acg rl q
     rw [jF ry]
     rcases sq with sq | sq
     · exact Ub ix_list ⟨p, vs, i', v, rfl, rfl, sq, ev, k v rv⟩
     · exact Ub ix_tup ⟨p, vs, i', v, rfl, rfl, sq, ev, k v rv⟩
   · cases q
 · cases q
theorem fY (sa : aX X T W a ma) (sb : aX X T W b mb) (hs : PlainIx b := by intro _ _; rfl) : aX X T W (.Subscript a b pos) (aq aP ma mb) := fun B w σ H fr h Q r1 p =>
 eV (pe_ix YT bF bF hs) (NB (VR := vV) sa sb (fun B w σ H fr h x y d e z Q R rx ry q k => YW R (.inl rx) ry q fun v rv => k w H v (Wd.le_refl _) R rv) B w σ H fr h Q r1 p)
def pF (i : Nat) : M Unit := fun fr h => match fr[i]? with
 | some (some _) => .ok () fr h
 | _ => .err
def bU {α : Type} (i : Nat) (m : M α) (f : Hh → D → α → Option D) : M D := (pF i).bind fun _ => m.bind fun y => (aN i).bind fun d fr h => M.opt (f h d y) fr h
theorem Ud {K : PySem.W.Frag} {B : Bs} {w : Wd} {σ : L2.St} {H : Hp} {fr : Fr} {h : Hh} {i : Nat} {α β : Type} {VR : Wd → Hp → Fr → β → α → Prop} {m : M α} {Q : β → Hp → Prop} (R : Rel K T B w σ H fr h) (p : aZ K T B W VR w σ ((pF i).bind (fun _ => m) fr h) Q) :
 (∃ v, σ[i]? = some (some v)) ∧ aZ K T B W VR w σ (m fr h) Q := by
 cases e1 : fr[i]? with
 | none =>
   have q : pF i fr h = .err := by unfold pF; rw [e1]
   rw [M.bind_err q] at p
   exact p.elim
 | some o =>
   cases o with
   | none =>
     have q : pF i fr h = .err := by unfold pF; rw [e1]
     rw [M.bind_err q] at p
     exact p.elim
   | some d =>
     have q : pF i fr h = .ok () fr h := by unfold pF; rw [e1]
     rw [M.bind_ok q] at p
     obtain ⟨v, e2, z⟩ := kZ R e1
     exact ⟨⟨v, e2⟩, p⟩
theorem Ue {K : PySem.W.Frag} {B : Bs} {w : Wd} {σ : L2.St} {H : Hp} {fr : Fr} {h : Hh} {i : Nat} {v : V} {α β : Type} {VR : Wd → Hp → Fr → β → α → Prop} {f : D → M α} {Q : β → Hp → Prop} (R : Rel K T B w σ H fr h) (ev : σ[i]? = some (some v))
 (p : aZ K T B W VR w σ ((aN i).bind f fr h) Q) : ∃ d, vO K T B σ w H fr v d ∧ aZ K T B W VR w σ (f d fr h) Q := by
 cases e1 : fr[i]? with
 | none =>
   have q : aN i fr h = .err := by unfold aN; rw [e1]
   rw [M.bind_err q] at p
   exact p.elim
 | some o =>
   cases o with
   | none =>
     have q : aN i fr h = .err := by unfold aN; rw [e1]
     rw [M.bind_err q] at p
     exact p.elim
   | some d =>
     have q : aN i fr h = .ok d fr h := by unfold aN; rw [e1]
     rw [M.bind_ok q] at p
     obtain ⟨v', e2, z⟩ := kZ R e1
     rw [ev] at e2
     cases e2
     refine ⟨d, ?_, p⟩
     cases z with
     | val rd => exact .inl rd
     | own O eH rd => exact .inr ⟨_, _, rfl, eH, rd⟩
theorem dM (i : Nat) {x : Str} {px : Pos} (sb : aX X T W b mb) (hs : PlainIx b := by intro _ _; rfl) (hN : X.N[i]? = some x := by rfl) (hv : Vis X.env.scope x := by first | exact Or.inl rfl | exact Or.inr (Or.inl rfl) | exact Or.inr (Or.inr rfl)) (hd : (x == ("__debug__" : Str)) = false := by decide)
 (hcd : (x == ("__classdict__" : Str)) = false := by decide) : aX X T W (.Subscript (.Name x px) b pos) (bU i mb aP) := fun B w σ H fr h Q r1 p => by
 obtain ⟨⟨v, ev⟩, p⟩ := Ud r1 p
 refine eV (pe_ix YT (pe_var hN hv hd hcd) bF hs) ⟨v, ev, sb B w σ H fr h _ r1 (aZ.bind (VR := vV X.K T B σ) p fun y fr1 h1 w1 H1 u e1 l1 r2 ru p1 => ?_)⟩
 obtain ⟨d, rd, p2⟩ := Ue r2 ev p1
 cases q : aP h1 d y with
 | none => rw [q] at p2; exact p2.elim
 | some z =>
   rw [q] at p2
   exact YW r2 rd ru q fun v' rv => p2 w1 H1 v' (Wd.le_refl _) r2 rv
def slM (X : Cx) : V → Option Int → Option Int → Hp → VK → Prop := fun x lo hi H Q => ∀ pins s σ v vl vu sl, Inv X pins σ H s → RelV x v → s.heap.IsSliceOf sl vl vu .none → IsPart vl lo → IsPart vu hi →
    ∃ T id, typeLookup (.type T) "__getitem__" = pure (some (.builtin id)) ∧ s.TypeIs v T ∧ wpAny (model X.prog X.w) X.A (getItem v (.ref sl)) (EP X pins σ Q) X.xe s
theorem adH : SlR X (slM X) := fun pins s σ H x v vl vu lo hi sl Q I rx hs pl pu h => h pins s σ v vl vu sl I rx hs pl pu
theorem Ug {r : V → Option Int → Option Int → Hp → VK → Prop} (o : SlR X r) {x : V} {lo hi : Option Int} {H : Hp} {Q : VK} (h : r x lo hi H Q) : slM X x lo hi H Q := fun pins s σ v vl vu sl I rx hs pl pu => o pins s σ H x v vl vu lo hi sl Q I rx hs pl pu h
def WO (X : Cx) (e : Option Expr) : TO := fun σ H Q => ∀ pins s, Inv X pins σ H s → wpAny (model X.prog X.w) X.A (evalPart e X.env) (fun u s' => ∃ o H', Inv X pins σ H' s' ∧ IsPart u o ∧ Q o H') X.xe s
theorem YX {e : Option Expr} : PO X e (WO X e) := ⟨fun pins s σ H Q I h => h pins s I⟩
theorem abV {e : Option Expr} {t : TO} (p : PO X e t) {σ : L2.St} {H : Hp} {Q : Option Int → Hp → Prop} (h : t σ H Q) : WO X e σ H Q := fun pins s I => p.run pins s σ H Q I h
def vI : kE (Option Int) (Option Int) := fun _ _ _ _ _ _ _ b c => b = c
abbrev XD (X : Cx) (T : Tb) (W : WX) (e : Option Expr) (m : M (Option Int)) : Prop := jA (WO X e) X.K T W vI m
def Uh : M (Option Int) := M.ret none
def Pj (m : M D) : M (Option Int) := m.bind fun d => M.opt (match d with | .int i => some (some i) | _ => none)
theorem Wk : XD X T W none Uh := fun B w σ H fr h Q r p => abV po_none (p w H _ (Wd.le_refl _) r rfl)
theorem Wl (s : aX X T W e m) : XD X T W (some e) (Pj m) := fun B w σ H fr h Q r p =>
 abV (po_some bF) (s B w σ H fr h _ r (aZ.bind (VR := vV X.K T B σ) p fun d fr1 h1 w1 H1 x e1 l1 r1 rx p1 => by
  cases rx with
  | int i => exact ⟨i, rfl, p1 w1 H1 _ (Wd.le_refl _) r1 rfl⟩
  | _ => exact (show False from p1).elim))
def cutD {α : Type} (xs : List α) (lo hi : Option Int) : List α := (xs.drop (HT.sIx xs.length 0 lo)).take (HT.sIx xs.length xs.length hi - HT.sIx xs.length 0 lo)
theorem Wm {K : PySem.W.Frag} {w : Wd} {vs : List V} {ds : List D} {lo hi : Option Int} (r : az K T w vs ds) : az K T w (cutV vs lo hi) (cutD ds lo hi) := by
 unfold cutV cutD
 rw [r.length]
 exact (r.drop _).take _
def wH (h : Hh) (d : D) (p : Option Int × Option Int) : Option D := match d with
 | .str z => if z.length ≤ big then some (.str (cutS z p.1 p.2)) else none
 | .tup l => some (.tup (cutD l p.1 p.2))
 | d => match d.der h with
   | .fl l => some (.nl (cutD l p.1 p.2))
   | .nl l => some (.nl (cutD l p.1 p.2))
   | .kl l => some (.nl (cutD l p.1 p.2))
   | _ => none
theorem YZ {α : Type} {xs : List α} {lo hi : Option Int} (h1 : HT.sIx xs.length 0 lo = 0) (h2 : HT.sIx xs.length xs.length hi = xs.length) : cutD xs lo hi = xs := by
 unfold cutD
 rw [h1, h2, List.drop_zero, Nat.sub_zero, List.take_length]
theorem ym {K : PySem.W.Frag} {B : Bs} {w : Wd} {σ : L2.St} {H : Hp} {fr : Fr} {h : Hh} {v : V} {d : D} {l : List D} (R : Rel K T B w σ H fr h) (z : vO K T B σ w H fr v d) (e : d.der h = .fl l ∨ d.der h = .nl l ∨ d.der h = .kl l) :
 ∃ p vs, v = .ref p ∧ az K T w vs l ∧ SqL K H p vs := by
 rcases z with z | ⟨p, o, rfl, eH, z⟩
 · cases z with
   | fl s r =>
     rcases e with e | e | e <;> cases e
     exact ⟨_, _, rfl, r, SqL.of (R.sub _ _ s)⟩
   | kl s r =>
     rcases e with e | e | e <;> cases e
     exact ⟨_, _, rfl, r, iJ R.sub s⟩
   | @ref a n s =>
     have ln : n < h.length := by
      rw [← R.len]
      exact (List.getElem?_eq_some_iff.mp s).1
     obtain ⟨o, q, rr⟩ := R.cel n a h[n] s (akX ln)
     have e0 : D.der h (.ref n) = h[n] := by
      unfold D.der
      dsimp only
      rw [akX ln]
      rfl
     rw [e0] at e
     generalize h[n] = c at rr e
     cases rr with
     | lst r =>
       rcases e with e | e | e <;> cases e
       exact ⟨_, _, rfl, r, SqL.of q⟩
     | obj r => rcases e with e | e | e <;> cases e
     | dct _ r => rcases e with e | e | e <;> cases e
     | dkt _ r => rcases e with e | e | e <;> cases e
     | so0 _ => rcases e with e | e | e <;> cases e
     | so1 _ _ => rcases e with e | e | e <;> cases e
     | hid0 => rcases e with e | e | e <;> cases e
     | hid1 => rcases e with e | e | e <;> cases e
   | _ => rcases e with e | e | e <;> cases e
 · cases z with
   | lst r =>
     rcases e with e | e | e <;> cases e
     exact ⟨_, _, rfl, r, SqL.of eH⟩
   | obj r => rcases e with e | e | e <;> cases e
theorem adI {B : Bs} {w : Wd} {σ : L2.St} {H : Hp} {fr : Fr} {h : Hh} {x : V} {d z : D} {lo hi : Option Int} {Q : VK} (R : Rel X.K T B w σ H fr h) (rx : vO X.K T B σ w H fr x d) (q : wH h d (lo, hi) = some z)
 (k : ∀ w' H' v, w.le w' → Rel X.K T B w' σ H' fr h → vE X.K T B σ w' H' fr v z → Q v H') : slM X x lo hi H Q := by
 have fin : ∀ {l : List D}, (d.der h = .fl l ∨ d.der h = .nl l ∨ d.der h = .kl l) → z = .nl (cutD l lo hi) → slM X x lo hi H Q := fun {l} el ez => by
  obtain ⟨p, vs, rfl, rl, sq⟩ := ym R rx el
  subst ez
  exact Ug sl_list ⟨p, vs, rfl, sq, fun q nq => yh R (Wm rl) nq k⟩
 unfold wH at q
 split at q
 · split at q
   · rename_i hl
     cases q
     rw [Uc rx]
     exact Ug sl_str ⟨_, rfl, sH hl, k w H _ (Wd.le_refl _) R (.inl (.str _))⟩
   · cases q
 · cases q
   rcases rx with rx | ⟨_, _, _, _, r⟩
   · obtain ⟨p, vs, rfl, s, rl⟩ := vX rx
     refine Ug sl_tupA ⟨p, vs, rfl, dR R.sub s, fun hw => ?_, fun _ q nq => yg R (Wm rl) nq fun w' H' v l R' r' => k w' H' v l R' (.inl r')⟩
     rw [rl.length] at hw
     refine k w H _ (Wd.le_refl _) R (.inl ?_)
     rw [YZ hw.1 hw.2]
     exact rx
   · cases r
 · split at q
   · rename_i l el
     exact fin (.inl el) (by cases q; rfl)
   · rename_i l el
     exact fin (.inr (.inl el)) (by cases q; rfl)
   · rename_i l el
     exact fin (.inr (.inr el)) (by cases q; rfl)
   · cases q
def yP (ml mh : M (Option Int)) : M (Option Int × Option Int) := ml.bind fun l => mh.bind fun u => M.ret (l, u)
variable {lo hi : Option Expr} {ml mh : M (Option Int)}
theorem Wn (i : Nat) {x : Str} {px : Pos} (sl : XD X T W lo ml) (sh : XD X T W hi mh) (hN : X.N[i]? = some x := by rfl) (hv : Vis X.env.scope x := by first | exact Or.inl rfl | exact Or.inr (Or.inl rfl) | exact Or.inr (Or.inr rfl)) (hd : (x == ("__debug__" : Str)) = false := by decide)
 (hcd : (x == ("__classdict__" : Str)) = false := by decide) : sG X T W (.Subscript (.Name x px) (.Slice lo hi none p2) pos) (bU i (yP ml mh) wH) := fun B w σ H fr h Q r1 p => by
 obtain ⟨⟨v, ev⟩, p⟩ := Ud r1 p
 have p0 : aZ X.K T B W (vE X.K T B σ) w σ ((ml.bind fun l => mh.bind fun u => (aN i).bind fun d fr h => M.opt (wH h d (l, u)) fr h) fr h) Q := by
  have e : (yP ml mh).bind (fun y => (aN i).bind fun d fr h => M.opt (wH h d y) fr h) fr h = (ml.bind fun l => mh.bind fun u => (aN i).bind fun d fr h => M.opt (wH h d (l, u)) fr h) fr h := by
   unfold yP M.bind
   cases ml fr h with
   | ok l fr1 h1 => dsimp only; cases mh fr1 h1 <;> rfl
   | exc _ _ _ => rfl
   | err => rfl
  rw [← e]
  exact p
 refine eV (pe_slice adH (pe_var hN hv hd hcd) YX YX) ⟨v, ev, sl B w σ H fr h _ r1 (aZ.bind (VR := vI X.K T B σ) p0 fun l fr1 h1 w1 H1 l' e1 l1 r2 rl p1 => sh B w1 σ H1 fr1 h1 _ r2 (aZ.bind (VR := vI X.K T B σ) p1 fun u fr2 h2 w2 H2 u' e2 l2 r3 ru p2 => ?_))⟩
 have rl' : l' = l := rl
 have ru' : u' = u := ru
 subst rl' ru'
 obtain ⟨d, rd, p3⟩ := Ue r3 ev p2
 cases q : wH h2 d (l', u') with
 | none => rw [q] at p3; exact p3.elim
 | some z =>
   rw [q] at p3
   exact adI r3 rd q p3
def ai8 (ma : M D) (ml mh : M (Option Int)) : M D := ma.bind fun d => ml.bind fun l => mh.bind fun u fr h => M.opt (wH h d (l, u)) fr h
variable {x : Str}
theorem aai {VR1 VR : kE V D} {id : String} {f : Hh → D → Option D} (sa : jA (WE X a) X.K T W VR1 ma) (hr : ∀ B w σ H fr h x d z Q, Rel X.K T B w σ H fr h → VR1 X.K T B σ w H fr x d → f h d = some z → (∀ w' H' v, w.le w' → Rel X.K T B w' σ H' fr h → VR X.K T B σ w' H' fr v z → Q v H') → cM X (.builtin id) [x] H Q)
 (hm : X.mg x = none) (hg : Gl X x := by rfl) (hv : bootBuiltins x = some (.builtin id) := by decide +kernel) (hn : x ≠ "__name__" := by decide) (hdb : (x == ("__debug__" : Str)) = false := by decide)
 (he : starEach (a :: []) X.env = (false, eval a X.env) :: starEach [] X.env := by exact eE rfl) (hpl : (backTo pos (starEach [] X.env)).any (·.1) = false := by rfl) : jA (WE X (.Call (.Name x pf) [a] [] pos)) X.K T W VR (aJ f ma) := fun B w σ H fr h Q r1 p =>
 eV (pe_callB Ny hg hm hv (pa_cons bF pa_nil he) hn hdb he hpl) (XC (r := fun x H Q => cM X (.builtin id) [x] H Q) sa hr B w σ H fr h Q r1 p)
theorem XF {VR1 VR : kE V D} {id : String} {f : Hh → D → Option D} (sa : jA (WE X a) X.K T W VR1 ma) (hr : ∀ B w σ H fr h x d z Q, Rel X.K T B w σ H fr h → VR1 X.K T B σ w H fr x d → f h d = some z → (∀ w' H' v, w.le w' → Rel X.K T B w' σ H' fr h → VR X.K T B σ w' H' fr v z → Q v H') → cM X (.type id) [x] H Q)
 (hm : X.mg x = none) (hg : Gl X x := by rfl) (hv : bootBuiltins x = some (.type id) := by decide +kernel) (hn : x ≠ "__name__" := by decide) (hdb : (x == ("__debug__" : Str)) = false := by decide)
 (he : starEach (a :: []) X.env = (false, eval a X.env) :: starEach [] X.env := by exact eE rfl) (hpl : (backTo pos (starEach [] X.env)).any (·.1) = false := by rfl) : jA (WE X (.Call (.Name x pf) [a] [] pos)) X.K T W VR (aJ f ma) := fun B w σ H fr h Q r1 p =>
 eV (pe_callTy Ny hg hm hv (pa_cons bF pa_nil he) hn hdb he hpl) (XC (r := fun x H Q => cM X (.type id) [x] H Q) sa hr B w σ H fr h Q r1 p)
def cI (h : Hh) (d : D) : Option D := match d with
 | .str z => if z.length ≤ big then some (.int z.length) else none
 | d => (d.its h).map fun l => .int l.length
theorem fZ (sa : Dk X T W a ma) (hm : X.mg "len" = none) (hg : Gl X "len" := by rfl) (he : starEach (a :: []) X.env = (false, eval a X.env) :: starEach [] X.env := by exact eE rfl) : aX X T W (.Call (.Name "len" pf) [a] [] pos) (aJ cI ma) :=
 aai (id := "len") sa (fun B w σ H fr h x d z Q R rx q k => by
  unfold cI at q
  split at q
  · split at q
    · rename_i hl
      cases q
      rw [Uc rx]
      exact iU call_len_str ⟨_, rfl, sH hl, k w H _ (Wd.le_refl _) R (.int _)⟩
    · cases q
  · obtain ⟨l, el, rfl⟩ := Option.map_eq_some_iff.mp q
    obtain ⟨p, vs, rfl, rl, sq⟩ := Ls R rx el
    refine iU call_len_seq ⟨p, vs, rfl, sq, ?_⟩
    rw [rl.length]
    exact k w H _ (Wd.le_refl _) R (.int _)) hm hg (by decide +kernel) (by decide) (by decide) he
def pY (_ : Hh) (d : D) : Option D := match d with
 | .int i => some (.int i)
 | .bl b => some (.int (if b then 1 else 0))
 | .str z => if z.length ≤ 640 then (PySem.intText? z).map .int else none
 | _ => none
theorem yo (sa : aX X T W a ma) (hm : X.mg "int" = none) (hg : Gl X "int" := by rfl) (he : starEach (a :: []) X.env = (false, eval a X.env) :: starEach [] X.env := by exact eE rfl) : aX X T W (.Call (.Name "int" pf) [a] [] pos) (aJ pY ma) :=
 XF (id := "int") sa (fun B w σ H fr h x d z Q R rx q k => by
  unfold pY at q
  split at q
  · cases q
    rw [jF rx]
    exact iU call_int1 (.inl ⟨_, rfl, k w H _ (Wd.le_refl _) R (.int _)⟩)
  · cases q
    rw [adA rx]
    exact iU call_int1 (.inr ⟨_, rfl, k w H _ (Wd.le_refl _) R (.int _)⟩)
  · split at q
    · rename_i hl
      obtain ⟨n, en, rfl⟩ := Option.map_eq_some_iff.mp q
      rw [Ly rx]
      exact iU call_int_str ⟨_, n, rfl, en, hl, k w H _ (Wd.le_refl _) R (.int _)⟩
    · cases q
  · cases q) hm hg (by decide +kernel) (by decide) (by decide) he
def NQ (_ : Hh) (d : D) : Option D := match d with
 | .int i => some (.int (if i < 0 then -i else i))
 | _ => none
theorem Y0 (sa : aX X T W a ma) (hm : X.mg "abs" = none) (hg : Gl X "abs" := by rfl) (he : starEach (a :: []) X.env = (false, eval a X.env) :: starEach [] X.env := by exact eE rfl) : aX X T W (.Call (.Name "abs" pf) [a] [] pos) (aJ NQ ma) :=
 aai (id := "abs") sa (fun B w σ H fr h x d z Q R rx q k => by
  unfold NQ at q
  split at q
  · cases q
    rw [jF rx]
    exact iU call_abs ⟨_, rfl, k w H _ (Wd.le_refl _) R (.int _)⟩
  · cases q) hm hg (by decide +kernel) (by decide) (by decide) he
def Pn (h : Hh) (d : D) : Option D := (d.its h).map .nl
theorem ach (sa : Dk X T W a ma) (hm : X.mg "list" = none) (hg : Gl X "list" := by rfl) (he : starEach (a :: []) X.env = (false, eval a X.env) :: starEach [] X.env := by exact eE rfl) : sG X T W (.Call (.Name "list" pf) [a] [] pos) (aJ Pn ma) :=
 XF (id := "list") sa (fun B w σ H fr h x d z Q R rx q k => by
  obtain ⟨l, el, rfl⟩ := Option.map_eq_some_iff.mp q
  obtain ⟨p, vs, rfl, rl, sq⟩ := Ls R rx el
  exact iU call_list_of ⟨p, vs, rfl, sq, fun q nq => yh R rl nq k⟩) hm hg (by decide +kernel) (by decide) (by decide) he
def Bm (h : Hh) (d : D) : Option D := (d.its h).map .tup
theorem Ui (sa : Dk X T W a ma) (hm : X.mg "tuple" = none) (hg : Gl X "tuple" := by rfl) (he : starEach (a :: []) X.env = (false, eval a X.env) :: starEach [] X.env := by exact eE rfl) : aX X T W (.Call (.Name "tuple" pf) [a] [] pos) (aJ Bm ma) :=
 XF (id := "tuple") sa (fun B w σ H fr h x d z Q R rx q k => by
  obtain ⟨l, el, rfl⟩ := Option.map_eq_some_iff.mp q
  cases hd : d.der h with
  | tup l' =>
    have ed : d = .tup l' := by
     rcases rx with rx | ⟨_, _, _, _, rr⟩
     · cases rx with
       | tup s r => exact hd
       | @ref a n s =>
         have ln : n < h.length := by
          rw [← R.len]
          exact (List.getElem?_eq_some_iff.mp s).1
         obtain ⟨o, q, rr⟩ := R.cel n a h[n] s (akX ln)
         have e0 : D.der h (.ref n) = h[n] := by
          unfold D.der
          dsimp only
          rw [akX ln]
          rfl
         rw [e0] at hd
         rw [hd] at rr
         cases rr
       | _ => cases hd
     · cases rr <;> cases hd
    subst ed
    cases el
    rcases rx with rx | ⟨_, _, _, _, rr⟩
    · obtain ⟨p, vs, rfl, s, rl⟩ := vX rx
      exact iU call_tuple_of ⟨p, vs, rfl, .inr ⟨dR R.sub s, k w H _ (Wd.le_refl _) R rx⟩⟩
    · cases rr
  | tp l' =>
    have ed : d = .tp l' := by
     rcases rx with rx | ⟨_, _, _, _, rr⟩
     · cases rx with
       | tp s r => exact hd
       | @ref a n s =>
         have ln : n < h.length := by
          rw [← R.len]
          exact (List.getElem?_eq_some_iff.mp s).1
         obtain ⟨o, q, rr⟩ := R.cel n a h[n] s (akX ln)
         have e0 : D.der h (.ref n) = h[n] := by
          unfold D.der
          dsimp only
          rw [akX ln]
          rfl
         rw [e0] at hd
         rw [hd] at rr
         cases rr
       | _ => cases hd
     · cases rr <;> cases hd
    subst ed
    cases el
    rcases rx with rx | ⟨_, _, _, _, rr⟩
    · cases rx with
      | tp s rl => exact iU call_tuple_of ⟨_, _, rfl, .inr ⟨.inl (.inl (R.sub _ _ s)), k w H _ (Wd.le_refl _) R (.tup (.inl (.inl s)) rl)⟩⟩
    · cases rr
  | _ =>
    have el' := el
    unfold D.its at el'
    rw [hd] at el'
    first
     | (cases el'; done)
     | (cases el'
        obtain ⟨p, vs, rfl, rl, sq⟩ := ym R rx (by first | exact .inl hd | exact .inr (.inl hd) | exact .inr (.inr hd))
        exact iU call_tuple_of ⟨p, vs, rfl, .inl ⟨sq, fun q nq => yg R rl nq k⟩⟩)) hm hg (by decide +kernel) (by decide) (by decide) he
def D.ints : List D → Option (List Int)
 | [] => some []
 | .int i :: r => (D.ints r).map (i :: ·)
 | _ :: _ => none
theorem ints_map : ∀ {l : List D} {is : List Int}, D.ints l = some is → l = is.map D.int
 | [], is, e => by cases e; rfl
 | d :: r, is, e => by
   cases d with
   | int i =>
     unfold D.ints at e
     obtain ⟨js, ej, rfl⟩ := Option.map_eq_some_iff.mp e
     rw [ints_map ej]
     rfl
   | _ => cases e
def D.lints (h : Hh) (d : D) : Option (List Int) := match d.der h with
 | .fl l => D.ints l
 | .nl l => D.ints l
 | .kl l => D.ints l
 | _ => none
theorem Y4 {K : PySem.W.Frag} {B : Bs} {w : Wd} {σ : L2.St} {H : Hp} {fr : Fr} {h : Hh} {v : V} {d : D} {is : List Int} (R : Rel K T B w σ H fr h) (z : vO K T B σ w H fr v d) (e : d.lints h = some is) : ∃ p, v = .ref p ∧ SqL K H p (is.map V.int) := by
 unfold D.lints at e
 split at e
 · rename_i l el
   obtain ⟨p, vs, rfl, rl, sq⟩ := ym R z (.inl el)
   rw [ints_map e] at rl
   rw [rl.ints] at sq
   exact ⟨p, rfl, sq⟩
 · rename_i l el
   obtain ⟨p, vs, rfl, rl, sq⟩ := ym R z (.inr (.inl el))
   rw [ints_map e] at rl
   rw [rl.ints] at sq
   exact ⟨p, rfl, sq⟩
 · rename_i l el
   obtain ⟨p, vs, rfl, rl, sq⟩ := ym R z (.inr (.inr el))
   rw [ints_map e] at rl
   rw [rl.ints] at sq
   exact ⟨p, rfl, sq⟩
 · cases e
def aaj (h : Hh) (d : D) : Option D := (d.lints h).map fun l => .int l.sum
def XH : Int → List Int → Int
 | a, [] => a
 | a, b :: r => XH (if b > a then b else a) r
def adJ : Int → List Int → Int
 | a, [] => a
 | a, b :: r => adJ (if b < a then b else a) r
def afg (h : Hh) (d : D) : Option D := match d.lints h with
 | some (a :: r) => some (.int (XH a r))
 | _ => none
def ahR (h : Hh) (d : D) : Option D := match d.lints h with
 | some (a :: r) => some (.int (adJ a r))
 | _ => none
theorem aak {VR2 VR : kE V D} {id : String} {f : Hh → D → D → Option D} (sa : aX X T W a ma) (sb : jA (WE X b) X.K T W VR2 mb)
 (hr : ∀ B w σ H fr h x y d e z Q, Rel X.K T B w σ H fr h → bO X.K T w x d → VR2 X.K T B σ w H fr y e → f h d e = some z → (∀ w' H' v, w.le w' → Rel X.K T B w' σ H' fr h → VR X.K T B σ w' H' fr v z → Q v H') → cM X (.builtin id) [x, y] H Q)
 (hm : X.mg x = none) (hg : Gl X x := by rfl) (hv : bootBuiltins x = some (.builtin id) := by decide +kernel) (hn : x ≠ "__name__" := by decide) (hdb : (x == ("__debug__" : Str)) = false := by decide)
 (he : starEach (a :: b :: []) X.env = (false, eval a X.env) :: starEach (b :: []) X.env := by exact eE rfl) (he2 : starEach (b :: []) X.env = (false, eval b X.env) :: starEach [] X.env := by exact eE rfl)
 (hpl : (backTo pos (starEach (b :: []) X.env)).any (·.1) = false := by rfl) : jA (WE X (.Call (.Name x pf) [a, b] [] pos)) X.K T W VR (aq f ma mb) := fun B w σ H fr h Q r1 p =>
 eV (pe_callB Ny hg hm hv (pa_cons bF (pa_cons bF pa_nil he2) he) hn hdb he hpl) (NB (r := fun x y H Q => cM X (.builtin id) [x, y] H Q) sa sb hr B w σ H fr h Q r1 p)
abbrev CN := tM T7 fun i j => if j > i then j else i
abbrev Pq := tM T7 fun i j => if j < i then j else i
theorem Wo (C : Cq X T W k) (sa : aX X T W a ma) (sb : aX X T W b mb) (hm : X.mg "max" = none) (hg : Gl X "max" := by rfl) (he : starEach (a :: b :: []) X.env = (false, eval a X.env) :: starEach (b :: []) X.env := by exact eE rfl) (he2 : starEach (b :: []) X.env = (false, eval b X.env) :: starEach [] X.env := by exact eE rfl)
 (hpl : (backTo pos (starEach (b :: []) X.env)).any (·.1) = false := by rfl) : aX X T W (.Call (.Name "max" pf) [a, b] [] pos) (aq CN ma mb) :=
 aak (id := "max") sa sb (fun B w σ H fr h x y d e z Q R rx ry q kk => by
  unfold CN tM at q
  split at q
  · cases q
    rw [jF rx, jF ry]
    exact iU (call_max2 C.calm) ⟨_, _, rfl, kk w H _ (Wd.le_refl _) R (.int _)⟩
  · cases q) hm hg (by decide +kernel) (by decide) (by decide) he he2 hpl
theorem aci (C : Cq X T W k) (sa : aX X T W a ma) (sb : aX X T W b mb) (hm : X.mg "min" = none) (hg : Gl X "min" := by rfl) (he : starEach (a :: b :: []) X.env = (false, eval a X.env) :: starEach (b :: []) X.env := by exact eE rfl) (he2 : starEach (b :: []) X.env = (false, eval b X.env) :: starEach [] X.env := by exact eE rfl)
 (hpl : (backTo pos (starEach (b :: []) X.env)).any (·.1) = false := by rfl) : aX X T W (.Call (.Name "min" pf) [a, b] [] pos) (aq Pq ma mb) :=
 aak (id := "min") sa sb (fun B w σ H fr h x y d e z Q R rx ry q kk => by
  unfold Pq tM at q
  split at q
  · cases q
    rw [jF rx, jF ry]
    exact iU (call_min2 C.calm) ⟨_, _, rfl, kk w H _ (Wd.le_refl _) R (.int _)⟩
  · cases q) hm hg (by decide +kernel) (by decide) (by decide) he he2 hpl
end
end Pk
namespace Pk
open PySem PySem.Spec L2
def Bs.pr (B : Bs) (p : Addr) (o : HO) : Bs := ⟨B.w0, B.H0, (p, o) :: B.P, B.me⟩
section
variable {K : PySem.W.Frag} {T : Tb} {B : Bs} {w w' : Wd} {σ : L2.St} {H H' : Hp} {fr : Fr} {h : Hh} {p : Addr} {o : HO}
theorem Own.pr (O : Own B w p) {q : Addr} {u : HO} (hq : q ≠ p) : Own (B.pr q u) w p := ⟨O.f, O.i, O.e, fun z hz => by
 rcases List.mem_cons.mp hz with e | hz
 · rw [e]
   exact hq
 · exact O.p z hz⟩
theorem Own.unpr {q : Addr} {u : HO} (O : Own (B.pr q u) w p) : Own B w p := ⟨O.f, O.i, O.e, fun z hz => O.p z (alb _ hz)⟩
theorem Rel.protect (R : Rel K T B w σ H fr h) (O : Own B w p) (lo : vz σ fr p) (e : H p = some o) (nt : ∀ vs, o ≠ .tup vs := by intro vs z; cases z) : Rel K T (B.pr p o) w σ H fr h :=
 { R with
   pt := fun q hq => by
    rcases List.mem_cons.mp hq with z | hq
    · rw [z]
      exact nt
    · exact R.pt q hq
   prot := fun q hq => by
    rcases List.mem_cons.mp hq with z | hq
    · rw [z]
      exact ⟨e, O.f, O.i⟩
    · exact R.prot q hq
   sl := fun i s d e1 e2 => by
    have z := R.sl i s d e1 e2
    cases z with
    | none => exact .none
    | val r => exact .val r
    | @own q u _ O' eH' rr =>
      have hne : p ≠ q := fun z => lo i ⟨by rw [z]; exact e1, _, e2, rr.own⟩
      exact .own (O'.pr hne) eH' rr }
theorem Rel.unprotect (R : Rel K T (B.pr p o) w σ H fr h) (e0 : B.H0 p = none) (hP : ∀ q ∈ B.P, q.1 ≠ p) : Rel K T B w σ H fr h ∧ Own B w p ∧ vz σ fr p ∧ H p = some o := by
 obtain ⟨h1, h2, h3⟩ := R.prot (p, o) (ak4)
 refine ⟨{ R with pt := fun q hq => R.pt q (alb _ hq), prot := fun q hq => R.prot q (alb _ hq), sl := fun i s d e1 e2 => ?_ }, ⟨h2, h3, e0, hP⟩, fun i ⟨q1, d, q2, od⟩ => ?_, h1⟩
 · have z := R.sl i s d e1 e2
   cases z with
   | none => exact .none
   | val r => exact .val r
   | own O' eH' rr => exact .own O'.unpr eH' rr
 · have z := R.sl i _ _ q1 q2
   cases z with
   | val r => exact vW od r
   | own O' eH' rr => exact O'.p (p, o) (ak4) rfl
theorem Rel.repr {o' : HO} (R : Rel K T (B.pr p o) w σ H fr h) (e0 : B.H0 p = none) (hP : ∀ q ∈ B.P, q.1 ≠ p) (nt : ∀ vs, o' ≠ .tup vs := by intro vs z; cases z) : Rel K T (B.pr p o') w σ (upd H p o') fr h := by
 obtain ⟨R1, O, lo, e⟩ := R.unprotect e0 hP
 refine Rel.protect { R1 with keep := fun a u ha hm => ?_, prot := fun q hq => ?_, sub := fun a u ha => ?_, cel := fun n a c q1 q2 => ?_, sl := fun j s dj q1 q2 => ?_ } O lo upd_same nt
 · rw [upd_ne (fun z => by rw [z, e0] at ha; cases ha)]
   exact R1.keep a u ha hm
 · obtain ⟨h1, h2, h3⟩ := R1.prot q hq
   exact ⟨by rw [upd_ne (hP q hq)]; exact h1, h2, h3⟩
 · rw [upd_ne (fun z => by rw [z, O.f] at ha; cases ha)]
   exact R1.sub a u ha
 · have hne : a ≠ p := fun z => O.i (by rw [← z]; exact ald q1)
   exact Bh.keep (Wd.le_refl w) (upd_ne hne) (R1.cel n a c q1 q2)
 · have z := R1.sl j s dj q1 q2
   cases z with
   | none => exact .none
   | val r => exact .val r
   | @own q u _ O' eH' rr =>
     have hne : q ≠ p := fun z => lo j ⟨by rw [← z]; exact q1, _, q2, rr.own⟩
     exact .own O' (by rw [upd_ne hne]; exact eH') rr
end
def WG (X : Cx) (tg : Expr) : TG := fun v σ H Q => ∀ pins s u, Inv X pins σ H s → RelV v u → wpAny (model X.prog X.w) X.A (assign tg X.env u) (fun _ s' => ∃ σ' H', Inv X pins σ' H' s' ∧ Q σ' H') X.xe s
structure WI (X : Cx) (tg iter : Expr) (σ : L2.St) (H : Hp) (R : It → Hp → Prop) : Prop where
 go : ∀ pins s, Inv X pins σ H s → wpAny (model X.prog X.w) X.A (eval iter X.env) (fun v s1 => wpAny (model X.prog X.w) X.A (pyIter v) (PIE X pins σ tg R) X.xe s1) X.xe s
def Pr (X : Cx) (ifs : List Expr) : TT := fun σ H Q => ∀ pins s, Inv X pins σ H s →
    wpAny (model X.prog X.w) X.A (forIn ifs true fun c r => if r = true then do let ok ← isTrue c X.env (eval c X.env); pure (ForInStep.yield ok) else pure (ForInStep.yield r)) (TP X pins σ Q) X.xe s
section
variable {X : Cx} {tg iter : Expr} {ifs : List Expr}
theorem Pu : PG X tg (WG X tg) := ⟨fun pins s σ H v u Q I r h => h pins s u I r⟩
theorem J5 : PI X tg iter (WI X tg iter) := ⟨fun pins s σ H R I h => h.go pins s I⟩
theorem XJ {t : TG} (p : PG X tg t) {v : V} {σ : L2.St} {H : Hp} {Q : L2.St → Hp → Prop} (h : t v σ H Q) : WG X tg v σ H Q := fun pins s u I r => p.run pins s σ H v u Q I r h
theorem LQ {t : TI} (p : PI X tg iter t) {σ : L2.St} {H : Hp} {R : It → Hp → Prop} (h : t σ H R) : WI X tg iter σ H R := ⟨fun pins s I => p.run pins s σ H R I h⟩
theorem Wr {t : TT} (p : PTs X ifs t) {σ : L2.St} {H : Hp} {Q : Bool → Hp → Prop} (h : t σ H Q) : Pr X ifs σ H Q := fun pins s I => p.run pins s σ H Q I h
end
inductive xR (K : PySem.W.Frag) (T : Tb) (B : Bs) (σ : L2.St) (w : Wd) (H : Hp) (fr : Fr) : List V → List D → List Addr → Prop where
 | nil : xR K T B σ w H fr [] [] []
 | val {v : V} {d : D} {vs : List V} {ds : List D} {ps : List Addr} : bO K T w v d → xR K T B σ w H fr vs ds ps → xR K T B σ w H fr (v :: vs) (d :: ds) ps
 | own {p : Addr} {o : HO} {d : D} {vs : List V} {ds : List D} {ps : List Addr} : Own B w p → vz σ fr p → H p = some o → sE K T w o d → p ∉ ps → xR K T B σ w H fr vs ds ps → xR K T B σ w H fr (.ref p :: vs) (d :: ds) (p :: ps)
def vEs : kE (List V) (List D) := fun K T B σ w H fr vs ds => ∃ ps, xR K T B σ w H fr vs ds ps
abbrev Tr (X : Cx) (T : Tb) (W : WX) (es : List Expr) (m : M (List D)) : Prop := jA (WA X es) X.K T W vEs m
theorem xR.unpr {K : PySem.W.Frag} {T : Tb} {B : Bs} {σ : L2.St} {w : Wd} {H : Hp} {fr : Fr} {p : Addr} {o : HO} {vs : List V} {ds : List D} {ps : List Addr} (x : xR K T (B.pr p o) σ w H fr vs ds ps) : xR K T B σ w H fr vs ds ps ∧ p ∉ ps := by
 induction x with
 | nil => exact ⟨.nil, by simp⟩
 | val r _ ih => exact ⟨.val r ih.1, ih.2⟩
 | @own q u d vs ds ps O lo e r nq _ ih =>
   refine ⟨.own O.unpr lo e r nq ih.1, fun z => ?_⟩
   rcases List.mem_cons.mp z with z | z
   · exact O.p (p, o) (ak4) z
   · exact ih.2 z
theorem xR.length {K : PySem.W.Frag} {T : Tb} {B : Bs} {σ : L2.St} {w : Wd} {H : Hp} {fr : Fr} {vs : List V} {ds : List D} {ps : List Addr} (x : xR K T B σ w H fr vs ds ps) : vs.length = ds.length := by
 induction x with
 | nil => rfl
 | val _ _ ih => exact congrArg Nat.succ ih
 | own _ _ _ _ _ _ ih => exact congrArg Nat.succ ih
theorem aZ.pr {α β : Type} {K : PySem.W.Frag} {T : Tb} {B : Bs} {W : WX} {VR VR' : Wd → Hp → Fr → β → α → Prop} {w : Wd} {σ : L2.St} {p : Addr} {o : HO} {r : R α} {Q Q' : β → Hp → Prop} (e0 : B.H0 p = none) (hP : ∀ q ∈ B.P, q.1 ≠ p) (x : aZ K T B W VR w σ r Q)
 (k : ∀ d fr h w' H' v, r = .ok d fr h → w.le w' → Rel K T (B.pr p o) w' σ H' fr h → VR' w' H' fr v d → (∀ w2 H2 v2, w.le w2 → Rel K T B w2 σ H2 fr h → VR w2 H2 fr v2 d → Q v2 H2) → Q' v H') : aZ K T (B.pr p o) W VR' w σ r Q' := by
 cases r with
 | ok d fr h => exact fun w' H' v l R z => k d fr h w' H' v rfl l R z x
 | exc e fr h => exact fun w' H' c dd l R z => x w' H' c dd l (R.unprotect e0 hP).1 z
 | err => exact x
section
variable {X : Cx} {T : Tb} {W : WX} {e : Expr} {es : List Expr} {m : M D} {ms : List (M D)}
theorem Ws : Tr X T W [] (ak []) := fun B w σ H fr h Q r1 p => Tq pa_nil (p w H _ (Wd.le_refl _) r1 ⟨[], .nil⟩)
theorem Hz (s : sG X T W e m) (t : Tr X T W es (ak ms)) (hs : starEach (e :: es) X.env = (false, eval e X.env) :: starEach es X.env := by exact eE rfl) : Tr X T W (e :: es) (ak (m :: ms)) := fun B w σ H fr h Q r1 p =>
 Tq (pa_cons bF JR hs) (s B w σ H fr h _ r1 (aZ.bind (VR := vE X.K T B σ) p fun d fr1 h1 w1 H1 x e1 l1 r1 rx p1 => by
  rcases rx with rx | ⟨q, o, rfl, O, lo, eH, rd⟩
  · exact t B w1 σ H1 fr1 h1 _ r1 (aZ.bind (VR := vEs X.K T B σ) p1 fun ds fr2 h2 w2 H2 vs e2 l2 r2 ⟨ps, rs⟩ p2 => p2 w2 H2 _ (Wd.le_refl _) r2 ⟨ps, .val (rx.mono l2) rs⟩)
  · refine t (B.pr q o) w1 σ H1 fr1 h1 _ (r1.protect O lo eH (fun vs z => by subst z; cases rd)) ?_
    have p1' : aZ X.K T B W (vEs X.K T B σ) w1 σ ((ak ms).bind (fun ds => M.ret (d :: ds)) fr1 h1) Q := p1
    cases e2 : ak ms fr1 h1 with
    | ok ds fr2 h2 =>
      rw [M.bind_ok e2] at p1'
      intro w2 H2 vs l2 r2 ⟨ps, rs⟩
      obtain ⟨r3, O3, lo3, eH3⟩ := r2.unprotect O.e O.p
      obtain ⟨rs', np⟩ := rs.unpr
      exact p1' w2 H2 (.ref q :: vs) l2 r3 ⟨q :: ps, .own O3 lo3 eH3 (rd.mono l2) np rs'⟩
    | exc y fr2 h2 =>
      rw [M.bind_exc e2] at p1'
      exact fun w' H' c dd l R z => p1' w' H' c dd l (R.unprotect O.e O.p).1 z
    | err =>
      rw [M.bind_err e2] at p1'
      exact p1'))
end
def LR (is : List Nat) (σ' σ : L2.St) : Prop := σ'.length = σ.length ∧ ∀ j : Nat, j ∉ is → σ'[j]? = σ[j]?
def zQ (X : Cx) (T : Tb) (is : List Nat) (tg : Expr) (mg : D → M Unit) : Prop := ∀ B w σ H fr h x d (Q : L2.St → Hp → Prop), Rel X.K T B w σ H fr h → bO X.K T w x d →
 (match mg d fr h with
  | .ok _ fr' h' => ∀ w' σ' H', w.le w' → Rel X.K T B w' σ' H' fr' h' → LR is σ' σ → Q σ' H'
  | _ => False) → WG X tg x σ H Q
def Tt (X : Cx) (T : Tb) (is : List Nat) (tgs : List Expr) (mg : List D → M Unit) : Prop := ∃ t, PGs X tgs t ∧ ∀ B w σ H fr h xs ds (Q : L2.St → Hp → Prop), Rel X.K T B w σ H fr h → az X.K T w xs ds →
 (match mg ds fr h with
  | .ok _ fr' h' => ∀ w' σ' H', w.le w' → Rel X.K T B w' σ' H' fr' h' → LR is σ' σ → Q σ' H'
  | _ => False) → t xs σ H Q
def aR (i : Nat) (d : D) : M Unit := fun fr h => .ok () (fr.set i (some d)) h
def dJ : List D → M Unit
 | [] => M.ret ()
 | _ => M.opt none
def aU (g : D → M Unit) (gs : List D → M Unit) : List D → M Unit
 | [] => M.opt none
 | d :: ds => (g d).bind fun _ => gs ds
def dH (n : Nat) (gs : List D → M Unit) (d : D) : M Unit := match d with
 | .tup l => if l.length = n then gs l else M.opt none
 | _ => M.opt none
section
variable {X : Cx} {T : Tb} {W : WX} {k : Nat} {pos : Pos} {tg : Expr} {tgs : List Expr} {g : D → M Unit} {gs : List D → M Unit} {is js : List Nat}
theorem bJ (C : Cq X T W k) (i : Nat) {x : Str} (hi : X.N[i]? = some x := by rfl) (hx : Loc X.env.scope x := by first | exact Or.inl rfl | exact Or.inr rfl) (hf : X.fn x = true ∨ X.env.scope.names.lookup x = some .local := by first | exact .inl rfl | exact .inr rfl) :
 zQ X T [i] (.Name x pos) (aR i) := fun B w σ H fr h v d Q R rd p => XJ (pg_name C.nd hi hx hf) (p w _ H (Wd.le_refl _) (R.set_slot (.val rd) (fun _ _ _ e od => by
 cases e
 exact (vW od rd).elim) fun _ _ e => by
 cases e
 exact Hv rd) ⟨ak8, fun j hj => by
  rw [ak7]
  intro e
  exact hj (by simp [e])⟩)
theorem oH : Tt X T [] [] dJ := ⟨_, pgs_nil, fun B w σ H fr h vs ds Q R rd p => by
 cases rd with
 | nil => exact ⟨rfl, p w σ H (Wd.le_refl _) R ⟨rfl, fun _ _ => rfl⟩⟩
 | cons _ _ => exact p.elim⟩
theorem dC (s : zQ X T is tg g) (t : Tt X T js tgs gs) (hs : (assignEach (tg :: tgs) X.env).map (·.2) = assign tg X.env :: (assignEach tgs X.env).map (·.2) := by rfl) : Tt X T (is ++ js) (tg :: tgs) (aU g gs) := by
 obtain ⟨u, pu, t⟩ := t
 refine ⟨_, pgs_cons Pu pu hs, fun B w σ H fr h vs ds Q R rd p => ?_⟩
 cases rd with
 | nil => exact p.elim
 | @cons v d vr dr r rr =>
   refine ⟨v, vr, rfl, s B w σ H fr h v d _ R r ?_⟩
   have p' : (match (g d).bind (fun _ => gs dr) fr h with
    | .ok _ fr' h' => ∀ w' σ' H', w.le w' → Rel X.K T B w' σ' H' fr' h' → LR (is ++ js) σ' σ → Q σ' H'
    | _ => False) := p
   cases e : g d fr h with
   | ok _ fr1 h1 =>
     rw [M.bind_ok e] at p'
     intro w1 σ1 H1 l1 R1 k1
     refine t B w1 σ1 H1 fr1 h1 vr dr Q R1 (rr.mono l1) ?_
     cases e2 : gs dr fr1 h1 with
     | ok _ fr2 h2 =>
       rw [e2] at p'
       exact fun w2 σ2 H2 l2 R2 k2 => p' w2 σ2 H2 (Wd.le_trans l1 l2) R2 ⟨k2.1.trans k1.1, fun j hj => by
        rw [List.mem_append, not_or] at hj
        rw [k2.2 j hj.2, k1.2 j hj.1]⟩
     | exc _ _ _ => rw [e2] at p'; exact p'
     | err => rw [e2] at p'; exact p'
   | exc y fr1 h1 =>
     rw [M.bind_exc e] at p'
     exact p'.elim
   | err =>
     rw [M.bind_err e] at p'
     exact p'.elim
theorem qu (C : Cq X T W k) {kk : Nat} {n : Nat} (t : Tt X T is tgs gs) (hn : (assignEach tgs X.env).length = n := by rfl) (hst : (assignEach tgs X.env).findIdx? (·.1) = none := by rfl) : zQ X T is (.Tuple tgs kk pos) (dH n gs) := by
 obtain ⟨u, pu, t⟩ := t
 refine fun B w σ H fr h x d Q R rd p => XJ (pg_tup C.calm pu hn hst) ?_
 cases d with
 | tup l =>
   have p' : (match (if l.length = n then gs l else M.opt none) fr h with
    | .ok _ fr' h' => ∀ w' σ' H', w.le w' → Rel X.K T B w' σ' H' fr' h' → LR is σ' σ → Q σ' H'
    | _ => False) := p
   by_cases hl : l.length = n
   · rw [if_pos hl] at p'
     obtain ⟨a, vs, rfl, sq, rl⟩ := vX rd
     exact ⟨a, vs, rfl, dR R.sub sq, rl.length.trans hl, t B w σ H fr h vs l Q R rl p'⟩
   · rw [if_neg hl] at p'
     exact p'.elim
 | _ => exact (show False from p).elim
def wI : List Nat → List D → Fr → Option Fr
 | [], [], fr => some fr
 | i :: is, d :: ds, fr => wI is ds (fr.set i (some d))
 | _, _, _ => none
theorem Rel.putV {K : PySem.W.Frag} {B : Bs} {w : Wd} {σ : L2.St} {H : Hp} {fr : Fr} {h : Hh} {v : V} {d : D} (R : Rel K T B w σ H fr h) (i : Nat) (r : bO K T w v d) : Rel K T B w (σ.set i (some v)) H (fr.set i (some d)) h :=
 R.set_slot (.val r) (fun _ _ _ e od => by
  cases e
  exact (vW od r).elim) fun _ _ e => by
  cases e
  exact Hv r
theorem Rel.put {K : PySem.W.Frag} {B : Bs} {w : Wd} {σ : L2.St} {H : Hp} {fr : Fr} {h : Hh} {v : V} {d : D} (R : Rel K T B w σ H fr h) (i : Nat) (hi : i ≠ 0) (x : vE K T B σ w H fr v d) : Rel K T B w (σ.set i (some v)) H (fr.set i (some d)) h := by
 rcases x with r | ⟨p, o, rfl, O, lo, e, r⟩
 · exact R.putV i r
 · exact R.set_slot (.own O e r) (fun q d' e1 e2 od => by
    cases e1
    cases e2
    exact lo) fun z => (hi z).elim
theorem J8 {σ : L2.St} {fr : Fr} {i : Nat} {v : V} {d : D} {p : Addr} (lo : vz σ fr p) (hv : d.own = true → v ≠ .ref p) : vz (σ.set i (some v)) (fr.set i (some d)) p := fun j z => by
 obtain ⟨e1, dd, e2, od⟩ := z
 by_cases hj : i = j
 · subst hj
   have l1 : i < σ.length := by
    have := (List.getElem?_eq_some_iff.mp e1).1
    rwa [ak8] at this
   have l2 : i < fr.length := by
    have := (List.getElem?_eq_some_iff.mp e2).1
    rwa [ak8] at this
   rw [ak9 l1] at e1
   rw [ak9 l2] at e2
   cases e1
   cases e2
   exact hv od rfl
 · rw [ak7 hj] at e1 e2
   exact lo j ⟨e1, dd, e2, od⟩
theorem xR.set {K : PySem.W.Frag} {B : Bs} {w : Wd} {σ : L2.St} {H : Hp} {fr : Fr} {vs : List V} {ds : List D} {ps : List Addr} {i : Nat} {v : V} {d : D} (x : xR K T B σ w H fr vs ds ps) (hv : ∀ p ∈ ps, d.own = true → v ≠ .ref p) :
 xR K T B (σ.set i (some v)) w H (fr.set i (some d)) vs ds ps := by
 induction x with
 | nil => exact .nil
 | val r _ ih => exact .val r (ih hv)
 | own O lo e r nq _ ih => exact .own O (J8 lo (hv _ (ak4))) e r nq (ih fun q hq => hv q (alb _ hq))
def ahS (X : Cx) (T : Tb) (is : List Nat) (tgs : List Expr) : Prop := ∃ t, PGs X tgs t ∧ ∀ B w σ H fr fr' h xs ds ps (Q : L2.St → Hp → Prop), Rel X.K T B w σ H fr h → xR X.K T B σ w H fr xs ds ps → wI is ds fr = some fr' →
 (∀ σ', Rel X.K T B w σ' H fr' h → Q σ' H) → t xs σ H Q
end
def vJ : kE It (List D) := fun K T _ _ w _ _ J ds => ∀ i w1 H1, w.le w1 → (∀ a o, w1.F a = some o → H1 a = some o) →
 (ds.length ≤ i → J.stop i H1) ∧ ∀ d, ds[i]? = some d → J.go i H1 ∧ ∀ x H2, J.yld i H1 x H2 → ∀ B σ fr h, Rel K T B w1 σ H1 fr h → ∃ w2, w1.le w2 ∧ Rel K T B w2 σ H2 fr h ∧ bO K T w2 x d
abbrev J9 (X : Cx) (T : Tb) (W : WX) (tg iter : Expr) (m : M (List D)) : Prop := jA (WI X tg iter) X.K T W vJ m
section
variable {X : Cx} {T : Tb} {W : WX} {k : Nat} {pos p pf tpos : Pos} {tg e a b : Expr} {m ma mb : M D}
def rB (m : M D) : M (List D) := m.bind fun d => M.opt (d.its [])
theorem acj {K : PySem.W.Frag} {w : Wd} {v : V} {d : D} {l : List D} (r : bO K T w v d) (e : d.its [] = some l) : ∃ p vs, v = .ref p ∧ az K T w vs l ∧ (SqT K w.F p vs ∨ SqL K w.F p vs) := by
 cases r with
 | tup s r =>
   have e' : some _ = some l := e
   cases e'
   exact ⟨_, _, rfl, r, .inl s⟩
 | fl s r =>
   have e' : some _ = some l := e
   cases e'
   exact ⟨_, _, rfl, r, .inr (SqL.of s)⟩
 | kl s r =>
   have e' : some _ = some l := e
   cases e'
   exact ⟨_, _, rfl, r, .inr s⟩
 | tp s r =>
   have e' : some _ = some l := e
   cases e'
   exact ⟨_, _, rfl, r, .inl (.inl (.inl s))⟩
 | ref s => cases e
 | _ => cases e
def af4 (K : PySem.W.Frag) (tl : TE) : TI := fun σ H R => tl σ H fun x H1 => ∃ a, x = .ref a ∧ (((∃ xs, SqT K H1 a xs) ∧ R (Itt K a) H1) ∨ ((∃ xs, SqL K H1 a xs) ∧ R (Itl K a) H1))
open PyProof.Rows in
theorem adK {l : Expr} {tl : TE} (hl : PE X l tl) : PI X tg l (af4 X.K tl) := by
 refine ⟨fun pins s σ H R I h => ?_⟩
 refine thn (hl.run pins s σ H _ I h) fun v s1 ⟨x, H1, I1, r1, q1⟩ => ?_
 obtain ⟨a, e, ⟨⟨xs, hq⟩, q⟩ | ⟨⟨xs, hq⟩, q⟩⟩ := q1
 · subst e
   cases r1
   obtain ⟨its, rv, p, hz⟩ := I1.tuple hq
   refine wpAny_pyIter_tuple (show s1.heap.IsTuple a its.toArray from p) ?_
   refine ⟨s1.heap.objs.size, [s1.heap.objs.size], _, _, H1, rfl, I1.kept (t' := s1.toks) fun b o e => Heap.get?_push_of_some _ e, turn_tuple a _, ⟨_, Heap.get?_push_size _ rfl, rfl, rfl⟩, fun b hb => ?_, q⟩
   have e : b = s1.heap.objs.size := by simpa using hb
   subst e
   exact I1.fpOk (Nat.le_refl _) (I1.hok.fresh (Nat.le_refl _))
 · subst e
   cases r1
   obtain ⟨its, rv, p, hz⟩ := I1.list hq
   refine wpAny_pyIter_list p.isList ?_
   refine ⟨s1.heap.objs.size, [s1.heap.objs.size], _, _, H1, rfl, I1.kept (t' := s1.toks) fun b o e => Heap.get?_push_of_some _ e, turn_list a _, ⟨_, Heap.get?_push_size _ rfl, rfl, rfl⟩, fun b hb => ?_, q⟩
   have e : b = s1.heap.objs.size := by simpa using hb
   subst e
   exact I1.fpOk (Nat.le_refl _) (I1.hok.fresh (Nat.le_refl _))
theorem adL {K : PySem.W.Frag} {B : Bs} {σ : L2.St} {w : Wd} {H : Hp} {fr : Fr} {a : Addr} {vs : List V} {l : List D} (sq : SqT K w.F a vs) (rl : az K T w vs l) : vJ K T B σ w H fr (Itt K a) l := fun i w2 H2 l2 hs => ⟨fun hi => ⟨vs, dR hs (dR l2.1 sq), by rw [rl.length]; exact hi⟩, fun d' hd => by
 obtain ⟨v, hv, rv⟩ := rl.get hd
 refine ⟨⟨vs, v, dR hs (dR l2.1 sq), hv⟩, fun y H3 hy B' σ' fr' h' R' => ?_⟩
 obtain ⟨rfl, hy⟩ := hy
 have z := hy vs (dR hs (dR l2.1 sq))
 rw [hv] at z
 cases z
 exact ⟨w2, Wd.le_refl _, R', rv.mono l2⟩⟩
theorem adM {K : PySem.W.Frag} {B : Bs} {σ : L2.St} {w : Wd} {H : Hp} {fr : Fr} {a : Addr} {vs : List V} {l : List D} (sq : SqL K w.F a vs) (rl : az K T w vs l) : vJ K T B σ w H fr (Itl K a) l := fun i w2 H2 l2 hs => ⟨fun hi => ⟨vs, iJ hs (iJ l2.1 sq), by rw [rl.length]; exact hi⟩, fun d' hd => by
 obtain ⟨v, hv, rv⟩ := rl.get hd
 refine ⟨⟨vs, v, iJ hs (iJ l2.1 sq), hv⟩, fun y H3 hy B' σ' fr' h' R' => ?_⟩
 obtain ⟨rfl, hy⟩ := hy
 have z := hy vs (iJ hs (iJ l2.1 sq))
 rw [hv] at z
 cases z
 exact ⟨w2, Wd.le_refl _, R', rv.mono l2⟩⟩
theorem uX (s : aX X T W e m) : J9 X T W tg e (rB m) := fun B w σ H fr h Q r p => LQ (adK bF) (s B w σ H fr h _ r (aZ.bind (VR := vV X.K T B σ) p fun d fr1 h1 w1 H1 x e1 l1 r1 rx p1 => by
 cases q : d.its [] with
 | none => rw [q] at p1; exact p1.elim
 | some l =>
   rw [q] at p1
   obtain ⟨a, vs, rfl, rl, sq⟩ := acj rx q
   refine ⟨a, rfl, ?_⟩
   rcases sq with sq | sq
   · exact .inl ⟨⟨vs, dR r1.sub sq⟩, p1 w1 H1 (Itt X.K a) (Wd.le_refl _) r1 (adL sq rl)⟩
   · exact .inr ⟨⟨vs, iJ r1.sub sq⟩, p1 w1 H1 (Itl X.K a) (Wd.le_refl _) r1 (adM sq rl)⟩))
def fV (lo : Int) (n : Nat) : List D := (akS n).map fun (i : Nat) => D.int (lo + (i : Int))
def z7 (i : Int) : Bool := decide (-(2 ^ 62) ≤ i) && decide (i < 2 ^ 62)
theorem adN {i : Int} (h : z7 i = true) : -(2 ^ 62) ≤ i ∧ i < 2 ^ 62 := by
 obtain ⟨h1, h2⟩ := Bool.and_eq_true_iff.mp h
 exact ⟨of_decide_eq_true h1, of_decide_eq_true h2⟩
def dO (m : M D) : M (List D) := m.bind fun d => M.opt (match d with
 | .int j => if z7 j then some (fV 0 j.toNat) else none
 | _ => none)
def ahT (ma mb : M D) : M (List D) := ma.bind fun x => mb.bind fun y => M.opt (match x, y with
 | .int i, .int j => if z7 i && z7 j then some (fV i (j - i).toNat) else none
 | _, _ => none)
theorem adP {K : PySem.W.Frag} {B : Bs} {σ : L2.St} {w : Wd} {H : Hp} {fr : Fr} (lo : Int) (n : Nat) : vJ K T B σ w H fr (Itr lo n) (fV lo n) := fun i w2 H2 l2 hs => ⟨fun hi => by
 have hi' : (fV lo n).length ≤ i := hi
 unfold fV at hi'
 rw [akW, ak1] at hi'
 exact hi', fun d' hd => by
 unfold fV at hd
 rw [ak5] at hd
 obtain ⟨j, hj, rfl⟩ := Option.map_eq_some_iff.mp hd
 obtain ⟨hl, ej⟩ := List.getElem?_eq_some_iff.mp hj
 rw [ak1] at hl
 rw [List.getElem_range] at ej
 subst ej
 refine ⟨hl, fun y H3 hy B' σ' fr' h' R' => ?_⟩
 obtain ⟨rfl, rfl⟩ := hy
 exact ⟨w2, Wd.le_refl _, R', .int _⟩⟩
theorem lu (s : aX X T W a ma) (hm : X.mg "range" = none) (hg : Gl X "range" := by rfl) (hs : starEach [a] X.env = [(false, eval a X.env)] := by rfl) : J9 X T W tg (.Call (.Name "range" p) [a] [] pos) (dO ma) := fun B w σ H fr h Q r p =>
 LQ (pi_range1 hg hm (pa_cons bF pa_nil (hs.trans (by rfl))) hs) (s B w σ H fr h _ r (aZ.bind (VR := vV X.K T B σ) p fun d fr1 h1 w1 H1 x e1 l1 r1 rx p1 => by
  cases rx with
  | int j =>
    dsimp only at p1
    cases hj : z7 j with
    | false => rw [hj] at p1; exact (show False from p1).elim
    | true =>
      rw [hj] at p1
      obtain ⟨h1', h2'⟩ := adN hj
      exact ⟨j, rfl, h1', h2', p1 w1 H1 (Itr 0 j.toNat) (Wd.le_refl _) r1 (adP 0 _)⟩
  | _ => exact (show False from p1).elim))
end
end Pk
namespace Pk
open PySem PySem.Spec L2
inductive Fl where
 | nx | brk | ct | rt (d : D)
def dh (K : PySem.W.Frag) (T : Tb) (B : Bs) (W : WX) (w : Wd) (r : R Fl) (D : Ends) : Prop :=
 match r with
 | .ok .nx fr h => ∀ w' σ' H', w.le w' → Rel K T B w' σ' H' fr h → D.nx σ' H'
 | .ok .brk fr h => ∀ w' σ' H', w.le w' → Rel K T B w' σ' H' fr h → D.bk σ' H'
 | .ok .ct fr h => ∀ w' σ' H', w.le w' → Rel K T B w' σ' H' fr h → D.ct σ' H'
 | .ok (.rt d) fr h => ∀ w' σ' H' v, w.le w' → Rel K T B w' σ' H' fr h → vE K T B σ' w' H' fr v d → D.rt v H'
 | .exc x fr h => ∀ w' σ' H' cls dd, w.le w' → Rel K T B w' σ' H' fr h → QH K T w' x cls dd → W cls dd σ' H'
 | .err => False
def sJ (X : Cx) (T : Tb) (W : WX) (st : Stmt) (m : M Fl) : Prop := ∀ (B : Bs) (w : Wd) (σ : L2.St) (H : Hp) (fr : Fr) (h : Hh) (D : Ends), Rel X.K T B w σ H fr h → dh X.K T B W w (m fr h) D → WS X st D σ H
def wJ (X : Cx) (T : Tb) (W : WX) (sts : List Stmt) (m : M Fl) : Prop := ∀ (B : Bs) (w : Wd) (σ : L2.St) (H : Hp) (fr : Fr) (h : Hh) (D : Ends), Rel X.K T B w σ H fr h → dh X.K T B W w (m fr h) D → YJ X sts D σ H
section
variable {K : PySem.W.Frag} {T : Tb} {B : Bs} {W : WX} {w w' : Wd} {σ : L2.St} {H : Hp}
theorem dh.le {r : R Fl} {D : Ends} (x : w.le w') (p : dh K T B W w r D) : dh K T B W w' r D := by
 cases r with
 | ok f fr h =>
   cases f with
   | rt d => exact fun w2 σ2 H2 v y => p w2 σ2 H2 v (Wd.le_trans x y)
   | _ => exact fun w2 σ2 H2 y => p w2 σ2 H2 (Wd.le_trans x y)
 | exc e fr h => exact fun w2 σ2 H2 c d y => p w2 σ2 H2 c d (Wd.le_trans x y)
 | err => exact p
theorem dh.bind {α β : Type} {VR : Wd → Hp → Fr → β → α → Prop} {m : M α} {f : α → M Fl} {fr : Fr} {h : Hh} {D : Ends} {Q : β → Hp → Prop} (p : dh K T B W w (m.bind f fr h) D)
 (k : ∀ d fr1 h1 w1 H1 v, m fr h = .ok d fr1 h1 → w.le w1 → Rel K T B w1 σ H1 fr1 h1 → VR w1 H1 fr1 v d → dh K T B W w1 (f d fr1 h1) D → Q v H1) : aZ K T B W VR w σ (m fr h) Q := by
 cases e : m fr h with
 | ok d fr1 h1 =>
   rw [M.bind_ok e] at p
   exact fun w1 H1 v x r z => k d fr1 h1 w1 H1 v e x r z (p.le x)
 | exc y fr1 h1 =>
   rw [M.bind_exc e] at p
   exact fun w1 H1 c dd x r z => p w1 σ H1 c dd x r z
 | err =>
   rw [M.bind_err e] at p
   exact p
end
def aD (m n : M Fl) : M Fl := m.bind fun f => match f with
 | .nx => n
 | f => M.ret f
def fu (t : M Bool) (m n : M Fl) : M Fl := t.bind fun b => if b then m else n
def oJ {α : Type} (m : M α) : M Fl := m.bind fun _ => M.ret .nx
def cO (m : M D) : M Fl := m.bind fun d => M.ret (.rt d)
def bu (i : Nat) (m : M D) : M Fl := m.bind fun d fr h => .ok .nx (fr.set i (some d)) h
def Ka (m : M D) (g : D → M Unit) : M Fl := m.bind fun d fr h => match g d fr h with
 | .ok _ fr h => .ok .nx fr h
 | _ => .err
def CP (is : List Nat) (m : M (List D)) : M Fl := m.bind fun ds fr h => match wI is ds fr with
 | some fr' => if ds.length ≤ big then .ok .nx fr' h else .err
 | none => .err
section
variable {X : Cx} {T : Tb} {W : WX} {k : Nat} {pos pos' p2 : Pos} {e a b c : Expr} {st : Stmt} {sts as bs : List Stmt} {m : M D} {s n : M Fl} {t : M Bool} {es : List Expr}
theorem mG : wJ X T W [] (M.ret .nx) := fun B w σ H fr h D R p => QJ pss_nil (p w σ H (Wd.le_refl _) R)
theorem aM (s1 : sJ X T W st s) (s2 : wJ X T W sts n) : wJ X T W (st :: sts) (aD s n) := fun B w σ H fr h D R p =>
 QJ (pss_cons YK ye) (s1 B w σ H fr h _ R (by
  unfold aD at p
  cases e : s fr h with
  | ok f fr1 h1 =>
    rw [M.bind_ok e] at p
    cases f with
    | nx => exact fun w1 σ1 H1 l R1 => s2 B w1 σ1 H1 fr1 h1 D R1 (p.le l)
    | _ => exact p
  | exc y fr1 h1 => rw [M.bind_exc e] at p; exact p
  | err => rw [M.bind_err e] at p; exact p))
theorem bT (s1 : sJ X T W st s) : wJ X T W [st] s := fun B w σ H fr h D R p => QJ (pss_one YK) (s1 B w σ H fr h _ R p)
theorem adQ : sJ X T W (.Pass pos) (M.ret .nx) := fun B w σ H fr h D R p => qp ps_pass (p w σ H (Wd.le_refl _) R)
theorem Px : sJ X T W (.Continue pos) (M.ret .ct) := fun B w σ H fr h D R p => qp ps_continue (p w σ H (Wd.le_refl _) R)
theorem zp {VR : kE V D} (s : jA (WE X e) X.K T W VR m) (hs : swapsWith e none pos.line X.env = pure false := by rfl) : sJ X T W (.Expr e pos) (oJ m) := fun B w σ H fr h D R p =>
 qp (ps_expr bF hs) (s B w σ H fr h _ R (dh.bind (VR := VR X.K T B σ) p fun d fr1 h1 w1 H1 v e1 l1 r1 rx p1 => p1 w1 σ H1 (Wd.le_refl _) r1))
theorem s_ret (s : sG X T W e m) : sJ X T W (.Return (some e) pos) (cO m) := fun B w σ H fr h D R p =>
 qp (ps_ret bF) (s B w σ H fr h _ R (dh.bind (VR := vE X.K T B σ) p fun d fr1 h1 w1 H1 v e1 l1 r1 rx p1 => p1 w1 σ H1 v (Wd.le_refl _) r1 rx))
theorem pZ (st : yf X T W c t) (sa : wJ X T W as s) (sb : wJ X T W bs n) : sJ X T W (.If c as bs pos) (fu t s n) := fun B w σ H fr h D R p =>
 qp (ps_if wD ye ye) (st B w σ H fr h _ R (dh.bind (VR := vB X.K T B σ) p fun d fr1 h1 w1 H1 x e1 l1 r1 rx p1 => by
  have rx' : x = d := rx
  subst rx'
  cases x with
  | true => exact sa B w1 σ H1 fr1 h1 D r1 p1
  | false => exact sb B w1 σ H1 fr1 h1 D r1 p1))
theorem oK (C : Cq X T W k) (i : Nat) {x : Str} (s : sG X T W e m) (hs : swapsWith e (some (.Name x pos')) pos.line X.env = pure false := by rfl) (hi : X.N[i]? = some x := by rfl) (hx : Loc X.env.scope x := by first | exact Or.inl rfl | exact Or.inr rfl)
 (hf : X.fn x = true ∨ X.env.scope.names.lookup x = some .local := by first | exact .inl rfl | exact .inr rfl) (h0 : i ≠ 0 := by decide) : sJ X T W (.Assign [.Name x pos'] e pos) (bu i m) := fun B w σ H fr h D R p =>
 qp (ps_set C.nd hi hx bF hs hf) (s B w σ H fr h _ R (dh.bind (VR := vE X.K T B σ) p fun d fr1 h1 w1 H1 v e1 l1 r1 rx p1 => p1 w1 _ H1 (Wd.le_refl _) (r1.put i h0 rx)))
theorem jB (C : Cq X T W k) (i : Nat) {x : Str} (s : aX X T W e m) (hs : swapsWith e (some (.Name x pos')) pos.line X.env = pure false := by rfl) (hi : X.N[i]? = some x := by rfl) (hx : Loc X.env.scope x := by first | exact Or.inl rfl | exact Or.inr rfl)
 (hf : X.fn x = true ∨ X.env.scope.names.lookup x = some .local := by first | exact .inl rfl | exact .inr rfl) : sJ X T W (.Assign [.Name x pos'] e pos) (bu i m) := fun B w σ H fr h D R p =>
 qp (ps_set C.nd hi hx bF hs hf) (s B w σ H fr h _ R (dh.bind (VR := vV X.K T B σ) p fun d fr1 h1 w1 H1 v e1 l1 r1 rx p1 => p1 w1 _ H1 (Wd.le_refl _) (r1.putV i rx)))
theorem s_asg {tg : Expr} {is : List Nat} {g : D → M Unit} (s : aX X T W e m) (sg : zQ X T is tg g) (hs : swapsWithSole [tg] e pos.line X.env = pure false := by rfl) (hw : swappedStores [tg] e X.env = pure none := by rfl)
 (h1 : (assignEach [tg] X.env).map (·.2) = [assign tg X.env] := by rfl) : sJ X T W (.Assign [tg] e pos) (Ka m g) := fun B w σ H fr h D R p =>
 qp (ps_asg bF Pu hs hw h1) (s B w σ H fr h _ R (dh.bind (VR := vV X.K T B σ) p fun d fr1 h1 w1 H1 v e1 l1 r1 rx p1 => sg B w1 σ H1 fr1 h1 v d _ r1 rx (by
  cases e2 : g d fr1 h1 with
  | ok u fr2 h2 =>
    rw [e2] at p1
    exact fun w2 σ2 H2 l2 r2 _ => p1 w2 σ2 H2 l2 r2
  | exc y fr2 h2 =>
    rw [e2] at p1
    exact p1.elim
  | err =>
    rw [e2] at p1
    exact p1.elim)))
theorem xR.temp {K : PySem.W.Frag} {B : Bs} {σ : L2.St} {w : Wd} {H : Hp} {fr : Fr} {vs : List V} {ds : List D} {ps : List Addr} {p : Addr} {o : HO} (x : xR K T B σ w H fr vs ds ps) (np : H p = none) : xR K T B σ w (upd H p o) fr vs ds ps := by
 induction x with
 | nil => exact .nil
 | val r _ ih => exact .val r ih
 | own O lo e r nq _ ih => exact .own O lo (by rw [upd_ne (ne_of_none e np)]; exact e) r nq ih
theorem Y5 (C : Cq X T W k) (i j : Nat) {x y : Str} {px py pt : Pos} {kt k2 : Nat} {pt2 : Pos} {ms : M (List D)} (se : Tr X T W [a, b] ms) (hi : X.N[i]? = some x := by rfl) (hj : X.N[j]? = some y := by rfl) (hij : i ≠ j := by decide) (i0 : i ≠ 0 := by decide) (j0 : j ≠ 0 := by decide)
 (hx : X.env.scope.names.lookup x = some .local := by rfl) (hy : X.env.scope.names.lookup y = some .local := by rfl)
 (hw : swappedStores [.Tuple [.Name x px, .Name y py] kt pt] (.Tuple [a, b] k2 pt2) X.env = pure (some [x, y]) := by rfl)
 (hs : swapsWithSole [.Tuple [.Name x px, .Name y py] kt pt] (.Tuple [a, b] k2 pt2) pos.line X.env = pure false := by rfl) :
 sJ X T W (.Assign [.Tuple [.Name x px, .Name y py] kt pt] (.Tuple [a, b] k2 pt2) pos) (CP [i, j] ms) := fun B w σ H fr h D R p =>
 qp (ps_par C.calm C.nd hi hj hij hx hy JR hw hs) (se B w σ H fr h _ R (dh.bind (VR := vEs X.K T B σ) p fun ds fr1 h1 w1 H1 vs e1 l1 r1 ⟨ps, rs⟩ p1 => by
  have two : ∃ d e, ds = [d, e] := by
   cases ds with
   | nil => exact (show False from p1).elim
   | cons d ds =>
     cases ds with
     | nil => exact (show False from p1).elim
     | cons e ds =>
       cases ds with
       | nil => exact ⟨d, e, rfl⟩
       | cons _ _ => exact (show False from p1).elim
  obtain ⟨d, e, rfl⟩ := two
  have p2 : dh X.K T B W w1 (.ok .nx ((fr1.set i (some d)).set j (some e)) h1) D := p1
  cases rs with
  | val r1' rr =>
    cases rr with
    | val r2' rr =>
      cases rr
      exact ⟨_, _, rfl, p2 w1 _ H1 (Wd.le_refl _) ((r1.put i i0 (.inl r1')).put j j0 (.inl r2'))⟩
    | own O lo eH r2' nq rr =>
      cases rr
      exact ⟨_, _, rfl, p2 w1 _ H1 (Wd.le_refl _) ((r1.put i i0 (.inl r1')).put j j0 (.inr ⟨_, _, rfl, O, J8 lo fun od => (vW od r1').elim, eH, r2'⟩))⟩
  | own O lo eH r1' nq rr =>
    cases rr with
    | val r2' rr =>
      cases rr
      exact ⟨_, _, rfl, p2 w1 _ H1 (Wd.le_refl _) ((r1.put i i0 (.inr ⟨_, _, rfl, O, lo, eH, r1'⟩)).put j j0 (.inl r2'))⟩
    | own O2 lo2 eH2 r2' nq2 rr =>
      cases rr
      exact ⟨_, _, rfl, p2 w1 _ H1 (Wd.le_refl _) ((r1.put i i0 (.inr ⟨_, _, rfl, O, lo, eH, r1'⟩)).put j j0 (.inr ⟨_, _, rfl, O2, J8 lo2 fun od z => by
       cases z
       exact nq (by simp), eH2, r2'⟩))⟩))
end
end Pk
namespace Pk
open PySem PySem.Spec L2
def ou (g : D → M Unit) (b : M Fl) : List D → M Fl
 | [] => M.ret .nx
 | d :: ds => fun fr h => match g d fr h with
   | .ok _ fr h => match b fr h with
     | .ok .nx fr h => ou g b ds fr h
     | .ok .ct fr h => ou g b ds fr h
     | .ok .brk fr h => .ok .nx fr h
     | .ok (.rt d) fr h => .ok (.rt d) fr h
     | .exc x fr h => .exc x fr h
     | .err => .err
   | _ => .err
def gq (l : M (List D)) (g : D → M Unit) (b : M Fl) : M Fl := l.bind fun ds => ou g b ds
def jr (t : M Bool) (b : M Fl) : Nat → M Fl
 | 0 => fun _ _ => .err
 | n + 1 => fun fr h => match t fr h with
   | .ok true fr h => match b fr h with
     | .ok .nx fr h => jr t b n fr h
     | .ok .ct fr h => jr t b n fr h
     | .ok .brk fr h => .ok .nx fr h
     | .ok (.rt d) fr h => .ok (.rt d) fr h
     | .exc x fr h => .exc x fr h
     | .err => .err
   | .ok false fr h => .ok .nx fr h
   | .exc x fr h => .exc x fr h
   | .err => .err
section
variable {X : Cx} {T : Tb} {W : WX} {k : Nat} {pos pos' : Pos} {tg iter c : Expr} {body : List Stmt} {li : M (List D)} {g : D → M Unit} {b : M Fl} {is : List Nat} {t : M Bool}
theorem wL (C : Cq X T W k) (si : J9 X T W tg iter li) (sg : zQ X T is tg g) (sb : wJ X T W body b) (hs : ∀ x, foldedSetIterable iter X.env x = pure x := by intro _; rfl) : sJ X T W (.For tg iter body [] pos) (gq li g b) := fun B w σ H fr h D R p =>
 qp (ps_for C.po C.calm J5 Pu ye hs) (si B w σ H fr h _ R (dh.bind (VR := vJ X.K T B σ) p fun ds fr1 h1 w1 H1 J e1 l1 r1 vj p1 => by
  refine ⟨fun i m σ H => m = ds.length - i ∧ i ≤ ds.length ∧ ∃ w' fr' h', w1.le w' ∧ Rel X.K T B w' σ H fr' h' ∧ dh X.K T B W w' (ou g b (ds.drop i) fr' h') D, ⟨ds.length, by simp, Nat.zero_le _, w1, fr1, h1, Wd.le_refl _, r1, p1⟩, ?_⟩
  rintro i m σ2 H2 ⟨rfl, hi, w2, fr2, h2, l2, r2, p2⟩
  obtain ⟨js, jg⟩ := vj i w2 H2 l2 r2.sub
  by_cases hlt : i < ds.length
  · obtain ⟨go, y⟩ := jg ds[i] (akX hlt)
    refine .inr ⟨go, fun σ' H' => ∃ w' fr' h', w1.le w' ∧ Rel X.K T B w' σ' H' fr' h' ∧ dh X.K T B W w' (ou g b (ds.drop (i + 1)) fr' h') D, fun σ' H' q => ⟨ds.length - (i + 1), by omega, rfl, hlt, q⟩, fun x H3 yx => ?_⟩
    obtain ⟨w3, l3, r3, rx⟩ := y x H3 yx B σ2 fr2 h2 r2
    have ed : ds.drop i = ds[i] :: ds.drop (i + 1) := List.drop_eq_getElem_cons hlt
    rw [ed] at p2
    refine sg B w3 σ2 H3 fr2 h2 x ds[i] _ r3 rx ?_
    unfold ou at p2
    cases e2 : g ds[i] fr2 h2 with
    | ok u fr3 h3 =>
      rw [e2] at p2
      intro w4 σ4 H4 l4 r4 _
      refine sb B w4 σ4 H4 fr3 h3 _ r4 ?_
      have l34 : w1.le w4 := Wd.le_trans l2 (Wd.le_trans l3 l4)
      dsimp only at p2
      cases e3 : b fr3 h3 with
      | ok f fr4 h4 =>
        rw [e3] at p2
        cases f with
        | nx => exact fun w5 σ5 H5 l5 r5 => ⟨w5, fr4, h4, Wd.le_trans l34 l5, r5, p2.le (Wd.le_trans (Wd.le_trans l3 l4) l5)⟩
        | ct => exact fun w5 σ5 H5 l5 r5 => ⟨w5, fr4, h4, Wd.le_trans l34 l5, r5, p2.le (Wd.le_trans (Wd.le_trans l3 l4) l5)⟩
        | brk => exact fun w5 σ5 H5 l5 r5 => p2 w5 σ5 H5 (Wd.le_trans (Wd.le_trans l3 l4) l5) r5
        | rt d => exact fun w5 σ5 H5 v l5 r5 rv => p2 w5 σ5 H5 v (Wd.le_trans (Wd.le_trans l3 l4) l5) r5 rv
      | exc y fr4 h4 =>
        rw [e3] at p2
        exact fun w5 σ5 H5 cc dd l5 r5 z => p2 w5 σ5 H5 cc dd (Wd.le_trans (Wd.le_trans l3 l4) l5) r5 z
      | err => rw [e3] at p2; exact p2
    | exc y fr3 h3 => rw [e2] at p2; exact p2
    | err => rw [e2] at p2; exact p2
  · have e : i = ds.length := by omega
    subst e
    rw [List.drop_length] at p2
    exact .inl ⟨js (Nat.le_refl _), p2 w2 σ2 H2 (Wd.le_refl _) r2⟩))
theorem s_while (C : Cq X T W k) (n : Nat) (st : yf X T W c t) (sb : wJ X T W body b) : sJ X T W (.While c body [] pos) (jr t b n) := fun B w σ H fr h D R p =>
 qp (ps_while C.po wD ye) ⟨fun m σ H => ∃ w' fr' h', w.le w' ∧ Rel X.K T B w' σ H fr' h' ∧ dh X.K T B W w' (jr t b m fr' h') D, ⟨n, w, fr, h, Wd.le_refl _, R, p⟩, fun m σ2 H2 ⟨w2, fr2, h2, l2, r2, p2⟩ => by
  cases m with
  | zero => exact (show False from p2).elim
  | succ m =>
    unfold jr at p2
    refine st B w2 σ2 H2 fr2 h2 _ r2 ?_
    cases e2 : t fr2 h2 with
    | ok c fr3 h3 =>
      rw [e2] at p2
      intro w3 H3 v l3 r3 rv
      have rv' : v = c := rv
      subst rv'
      cases v with
      | false => exact p2 w3 σ2 H3 l3 r3
      | true =>
        rw [if_pos rfl]
        refine ⟨fun σ' H' => ∃ w' fr' h', w.le w' ∧ Rel X.K T B w' σ' H' fr' h' ∧ dh X.K T B W w' (jr t b m fr' h') D, fun σ' H' q => ⟨m, Nat.lt_succ_self m, q⟩, ?_⟩
        refine sb B w3 σ2 H3 fr3 h3 _ r3 ?_
        dsimp only at p2
        cases e3 : b fr3 h3 with
        | ok f fr4 h4 =>
          rw [e3] at p2
          cases f with
          | nx => exact fun w5 σ5 H5 l5 r5 => ⟨w5, fr4, h4, Wd.le_trans l2 (Wd.le_trans l3 l5), r5, p2.le (Wd.le_trans l3 l5)⟩
          | ct => exact fun w5 σ5 H5 l5 r5 => ⟨w5, fr4, h4, Wd.le_trans l2 (Wd.le_trans l3 l5), r5, p2.le (Wd.le_trans l3 l5)⟩
          | brk => exact fun w5 σ5 H5 l5 r5 => p2 w5 σ5 H5 (Wd.le_trans l3 l5) r5
          | rt d => exact fun w5 σ5 H5 v l5 r5 rv => p2 w5 σ5 H5 v (Wd.le_trans l3 l5) r5 rv
        | exc y fr4 h4 =>
          rw [e3] at p2
          exact fun w5 σ5 H5 cc dd l5 r5 z => p2 w5 σ5 H5 cc dd (Wd.le_trans l3 l5) r5 z
        | err => rw [e3] at p2; exact p2
    | exc y fr3 h3 =>
      rw [e2] at p2
      exact fun w3 H3 cc dd l3 r3 z => p2 w3 σ2 H3 cc dd l3 r3 z
    | err => rw [e2] at p2; exact p2⟩
end
def WF : WX := fun _ _ _ _ => False
def fQ (fr : Fr) : List Nat → Fr
 | [] => fr
 | v :: vs => (fQ fr vs).set v none
theorem Kc (fr : Fr) : ∀ vs : List Nat, (fQ fr vs).length = fr.length
 | [] => rfl
 | v :: vs => by unfold fQ; rw [ak8, Kc fr vs]
theorem CQ {fr : Fr} {i : Nat} : ∀ {vs : List Nat}, i ∉ vs → (fQ fr vs)[i]? = fr[i]?
 | [], _ => rfl
 | v :: vs, h => by
   unfold fQ
   rw [List.mem_cons, not_or] at h
   rw [ak7 (Ne.symm h.1), CQ h.2]
theorem qP {fr : Fr} {i : Nat} {d : D} : ∀ {vs : List Nat}, i ∈ vs → (fQ fr vs)[i]? ≠ some (some d)
 | [], h => by cases h
 | v :: vs, h => by
   unfold fQ
   by_cases e : v = i
   · subst e
     by_cases l : v < (fQ fr vs).length
     · rw [ak9 l]
       exact fun z => by cases z
     · rw [alq (by rw [ak8]; omega)]
       exact fun z => by cases z
   · rw [ak7 e]
     rcases List.mem_cons.mp h with z | z
     · exact absurd z.symm e
     · exact qP z
theorem wipe_out {σ : L2.St} {i : Nat} : ∀ {vs : List Nat}, i ∉ vs → (wipe σ vs)[i]? = σ[i]?
 | [], _ => rfl
 | v :: vs, h => by
   unfold wipe
   rw [List.mem_cons, not_or] at h
   rw [ak7 (Ne.symm h.1), wipe_out h.2]
theorem ack {σ : L2.St} {i : Nat} {v : V} {vs : List Nat} (h : i ∈ vs) : (wipe σ vs)[i]? ≠ some (some v) := fun z => (wipe_some z).2 h
section
variable {K : PySem.W.Frag} {T : Tb} {B : Bs} {w w' : Wd} {σ σ' : L2.St} {H H' : Hp} {fr fr' : Fr} {h : Hh}
theorem Rel.refr (R : Rel K T B w σ H fr h) (fl : fr'.length = σ'.length) (hs : ∀ (i : Nat) (d : D), fr'[i]? = some (some d) → fr[i]? = some (some d) ∧ σ'[i]? = σ[i]?) : Rel K T B w σ' H fr' h :=
 { R with
   me := fun x d bx e od => by
    obtain ⟨h1, h2⟩ := hs 0 d e
    rw [h2]
    exact R.me x d bx h1 od
   fl := fl
   sl := fun i s d e1 e2 => by
    cases d with
    | none => exact .none
    | some d =>
      obtain ⟨h1, h2⟩ := hs i d e2
      rw [h2] at e1
      exact R.sl i s (some d) e1 h1
   sep := fun i j p hij ⟨a1, d1, a2, a3⟩ ⟨b1, d2, b2, b3⟩ => by
    obtain ⟨h1, h2⟩ := hs i d1 a2
    obtain ⟨h3, h4⟩ := hs j d2 b2
    rw [h2] at a1
    rw [h4] at b1
    exact R.sep i j p hij ⟨a1, d1, h1, a3⟩ ⟨b1, d2, h3, b3⟩ }
theorem Rel.wipe (R : Rel K T B w σ H fr h) (vs : List Nat) : Rel K T B w (wipe σ vs) H (fQ fr vs) h := by
 refine R.refr (by rw [Kc, wipe_length]; exact R.fl) fun i d e => ?_
 by_cases hi : i ∈ vs
 · exact absurd e (qP hi)
 · rw [CQ hi] at e
   exact ⟨e, wipe_out hi⟩
end
def fL (vs : List Nat) (g : D → M Unit) (t : M Bool) (e : M D) (d : D) : M (Option D) := fun fr h => match g d fr h with
 | .ok _ fr h => match t fr h with
   | .ok true fr h => match e fr h with
     | .ok y fr h => .ok (some y) (fQ fr vs) h
     | _ => .err
   | .ok false fr h => .ok none (fQ fr vs) h
   | _ => .err
 | _ => .err
def yq {α : Type} : Option α → List α → List α
 | some y, r => y :: r
 | none, r => r
def iT (vs : List Nat) (g : D → M Unit) (t : M Bool) (e : M D) : List D → M (List D)
 | [] => M.ret []
 | d :: ds => (fL vs g t e d).bind fun o => (iT vs g t e ds).bind fun r => M.ret (yq o r)
def Ma (vs : List Nat) : M Unit := fun fr h => .ok () (fQ fr vs) h
def fM (vs : List Nat) (l : M (List D)) (g : D → M Unit) (t : M Bool) (e : M D) : M D := l.bind fun ds => (Ma vs).bind fun _ => if ds.length ≤ big then (iT vs g t e ds).bind fun r => M.ret (.nl r) else M.opt none
section
variable {X : Cx} {T : Tb} {W : WX} {k : Nat} {pos pos' : Pos} {tg iter elt c : Expr} {ifs : List Expr} {li : M (List D)} {g : D → M Unit} {b : M Fl} {is : List Nat} {t : M Bool} {me : M D} {scope : Scope} {own : List (Str × Nat)}
theorem Uj {σ σ2 : L2.St} {vs is : List Nat} (hl : σ2.length = σ.length) (hi : ∀ i ∈ is, i ∈ vs) (hk : ∀ (j : Nat), j ∉ is → σ2[j]? = (wipe σ vs)[j]?) : wipe σ2 vs = wipe σ vs := by
 refine List.ext_getElem? fun j => ?_
 by_cases hj : j ∈ vs
 · have key : ∀ τ : L2.St, τ.length = σ.length → (wipe τ vs)[j]? = if j < σ.length then some none else none := fun τ hτ => by
    by_cases hjl : j < σ.length
    · rw [if_pos hjl]
      have hjl' : j < (wipe τ vs).length := by rw [wipe_length, hτ]; exact hjl
      rw [akX hjl']
      cases e : (wipe τ vs)[j] with
      | none => rfl
      | some v => exact absurd (by rw [akX hjl', e]) (ack (σ := τ) (v := v) hj)
    · rw [if_neg hjl]
      exact alq (by rw [wipe_length, hτ]; omega)
   rw [key σ2 hl, key σ rfl]
 · rw [wipe_out hj, hk j fun z => hj (hi j z), wipe_out hj]
def GB (X : Cx) (scope : Scope) (tg : Expr) : TG := fun v σ H Q => ∀ (s : Shared) (H0 : Hp) (C : Addr) (cl : List (Str × Addr)) (fp : List Addr), WG (X.blk s H0 scope (compEnvC scope cl C X.env) fp) tg v σ H Q
def TB (X : Cx) (scope : Scope) (ifs : List Expr) : TT := fun σ H Q => ∀ (s : Shared) (H0 : Hp) (C : Addr) (cl : List (Str × Addr)) (fp : List Addr), Pr (X.blk s H0 scope (compEnvC scope cl C X.env) fp) ifs σ H Q
def EB (X : Cx) (scope : Scope) (e : Expr) : TE := fun σ H Q => ∀ (s : Shared) (H0 : Hp) (C : Addr) (cl : List (Str × Addr)) (fp : List Addr), WE (X.blk s H0 scope (compEnvC scope cl C X.env) fp) e σ H Q
theorem Y6 {B : Bs} {w : Wd} {σ : L2.St} {H : Hp} {fr : Fr} {h : Hh} {Q : VK} (si : J9 X T W tg iter li) (hi : ∀ i ∈ is, i ∈ own.map (·.2))
 (sg : ∀ (s : Shared) (H0 : Hp) (C : Addr) (cl : List (Str × Addr)) (fp : List Addr), zQ (X.blk s H0 scope (compEnvC scope cl C X.env) fp) T is tg g)
 (st : ∀ (s : Shared) (H0 : Hp) (C : Addr) (cl : List (Str × Addr)) (fp : List Addr), jA (Pr (X.blk s H0 scope (compEnvC scope cl C X.env) fp) ifs) X.K T WF vB t)
 (se : ∀ (s : Shared) (H0 : Hp) (C : Addr) (cl : List (Str × Addr)) (fp : List Addr), aX (X.blk s H0 scope (compEnvC scope cl C X.env) fp) T WF elt me)
 (R : Rel X.K T B w σ H fr h) (p : aZ X.K T B W (vE X.K T B σ) w σ (fM (own.map (·.2)) li g t me fr h) Q) : tLc (WI X tg iter) (GB X scope tg) (TB X scope ifs) (EB X scope elt) (own.map (·.2)) σ H Q := by
 refine si B w σ H fr h _ R (aZ.bind (VR := vJ X.K T B σ) p fun ds fr0 h0 w1 H1 J e1 l1 r0 vj p0 => ?_)
 generalize hvs : own.map (·.2) = vs at hi p0 ⊢
 intro A0 nD
 have p1 : aZ X.K T B W (vE X.K T B σ) w1 σ ((if ds.length ≤ big then (iT vs g t me ds).bind fun r => M.ret (.nl r) else M.opt none) (fQ fr0 vs) h0) Q := p0
 by_cases hb : ds.length ≤ big
 · rw [if_pos hb] at p1
   have rD := r0.temp (o := .lst []) nD
   have OD : Own B w1 A0 := r0.own_new nD
   refine ⟨fun i m H => m = ds.length - i ∧ i ≤ ds.length ∧ ∃ w' fr' h' acc vs', w1.le w' ∧ az X.K T w' vs' acc ∧ acc.length ≤ i ∧ Rel X.K T (B.pr A0 (.lst vs')) w' (wipe σ vs) H fr' h' ∧ (∀ j ∈ vs, ∀ d, fr'[j]? ≠ some (some d)) ∧
    aZ X.K T B W (vE X.K T B σ) w' σ (((iT vs g t me (ds.drop i)).bind fun r => M.ret (D.nl (acc ++ r))) fr' h') Q, ⟨ds.length, by simp, Nat.zero_le _, w1, fQ fr0 vs, h0, [], [], Wd.le_refl _, .nil, Nat.zero_le _,
     (rD.wipe vs).protect OD (fun i ⟨z1, dd, z2, z3⟩ => r0.loose_new nD i (by
      by_cases hj : i ∈ vs
      · exact absurd z2 (qP hj)
      · rw [CQ hj] at z2
        rw [wipe_out hj] at z1
        exact ⟨z1, dd, z2, z3⟩)) upd_same, fun j hj d => qP hj, p1⟩, ?_⟩
   rintro i m H2 ⟨rfl, hil, w2, fr2, h2, acc, us, l2, ra, la, r2, hw2, p2⟩
   have hP := OD.p
   obtain ⟨js, jg⟩ := vj i w2 H2 l2 r2.sub
   by_cases hlt : i < ds.length
   · obtain ⟨go, y⟩ := jg ds[i] (akX hlt)
     have ed : ds.drop i = ds[i] :: ds.drop (i + 1) := List.drop_eq_getElem_cons hlt
     rw [ed] at p2
     refine .inr ⟨go, fun H' => ∃ w' fr' h' acc vs', w1.le w' ∧ az X.K T w' vs' acc ∧ acc.length ≤ i + 1 ∧ Rel X.K T (B.pr A0 (.lst vs')) w' (wipe σ vs) H' fr' h' ∧ (∀ j ∈ vs, ∀ d, fr'[j]? ≠ some (some d)) ∧
      aZ X.K T B W (vE X.K T B σ) w' σ (((iT vs g t me (ds.drop (i + 1))).bind fun r => M.ret (D.nl (acc ++ r))) fr' h') Q, fun H' q => ⟨ds.length - (i + 1), by omega, rfl, hlt, q⟩, fun x H3 yx => ?_⟩
     obtain ⟨w3, l3, r3, rx⟩ := y x H3 yx (B.pr A0 (.lst us)) (wipe σ vs) fr2 h2 r2
     have turn : ∃ o fr' h', fL vs g t me ds[i] fr2 h2 = .ok o fr' h' ∧ aZ X.K T B W (vE X.K T B σ) w2 σ (((iT vs g t me (ds.drop (i + 1))).bind fun r => M.ret (D.nl (acc ++ yq o r))) fr' h') Q := by
      have p2' : aZ X.K T B W (vE X.K T B σ) w2 σ (((fL vs g t me ds[i]).bind fun o => (iT vs g t me (ds.drop (i + 1))).bind fun r => M.ret (D.nl (acc ++ yq o r))) fr2 h2) Q := by
       have ee : ((iT vs g t me (ds[i] :: ds.drop (i + 1))).bind fun r => M.ret (D.nl (acc ++ r))) fr2 h2 = ((fL vs g t me ds[i]).bind fun o => (iT vs g t me (ds.drop (i + 1))).bind fun r => M.ret (D.nl (acc ++ yq o r))) fr2 h2 := by
        show M.bind (M.bind _ _) _ fr2 h2 = _
        unfold M.bind
        cases fL vs g t me ds[i] fr2 h2 with
        | ok o fr' h' => dsimp only; cases iT vs g t me (ds.drop (i + 1)) fr' h' <;> rfl
        | exc _ _ _ => rfl
        | err => rfl
       rw [← ee]
       exact p2
      cases q : fL vs g t me ds[i] fr2 h2 with
      | ok o fr' h' =>
        rw [M.bind_ok q] at p2'
        exact ⟨o, fr', h', rfl, p2'⟩
      | exc y fr' h' =>
        exfalso
        unfold fL at q
        split at q
        · split at q
          · split at q <;> cases q
          · cases q
          · cases q
        · cases q
      | err =>
        rw [M.bind_err q] at p2'
        exact p2'.elim
     obtain ⟨o, fro, ho, qt, p3⟩ := turn
     have upw : ∀ {u2 : L2.St} {w' : Wd} {H' : Hp} {fr' : Fr} {h' : Hh} {B' : Bs}, wipe u2 vs = wipe σ vs → Rel X.K T B' w' u2 H' fr' h' → Rel X.K T B' w' (wipe σ vs) H' (fQ fr' vs) h' := fun {u2 w' H' fr' h' B'} e R' => by
      rw [← e]
      exact R'.wipe vs
     intro s0 H0 C cl fp
     refine sg s0 H0 C cl fp (B.pr A0 (.lst us)) w3 (wipe σ vs) H3 fr2 h2 x ds[i] _ r3 rx ?_
     unfold fL at qt
     cases q1 : g ds[i] fr2 h2 with
     | exc _ _ _ => rw [q1] at qt; cases qt
     | err => rw [q1] at qt; cases qt
     | ok _ fr3 h3 =>
       rw [q1] at qt
       dsimp only at qt
       intro w4 σ4 H4 l4 r4 k4
       have ew : wipe σ4 vs = wipe σ vs := Uj (k4.1.trans (wipe_length σ vs)) hi k4.2
       refine ⟨ew, fun s0 H0 C cl fp => st s0 H0 C cl fp (B.pr A0 (.lst us)) w4 σ4 H4 fr3 h3 _ r4 ?_⟩
       cases q2 : t fr3 h3 with
       | exc _ _ _ => rw [q2] at qt; cases qt
       | err => rw [q2] at qt; cases qt
       | ok b fr4 h4 =>
         rw [q2] at qt
         intro w5 H5 v l5 r5 rv
         have rv' : v = b := rv
         subst rv'
         cases v with
         | false =>
           dsimp only at qt
           cases qt
           simp only [Bool.false_eq_true, if_false]
           exact ⟨w5, _, _, acc, us, Wd.le_trans l2 (Wd.le_trans l3 (Wd.le_trans l4 l5)), ra.mono (Wd.le_trans l3 (Wd.le_trans l4 l5)), Nat.le_succ_of_le la, upw ew r5, fun j hj d => qP hj, p3.le (Wd.le_trans l3 (Wd.le_trans l4 l5))⟩
         | true =>
           dsimp only at qt
           simp only [if_true]
           intro s0 H0 C cl fp
           refine se s0 H0 C cl fp (B.pr A0 (.lst us)) w5 σ4 H5 fr4 h4 _ r5 ?_
           cases q3 : me fr4 h4 with
           | exc _ _ _ => rw [q3] at qt; cases qt
           | err => rw [q3] at qt; cases qt
           | ok yd fr5 h5 =>
             rw [q3] at qt
             cases qt
             intro w6 H6 yv l6 r6 ry
             have hD6 : H6 A0 = some (.lst us) := (r6.prot (A0, .lst us) (ak4)).1
             have lall : w2.le w6 := Wd.le_trans l3 (Wd.le_trans l4 (Wd.le_trans l5 l6))
             refine ⟨us, hD6, ?_, w6, _, _, acc ++ [yd], us ++ [yv], Wd.le_trans l2 lall, (ra.mono lall).append (.cons ry .nil), ?_, (upw ew r6).repr OD.e OD.p, fun j hj d => qP hj, ?_⟩
             · rw [ra.length]
               have : big < sizeLine := by decide
               omega
             · rw [ak3]
               show acc.length + 1 ≤ i + 1
               omega
             · have e9 : ∀ r : List _, acc ++ yq (some yd) r = acc ++ [yd] ++ r := fun r => by
                show acc ++ yd :: r = _
                rw [aln]
                rfl
               simp only [e9] at p3
               exact p3.le lall
   · have e : i = ds.length := by omega
     subst e
     rw [List.drop_length] at p2
     obtain ⟨r3, O3, lo3, eD⟩ := r2.unprotect OD.e OD.p
     refine .inl ⟨js (Nat.le_refl _), ?_⟩
     have p3 : aZ X.K T B W (vE X.K T B σ) w2 σ (.ok (D.nl (acc ++ [])) fr2 h2) Q := p2
     rw [akZ] at p3
     have r4 : Rel X.K T B w2 σ H2 fr2 h2 := r3.refr (by rw [← wipe_length σ vs]; exact r3.fl) fun j d ej => ⟨ej, by
      by_cases hj : j ∈ vs
      · exact absurd ej (hw2 j hj d)
      · exact (wipe_out hj).symm⟩
     refine p3 w2 H2 (.ref A0) (Wd.le_refl _) r4 (.inr ⟨A0, _, rfl, O3, fun j ⟨z1, dd, z2, z3⟩ => lo3 j ⟨?_, dd, z2, z3⟩, eD, .lst ra⟩)
     by_cases hj : j ∈ vs
     · exact absurd z2 (hw2 j hj dd)
     · rw [wipe_out hj]
       exact z1
 · rw [if_neg hb] at p1
   exact p1.elim
theorem oM (C : Cq X T W k) (own : List (Str × Nat)) (si : J9 X T W tg iter li) (hi : ∀ i ∈ is, i ∈ own.map (·.2))
 (sg : ∀ (s : Shared) (H0 : Hp) (C : Addr) (cl : List (Str × Addr)) (fp : List Addr), zQ (X.blk s H0 scope (compEnvC scope cl C X.env) fp) T is tg g)
 (st : ∀ (s : Shared) (H0 : Hp) (C : Addr) (cl : List (Str × Addr)) (fp : List Addr), jA (Pr (X.blk s H0 scope (compEnvC scope cl C X.env) fp) ifs) X.K T WF vB t)
 (se : ∀ (s : Shared) (H0 : Hp) (C : Addr) (cl : List (Str × Addr)) (fp : List Addr), aX (X.blk s H0 scope (compEnvC scope cl C X.env) fp) T WF elt me)
 (ok : BlkOk X.N X.env.scope scope own) (hs : ∀ x, foldedSetIterable iter X.env x = pure x := by intro _; rfl) : sG X T W (.ListComp elt [⟨tg, iter, ifs, 0⟩] scope pos) (fM (own.map (·.2)) li g t me) := fun B w σ H fr h Q R p =>
 eV (pe_lc C.calm C.nd J5 ok (fun s H C cl fp => ⟨fun pins s' σ H v u Q I r hh => hh s _ C cl fp pins s' u I r⟩) (fun s H C cl fp => ⟨fun pins s' σ H Q I hh => hh s _ C cl fp pins s' I⟩) (fun s H C cl fp => ⟨fun pins s' σ H Q I hh => (hh s _ C cl fp).go pins s' I⟩) hs) (Y6 si hi sg st se R p)
theorem QM (C : Cq X T W k) (j : Nat) {y : Str} {py spos : Pos} (own : List (Str × Nat)) (si : J9 X T W tg iter li) (hi : ∀ i ∈ is, i ∈ own.map (·.2))
 (sg : ∀ (s : Shared) (H0 : Hp) (C : Addr) (cl : List (Str × Addr)) (fp : List Addr), zQ (X.blk s H0 scope (compEnvC scope cl C X.env) fp) T is tg g)
 (st : ∀ (s : Shared) (H0 : Hp) (C : Addr) (cl : List (Str × Addr)) (fp : List Addr), jA (Pr (X.blk s H0 scope (compEnvC scope cl C X.env) fp) ifs) X.K T WF vB t)
 (se : ∀ (s : Shared) (H0 : Hp) (C : Addr) (cl : List (Str × Addr)) (fp : List Addr), aX (X.blk s H0 scope (compEnvC scope cl C X.env) fp) T WF elt me)
 (ok : BlkOk X.N X.env.scope scope own) (hsw : swapsWith (.ListComp elt [⟨tg, iter, ifs, 0⟩] scope pos) (some (.Name y py)) spos.line X.env = pure true) (hy : X.N[j]? = some y := by rfl) (j0 : j ≠ 0 := by decide) (hyl : X.env.scope.names.lookup y = some .local := by rfl)
 (hs : ∀ x, foldedSetIterable iter X.env x = pure x := by intro _; rfl) : sJ X T W (.Assign [.Name y py] (.ListComp elt [⟨tg, iter, ifs, 0⟩] scope pos) spos) (bu j (fM (own.map (·.2)) li g t me)) := fun B w σ H fr h D R p =>
 qp (ps_setLc C.calm C.nd hy hyl hsw J5 ok (fun s H C cl fp => ⟨fun pins s' σ H v u Q I r hh => hh s _ C cl fp pins s' u I r⟩) (fun s H C cl fp => ⟨fun pins s' σ H Q I hh => hh s _ C cl fp pins s' I⟩) (fun s H C cl fp => ⟨fun pins s' σ H Q I hh => (hh s _ C cl fp).go pins s' I⟩) hs)
  (Y6 si hi sg st se R (dh.bind (VR := vE X.K T B σ) p fun d fr1 h1 w1 H1 v e1 l1 r1 rx p1 => p1 w1 _ H1 (Wd.le_refl _) (r1.put j j0 rx)))
theorem jy : jA (Pr X []) X.K T W vB (M.ret true) := fun B w σ H fr h Q R p => Wr pts_nil (p w H true (Wd.le_refl _) R rfl)
theorem Gr (s : yf X T W c t) : jA (Pr X [c]) X.K T W vB t := fun B w σ H fr h Q R p => Wr (pts_one wD) (s B w σ H fr h Q R p)
theorem Cq.blk (C : Cq X T W k) {s : Shared} {H0 : Hp} {A0 : Addr} {cl : List (Str × Addr)} {fp : List Addr} : Cq (X.blk s H0 scope (compEnvC scope cl A0 X.env) fp) T WF k :=
 ⟨C.calm, C.nd, C.room, fun u s' ⟨_, _, _, _, _, _, _, _, _, _, _, _, _, _, _, _, w⟩ => w.elim, fun _ _ z => z.elim⟩
end
def cQ (i : Nat) (f : List D → Option (List D)) : M Unit := fun fr h => match fr[i]? with
 | some (some (.nl l)) => match f l with
   | some l' => .ok () (fr.set i (some (.nl l'))) h
   | none => .err
 | some (some (.ref n)) => match h[n]? with
   | some (.nl l) => match f l with
     | some l' => .ok () fr (h.set n (.nl l'))
     | none => .err
   | _ => .err
 | _ => .err
def eZ (d : D) (f : List D → Option (List D)) : M Unit := fun fr h => match d with
 | .ref n => match h[n]? with
   | some (.nl l) => match f l with
     | some l' => .ok () fr (h.set n (.nl l'))
     | none => .err
   | _ => .err
 | _ => .err
def qw (l : List D) : Option (List D) := some l
def zR (d : D) (l : List D) : Option (List D) := if l.length < big then some (l ++ [d]) else none
def pG (j : D) (d : D) (l : List D) : Option (List D) := match j with
 | .int j => (ixN l.length j).map fun n => l.set n d
 | _ => none
def adR (_ : List D) : Option (List D) := some []
def Ae (K : PySem.W.Frag) (T : Tb) (B : Bs) (w : Wd) (σ : L2.St) (H : Hp) (v : V) (f : List D → Option (List D)) (fr' : Fr) (h' : Hh) : Prop :=
 ∃ p vs l l', v = .ref p ∧ H p = some (.lst vs) ∧ az K T w vs l ∧ f l = some l' ∧ ∀ vs', az K T w vs' l' → Rel K T B w σ (upd H p (.lst vs')) fr' h'
section
variable {K : PySem.W.Frag} {T : Tb} {B : Bs} {w : Wd} {σ : L2.St} {H : Hp} {fr : Fr} {h : Hh}
theorem HD (R : Rel K T B w σ H fr h) {n : Nat} {v : V} (rv : bO K T w v (.ref n)) {f : List D → Option (List D)} {l l' : List D} (e : h[n]? = some (.nl l)) (ef : f l = some l') : Ae K T B w σ H v f fr (h.set n (.nl l')) := by
 cases rv with
 | @ref a n s =>
   obtain ⟨o, q, rr⟩ := R.cel n a _ s e
   cases rr with
   | lst r => exact ⟨a, _, l, l', rfl, q, r, ef, fun vs' rs => R.change_cell s e (.lst rs)⟩
theorem QQ {α β : Type} {VR : Wd → Hp → Fr → β → α → Prop} {W : WX} {d : D} {v : V} {f : List D → Option (List D)} {m : M α} {Q : β → Hp → Prop} (R : Rel K T B w σ H fr h) (rv : bO K T w v d) (p : aZ K T B W VR w σ ((eZ d f).bind (fun _ => m) fr h) Q) :
 ∃ fr' h', Ae K T B w σ H v f fr' h' ∧ aZ K T B W VR w σ (m fr' h') Q := by
 cases q : eZ d f fr h with
 | ok u fr' h' =>
   rw [M.bind_ok q] at p
   refine ⟨fr', h', ?_, p⟩
   unfold eZ at q
   split at q
   · split at q
     · split at q
       · cases q
         exact HD R rv (by assumption) (by assumption)
       · cases q
     · cases q
   · cases q
 | exc y fr' h' =>
   exfalso
   unfold eZ at q
   split at q
   · split at q
     · split at q <;> cases q
     · cases q
   · cases q
 | err =>
   rw [M.bind_err q] at p
   exact p.elim
theorem Uk {α β : Type} {VR : Wd → Hp → Fr → β → α → Prop} {W : WX} {i : Nat} {v : V} {f : List D → Option (List D)} {m : M α} {Q : β → Hp → Prop} (R : Rel K T B w σ H fr h) (ev : σ[i]? = some (some v)) (p : aZ K T B W VR w σ ((cQ i f).bind (fun _ => m) fr h) Q) :
 ∃ fr' h', Ae K T B w σ H v f fr' h' ∧ aZ K T B W VR w σ (m fr' h') Q := by
 cases q : cQ i f fr h with
 | ok u fr' h' =>
   rw [M.bind_ok q] at p
   refine ⟨fr', h', ?_, p⟩
   unfold cQ at q
   split at q
   · rename_i l e1
     split at q
     · rename_i l' ef
       cases q
       obtain ⟨v', e2, z⟩ := kZ R e1
       rw [ev] at e2
       cases e2
       cases z with
       | val r => cases r
       | own O eH r =>
         cases r with
         | lst r => exact ⟨_, _, l, l', rfl, eH, r, ef, fun vs' rs => R.change_slot ev e1 O eH rfl (.lst rs)⟩
     · cases q
   · rename_i n e1
     split at q
     · split at q
       · cases q
         obtain ⟨v', e2, z⟩ := kZ R e1
         rw [ev] at e2
         cases e2
         cases z with
         | val r => exact HD R r (by assumption) (by assumption)
         | own O eH r => cases r
       · cases q
     · cases q
   · cases q
 | exc y fr' h' =>
   exfalso
   unfold cQ at q
   split at q
   · split at q <;> cases q
   · split at q
     · split at q <;> cases q
     · cases q
   · cases q
 | err =>
   rw [M.bind_err q] at p
   exact p.elim
end
def uw (i : Nat) (m : M D) : M D := (cQ i qw).bind fun _ => m.bind fun d => (cQ i (zR d)).bind fun _ => M.ret .non
def ahU (i : Nat) : M D := (cQ i adR).bind fun _ => M.ret .non
def Mg (mo m : M D) : M D := mo.bind fun o => (eZ o qw).bind fun _ => m.bind fun d => (eZ o (zR d)).bind fun _ => M.ret .non
def ahV (mo : M D) : M D := mo.bind fun o => (eZ o adR).bind fun _ => M.ret .non
section
variable {X : Cx} {T : Tb} {W : WX} {k : Nat} {apos cpos px : Pos} {e o : Expr} {m mo : M D}
theorem Y7 {K : PySem.W.Frag} {B : Bs} {w : Wd} {σ : L2.St} {H : Hp} {v : V} {f : List D → Option (List D)} {fr' : Fr} {h' : Hh} (z : Ae K T B w σ H v f fr' h') : tyV K "list" v H := by
 obtain ⟨p, vs, l, l', rfl, e, _⟩ := z
 exact .inl ⟨rfl, vs, SqL.of e⟩
theorem Ul {K : PySem.W.Frag} {B : Bs} {w : Wd} {σ : L2.St} {H : Hp} {v : V} {fr' : Fr} {h' : Hh} (z : Ae K T B w σ H v qw fr' h') : Rel K T B w σ H fr' h' := by
 obtain ⟨p, vs, l, l', rfl, e, r, ef, k⟩ := z
 have e1 : l = l' := Option.some.inj ef
 subst e1
 have z := k vs r
 have : upd H p (.lst vs) = H := by
  funext a
  unfold upd
  split
  · rename_i h
    rw [h, e]
  · rfl
 rw [this] at z
 exact z
theorem Wt {K : PySem.W.Frag} {B : Bs} {w : Wd} {σ : L2.St} {H : Hp} {v y : V} {d : D} {fr' : Fr} {h' : Hh} {Q : VK} (z : Ae K T B w σ H v (zR d) fr' h') (ry : bO K T w y d) (q : ∀ H', Rel K T B w σ H' fr' h' → Q .non H') : rAppend v [y] H Q := by
 obtain ⟨p, vs, l, l', rfl, e, r, ef, k⟩ := z
 unfold zR at ef
 by_cases hl : l.length < big
 · rw [if_pos hl] at ef
   cases ef
   exact ⟨p, vs, y, rfl, rfl, e, by rw [r.length]; exact Nat.lt_of_lt_of_le hl (by decide), q _ (k _ (r.append (.cons ry .nil)))⟩
 · rw [if_neg hl] at ef
   cases ef
theorem Gu (i : Nat) {x : Str} (s : aX X T W e m) (hN : X.N[i]? = some x := by rfl) (hv : Vis X.env.scope x := by first | exact Or.inl rfl | exact Or.inr (Or.inl rfl) | exact Or.inr (Or.inr rfl)) (hd : (x == ("__debug__" : Str)) = false := by decide)
 (hcd : (x == ("__classdict__" : Str)) = false := by decide)
 (hbase : attributeBase (.Name x px) "append" X.env (eval (.Name x px) X.env) = eval (.Name x px) X.env := by rfl)
 (hfew : ((backTo cpos (starEach (e :: []) X.env)).all (fun x => !x.1) && (backToKw cpos (keywordEach [] X.env)).all (fun x => x.1.isSome)
  && decide ((e :: []).length + ([] : List Keyword).length + (if ([] : List Keyword).isEmpty then 0 else 1) < 30)) = true := by rfl)
 (hline : (apos.endLine == cpos.line) = true := by rfl) (hs : starEach (e :: []) X.env = (false, eval e X.env) :: starEach [] X.env := by exact eE rfl) (hplain : (backTo cpos (starEach [] X.env)).any (·.1) = false := by rfl) :
 aX X T W (.Call (.Attribute (.Name x px) "append" apos) [e] [] cpos) (uw i m) := fun B w σ H fr h Q R p => by
 have hh : ∃ v, σ[i]? = some (some v) := by
  cases e1 : fr[i]? with
  | none =>
    have q : cQ i qw fr h = .err := by unfold cQ; rw [e1]
    have p' : aZ X.K T B W (vV X.K T B σ) w σ ((cQ i qw).bind _ fr h) Q := p
    rw [M.bind_err q] at p'
    exact p'.elim
  | some o =>
    cases o with
    | none =>
      have q : cQ i qw fr h = .err := by unfold cQ; rw [e1]
      have p' : aZ X.K T B W (vV X.K T B σ) w σ ((cQ i qw).bind _ fr h) Q := p
      rw [M.bind_err q] at p'
      exact p'.elim
    | some d =>
      obtain ⟨v, e2, _⟩ := kZ R e1
      exact ⟨v, e2⟩
 obtain ⟨v, ev⟩ := hh
 obtain ⟨fr1, h1, z1, p1⟩ := Uk (VR := vV X.K T B σ) R ev p
 have R1 := Ul z1
 refine eV (pe_bm PySem.F.plainAttrs_list PySem.F.slot_list_append PySem.F.type_list_append mt_append (pe_var hN hv hd hcd) (pa_cons bF pa_nil hs) hbase hfew hline hs hplain) ⟨v, ev, Y7 z1, s B w σ H fr1 h1 _ R1 (aZ.bind (VR := vV X.K T B σ) p1 fun d fr2 h2 w2 H2 y e2 l2 r2 ry p2 => ?_)⟩
 obtain ⟨fr3, h3, z3, p3⟩ := Uk (VR := vV X.K T B σ) r2 ev p2
 exact Wt z3 ry fun H' R' => p3 w2 H' .non (Wd.le_refl _) R' .non
theorem acl (so : aX X T W o mo) (s : aX X T W e m)
 (hbase : attributeBase o "append" X.env (eval o X.env) = eval o X.env := by rfl)
 (hfew : ((backTo cpos (starEach (e :: []) X.env)).all (fun x => !x.1) && (backToKw cpos (keywordEach [] X.env)).all (fun x => x.1.isSome)
  && decide ((e :: []).length + ([] : List Keyword).length + (if ([] : List Keyword).isEmpty then 0 else 1) < 30)) = true := by rfl)
 (hline : (apos.endLine == cpos.line) = true := by rfl) (hs : starEach (e :: []) X.env = (false, eval e X.env) :: starEach [] X.env := by exact eE rfl) (hplain : (backTo cpos (starEach [] X.env)).any (·.1) = false := by rfl) :
 aX X T W (.Call (.Attribute o "append" apos) [e] [] cpos) (Mg mo m) := fun B w σ H fr h Q R p => by
 refine eV (pe_bm PySem.F.plainAttrs_list PySem.F.slot_list_append PySem.F.type_list_append mt_append bF (pa_cons bF pa_nil hs) hbase hfew hline hs hplain) (so B w σ H fr h _ R (aZ.bind (VR := vV X.K T B σ) p fun od fr0 h0 w0 H0 ov e0 l0 r0 ro p0 => ?_))
 obtain ⟨fr1, h1, z1, p1⟩ := QQ (VR := vV X.K T B σ) r0 ro p0
 have R1 := Ul z1
 refine ⟨Y7 z1, s B w0 σ H0 fr1 h1 _ R1 (aZ.bind (VR := vV X.K T B σ) p1 fun d fr2 h2 w2 H2 y e2 l2 r2 ry p2 => ?_)⟩
 obtain ⟨fr3, h3, z3, p3⟩ := QQ (VR := vV X.K T B σ) r2 (ro.mono l2) p2
 exact Wt z3 ry fun H' R' => p3 w2 H' .non (Wd.le_refl _) R' .non
def oN (i : Nat) (m mi : M D) : M Fl := m.bind fun d => (pF i).bind fun _ => mi.bind fun j => (cQ i (pG j d)).bind fun _ => M.ret .nx
def ahW (mo m mi : M D) : M Fl := m.bind fun d => mo.bind fun o => mi.bind fun j => (eZ o (pG j d)).bind fun _ => M.ret .nx
end
end Pk
namespace Pk
open PySem PySem.Spec L2
section
variable {K : PySem.W.Frag} {T : Tb} {B : Bs} {w : Wd} {σ : L2.St} {H : Hp} {fr : Fr} {h : Hh}
theorem Um {d : D} {v : V} {f : List D → Option (List D)} (R : Rel K T B w σ H fr h) (rv : bO K T w v d) : eZ d f fr h = .err ∨ ∃ fr' h', eZ d f fr h = .ok () fr' h' ∧ Ae K T B w σ H v f fr' h' := by
 cases q : eZ d f fr h with
 | ok u fr' h' =>
   have p : aZ K T B WF (fun _ _ _ (_ : Unit) (_ : Unit) => True) w σ ((eZ d f).bind (fun _ => M.ret ()) fr h) (fun _ _ => True) := by
    rw [M.bind_ok q]
    exact fun _ _ _ _ _ _ => trivial
   obtain ⟨fr2, h2, z, _⟩ := QQ R rv p
   right
   refine ⟨fr', h', rfl, ?_⟩
   unfold eZ at q
   split at q
   · split at q
     · split at q
       · cases q
         exact HD R rv (by assumption) (by assumption)
       · cases q
     · cases q
   · cases q
 | exc y fr' h' =>
   exfalso
   unfold eZ at q
   split at q
   · split at q
     · split at q <;> cases q
     · cases q
   · cases q
 | err => exact .inl rfl
theorem Y8 {i : Nat} {v : V} {f : List D → Option (List D)} (R : Rel K T B w σ H fr h) (ev : σ[i]? = some (some v)) : cQ i f fr h = .err ∨ ∃ fr' h', cQ i f fr h = .ok () fr' h' ∧ Ae K T B w σ H v f fr' h' := by
 cases q : cQ i f fr h with
 | ok u fr' h' =>
   right
   refine ⟨fr', h', rfl, ?_⟩
   unfold cQ at q
   split at q
   · rename_i l e1
     split at q
     · rename_i l' ef
       cases q
       obtain ⟨v', e2, z⟩ := kZ R e1
       rw [ev] at e2
       cases e2
       cases z with
       | val r => cases r
       | own O eH r =>
         cases r with
         | lst r => exact ⟨_, _, l, l', rfl, eH, r, ef, fun vs' rs => R.change_slot ev e1 O eH rfl (.lst rs)⟩
     · cases q
   · rename_i n e1
     split at q
     · split at q
       · cases q
         obtain ⟨v', e2, z⟩ := kZ R e1
         rw [ev] at e2
         cases e2
         cases z with
         | val r => exact HD R r (by assumption) (by assumption)
         | own O eH r => cases r
       · cases q
     · cases q
   · cases q
 | exc y fr' h' =>
   exfalso
   unfold cQ at q
   split at q
   · split at q <;> cases q
   · split at q
     · split at q <;> cases q
     · cases q
   · cases q
 | err => exact .inl rfl
end
section
variable {X : Cx} {T : Tb} {W : WX} {k : Nat} {pos px tpos : Pos} {e o j : Expr} {m mo mj : M D}
theorem Y9 {K : PySem.W.Frag} {B : Bs} {w : Wd} {σ : L2.St} {H : Hp} {v y u : V} {d jd : D} {fr' : Fr} {h' : Hh} {Q : Hp → Prop} (z : Ae K T B w σ H v (pG jd d) fr' h') (ry : bO K T w y d) (rj : bO K T w u jd) (q : ∀ H', Rel K T B w σ H' fr' h' → Q H') : rSetL v u y H Q := by
 obtain ⟨p, vs, l, l', rfl, e, r, ef, k⟩ := z
 unfold pG at ef
 split at ef
 · rename_i i
   obtain ⟨n, en, rfl⟩ := Option.map_eq_some_iff.mp ef
   rw [jF rj]
   exact ⟨p, vs, i, n, rfl, rfl, e, by rw [r.length]; exact en, q _ (k _ (r.set n ry))⟩
 · cases ef
theorem zq (i : Nat) {x : Str} (s : aX X T W e m) (sj : aX X T W j mj) (hN : X.N[i]? = some x := by rfl) (hv : Vis X.env.scope x := by first | exact Or.inl rfl | exact Or.inr (Or.inl rfl) | exact Or.inr (Or.inr rfl)) (hd : (x == ("__debug__" : Str)) = false := by decide)
 (hcd : (x == ("__classdict__" : Str)) = false := by decide)
 (ha : ∀ v, assign (.Subscript (.Name x px) j tpos) X.env v = (do
  let ov ← holding [v] (eval (.Name x px) X.env)
  let iv ← holding [v, ov] (eval j X.env)
  standAt tpos
  holding [v, ov, iv] (setItem ov iv v)
  release [v, ov, iv] []) := by intro _; rfl)
 (hs : swapsWithSole [.Subscript (.Name x px) j tpos] e pos.line X.env = pure false := by rfl) (hw : swappedStores [.Subscript (.Name x px) j tpos] e X.env = pure none := by rfl)
 (h1 : (assignEach [.Subscript (.Name x px) j tpos] X.env).map (·.2) = [assign (.Subscript (.Name x px) j tpos) X.env] := by rfl) : sJ X T W (.Assign [.Subscript (.Name x px) j tpos] e pos) (oN i m mj) := fun B w σ H fr h D R p =>
 qp (ps_asg bF (pg_sub (pe_var hN hv hd hcd) bF set_list ha) hs hw h1) (s B w σ H fr h _ R (dh.bind (VR := vV X.K T B σ) p fun d fr1 h1 w1 H1 v e1 l1 r1 rx p1 => by
  have p1' : dh X.K T B W w1 ((pF i).bind (fun _ => mj.bind fun j => (cQ i (pG j d)).bind fun _ => M.ret .nx) fr1 h1) D := p1
  cases es : fr1[i]? with
  | none =>
    have q : pF i fr1 h1 = .err := by unfold pF; rw [es]
    rw [M.bind_err q] at p1'
    exact p1'.elim
  | some os =>
    cases os with
    | none =>
      have q : pF i fr1 h1 = .err := by unfold pF; rw [es]
      rw [M.bind_err q] at p1'
      exact p1'.elim
    | some ds =>
      have q : pF i fr1 h1 = .ok () fr1 h1 := by unfold pF; rw [es]
      rw [M.bind_ok q] at p1'
      obtain ⟨ov, ev, _⟩ := kZ r1 es
      refine ⟨ov, ev, sj B w1 σ H1 fr1 h1 _ r1 (dh.bind (VR := vV X.K T B σ) p1' fun jd fr2 h2 w2 H2 jv e2 l2 r2 rj p2 => ?_)⟩
      have p2' : dh X.K T B W w2 ((cQ i (pG jd d)).bind (fun _ => M.ret .nx) fr2 h2) D := p2
      rcases Y8 (f := pG jd d) r2 ev with q | ⟨fr3, h3, q, z⟩
      · rw [M.bind_err q] at p2'
        exact p2'.elim
      · rw [M.bind_ok q] at p2'
        exact Y9 z (rx.mono l2) rj fun H' R' => p2' w2 σ H' (Wd.le_refl _) R'))
def qY (m : M D) : M D := m.bind fun d fr h => if d.own then .ok (.ref h.length) fr (h ++ [d]) else .err
theorem Ax (s : sG X T W e m) : aX X T W e (qY m) := fun B w σ H fr h Q R p => s B w σ H fr h Q R (aZ.bind (VR := vE X.K T B σ) p fun d fr1 h1 w1 H1 v e1 l1 r1 rx p1 => by
 rcases rx with rx | ⟨q, o, rfl, O, lo, eH, rd⟩
 · have p1' : aZ X.K T B W (vV X.K T B σ) w1 σ (if d.own then .ok (.ref h1.length) fr1 (h1 ++ [d]) else .err) Q := p1
   rw [Hv rx] at p1'
   exact (show False from p1').elim
 · have p1' : aZ X.K T B W (vV X.K T B σ) w1 σ (if d.own then .ok (.ref h1.length) fr1 (h1 ++ [d]) else .err) Q := p1
   rw [rd.own] at p1'
   have R2 := r1.to_cell O lo eH rd
   exact p1' ⟨w1.F, w1.I ++ [q]⟩ H1 (.ref q) ⟨fun _ _ z => z, [q], rfl⟩ R2 (.ref (by
    rw [← r1.len]
    show (w1.I ++ [q])[w1.I.length]? = some q
    rw [ali (Nat.le_refl _), Nat.sub_self]
    rfl)))
theorem Py {α : Type} {f : Str} : ∀ {fs : List Str} {vs : List α} {i : Nat}, fs.Nodup → fs[i]? = some f → (fs.zip vs).lookup f = vs[i]?
 | [], _, _, _, e => by simp at e
 | g :: fs, [], i, _, _ => by simp
 | g :: fs, v :: vs, 0, _, e => by
   simp at e
   subst e
   simp [ak6]
 | g :: fs, v :: vs, i + 1, n, e => by
   have hf : f ∈ fs := ald (by simpa using e)
   have hne : (f == g) = false := by
    rw [beq_eq_false_iff_ne]
    rintro rfl
    exact (List.nodup_cons.mp n).1 hf
   show ak6 f ((g, v) :: fs.zip vs) = (v :: vs)[i + 1]?
   rw [List.lookup_cons, hne]
   show (fs.zip vs).lookup f = _
   rw [Py (List.nodup_cons.mp n).2 (by simpa using e)]
   simp
theorem Uo {f : Str} {y : V} : ∀ {fs : List Str} {vs : List V} {i : Nat}, fs.Nodup → fs[i]? = some f → i ≤ vs.length → putF f y (fs.zip vs) = fs.zip (if i < vs.length then vs.set i y else vs ++ [y])
 | [], _, _, _, e, _ => by simp at e
 | g :: fs, [], i, _, e, hl => by
   have h0 : i = 0 := by simpa using hl
   subst h0
   simp at e
   subst e
   simp [putF]
 | g :: fs, v :: vs, 0, _, e, _ => by
   simp at e
   subst e
   show putF g y ((g, v) :: fs.zip vs) = _
   unfold putF
   rw [if_pos rfl, if_pos (show 0 < (v :: vs).length from Nat.succ_pos _)]
   rfl
 | g :: fs, v :: vs, i + 1, n, e, hl => by
   have hf : f ∈ fs := ald (by simpa using e)
   have hne : ¬ g = f := by
    rintro rfl
    exact (List.nodup_cons.mp n).1 hf
   show putF f y ((g, v) :: fs.zip vs) = _
   unfold putF
   rw [if_neg hne, Uo (List.nodup_cons.mp n).2 (i := i) (by simpa using e) (by simpa using hl)]
   by_cases h : i < vs.length
   · rw [if_pos h, if_pos (by simpa using h)]
     rfl
   · rw [if_neg h, if_neg (by simpa using h)]
     rfl
structure QR (X : Cx) (T : Tb) (f : Str) (ix : Nat → Option Nat) : Prop where
 cls : ∀ c i, ix c = some i → Cls X.K (T.cad c)
 na : ∀ c i, ix c = some i → NoAttr X.K (T.cad c) f
 nd : ∀ c i, ix c = some i → (T.fld c).Nodup ∧ (T.fld c).length < 1000
 at_ : ∀ c i, ix c = some i → (T.fld c)[i]? = some f
def D.ins (h : Hh) (d : D) : Option (Nat × List D) := match d.der h with
 | .obj c fs => some (c, fs)
 | .no c fs => some (c, fs)
 | _ => none
def cC (ix : Nat → Option Nat) (h : Hh) (d : D) : Option D := match d.ins h with
 | some (c, fs) => match ix c with
   | some i => fs[i]?
   | none => none
 | none => none
theorem Wu {K : PySem.W.Frag} {B : Bs} {w : Wd} {σ : L2.St} {H : Hp} {fr : Fr} {h : Hh} {v : V} {d : D} {c : Nat} {fs : List D} (R : Rel K T B w σ H fr h) (z : vO K T B σ w H fr v d) (e : d.ins h = some (c, fs)) :
 ∃ a dx vs, v = .ref a ∧ H a = some (.ins (T.cad c) dx ((T.fld c).zip vs)) ∧ az K T w vs fs := by
 rcases z with z | ⟨p, o, rfl, eH, z⟩
 · cases z with
   | obj s r =>
     cases e
     exact ⟨_, _, _, rfl, R.sub _ _ s, r⟩
   | @ref a n s =>
     have ln : n < h.length := by
      rw [← R.len]
      exact (List.getElem?_eq_some_iff.mp s).1
     obtain ⟨o, q, rr⟩ := R.cel n a h[n] s (akX ln)
     have e0 : D.der h (.ref n) = h[n] := by
      unfold D.der
      dsimp only
      rw [akX ln]
      rfl
     unfold D.ins at e
     rw [e0] at e
     generalize h[n] = cc at rr e
     cases rr with
     | lst r => cases e
     | dct _ r => cases e
     | dkt _ r => cases e
     | so0 _ => cases e
     | so1 _ _ => cases e
     | hid0 => cases e
     | hid1 => cases e
     | obj r =>
       cases e
       exact ⟨_, _, _, rfl, q, r⟩
   | _ => cases e
 · cases z with
   | lst r => cases e
   | obj r =>
     cases e
     exact ⟨_, _, _, rfl, eH, r⟩
theorem fO {f : Str} {ix : Nat → Option Nat} (F : QR X T f ix) (s : Dk X T W o mo) (hb : attributeBase o f X.env (eval o X.env) = eval o X.env := by rfl) : aX X T W (.Attribute o f pos) (aJ (cC ix) mo) := fun B w σ H fr h Q R p =>
 eV (pe_fld bF hb) (s B w σ H fr h _ R (aZ.bind (VR := vO X.K T B σ) p fun d fr1 h1 w1 H1 v e1 l1 r1 rx p1 => by
  have p1' : aZ X.K T B W (vV X.K T B σ) w1 σ (M.opt (cC ix h1 d) fr1 h1) Q := p1
  cases q : cC ix h1 d with
  | none => rw [q] at p1'; exact p1'.elim
  | some z =>
    rw [q] at p1'
    unfold cC at q
    split at q
    · rename_i c fs ei
      split at q
      · rename_i i ec
        obtain ⟨a, dx, vs, rfl, eH, rs⟩ := Wu r1 rx ei
        obtain ⟨v, ev, rv⟩ := rs.get q
        exact ⟨a, _, dx, _, v, rfl, eH, F.cls c i ec, F.na c i ec, by rw [Py (F.nd c i ec).1 (F.at_ c i ec)]; exact ev, p1' w1 H1 v (Wd.le_refl _) r1 rv⟩
      · cases q
    · cases q))
def pH (i : Nat) (d : D) (fs : List D) : Option (List D) := if i ≤ fs.length then some (if i < fs.length then fs.set i d else fs ++ [d]) else none
def uY (j : Nat) (ix : Nat → Option Nat) (d : D) : M Unit := fun fr h => match fr[j]? with
 | some (some (.no c fs)) => match ix c with
   | some i => match pH i d fs with
     | some fs' => .ok () (fr.set j (some (.no c fs'))) h
     | none => .err
   | none => .err
 | some (some (.ref n)) => match h[n]? with
   | some (.no c fs) => match ix c with
     | some i => match pH i d fs with
       | some fs' => .ok () fr (h.set n (.no c fs'))
       | none => .err
     | none => .err
   | _ => .err
 | _ => .err
def oO (j : Nat) (ix : Nat → Option Nat) (m : M D) : M Fl := m.bind fun d => (uY j ix d).bind fun _ => M.ret .nx
theorem Za {K : PySem.W.Frag} {w : Wd} {f : Str} {c i : Nat} {fs fs' : List D} {vs : List V} {y : V} {d : D} (nd : (T.fld c).Nodup) (at_ : (T.fld c)[i]? = some f) (rs : az K T w vs fs) (ry : bO K T w y d) (e : pH i d fs = some fs') :
 ∃ vs', putF f y ((T.fld c).zip vs) = (T.fld c).zip vs' ∧ az K T w vs' fs' := by
 unfold pH at e
 by_cases hi : i ≤ fs.length
 · rw [if_pos hi] at e
   cases e
   refine ⟨_, Uo nd at_ (by rw [rs.length]; exact hi), ?_⟩
   rw [rs.length]
   by_cases hl : i < fs.length
   · rw [if_pos hl, if_pos hl]
     exact rs.set i ry
   · rw [if_neg hl, if_neg hl]
     exact rs.append (.cons ry .nil)
 · rw [if_neg hi] at e
   cases e
theorem Bo (j : Nat) {x f : Str} {ix : Nat → Option Nat} (F : QR X T f ix) (s : aX X T W e m) (hs : swapsWith e (some (.Attribute (.Name x px) f tpos)) pos.line X.env = pure false := by rfl)
 (hN : X.N[j]? = some x := by rfl) (hv : Vis X.env.scope x := by first | exact Or.inl rfl | exact Or.inr (Or.inl rfl) | exact Or.inr (Or.inr rfl)) (hd : (x == ("__debug__" : Str)) = false := by decide)
 (hcd : (x == ("__classdict__" : Str)) = false := by decide) : sJ X T W (.Assign [.Attribute (.Name x px) f tpos] e pos) (oO j ix m) := fun B w σ H fr h D R p =>
 qp (ps_fld (pe_var hN hv hd hcd) bF hs) (s B w σ H fr h _ R (dh.bind (VR := vV X.K T B σ) p fun d fr1 h1 w1 H1 y e1 l1 r1 ry p1 => by
  have p1' : dh X.K T B W w1 ((uY j ix d).bind (fun _ => M.ret .nx) fr1 h1) D := p1
  have fin : ∀ {c i : Nat} {a dx : Addr} {vs : List V} {fs fs' : List Pk.D}, ix c = some i → H1 a = some (.ins (T.cad c) dx ((T.fld c).zip vs)) → az X.K T w1 vs fs → pH i d fs = some fs' → (∀ vs', az X.K T w1 vs' fs' → D.nx σ (upd H1 a (.ins (T.cad c) dx ((T.fld c).zip vs')))) → σ[j]? = some (some (.ref a)) →
   ∃ v, σ[j]? = some (some v) ∧ ∃ a C dx fs, v = .ref a ∧ H1 a = some (.ins C dx fs) ∧ Cls X.K C ∧ NoAttr X.K C f ∧ fs.length < 1000 ∧ D.nx σ (upd H1 a (.ins C dx (putF f y fs))) := fun {c i a dx vs fs fs'} ec eH rs ep kk es => by
   obtain ⟨vs', e1, rs'⟩ := Za (F.nd c i ec).1 (F.at_ c i ec) rs ry ep
   refine ⟨_, es, a, _, dx, _, rfl, eH, F.cls c i ec, F.na c i ec, ?_, ?_⟩
   · rw [List.length_zip]
     have := (F.nd c i ec).2
     omega
   · rw [e1]
     exact kk vs' rs'
  cases q : uY j ix d fr1 h1 with
  | err => rw [M.bind_err q] at p1'; exact p1'.elim
  | exc z fr2 h2 =>
    exfalso
    unfold uY at q
    repeat' (first | (split at q) | (cases q))
  | ok u fr2 h2 =>
    rw [M.bind_ok q] at p1'
    have p2 : ∀ w' σ' H', w1.le w' → Rel X.K T B w' σ' H' fr2 h2 → D.nx σ' H' := p1'
    unfold uY at q
    split at q
    · rename_i c fs es
      split at q
      · rename_i i ec
        split at q
        · rename_i fs' ep
          cases q
          obtain ⟨v, e2, z⟩ := kZ r1 es
          cases z with
          | val r => cases r
          | own O eH r =>
            cases r with
            | obj r => exact fin ec eH r ep (fun vs' rs' => p2 w1 σ _ (Wd.le_refl _) (r1.change_slot e2 es O eH rfl (.obj rs'))) e2
        · cases q
      · cases q
    · rename_i n es
      split at q
      · rename_i c fs en
        split at q
        · rename_i i ec
          split at q
          · rename_i fs' ep
            cases q
            obtain ⟨v, e2, z⟩ := kZ r1 es
            cases z with
            | val r =>
              cases r with
              | ref sI =>
                obtain ⟨o, qo, rr⟩ := r1.cel n _ _ sI en
                cases rr with
                | obj r => exact fin ec qo r ep (fun vs' rs' => p2 w1 σ _ (Wd.le_refl _) (r1.change_cell sI en (.obj rs'))) e2
            | own O eH r => cases r
          · cases q
        · cases q
      · cases q
    · cases q))
end
end Pk
namespace Pk
open PySem PySem.Spec L2
abbrev Fn := List D → Hh → R D
def startF (n : Nat) (ds : List D) : Fr := ds.map some ++ List.replicate (n - ds.length) none
def dY (n : Nat) (m : M Fl) : Fn := fun ds h => match m (startF n ds) h with
 | .ok (.rt d) _ h => .ok d [] h
 | .ok .nx _ h => .ok .non [] h
 | .ok _ _ _ => .err
 | .exc x _ h => .exc x [] h
 | .err => .err
def runI (c n : Nat) (m : M Fl) : Fn := fun ds h => match m (startF n (.no c [] :: ds)) h with
 | .ok .nx fr h => match (fr : Fr)[0]? with
   | some (some (D.no c' fs)) => if c' = c then .ok (.no c fs) [] h else .err
   | _ => .err
 | .ok _ _ _ => .err
 | .exc x _ h => .exc x [] h
 | .err => .err
def spF (K : PySem.W.Frag) (T : Tb) (n : Nat) (F : Fn) : Sp := fun vs H Q E => ∃ w h ds, Rel K T (Bs.of w H) w [] H [] h ∧ az K T w vs ds ∧ ds.length = n ∧ aZ K T (Bs.of w H) (fun c d _ H' => E c d H') (vE K T (Bs.of w H) []) w [] (F ds h) Q
def vN (K : PySem.W.Frag) (T : Tb) (w : Wd) (G : Hp) (x : Addr) (w' : Wd) (H' : Hp) (_ : Fr) (v : V) (d : D) : Prop := v = .non ∧ Own (Bs.of w G) w' x ∧ ∃ o, H' x = some o ∧ sE K T w' o d
def spI (K : PySem.W.Frag) (T : Tb) (c n : Nat) (F : Fn) : Sp := fun vs H Q E => ∃ w h ds G x dx us, vs = .ref x :: us ∧ G x = none ∧ H = upd G x (.ins (T.cad c) dx []) ∧ Rel K T (Bs.of w G) w [] G [] h ∧ az K T w us ds ∧ ds.length + 1 = n ∧
 aZ K T (Bs.of w G) (fun c d _ H' => E c d H') (vN K T w G x) w [] (F ds h) Q
section
variable {K : PySem.W.Frag} {T : Tb} {B : Bs} {w w' : Wd} {σ : L2.St} {H H' : Hp} {fr : Fr} {h : Hh}
theorem S8 {n : Nat} {ds : List D} (hl : ds.length ≤ n) : (startF n ds).length = n := by
 unfold startF
 rw [ak3, akW, List.length_replicate]
 omega
theorem Ke {n i : Nat} {ds : List D} {d : D} (e : (startF n ds)[i]? = some (some d)) : ds[i]? = some d := by
 unfold startF at e
 by_cases hi : i < ds.length
 · rw [alk (by simpa using hi), ak5] at e
   cases q : ds[i]? with
   | none => rw [q] at e; cases e
   | some a => rw [q] at e; cases e; rfl
 · rw [ali (by simpa using hi), List.getElem?_replicate] at e
   split at e <;> cases e
theorem aal {N : List Str} {vs : List V} {i : Nat} {v : V} (e : vs[i]? = some v) : (L2.start N vs)[i]? = some (some v) := by
 unfold L2.start
 have hi : i < vs.length := (List.getElem?_eq_some_iff.mp e).1
 rw [alk (by simpa using hi), ak5, e]
 rfl
theorem Zb {N : List Str} {vs : List V} (hl : vs.length ≤ N.length) : (L2.start N vs).length = N.length := by
 unfold L2.start
 rw [ak3, akW, List.length_replicate]
 omega
theorem Rel.start (R : Rel K T B w [] H [] h) {N : List Str} {vs : List V} {ds : List D} (rs : az K T w vs ds) (hl : ds.length ≤ N.length) : Rel K T B w (L2.start N vs) H (startF N.length ds) h :=
 { R with
   me := fun x d bx e od => by
    obtain ⟨v, ev, rv⟩ := rs.get (Ke e)
    exact (vW od rv).elim
   fl := by rw [S8 hl, Zb (by rw [rs.length]; exact hl)]
   sl := fun i s d e1 e2 => by
    cases d with
    | none => exact .none
    | some d =>
      obtain ⟨v, ev, rv⟩ := rs.get (Ke e2)
      rw [aal ev] at e1
      cases e1
      exact .val rv
   sep := fun i j p hij ⟨_, d, e, od⟩ _ => by
    obtain ⟨v, ev, rv⟩ := rs.get (Ke e)
    exact vW od rv }
end
section
variable {P : Program} {w : World} {K : PySem.W.Frag} {mg : Str → Option Value} {base : Heap} {T : Tb} {k : Nat} {x qual : Str} {params : Arguments} {body : List Stmt} {scope : Scope} {dvs : List V} {kws : List (Str × V)} {f : Addr} {fd : FuncData} {N ps : List Str}
abbrev Zd (P : Program) (w : World) (K : PySem.W.Frag) (mg : Str → Option Value) (base : Heap) (N : List Str) (qual : Str) (scope : Scope) (f : Addr) (cdv : Value) (A : Around) (outer : List Env) (s : Shared) (H : Hp) (E : XK) : Cx := cxOf (L2N.CX P w) P w K mg base N qual scope f cdv A outer s H E
def WX.up (E : XK) : WX := fun c d _ H' => E c d H'
def Does (P : Program) (w : World) (K : PySem.W.Frag) (mg : Str → Option Value) (base : Heap) (T : Tb) (k : Nat) (N : List Str) (qual : Str) (scope : Scope) (body : List Stmt) (m : M Fl) : Prop :=
 ∀ (f : Addr) (cdv : Value) (A : Around) (outer : List Env) (s : Shared) (H : Hp) (E : XK), Cq (Zd P w K mg base N qual scope f cdv A outer s H E) T (WX.up E) k → wJ (Zd P w K mg base N qual scope f cdv A outer s H E) T (WX.up E) body m
theorem afh (S : FnScope N ps scope) {cdv : Value} {A : Around} {outer : List Env} {s : Shared} {H : Hp} {E : XK} (hr : Room k (A.deeper (PyProof.Rows.envOfC qual scope s.heap.objs.size f cdv))) : Cq (Zd P w K mg base N qual scope f cdv A outer s H E) T (WX.up E) k :=
 ⟨rfl, S.nd, hr, L2N.takes_of rfl rfl rfl rfl, passes_of rfl⟩
theorem fn_sim (F : FunD K x qual params body scope dvs kws f fd) (S : FnScope N ps scope) {m : M Fl} (dm : Does P w K mg base T k N qual scope body m) : FnOk P w K mg base (L2N.CX P w) (k + 1) f fd ps (spF K T ps.length (dY N.length m)) := by
 refine F.ok S (fun vs H Q E ⟨w, h, ds, _, rs, hl, _⟩ => rs.length.trans hl) fun cdv A outer s H vs Q E hr ⟨w, h, ds, R, rs, hl, post⟩ => ⟨YJ _ body, ye, ?_⟩
 have hpl : ps.length ≤ N.length := by
  have := congrArg List.length S.pre
  rw [List.length_take] at this
  omega
 refine dm f cdv A outer s H E (afh S hr) (Bs.of w H) w _ H (startF N.length ds) h _ (R.start rs (by rw [hl]; exact hpl)) ?_
 unfold dY at post
 cases e : m (startF N.length ds) h with
 | ok fl fr h' =>
   rw [e] at post
   cases fl with
   | nx => exact fun w' σ' H' l R' => post w' H' .non l R'.unframe (.inl .non)
   | rt d => exact fun w' σ' H' v l R' rv => post w' H' v l R'.unframe (by
    rcases rv with rv | ⟨p, o, rfl, O, lo, eH, rd⟩
    · exact .inl rv
    · exact .inr ⟨p, o, rfl, O, fun i => Pb, eH, rd⟩)
   | brk => exact post.elim
   | ct => exact post.elim
 | exc y fr h' =>
   rw [e] at post
   exact fun w' σ' H' c dd l R' z => post w' H' c dd l R'.unframe z
 | err => rw [e] at post; exact post
end
end Pk
namespace Pk
open PySem PySem.Spec L2
structure WKw (X : Cx) (kws : List Keyword) (σ : L2.St) (H : Hp) (Q : List V → Hp → Prop) : Prop where
 go : ∀ pos pins s, Inv X pins σ H s → wpAny (model X.prog X.w) X.A (evalAll ((backToKw pos (keywordEach kws X.env)).map (·.2))) (AP X pins σ Q) X.xe s
abbrev ai9 (X : Cx) (T : Tb) (W : WX) (kws : List Keyword) (m : M (List D)) : Prop := jA (WKw X kws) X.K T W vA m
section
variable {X : Cx} {T : Tb} {W : WX} {e : Expr} {kws : List Keyword} {m : M D} {ms : List (M D)} {nm : Option Str} {kpos : Pos}
end
def qC (fr : Fr) : R D → R D
 | .ok d _ h => .ok d fr h
 | .exc x _ h => .exc x fr h
 | .err => .err
theorem Wv {K : PySem.W.Frag} {T : Tb} {B : Bs} {W : WX} {w : Wd} {σ : L2.St} {H : Hp} {fr : Fr} {h : Hh} {n : Nat} {F : Fn} {vs : List V} {ds : List D} {Q : VK} (R : Rel K T B w σ H fr h) (rs : az K T w vs ds) (hl : ds.length = n)
 (p : aZ K T B W (vE K T B σ) w σ (qC fr (F ds h)) Q) : spF K T n F vs H Q (fun c d H' => W c d σ H') := by
 refine ⟨w, h, ds, R.enter, rs, hl, ?_⟩
 cases e : F ds h with
 | ok d fr' h' =>
   rw [e] at p
   intro w' H' v l R' rv
   have ef : fr' = [] := by
    have := R'.fl
    exact List.length_eq_zero_iff.mp this
   subst ef
   have R2 := R.back l R'
   refine p w' H' v l R2 ?_
   rcases rv with rv | ⟨q, o, rfl, O, lo, eH, rd⟩
   · exact .inl rv
   · have nq : H q = none := O.e
     refine .inr ⟨q, o, rfl, ⟨O.f, O.i, (R.own_new nq).e, (R.own_new nq).p⟩, fun i z => R.loose_new nq i z, eH, rd⟩
 | exc y fr' h' =>
   rw [e] at p
   intro w' H' c dd l R' z
   have ef : fr' = [] := by
    have := R'.fl
    exact List.length_eq_zero_iff.mp this
   subst ef
   exact p w' H' c dd l (R.back l R') z
 | err => rw [e] at p; exact p
structure Bn (K : PySem.W.Frag) (T : Tb) (fd : FuncData) (ps : List Str) (n : Nat) (ks : List Str) (gD : List D → List D → List D) : Prop where
 ex : ∃ (g : List Value → List Value → List Value) (gV : List V → List V → List V), KBn K fd ps n ks g gV ∧
  ∀ (w : Wd) (vs zs : List V) (ds es : List D), az K T w vs ds → az K T w zs es → ds.length = n → es.length = ks.length → az K T w (gV vs zs) (gD ds es) ∧ (gD ds es).length = ps.length
def bh (dfl : List D) (ds _ : List D) : List D := ds ++ dfl
structure oR (P : Program) (w : World) (K : PySem.W.Frag) (mg : Str → Option Value) (base : Heap) (T : Tb) (k : Nat) (f : Addr) (fd : FuncData) (ps : List Str) (F : Fn) : Prop where
 ok : FnOk P w K mg base (L2N.CX P w) k f fd ps (spF K T ps.length F)
 kp : PySem.W.keepIn K (.ref f) = true
structure FnI (P : Program) (w : World) (K : PySem.W.Frag) (mg : Str → Option Value) (base : Heap) (T : Tb) (k c : Nat) (f : Addr) (fd : FuncData) (ps : List Str) (F : Fn) : Prop where
 ok : FnOk P w K mg base (L2N.CX P w) k f fd ps (spI K T c ps.length F)
 made : Mk K (T.cad c) f
def bW (n m : Nat) (F : Fn) (gD : List D → List D → List D) (ma mk : M (List D)) : M D := ma.bind fun ds => mk.bind fun es fr h => if ds.length = n ∧ es.length = m then qC fr (F (gD ds es) h) else .err
theorem mH {K : PySem.W.Frag} {T : Tb} {fd : FuncData} {ps : List Str} (h : Binds K fd ps []) : Bn K T fd ps ps.length [] (bh []) :=
 ⟨fun us _ => us, fun vs _ => vs, ⟨fun s us ws X l1 _ => by
  have b := h s us X (by rw [akZ]; exact l1)
  rw [akZ] at b
  exact b, fun r _ => r⟩, fun w vs zs ds es rs _ hl _ => ⟨by
   show az K T w vs (ds ++ [])
   rw [akZ]
   exact rs, by
   show (ds ++ []).length = _
   rw [akZ]
   exact hl⟩⟩
section
variable {X : Cx} {T : Tb} {W : WX} {k kk n : Nat} {f C : Addr} {fd : FuncData} {ps ks : List Str} {F : Fn} {x m : Str} {p pos apos : Pos} {e o : Expr} {es : List Expr} {kws : List Keyword} {mo : M D} {ma mk : M (List D)} {gD : List D → List D → List D}
theorem QS {pins : List (Addr × Obj)} {σ : L2.St} {H : Hp} {s : Shared} {Q : VK} {us ws : List Value} {vs zs : List V} {g : List Value → List Value → List Value} {gV : List V → List V → List V} {sp : Sp} (F : FnOk X.prog X.w X.K X.mg X.base (L2N.CX X.prog X.w) kk f fd ps sp) (hr : Room kk X.A) (hb : KBn X.K fd ps n ks g gV) (tk : L2N.Takes X W)
 (I : Inv X pins σ H s) (r : Vals vs us) (rz : Vals zs ws) (l1 : vs.length = n) (l2 : zs.length = ks.length) (h : sp (gV vs zs) H Q (fun c d H' => W c d σ H')) : wpAny (model X.prog X.w) X.A (call (.ref f) us (ks.zip ws)) (EP X pins σ Q) X.xe s := by
 have r2 := hb.rel r rz
 refine wpAny_call (codeAny_mono (F.run X.A X.stack s H ⟨us, ks.zip ws⟩ (g us ws) (gV vs zs) Q _ hr I.env0 (hb.to s us ws I.kIn (r.length.symm.trans l1) (rz.length.symm.trans l2)) r2 h) fun r s' hq => ?_)
 cases r with
 | error e => exact L2N.passAt tk σ pins H s e s' I hq
 | ok fl =>
   cases fl with
   | ret u => exact I.after hq
   | next => exact False.elim hq
   | brk => exact False.elim hq
   | cont => exact False.elim hq
theorem run_mk {pins : List (Addr × Obj)} {σ : L2.St} {H : Hp} {s : Shared} {Q : VK} {us ws : List Value} {vs zs : List V} {g : List Value → List Value → List Value} {gV : List V → List V → List V} {sp : Sp} (M : Mk X.K C f) (F : FnOk X.prog X.w X.K X.mg X.base (L2N.CX X.prog X.w) kk f fd ps sp) (hr : Room (kk + 1) X.A) (hb : KBn X.K fd ps (n + 1) ks g gV) (tk : L2N.Takes X W)
 (I : Inv X pins σ H s) (r : Vals vs us) (rz : Vals zs ws) (l1 : vs.length = n) (l2 : zs.length = ks.length)
 (h : ∀ x dx, H x = none → H dx = none → dx ≠ x → sp (gV (.ref x :: vs) zs) (upd (upd H dx (.own x)) x (.ins C dx [])) (fun v H2 => v = .non ∧ Q (.ref x) H2) (fun c d H' => W c d σ H')) :
 wpAny (model X.prog X.w) X.A (call (.ref C) us (ks.zip ws)) (EP X pins σ Q) X.xe s := by
 have hq := h (s.heap.objs.size + 1) s.heap.objs.size (I.hok.fresh (Nat.le_succ _)) (I.hok.fresh (Nat.le_refl _)) (Nat.ne_of_lt (Nat.lt_succ_self _))
 have I2 := Inv.made (C := C) I
 have r1 : Vals (V.ref (s.heap.objs.size + 1) :: vs) (Value.ref (s.heap.objs.size + 1) :: us) := .cons rfl r
 have r2 := hb.rel r1 rz
 have n1 : (Value.ref (s.heap.objs.size + 1) :: us).length = n + 1 := by
  rw [akU, ← r.length, l1]
 refine wpAny_call (make_map (f := f) I.kIn M.makes M.init (beq_iff_eq.mp M.fn) (codeAny_mono (F.run _ X.stack _ _ ⟨Value.ref (s.heap.objs.size + 1) :: us, ks.zip ws⟩ (g (Value.ref (s.heap.objs.size + 1) :: us) ws) _ _ _ (hr.make C us (ks.zip ws))
  (I2.env0.make C us (ks.zip ws)) (hb.to _ (Value.ref (s.heap.objs.size + 1) :: us) ws I2.kIn n1 (rz.length.symm.trans l2)) r2 hq) fun r s' hq' => ?_))
 cases r with
 | error e => exact L2N.passAt tk σ pins _ _ e s' I2 hq'
 | ok fl =>
   cases fl with
   | ret u =>
     obtain ⟨v, H', I3, rv, ev, q3⟩ := I2.after hq'
     subst ev
     exact ⟨rv, ⟨V.ref (s.heap.objs.size + 1), H', I3, rfl, q3⟩⟩
   | next => exact False.elim hq'
   | brk => exact False.elim hq'
   | cont => exact False.elim hq'
theorem NT {B : Bs} {w : Wd} {σ : L2.St} {H : Hp} {fr : Fr} {h : Hh} {m : Nat} {vs zs : List V} {ds es : List D} {Q : VK} {gV : List V → List V → List V} (hg : ∀ (w : Wd) (vs zs : List V) (ds es : List D), az X.K T w vs ds → az X.K T w zs es → ds.length = n → es.length = m → az X.K T w (gV vs zs) (gD ds es) ∧ (gD ds es).length = ps.length)
 (R : Rel X.K T B w σ H fr h) (rs : az X.K T w vs ds) (rz : az X.K T w zs es) (p : aZ X.K T B W (vE X.K T B σ) w σ (if ds.length = n ∧ es.length = m then qC fr (F (gD ds es) h) else .err) Q) :
 vs.length = n ∧ zs.length = m ∧ spF X.K T ps.length F (gV vs zs) H Q (fun c d H' => W c d σ H') := by
 by_cases hl : ds.length = n ∧ es.length = m
 · rw [if_pos hl] at p
   obtain ⟨r2, l2⟩ := hg w vs zs ds es rs rz hl.1 hl.2
   exact ⟨rs.length.trans hl.1, rz.length.trans hl.2, Wv R r2 l2 p⟩
 · rw [if_neg hl] at p
   exact p.elim
theorem eQ (C : Cq X T W k) (F0 : oR X.prog X.w X.K X.mg X.base T kk f fd ps F) (hk : kk ≤ k) (bn : Bn X.K T fd ps n [] gD) (hm : X.mg x = some (.ref f)) (sa : JT X T W (e :: es) ma) (hg : Gl X x := by rfl) (hdb : (x == ("__debug__" : Str)) = false := by decide)
 (he : starEach (e :: es) X.env = (false, eval e X.env) :: starEach es X.env := by exact eE rfl) (hpl : (backTo pos (starEach es X.env)).any (·.1) = false := by rfl) : sG X T W (.Call (.Name x p) (e :: es) [] pos) (bW n 0 F gD ma (ak [])) := fun B w σ H fr h Q R pp => WE.mk <| fun pins s I => by
 obtain ⟨g, gV, hb, hgD⟩ := bn.ex
 refine wpAny_Call_Name_kw (ld_glob I hg hm ?_ hdb)
 refine PySem.W.callWith_K (h₀ := X.base) I.ok.mod.kin F0.kp (thn ((sa B w σ H fr h _ R (aZ.bind (VR := vA X.K T B σ) pp fun ds fr1 h1 w1 H1 vs e1 l1 r1 rs p1 => NT hgD r1 rs .nil p1)).go pos pins s I) fun us s1 ⟨vs, H1, I1, r, q⟩ => ⟨I1.kIn, ?_⟩) he hpl
 exact QS (ws := []) F0.ok (C.room.mono hk) hb C.takes I1 r .nil q.1 rfl q.2.2
end
end Pk
namespace Pk
open PySem PySem.Spec L2
structure BnI (K : PySem.W.Frag) (T : Tb) (fd : FuncData) (ps : List Str) (n : Nat) (ks : List Str) (gD : List D → List D → List D) : Prop where
 ex : ∃ (g : List Value → List Value → List Value) (gV gW : List V → List V → List V), KBn K fd ps (n + 1) ks g gV ∧ (∀ x vs zs, vs.length = n → zs.length = ks.length → gV (x :: vs) zs = x :: gW vs zs) ∧
  ∀ (w : Wd) (vs zs : List V) (ds es : List D), az K T w vs ds → az K T w zs es → ds.length = n → es.length = ks.length → az K T w (gW vs zs) (gD ds es) ∧ (gD ds es).length + 1 = ps.length
theorem acn {K : PySem.W.Frag} {T : Tb} {fd : FuncData} {ps : List Str} (n : Nat) (h : Binds K fd ps []) (hn : n + 1 = ps.length) : BnI K T fd ps n [] (bh []) :=
 ⟨fun us _ => us, fun vs _ => vs, fun vs _ => vs, ⟨fun s us ws X l1 _ => by
  have b := h s us X (by rw [akZ, l1]; exact hn)
  rw [akZ] at b
  exact b, fun r _ => r⟩, fun _ _ _ _ _ => rfl, fun w vs zs ds es rs _ hl _ => ⟨by
   show az K T w vs (ds ++ [])
   rw [akZ]
   exact rs, by
   show (ds ++ []).length + 1 = _
   rw [akZ, hl]
   exact hn⟩⟩
section
variable {X : Cx} {T : Tb} {W : WX} {k kk n c : Nat} {f : Addr} {fd : FuncData} {ps ks : List Str} {F : Fn} {x m : Str} {p pos apos : Pos} {e o : Expr} {es : List Expr} {kws : List Keyword} {mo : M D} {ma mk : M (List D)} {gD : List D → List D → List D}
theorem CT {α : Type} {f : Str} : ∀ {fs : List Str} {vs : List α}, f ∉ fs → (fs.zip vs).lookup f = none
 | [], _, _ => rfl
 | g :: fs, [], _ => by simp
 | g :: fs, v :: vs, h => by
   rw [List.mem_cons, not_or] at h
   show ak6 f ((g, v) :: fs.zip vs) = none
   rw [List.lookup_cons, beq_eq_false_iff_ne.mpr h.1]
   exact CT h.2
structure Af (X : Cx) (T : Tb) (k : Nat) (m : Str) (mt : Nat → Option Fn) (n : Nat) (ks : List Str) (gD : List D → List D → List D) : Prop where
 ex : ∀ c F, mt c = some F → ∃ (kk : Nat) (f : Addr) (fd : FuncData) (ps : List Str), Cls X.K (T.cad c) ∧ Meth X.K (T.cad c) m f ∧ oR X.prog X.w X.K X.mg X.base T kk f fd ps F ∧ Bn X.K T fd ps (n + 1) ks gD ∧ m ∉ T.fld c ∧ kk ≤ k
def fnOf (mt : Nat → Option Fn) (h : Hh) (o : D) : Option Fn := match o.ins h with
 | some (c, _) => mt c
 | none => none
def mZ (n m : Nat) (mt : Nat → Option Fn) (gD : List D → List D → List D) (mo : M D) (ma mk : M (List D)) : M D := mo.bind fun o fr h => match fnOf mt h o with
 | some F => (bW (n + 1) m F gD (ma.bind fun ds => M.ret (o :: ds)) mk) fr h
 | none => .err
theorem RJ {B : Bs} {w : Wd} {σ : L2.St} {H : Hp} {fr : Fr} {h : Hh} {mt : Nat → Option Fn} {v : V} {d : D} {G : Fn} (M : Af X T k m mt n ks gD) (R : Rel X.K T B w σ H fr h) (rv : bO X.K T w v d) (e : fnOf mt h d = some G) :
 ∃ (kk : Nat) (f : Addr) (fd : FuncData) (ps : List Str) (a C dx : Addr) (fs : List (Str × V)), v = .ref a ∧ H a = some (.ins C dx fs) ∧ fs.lookup m = none ∧ Cls X.K C ∧ Meth X.K C m f ∧ oR X.prog X.w X.K X.mg X.base T kk f fd ps G ∧ Bn X.K T fd ps (n + 1) ks gD ∧ kk ≤ k := by
 unfold fnOf at e
 split at e
 · rename_i c fs ei
   obtain ⟨kk, f, fd, ps, c1, c2, c3, c4, c5, c6⟩ := M.ex c G e
   obtain ⟨a, dx, vs, rfl, eH, rs⟩ := Wu R (.inl rv) ei
   exact ⟨kk, f, fd, ps, a, T.cad c, dx, _, rfl, eH, CT c5, c1, c2, c3, c4, c6⟩
 · cases e
theorem Mh {pl : Sem Bool} {mt : Nat → Option Fn} (C : Cq X T W k) (Mf : Af X T k m mt n [] gD) (so : aX X T W o mo) (sa : JT X T W (e :: es) ma)
 (hst : starEach (e :: es) X.env = (false, eval e X.env) :: starEach es X.env := by exact eE rfl) (hpl : (backTo pos (starEach es X.env)).any (·.1) = false := by rfl)
 (ht : eval (.Call (.Attribute o m apos) (e :: es) [] pos) X.env = (do
  let ov ← eval o X.env
  standAt apos.atName
  let (f, first) ← holding [ov] (getMethod ov m pl)
  callWith pos f first (backTo pos (starEach (e :: es) X.env)) (backToKw pos (keywordEach [] X.env))) := by rfl) :
 sG X T W (.Call (.Attribute o m apos) (e :: es) [] pos) (mZ n 0 mt gD mo ma (ak [])) := fun B w σ H fr h Q R pp => WE.mk <| fun pins s I => by
 refine PySem.W.methodCall_KW (pl := pl) (thn ((so B w σ H fr h (fun v H1 => ∃ (kk : Nat) (f : Addr) (fd : FuncData) (ps : List Str) (a C dx : Addr) (fs : List (Str × V)) (G : Fn), v = .ref a ∧ H1 a = some (.ins C dx fs) ∧ fs.lookup m = none ∧ Cls X.K C ∧ Meth X.K C m f ∧ oR X.prog X.w X.K X.mg X.base T kk f fd ps G ∧ Bn X.K T fd ps (n + 1) [] gD ∧ kk ≤ k ∧
  ∀ g gV, KBn X.K fd ps (n + 1) [] g gV → (∀ (w : Wd) (vs zs : List V) (ds es : List D), az X.K T w vs ds → az X.K T w zs es → ds.length = n + 1 → es.length = ([] : List Str).length → az X.K T w (gV vs zs) (gD ds es) ∧ (gD ds es).length = ps.length) →
    WA X (e :: es) σ H1 fun vs H2 => (.ref a :: vs).length = n + 1 ∧ spF X.K T ps.length G (gV (.ref a :: vs) []) H2 Q (fun c d H' => W c d σ H')) R (aZ.bind (VR := vV X.K T B σ) pp fun d fr1 h1 w1 H1 v e1 l1 r1 rv p1 => ?_)).go pins s I) fun u s1 ⟨x, H1, I1, rx, kk, f, fd, ps, a, Cl, dx, fs, G, ex, ea, l, c1, c2, c3, c4, c5, q⟩ => ?_) ht
 · have p1' : aZ X.K T B W (vE X.K T B σ) w1 σ (match fnOf mt h1 d with | some F => (bW (n + 1) 0 F gD (ma.bind fun ds => M.ret (d :: ds)) (ak [])) fr1 h1 | none => .err) Q := p1
   cases ef : fnOf mt h1 d with
   | none => rw [ef] at p1'; exact p1'.elim
   | some G =>
     rw [ef] at p1'
     obtain ⟨kk, f, fd, ps, a, Cl, dx, fs, rfl, eH, l, c1, c2, c3, c4, c5⟩ := RJ Mf r1 rv ef
     refine ⟨kk, f, fd, ps, a, Cl, dx, fs, G, rfl, eH, l, c1, c2, c3, c4, c5, fun g gV hb hgD => ?_⟩
     have p2 : aZ X.K T B W (vE X.K T B σ) w1 σ ((ma.bind fun ds fr h => if (d :: ds).length = n + 1 ∧ ([] : List D).length = 0 then qC fr (G (gD (d :: ds) []) h) else .err) fr1 h1) Q := by
      have ee : (bW (n + 1) 0 G gD (ma.bind fun ds => M.ret (d :: ds)) (ak [])) fr1 h1 = (ma.bind fun ds fr h => if (d :: ds).length = n + 1 ∧ ([] : List D).length = 0 then qC fr (G (gD (d :: ds) []) h) else .err) fr1 h1 := by
       unfold bW M.bind
       cases ma fr1 h1 <;> rfl
      rw [← ee]
      exact p1'
     refine sa B w1 σ H1 fr1 h1 _ r1 (aZ.bind (VR := vA X.K T B σ) p2 fun ds fr2 h2 w2 H2 vs e2 l2 r2 rs p3 => ?_)
     have q := NT (n := n + 1) (m := 0) (zs := []) (es := []) hgD r2 (.cons (rv.mono l2) rs) .nil p3
     exact ⟨q.1, q.2.2⟩
 · subst ex
   obtain rfl : u = Value.ref a := rx
   obtain ⟨g, gV, hb, hgD⟩ := c4.ex
   refine getmeth_ok I1 ea c1 c2 l ?_
   refine PySem.W.callWith_K (first := [.ref a]) (h₀ := X.base) I.ok.mod.kin c2.kp (thn ((q g gV hb hgD).go pos pins s1 I1) fun us s2 ⟨vs, H2, I2, r, q2⟩ => ⟨I2.kIn, ?_⟩) hst hpl
   exact QS (us := .ref a :: us) (ws := []) (vs := .ref a :: vs) c3.ok (C.room.mono c5) hb C.takes I2 (.cons rfl r) .nil q2.1 rfl q2.2
theorem Uq {pl : Sem Bool} {mt : Nat → Option Fn} (C : Cq X T W k) (Mf : Af X T k m mt 0 [] gD) (so : aX X T W o mo)
 (ht : eval (.Call (.Attribute o m apos) [] [] pos) X.env = (do
  let ov ← eval o X.env
  standAt apos.atName
  let (f, first) ← holding [ov] (getMethod ov m pl)
  callWith pos f first (backTo pos (starEach [] X.env)) (backToKw pos (keywordEach [] X.env))) := by rfl) :
 sG X T W (.Call (.Attribute o m apos) [] [] pos) (mZ 0 0 mt gD mo (ak []) (ak [])) := fun B w σ H fr h Q R pp => WE.mk <| fun pins s I => by
 refine PySem.W.methodCall_KW (pl := pl) (thn ((so B w σ H fr h (fun v H1 => ∃ (kk : Nat) (f : Addr) (fd : FuncData) (ps : List Str) (a C dx : Addr) (fs : List (Str × V)) (G : Fn), v = .ref a ∧ H1 a = some (.ins C dx fs) ∧ fs.lookup m = none ∧ Cls X.K C ∧ Meth X.K C m f ∧ oR X.prog X.w X.K X.mg X.base T kk f fd ps G ∧ Bn X.K T fd ps (0 + 1) [] gD ∧ kk ≤ k ∧
  ∀ g gV, KBn X.K fd ps (0 + 1) [] g gV → (∀ (w : Wd) (vs zs : List V) (ds es : List D), az X.K T w vs ds → az X.K T w zs es → ds.length = 0 + 1 → es.length = ([] : List Str).length → az X.K T w (gV vs zs) (gD ds es) ∧ (gD ds es).length = ps.length) →
    spF X.K T ps.length G (gV [.ref a] []) H1 Q (fun c d H' => W c d σ H')) R (aZ.bind (VR := vV X.K T B σ) pp fun d fr1 h1 w1 H1 v e1 l1 r1 rv p1 => ?_)).go pins s I) fun u s1 ⟨x, H1, I1, rx, kk, f, fd, ps, a, Cl, dx, fs, G, ex, ea, l, c1, c2, c3, c4, c5, q⟩ => ?_) ht
 · have p1' : aZ X.K T B W (vE X.K T B σ) w1 σ (match fnOf mt h1 d with | some F => (bW (0 + 1) 0 F gD ((ak []).bind fun ds => M.ret (d :: ds)) (ak [])) fr1 h1 | none => .err) Q := p1
   cases ef : fnOf mt h1 d with
   | none => rw [ef] at p1'; exact p1'.elim
   | some G =>
     rw [ef] at p1'
     obtain ⟨kk, f, fd, ps, a, Cl, dx, fs, rfl, eH, l, c1, c2, c3, c4, c5⟩ := RJ Mf r1 rv ef
     refine ⟨kk, f, fd, ps, a, Cl, dx, fs, G, rfl, eH, l, c1, c2, c3, c4, c5, fun g gV hb hgD => ?_⟩
     exact (NT (n := 0 + 1) (m := 0) (zs := []) (es := []) (ds := [d]) hgD r1 (.cons rv .nil) .nil p1').2.2
 · subst ex
   obtain rfl : u = Value.ref a := rx
   obtain ⟨g, gV, hb, hgD⟩ := c4.ex
   refine getmeth_ok I1 ea c1 c2 l ?_
   exact PySem.W.callWith_K0 (first := [.ref a]) I1.kIn c2.kp (QS (us := [.ref a]) (ws := []) (vs := [.ref a]) c3.ok (C.room.mono c5) hb C.takes I1 (.cons rfl .nil) .nil rfl rfl (q g gV hb hgD))
structure ahX (X : Cx) (T : Tb) (k : Nat) (m : Str) (mt : Nat → Option Fn) : Prop where
 ex : ∀ c F, mt c = some F → ∃ (kk : Nat) (pa f : Addr) (fd : FuncData) (ps : List Str), Cls X.K (T.cad c) ∧ PropOf X.K (T.cad c) m pa f ∧ oR X.prog X.w X.K X.mg X.base T kk f fd ps F ∧ Binds X.K fd ps [] ∧ ps.length = 1 ∧ kk + 1 ≤ k
def ahY (mt : Nat → Option Fn) (mo : M D) : M D := mo.bind fun o fr h => match fnOf mt h o with
 | some F => match F [o] h with
   | .ok d _ h => .ok d fr h
   | _ => .err
 | none => .err
end
end Pk
namespace Pk
open PySem PySem.Spec L2
section
variable {X : Cx} {T : Tb} {W : WX} {k c : Nat} {x : Str} {pos : Pos}
theorem Tu {t : String} (hm : X.mg x = none) (hg : Gl X x := by rfl) (hv : bootBuiltins x = some (.type t) := by decide +kernel) (hn : x ≠ "__name__" := by decide) (hd : (x == ("__debug__" : Str)) = false := by decide) : aX X T W (.Name x pos) (mC (.ty t)) := fun B w σ H fr h Q r p =>
 eV (pe_bltn (v := .ty t) hg hm hv rfl hn hd) (p w H _ (Wd.le_refl _) r (.ty t))
structure aja (X : Cx) (T : Tb) (x : Str) (d : D) : Prop where
 ex : ∃ (u : Value) (v : V), X.mg x = some u ∧ RelV v u ∧ bO X.K T ⟨fun _ => none, []⟩ v d
end
inductive Tg where
 | b (t : String) | o (c : Nat)
 deriving DecidableEq
def Tg.v (T : Tb) : Tg → Value
 | .b t => .type t
 | .o c => .ref (T.cad c)
def D.tag (h : Hh) (d : D) : Option Tg := match d.der h with
 | .non => some (.b "NoneType")
 | .bl _ => some (.b "bool")
 | .int _ => some (.b "int")
 | .str _ => some (.b "str")
 | .tup _ => some (.b "tuple")
 | .fl _ => some (.b "list")
 | .nl _ => some (.b "list")
 | .kl _ => some (.b "list")
 | .obj c _ => some (.o c)
 | .no c _ => some (.o c)
 | _ => none
def D.ctag : D → Option Tg
 | .ty t => some (.b t)
 | .cls c => some (.o c)
 | _ => none
structure aam (K : PySem.W.Frag) (C : Addr) : Prop where
 cls : Cls K C
 ha : PySem.W.findIn K (.ref C) "__class__" = some (some (.builtin "object.__class__"))
 hn : PySem.W.specialIn K (.builtin "object.__class__") "__get__" = some (some (.builtin "getset_descriptor.__get__"))
 htk : PySem.W.takesIn K (.builtin "object.__class__") = some true
 hm : PySem.W.mroIn K C (.type "object") = some true
structure QT (K : PySem.W.Frag) (T : Tb) (tab : Tg → Tg → Option Bool) : Prop where
 kit : ∀ t u b, tab t u = some b → PySem.W.kitOne K (t.v T) (u.v T) = some b
 ins : ∀ c u b, tab (.o c) u = some b → aam K (T.cad c)
def HF : List String := ["NoneType", "bool", "int", "str", "tuple", "list"]
def Ur (a b : String) : Option Bool := if HF.contains a && HF.contains b then some (a == b || (a == "bool" && b == "int")) else none
theorem aco : ∀ a b r, Ur a b = some r → kitB a b = some r := by
 have key : ∀ a ∈ HF, ∀ b ∈ HF, kitB a b = Ur a b := by decide +kernel
 intro a b r h
 unfold Ur at h
 split at h
 · rename_i hh
   obtain ⟨h1, h2⟩ := Bool.and_eq_true_iff.mp hh
   rw [key a (List.contains_iff_mem.mp h1) b (List.contains_iff_mem.mp h2)]
   unfold Ur
   rw [if_pos hh]
   exact h
 · cases h
def CV : List D → Option (List Tg)
 | [] => some []
 | d :: ds => match d.ctag, CV ds with
   | some u, some us => some (u :: us)
   | _, _ => none
def Bp (tab : Tg → Tg → Option Bool) (t : Tg) : List Tg → Option Bool
 | [] => some false
 | u :: us => match tab t u with
   | some true => some true
   | some false => Bp tab t us
   | none => none
def tO (tab : Tg → Tg → Option Bool) (h : Hh) (d c : D) : Option D := match d.tag h with
 | some t => match c with
   | .tup l => match CV l with
     | some (u :: us) => (Bp tab t (u :: us)).map .bl
     | _ => none
   | c => match c.ctag with
     | some u => (tab t u).map .bl
     | none => none
 | none => none
section
variable {X : Cx} {T : Tb} {W : WX} {k : Nat} {pos pf : Pos} {a b : Expr} {ma mb : M D} {tab : Tg → Tg → Option Bool}
theorem NZ {K : PySem.W.Frag} {w : Wd} {v : V} {d : D} {u : Tg} (r : bO K T w v d) (e : d.ctag = some u) : ClsV v (u.v T) := by
 cases r <;> cases e
 · exact .own _
 · exact .ty _
theorem Mi {K : PySem.W.Frag} {B : Bs} {w : Wd} {σ : L2.St} {H : Hp} {fr : Fr} {h : Hh} {v : V} {d : D} {t u : Tg} {bb : Bool} (F : QT K T tab) (R : Rel K T B w σ H fr h) (rv : vO K T B σ w H fr v d) (e : d.tag h = some t) (e2 : tab t u = some bb) : TyX K H v (t.v T) := by
 have sqT : ∀ {a : Addr} {vs : List V}, SqT K H a vs → TyX K H (.ref a) (.type "tuple") := fun {a vs} q => by
  rcases q with (q | ⟨o, q⟩) | ⟨o, its, n, q1, q2, _⟩
  · exact .base (.tup q)
  · exact .fTuple q
  · exact .kTuple q1 q2
 have sqL : ∀ {a : Addr} {vs : List V}, SqL K H a vs → TyX K H (.ref a) (.type "list") := fun {a vs} q => by
  rcases q with (q | ⟨o, q⟩) | ⟨o, its, n, q1, q2, _⟩
  · exact .base (.lst q)
  · exact .base (.frz q)
  · exact .kList q1 q2
 have ins : ∀ {c : Nat} {a dx : Addr} {fs : List (Str × V)}, tab (.o c) u = some bb → H a = some (.ins (T.cad c) dx fs) → TyX K H (.ref a) (.ref (T.cad c)) := fun {c a dx fs} q eH => by
  have i := F.ins c u bb q
  exact .base (.ins eH i.cls i.ha i.hn i.htk i.hm)
 rcases rv with rv | ⟨p, o, rfl, eH, rv⟩
 · cases rv with
   | non => cases e; exact .base .non
   | bl b => cases e; exact .base (.bl b)
   | int i => cases e; exact .base (.int i)
   | str s => cases e; exact .base (.str s)
   | tup s r => cases e; exact sqT (dR R.sub s)
   | fl s r => cases e; exact .base (.lst (R.sub _ _ s))
   | kl s r => cases e; exact sqL (iJ R.sub s)
   | obj s r => cases e; exact ins e2 (R.sub _ _ s)
   | @ref a n s =>
     have ln : n < h.length := by
      rw [← R.len]
      exact (List.getElem?_eq_some_iff.mp s).1
     obtain ⟨o, q, rr⟩ := R.cel n a h[n] s (akX ln)
     have e0 : D.der h (.ref n) = h[n] := by
      unfold D.der
      dsimp only
      rw [akX ln]
      rfl
     unfold D.tag at e
     rw [e0] at e
     generalize h[n] = cc at rr e
     cases rr with
     | lst r => cases e; exact .base (.lst q)
     | obj r => cases e; exact ins e2 q
     | dct _ r => cases e
     | dkt _ r => cases e
     | so0 _ => cases e
     | so1 _ _ => cases e
     | hid0 => cases e
     | hid1 => cases e
   | cls _ => cases e
   | ty _ => cases e
   | sl _ => cases e
   | tp _ _ => cases e
 · cases rv with
   | lst r => cases e; exact .base (.lst eH)
   | obj r => cases e; exact ins e2 eH
theorem Kg {K : PySem.W.Frag} {w : Wd} : ∀ {vs : List V} {ds : List D} {us : List Tg}, az K T w vs ds → CV ds = some us → Paired ClsV vs (us.map (Tg.v T))
 | _, _, _, .nil, e => by cases e; exact .nil
 | _, _, _, @az.cons _ _ _ v d vs ds r rr, e => by
   unfold CV at e
   cases e1 : d.ctag with
   | none => rw [e1] at e; cases e
   | some u =>
     cases e2 : CV ds with
     | none => rw [e1, e2] at e; cases e
     | some us =>
       rw [e1, e2] at e
       cases e
       exact .cons (NZ r e1) (Kg rr e2)
theorem HH {K : PySem.W.Frag} {t : Tg} {bb : Bool} (F : QT K T tab) : ∀ {us : List Tg}, Bp tab t us = some bb → PySem.W.kitAny K (t.v T) (us.map (Tg.v T)) = some bb
 | [], e => by cases e; exact kitAny_nil
 | u :: us, e => by
   unfold Bp at e
   cases et : tab t u with
   | none => rw [et] at e; cases e
   | some b1 =>
     rw [et] at e
     cases b1 with
     | false => exact kitAny_cons (F.kit t u false et) (fun _ => HH F e) (fun z => by cases z)
     | true =>
       cases e
       exact kitAny_cons (F.kit t u true et) (fun z => by cases z) (fun _ => rfl)
theorem Nm {t : Tg} {bb : Bool} {us : List Tg} (e : Bp tab t us = some bb) : us = [] ∨ ∃ u b, tab t u = some b := by
 cases us with
 | nil => exact .inl rfl
 | cons u us =>
   right
   unfold Bp at e
   cases et : tab t u with
   | none => rw [et] at e; cases e
   | some b => exact ⟨u, b, et⟩
theorem RN : CallR X (.builtin "isinstance") (fun xs H Q => ∃ (x : V) (tp : Addr) (cs : List V) (t : Value) (us : List Value) (b : Bool), xs = [x, .ref tp] ∧ SqT X.K H tp cs ∧ Paired ClsV cs us ∧ TyX X.K H x t ∧ PySem.W.kitAny X.K t us = some b ∧ Q (.bl b) H) := by
 intro pins s σ H xs us Q I r h
 obtain ⟨x, tp, cs, t, ws, b, rfl, hT, k, ty, e, q⟩ := h
 obtain ⟨u1, u2, rfl, r1, r2⟩ := vals2 r
 cases (show u2 = Value.ref tp from r2)
 obtain ⟨P, Z, p, hx⟩ := kit_of I r1 ty
 obtain ⟨its, rv, pl, _⟩ := I.tuple hT
 obtain ⟨o, h1, h2, n, h3⟩ := pl
 have e3 := ClsV.all k rv
 subst e3
 obtain ⟨oc, od, dt, sl⟩ := o
 simp only at h2 h3
 subst h2 h3
 exact PySem.W.kia_tup Z I.kIn p h1 e hx fun tk => ⟨.bl b, H, I.tok tk, rfl, q⟩
theorem PB (F : QT X.K T tab) (sa : aX X T W a ma) (sb : aX X T W b mb) (hm : X.mg "isinstance" = none) (hg : Gl X "isinstance" := by rfl) (he : starEach (a :: b :: []) X.env = (false, eval a X.env) :: starEach (b :: []) X.env := by exact eE rfl) (he2 : starEach (b :: []) X.env = (false, eval b X.env) :: starEach [] X.env := by exact eE rfl)
 (hpl : (backTo pos (starEach (b :: []) X.env)).any (·.1) = false := by rfl) : aX X T W (.Call (.Name "isinstance" pf) [a, b] [] pos) (aq (tO tab) ma mb) :=
 aak (id := "isinstance") sa sb (fun B w σ H fr h x y d e z Q R rx ry q kk => by
  have ry : bO X.K T w y e := ry
  unfold tO at q
  cases et : d.tag h with
  | none => rw [et] at q; cases q
  | some t =>
    rw [et] at q
    have one : ∀ u, e.ctag = some u → (tab t u).map D.bl = some z → cM X (.builtin "isinstance") [x, y] H Q := fun u ec eq => by
     obtain ⟨bb, eb, rfl⟩ := Option.map_eq_some_iff.mp eq
     exact iU call_isi ⟨x, y, t.v T, u.v T, bb, rfl, NZ ry ec, Mi F R (.inl rx) et eb, F.kit t u bb eb, kk w H _ (Wd.le_refl _) R (.bl bb)⟩
    cases e with
    | tup l =>
      dsimp only at q
      cases ec : CV l with
      | none => rw [ec] at q; cases q
      | some us =>
        rw [ec] at q
        cases us with
        | nil => cases q
        | cons u us =>
          obtain ⟨bb, eb, rfl⟩ := Option.map_eq_some_iff.mp q
          obtain ⟨p, vs, rfl, sq, rs⟩ := vX ry
          have ty : TyX X.K H x (t.v T) := by
           rcases Nm eb with z | ⟨u', b', z⟩
           · cases z
           · exact Mi F R (.inl rx) et z
          exact iU RN ⟨x, p, vs, t.v T, (u :: us).map (Tg.v T), bb, rfl, dR R.sub sq, Kg rs ec, ty, HH F eb, kk w H _ (Wd.le_refl _) R (.bl bb)⟩
    | cls c => exact one _ rfl q
    | ty t => exact one _ rfl q
    | _ => cases q) hm hg (by decide +kernel) (by decide) (by decide) he he2 hpl
end
end Pk
namespace Pk
open PySem PySem.Spec L2
structure PD where
 adr : PySem.W.Frag → Addr
 name : Str
 qual : Str
 params : Arguments
 body : List Stmt
 scope : Scope
 dfl : List He.Dv
 kwd : List (Str × He.Dv)
 /-- an __init__ that says super() -/
 clo : Bool
def Us (K : PySem.W.Frag) (a : Addr) : He.FnW := match K.lookup a with
 | some ⟨_, _, .func fd, _⟩ => some (fd.name, fd.qualname, fd.params, fd.body, fd.scope, fd.globals, fd.closure.map (fun q => (q.1, 0)), fd.builtins)
 | _ => none
def PD.val (d : PD) : He.FnW := some (d.name, d.qual, d.params, .stmts d.body, d.scope, mainGlobals, if d.clo then [("__class__", 0)] else [], builtinsNs)
def PD.dvs (K : PySem.W.Frag) (d : PD) : List V := d.dfl.map (He.Dv.v K)
def PD.kws (K : PySem.W.Frag) (d : PD) : List (Str × V) := d.kwd.map fun q => (q.1, q.2.v K)
def PD.ok (K : PySem.W.Frag) (d : PD) : Bool := PySem.W.keepIn K (.ref (d.adr K)) && (match K.lookup (d.adr K) with
 | some ⟨_, _, .func fd, _⟩ => PySem.W.codeIn K fd.code d.qual && (He.dflB K fd.defaults (d.dvs K) && He.kwdB K fd.kwdefaults (d.kws K))
 | _ => false)
theorem PD.funD {K : PySem.W.Frag} {d : PD} (hc : d.clo = false) (e : Us K (d.adr K) = d.val) (c : d.ok K = true) : ∃ fd, FunD K d.name d.qual d.params d.body d.scope (d.dvs K) (d.kws K) (d.adr K) fd := by
 obtain ⟨kp, c2⟩ := He.ba c
 unfold Us at e
 cases q : K.lookup (d.adr K) with
 | none =>
   rw [q] at c2
   cases c2
 | some o =>
   obtain ⟨oc, od, dt, osl⟩ := o
   rw [q] at c2 e
   cases dt with
   | func fd =>
     obtain ⟨n1, n2, n3, n4, n5, n6, n7, n8, n9, n10, n11, n12, n13, n14, n15⟩ := fd
     unfold PD.val at e
     rw [hc] at e
     have e2 : (some (n1, n2, n3, n4, n5, n6, n7.map (fun q => (q.1, 0)), n15) : He.FnW) = some (d.name, d.qual, d.params, .stmts d.body, d.scope, mainGlobals, [], builtinsNs) := e
     simp only [Option.some.injEq, Prod.mk.injEq, List.map_eq_nil_iff] at e2
     obtain ⟨h1, h2, h3, h4, h5, h6, h7, h8⟩ := e2
     subst h1 h2 h3 h4 h5 h6 h7 h8
     have c3 : (PySem.W.codeIn K n13 d.qual && (He.dflB K n8 (d.dvs K) && He.kwdB K n9 (d.kws K))) = true := c2
     obtain ⟨k1, k2⟩ := He.ba c3
     obtain ⟨k3, k4⟩ := He.ba k2
     exact ⟨_, ⟨oc, od, n8, n9, n10, n11, n12, n13, n14, osl, rfl, q, k1, He.dflB_ok k3, He.kwdB_ok k4⟩, kp⟩
   | _ => cases c2
def pgA (K : PySem.W.Frag) (C : Addr) (f : Str) : Addr := match PySem.W.findIn K (.ref C) f with
 | some (some (.ref p)) => (match PySem.W.recIn K p "property" with
   | some (.ref g :: _) => g
   | _ => 0)
 | _ => 0
def kwA (a : PySem.W.Frag → Addr) (x : Str) (K : PySem.W.Frag) : Addr := match K.lookup (a K) with
 | some ⟨_, _, .func fd, _⟩ => (match fd.kwdefaults with
   | .ref d => (match PySem.W.nsIn K d x with
     | some (some (.ref b)) => b
     | _ => 0)
   | _ => 0)
 | _ => 0
def dfA (a : PySem.W.Frag → Addr) (i : Nat) (K : PySem.W.Frag) : Addr := match K.lookup (a K) with
 | some ⟨_, _, .func fd, _⟩ => (match fd.defaults with
   | .ref T => (match K.lookup T with
     | some ⟨_, _, .seq its _, _⟩ => (match its.toList[i]? with
       | some (.ref b) => b
       | _ => 0)
     | _ => 0)
   | _ => 0)
 | _ => 0
def adT (K : PySem.W.Frag) (a : Addr) (vs : List He.Dv) : Bool := match K.lookup a with
 | some ⟨.type c, _, .seq its _, _⟩ => decide (c = "tuple") && (decide (its.size ≤ sizeLine) && He.relAll (vs.map (He.Dv.v K)) its.toList)
 | _ => false
inductive Fx where
 | he (f : He.Fa)
 | prop (x f : Str)
 | ins (x : Str)
 | kit (t u : Tg) (b : Bool)
 | tup (a : PySem.W.Frag → Addr) (vs : List He.Dv)
 | slf (x : Str)
 /-- an own error class whose __init__ says super(): its fields, the file -/
 | own (x file : Str) (fs : List Str)
 /-- an error class as isinstance wants it -/
 | exi (x : Str)
 /-- a class that is no kind of number -/
 | nsb (x : Str)
 /-- anything else that is to be seen -/
 | raw (p : PySem.W.Frag → Bool)
def Tbo (cn : Nat → Str) (fld : Nat → List Str) (K : PySem.W.Frag) : Tb := ⟨fun c => He.ga K (cn c), fld⟩
def af5 (K : PySem.W.Frag) (C : Addr) : Bool := match K.lookup C with
 | some ⟨.type "type", _, .cls cd, sl⟩ => (match cd.mro, sl.toList with
   | .ref C' :: bm, [_, _, _, _, some (.builtin n), _] => C' == C && (n == "ValueError.__new__" && (!cd.hasDel && (cd.hasDict && (PySem.HandSPX.refsVE bm && He.eqO (PySem.W.alongIn K "__init__" bm) (some (some (.builtin "ValueError.__init__")))))))
   | _, _ => false)
 | _ => false
def af6 (K : PySem.W.Frag) (C f : Addr) (file : Str) : Bool := match K.lookup f with
 | some ⟨_, _, .func fd, _⟩ => (match fd.closure, fd.defaults, fd.code with
   | [(_, cc)], .none, .ref cda => (match K.lookup cc with
       | some ⟨_, _, .cell (some (.ref a)), _⟩ => decide (a = C)
       | _ => false) && (PySem.W.codeIn K (.ref cda) fd.qualname && (match K.lookup cda with
       | some ⟨_, _, Data.fields vs, _⟩ => (match (vs[2]? : Option Value) with
         | some (.str fi _) => decide (fi = file)
         | _ => false)
       | _ => false))
   | _, _, _ => false)
 | _ => false
def af7 (K : PySem.W.Frag) (C f : Addr) (file : Str) (fs : List Str) : Bool :=
 af5 K C && (He.eqO (PySem.W.findIn K (.ref C) "__setattr__") (some (some (.builtin "object.__setattr__"))) && (He.eqO (PySem.W.findIn K (.ref C) "__init__") (some (some (.ref f))) && (decide (PySem.W.typeIn K (.ref f) = some (.type "function")) &&
  (decide (PySem.W.subIn K (.ref C) (.type "ValueError") = some true) && (decide (PySem.W.mroIn K C (.ref C) = some true) && (He.eqO (PySem.W.nsIn K cStatics "thirdparty.any") (some none) && (af6 K C f file && (fs.all (fun y => He.eqO (PySem.W.findIn K (.ref C) y) (some none)) &&
  (PySem.W.keepIn K (.ref C) && (decide (PySem.W.subIn K (.ref C) (.type "BaseException") = some true) && (decide (PySem.W.typeIn K (.ref C) = some (.type "type")) && (He.eqO (PySem.W.findIn K (.ref C) "__getattribute__") (some (some (.builtin "BaseException.__getattribute__"))) &&
  (He.eqO (PySem.W.findIn K (.ref C) "__getattr__") (some none) && PySem.W.hasDictIn K C)))))))))))))
def af8 (K : PySem.W.Frag) (C : Addr) : Bool :=
 He.eqO (PySem.W.findIn K (.ref C) "__getattribute__") (some (some (.builtin "BaseException.__getattribute__"))) && (He.eqO (PySem.W.findIn K (.ref C) "__getattr__") (some none) && (decide (PySem.W.subIn K (.ref C) (.type "BaseException") = some true) && (PySem.W.hasDictIn K C &&
  (He.eqO (PySem.W.findIn K (.ref C) "__class__") (some (some (.builtin "object.__class__"))) && (He.eqO (PySem.W.specialIn K (.builtin "object.__class__") "__get__") (some (some (.builtin "getset_descriptor.__get__"))) && (decide (PySem.W.takesIn K (.builtin "object.__class__") = some true) && decide (PySem.W.mroIn K C (.type "object") = some true)))))))
def Fx.ok (cn : Nat → Str) (K : PySem.W.Frag) : Fx → Bool
 | .he f => f.ok K
 | .prop x f => He.eqO (PySem.W.findIn K (.ref (He.ga K x)) f) (some (some (.ref (He.ma K (He.ga K x) f)))) && (He.eqO (PySem.W.specialIn K (.ref (He.ma K (He.ga K x) f)) "__get__") (some (some (.builtin "property.__get__"))) &&
  (decide (PySem.W.takesIn K (.ref (He.ma K (He.ga K x) f)) = some true) && (match PySem.W.recIn K (He.ma K (He.ga K x) f) "property" with
   | some (.ref g :: _) => decide (g = pgA K (He.ga K x) f)
   | _ => false)))
 | .ins x => (He.Fa.cls x).ok K && (He.eqO (PySem.W.findIn K (.ref (He.ga K x)) "__class__") (some (some (.builtin "object.__class__"))) && (He.eqO (PySem.W.specialIn K (.builtin "object.__class__") "__get__") (some (some (.builtin "getset_descriptor.__get__"))) &&
  (decide (PySem.W.takesIn K (.builtin "object.__class__") = some true) && decide (PySem.W.mroIn K (He.ga K x) (.type "object") = some true))))
 | .kit t u b => decide (PySem.W.kitOne K (t.v (Tbo cn (fun _ => []) K)) (u.v (Tbo cn (fun _ => []) K)) = some b)
 | .tup a vs => adT K (a K) vs
 | .slf x => PySem.W.selfFirst K (He.ga K x)
 | .nsb x => decide (PySem.W.subIn K (.ref (He.ga K x)) (.type "int") = some false) && decide (PySem.W.subIn K (.ref (He.ga K x)) (.type "bool") = some false)
 | .exi x => af8 K (He.ga K x)
 | .raw p => p K
 | .own x file fs => af7 K (He.ga K x) (He.ma K (He.ga K x) "__init__") file fs
section
variable {K : PySem.W.Frag} {cn : Nat → Str} {fld : Nat → List Str}
end
abbrev AlP : Type := Bool × List He.FnW
def adV (cn : Nat → Str) (fa : List Fx) (fn : List PD) (K : PySem.W.Frag) : AlP := ((fa.all fun f => f.ok cn K) && fn.all fun d => d.ok K, fn.map fun d => Us K (d.adr K))
def adW (fn : List PD) : AlP := (true, fn.map PD.val)
def Mj (cn : Nat → Str) (fa : List Fx) (fn : List PD) (K : PySem.W.Frag) : Prop := adV cn fa fn K = adW fn
def afi (o : Obj) : List Addr := (match o.dict with
 | some d => [d]
 | none => []) ++ match o.data with
 | .seq its _ => its.toList.flatMap He.refV
 | .dict es _ => es.toList.flatMap fun e => He.refV e.val
 | .func fd => He.refV fd.code ++ (He.refV fd.defaults ++ (He.refV fd.kwdefaults ++ fd.closure.map (·.2)))
 | .cls cd => cd.ns :: (cd.mro.drop 1).flatMap He.refV
 | .fields vs => vs.toList.flatMap He.refV
 | .cell (some v) => He.refV v
 | _ => []
def asF (g : Addr → Option Obj) : Nat → List Addr → List Addr
 | 0, l => l
 | n + 1, l => l ++ asF g n (l.flatMap fun a => match g a with
   | some o => afi o
   | none => [])
def asP (g : Addr → Option Obj) (n : Nat) : List Addr := asF g n [mainGlobals] ++ [cStatics]
def obsPG (n : Nat) (cn : Nat → Str) (fa : List Fx) (fn : List PD) (g : Addr → Option Obj) : AlP := adV cn fa fn (He.frG g (asP g n))
def hookP (n : Nat) (cn : Nat → Str) (fa : List Fx) (fn : List PD) : PySem.W.Hook where
 α := AlP
 obs := fun s => obsPG n cn fa fn s.heap.get?
 val := fun _ => adW fn
 says := fun _ h => ∃ K : PySem.W.Frag, K.In h ∧ Mj cn fa fn K
 of := fun _ _ e => ⟨_, He.frG_in, e⟩
 keeps := fun _ _ _ ⟨K, hK, c⟩ k => ⟨K, PySem.W.Frag.In.keeps hK k, c⟩
theorem obsPG_eq {n : Nat} {cn : Nat → Str} {fa : List Fx} {fn : List PD} {g : Addr → Option Obj} {s : Shared} (h : ∀ a, g a = s.heap.get? a) : obsPG n cn fa fn g = (hookP n cn fa fn).obs s := by
 have e : g = s.heap.get? := funext h
 rw [e] <;> rfl
section
variable {cn : Nat → Str} {fa : List Fx} {fn : List PD} {K : PySem.W.Frag}
theorem Mj.fact (c : Mj cn fa fn K) (i : Nat) {f : Fx} (h : fa[i]? = some f := by rfl) : f.ok cn K = true := by
 have c1 := (He.ba (show ((fa.all fun f => f.ok cn K) && fn.all fun d => d.ok K) = true from congrArg (fun z : AlP => z.1) c)).1
 exact List.all_eq_true.mp c1 f (ald h)
theorem Mj.def_ (c : Mj cn fa fn K) (i : Nat) {d : PD} (h : fn[i]? = some d := by rfl) (hc : d.clo = false := by rfl) : ∃ fd, FunD K d.name d.qual d.params d.body d.scope (d.dvs K) (d.kws K) (d.adr K) fd := by
 have c2 := (He.ba (show ((fa.all fun f => f.ok cn K) && fn.all fun d => d.ok K) = true from congrArg (fun z : AlP => z.1) c)).2
 have e : fn.map (fun d => Us K (d.adr K)) = fn.map PD.val := congrArg (fun z : AlP => z.2) c
 have e2 : (fn.map fun d => Us K (d.adr K))[i]? = (fn.map PD.val)[i]? := by rw [e]
 rw [ak5, ak5, h] at e2
 exact PD.funD hc (Option.some.inj e2) (List.all_eq_true.mp c2 d (ald h))
end
theorem PN {K : PySem.W.Frag} {T : Tb} {w : Wd} : ∀ ns : List Int, az K T w (ns.map V.int) (ns.map D.int)
 | [] => .nil
 | i :: r => .cons (.int i) (PN r)
theorem law_sp {K : PySem.W.Frag} {T : Tb} {F : Fn} {H : Hp} {a : Addr} {ns : List Int} (hq : SqL K H a (ns.map V.int)) {fr : Fr} {h : Hh} (e : F [.kl (ns.map D.int)] [] = .ok (.bl true) fr h) : spF K T 1 F [.ref a] H (fun v _ => v = .bl true) (fun _ _ _ => False) := by
 refine ⟨⟨H, []⟩, [], [.kl (ns.map D.int)], ⟨Wd.le_refl _, fun _ q => .inl q, fun _ q => (by cases q), fun _ _ q _ => q, fun _ q => (by cases q), fun _ _ q => q, rfl, List.nodup_nil, fun _ q => (by cases q), fun _ _ _ q => (by simp at q), rfl, fun _ _ _ q => (by simp at q), fun _ _ _ _ q => (Pb q).elim, fun _ _ _ q _ => (by simp at q), fun _ q => (by cases q)⟩, .cons (.kl hq (PN ns)) .nil, rfl, ?_⟩
 rw [e]
 intro w' H' v l R rv
 rcases rv with rv | ⟨p, o, _, _, _, _, r⟩
 · cases rv
   rfl
 · cases r
def pick {α : Type} (is : List Nat) (l : List α) : List α := is.filterMap fun i => l[i]?
def gKw {α : Type} (is : List Nat) (us mv ws : List α) : List α := us ++ pick is (ws ++ mv)
end Pk
namespace PySem
namespace EnT
abbrev Ut (l : Addr) : Obj := { cls := .type "tuple_iterator", data := .fields #[.ref l, .int 0 0] }
abbrev Ze (it : Addr) : Obj := { cls := .type "enumerate", data := .fields #[.none, .bool false, .ref it, rawInt 0, .none, .none] }
theorem yg (l : Addr) (items : Array Value) (n : Nat) (dct : Option Addr) (sl : Array (Option Value)) :
 Meets (Builtin.«enumerate.__new__» ⟨[.type "enumerate", .ref l], []⟩) (fun _ R s => s.heap.get? l = some { cls := .type "tuple", dict := dct, data := .seq items n, slots := sl } ∧
  R (.ok (.ret (.ref (s.heap.push (Ut l)).objs.size))) { s with heap := (s.heap.push (Ut l)).push (Ze s.heap.objs.size) }) := by
 refine .of_wp fun prog w A R s h => ?_
 obtain ⟨hp, g, d, tk, os⟩ := s
 obtain ⟨hl, h⟩ := h
 have hsub := sub_enumerate
 have hT : Heap.IsTuple (Shared.heap ⟨hp, g, d, tk, os⟩) l items := ⟨_, hl, rfl, n, rfl⟩
 wp_walk using AutoSeq1.wpAny_loadPart' hl
 refine wpAny_stack_any fun st => wpAny_pure ?_
 split
 · rename_i c _ _ _ _ _
   cases (c == Value.type "enumerate") <;> (wp_walk using AutoSeq1.wpAny_loadPart' hl, wpAny_pyIter_tuple hT; exact ⟨_, rfl, h⟩)
 · wp_walk using AutoSeq1.wpAny_loadPart' hl, wpAny_pyIter_tuple hT
   exact ⟨_, rfl, h⟩
section
variable {prog : Program} {w : World} {A : Around} {E : Value → Shared → Prop} {s : Shared}
theorem call_tup {l : Addr} {items : Array Value} {Q : Value → Shared → Prop} (hT : s.heap.IsTuple l items)
 (h : ∀ h', IsEnum h' (s.heap.objs.size + 1) s.heap.objs.size 0 .none → h'.IsTupleIter s.heap.objs.size l 0 → (∀ b o, s.heap.get? b = some o → h'.get? b = some o) → Q (.ref (s.heap.objs.size + 1)) { s with heap := h' }) :
 wpAny (model prog w) A (call (.type "enumerate") [.ref l]) Q E s := by
 obtain ⟨⟨c, dct, dt, sl⟩, hl, hc, n, hd⟩ := hT
 obtain rfl : c = .type "tuple" := hc
 obtain rfl : dt = .seq items n := hd
 have hz : (s.heap.push (Ut l)).objs.size = s.heap.objs.size + 1 := Heap.size_push ..
 have he : ((s.heap.push (Ut l)).push (Ze s.heap.objs.size)).get? (s.heap.objs.size + 1) = some (Ze s.heap.objs.size) := by
  have z := Heap.get?_push_size (s.heap.push (Ut l)) (o := Ze s.heap.objs.size) rfl
  rw [hz] at z
  exact z
 have hi : ((s.heap.push (Ut l)).push (Ze s.heap.objs.size)).get? s.heap.objs.size = some (Ut l) := Heap.get?_push_of_some _ (Heap.get?_push_size _ rfl)
 refine callType_new F.called_enumerate (by decide) (F.typeCall_enumerate_1 _) (F.newCall_enumerate_1 _) (fun obj => F.args_object_init_2 obj _) F.entry_enumerate_new (yg l items n dct sl) ⟨hl, ?_⟩
 show _ ∧ _
 rw [hz]
 exact ⟨⟨_, he, rfl⟩, h _ he ⟨_, hi, rfl, rfl⟩ fun b o x => Heap.get?_push_of_some _ (Heap.get?_push_of_some _ x)⟩
end
end EnT
end PySem
namespace L2
open PySem PySem.Spec PyProof.Rows
def ItE (K : PySem.W.Frag) (a : Addr) : It :=
 ⟨fun i H => ∃ (xs : List V) (x : V), SqT K H a xs ∧ xs[i]? = some x, fun i H v H' => ∃ T x, v = .ref T ∧ H T = none ∧ H' = upd H T (.tup [.int (i : Nat), x]) ∧ ∀ xs, SqT K H a xs → xs[i]? = some x, fun i H => ∃ xs : List V, SqT K H a xs ∧ xs.length ≤ i⟩
theorem QV {h : Heap} {a b : Addr} {its : Array Value} {n : String} {o : Obj} (p : h.IsTuple a its) (e : h.get? b = some o) (c : o.cls = .type n) (hn : n ≠ "tuple") : a ≠ b := fun z => by
 obtain ⟨oa, ea, ca, _⟩ := p
 rw [z, e] at ea
 cases ea
 rw [c] at ca
 exact hn (by injection ca)
theorem aan {P : Program} {w : World} {K : PySem.W.Frag} {elts : List Expr} {kk : Nat} {tpos : Pos} (a e it : Addr) :
 Turn P w K (.Tuple elts kk tpos) (ItE K a) [e, it] e (fun i h => (∃ old, IsEnum h e it ((i : Nat) : Int) old) ∧ h.IsTupleIter it a i ∧ e ≠ it) where
 mem := by simp
 obj := fun i h st b hb => by
  obtain ⟨⟨old, he⟩, ⟨o, ho, _, hd⟩, _⟩ := st
  rcases (show b = e ∨ b = it by simpa using hb) with rfl | rfl
  · exact ⟨_, he, fun v q => nomatch q⟩
  · exact ⟨o, ho, fun v q => by rw [hd] at q; cases q⟩
 keep := fun i h h' st k => by
  obtain ⟨⟨old, he⟩, hi, hne⟩ := st
  exact ⟨⟨old, k e (by simp) _ he⟩, hi.at fun o q => k it (by simp) o q, hne⟩
 item := by
  intro X hP hw hK hc i pins s σ H E I hf st hg
  subst hP hw hK
  obtain ⟨⟨old, he⟩, hit, hne⟩ := st
  obtain ⟨xs, x, hq, hx⟩ := hg
  obtain ⟨its, rv, p, _⟩ := I.tuple hq
  obtain ⟨u, hu, ru⟩ := rv.get hx
  have pt : s.heap.IsTuple a its.toArray := p
  have hai : a ≠ it := by
   obtain ⟨o, ho, c, _⟩ := id hit
   exact QV pt ho c (by decide)
  have hae : a ≠ e := QV pt he rfl (by decide)
  have hlt : i < its.toArray.size := by
   have := (List.getElem?_eq_some_iff.mp hu).1
   simpa using this
  have hel : e < s.heap.objs.size := Heap.lt_size he
  have hil : it < s.heap.objs.size := by
   obtain ⟨_, q, _⟩ := hit
   exact Heap.lt_size q
  refine wpAny_pyNext_enum_itemD (Draws.tuple (show X.A.in1.handled = none from I.ok.hd hc) it a hai its.toArray) he ⟨hit, pt⟩ hlt hne (by simp [hne, Ne.symm hae]) fun y h' tk hy ho hst hT hsz hk => ?_
  obtain rfl : u = y := by
   have e1 : its[i]? = some y := by simpa using hy
   rw [hu] at e1
   exact Option.some.inj e1
  refine ⟨_, rfl, wpAny_letOwnedTupleGo_enum (s := { s with heap := h', toks := tk + 1 }) ho fun h'' he' sb => ?_⟩
  have ne : s.heap.objs.size ≠ e := Nat.ne_of_gt hel
  have new : ObjOk X.prog X.w (upd H s.heap.objs.size (.tup [.int (i : Nat), x])) h'' s.heap.objs.size (.tup [.int (i : Nat), x]) :=
   ⟨by show 2 ≤ sizeLine; decide, [.int i tk, u], .cons ⟨_, rfl⟩ (.cons ru .nil), ⟨_, (sb.2 _ ne).trans hT, rfl, _, rfl⟩⟩
  have I1 : Inv X pins σ (upd H s.heap.objs.size (.tup [.int (i : Nat), x])) { s with heap := h'', toks := tk + 1 } :=
   I.turnedNew (ch := [e, it]) (fun b ob hb q => (sb.2 b (fun z => hb (by simp [z]))).trans (hk b ob (fun z => hb (by simp [z])) (fun z => hb (by simp [z])) q)) hf (Nat.le_refl _) new
  refine ⟨.ref s.heap.objs.size, _, I1, rfl, ⟨_, x, rfl, I.hok.fresh (Nat.le_refl _), rfl, fun ys hy => by rw [I.tuple_inj hy hq]; exact hx⟩, ⟨⟨u, ?_⟩, hst.1.at fun o q => (sb.2 it (Ne.symm hne)).trans q, hne⟩, fun b hb => ?_⟩
  · rw [show ((i + 1 : Nat) : Int) = (i : Int) + 1 by omega]
    exact he'
  · have hb' : b < s.heap.objs.size := by
     rcases (show b = e ∨ b = it by simpa using hb) with rfl | rfl
     · exact hel
     · exact hil
    rw [upd_ne (Nat.ne_of_lt hb')]
    exact (hf b hb).1
 done := by
  intro X hP hw hK hc i pins s σ H E I hf st hg
  subst hP hw hK
  obtain ⟨⟨old, he⟩, hit, hne⟩ := st
  obtain ⟨xs, hq, hx⟩ := hg
  obtain ⟨its, rv, p, _⟩ := I.tuple hq
  have pt : s.heap.IsTuple a its.toArray := p
  obtain ⟨f0, f1, f2, f3, f4, f5⟩ := hf it (by simp)
  have hai : a ≠ it := by
   obtain ⟨o, ho, c, _⟩ := id hit
   exact QV pt ho c (by decide)
  have hi : its.toArray[i]? = none := by
   have hl := rv.length
   simp
   omega
  have D : Draws X.prog X.w X.A.in1 it [it, a] i (fun _ _ => True) (fun j h => j = i ∧ h.IsTupleIter it a j ∧ h.IsTuple a its.toArray) :=
   { live := fun _ _ st => by
      obtain ⟨_, ⟨o, ho, _⟩, _⟩ := st
      exact ⟨o, ho⟩
     frame := fun _ _ _ st hk => ⟨st.1, st.2.1.at fun o e => hk it (by simp) o e, st.2.2.at fun o e => hk a (by simp) o e⟩
     item := fun j s Q E hj st _ => absurd st.1 (Nat.ne_of_lt hj)
     done := fun s Q E st hE => PySem.wpAny_nextOf_tuple_end (show X.A.in1.handled = none from I.ok.hd hc) st.2.1 st.2.2 hi hE }
  exact wpAny_pyNext_enum_endD D he ⟨rfl, hit, pt⟩ fun h' eb => ⟨rfl, I.turned (t' := s.toks) (fun b o hb q => eb b o hb q) f0 f1 f3 f4 f5⟩
 self := fun A i s Q E st h => by
  obtain ⟨⟨_, he⟩, _⟩ := st
  exact wpAny_pyIter_enum he h
def af9 (K : PySem.W.Frag) (ta : TA) : TI := fun σ H R => ta σ H fun vs H1 => ∃ a xs, vs = [.ref a] ∧ ((SqL K H1 a xs ∧ R (Ite K a) H1) ∨ (SqT K H1 a xs ∧ R (ItE K a) H1))
theorem Zf {X : Cx} {e : Expr} {ta : TA} {p pos tpos : Pos} {elts : List Expr} {kk : Nat} (hg : Gl X "enumerate") (hm : X.mg "enumerate" = none) (ha : PA X [e] ta) (hs : starEach [e] X.env = [(false, eval e X.env)] := by rfl) :
 PI X (.Tuple elts kk tpos) (.Call (.Name "enumerate" p) [e] [] pos) (af9 X.K ta) := by
 refine ⟨fun pins s σ H R I h => ?_⟩
 refine Call_ (ld_blt I hg hm boot_enumerate (PyProof.Rows.callWith_type1 (thn (ha.run pos pins s σ H _ I h) fun us s1 hh => ?_) hs rfl))
 obtain ⟨vs, H1, I1, r1, a, xs, rfl, q⟩ := hh
 cases r1 with
 | cons r rr =>
   cases rr
   cases r
   have two : ∀ b ∈ [s1.heap.objs.size + 1, s1.heap.objs.size], FpOk X pins H1 b := fun b hb => by
    have hle : s1.heap.objs.size ≤ b := by
     rcases (show b = s1.heap.objs.size + 1 ∨ b = s1.heap.objs.size by simpa using hb) with rfl | rfl
     · exact Nat.le_succ _
     · exact Nat.le_refl _
    exact I1.fpOk hle (I1.hok.fresh hle)
   rcases q with ⟨hq, q⟩ | ⟨hq, q⟩
   · obtain ⟨its, rv, pl, _⟩ := I1.list hq
     refine call_enumerate_list pl.isList fun h' he hit _ hk => wpAny_pyIter_enum he ?_
     exact ⟨s1.heap.objs.size + 1, [s1.heap.objs.size + 1, s1.heap.objs.size], _, _, H1, rfl, I1.kept (t' := s1.toks) hk, turn_enum a (s1.heap.objs.size + 1) s1.heap.objs.size, ⟨⟨.none, he⟩, hit, Nat.succ_ne_self _⟩, two, q⟩
   · obtain ⟨its, rv, pl, _⟩ := I1.tuple hq
     refine PySem.EnT.call_tup (show s1.heap.IsTuple a its.toArray from pl) fun h' he hit hk => wpAny_pyIter_enum he ?_
     exact ⟨s1.heap.objs.size + 1, [s1.heap.objs.size + 1, s1.heap.objs.size], _, _, H1, rfl, I1.kept (t' := s1.toks) hk, aan a (s1.heap.objs.size + 1) s1.heap.objs.size, ⟨⟨.none, he⟩, hit, Nat.succ_ne_self _⟩, two, q⟩
end L2
namespace Pk
open PySem PySem.Spec L2
def eG : Nat → List D → List D
 | _, [] => []
 | i, d :: ds => .tup [.int (i : Int), d] :: eG (i + 1) ds
theorem wM : ∀ (i : Nat) (l : List D), (eG i l).length = l.length
 | _, [] => rfl
 | i, _ :: l => congrArg Nat.succ (wM (i + 1) l)
theorem CW : ∀ (i : Nat) (l : List D) (j : Nat) (z : D), (eG i l)[j]? = some z → ∃ d, l[j]? = some d ∧ z = .tup [.int ((i + j : Nat) : Int), d]
 | _, [], j, z, e => by simp [eG] at e
 | i, d :: l, 0, z, e => by
   simp [eG] at e
   exact ⟨d, rfl, e.symm⟩
 | i, d :: l, j + 1, z, e => by
   obtain ⟨d', h1, h2⟩ := CW (i + 1) l j z (by simpa [eG] using e)
   exact ⟨d', by simpa using h1, by rw [h2]; congr 3; omega⟩
def D.lst : D → Option (List D)
 | .fl l => some l
 | .kl l => some l
 | .tup l => some l
 | _ => none
def qb (m : M D) : M (List D) := m.bind fun d => M.opt (d.lst.map (eG 0))
section
variable {X : Cx} {T : Tb} {W : WX} {k kk : Nat} {pos p tpos : Pos} {elts : List Expr} {a : Expr} {ma : M D}
theorem acp {K : PySem.W.Frag} {B : Bs} {σ : L2.St} {w : Wd} {H : Hp} {fr : Fr} {a : Addr} {vs : List V} {l : List D} (sq : SqL K w.F a vs) (rl : az K T w vs l) : vJ K T B σ w H fr (Ite K a) (eG 0 l) := fun i w2 H2 l2 hs => ⟨fun hi => ⟨vs, iJ hs (iJ l2.1 sq), by rw [rl.length, ← wM 0 l]; exact hi⟩, fun d' hd => by
 obtain ⟨d, hd1, rfl⟩ := CW 0 l i d' hd
 obtain ⟨v, hv, rv⟩ := rl.get hd1
 have sq2 : SqL K H2 a vs := iJ hs (iJ l2.1 sq)
 refine ⟨⟨vs, v, sq2, hv⟩, fun y H3 hy B' σ' fr' h' R' => ?_⟩
 obtain ⟨Tp, x, rfl, nT, rfl, hx⟩ := hy
 have z := hx vs sq2
 rw [hv] at z
 cases z
 have nf : w2.F Tp = none := (R'.nP nT).1
 have lw := Wd.le_add (o := .tup [.int (i : Nat), v]) nf
 rw [Nat.zero_add]
 exact ⟨w2.add Tp (.tup [.int (i : Nat), v]), lw, R'.laid nT, .tup (SqT.of (by show upd w2.F Tp _ Tp = _; rw [upd_same])) (.cons (.int _) (.cons ((rv.mono l2).mono lw) .nil))⟩⟩
theorem adX {K : PySem.W.Frag} {B : Bs} {σ : L2.St} {w : Wd} {H : Hp} {fr : Fr} {a : Addr} {vs : List V} {l : List D} (sq : SqT K w.F a vs) (rl : az K T w vs l) : vJ K T B σ w H fr (ItE K a) (eG 0 l) := fun i w2 H2 l2 hs => ⟨fun hi => ⟨vs, dR hs (dR l2.1 sq), by rw [rl.length, ← wM 0 l]; exact hi⟩, fun d' hd => by
 obtain ⟨d, hd1, rfl⟩ := CW 0 l i d' hd
 obtain ⟨v, hv, rv⟩ := rl.get hd1
 have sq2 : SqT K H2 a vs := dR hs (dR l2.1 sq)
 refine ⟨⟨vs, v, sq2, hv⟩, fun y H3 hy B' σ' fr' h' R' => ?_⟩
 obtain ⟨Tp, x, rfl, nT, rfl, hx⟩ := hy
 have z := hx vs sq2
 rw [hv] at z
 cases z
 have lw := Wd.le_add (o := .tup [.int (i : Nat), v]) (R'.nP nT).1
 rw [Nat.zero_add]
 exact ⟨w2.add Tp (.tup [.int (i : Nat), v]), lw, R'.laid nT, .tup (SqT.of (by show upd w2.F Tp _ Tp = _; rw [upd_same])) (.cons (.int _) (.cons ((rv.mono l2).mono lw) .nil))⟩⟩
theorem adY {K : PySem.W.Frag} {w : Wd} {v : V} {d : D} {l : List D} (r : bO K T w v d) (e : d.lst = some l) : ∃ p vs, v = .ref p ∧ az K T w vs l ∧ (SqL K w.F p vs ∨ SqT K w.F p vs) := by
 cases r with
 | fl s r =>
   cases e
   exact ⟨_, _, rfl, r, .inl (SqL.of s)⟩
 | kl s r =>
   cases e
   exact ⟨_, _, rfl, r, .inl s⟩
 | tup s r =>
   cases e
   exact ⟨_, _, rfl, r, .inr s⟩
 | _ => cases e
theorem Ay (s : aX X T W a ma) (hm : X.mg "enumerate" = none) (hg : Gl X "enumerate" := by rfl) (hs : starEach [a] X.env = [(false, eval a X.env)] := by rfl) : J9 X T W (.Tuple elts kk tpos) (.Call (.Name "enumerate" p) [a] [] pos) (qb ma) := fun B w σ H fr h Q r p =>
 LQ (Zf hg hm (pa_cons bF pa_nil (hs.trans (by rfl))) hs) (s B w σ H fr h _ r (aZ.bind (VR := vV X.K T B σ) p fun d fr1 h1 w1 H1 x e1 l1 r1 rx p1 => by
  cases q : d.lst with
  | none => rw [q] at p1; exact p1.elim
  | some l =>
    rw [q] at p1
    obtain ⟨a, vs, rfl, rl, sq | sq⟩ := adY rx q
    · exact ⟨a, vs, rfl, .inl ⟨iJ r1.sub sq, p1 w1 H1 (Ite X.K a) (Wd.le_refl _) r1 (acp sq rl)⟩⟩
    · exact ⟨a, vs, rfl, .inr ⟨dR r1.sub sq, p1 w1 H1 (ItE X.K a) (Wd.le_refl _) r1 (adX sq rl)⟩⟩))
end
end Pk
namespace Pk
open PySem PySem.Spec L2
inductive AllL {β : Type} (Q : Nat → β → Prop) : List (Nat × β) → Prop where
 | nil : AllL Q []
 | cons {a : Nat} {b : β} {l : List (Nat × β)} : Q a b → AllL Q l → AllL Q ((a, b) :: l)
theorem jt {β : Type} {Q : Nat → β → Prop} : ∀ {l : List (Nat × β)}, AllL Q l → ∀ c i, ak6 c l = some i → Q c i
 | _, .nil, _, _, e => by cases e
 | _, @AllL.cons _ _ a b l q r, c, i, e => by
   rw [List.lookup_cons] at e
   cases h : c == a with
   | true =>
     rw [h] at e
     cases e
     rw [beq_iff_eq.mp h]
     exact q
   | false =>
     rw [h] at e
     exact jt r c i e
def adZ (rows : List ((Tg × Tg) × Bool)) (t u : Tg) : Option Bool := match t, u with
 | .b a, .b b => Ur a b
 | t, u => ak6 (t, u) rows
inductive wN (K : PySem.W.Frag) (T : Tb) : List ((Tg × Tg) × Bool) → Prop where
 | nil : wN K T []
 | b {a : String} {c : Nat} {r : Bool} {l : List ((Tg × Tg) × Bool)} : PySem.W.kitOne K (Tg.v T (.b a)) (Tg.v T (.o c)) = some r → wN K T l → wN K T (((.b a, .o c), r) :: l)
 | o {c : Nat} {u : Tg} {r : Bool} {l : List ((Tg × Tg) × Bool)} : PySem.W.kitOne K (Tg.v T (.o c)) (u.v T) = some r → aam K (T.cad c) → wN K T l → wN K T (((.o c, u), r) :: l)
theorem Gv {K : PySem.W.Frag} {T : Tb} : ∀ {l : List ((Tg × Tg) × Bool)}, wN K T l → ∀ t u b, ak6 (t, u) l = some b → PySem.W.kitOne K (t.v T) (u.v T) = some b ∧ ∀ c, t = .o c → aam K (T.cad c)
 | _, .nil, _, _, _, e => by cases e
 | _, @wN.b _ _ a c r l q rr, t, u, b, e => by
   rw [List.lookup_cons] at e
   cases h : (t, u) == (Tg.b a, Tg.o c) with
   | true =>
     rw [h] at e
     cases e
     cases beq_iff_eq.mp h
     exact ⟨q, fun c' z => by cases z⟩
   | false =>
     rw [h] at e
     exact Gv rr t u b e
 | _, @wN.o _ _ c u' r l q i rr, t, u, b, e => by
   rw [List.lookup_cons] at e
   cases h : (t, u) == (Tg.o c, u') with
   | true =>
     rw [h] at e
     cases e
     cases beq_iff_eq.mp h
     exact ⟨q, fun c' z => by cases z; exact i⟩
   | false =>
     rw [h] at e
     exact Gv rr t u b e
theorem ad0 {K : PySem.W.Frag} {T : Tb} {l : List ((Tg × Tg) × Bool)} (h : wN K T l) : QT K T (adZ l) := by
 refine ⟨fun t u b e => ?_, fun c u b e => ?_⟩
 · cases t with
   | b a =>
     cases u with
     | b a' => exact kit_ty (aco _ _ _ e)
     | o c => exact (Gv h _ _ _ e).1
   | o c => exact (Gv h _ _ _ e).1
 · exact (Gv h _ _ _ e).2 c rfl
def ajb (is : List Nat) (md : List D) (ds es : List D) : List D := ds ++ pick is (es ++ md)
theorem fn_cx0 {P : Program} {w : World} {K : PySem.W.Frag} {mg : Str → Option Value} {base : Heap} {k : Nat} {f : Addr} {fd : FuncData} {ps : List Str} {sp : Sp} (F : FnOk P w K mg base (L2N.CX P w) k f fd ps sp) :
 FnOk P w K mg base CX0 k f fd ps (fun vs H Q _ => sp vs H Q fun _ _ _ => False) := by
 refine ⟨fun vs H Q _ q => F.len vs H Q _ q, fun A outer s H args us vs Q E hr e0 hb r hsp => codeAny_mono (F.run A outer s H args us vs Q _ hr e0 hb r hsp) fun r s' hq => ?_⟩
 cases r with
 | error e =>
   obtain ⟨a, B, H', cls, d, rfl, fl, hok, ub, na, os, ag, hE⟩ := (show L2N.CX P w outer H s (fun _ _ _ => False) e s' from hq)
   exact hE.elim
 | ok fl => cases fl <;> exact hq
end Pk
namespace Pk
open PySem PySem.Spec L2
section
variable {P : Program} {w : World} {K : PySem.W.Frag} {mg : Str → Option Value} {base : Heap} {T : Tb} {k : Nat} {x qual : Str} {params : Arguments} {body : List Stmt} {scope : Scope} {dvs : List V} {kws : List (Str × V)} {f : Addr} {fd : FuncData} {N ps : List Str}
end
structure FnS (P : Program) (w : World) (K : PySem.W.Frag) (mg : Str → Option Value) (base : Heap) (T : Tb) (k c : Nat) (f : Addr) (n : Nat) (ks : List Str) (F : Fn) : Prop where
 run : ∀ (A : Around) (outer : List Env) (s : Shared) (H : Hp) (u0 : Value) (ur ws : List Value) (v0 : V) (vr zs : List V) (Q : VK) (E : XK), Room k A → Env0 P w K mg base A outer s H → RelV v0 u0 → Vals vr ur → Vals zs ws → zs.length = ks.length → vr.length ≤ sizeLine →
  (∀ p, H p = none → spI K T c n F (v0 :: (zs ++ [.ref p])) (upd H p (.tup vr)) Q E) → codeAny (model P w) A (.call (.ref f) ⟨u0 :: ur, ks.zip ws⟩) (CR (L2N.CX P w) outer P w H s Q E) s
 made : Mk K (T.cad c) f
section
variable {P : Program} {w : World} {K : PySem.W.Frag} {mg : Str → Option Value} {base : Heap} {T : Tb} {k : Nat} {x qual : Str} {params : Arguments} {body : List Stmt} {scope : Scope} {f : Addr} {fd : FuncData} {N : List Str} {p0 pv : Str} {ks : List Str}
end
def afj (ds es : List D) : List D := es ++ [.tup ds]
def ahZ (m : Nat) (F : Fn) (ma : M D) (mk : M (List D)) : M D := ma.bind fun d => mk.bind fun es fr h => match d.its [] with
 | some ds => if ds.length ≤ big ∧ es.length = m then qC fr (F (afj ds es) h) else .err
 | none => .err
section
variable {X : Cx} {T : Tb} {W : WX} {k kk n c : Nat} {f : Addr} {ks : List Str} {F : Fn} {x : Str} {p pos apos : Pos} {e : Expr} {es : List Expr} {kws : List Keyword} {ma : M (List D)} {mo : M D} {mk : M (List D)}
end
section
open PySem.W
variable {M' : Model} {A : Around} {E : Value → Shared → Prop} {s : Shared}
end
section
variable {X : Cx} {T : Tb} {W : WX} {k kk n c : Nat} {f : Addr} {ks : List Str} {F : Fn} {x : Str} {p sp_ pos apos : Pos} {e : Expr} {kws : List Keyword} {mo : M D} {mk : M (List D)}
end
end Pk
namespace Pk
open PySem PySem.Spec L2
structure ajc (X : Cx) (T : Tb) (k : Nat) (op : Operator) (mt : Nat → Option Fn) : Prop where
 ex : ∀ c F, mt c = some F → ∃ (kk : Nat) (f : Addr) (fd : FuncData) (ps : List Str), Cls X.K (T.cad c) ∧ Meth X.K (T.cad c) (PySem.dunder op.info.2) f ∧ PySem.W.selfFirst X.K (T.cad c) = true ∧ oR X.prog X.w X.K X.mg X.base T kk f fd ps F ∧ Bn X.K T fd ps 2 [] (bh []) ∧ kk ≤ k
def XM (h : Hh) (x y : D) : Option Nat := match x.ins h, y.ins h with
 | some (c, _), some (c', _) => if c = c' then some c else none
 | _, _ => none
def afk (mt : Nat → Option Fn) (h : Hh) (x y : D) : Option Fn := match XM h x y with
 | some c => mt c
 | none => none
def ajd (mt : Nat → Option Fn) (ma mb : M D) : M D := ma.bind fun x => mb.bind fun y fr h => match afk mt h x y with
 | some F => qC fr (F [x, y] h)
 | none => .err
section
variable {X : Cx} {T : Tb} {W : WX} {k : Nat} {a b : Expr} {ma mb : M D} {pos : Pos} {op : Operator}
end
end Pk
namespace PySem
namespace ExS
open PySem.W PySem.Calls PyProof.Rows PySem.HandSPX
abbrev asg (f : Str) (q1 q2 q3 q4 : Pos) : Stmt := .Assign [.Attribute (.Name "self" q1) f q2] (.Name f q3) q4
abbrev sup (e : Expr) (p0 p1 p2 p3 p4 : Pos) : Stmt := .Expr (.Call (.Attribute (.Call (.Name "super" p0) [] [] p1) "__init__" p2) [e] [] p3) p4
structure HJ (prog : Program) (K : Frag) (C fI : Addr) (params : Arguments) (body : List Stmt) (scope : Scope) (qual : Str) : Prop where
 cls : ∃ nm q N bs bm sn sub ab col dd k0 k1 k2 k3 k5, K.lookup C = some (excClassObj nm q C N bs bm true sn sub ab col dd k0 k1 k2 k3 k5 "ValueError.__new__") ∧ refsVE bm = true ∧ alongIn K "__init__" bm = some (some (.builtin "ValueError.__init__"))
 sa : findIn K (.ref C) "__setattr__" = some (some (.builtin "object.__setattr__"))
 iC : findIn K (.ref C) "__init__" = some (some (.ref fI))
 tC : typeIn K (.ref fI) = some (.type "function")
 subB : subIn K (.ref C) (.type "ValueError") = some true
 subC : mroIn K C (.ref C) = some true
 opq : nsIn K cStatics "thirdparty.any" = some none
 top : (prog.main.scope.names.lookup ("super" : Str)).isSome = false
 fn : ∃ (oc : Value) (od : Option Addr) (kV doc pm : Value) (an : Option Addr) (cda : Addr) (ct : Value) (osl : Array (Option Value)) (cc : Addr),
  K.lookup fI = some ⟨oc, od, .func (ksFn "__init__" qual params body scope .none kV doc pm an (.ref cda) ct cc), osl⟩ ∧ codeIn K (.ref cda) qual = true ∧
  (∃ (ccl : Value) (cdd : Option Addr) (vs : Array Value) (ccs : Array (Option Value)) (file : Str) (tf : Tok), K.lookup cda = some ⟨ccl, cdd, .fields vs, ccs⟩ ∧ vs[2]? = some (.str file tf) ∧ ((prog.main.file : Str) == file) = true) ∧
  ∃ (cl : Value) (cld : Option Addr) (csl : Array (Option Value)), K.lookup cc = some ⟨cl, cld, .cell (some (.ref C)), csl⟩
section
variable {prog : Program} {w : World} {M : Model} {A : Around} {E : Value → Shared → Prop} {s : Shared}
theorem aao {t : Sem Value} {Q : List Value → Shared → Prop} (h : wpAny M A t (fun v s => Q [v] s) E s) : wpAny M A (spliced [(false, t)]) Q E s := by
 unfold spliced
 refine wpAny_bind (wpAny_mono h (fun v s' h' => ?_) fun _ _ x => x)
 refine wpAny_bind (wpAny_pure ?_)
 refine wpAny_bind (wpAny_holding ?_)
 exact Calls.spliced_nil (wpAny_pure h')
theorem acq {h : Heap} {g : Array GenState} {d : Drawn} {t : Nat} {os : OsState} {nm q : Str} {C N : Addr} {bs bm : List Value} {hdct : Bool} {sn : List Str} {sub : List Value} {ab : Bool} {col : Option Bool} {dd : Option Addr} {k0 k1 k2 k3 k5 : Option Value} {u x t0 : Addr} {rest : List Value} {Q : Value → Shared → Prop}
 (hC : h.get? C = some (excClassObj nm q C N bs bm hdct sn sub ab col dd k0 k1 k2 k3 k5 "ValueError.__new__")) (he : h.get? x = some (excO C t0)) (hu : h.get? u = some (kxs_mw "ValueError.__init__" x)) (hz : rest.length ≤ sizeLine)
 (hq : ∀ h' t1, (∀ b o, b ≠ x → h.get? b = some o → h'.get? b = some o) → h'.get? x = some (excO C t1) → Q .none ⟨h', g, d, t, os⟩) :
 wpAny (model prog w) A (call (.ref u) rest) Q E ⟨h, g, d, t, os⟩ := by
 refine wpAny_call (codeAny_of_tree ?_)
 show wpAny _ A.in1 (callAny (.ref u) ⟨rest, []⟩) _ _ _
 simp only [callAny]
 refine wpAny_bind (wpAny_load hu ?_)
 simp only [kxs_mw, show (Value.type "method-wrapper" == Value.type "method" || Value.type "method-wrapper" == Value.type "builtin_function_or_method" || Value.type "method-wrapper" == Value.type "method-wrapper") = true by decide, if_true]
 refine KFB.if_so (by decide) ?_
 refine wpAny_bind (check_bound_init F.excBase_ValueError.toExcCallFacts hC he rfl ?_)
 refine wpAny_bind (wpAny_pure (wpAny_pure ?_))
 refine ⟨plainId_quiet F.excBase_ValueError.init.plain _, codeAny_builtin F.excBase_ValueError.initEntry ?_⟩
 exact exc_init_tree (cls := .ref C) (t0 := t0) (dv := none) (c2 := .none) (c3 := .none) (b4 := .bool false) he hz fun h' k e' _ => hq h' _ k e'
end
theorem acr {K : Frag} {h : Heap} {b : Addr} (X : K.In h) (hb : h.objs.size ≤ b) : K.lookup b = none := by
 cases e : K.lookup b with
 | none => rfl
 | some o => exact absurd (Heap.lt_size (X _ _ e)) (Nat.not_lt.mpr hb)
theorem Uu {K : Frag} {h h' : Heap} {x : Addr} (X : K.In h) (hx : K.lookup x = none) (k : ∀ b o, b ≠ x → h.get? b = some o → h'.get? b = some o) : K.In h' := fun a o e =>
 k a o (fun z => by rw [z, hx] at e; cases e) (X a o e)
section
variable {prog : Program} {w : World} {A : Around} {R : Result → Shared → Prop} {s : Shared} {K : Frag} {C fI : Addr} {params : Arguments} {scope : Scope} {qual : Str} {ex : Expr} {p0 p1 p2 p3 p4 : Pos} {rest : List Stmt} {mg mb : Str → Option Value}
theorem enter (T : HJ prog K C fI params (sup ex p0 p1 p2 p3 p4 :: rest) scope qual) {x t0 : Addr} {us : List Value} {binds : List (Str × Value)} (X : K.In s.heap) (hlim : s.heap.NoLimit) (hx : s.heap.get? x = some (excO C t0)) (hnx : K.lookup x = none) (hroom : A.depth < recursionLimit)
 (hG : s.heap.Ns mainGlobals mg) (hg : mg "super" = none) (hB : s.heap.Ns builtinsNs mb) (hb : mb "super" = some (.type "super"))
 (hbind : ∀ (kV doc pm : Value) (an : Option Addr) (cdv ct : Value) (cc : Addr), bindArgs (ksFn "__init__" qual params (sup ex p0 p1 p2 p3 p4 :: rest) scope .none kV doc pm an cdv ct cc) ⟨.ref x :: us, []⟩ = pure binds)
 (hself : binds.reverse.lookup ("self" : Str) = some (.ref x)) (hloc : ∀ y ∈ binds, scope.names.lookup y.1 = some .local)
 (hcell : ∀ y ∈ scope.names, y.2 ≠ .cell) (hp : ∃ ar : Arg, (params.posonlyargs ++ params.args).head? = some ar ∧ ar.arg = "self") (hks : scope.names.lookup ("super" : Str) = some .globalImplicit) (hkc : scope.names.lookup ("__class__" : Str) = some .free) (hka : scope.names.lookup ("self" : Str) = some .local)
 (hco : scope.isCoroutine = false) (hgen : scope.isGenerator = false) (hk : scope.kind = .function)
 (hE : ∀ (cda cc : Addr) (L : Addr) (A' : Around) (h : Heap) (g : Array GenState) (d : Drawn) (t : Nat) (os : OsState) (E' : Value → Shared → Prop) (Q : Value → Shared → Prop), (∀ b o, s.heap.get? b = some o → h.get? b = some o) → h.Ns L (fun y => binds.reverse.lookup y) → (∀ v t', Q v ⟨h, g, d, t', os⟩) → wpAny (model prog w) A' (eval ex (ksEnv qual scope L fI (.ref cda) cc)) Q E' ⟨h, g, d, t, os⟩)
 (hin : ∀ (cda cc L : Addr), interactive (ksEnv qual scope L fI (.ref cda) cc) = false)
 (hev : ∀ (cda cc L : Addr), ∃ pl : Sem Bool, eval (.Call (.Attribute (.Call (.Name "super" p0) [] [] p1) "__init__" p2) [ex] [] p3) (ksEnv qual scope L fI (.ref cda) cc) = (do
  let ov ← attributeBase (.Call (.Name "super" p0) [] [] p1) "__init__" (ksEnv qual scope L fI (.ref cda) cc) (eval (.Call (.Name "super" p0) [] [] p1) (ksEnv qual scope L fI (.ref cda) cc))
  standAt p2.atName
  let (f, first) ← holding [ov] (getMethod ov "__init__" pl)
  callWith p3 f first (backTo p3 (starEach [ex] (ksEnv qual scope L fI (.ref cda) cc))) []))
 (hsw : ∀ (cda cc L : Addr), swapsWith (.Call (.Attribute (.Call (.Name "super" p0) [] [] p1) "__init__" p2) [ex] [] p3) none p4.line (ksEnv qual scope L fI (.ref cda) cc) = pure false)
 (hst : ∀ env : Env, starEach [ex] env = [(false, eval ex env)])
 (hq : ∀ (cda cc : Addr) h' tk t1, (∀ b o, b ≠ x → s.heap.get? b = some o → h'.get? b = some o) → h'.get? x = some (excO C t1) → h'.Ns s.heap.objs.size (fun y => binds.reverse.lookup y) →
  wpAny (model prog w) (A.deeper (ksEnv qual scope s.heap.objs.size fI (.ref cda) cc)) (execs rest (ksEnv qual scope s.heap.objs.size fI (.ref cda) cc)) (fun f s' => R (.ok (.ret (match f with | .ret v => v | _ => .none))) s')
   (fun _ _ => False) { s with heap := h', toks := tk }) : codeAny (model prog w) A (.call (.ref fI) ⟨.ref x :: us, []⟩) R s := by
 obtain ⟨oc, od, kV, doc, pm, an, cda, ct, osl, cc, ho, hcd, ⟨ccl, cdd, vs, ccs, file, tf, hcode, hvs, hfile⟩, cl, cld, csl, hcel⟩ := T.fn
 obtain ⟨nm, q, N, bs, bm, sn, sub, ab, col, dd, k0, k1, k2, k3, k5, hC, hbm, hal⟩ := T.cls
 obtain ⟨ar, hp, har⟩ := hp
 have hcl : clsIn K C = some { name := nm, bases := bs, mro := .ref C :: bm, ns := N, qualname := q, hasDict := true, slotNames := sn, subclasses := sub, abstract := ab, collection := col, hasDel := false } := by unfold clsIn; rw [hC] <;> rfl
 refine ks_codeAny_call_defAt (fd := ksFn "__init__" qual params (sup ex p0 p1 p2 p3 p4 :: rest) scope .none kV doc pm an (.ref cda) ct cc) (body := sup ex p0 p1 p2 p3 p4 :: rest) (binds := binds) hroom (X _ _ ho) rfl hlim (codeRec_of X hcd) rfl (BindsTo.of_eq (hbind kV doc pm an (.ref cda) ct cc)) hcell hloc (fun h₁ hns hk₁ => ?_) hco hgen hk
 obtain ⟨hp0, g, d, t, os⟩ := s
 show wpAt (model prog w) (A.deeper (ksEnv qual scope hp0.objs.size fI (.ref cda) cc)) (.func (sup ex p0 p1 p2 p3 p4 :: rest) (ksEnv qual scope hp0.objs.size fI (.ref cda) cc)) (execs (sup ex p0 p1 p2 p3 p4 :: rest) (ksEnv qual scope hp0.objs.size fI (.ref cda) cc)) _ _ _
 have X₁ : K.In h₁ := X.keeps hk₁
 have hx₁ := hk₁ _ _ hx
 have hC₁ := X₁ _ _ hC
 have hxC : x ≠ C := fun z => by
  rw [z, hC₁] at hx₁
  cases hx₁
 obtain ⟨pl, hev⟩ := hev cda cc hp0.objs.size
 refine ks_wpAt_execs_cons (ks_wpAt_Expr_any (ks_wpAt_MethodCall (pl := pl) ?_ hev) (hin _ _ _) (hsw _ _ _))
 refine ks_wpAt_super_base (fd := ksFn "__init__" qual params (sup ex p0 p1 p2 p3 p4 :: rest) scope .none kV doc pm an (.ref cda) ct cc) hks hkc (by decide) rfl (X₁ _ _ ho) rfl hp rfl (X₁ _ _ hcode) rfl hvs hfile T.top ?_
 refine ks_loadName_global hk hks (Calls.loadGlobal_builtin (hG.keeps hk₁) hg (hB.keeps hk₁) hb ⟨rfl, ?_⟩)
 refine wpAny_loadName_free hk hkc rfl ⟨_, X₁ _ _ hcel, rfl⟩ ?_
 rw [har]
 refine wpAny_loadName_local hk hka hns hself ?_
 refine ks_wpAny_isType_cls hC₁ rfl ⟨rfl, ?_⟩
 refine ks_wpAny_call_super hC₁ rfl hx₁ rfl (fun c e => by cases e) (looks_mroIn X₁ T.subC) (fun h₂ hso k₂ => ?_)
 have X₂ : K.In h₂ := X₁.keeps k₂
 have hx₂ := k₂ _ _ hx₁
 have I₂ : InstAt h₂ x (excO C t0) C none := ⟨hx₂, rfl, rfl, trivial⟩
 refine kxs_getMethod kxs_ValueError hso (looks_opaque X₂ T.opq) (l₀ := .ref C :: bm) ((looks_clsIn X₂ hcl).andThen .now) (by simp [List.dropWhile_cons]) X₂ hal (I₂.type.andThen (looks_subIn X₂ T.subB)) hxC rfl ?_
 have k₃ : ∀ b o, h₂.get? b = some o → (h₂.push (kxs_mw "ValueError.__init__" x)).get? b = some o := fun b o e => Heap.get?_push_of_some _ e
 have hu : (h₂.push (kxs_mw "ValueError.__init__" x)).get? h₂.objs.size = some (kxs_mw "ValueError.__init__" x) := Heap.get?_push_at rfl rfl
 refine kxs_callWith (i := "ValueError.__init__") (x := x) (by rw [hst]; rfl) ?_
 rw [hst]
 refine evalArgs_plain ?_
 show wpAny _ _ (spliced [(false, eval ex (ksEnv qual scope hp0.objs.size fI (.ref cda) cc))]) _ _ _
 refine aao (hE cda cc hp0.objs.size _ _ _ _ _ _ _ _ (fun b o e => k₃ _ _ (k₂ _ _ (hk₁ _ _ e))) ((hns.keeps k₂).keeps k₃) fun v t' => ⟨hu, ?_⟩)
 refine acq (k₃ _ _ (k₂ _ _ hC₁)) (k₃ _ _ hx₂) hu (by show 1 ≤ sizeLine; decide) fun h₄ t1 k₄ hx₄ => ?_
 have hxL : hp0.objs.size ≠ x := Nat.ne_of_gt (Heap.lt_size hx)
 refine wpAt_of_wpAny (wpAny_mono (hq cda cc h₄ _ t1 (fun b o hb e => k₄ b o hb (k₃ _ _ (k₂ _ _ (hk₁ _ _ e)))) hx₄ ?_) (fun _ _ z => z) fun _ _ z => z.elim)
 obtain ⟨o, es, ep, eo, r⟩ := (hns.keeps k₂).keeps k₃
 exact ⟨o, es, ep, k₄ _ _ hxL eo, r⟩
end
abbrev Kh : Type := Str × Pos × Pos × Pos × Pos
abbrev HQ (gs : List Kh) : List Stmt := gs.map fun g => asg g.1 g.2.1 g.2.2.1 g.2.2.2.1 g.2.2.2.2
theorem uB {α : Type} (f g : Str) (y : α) (fs : List (Str × α)) : ((f, y) :: fs).lookup g = if g = f then some y else fs.lookup g := by
 by_cases h : g = f
 · subst h
   simp [ak6]
 · have e : (g == f) = false := by simpa using h
   rw [if_neg h]
   simp [ak6, e]
theorem N5 {α : Type} {y : Str} : ∀ {l : List (Str × α)} {v : α}, l.lookup y = some v → y ∈ l.map (·.1)
 | [], v, h => by cases h
 | (f, z) :: l, v, h => by
   rw [uB] at h
   by_cases e : y = f
   · rw [e]; exact ak4 ..
   · rw [if_neg e] at h
     exact alb _ (N5 h)
theorem Uv {α : Type} {y : Str} : ∀ (l r : List (Str × α)), (l ++ r).lookup y = match l.lookup y with | some v => some v | none => r.lookup y
 | [], r => rfl
 | (f, z) :: l, r => by
   rw [alf, uB, uB]
   by_cases e : y = f
   · rw [if_pos e, if_pos e]
   · rw [if_neg e, if_neg e]; exact Uv l r
theorem look_none {α : Type} {y : Str} {l : List (Str × α)} (h : y ∉ l.map (·.1)) : l.lookup y = none := by
 cases e : l.lookup y with
 | none => rfl
 | some v => exact absurd (N5 e) h
theorem Uw {α : Type} {y : Str} : ∀ {l : List (Str × α)}, (l.map (·.1)).Nodup → l.reverse.lookup y = l.lookup y
 | [], _ => rfl
 | (f, z) :: l, h => by
   rw [akY, List.nodup_cons] at h
   have e1 : ((f, z) :: l).lookup y = if y = f then some z else l.lookup y := uB f y z l
   have e2 : [(f, z)].lookup y = if y = f then some z else none := uB f y z []
   rw [List.reverse_cons, Uv, Uw h.2, e1, e2]
   by_cases e : y = f
   · subst e
     rw [look_none h.1, if_pos rfl]
   · rw [if_neg e, if_neg e]
     cases l.lookup y <;> rfl
structure StX (h0 h : Heap) (x C : Addr) (done : List (Str × Value)) : Prop where
 keep : ∀ b o, b ≠ x → h0.get? b = some o → h.get? b = some o
 big : h0.objs.size ≤ h.objs.size
 at_ : ∃ (t1 : Addr) (dv : Option Addr), h.get? x = some { cls := .ref C, dict := dv, data := .fields #[.ref t1, .none, .none, .none, .bool false, .none] } ∧
  ((done = [] ∧ dv = none) ∨ ∃ (dx : Addr) (m : Str → Option Value), dv = some dx ∧ h0.objs.size ≤ dx ∧ dx ≠ x ∧ h.Ns1 dx m ∧ ∀ y, m y = done.lookup y)
section
variable {prog : Program} {w : World} {A : Around} {E : Value → Shared → Prop} {K : Frag} {C fI L x : Addr} {scope : Scope} {qual : Str} {cda cc : Addr} {m : Str → Option Value} {h0 : Heap} {g : Array GenState} {d : Drawn} {os : OsState} {Q : Flow → Shared → Prop} {cd : ClassData}
theorem stores (X0 : K.In h0) (hnx : K.lookup x = none) (hLx : L ≠ x) (hL0 : L < h0.objs.size) (hcl : clsIn K C = some cd) (hm : refsVE cd.mro = true) (hh : cd.hasDict = true) (sa : findIn K (.ref C) "__setattr__" = some (some (.builtin "object.__setattr__"))) (hk : scope.kind = .function) (hself : m "self" = some (.ref x)) (ls : scope.names.lookup ("self" : Str) = some .local)
 (hsw : ∀ g : Kh, swapsWith (.Name g.1 g.2.2.2.1) (some (.Attribute (.Name "self" g.2.1) g.1 g.2.2.1)) g.2.2.2.2.line (ksEnv qual scope L fI (.ref cda) cc) = pure false) (hns0 : h0.Ns L m) :
 ∀ (gs : List Kh) (vs : List Value) (done : List (Str × Value)) (h : Heap) (t : Nat), (∀ g ∈ gs, (g.1 == ("__debug__" : Str)) = false ∧ scope.names.lookup g.1 = some .local ∧ findIn K (.ref C) g.1 = some none) → gs.length = vs.length → (∀ (i : Nat) (f : Str) (v : Value), (gs.map (·.1))[i]? = some f → vs[i]? = some v → m f = some v) → done.length + gs.length ≤ 500 → StX h0 h x C done →
   (∀ h' t', StX h0 h' x C (((gs.map (·.1)).zip vs).reverse ++ done) → Q .next ⟨h', g, d, t', os⟩) → wpAny (model prog w) A (execs (HQ gs) (ksEnv qual scope L fI (.ref cda) cc)) Q E ⟨h, g, d, t, os⟩
 | [], vs, done, h, t, _, hl, _, _, S, hq => by
   cases vs with
   | nil => exact wpAny_execs_nil (hq h t S)
   | cons v vs => cases hl
 | a :: gs, vs, done, h, t, hg, hl, hv, hlen, S, hq => by
   cases vs with
   | nil => cases hl
   | cons v vs =>
     obtain ⟨n1, n2, n3⟩ := hg a ak4
     have hva : m a.1 = some v := hv 0 a.1 v rfl rfl
     obtain ⟨t1, dv, hx, hd⟩ := S.at_
     have X : K.In h := Uu X0 hnx S.keep
     have hns : h.Ns L m := by
      obtain ⟨o, es, ep, eo, r⟩ := hns0
      exact ⟨o, es, ep, S.keep _ _ hLx eo, r⟩
     have go : ∀ h' t', StX h0 h' x C ((a.1, v) :: done) → wpAny (model prog w) A (execs (HQ gs) (ksEnv qual scope L fI (.ref cda) cc)) Q E ⟨h', g, d, t', os⟩ := fun h' t' S' => by
      refine stores X0 hnx hLx hL0 hcl hm hh sa hk hself ls hsw hns0 gs vs ((a.1, v) :: done) h' t' (fun b hb => hg b (alb _ hb)) (Nat.succ.inj hl) (fun i f u e1 e2 => hv (i + 1) f u e1 e2) (by simp only [akU] at hlen ⊢; omega) S' fun h2 t2 S2 => hq h2 t2 ?_
      have e : ((List.map (·.1) (a :: gs)).zip (v :: vs)).reverse ++ done = ((gs.map (·.1)).zip vs).reverse ++ (a.1, v) :: done := by
       simp
      rw [e]
      exact S2
     refine wpAny_execs_cons (plainObj_wpAny_Assign_Attribute ?_ (hsw a))
     refine wpAny_Name (wpAny_loadName_local hk (show (ksEnv qual scope L fI (.ref cda) cc).kindOf a.1 = some .local from n2) hns hva ?_) n1
     refine wpAny_Name (wpAny_loadName_local hk (show (ksEnv qual scope L fI (.ref cda) cc).kindOf "self" = some .local from ls) hns hself ?_) (by decide)
     rcases hd with ⟨rfl, rfl⟩ | ⟨dx, m0, rfl, dn, dne, hn1, hmm⟩
     · refine set_plain X (ox := { cls := .ref C, dict := none, data := .fields #[.ref t1, .none, .none, .none, .bool false, .none] }) (od := none) ⟨hx, rfl, rfl, trivial⟩ sa ?_
       refine exc_osa X hx hcl hm hh n3 (fun h₃ tk₃ dx k₃ dn dne hx₃ hn₃ => ?_)
       have zz : dx < h₃.objs.size := by
        obtain ⟨o, es, ep, eo, _⟩ := hn₃
        exact Heap.lt_size eo
       refine go h₃ _ ⟨fun b o hb e => k₃ b o hb (S.keep b o hb e), Nat.le_of_lt (Nat.lt_of_le_of_lt (Nat.le_trans S.big dn) zz), t1, some dx, hx₃, .inr ⟨dx, _, rfl, Nat.le_trans S.big dn, dne, hn₃, fun y => ?_⟩⟩
       · rw [uB]
         rfl
     · obtain ⟨oD, es, ep, hoD, r⟩ := id hn1
       have hw : Within m0 (done.map (·.1)) := fun y hy => by
        rw [hmm y] at hy
        cases e : done.lookup y with
        | none => exact absurd e hy
        | some u => exact N5 e
       refine set_plain X (ox := { cls := .ref C, dict := some dx, data := .fields #[.ref t1, .none, .none, .none, .bool false, .none] }) (od := some oD) ⟨hx, rfl, rfl, hoD⟩ sa ?_
       refine OEX.osa_old X hx hn1 hw (by rw [akW]; omega) hcl hm hh n3 (fun h₃ tk₃ k₃ hn₃ => ?_)
       have zz : dx < h₃.objs.size := by
        obtain ⟨o, es, ep, eo, _⟩ := hn₃
        exact Heap.lt_size eo
       refine go h₃ _ ⟨fun b o hb e => k₃ b o (fun z => ?_) (S.keep b o hb e), Nat.le_of_lt (Nat.lt_of_le_of_lt dn zz), t1, some dx, k₃ _ _ (Ne.symm dne) hx, .inr ⟨dx, _, rfl, dn, dne, hn₃, fun y => ?_⟩⟩
       · rw [z] at e
         exact absurd (Heap.lt_size e) (Nat.not_lt.mpr dn)
       · rw [uB, hmm y]
end
structure QW (K : Frag) (params : Arguments) (scope : Scope) (qual : Str) (ex : Expr) (p0 p1 p2 p3 p4 : Pos) (gs : List Kh) (Ok : L2.Hp → List L2.V → Prop) : Prop where
 bind : ∀ (kV doc pm : Value) (an : Option Addr) (cdv ct : Value) (cc x : Addr) (us : List Value), us.length = gs.length → bindArgs (ksFn "__init__" qual params (sup ex p0 p1 p2 p3 p4 :: HQ gs) scope .none kV doc pm an cdv ct cc) ⟨.ref x :: us, []⟩ = pure ((("self" : Str) :: gs.map (·.1)).zip (.ref x :: us))
 nd : (("self" : Str) :: gs.map (·.1)).Nodup
 len : gs.length ≤ 100
 loc : ∀ y ∈ ("self" : Str) :: gs.map (·.1), scope.names.lookup y = some .local
 dbg : ∀ g ∈ gs, (g.1 == ("__debug__" : Str)) = false
 cell : ∀ y ∈ scope.names, y.2 ≠ .cell
 hp : ∃ ar : Arg, (params.posonlyargs ++ params.args).head? = some ar ∧ ar.arg = "self"
 ks : scope.names.lookup ("super" : Str) = some .globalImplicit
 kc : scope.names.lookup ("__class__" : Str) = some .free
 co : scope.isCoroutine = false
 gen : scope.isGenerator = false
 k : scope.kind = .function
 hE : ∀ (H0 : L2.Hp) (vs : List L2.V) (us : List Value), Ok H0 vs → L2.Vals vs us → vs.length = gs.length → ∀ (cda cc L x fI : Addr) (prog : Program) (w : World) (A' : Around) (h0 h : Heap) (g : Array GenState) (d : Drawn) (t : Nat) (os : OsState) (E' : Value → Shared → Prop) (Q : Value → Shared → Prop), K.In h → L2.HOk prog w H0 h0 → (∀ b o, h0.get? b = some o → h.get? b = some o) →
  h.Ns L (fun y => ((("self" : Str) :: gs.map (·.1)).zip (Value.ref x :: us)).reverse.lookup y) → (∀ v t', Q v ⟨h, g, d, t', os⟩) → wpAny (model prog w) A' (eval ex (ksEnv qual scope L fI (.ref cda) cc)) Q E' ⟨h, g, d, t, os⟩
 hin : ∀ (fI cda cc L : Addr), interactive (ksEnv qual scope L fI (.ref cda) cc) = false
 hev : ∀ (fI cda cc L : Addr), ∃ pl : Sem Bool, eval (.Call (.Attribute (.Call (.Name "super" p0) [] [] p1) "__init__" p2) [ex] [] p3) (ksEnv qual scope L fI (.ref cda) cc) = (do
     let ov ← attributeBase (.Call (.Name "super" p0) [] [] p1) "__init__" (ksEnv qual scope L fI (.ref cda) cc) (eval (.Call (.Name "super" p0) [] [] p1) (ksEnv qual scope L fI (.ref cda) cc))
     standAt p2.atName
     let (f, first) ← holding [ov] (getMethod ov "__init__" pl)
     callWith p3 f first (backTo p3 (starEach [ex] (ksEnv qual scope L fI (.ref cda) cc))) [])
 hsw : ∀ (fI cda cc L : Addr), swapsWith (.Call (.Attribute (.Call (.Name "super" p0) [] [] p1) "__init__" p2) [ex] [] p3) none p4.line (ksEnv qual scope L fI (.ref cda) cc) = pure false
 hst : ∀ env : Env, starEach [ex] env = [(false, eval ex env)]
 hsw2 : ∀ (fI cda cc L : Addr) (g : Kh), swapsWith (.Name g.1 g.2.2.2.1) (some (.Attribute (.Name "self" g.2.1) g.1 g.2.2.1)) g.2.2.2.2.line (ksEnv qual scope L fI (.ref cda) cc) = pure false
theorem zip_get {α : Type} : ∀ {ps : List Str} {us : List α} {i : Nat} {f : Str} {v : α}, ps.Nodup → ps[i]? = some f → us[i]? = some v → (ps.zip us).lookup f = some v
 | [], _, i, f, v, _, e, _ => by simp at e
 | _ :: _, [], i, f, v, _, _, e => by simp at e
 | p :: ps, u :: us, 0, f, v, _, e1, e2 => by
   simp at e1 e2
   subst e1 e2
   simp [ak6]
 | p :: ps, u :: us, i + 1, f, v, nd, e1, e2 => by
   rw [List.nodup_cons] at nd
   have e1' : ps[i]? = some f := by simpa using e1
   have e2' : us[i]? = some v := by simpa using e2
   rw [List.zip_cons_cons, uB, if_neg (fun z => nd.1 (by rw [← z]; exact ald e1'))]
   exact zip_get nd.2 e1' e2'
theorem aap {α : Type} {ps : List Str} {us : List α} (hl : ps.length = us.length) : (ps.zip us).map (·.1) = ps := by
 rw [List.map_fst_zip]
 omega
section
variable {prog : Program} {w : World} {A : Around} {R : Result → Shared → Prop} {s : Shared} {K : Frag} {C fI : Addr} {params : Arguments} {scope : Scope} {qual : Str} {ex : Expr} {p0 p1 p2 p3 p4 : Pos} {gs : List Kh} {Ok : L2.Hp → List L2.V → Prop} {H0 : L2.Hp} {h00 : Heap} {mg mb : Str → Option Value}
theorem aaq (T : HJ prog K C fI params (sup ex p0 p1 p2 p3 p4 :: HQ gs) scope qual) (S : QW K params scope qual ex p0 p1 p2 p3 p4 gs Ok) (hno : ∀ g ∈ gs, findIn K (.ref C) g.1 = some none) {x t0 : Addr} {vs : List L2.V} {us : List Value} (X : K.In s.heap) (hlim : s.heap.NoLimit) (hx : s.heap.get? x = some (excO C t0)) (hnx : K.lookup x = none) (hroom : A.depth < recursionLimit)
 (hG : s.heap.Ns mainGlobals mg) (hg : mg "super" = none) (hB : s.heap.Ns builtinsNs mb) (hb : mb "super" = some (.type "super")) (hH : L2.HOk prog w H0 h00) (kp0 : ∀ b o, h00.get? b = some o → s.heap.get? b = some o) (ok : Ok H0 vs) (rv : L2.Vals vs us) (hl : vs.length = gs.length)
 (hq : ∀ h' tk, StX s.heap h' x C ((gs.map (·.1)).zip us).reverse → R (.ok (.ret .none)) { s with heap := h', toks := tk }) : codeAny (model prog w) A (.call (.ref fI) ⟨.ref x :: us, []⟩) R s := by
 have hlu : us.length = gs.length := by rw [← rv.length]; exact hl
 have keys : (((("self" : Str) :: gs.map (·.1)).zip (Value.ref x :: us)).map (·.1)) = ("self" : Str) :: gs.map (·.1) := aap (by simp [hlu])
 have hrev : ∀ y, ((("self" : Str) :: gs.map (·.1)).zip (Value.ref x :: us)).reverse.lookup y = ((("self" : Str) :: gs.map (·.1)).zip (Value.ref x :: us)).lookup y := fun y => Uw (by rw [keys]; exact S.nd)
 have hself : ((("self" : Str) :: gs.map (·.1)).zip (Value.ref x :: us)).reverse.lookup ("self" : Str) = some (.ref x) := by
  rw [hrev]
  exact zip_get S.nd (i := 0) rfl rfl
 refine enter T (mg := mg) (mb := mb) (binds := (("self" : Str) :: gs.map (·.1)).zip (.ref x :: us)) X hlim hx hnx hroom hG hg hB hb (fun kV doc pm an cdv ct cc => S.bind kV doc pm an cdv ct cc x us hlu) hself (fun y hy => S.loc y.1 (List.of_mem_zip hy).1) S.cell S.hp S.ks S.kc (S.loc _ ak4) S.co S.gen S.k
  (fun cda cc L A' h g d t os E' Q hk hn hq' => S.hE H0 vs us ok rv hl cda cc L x fI prog w A' h00 h g d t os E' Q (X.keeps hk) hH (fun b o e => hk b o (kp0 b o e)) hn hq') (S.hin fI) (S.hev fI) (S.hsw fI) S.hst fun cda cc h' tk t1 k hx' hns => ?_
 obtain ⟨nm, q, N, bs, bm, sn, sub, ab, col, dd, k0, k1, k2, k3, k5, hC, hbm, hal⟩ := T.cls
 have hcl : clsIn K C = some { name := nm, bases := bs, mro := .ref C :: bm, ns := N, qualname := q, hasDict := true, slotNames := sn, subclasses := sub, abstract := ab, collection := col, hasDel := false } := by unfold clsIn; rw [hC] <;> rfl
 have X' : K.In h' := Uu X hnx k
 have hsz : s.heap.objs.size < h'.objs.size := by
  obtain ⟨o, es, ep, eo, _⟩ := hns
  exact Heap.lt_size eo
 obtain ⟨hp0, g, d, t, os⟩ := s
 refine stores (C := C) (x := x) (L := hp0.objs.size) (h0 := h') (m := fun y => ((("self" : Str) :: gs.map (·.1)).zip (Value.ref x :: us)).reverse.lookup y) X' hnx (Nat.ne_of_gt (Heap.lt_size hx)) hsz hcl (show refsVE (.ref C :: bm) = true from hbm) rfl T.sa S.k hself (S.loc _ ak4) (S.hsw2 fI cda cc _) hns gs us [] h' tk
  (fun b hb' => ⟨S.dbg b hb', S.loc b.1 (alb _ (List.mem_map_of_mem hb')), hno b hb'⟩) hlu.symm (fun i f v e1 e2 => by
   show ak6 f _ = _
   rw [hrev]
   exact zip_get S.nd (i := i + 1) (by simpa using e1) (by simpa using e2)) (by have := S.len; simp only [akV]; omega) ⟨fun b o hb' e => e, Nat.le_refl _, t1, none, hx', .inl ⟨rfl, rfl⟩⟩ fun h2 t2 S2 => ?_
 rw [akZ] at S2
 refine hq h2 t2 ⟨fun b o hb' e => S2.keep b o hb' (k b o hb' e), Nat.le_trans (Nat.le_of_lt hsz) S2.big, ?_⟩
 obtain ⟨t3, dv, e1, e2⟩ := S2.at_
 refine ⟨t3, dv, e1, ?_⟩
 rcases e2 with e2 | ⟨dx, m, q1, q2, q3, q4, q5⟩
 · exact .inl e2
 · exact .inr ⟨dx, m, q1, Nat.le_trans (Nat.le_of_lt hsz) q2, q3, q4, q5⟩
end
end ExS
end PySem
namespace PySem
namespace ExS
open PySem.W PySem.Calls PyProof.Rows PySem.HandSPX
structure MadeX (h h' : Heap) (e C : Addr) (fs : List (Str × Value)) : Prop where
 keep : ∀ b o, h.get? b = some o → h'.get? b = some o
 new : h.objs.size ≤ e
 at_ : ∃ (t1 : Addr) (dv : Option Addr), h'.get? e = some { cls := .ref C, dict := dv, data := .fields #[.ref t1, .none, .none, .none, .bool false, .none] } ∧
  ((fs = [] ∧ dv = none) ∨ ∃ (dx : Addr) (m : Str → Option Value), dv = some dx ∧ h.objs.size ≤ dx ∧ dx ≠ e ∧ h'.Ns1 dx m ∧ ∀ y, m y = fs.lookup y)
section
variable {prog : Program} {w : World} {A : Around} {R : Result → Shared → Prop} {s : Shared} {K : Frag} {C fI : Addr} {params : Arguments} {scope : Scope} {qual : Str} {ex : Expr} {p0 p1 p2 p3 p4 : Pos} {gs : List Kh} {Ok : L2.Hp → List L2.V → Prop} {H0 : L2.Hp} {mg mb : Str → Option Value}
theorem small {l : List Value} {n : Nat} (e : l.length = n) (h : n ≤ 100) : l.length ≤ sizeLine := by
 have : (100 : Nat) ≤ sizeLine := by decide
 omega
theorem made (T : HJ prog K C fI params (sup ex p0 p1 p2 p3 p4 :: HQ gs) scope qual) (S : QW K params scope qual ex p0 p1 p2 p3 p4 gs Ok) (hno : ∀ g ∈ gs, findIn K (.ref C) g.1 = some none) {vs : List L2.V} {us : List Value} (X : K.In s.heap) (hlim : s.heap.NoLimit) (hroom : A.depth + 1 < recursionLimit)
 (hG : s.heap.Ns mainGlobals mg) (hg : mg "super" = none) (hB : s.heap.Ns builtinsNs mb) (hb : mb "super" = some (.type "super")) (hH : L2.HOk prog w H0 s.heap) (ok : Ok H0 vs) (rv : L2.Vals vs us) (hl : vs.length = gs.length)
 (hq : ∀ h' tk e, MadeX s.heap h' e C ((gs.map (·.1)).zip us).reverse → R (.ok (.ret (.ref e))) { s with heap := h', toks := tk }) : codeAny (model prog w) A (.call (.ref C) ⟨us, []⟩) R s := by
 have hlu : us.length = gs.length := by rw [← rv.length]; exact hl
 obtain ⟨nm, q, N, bs, bm, sn, sub, ab, col, dd, k0, k1, k2, k3, k5, hC, hbm, hal⟩ := T.cls
 obtain ⟨hp, g, dr, tk, os⟩ := s
 have k : ∀ b o, hp.get? b = some o → ((hp.push (kdv_tup us)).push (excO C hp.objs.size)).get? b = some o := fun b o e => Heap.get?_push_of_some _ (Heap.get?_push_of_some _ e)
 have hget : ((hp.push (kdv_tup us)).push (excO C hp.objs.size)).get? (hp.objs.size + 1) = some (excO C hp.objs.size) := by heap_get
 have hnx : K.lookup (hp.objs.size + 1) = none := acr X (Nat.le_succ _)
 refine call_own F.excBase_ValueError (fun X => refsVE_contains X bm hbm) (X _ _ hC) (looks_findIn X T.iC) (fun self => bind_fn X self T.tC) (small hlu S.len) ?_
 refine aaq (s := ⟨(hp.push (kdv_tup us)).push (excO C hp.objs.size), g, dr, tk, os⟩) T S hno (X.keeps k) (hlim.keeps k) hget hnx ?_ (hG.keeps k) hg (hB.keeps k) hb hH k ok rv hl fun h' tk' S' => ?_
 · show A.depth + 1 < recursionLimit
   exact hroom
 · have old : ∀ b o, hp.get? b = some o → h'.get? b = some o := fun b o e => S'.keep b o (Nat.ne_of_lt (Nat.lt_succ_of_lt (Heap.lt_size e))) (k b o e)
   refine ⟨rfl, hq h' tk' (hp.objs.size + 1) ⟨old, Nat.le_succ _, ?_⟩⟩
   obtain ⟨t1, dv, e1, e2⟩ := S'.at_
   refine ⟨t1, dv, e1, ?_⟩
   rcases e2 with ⟨e2, e3⟩ | ⟨dx, m, q1, q2, q3, q4, q5⟩
   · exact .inl ⟨e2, e3⟩
   · refine .inr ⟨dx, m, q1, ?_, q3, q4, q5⟩
     have z : hp.objs.size + 1 + 1 ≤ dx := by
      first
       | (simpa only [Heap.size_push] using q2)
       | exact q2
       | (have q := q2; rw [Heap.size_push, Heap.size_push] at q; exact q)
     exact Nat.le_trans (Nat.le_trans (Nat.le_succ _) (Nat.le_succ _)) z
end
end ExS
end PySem
namespace Pk
open PySem PySem.Spec PyProof.Rows L2
open PySem.ExS (HJ QW sup HQ Kh)
structure ExC (P : Program) (K : PySem.W.Frag) (T : Tb) (c : Nat) (Ok : Hp → List V → Prop) : Prop where
 tx : ∃ (fI : Addr) (params : Arguments) (scope : Scope) (qual : Str) (ex : Expr) (p0 p1 p2 p3 p4 : Pos) (gs : List Kh),
  HJ P K (T.cad c) fI params (sup ex p0 p1 p2 p3 p4 :: HQ gs) scope qual ∧ QW K params scope qual ex p0 p1 p2 p3 p4 gs Ok ∧ (∀ g ∈ gs, PySem.W.findIn K (.ref (T.cad c)) g.1 = some none) ∧ T.fld c = gs.map (·.1) ∧ (T.fld c).Nodup
 kC : PySem.W.keepIn K (.ref (T.cad c)) = true
 exC : PySem.W.subIn K (.ref (T.cad c)) (.type "BaseException") = some true
 tyC : PySem.W.typeIn K (.ref (T.cad c)) = some (.type "type")
section
variable {X : Cx} {T : Tb} {W : WX} {k c : Nat} {x : Str} {a : Expr} {es : List Expr} {ma : M (List D)} {p pos pos2 : Pos} {Ok : Hp → List V → Prop}
def aje (T : Tb) (c : Nat) (Ok : Hp → List V → Prop) (ta : TA) : L2.St → Hp → XK → Prop := fun σ H Q => ta σ H fun vs H1 => Ok H1 vs ∧ vs.length = (T.fld c).length ∧
 (T.fld c = [] → Q (.ref (T.cad c)) none H1) ∧ (∀ d, H1 d = none → Q (.ref (T.cad c)) (some d) (upd H1 d (.xd ((T.fld c).zip vs))))
end
end Pk
namespace PySem
namespace ExS
open PySem.W PySem.Calls PyProof.Rows PySem.HandSPX
end ExS
end PySem
namespace Pk
open PySem PySem.Spec PyProof.Rows L2
open PySem.ExS (HJ QW sup HQ Kh)
section
variable {params : Arguments} {scope : Scope} {qual : Str}
end
section
variable {X : Cx} {T : Tb} {W : WX} {k c n : Nat} {x : Str} {a : Expr} {es : List Expr} {ma : M (List D)} {p pos pos2 : Pos} {Ok : Hp → List V → Prop} {chk : List D → Bool}
def agT (c n : Nat) (chk : List D → Bool) (ma : M (List D)) : M Fl := ma.bind fun ds fr h => if ds.length = n ∧ chk ds = true then .exc ⟨c, ds⟩ fr h else .err
end
end Pk
namespace L
open PySem PySem.Spec L2 Pk
def cn : Nat → Str
 | 0 => "Tableau"
 | _ => "?"
def top (i : Nat) : Stmt := PySem.Challenge.pw_countrestarts_k53_solutions_planted.main.body.getD i (.Pass ⟨0, 0, 0, 0⟩)
abbrev qj : Stmt := top 6
abbrev Jp : List Str := ["_law_script", "_law_at", "_law_cell", "_law_large"]
abbrev zU : List Str := ["_law_script", "_law_at"]
theorem QX : FnScope Jp zU (defScope qj) := ⟨rfl, rfl, rfl, by decide +kernel, rfl, by decide +kernel, by decide +kernel⟩
def zV : PD := ⟨fun K => He.ga K "_law_source", "_law_source", "_law_source", defArgs qj, defBody qj, defScope qj, [], [], false⟩
abbrev tK : Stmt := top 7
abbrev Np : List Str := ["_law_source_here", "_law_many", "_law_digit", "_law_mixed"]
abbrev Do : List Str := ["_law_source_here", "_law_many"]
theorem Ux : FnScope Np Do (defScope tK) := ⟨rfl, rfl, rfl, by decide +kernel, rfl, by decide +kernel, by decide +kernel⟩
def Dq : PD := ⟨fun K => He.ga K "_law_draw", "_law_draw", "_law_draw", defArgs tK, defBody tK, defScope tK, [], [], false⟩
abbrev vY : Stmt := top 8
abbrev RP : List Str := ["_law_source_here", "_law_some"]
abbrev Kl : List Str := ["_law_source_here", "_law_some"]
theorem XN : FnScope RP Kl (defScope vY) := ⟨rfl, rfl, rfl, by decide +kernel, rfl, by decide +kernel, by decide +kernel⟩
def Km : PD := ⟨fun K => He.ga K "_law_of", "_law_of", "_law_of", defArgs vY, defBody vY, defScope vY, [], [], false⟩
abbrev ql : Stmt := top 11
abbrev Jq : List Str := ["_law_source_here", "_law_many", "_law_found", "_law_turn"]
abbrev zW : List Str := ["_law_source_here", "_law_many"]
theorem QZ : FnScope Jq zW (defScope ql) := ⟨rfl, rfl, rfl, by decide +kernel, rfl, by decide +kernel, by decide +kernel⟩
def zX : PD := ⟨fun K => He.ga K "_law_strict", "_law_strict", "_law_strict", defArgs ql, defBody ql, defScope ql, [], [], false⟩
abbrev oU : Stmt := top 12
abbrev CZ : List Str := ["_law_source_here", "_law_most"]
abbrev wO : List Str := ["_law_source_here", "_law_most"]
theorem N6 : FnScope CZ wO (defScope oU) := ⟨rfl, rfl, rfl, by decide +kernel, rfl, by decide +kernel, by decide +kernel⟩
def wQ : PD := ⟨fun K => He.ga K "_law_entry_of", "_law_entry_of", "_law_entry_of", defArgs oU, defBody oU, defScope oU, [], [], false⟩
abbrev jG : Stmt := top 13
abbrev xT : List Str := ["_law_source_here", "_law_many", "_law_most", "_law_strict_here", "_law_columns", "_law_turn", "_law_last", "_law_place", "_law_need", "_law_k", "_law_column"]
abbrev tQ : List Str := ["_law_source_here", "_law_many", "_law_most", "_law_strict_here"]
theorem HR : FnScope xT tQ (defScope jG) := ⟨rfl, rfl, rfl, by decide +kernel, rfl, by decide +kernel, by decide +kernel⟩
def tR : PD := ⟨fun K => He.ga K "_law_with_amounts", "_law_with_amounts", "_law_with_amounts", defArgs jG, defBody jG, defScope jG, [], [], false⟩
abbrev jH : Stmt := top 14
abbrev xU : List Str := ["_law_source_here", "_law_many", "_law_most", "_law_strict_here", "_law_weights", "_law_first", "_law_columns", "_law_turn", "_law_column", "_law_total", "_law_place"]
abbrev tU : List Str := ["_law_source_here", "_law_many", "_law_most", "_law_strict_here"]
theorem HS : FnScope xU tU (defScope jH) := ⟨rfl, rfl, rfl, by decide +kernel, rfl, by decide +kernel, by decide +kernel⟩
def tV : PD := ⟨fun K => He.ga K "_law_with_weights", "_law_with_weights", "_law_with_weights", defArgs jH, defBody jH, defScope jH, [], [], false⟩
abbrev jJ : Stmt := inClass (top 3) 0
abbrev xV : List Str := ["self", "rows", "limits", "gains", "row", "limit", "gain", "at"]
abbrev tW : List Str := ["self", "rows", "limits", "gains"]
theorem HW : FnScope xV tW (defScope jJ) := ⟨rfl, rfl, rfl, by decide +kernel, rfl, by decide +kernel, by decide +kernel⟩
def tX : PD := ⟨fun K => He.ma K (He.ga K "Tableau") "__init__", "__init__", "Tableau.__init__", defArgs jJ, defBody jJ, defScope jJ, [], [], false⟩
abbrev mX : Stmt := top 1
abbrev Br : List Str := ["values", "found", "value"]
abbrev vK : List Str := ["values"]
theorem M4 : FnScope Br vK (defScope mX) := ⟨rfl, rfl, rfl, by decide +kernel, rfl, by decide +kernel, by decide +kernel⟩
def vL : PD := ⟨fun K => He.ga K "common_divisor", "common_divisor", "common_divisor", defArgs mX, defBody mX, defScope mX, [], [], false⟩
abbrev tL : Stmt := top 2
abbrev Nr : List Str := ["values", "divisor", "value"]
abbrev Dr : List Str := ["values"]
theorem Uy : FnScope Nr Dr (defScope tL) := ⟨rfl, rfl, rfl, by decide +kernel, rfl, by decide +kernel, by decide +kernel⟩
def Ds : PD := ⟨fun K => He.ga K "shortened", "shortened", "shortened", defArgs tL, defBody tL, defScope tL, [], [], false⟩
abbrev jK : Stmt := inClass (top 3) 1
abbrev xW : List Str := ["self", "best", "place", "label"]
abbrev tY : List Str := ["self"]
theorem HX : FnScope xW tY (defScope jK) := ⟨rfl, rfl, rfl, by decide +kernel, rfl, by decide +kernel, by decide +kernel⟩
def tZ : PD := ⟨fun K => He.ma K (He.ga K "Tableau") "entering", "entering", "Tableau.entering", defArgs jK, defBody jK, defScope jK, [], [], false⟩
abbrev jL : Stmt := inClass (top 3) 3
abbrev xX : List Str := ["self", "at", "place", "row", "pivot", "other", "line", "entry", "changed", "x", "y"]
abbrev t7 : List Str := ["self", "at", "place"]
theorem HY : FnScope xX t7 (defScope jL) := ⟨rfl, rfl, rfl, by decide +kernel, rfl, by decide +kernel, by decide +kernel⟩
def t8 : PD := ⟨fun K => He.ma K (He.ga K "Tableau") "exchange", "exchange", "Tableau.exchange", defArgs jL, defBody jL, defScope jL, [], [], false⟩
abbrev lA : Stmt := inClass (top 3) 2
abbrev zu : List Str := ["self", "place", "best", "at", "label", "entry", "ahead"]
abbrev uC : List Str := ["self", "place"]
theorem Jx : FnScope zu uC (defScope lA) := ⟨rfl, rfl, rfl, by decide +kernel, rfl, by decide +kernel, by decide +kernel⟩
def uD : PD := ⟨fun K => He.ma K (He.ga K "Tableau") "leaving", "leaving", "Tableau.leaving", defArgs lA, defBody lA, defScope lA, [], [], false⟩
abbrev oV : Stmt := inClass (top 3) 4
abbrev Dc : List Str := ["self", "place"]
abbrev wR : List Str := ["self"]
theorem N7 : FnScope Dc wR (defScope oV) := ⟨rfl, rfl, rfl, by decide +kernel, rfl, by decide +kernel, by decide +kernel⟩
def wU : PD := ⟨fun K => He.ma K (He.ga K "Tableau") "step", "step", "Tableau.step", defArgs oV, defBody oV, defScope oV, [], [], false⟩
abbrev lW : Stmt := inClass (top 3) 5
abbrev z8 : List Str := ["self", "label"]
abbrev uQ : List Str := ["self", "label"]
theorem Ko : FnScope z8 uQ (defScope lW) := ⟨rfl, rfl, rfl, by decide +kernel, rfl, by decide +kernel, by decide +kernel⟩
def uR : PD := ⟨fun K => He.ma K (He.ga K "Tableau") "amount", "amount", "Tableau.amount", defArgs lW, defBody lW, defScope lW, [], [], false⟩
abbrev mY : Stmt := inClass (top 3) 6
abbrev Bt : List Str := ["self", "label"]
abbrev vM : List Str := ["self", "label"]
theorem M5 : FnScope Bt vM (defScope mY) := ⟨rfl, rfl, rfl, by decide +kernel, rfl, by decide +kernel, by decide +kernel⟩
def vP : PD := ⟨fun K => He.ma K (He.ga K "Tableau") "price", "price", "Tableau.price", defArgs mY, defBody mY, defScope mY, [], [], false⟩
abbrev Az : Stmt := top 4
abbrev Ww : List Str := ["columns", "strict", "places", "at", "column", "unlike", "rows", "is_strict", "tableau", "first", "amounts"]
abbrev Q3 : List Str := ["columns", "strict"]
theorem aar : FnScope Ww Q3 (defScope Az) := ⟨rfl, rfl, rfl, by decide +kernel, rfl, by decide +kernel, by decide +kernel⟩
def Q4 : PD := ⟨fun K => He.ga K "solve", "solve", "solve", defArgs Az, defBody Az, defScope Az, [], [], false⟩
abbrev lX : Stmt := top 9
abbrev z9 : List Str := ["_law_value"]
abbrev uU : List Str := ["_law_value"]
theorem Kr : FnScope z9 uU (defScope lX) := ⟨rfl, rfl, rfl, by decide +kernel, rfl, by decide +kernel, by decide +kernel⟩
def uV : PD := ⟨fun K => He.ga K "_law_is_integer", "_law_is_integer", "_law_is_integer", defArgs lX, defBody lX, defScope lX, [], [], false⟩
abbrev lB : Stmt := top 10
abbrev zA : List Str := ["_law_found", "_law_columns", "_law_strict_here", "_law_kind", "_law_numbers", "_law_used", "_law_place", "_law_is_strict", "_law_total", "_law_k", "_law_one"]
abbrev uE : List Str := ["_law_found", "_law_columns", "_law_strict_here"]
theorem Jy : FnScope zA uE (defScope lB) := ⟨rfl, rfl, rfl, by decide +kernel, rfl, by decide +kernel, by decide +kernel⟩
def uF : PD := ⟨fun K => He.ga K "_law_is_solution", "_law_is_solution", "_law_is_solution", defArgs lB, defBody lB, defScope lB, [], [], false⟩
abbrev Ml : Stmt := top 15
abbrev abX : List Str := ["_law_script", "_law_at", "_law_source_here", "_law_many", "_law_most", "_law_strict_here", "_law_kind", "_law_rows", "_law_turned", "_law_cut", "_law_plain", "_law_back", "_law_columns", "_law_order", "_law_found", "_law_k", "_law_row", "_law_value"]
abbrev afl : List Str := ["_law_script"]
theorem ad1 : FnScope abX afl (defScope Ml) := ⟨rfl, rfl, rfl, by decide +kernel, rfl, by decide +kernel, by decide +kernel⟩
def abY : PD := ⟨fun K => He.ga K "law", "law", "law", defArgs Ml, defBody Ml, defScope Ml, [], [], false⟩
def fa : List Fx := [.he (.free "len"),
 .he (.free "abs"),
 .he (.free "int"),
 .he (.glo "_law_draw"),
 .he (.free "range"),
 .he (.free "tuple"),
 .he (.glo "_law_entry_of"),
 .he (.free "enumerate"),
 .he (.free "sum"),
 .he (.free "zip"),
 .he (.free "list"),
 .he (.free "max"),
 .he (.glo "common_divisor"),
 .he (.glo "Tableau"),
 .he (.glo "shortened"),
 .he (.free "isinstance"),
 .he (.free "bool"),
 .he (.glo "_law_is_integer"),
 .he (.free "min"),
 .he (.glo "_law_source"),
 .he (.glo "_law_of"),
 .he (.glo "_law_strict"),
 .he (.glo "_law_with_amounts"),
 .he (.glo "_law_with_weights"),
 .he (.glo "solve"),
 .he (.glo "_law_is_solution"),
 .he (.cls "Tableau"),
 .he (.noat "Tableau" "grid"),
 .he (.noat "Tableau" "outside"),
 .he (.noat "Tableau" "basis"),
 .he (.noat "Tableau" "scale"),
 .he (.meth "Tableau" "entering"),
 .he (.meth "Tableau" "exchange"),
 .he (.meth "Tableau" "leaving"),
 .he (.meth "Tableau" "step"),
 .he (.meth "Tableau" "price"),
 .he (.meth "Tableau" "amount"),
 .he (.mkr "Tableau"),
 .he (.glo "law")]
def fn : List PD := [zV, Dq, Km, zX, wQ, tR, tV, tX, vL, Ds, tZ, t8, uD, wU, uR, vP, Q4, uV, uF, abY]
abbrev bY (K : PySem.W.Frag) : Prop := Mj cn fa fn K
section
open PySem PySem.Spec PyProof.Rows L2
abbrev Rw : PySem.W.OpenRow := PySem.W.OpenLaw.row PySem.Challenge.rw_countrestarts_k53_solutions_planted
abbrev hk : PySem.W.Hook := Pk.hookP 7 cn fa fn
def ob (s : PySem.W.SharedT) : Pk.AlP := Pk.obsPG 7 cn fa fn (HandSHeadRun.getT s)
theorem ob_eq (s : PySem.W.SharedT) : ob s = hk.obs s.abs := Pk.obsPG_eq (HandSHeadRun.getT_eq s)
def names : List PySem.Str := "common_divisor" :: "shortened" :: "Tableau" :: "solve" :: "_law_source" :: "_law_draw" :: "_law_of" :: "_law_is_integer" :: "_law_is_solution" :: "_law_strict" :: "_law_entry_of" :: "_law_with_amounts" :: "_law_with_weights" :: []
theorem aga {α β γ δ : Type} {o : Option α} {f : α → β} {g : α → γ} {k : α → δ} {a : β} {b : γ} {c : δ} (h1 : o.map f = some a) (h2 : o.map g = some b) (h3 : o.map k = some c) : o.map (fun s => (f s, g s, k s)) = some (a, b, c) := by
 cases o with
 | none => cases h1
 | some s =>
   cases h1
   cases h2
   cases h3
   rfl
abbrev vw : Program := PySem.W.view Rw.prog [15]
noncomputable abbrev ends (w : World) (os : PySem.OsState) : Option PySem.W.SharedT := HandSHeadRun.endF (HandSHeadRun.stepQ (HandSHeadRun.denQ HandSHeadRun.tabQ) Rw.prog w) 20000 Rw.prog w os
open PySem.W PySem.Calls HandSHeadRun in
set_option maxHeartbeats 0 in
theorem afm (w : World) (os : PySem.OsState) : (ends w os).map (fun s => looksF Rw.prog (boot_heap w.params) s.abs) = some true := by
 kernel_rfl
open PySem.W PySem.Calls HandSHeadRun in
set_option maxHeartbeats 0 in
theorem afn (w : World) (os : PySem.OsState) : (ends w os).map (fun s => seenQ vw names (importedModules Rw.prog.main.body) (fun s => xlAt vw [] s && recOk Rw.toRowW.records s) s.abs) = some (openGood vw names) := by
 kernel_rfl
abbrev fr0 (s : PySem.W.SharedT) : PySem.W.Frag := He.frG (HandSHeadRun.getT s) (Pk.asP (HandSHeadRun.getT s) 7)
abbrev nh : Nat := fn.length / 2
set_option maxHeartbeats 0 in
theorem ad2 (w : World) (os : PySem.OsState) : (ends w os).map (fun s => fa.all fun f => f.ok cn (fr0 s)) = some true := by
 kernel_rfl
set_option maxHeartbeats 0 in
theorem ad3 (w : World) (os : PySem.OsState) : (ends w os).map (fun s => (fn.take nh).all fun d => d.ok (fr0 s)) = some true := by
 kernel_rfl
set_option maxHeartbeats 0 in
theorem ad4 (w : World) (os : PySem.OsState) : (ends w os).map (fun s => (fn.drop nh).all fun d => d.ok (fr0 s)) = some true := by
 kernel_rfl
theorem all2 {α : Type} {l : List α} {p : α → Bool} {m : Nat} (h1 : (l.take m).all p = true) (h2 : (l.drop m).all p = true) : l.all p = true := by
 rw [← List.take_append_drop m l, List.all_append, h1, h2]
 rfl
theorem agb {α : Type} {o : Option α} {f g k b : α → Bool} (h1 : o.map f = some true) (h2 : o.map g = some true) (h3 : o.map k = some true) (h : ∀ s, f s = true → g s = true → k s = true → b s = true) : o.map b = some true := by
 cases o with
 | none => cases h1
 | some s => exact congrArg some (h s (Option.some.inj h1) (Option.some.inj h2) (Option.some.inj h3))
theorem afo (w : World) (os : PySem.OsState) : (ends w os).map (fun s => (ob s).1) = some true :=
 agb (ad2 w os) (ad3 w os) (ad4 w os) fun s h1 h2 h3 => (show ((fa.all fun f => f.ok cn (fr0 s)) && fn.all fun d => d.ok (fr0 s)) = true by rw [h1, all2 h2 h3]; rfl)
abbrev nq : Nat := fn.length / 3
set_option maxHeartbeats 0 in
theorem ad5 (w : World) (os : PySem.OsState) : (ends w os).map (fun s => (ob s).2.take nq) = some ((fn.map Pk.PD.val).take nq) := by
 kernel_rfl
set_option maxHeartbeats 0 in
theorem ad6 (w : World) (os : PySem.OsState) : (ends w os).map (fun s => ((ob s).2.drop nq).take nq) = some (((fn.map Pk.PD.val).drop nq).take nq) := by
 kernel_rfl
set_option maxHeartbeats 0 in
theorem ad7 (w : World) (os : PySem.OsState) : (ends w os).map (fun s => ((ob s).2.drop nq).drop nq) = some (((fn.map Pk.PD.val).drop nq).drop nq) := by
 kernel_rfl
theorem ad8 {α : Type} {l x : List α} {m : Nat} (h1 : l.take m = x.take m) (h2 : l.drop m = x.drop m) : l = x := by
 rw [← List.take_append_drop m l, h1, h2, List.take_append_drop]
theorem agc {α β : Type} {o : Option α} {f : α → List β} {x : List β} {m : Nat} (h1 : o.map (fun s => (f s).take m) = some (x.take m)) (h2 : o.map (fun s => ((f s).drop m).take m) = some ((x.drop m).take m)) (h3 : o.map (fun s => ((f s).drop m).drop m) = some ((x.drop m).drop m)) : o.map f = some x := by
 cases o with
 | none => cases h1
 | some s => exact congrArg some (ad8 (Option.some.inj h1) (ad8 (Option.some.inj h2) (Option.some.inj h3)))
theorem afp (w : World) (os : PySem.OsState) : (ends w os).map (fun s => (ob s).2) = some (fn.map Pk.PD.val) := agc (ad5 w os) (ad6 w os) (ad7 w os)
theorem agd {α β γ : Type} {o : Option α} {f : α → β × γ} {a : β} {b : γ} (h1 : o.map (fun s => (f s).1) = some a) (h2 : o.map (fun s => (f s).2) = some b) : o.map f = some (a, b) := by
 cases o with
 | none => cases h1
 | some s =>
   have e1 := Option.some.inj h1
   have e2 := Option.some.inj h2
   exact congrArg some (Prod.ext e1 e2)
theorem run (w : World) : HandSHeadRun.RunEq Rw vw hk ob 20000 names w := fun os => aga (afm w os) (afn w os) (agd (afo w os) (afp w os))
end
end L
namespace Pk
open PySem PySem.Spec L2
def Uz {α β : Type} (P : Wd → L2.St → Prop) (run : L2.St → Hp → (β → Hp → Prop) → Prop) (K : PySem.W.Frag) (T : Tb) (W : WX) (VR : kE β α) (m : M α) : Prop :=
 ∀ (B : Bs) (w : Wd) (σ : L2.St) (H : Hp) (fr : Fr) (h : Hh) (Q : β → Hp → Prop), P w σ → Rel K T B w σ H fr h → aZ K T B W (VR K T B σ) w σ (m fr h) Q → run σ H Q
def ajf (P : Wd → L2.St → Prop) : Prop := ∀ w w' σ, w.le w' → P w σ → P w' σ
abbrev SqE (P : Wd → L2.St → Prop) (X : Cx) (T : Tb) (W : WX) (e : Expr) (m : M D) : Prop := Uz P (WE X e) X.K T W vE m
abbrev SqV (P : Wd → L2.St → Prop) (X : Cx) (T : Tb) (W : WX) (e : Expr) (m : M D) : Prop := Uz P (WE X e) X.K T W vV m
abbrev ajg (P : Wd → L2.St → Prop) (X : Cx) (T : Tb) (W : WX) (e : Expr) (m : M Bool) : Prop := Uz P (WT X e) X.K T W vB m
abbrev SqW (P : Wd → L2.St → Prop) (X : Cx) (T : Tb) (W : WX) (e : Expr) (m : M Bool) : Prop := Uz P (WW X e) X.K T W vB m
abbrev SqA (P : Wd → L2.St → Prop) (X : Cx) (T : Tb) (W : WX) (es : List Expr) (m : M (List D)) : Prop := Uz P (WA X es) X.K T W vA m
section
variable {P : Wd → L2.St → Prop} {X : Cx} {T : Tb} {W : WX} {a b c e : Expr} {es rest : List Expr} {m ma mb : M D} {n ta tb tc : M Bool} {ms : List (M D)} {pos : Pos}
end
def yQ (P : Wd → L2.St → Prop) (K : PySem.W.Frag) (T : Tb) (B : Bs) (W : WX) (w : Wd) (r : R Fl) (D : Ends) : Prop :=
 match r with
 | .ok .nx fr h => ∀ w' σ' H', w.le w' → P w' σ' → Rel K T B w' σ' H' fr h → D.nx σ' H'
 | r => dh K T B W w r D
def SqS (P : Wd → L2.St → Prop) (X : Cx) (T : Tb) (W : WX) (st : Stmt) (m : M Fl) : Prop := ∀ (B : Bs) (w : Wd) (σ : L2.St) (H : Hp) (fr : Fr) (h : Hh) (D : Ends), P w σ → Rel X.K T B w σ H fr h → yQ P X.K T B W w (m fr h) D → WS X st D σ H
def XQ (P : Wd → L2.St → Prop) (X : Cx) (T : Tb) (W : WX) (sts : List Stmt) (m : M Fl) : Prop := ∀ (B : Bs) (w : Wd) (σ : L2.St) (H : Hp) (fr : Fr) (h : Hh) (D : Ends), P w σ → Rel X.K T B w σ H fr h → yQ P X.K T B W w (m fr h) D → YJ X sts D σ H
section
variable {P : Wd → L2.St → Prop} {K : PySem.W.Frag} {T : Tb} {B : Bs} {W : WX} {w w' : Wd} {σ : L2.St} {H : Hp}
theorem yQ.of {r : R Fl} {D : Ends} (p : dh K T B W w r D) : yQ P K T B W w r D := by
 cases r with
 | ok f fr h =>
   cases f with
   | nx => exact fun w' σ' H' l _ r => p w' σ' H' l r
   | _ => exact p
 | exc e fr h => exact p
 | err => exact p
theorem yQ.le {r : R Fl} {D : Ends} (x : w.le w') (p : yQ P K T B W w r D) : yQ P K T B W w' r D := by
 cases r with
 | ok f fr h =>
   cases f with
   | nx => exact fun w2 σ2 H2 y => p w2 σ2 H2 (Wd.le_trans x y)
   | brk => exact dh.le x (show dh K T B W w (.ok .brk fr h) D from p)
   | ct => exact dh.le x (show dh K T B W w (.ok .ct fr h) D from p)
   | rt d => exact dh.le x (show dh K T B W w (.ok (.rt d) fr h) D from p)
 | exc e fr h => exact dh.le (D := D) (r := .exc e fr h) x p
 | err => exact p
theorem yQ.bind {α β : Type} {VR : Wd → Hp → Fr → β → α → Prop} {m : M α} {f : α → M Fl} {fr : Fr} {h : Hh} {D : Ends} {Q : β → Hp → Prop} (p : yQ P K T B W w (m.bind f fr h) D)
 (k : ∀ d fr1 h1 w1 H1 v, m fr h = .ok d fr1 h1 → w.le w1 → Rel K T B w1 σ H1 fr1 h1 → VR w1 H1 fr1 v d → yQ P K T B W w1 (f d fr1 h1) D → Q v H1) : aZ K T B W VR w σ (m fr h) Q := by
 cases e : m fr h with
 | ok d fr1 h1 =>
   rw [M.bind_ok e] at p
   exact fun w1 H1 v x r z => k d fr1 h1 w1 H1 v e x r z (p.le x)
 | exc y fr1 h1 =>
   rw [M.bind_exc e] at p
   exact fun w1 H1 c dd x r z => p w1 σ H1 c dd x r z
 | err =>
   rw [M.bind_err e] at p
   exact p.elim
end
section
variable {P : Wd → L2.St → Prop} {X : Cx} {T : Tb} {W : WX} {k : Nat} {pos pos' p2 : Pos} {e a b c : Expr} {st : Stmt} {sts as bs : List Stmt} {m : M D} {s n : M Fl} {t : M Bool}
end
def PX (K : PySem.W.Frag) (T : Tb) (i : Nat) (a : Addr) (x : aH) (cls : Value) (dd : Option Addr) : Wd → L2.St → Prop := fun w σ => σ[i]? = some (some (.ref a)) ∧ QH K T w x cls dd
theorem QH.mono {K : PySem.W.Frag} {T : Tb} {w w' : Wd} {x : aH} {cls : Value} {dd : Option Addr} (l : w.le w') (h : QH K T w x cls dd) : QH K T w' x cls dd :=
 ⟨h.1, h.2.imp id fun ⟨d, vs, e1, e2, e3⟩ => ⟨d, vs, e1, l.1 _ _ e2, e3.mono l⟩⟩
section
variable {K : PySem.W.Frag} {T : Tb} {i j : Nat} {a : Addr} {x : aH} {cls : Value} {dd : Option Addr}
theorem ad9 (h : j ≠ i := by decide) : ∀ w σ v, PX K T i a x cls dd w σ → PX K T i a x cls dd w (σ.set j v) := fun w σ v h' => ⟨by rw [ak7 h]; exact h'.1, h'.2⟩
end
structure Su (X : Cx) (T : Tb) (i : Nat) (a : Addr) (oe : Obj) (cls : Value) (dd : Option Addr) (pn : List (Addr × Obj)) (y : aH) : Prop where
 hz : Zc cls dd oe
 hf : ∃ vs, oe.data = .fields vs
theorem Su.st {X : Cx} {T : Tb} {i j : Nat} {a : Addr} {oe : Obj} {cls : Value} {dd : Option Addr} {pn : List (Addr × Obj)} {y : aH} (_ : Su X T i a oe cls dd pn y) (h : j ≠ i := by decide) : ∀ w σ v, PX X.K T i a y cls dd w σ → PX X.K T i a y cls dd w (σ.set j v) := ad9 h
structure ajh (K : PySem.W.Frag) (T : Tb) (tab : Tg → Tg → Option Bool) : Prop where
 kit : ∀ t u b, tab t u = some b → PySem.W.kitOne K (t.v T) (u.v T) = some b
 exc : ∀ c u b, tab (.o c) u = some b → L2.ExcC K (T.cad c)
def age (tab : Tg → Tg → Option Bool) (c : Nat) (d : D) : Option Bool := match d with
 | .tup l => match CV l with
   | some (u :: us) => Bp tab (.o c) (u :: us)
   | _ => none
 | d => match d.ctag with
   | some u => tab (.o c) u
   | none => none
def aji (tab : Tg → Tg → Option Bool) (c : Nat) (mb : M D) : M D := mb.bind fun d => M.opt ((age tab c d).map .bl)
def DkX (H : Hp) (dd : Option Addr) : Prop := dd = none ∨ ∃ d0 fs, dd = some d0 ∧ H d0 = some (.xd fs)
def ajj (K : PySem.W.Frag) (C a : Addr) (dd : Option Addr) : List V → Hp → VK → Prop := fun xs H Q => ∃ (y : V) (b : Bool), xs = [.ref a, y] ∧ L2.ExcC K C ∧ DkX H dd ∧
 ((∃ cv, ClsV y cv ∧ PySem.W.kitOne K (.ref C) cv = some b) ∨ ∃ tp cs us, y = .ref tp ∧ L2.SqT K H tp cs ∧ Paired ClsV cs us ∧ PySem.W.kitAny K (.ref C) us = some b) ∧ Q (.bl b) H
section
variable {X : Cx} {T : Tb} {W : WX} {k i : Nat} {a : Addr} {oe : Obj} {cls : Value} {dd : Option Addr} {x : aH} {pn : List (Addr × Obj)} {tab : Tg → Tg → Option Bool} {b : Expr} {mb : M D} {n : Str} {np pf pos : Pos}
def mXf (j : Nat) (x : aH) : M D := fun fr h => match x.fs[j]? with
 | some d => .ok d fr h
 | none => .err
structure XfF (K : PySem.W.Frag) (T : Tb) (f : Str) (ix : Nat → Option Nat) : Prop where
 at_ : ∀ c j, ix c = some j → (T.fld c)[j]? = some f ∧ (T.fld c).Nodup ∧ XfC K (T.cad c) ∧ PySem.W.findIn K (.ref (T.cad c)) f = some none
def mXF (ix : Nat → Option Nat) (x : aH) : M D := match ix x.c with
 | some j => mXf j x
 | none => fun _ _ => .err
end
def aea (i : Nat) (r : R Fl) : R Fl := match r with
 | .ok .nx fr h => .ok .nx (fr.set i none) h
 | .ok .brk fr h => .ok .brk (fr.set i none) h
 | .ok .ct fr h => .ok .ct (fr.set i none) h
 | r => r
def ah0 (i : Nat) (cond : Nat → Option Bool) (mb : M Fl) (ms : aH → M Fl) : M Fl := fun fr h => match mb fr h with
 | .exc x fr1 h1 => match cond x.c with
   | some true => if i < fr1.length then aea i (ms x (fr1.set i none) h1) else .err
   | some false => .exc x fr1 h1
   | none => .err
 | r => r
def ah1 (cond : Nat → Option Bool) (mb : M Fl) (ms : aH → M Fl) : M Fl := fun fr h => match mb fr h with
 | .exc x fr1 h1 => match cond x.c with
   | some true => ms x fr1 h1
   | some false => .exc x fr1 h1
   | none => .err
 | r => r
section
variable {X : Cx} {T : Tb} {W : WX} {k : Nat} {x n : Str} {c : Value} {cond : Nat → Option Bool} {body suite : List Stmt} {b₀ : Stmt} {np pos pos' : Pos} {mb : M Fl} {ms : aH → M Fl}
end
end Pk
namespace PySem
namespace OwO
open PySem.W PySem.Calls PyProof.Rows
section
variable {prog : Program} {w : World} {A : Around} {E : Value → Shared → Prop} {s : Shared} {K : Frag} {x C L f : Addr} {h₀ : Heap} {m : Str → Option Value} {ox : Obj} {od : Option Obj} {t : String} {b : Value} {op : Operator} {Q : Value → Shared → Prop}
def ajk (Q : Option Value → Shared → Prop) (v : Value) (s : Shared) : Prop := v ≠ .notImplemented ∧ Q (some v) s
end
section
variable {prog : Program} {w : World} {A : Around} {E : Value → Shared → Prop} {s : Shared} {x C dx : Addr}
end
end OwO
end PySem
namespace Pk
open PySem PySem.Spec L2
structure ajl (X : Cx) (T : Tb) (k : Nat) (mt : Nat → Option Fn) : Prop where
 ex : ∀ c F, mt c = some F → ∃ (kk : Nat) (f : Addr) (fd : FuncData) (ps : List Str), Cls X.K (T.cad c) ∧ Meth X.K (T.cad c) (PySem.dunder "mul") f ∧ PySem.W.selfFirst X.K (T.cad c) = true ∧ oR X.prog X.w X.K X.mg X.base T kk f fd ps F ∧ Bn X.K T fd ps 2 [] (bh []) ∧ kk ≤ k ∧
  ∃ g, PySem.W.findIn X.K (.ref (T.cad c)) (PySem.dunderR "mul") = some (some (.ref g))
structure ah2 (X : Cx) (T : Tb) (k : Nat) (mt : Nat → Option Fn) : Prop where
 ex : ∀ c F, mt c = some F → ∃ (kk : Nat) (f : Addr) (fd : FuncData) (ps : List Str), Cls X.K (T.cad c) ∧ Meth X.K (T.cad c) (PySem.dunderR "mul") f ∧ PySem.W.selfFirst X.K (T.cad c) = true ∧ oR X.prog X.w X.K X.mg X.base T kk f fd ps F ∧ Bn X.K T fd ps 2 [] (bh []) ∧ kk ≤ k ∧
  (∃ g, PySem.W.findIn X.K (.ref (T.cad c)) (PySem.dunder "mul") = some (some (.ref g))) ∧ PySem.W.subIn X.K (.ref (T.cad c)) (.type "int") = some false ∧ PySem.W.subIn X.K (.ref (T.cad c)) (.type "bool") = some false
def D.bty (h : Hh) (d : D) : Option String := match d.tag h with
 | some (.b t) => some t
 | _ => none
def ah3 (mt : Nat → Option Fn) (ma mb : M D) : M D := ma.bind fun x => mb.bind fun y fr h => match fnOf mt h x, y.bty h with
 | some F, some _ => qC fr (F [x, y] h)
 | _, _ => .err
def D.smp : D → Bool
 | .non => true
 | .bl _ => true
 | .int _ => true
 | _ => false
def ah4 (mt : Nat → Option Fn) (ma mb : M D) : M D := ma.bind fun x => mb.bind fun y fr h => match fnOf mt h y, x.smp with
 | some F, true => qC fr (F [y, x] h)
 | _, _ => .err
section
variable {X : Cx} {T : Tb} {W : WX} {k : Nat} {a b : Expr} {ma mb : M D} {pos : Pos}
end
end Pk
namespace Pk
open PySem PySem.Spec L2
def agf (l : List ((Tg × Tg) × Bool)) : Tg → Tg → Option Bool := fun t u => ak6 (t, u) l
inductive XR (K : PySem.W.Frag) (T : Tb) : List ((Tg × Tg) × Bool) → Prop where
 | nil : XR K T []
 | cons {c : Nat} {u : Tg} {b : Bool} {l : List ((Tg × Tg) × Bool)} (q : PySem.W.kitOne K (.ref (T.cad c)) (u.v T) = some b) (i : L2.ExcC K (T.cad c)) (r : XR K T l) : XR K T (((.o c, u), b) :: l)
end Pk
namespace Pk
open PySem PySem.Spec L2
def N8 (mt : Nat → Option Fn) (o : D) (as : List D) : M D := fun fr h => match fnOf mt h o with
 | some F => match F (o :: as) h with
   | .ok d _ h => .ok d fr h
   | _ => .err
 | none => .err
def abZ (mt : Nat → Option Fn) (o : D) (as : List D) : M D := fun fr h => match fnOf mt h o with
 | some F => qC fr (F (o :: as) h)
 | none => .err
section
variable {X : Cx} {T : Tb} {W : WX} {k kk j n : Nat} {f C : Addr} {fd : FuncData} {ps ks : List Str} {F : Fn} {m : Str} {pos pf : Pos} {a b : Expr} {ma mb : M D}
structure OwnRun (X : Cx) (T : Tb) (k n : Nat) (m : Str) (v : V) (H : Hp) (vs : List V) (Q : VK) (E : XK) : Prop where
 ex : ∃ (kk : Nat) (f : Addr) (fd : FuncData) (ps : List Str) (a C dx : Addr) (fs : List (Str × V)) (G : Fn), v = .ref a ∧ H a = some (.ins C dx fs) ∧ Cls X.K C ∧ Meth X.K C m f ∧ oR X.prog X.w X.K X.mg X.base T kk f fd ps G ∧ kk ≤ k ∧
  ∃ g gV, KBn X.K fd ps (n + 1) [] g gV ∧ spF X.K T ps.length G (gV (.ref a :: vs) []) H Q E
def aeb (d : D) : M D := fun fr h => match d with
 | .int i => if 0 ≤ i ∧ i < 2 ^ 60 then .ok (.int i) fr h else .err
 | _ => .err
def ah5 (mt : Nat → Option Fn) (ma : M D) : M D := ma.bind fun o => (N8 mt o []).bind aeb
def ah6 (mt : Nat → Option Fn) (ma mb : M D) : M D := ma.bind fun o => mb.bind fun i => abZ mt o [i]
def ajm (X : Cx) (T : Tb) (W : WX) (VR2 : kE V D) (op : CmpOp) (g : D → D → M Bool) : Prop :=
 ∀ B w σ H fr h x y d e Q, Rel X.K T B w σ H fr h → bO X.K T w x d → VR2 X.K T B σ w H fr y e → aZ X.K T B W (vB X.K T B σ) w σ (g d e fr h) Q → rM X (compareOp op) x y H (fun z H' => ∃ c, z = .bl c ∧ Q c H')
def ajn {α : Type} (g : D → D → M α) (ma mb : M D) : M α := ma.bind fun x => mb.bind fun y => g x y
def tbM (d : D) : M Bool := M.opt d.tb
def gIn (mt : Nat → Option Fn) (c : Bool → Bool) (x o : D) : M Bool := (N8 mt o [x]).bind fun d => (tbM d).bind fun b => M.ret (c b)
end
end Pk
namespace PySem
namespace OwE
open PySem.W PySem.Calls PyProof.Rows
section
variable {prog : Program} {w : World} {M : Model} {A : Around} {E : Value → Shared → Prop} {s : Shared} {K : Frag} {x C f : Addr} {ox : Obj} {od : Option Obj} {b tb : Value}
end
end OwE
end PySem
namespace Pk
open PySem PySem.Spec L2
def eqX (K : PySem.W.Frag) (C : Addr) : Bool := He.eqO (PySem.W.findIn K (.ref C) "__ne__") (some (some (.builtin "object.__ne__"))) && (decide (PySem.W.mroIn K C (.type "object") = some true) && (HF.all (fun t => PySem.W.notFirst K C (.type t)) && HF.all fun t => decide (PySem.W.subIn K (.ref C) (.type t) = some false)))
structure EqX (K : PySem.W.Frag) (C : Addr) : Prop where
 ne : PySem.W.findIn K (.ref C) "__ne__" = some (some (.builtin "object.__ne__"))
 ob : PySem.W.mroIn K C (.type "object") = some true
 nf : ∀ t ∈ HF, PySem.W.notFirst K C (.type t) = true
 nb : ∀ t ∈ HF, PySem.W.subIn K (.ref C) (.type t) = some false
structure EqF (K : PySem.W.Frag) (T : Tb) (mt : Nat → Option Fn) : Prop where
 ex : ∀ c F, mt c = some F → EqX K (T.cad c)
def gEq (mt : Nat → Option Fn) (c : Bool → Bool) (x y : D) : M Bool := fun fr h => if (y.bty h).isSome || (XM h x y).isSome then ((N8 mt x [y]).bind fun d => (tbM d).bind fun b => M.ret (c b)) fr h else .err
section
variable {X : Cx} {T : Tb} {W : WX} {k j : Nat}
end
end Pk
namespace Pk
open PySem PySem.Spec L2
def UG (K : PySem.W.Frag) (C : Addr) : Bool := PySem.W.readsIn K C (.type "type") && He.eqO (PySem.W.specialIn K (.ref C) "__getattribute__") (some (some (.builtin "type.__getattribute__")))
def ccA (K : PySem.W.Frag) (C : Addr) (f : Str) : Addr := match PySem.W.findCls K (.ref C) (.type "type") f with
 | some (.val (.ref a)) => a
 | _ => 0
def ah7 (K : PySem.W.Frag) (C : Addr) (f : Str) (vs : List He.Dv) : Bool := UG K C && ((match PySem.W.findCls K (.ref C) (.type "type") f with
 | some (.val (.ref a)) => decide (a = ccA K C f)
 | _ => false) && adT K (ccA K C f) vs)
structure ah8 (X : Cx) (T : Tb) (c : Nat) (f : Str) (d : D) : Prop where
 ex : ∃ (u : Value) (v : V), ClX.CRead X.K (T.cad c) (.type "type") ∧ ClX.CVal X.K (T.cad c) (.type "type") f v u ∧ bO X.K T ⟨fun _ => none, []⟩ v d
section
variable {X : Cx} {T : Tb} {W : WX} {k c : Nat} {x f : Str} {p pos : Pos} {d : D}
end
end Pk
namespace PySem
namespace OwB
open PySem.W PySem.Calls PyProof.Rows
section
variable {prog : Program} {w : World} {A : Around} {E : Value → Shared → Prop} {s : Shared} {K : Frag} {x C f : Addr} {ox : Obj} {od : Option Obj}
def agC (Q : Bool → Shared → Prop) (v : Value) (s' : Shared) : Prop := match v with
 | .int n _ => (0 ≤ n ∧ n < 2 ^ 63) ∧ Q (n != 0) { s' with toks := s'.toks + 1 }
 | _ => False
end
end OwB
end PySem
namespace Pk
open PySem PySem.Spec L2
section
variable {X : Cx} {T : Tb} {W : WX} {k kk j n c : Nat} {pos pf px apos cpos p : Pos} {a b e : Expr} {es : List Expr} {ma mb m : M D} {m1 : M (List D)} {x f : Str}
structure NoB (K : PySem.W.Frag) (T : Tb) (mt : Nat → Option Fn) : Prop where
 ex : ∀ c F, mt c = some F → PySem.W.findIn K (.ref (T.cad c)) "__bool__" = some none
def ajo (K : PySem.W.Frag) (C : Addr) : Bool := He.eqO (PySem.W.findIn K (.ref C) "__bool__") (some none)
def agY (mt : Nat → Option Fn) (ma : M D) : M D := ma.bind fun o => (N8 mt o []).bind fun d => (aeb d).bind fun d => M.opt (match d with
 | .int i => some (.bl (i != 0))
 | _ => none)
theorem az.eraseIdx {K : PySem.W.Frag} {w : Wd} : ∀ {vs : List V} {ds : List D} (n : Nat), az K T w vs ds → az K T w (vs.eraseIdx n) (ds.eraseIdx n)
 | _, _, _, .nil => .nil
 | _, _, 0, .cons _ t => t
 | _, _, n + 1, .cons h t => .cons h (az.eraseIdx n t)
def acs (i : Nat) (d : D) : M D := fun fr h => match fr[i]?, d with
 | some (some (.nl l)), .int j => if -(2 ^ 63) ≤ j ∧ j < 2 ^ 63 then (match seqIndex? j l.length with
   | some q => (match l[q]? with
     | some y => .ok y (fr.set i (some (.nl (l.eraseIdx q)))) h
     | none => .err)
   | none => .err) else .err
 | _, _ => .err
def ah9 (i : Nat) (m : M D) : M D := (cQ i qw).bind fun _ => m.bind fun d => acs i d
structure CmF (X : Cx) (T : Tb) (k c : Nat) (m : Str) (n : Nat) (F : Fn) : Prop where
 ex : ∃ (kk : Nat) (p f : Addr) (fd : FuncData) (ps : List Str), ClX.CRead X.K (T.cad c) (.type "type") ∧ ClX.CMet X.K (T.cad c) (.type "type") m p f ∧ oR X.prog X.w X.K X.mg X.base T kk f fd ps F ∧ Bn X.K T fd ps (n + 1) [] (bh []) ∧ kk ≤ k
def cmA (K : PySem.W.Frag) (C : Addr) (m : Str) : Addr := match PySem.W.findCls K (.ref C) (.type "type") m with
 | some (.get _ (.ref p) _ _) => (match PySem.W.recIn K p "classmethod" with
   | some (.ref g :: _) => g
   | _ => 0)
 | _ => 0
def cmX (K : PySem.W.Frag) (C : Addr) (m : Str) : Bool := UG K C && (match PySem.W.findCls K (.ref C) (.type "type") m with
 | some (.get (.builtin i) (.ref p) .none (.ref C')) => decide (i = "classmethod.__get__") && (decide (C' = C) && ((match PySem.W.recIn K p "classmethod" with
   | some (.ref g :: _) => decide (g = cmA K C m)
   | _ => false) && PySem.W.fnIn K (cmA K C m)))
 | _ => false)
def mCm (n c : Nat) (F : Fn) (ma : M (List D)) : M D := ma.bind fun ds fr h => if ds.length = n then qC fr (F (.cls c :: ds) h) else .err
end
end Pk
namespace Pk
open PySem PySem.Spec L2
section
variable {X : Cx} {T : Tb} {W : WX} {k : Nat} {b : Expr} {mb : M D} {pos px : Pos}
def aia (X : Cx) (T : Tb) (op : CmpOp) (f : Hh → D → D → Option Bool) : Prop :=
 ∀ B w σ H fr h x y d e c Q, Rel X.K T B w σ H fr h → vO X.K T B σ w H fr x d → vO X.K T B σ w H fr y e → f h d e = some c → Q (.bl c) H → rM X (compareOp op) x y H Q
def agZ (i : Nat) (f : Hh → D → D → Option Bool) (mb : M D) : M Bool := (pF i).bind fun _ => mb.bind fun y => (aN i).bind fun d fr h => M.opt (f h d y) fr h
end
end Pk
namespace PySem
namespace OwR
open PySem.W PySem.Calls PyProof.Rows
open PySem.AutoSeq1 (wpAny_loadPart')
section
variable {K : Frag} {x C : Addr} {ox : Obj} {od : Option Obj}
end
section
variable {prog : Program} {w : World} {A : Around} {E : Value → Shared → Prop} {s : Shared} {K : Frag} {x C f : Addr} {ox : Obj} {od : Option Obj} {a : Value} {t : String}
def aas (prog : Program) (w : World) (A : Around) (E : Value → Shared → Prop) (s : Shared) (a : Value) (nm : Str) (x : Addr) : Prop := ∀ P' : Option Value → Shared → Prop, P' none s → wpAny (model prog w) A (tryCompare a nm (.ref x)) P' E s
theorem right (op : CmpOp) {Q : Value → Shared → Prop} (hu : A.units < cLine) (X : K.In s.heap) (I : InstAt s.heap x ox C od) (h1 : oneThing? op a (.ref x) = none) (ha : Looks (model prog w) s.heap (typeOf a) (.type t)) (hn : subIn K (.ref C) (.type t) = some false)
 (hd : aas prog w A E s a (cmpInfo op).2.1 x) (h : wpAny (model prog w) A (tryCompare (.ref x) (cmpInfo op).2.2 a) (fun r s' => ∃ v, r = some v ∧ Q v s') E s) : wpAny (model prog w) A (richCompare op a (.ref x)) Q E s := by
 unfold richCompare
 simp only [h1]
 refine wpAny_holding (wpAny_bind (wpAny_cRoomFor hu ?_))
 refine wpAny_bind (ha.here (wpAny_bind (I.type.here ?_)))
 rw [if_pos (show ((Value.type t != Value.ref C) = true) from rfl)]
 refine wpAny_bind ((looks_subIn X hn).here ?_)
 simp only [Bool.false_eq_true, if_false]
 refine wpAny_bind (hd _ ?_)
 simp only [Bool.not_false, if_true]
 refine wpAny_bind (wpAny_mono h (fun r s' z => ?_) fun _ _ e => e)
 obtain ⟨v, rfl, q⟩ := z
 exact wpAny_pure q
end
end OwR
end PySem
namespace Pk
open PySem PySem.Spec L2
def ajp (mt : Nat → Option Fn) (c : Bool → Bool) (x y : D) : M Bool := fun fr h => match fnOf mt h x with
 | some _ => gEq mt c x y fr h
 | none => if (x.bty h).isSome then ((N8 mt y [x]).bind fun d => (tbM d).bind fun b => M.ret (c b)) fr h else .err
section
variable {X : Cx} {T : Tb} {W : WX} {k j : Nat}
end
end Pk
namespace Pk
open PySem PySem.Spec L2
def ajq (_ : Hh) : D → D → Option Bool
 | .bl a, .bl b => some (decide (a = b))
 | _, _ => none
def aib (_ : Hh) : D → D → Option Bool
 | .bl a, .bl b => some (!decide (a = b))
 | _, _ => none
section
variable {X : Cx} {T : Tb}
end
end Pk
namespace PySem
namespace OwT
open PySem.W PySem.Calls PyProof.Rows PySem.SeqAt
open PySem.AutoSeq1 (wpAny_loadPart')
section
variable {prog : Program} {w : World} {A : Around} {R : Result → Shared → Prop}
end
end OwT
end PySem
namespace Pk
open PySem PySem.Spec L2
mutual
def D.sim : D → D → Bool
 | .int i, .int j => i == j
 | .bl a, .bl b => a == b
 | .str a, .str b => a == b
 | .tup l, .tup m => D.sims l m
 | _, _ => true
def D.sims : List D → List D → Bool
 | d :: ds, e :: es => D.sim d e && D.sims ds es
 | [], [] => true
 | _, _ => false
end
section
variable {X : Cx} {T : Tb} {W : WX} {k j : Nat} {w : Wd} {pins : List (Addr × Obj)} {σ : L2.St} {H : Hp} {s : Shared}
mutual
theorem acu (I : Inv X pins σ H s) (sub : ∀ a o, w.F a = some o → H a = some o) : ∀ {v : V} {d : D}, bO X.K T w v d → ∀ {e : D}, bO X.K T w v e → D.sim d e = true
 | _, _, .tup h1 t1, _, r2 => by
   cases r2 with
   | tup h2 t2 =>
     have := I.tuple_inj (dR sub h1) (dR sub h2)
     subst this
     exact UJ I sub t1 t2
   | _ => rfl
 | _, _, .int i, _, r2 => by cases r2; simp [D.sim]
 | _, _, .bl b, _, r2 => by cases r2; simp [D.sim]
 | _, _, .str z, _, r2 => by cases r2; simp [D.sim]
 | _, _, .non, _, _ => rfl
 | _, _, .fl _ _, _, _ => rfl
 | _, _, .kl _ _, _, _ => rfl
 | _, _, .obj _ _, _, _ => rfl
 | _, _, .ref _, _, _ => rfl
 | _, _, .cls _, _, _ => rfl
 | _, _, .ty _, _, _ => rfl
 | _, _, .sl _, _, _ => rfl
 | _, _, .tp _ _, _, _ => rfl
theorem UJ (I : Inv X pins σ H s) (sub : ∀ a o, w.F a = some o → H a = some o) : ∀ {vs : List V} {ds : List D}, az X.K T w vs ds → ∀ {es : List D}, az X.K T w vs es → D.sims ds es = true
 | _, _, .nil, _, r2 => by cases r2; rfl
 | _, _, .cons h t, _, r2 => by
   cases r2 with
   | cons h2 t2 =>
     show (_ && _) = true
     rw [acu I sub h h2, UJ I sub t t2]
     rfl
end
noncomputable def pPair (mt : Nat → Option Fn) (nf : Nat → Nat) (h : Hh) : D → D → Option Bool
 | .obj c l, .obj c' m => if c = c' ∧ l.length = nf c ∧ m.length = nf c then match mt c with
  | some F => match F [.obj c l, .obj c m] h with
    | .ok (.bl b) _ h' => open Classical in if h' = h ∧ (b = true ∨ D.sims l m = false) then some b else none
    | _ => none
  | none => none
  else none
 | _, _ => none
noncomputable def aed (mt : Nat → Option Fn) (nf : Nat → Nat) (h : Hh) : List D → List D → Option Bool
 | d :: ds, e :: es => (pPair mt nf h d e).bind fun b => if b then aed mt nf h ds es else some false
 | [], [] => some true
 | _, _ => some false
noncomputable def agg (mt : Nat → Option Fn) (nf : Nat → Nat) (h : Hh) : D → D → Option Bool
 | .tup l, .tup m => aed mt nf h l m
 | _, _ => none
noncomputable def ajr (mt : Nat → Option Fn) (nf : Nat → Nat) (x y : D) : M Bool := fun fr h => M.opt (agg mt nf h x y) fr h
structure NfF (T : Tb) (mt : Nat → Option Fn) (nf : Nat → Nat) : Prop where
 ex : ∀ c F, mt c = some F → (T.fld c).length = nf c
end
end Pk
namespace L2
open PySem PySem.Spec PyProof.Rows
def endsAt (oi : Option Nat) (D : Ends) : Ends := match oi with
 | none => D
 | some i => { nx := fun σ' H' => D.nx (σ'.set i none) H', rt := D.rt, bk := fun σ' H' => D.bk (σ'.set i none) H', ct := fun σ' H' => D.ct (σ'.set i none) H' }
def Wx (oi : Option Nat) (σ : St) (a : Addr) : St := match oi with
 | none => σ
 | some i => σ.set i (some (.ref a))
abbrev PP := Value × Option Nat × (Addr → Value → Option Addr → TS)
def agh (K : PySem.W.Frag) (Wout : WX) (D : Ends) : List PP → WX
 | [] => Wout
 | (c, oi, ts) :: r => fun cls d σ H => ∃ b, PySem.W.exmOne K cls c = some b ∧ (b = true → ∀ a, H a = none → ts a cls d (endsAt oi D) (Wx oi σ a) H) ∧ (b = false → agh K Wout D r cls d σ H)
inductive PQ (X : Cx) : Option Str → Option Nat → Prop
 | no : PQ X none none
 | at_ {n : Str} {i : Nat} (hi : X.N[i]? = some n) (hln : X.env.kindOf n = some .local) : PQ X (some n) (some i)
inductive Ks (X : Cx) : List ExceptHandler → List PP → Prop
 | nil : Ks X [] []
 | cons {x : Str} {c : Value} {ts : Addr → Value → Option Addr → TS} {b₀ : Stmt} {suite : List Stmt} {np pos' : Pos} {nm : Option Str} {oi : Option Nat} {hds : List ExceptHandler} {l : List PP} (hc : Names X x c) (hn : PQ X nm oi)
  (hsu : ∀ (a : Addr) (oe : Obj) (cls : Value) (d : Option Addr) (pn : List (Addr × Obj)), Zc cls d oe → (∃ vs, oe.data = .fields vs) → PSs (X.suite a ((a, oe) :: pn)) (b₀ :: suite) (ts a cls d)) (r : Ks X hds l) :
  Ks X (.ExceptHandler (some (.Name x np)) nm (b₀ :: suite) pos' :: hds) ((c, oi, ts) :: l)
section
variable {X : Cx} {body : List Stmt} {h₀ : ExceptHandler} {hds : List ExceptHandler} {l : List PP} {pos : Pos} {tb : WX → TS} {Wout : WX}
end
end L2
namespace Pk
open PySem PySem.Spec L2
abbrev Hd := Option Nat × (Nat → Option Bool) × (aH → M Fl)
def ab1 : List Hd → aH → M Fl
 | [], x => fun fr h => .exc x fr h
 | (oi, cond, ms) :: r, x => fun fr h => match cond x.c with
   | some true => match oi with
     | some i => if i < fr.length then aea i (ms x (fr.set i none) h) else .err
     | none => ms x fr h
   | some false => ab1 r x fr h
   | none => .err
def aic (cs : List Hd) (mb : M Fl) : M Fl := fun fr h => match mb fr h with
 | .exc x fr1 h1 => ab1 cs x fr1 h1
 | r => r
section
variable {X : Cx} {T : Tb} {W : WX} {k : Nat} {body : List Stmt} {h₀ : ExceptHandler} {hds : List ExceptHandler} {pos : Pos} {mb : M Fl} {cs : List Hd}
inductive Ku (X : Cx) (T : Tb) (W : WX) : List ExceptHandler → List Hd → Prop
 | nil : Ku X T W [] []
 | named {x n : Str} {c : Value} {cond : Nat → Option Bool} {b₀ : Stmt} {suite : List Stmt} {np pos' : Pos} {i : Nat} {ms : aH → M Fl} {hds : List ExceptHandler} {l : List Hd} (hi : X.N[i]? = some n) (hln : X.env.kindOf n = some .local) (hc : Names X x c)
  (hcond : ∀ cc b, cond cc = some b → PySem.W.exmOne X.K (.ref (T.cad cc)) c = some b)
  (hsu : ∀ (a : Addr) (oe : Obj) (cls : Value) (d : Option Addr) (pn : List (Addr × Obj)) (y : aH), Su X T i a oe cls d pn y → XQ (PX X.K T i a y cls d) (X.suite a ((a, oe) :: pn)) T W (b₀ :: suite) (ms y))
  (r : Ku X T W hds l) : Ku X T W (.ExceptHandler (some (.Name x np)) (some n) (b₀ :: suite) pos' :: hds) ((some i, cond, ms) :: l)
 | only {x : Str} {c : Value} {cond : Nat → Option Bool} {b₀ : Stmt} {suite : List Stmt} {np pos' : Pos} {ms : aH → M Fl} {hds : List ExceptHandler} {l : List Hd} (hc : Names X x c)
  (hcond : ∀ cc b, cond cc = some b → PySem.W.exmOne X.K (.ref (T.cad cc)) c = some b)
  (hsu : ∀ (a : Addr) (oe : Obj) (pn : List (Addr × Obj)) (y : aH), XQ (fun _ _ => True) (X.suite a ((a, oe) :: pn)) T W (b₀ :: suite) (ms y))
  (r : Ku X T W hds l) : Ku X T W (.ExceptHandler (some (.Name x np)) none (b₀ :: suite) pos' :: hds) ((none, cond, ms) :: l)
end
end Pk
namespace Pk
open PySem PySem.Spec L2
section
variable {P : Wd → L2.St → Prop} {X : Cx} {T : Tb} {W : WX} {a b : Expr} {ma mb : M D} {pos pf : Pos} {x : Str} {tab : Tg → Tg → Option Bool}
end
end Pk
namespace Pk
open PySem PySem.Spec L2
def aid (_ : Hh) : D → Option D
 | .bl b => some (.str (if b then "True" else "False"))
 | _ => none
def ag0 (_ : Hh) : D → Option D
 | .bl b => some (.bl b)
 | .int i => some (.bl (i != 0))
 | _ => none
section
variable {X : Cx} {T : Tb} {W : WX} {a : Expr} {ma : M D} {pos pf : Pos}
end
end Pk
namespace Pk
open PySem PySem.Spec PyProof.Rows L2
def aie : List Stmt → Expr
 | .Expr (.Call _ [e] _ _) _ :: _ => e
 | _ => .Name "" ⟨0, 0, 0, 0⟩
def XS : List D → Option (List Str)
 | [] => some []
 | .str s :: r => (XS r).map (s :: ·)
 | _ => none
def agD (K : PySem.W.Frag) (H : Hp) (vs : List V) : Prop := ∃ (a : Addr) (ss : List Str), vs = [.ref a] ∧ SqT K H a (ss.map V.str) ∧ (ss.map (·.length)).sum + ss.length ≤ 1000
def agi (ds : List D) : Bool := match ds with
 | [.tup l] => match XS l with
   | some ss => decide ((ss.map (·.length)).sum + ss.length ≤ 1000)
   | none => false
 | _ => false
inductive JP (scope : Scope) (m : Str → Option Value) : List Expr → List Str → Prop
 | nil : JP scope m [] []
 | con {z : Str} {j : Nat} {pos : Pos} {es : List Expr} {ys : List Str} (hz : z.length ≤ 2000) (r : JP scope m es ys) : JP scope m (.Constant (.str z) j pos :: es) (z :: ys)
 | int {f : Str} {i : Int} {t : Tok} {pos pos2 : Pos} {es : List Expr} {ys : List Str} (hl : scope.names.lookup f = some .local) (hd : (f == ("__debug__" : Str)) = false) (hm : m f = some (.int i t)) (hi : i.natAbs.log2 < 1920) (r : JP scope m es ys) : JP scope m (.FormattedValue (.Name f pos) (-1) none pos2 :: es) (toString i :: ys)
 | str {f y : Str} {t : Tok} {pos pos2 : Pos} {es : List Expr} {ys : List Str} (hl : scope.names.lookup f = some .local) (hd : (f == ("__debug__" : Str)) = false) (hm : m f = some (.str y t)) (hy : y.length ≤ 2000) (r : JP scope m es ys) : JP scope m (.FormattedValue (.Name f pos) (-1) none pos2 :: es) (y :: ys)
section
variable {scope : Scope} {qual : Str} {m : Str → Option Value} {L fI cda cc : Addr} {prog : Program} {w : World} {A' : Around} {h : Heap} {g : Array GenState} {d : Drawn} {os : OsState} {E' : Value → Shared → Prop}
end
end Pk
namespace L2
open PySem PySem.Spec PyProof.Rows
def UT (X : Cx) (te : Expr) (tst : Value → Option Bool) : Prop :=
 ∀ (a : Addr) (oe : Obj) (pn pins : List (Addr × Obj)) (σ : St) (H : Hp) (s : Shared) (cls : Value) (b : Bool) (Q : Bool → Shared → Prop) (E : Value → Shared → Prop), Inv (X.suite a ((a, oe) :: pn)) pins σ H s → PySem.W.Looks (model X.prog X.w) s.heap (typeOf (.ref a)) cls → tst cls = some b →
   (∀ h', (∀ q o, s.heap.get? q = some o → h'.get? q = some o) → Q b { s with heap := h' }) →
   wpAny (model X.prog X.w) (X.A.mark (some (.ref a))) (eval te X.env) (fun c s1 => wpAny (model X.prog X.w) (X.A.mark (some (.ref a))) (excMatches (.ref a) c) Q E s1) E s
abbrev Mp := (Value → Option Bool) × Option Nat × (Addr → Value → Option Addr → TS)
def afq (Wout : WX) (D : Ends) : List Mp → WX
 | [] => Wout
 | (c, oi, ts) :: r => fun cls d σ H => ∃ b, c cls = some b ∧ (b = true → ∀ a, H a = none → ts a cls d (endsAt oi D) (Wx oi σ a) H) ∧ (b = false → afq Wout D r cls d σ H)
inductive Oa (X : Cx) : List ExceptHandler → List Mp → Prop
 | nil : Oa X [] []
 | cons {te : Expr} {c : Value → Option Bool} {ts : Addr → Value → Option Addr → TS} {b₀ : Stmt} {suite : List Stmt} {pos' : Pos} {nm : Option Str} {oi : Option Nat} {hds : List ExceptHandler} {l : List Mp} (hc : UT X te c) (hn : PQ X nm oi)
  (hsu : ∀ (a : Addr) (oe : Obj) (cls : Value) (d : Option Addr) (pn : List (Addr × Obj)), Zc cls d oe → (∃ vs, oe.data = .fields vs) → PSs (X.suite a ((a, oe) :: pn)) (b₀ :: suite) (ts a cls d)) (r : Oa X hds l) :
  Oa X (.ExceptHandler (some te) nm (b₀ :: suite) pos' :: hds) ((c, oi, ts) :: l)
section
variable {X : Cx} {body : List Stmt} {h₀ : ExceptHandler} {hds : List ExceptHandler} {l : List Mp} {pos : Pos} {tb : WX → TS} {Wout : WX}
end
end L2
namespace Pk
open PySem PySem.Spec L2
section
variable {X : Cx} {T : Tb} {W : WX} {k : Nat} {body : List Stmt} {h₀ : ExceptHandler} {hds : List ExceptHandler} {pos : Pos} {mb : M Fl} {cs : List Hd}
inductive Kv (X : Cx) (T : Tb) (W : WX) : List ExceptHandler → List Hd → Prop
 | nil : Kv X T W [] []
 | named {te : Expr} {n : Str} {tst : Value → Option Bool} {cond : Nat → Option Bool} {b₀ : Stmt} {suite : List Stmt} {pos' : Pos} {i : Nat} {ms : aH → M Fl} {hds : List ExceptHandler} {l : List Hd} (hi : X.N[i]? = some n) (hln : X.env.kindOf n = some .local) (hc : UT X te tst)
  (hcond : ∀ cc b, cond cc = some b → tst (.ref (T.cad cc)) = some b)
  (hsu : ∀ (a : Addr) (oe : Obj) (cls : Value) (d : Option Addr) (pn : List (Addr × Obj)) (y : aH), Su X T i a oe cls d pn y → XQ (PX X.K T i a y cls d) (X.suite a ((a, oe) :: pn)) T W (b₀ :: suite) (ms y))
  (r : Kv X T W hds l) : Kv X T W (.ExceptHandler (some te) (some n) (b₀ :: suite) pos' :: hds) ((some i, cond, ms) :: l)
 | only {te : Expr} {tst : Value → Option Bool} {cond : Nat → Option Bool} {b₀ : Stmt} {suite : List Stmt} {pos' : Pos} {ms : aH → M Fl} {hds : List ExceptHandler} {l : List Hd} (hc : UT X te tst)
  (hcond : ∀ cc b, cond cc = some b → tst (.ref (T.cad cc)) = some b)
  (hsu : ∀ (a : Addr) (oe : Obj) (pn : List (Addr × Obj)) (y : aH), XQ (fun _ _ => True) (X.suite a ((a, oe) :: pn)) T W (b₀ :: suite) (ms y))
  (r : Kv X T W hds l) : Kv X T W (.ExceptHandler (some te) none (b₀ :: suite) pos' :: hds) ((none, cond, ms) :: l)
def ajs (K : PySem.W.Frag) (C : Addr) : Bool := PySem.W.excIn K C [.type "ValueError", .type "Exception", .type "BaseException", .type "object"] "ValueError.__new__" && (PySem.W.keepIn K (.ref C) && (decide (PySem.W.subIn K (.ref C) (.type "BaseException") = some true) && decide (PySem.W.typeIn K (.ref C) = some (.type "type"))))
structure ExB (K : PySem.W.Frag) (C : Addr) : Prop where
 q : PySem.W.excIn K C [.type "ValueError", .type "Exception", .type "BaseException", .type "object"] "ValueError.__new__" = true
 kC : PySem.W.keepIn K (.ref C) = true
 exC : PySem.W.subIn K (.ref C) (.type "BaseException") = some true
 tyC : PySem.W.typeIn K (.ref C) = some (.type "type")
def agE (c : Nat) (ma : M D) : M Fl := ma.bind fun _ fr h => .exc ⟨c, []⟩ fr h
end
section
variable {P : Wd → L2.St → Prop} {X : Cx} {T : Tb} {W : WX} {a b e : Expr} {m ma mb : M D} {pos : Pos}
end
end Pk
namespace Pk
open PySem PySem.Spec L2
def jD : List D → List D → List D
 | a :: as, b :: bs => .tup [a, b] :: jD as bs
 | _, _ => []
theorem uZ : ∀ (l m : List D), (jD l m).length = min l.length m.length
 | a :: l, b :: m => by
   rw [jD, akU, akU, akU, uZ l m]
   omega
 | [], _ => by simp [jD]
 | _ :: _, [] => by simp [jD]
theorem Ib : ∀ (l m : List D) (j : Nat) (z : D), (jD l m)[j]? = some z → ∃ a b, l[j]? = some a ∧ m[j]? = some b ∧ z = .tup [a, b]
 | a :: l, b :: m, 0, z, e => by
   simp [jD] at e
   exact ⟨a, b, rfl, rfl, e.symm⟩
 | a :: l, b :: m, j + 1, z, e => by
   obtain ⟨x, y, h1, h2, h3⟩ := Ib l m j z (by simpa [jD] using e)
   exact ⟨x, y, by simpa using h1, by simpa using h2, h3⟩
 | [], _, j, z, e => by simp [jD] at e
 | _ :: _, [], j, z, e => by simp [jD] at e
def Q5 : D → D → Option (List D)
 | .tup l, .tup m => some (jD l m)
 | .fl l, .fl m => some (jD l m)
 | .fl l, .kl m => some (jD l m)
 | .kl l, .fl m => some (jD l m)
 | .kl l, .kl m => some (jD l m)
 | _, _ => none
theorem acv {K : PySem.W.Frag} {T : Tb} {w : Wd} {v u : V} {d e : D} {l : List D} (r : bO K T w v d) (s : bO K T w u e) (q : Q5 d e = some l) : ∃ p1 p2 vs us ds es, v = .ref p1 ∧ u = .ref p2 ∧ l = jD ds es ∧ az K T w vs ds ∧ az K T w us es ∧ ((SqL K w.F p1 vs ∧ SqL K w.F p2 us) ∨ (SqT K w.F p1 vs ∧ SqT K w.F p2 us)) := by
 cases r with
 | tup s1 r1 =>
   cases s with
   | tup s2 r2 => cases q; exact ⟨_, _, _, _, _, _, rfl, rfl, rfl, r1, r2, .inr ⟨s1, s2⟩⟩
   | _ => cases q
 | fl s1 r1 =>
   cases s with
   | fl s2 r2 => cases q; exact ⟨_, _, _, _, _, _, rfl, rfl, rfl, r1, r2, .inl ⟨SqL.of s1, SqL.of s2⟩⟩
   | kl s2 r2 => cases q; exact ⟨_, _, _, _, _, _, rfl, rfl, rfl, r1, r2, .inl ⟨SqL.of s1, s2⟩⟩
   | _ => cases q
 | kl s1 r1 =>
   cases s with
   | fl s2 r2 => cases q; exact ⟨_, _, _, _, _, _, rfl, rfl, rfl, r1, r2, .inl ⟨s1, SqL.of s2⟩⟩
   | kl s2 r2 => cases q; exact ⟨_, _, _, _, _, _, rfl, rfl, rfl, r1, r2, .inl ⟨s1, s2⟩⟩
   | _ => cases q
 | _ => cases q
def Q6 (ma mb : M D) : M (List D) := ma.bind fun x => mb.bind fun y => M.opt (Q5 x y)
section
variable {X : Cx} {T : Tb} {W : WX} {k kk : Nat} {pos p tpos : Pos} {elts : List Expr} {a b : Expr} {ma mb : M D}
theorem aee {K : PySem.W.Frag} {B : Bs} {σ : L2.St} {w : Wd} {H : Hp} {fr : Fr} {a b : Addr} {vs us : List V} {l m : List D} (sq : SqL K w.F a vs) (sr : SqL K w.F b us) (rl : az K T w vs l) (rm : az K T w us m) : vJ K T B σ w H fr (Itz K a b) (jD l m) := fun i w2 H2 l2 hs => by
 have sq2 : SqL K H2 a vs := iJ hs (iJ l2.1 sq)
 have sr2 : SqL K H2 b us := iJ hs (iJ l2.1 sr)
 refine ⟨fun hi => ⟨vs, us, sq2, sr2, ?_⟩, fun d' hd => ?_⟩
 · rw [uZ] at hi
   rw [rl.length, rm.length]
   omega
 · obtain ⟨d1, d2, h1, h2, rfl⟩ := Ib l m i d' hd
   obtain ⟨v, hv, rv⟩ := rl.get h1
   obtain ⟨u, hu, ru⟩ := rm.get h2
   refine ⟨⟨vs, us, v, u, sq2, sr2, hv, hu⟩, fun y H3 hy B' σ' fr' h' R' => ?_⟩
   obtain ⟨Tp, x1, x2, rfl, nT, rfl, hx, hx2⟩ := hy
   have z := hx vs sq2
   rw [hv] at z
   cases z
   have z := hx2 us sr2
   rw [hu] at z
   cases z
   have lw := Wd.le_add (o := .tup [v, u]) (R'.nP nT).1
   exact ⟨w2.add Tp (.tup [v, u]), lw, R'.laid nT, .tup (SqT.of (by show upd w2.F Tp _ Tp = _; rw [upd_same])) (.cons ((rv.mono l2).mono lw) (.cons ((ru.mono l2).mono lw) .nil))⟩
theorem acw {K : PySem.W.Frag} {B : Bs} {σ : L2.St} {w : Wd} {H : Hp} {fr : Fr} {a b : Addr} {vs us : List V} {l m : List D} (sq : SqT K w.F a vs) (sr : SqT K w.F b us) (rl : az K T w vs l) (rm : az K T w us m) : vJ K T B σ w H fr (RZ.ItzT K a b) (jD l m) := fun i w2 H2 l2 hs => by
 have sq2 : SqT K H2 a vs := dR hs (dR l2.1 sq)
 have sr2 : SqT K H2 b us := dR hs (dR l2.1 sr)
 refine ⟨fun hi => ⟨vs, us, sq2, sr2, ?_⟩, fun d' hd => ?_⟩
 · rw [uZ] at hi
   rw [rl.length, rm.length]
   omega
 · obtain ⟨d1, d2, h1, h2, rfl⟩ := Ib l m i d' hd
   obtain ⟨v, hv, rv⟩ := rl.get h1
   obtain ⟨u, hu, ru⟩ := rm.get h2
   refine ⟨⟨vs, us, v, u, sq2, sr2, hv, hu⟩, fun y H3 hy B' σ' fr' h' R' => ?_⟩
   obtain ⟨Tp, x1, x2, rfl, nT, rfl, hx, hx2⟩ := hy
   have z := hx vs sq2
   rw [hv] at z
   cases z
   have z := hx2 us sr2
   rw [hu] at z
   cases z
   have lw := Wd.le_add (o := .tup [v, u]) (R'.nP nT).1
   exact ⟨w2.add Tp (.tup [v, u]), lw, R'.laid nT, .tup (SqT.of (by show upd w2.F Tp _ Tp = _; rw [upd_same])) (.cons ((rv.mono l2).mono lw) (.cons ((ru.mono l2).mono lw) .nil))⟩
theorem aef (s : aX X T W a ma) (s2 : aX X T W b mb) (hm : X.mg "zip" = none) (hg : Gl X "zip" := by rfl) (hs : starEach [a, b] X.env = (false, eval a X.env) :: starEach [b] X.env := by rfl) (hs2 : starEach [b] X.env = (false, eval b X.env) :: starEach [] X.env := by rfl) (hpl : (backTo pos (starEach [b] X.env)).any (·.1) = false := by rfl) :
 J9 X T W (.Tuple elts kk tpos) (.Call (.Name "zip" p) [a, b] [] pos) (Q6 ma mb) := fun B w σ H fr h Q r p =>
 LQ (RZ.pi_zipA hg hm (pa_cons bF (pa_cons bF pa_nil hs2) hs) hs hpl) (s B w σ H fr h _ r (aZ.bind (VR := vV X.K T B σ) p fun d fr1 h1 w1 H1 x e1 l1 r1 rx p1 =>
  s2 B w1 σ H1 fr1 h1 _ r1 (aZ.bind (VR := vV X.K T B σ) p1 fun e fr2 h2 w2 H2 y e2 l2 r2 ry p2 => by
   cases q : Q5 d e with
   | none => rw [q] at p2; exact p2.elim
   | some l =>
     rw [q] at p2
     obtain ⟨p1', p2', vs, us, ds, es, rfl, rfl, rfl, rv, ru, ⟨s1, s2⟩ | ⟨s1, s2⟩⟩ := acv (rx.mono l2) ry q
     · exact ⟨p1', p2', vs, us, rfl, .inl ⟨iJ r2.sub s1, iJ r2.sub s2, p2 w2 H2 (Itz X.K p1' p2') (Wd.le_refl _) r2 (aee s1 s2 rv ru)⟩⟩
     · exact ⟨p1', p2', vs, us, rfl, .inr ⟨dR r2.sub s1, dR r2.sub s2, p2 w2 H2 (RZ.ItzT X.K p1' p2') (Wd.le_refl _) r2 (acw s1 s2 rv ru)⟩⟩)))
end
section
variable {P : Wd → L2.St → Prop} {X : Cx} {T : Tb} {W : WX} {k : Nat} {a b e : Expr} {m ma mb : M D} {pos : Pos}
end
def ajt (n : Nat) (gs : List D → M Unit) (d : D) : M Unit := match d with
 | .tup l => if l.length = n then gs l else M.opt none
 | .fl l => if l.length = n then gs l else M.opt none
 | _ => M.opt none
def yr (_ : Hh) : D → D → Option D
 | .fl l, .int k => if 0 ≤ k ∧ k < 1000 ∧ l.length ≤ 100 then some (.nl (List.replicate k.toNat l).flatten) else none
 | _, _ => none
section
variable {X : Cx} {T : Tb} {W : WX} {k kk n : Nat} {is : List Nat} {tgs : List Expr} {gs : List D → M Unit} {pos : Pos} {a b : Expr} {ma mb : M D}
theorem Wy {K : PySem.W.Frag} {w : Wd} {vs : List V} {ds : List D} (r : az K T w vs ds) : ∀ n : Nat, az K T w (List.replicate n vs).flatten (List.replicate n ds).flatten
 | 0 => .nil
 | n + 1 => by
   rw [ale, ale, List.flatten_cons, List.flatten_cons]
   exact r.append (Wy r n)
theorem P0 (sa : aX X T W a ma) (sb : aX X T W b mb) : sG X T W (.BinOp a .Mult b pos) (aq yr ma mb) := fun B w σ H fr h Q r1 p =>
 eV (pe_op JS bF bF) (NB (VR := vE) sa sb (fun B w σ H fr h x y d e z Q R rx ry q k => by
  unfold yr at q
  split at q
  · rename_i l i
    split at q
    · rename_i hl
      cases q
      obtain ⟨p1, vs, rfl, s1, r1⟩ := NK rx
      obtain ⟨h0, h1, h2⟩ := hl
      refine wF op_rep ⟨p1, i, vs, rfl, jF ry, R.sub _ _ s1, by omega, by omega, ?_, fun p np => ?_⟩
      · rw [r1.length]
        have : (100000 : Nat) ≤ sizeLine := by decide
        have hk : i.toNat ≤ 1000 := by omega
        have := Nat.mul_le_mul h2 hk
        omega
      · exact yh R (Wy r1 i.toNat) np k
    · cases q
  · cases q) B w σ H fr h Q r1 p)
end
def putS : List Nat → List V → L2.St → L2.St
 | i :: is, v :: vs, σ => putS is vs (σ.set i (some v))
 | _, _, σ => σ
section
variable {X : Cx} {T : Tb} {W : WX} {k : Nat} {a b c : Expr} {pos : Pos}
end
end Pk
namespace Pk
open PySem PySem.Spec PyProof.Rows L2
section
variable {prog : Program} {w : World} {A : Around} {E : Value → Shared → Prop} {s : Shared} {l : Addr} {its : List Value} {ns : List Int} {Q : Value → Shared → Prop}
end
def aif (K : PySem.W.Frag) : List V → Hp → VK → Prop := fun vs H Q => ∃ (a : Addr) (ns : List Int), vs = [V.ref a] ∧ SqT K H a (ns.map V.int) ∧ 0 < ns.length ∧ ∀ m, m ∈ ns → (∀ y, y ∈ ns → y ≤ m) → Q (.int m) H
section
variable {X : Cx} {T : Tb} {W : WX} {k : Nat} {e a b c : Expr} {es : List Expr} {m ma mb mc : M D} {pos pf : Pos}
def aig (h : Hh) (d : D) : Option D := match d with
 | .tup l => match D.ints l with
   | some (a :: r) => some (.int (XH a r))
   | _ => none
 | _ => afg h d
end
end Pk
namespace Pk
open PySem PySem.Spec PyProof.Rows L2
section
variable {P : Program} {w : World} {A : Around} {E : Value → Shared → Prop} {s : Shared} {env : Env} {x : Str} {pe pt px p0 pc pos : Pos} {iter : Expr} {scope : Scope} {cl : List (Str × Addr)} {c : Int} {k0 : Nat} {Q : Value → Shared → Prop}
def agj (ns : List Int) (c : Int) (i : Nat) (k : Int) : Bool := decide (k ∈ (ns.take i).filter fun k => decide (k > c))
end
def aeg (a : Int) : List Int → List Int
 | [] => [a]
 | b :: l => if a < b then a :: b :: l else if a = b then b :: l else b :: aeg a l
def ab2 : List Int → List Int
 | [] => []
 | a :: l => aeg a (ab2 l)
section
variable {X : L2.Cx} {T : Tb} {W : WX} {k : Nat} {a iter : Expr} {ma : M D} {pf pos pe pt px p0 pc pos2 : Pos} {x : Str} {scope : Scope} {cl : List (Str × Addr)} {c : Int} {k0 : Nat}
def vSt (w0 : World) (c : Int) : kE V D := fun _ _ _ _ _ H _ v d => ∃ p is n, v = .ref p ∧ d = .fl (is.map .int) ∧ H p = some (SetO w0 p (agj is c is.length) n) ∧ n ≤ is.length ∧ is.length ≤ 50
def bTI : D → Option D
 | .tup l => match D.ints l with
   | some is => if is.length ≤ 50 then some (.fl (is.map .int)) else none
   | none => none
 | _ => none
def ag1 (c : Int) (_ : Hh) (d : D) : Option D := match d with
 | .fl l => match D.ints l with
   | some is => some (.nl ((ab2 (is.filter fun k => decide (k > c))).map .int))
   | none => none
 | _ => none
def aeh (a : Int) : List Int → List Int
 | [] => [a]
 | b :: l => if a ≤ b then a :: b :: l else b :: aeh a l
def ab3 : List Int → List Int
 | [] => []
 | a :: l => aeh a (ab3 l)
def agF (h : Hh) (d : D) : Option D := match d.lints h with
 | some is => if is.length < 64 then some (.nl ((ab3 is).map .int)) else none
 | none => none
end
end Pk
namespace Pk
open PySem PySem.Spec L2
def vJC : kE It (Nat × List D × List D) := fun K T B _ w _ _ J x => ∀ i w1 σ1 H1 fr1 h1, w.le w1 → Rel K T B w1 σ1 H1 fr1 h1 → h1[x.1]? = some (.nl x.2.1) →
 (x.2.2.length ≤ i → J.stop i H1) ∧ ∀ d, x.2.2[i]? = some d → J.go i H1 ∧ ∀ y H2, J.yld i H1 y H2 → ∃ w2, w1.le w2 ∧ Rel K T B w2 σ1 H2 fr1 h1 ∧ bO K T w2 y d
open Classical in
noncomputable def oW (n : Nat) (l : List D) (g : D → M Unit) (b : M Fl) : List D → M Fl
 | [] => fun fr h => if h[n]? = some (.nl l) then .ok .nx fr h else .err
 | d :: ds => fun fr h => if h[n]? = some (.nl l) then (match g d fr h with
   | .ok _ fr h => match b fr h with
     | .ok .nx fr h => oW n l g b ds fr h
     | .ok .ct fr h => oW n l g b ds fr h
     | .ok .brk fr h => .ok .nx fr h
     | .ok (.rt d) fr h => .ok (.rt d) fr h
     | .exc x fr h => .exc x fr h
     | .err => .err
   | _ => .err) else .err
noncomputable def sY (li : M (Nat × List D × List D)) (g : D → M Unit) (b : M Fl) : M Fl := li.bind fun x => oW x.1 x.2.1 g b x.2.2
def pJ (h : Hh) (d : D) : Option (Nat × List D) := match d with
 | .ref n => match h[n]? with
   | some (.nl l) => some (n, l)
   | _ => none
 | _ => none
theorem Ie {h : Hh} {d : D} {n : Nat} {l : List D} (e : pJ h d = some (n, l)) : d = .ref n ∧ h[n]? = some (.nl l) := by
 unfold pJ at e
 split at e
 · split at e
   · rename_i q; cases e; exact ⟨rfl, q⟩
   · cases e
 · cases e
def aat (m : M D) : M (Nat × List D × List D) := m.bind fun d fr h => M.opt ((pJ h d).map fun x => (x.1, x.2, x.2)) fr h
def agk (h : Hh) (d e : D) : Option (Nat × List D × List D) := match pJ h d, e with
 | some (n, l), .fl m => some (n, l, jD l m)
 | _, _ => none
def aih (ma mb : M D) : M (Nat × List D × List D) := ma.bind fun d => mb.bind fun e fr h => M.opt (agk h d e) fr h
section
variable {X : Cx} {T : Tb} {W : WX} {k kk : Nat} {pos p tpos : Pos} {tg iter a c : Expr} {elts : List Expr} {body : List Stmt} {g : D → M Unit} {b : M Fl} {is : List Nat} {li : M (Nat × List D × List D)} {ma mb : M D}
theorem UV (C : Cq X T W k) (si : jA (WI X tg iter) X.K T W vJC li) (sg : zQ X T is tg g) (sb : wJ X T W body b) (hs : ∀ x, foldedSetIterable iter X.env x = pure x := by intro _; rfl) : sJ X T W (.For tg iter body [] pos) (sY li g b) := fun B w σ H fr h D R p =>
 qp (ps_for C.po C.calm J5 Pu ye hs) (si B w σ H fr h _ R (dh.bind (VR := vJC X.K T B σ) p fun x fr1 h1 w1 H1 J e1 l1 r1 vj p1 => by
  obtain ⟨n, l, ds⟩ := x
  refine ⟨fun i m σ H => m = ds.length - i ∧ i ≤ ds.length ∧ ∃ w' fr' h', w1.le w' ∧ Rel X.K T B w' σ H fr' h' ∧ dh X.K T B W w' (oW n l g b (ds.drop i) fr' h') D, ⟨ds.length, by simp, Nat.zero_le _, w1, fr1, h1, Wd.le_refl _, r1, p1⟩, ?_⟩
  rintro i m σ2 H2 ⟨rfl, hi, w2, fr2, h2, l2, r2, p2⟩
  by_cases hlt : i < ds.length
  · have ed : ds.drop i = ds[i] :: ds.drop (i + 1) := List.drop_eq_getElem_cons hlt
    rw [ed] at p2
    unfold oW at p2
    by_cases hc : h2[n]? = some (.nl l)
    · rw [if_pos hc] at p2
      obtain ⟨js, jg⟩ := vj i w2 σ2 H2 fr2 h2 l2 r2 hc
      obtain ⟨go, y⟩ := jg ds[i] (akX hlt)
      refine .inr ⟨go, fun σ' H' => ∃ w' fr' h', w1.le w' ∧ Rel X.K T B w' σ' H' fr' h' ∧ dh X.K T B W w' (oW n l g b (ds.drop (i + 1)) fr' h') D, fun σ' H' q => ⟨ds.length - (i + 1), by omega, rfl, hlt, q⟩, fun x H3 yx => ?_⟩
      obtain ⟨w3, l3, r3, rx⟩ := y x H3 yx
      refine sg B w3 σ2 H3 fr2 h2 x ds[i] _ r3 rx ?_
      cases e2 : g ds[i] fr2 h2 with
      | ok u fr3 h3 =>
        rw [e2] at p2
        intro w4 σ4 H4 l4 r4 _
        refine sb B w4 σ4 H4 fr3 h3 _ r4 ?_
        have l34 : w1.le w4 := Wd.le_trans l2 (Wd.le_trans l3 l4)
        dsimp only at p2
        cases e3 : b fr3 h3 with
        | ok f fr4 h4 =>
          rw [e3] at p2
          cases f with
          | nx => exact fun w5 σ5 H5 l5 r5 => ⟨w5, fr4, h4, Wd.le_trans l34 l5, r5, p2.le (Wd.le_trans (Wd.le_trans l3 l4) l5)⟩
          | ct => exact fun w5 σ5 H5 l5 r5 => ⟨w5, fr4, h4, Wd.le_trans l34 l5, r5, p2.le (Wd.le_trans (Wd.le_trans l3 l4) l5)⟩
          | brk => exact fun w5 σ5 H5 l5 r5 => p2 w5 σ5 H5 (Wd.le_trans (Wd.le_trans l3 l4) l5) r5
          | rt d => exact fun w5 σ5 H5 v l5 r5 rv => p2 w5 σ5 H5 v (Wd.le_trans (Wd.le_trans l3 l4) l5) r5 rv
        | exc y fr4 h4 =>
          rw [e3] at p2
          exact fun w5 σ5 H5 cc dd l5 r5 z => p2 w5 σ5 H5 cc dd (Wd.le_trans (Wd.le_trans l3 l4) l5) r5 z
        | err => rw [e3] at p2; exact p2
      | exc y fr3 h3 => rw [e2] at p2; exact p2
      | err => rw [e2] at p2; exact p2
    · rw [if_neg hc] at p2
      exact p2.elim
  · have e : i = ds.length := by omega
    subst e
    rw [List.drop_length] at p2
    unfold oW at p2
    by_cases hc : h2[n]? = some (.nl l)
    · rw [if_pos hc] at p2
      exact .inl ⟨(vj _ w2 σ2 H2 fr2 h2 l2 r2 hc).1 (Nat.le_refl _), p2 w2 σ2 H2 (Wd.le_refl _) r2⟩
    · rw [if_neg hc] at p2
      exact p2.elim))
theorem yt {K : PySem.W.Frag} {B : Bs} {w : Wd} {σ : L2.St} {H : Hp} {fr : Fr} {h : Hh} {q : Addr} {n : Nat} {l : List D} (R : Rel K T B w σ H fr h) (hq : w.I[n]? = some q) (hc : h[n]? = some (.nl l)) : ∃ vs, SqL K H q vs ∧ az K T w vs l := by
 obtain ⟨o, eH, ro⟩ := R.cel n q _ hq hc
 cases ro with
 | lst r => exact ⟨_, SqL.of eH, r⟩
theorem Tv {w w' : Wd} {n : Nat} {q : Addr} (l : w.le w') (h : w.I[n]? = some q) : w'.I[n]? = some q := by
 obtain ⟨r, e⟩ := l.2
 rw [e, alk (List.getElem?_eq_some_iff.mp h).1]
 exact h
end
end Pk
namespace PySem
namespace SlK
open Sem (wp)
open PySem.W PySem.Calls PyProof.Rows
section
variable {prog : Program} {w : World} {A : Around} {E : Value → Shared → Prop} {h : Heap} {g : Array GenState} {d : Drawn} {t : Nat} {os : OsState} {a : Addr} {o : Obj}
end
section
variable {prog : Program} {w : World} {A : Around} {E : Value → Shared → Prop} {s : Shared} {K : Frag} {x C L f : Addr} {h₀ : Heap} {m : Str → Option Value} {ox : Obj} {od : Option Obj}
end
end SlK
end PySem
namespace Pk
open PySem PySem.Spec L2
def aju (K : PySem.W.Frag) (C : Addr) : Bool := PySem.W.noSeq K C
structure ajv (K : PySem.W.Frag) (T : Tb) (mt : Nat → Option Fn) : Prop where
 ex : ∀ c F, mt c = some F → PySem.W.noSeq K (T.cad c) = true
section
variable {X : Cx} {T : Tb} {W : WX} {k kk j n c : Nat} {pos pf px p2 : Pos} {a b e : Expr} {es : List Expr} {lo hi : Option Expr} {ma mb m : M D} {ml mh : M (Option Int)} {x : Str}
def ag3 (mt : Nat → Option Fn) (ma : M D) (ml mh : M (Option Int)) : M D := ma.bind fun o => ml.bind fun l => mh.bind fun u => abZ mt o [.sl l u]
def agl (t : String) : Bool := ["int", "bool", "str", "tuple", "list"].contains t
def aii (tab : Tg → Tg → Option Bool) (h : Hh) (d c : D) : Option D := match d with
 | .sl _ _ => match c with
   | .ty t => if agl t then some (.bl false) else none
   | _ => none
 | d => tO tab h d c
theorem Kw {tab : Tg → Tg → Option Bool} (F : QT X.K T tab) {B : Bs} {w : Wd} {σ : L2.St} {H : Hp} {fr : Fr} {h : Hh} {x y : V} {d e z : D} {Q : VK} (R : Rel X.K T B w σ H fr h) (rx : bO X.K T w x d) (ry : bO X.K T w y e) (q : tO tab h d e = some z)
 (kk : ∀ w' H' v, w.le w' → Rel X.K T B w' σ H' fr h → vV X.K T B σ w' H' fr v z → Q v H') : cM X (.builtin "isinstance") [x, y] H Q := by
 unfold tO at q
 cases et : d.tag h with
 | none => rw [et] at q; cases q
 | some t =>
   rw [et] at q
   have one : ∀ u, e.ctag = some u → (tab t u).map D.bl = some z → cM X (.builtin "isinstance") [x, y] H Q := fun u ec eq => by
    obtain ⟨bb, eb, rfl⟩ := Option.map_eq_some_iff.mp eq
    exact iU call_isi ⟨x, y, t.v T, u.v T, bb, rfl, NZ ry ec, Mi F R (.inl rx) et eb, F.kit t u bb eb, kk w H _ (Wd.le_refl _) R (.bl bb)⟩
   cases e with
   | tup l =>
     dsimp only at q
     cases ec : CV l with
     | none => rw [ec] at q; cases q
     | some us =>
       rw [ec] at q
       cases us with
       | nil => cases q
       | cons u us =>
         obtain ⟨bb, eb, rfl⟩ := Option.map_eq_some_iff.mp q
         obtain ⟨p, vs, rfl, sq, rs⟩ := vX ry
         have ty : TyX X.K H x (t.v T) := by
          rcases Nm eb with z | ⟨u', b', z⟩
          · cases z
          · exact Mi F R (.inl rx) et z
         exact iU RN ⟨x, p, vs, t.v T, (u :: us).map (Tg.v T), bb, rfl, dR R.sub sq, Kg rs ec, ty, HH F eb, kk w H _ (Wd.le_refl _) R (.bl bb)⟩
   | cls c => exact one _ rfl q
   | ty t => exact one _ rfl q
   | _ => cases q
def aij (h : Hh) (d i : D) : Option D := match i with
 | .sl lo hi => match d.der h with
   | .fl l => some (.nl (cutD l lo hi))
   | .nl l => some (.nl (cutD l lo hi))
   | .kl l => some (.nl (cutD l lo hi))
   | _ => none
 | i => aP h d i
end
end Pk
namespace Pk
open PySem PySem.Spec L2
section
variable {X : Cx} {T : Tb} {W : WX} {k kk j n c : Nat} {pos pf px p2 p pr : Pos} {a b e : Expr} {es : List Expr} {ma mb m : M D} {ms : List (M D)} {x : Str}
def UW (a b : Int) : Bool := decide (-(2 ^ 62) ≤ a) && decide (a < 2 ^ 62) && decide (-(2 ^ 62) ≤ b) && decide (b < 2 ^ 62) && decide ((b - a).toNat ≤ 2 ^ 24)
theorem acx {a b : Int} (h : UW a b = true) : RgOk a b := by
 unfold UW at h
 simp only [Bool.and_eq_true, decide_eq_true_eq] at h
 exact ⟨h.1.1.1.1, h.1.1.1.2, h.1.1.2, h.1.2, h.2⟩
def rgD (a b : Int) : List D := (akS (b - a).toNat).map fun i => D.int (a + (i : Nat))
theorem Zg {K : PySem.W.Frag} {w : Wd} {a : Int} : ∀ l : List Nat, az K T w (l.map fun i => V.int (a + (i : Nat))) (l.map fun i => D.int (a + (i : Nat)))
 | [] => .nil
 | _ :: l => .cons (.int _) (Zg l)
def Qa (x y : D) : Option D := match x, y with
 | .int a, .int b => if UW a b then some (.nl (rgD a b)) else none
 | _, _ => none
def Gx (ma : M D) : M D := ma.bind fun n => M.opt (Qa (.int 0) n)
def ag4 (ma mb : M D) : M D := ma.bind fun a => mb.bind fun b => M.opt (Qa a b)
theorem aau {x y z : D} (h : Qa x y = some z) : ∃ a b, x = .int a ∧ y = .int b ∧ RgOk a b ∧ z = .nl (rgD a b) := by
 unfold Qa at h
 split at h
 · split at h
   · rename_i hk
     cases h
     exact ⟨_, _, rfl, rfl, acx hk, rfl⟩
   · cases h
 · cases h
theorem aav (C : Cq X T W k) (sa : aX X T W a ma) (hm : X.mg "list" = none) (hmr : X.mg "range" = none) (hg : Gl X "list" := by rfl) (hgr : Gl X "range" := by rfl) (na : starEach [a] X.env = (false, eval a X.env) :: starEach [] X.env := by exact eE rfl)
 (nb : starEach [(.Call (.Name "range" pr) [a] [] p2 : Expr)] X.env = (false, eval (.Call (.Name "range" pr) [a] [] p2) X.env) :: starEach [] X.env := by exact eE rfl) : sG X T W (.Call (.Name "list" pf) [.Call (.Name "range" pr) [a] [] p2] [] pos) (Gx ma) := fun B w σ H fr h Q R p =>
 eV (pe_listRg C.calm hg hm (prg_1 hgr hmr bF na) nb) (sa B w σ H fr h _ R (aZ.bind (VR := vV X.K T B σ) p fun d fr1 h1 w1 H1 v e1 l1 r1 rd p1 => by
  cases q : Qa (.int 0) d with
  | none => rw [q] at p1; exact p1.elim
  | some z =>
    rw [q] at p1
    obtain ⟨a', b', e1, e2, ok, rfl⟩ := aau q
    cases e1
    subst e2
    exact ⟨b', jF rd, ok, fun q nq => yh r1 (Zg _) nq p1⟩))
def ajw (i : Nat) (f : Int → Int → Int) (m : M D) : M Fl := fun fr h => match fr[i]? with
 | some (some (.int a)) => (m.bind fun d fr h => match d with
   | .int b => .ok .nx (fr.set i (some (.int (f a b)))) h
   | _ => .err) fr h
 | _ => .err
def agm (d : D) : Option D := match d with
 | .str y => if y.length ≤ big then some (.str y) else none
 | .int i => if i.natAbs.log2 < 1920 then some (.str (toString i)) else none
 | _ => none
def ajx (m : M D) : M D := m.bind fun d => M.opt (agm d)
def vS : kE Str Str := fun _ _ _ _ _ _ _ b c => b = c
def mJs : List (M D) → Str → M Str
 | [], acc => M.ret acc
 | m :: ms, acc => m.bind fun d => match d with
   | .str y => if (acc ++ y).length ≤ big then mJs ms (acc ++ y) else M.opt none
   | _ => M.opt none
def ajy (X : Cx) (T : Tb) (W : WX) (es : List Expr) (ms : List (M D)) : Prop := ∀ acc, jA (fun σ H Q => tJs (es.map fun e => (WE X e : TE)) acc σ H Q) X.K T W vS (mJs ms acc)
def aik (ms : List (M D)) : M D := (mJs ms Str.empty).bind fun s => M.ret (.str s)
end
structure WM (X : Cx) (cs : List MatchCase) (z : Str) (D : Ends) (σ : L2.St) (H : Hp) : Prop where
 go : ∀ pins s t first, Inv X pins σ H s → wpAny (model X.prog X.w) X.A (matchCases cs X.env (.str z t) first) (SP X pins D) X.xe s
structure ajz (X : Cx) (p : Pattern) (ss : List Str) : Prop where
 go : ∀ (z : Str) pins (σ : L2.St) (H : Hp) s t (R : Option (List (Str × Value)) → Shared → Prop), Inv X pins σ H s → (∀ s', Inv X pins σ H s' → R (if ss.contains z then some [] else none) s') → wpAny (model X.prog X.w) X.A (matchPattern p X.env (.str z t)) R X.xe s
structure ail (X : Cx) (ps : List Pattern) (ss : List Str) : Prop where
 go : ∀ (z : Str) pins (σ : L2.St) (H : Hp) s t (R : Option (List (Str × Value)) → Shared → Prop), Inv X pins σ H s → (∀ s', Inv X pins σ H s' → R (if ss.contains z then some [] else none) s') → wpAny (model X.prog X.w) X.A (matchFirst ps X.env (.str z t)) R X.xe s
section
variable {X : Cx} {T : Tb} {W : WX} {pos p2 : Pos} {e : Expr} {m : M D} {cs : List MatchCase} {ms : List (List Str × M Fl)} {body : List Stmt} {mb : M Fl} {pt : Pattern} {pts : List Pattern} {ss ts : List Str} {y : Str} {jj : Nat}
def ajA (X : Cx) (T : Tb) (W : WX) (cs : List MatchCase) (m : Str → M Fl) : Prop := ∀ z, ∀ (B : Bs) (w : Wd) (σ : L2.St) (H : Hp) (fr : Fr) (h : Hh) (D : Ends), Rel X.K T B w σ H fr h → dh X.K T B W w (m z fr h) D → WM X cs z D σ H
def aek : List (List Str × M Fl) → Str → M Fl
 | [], _ => M.ret .nx
 | (ss, b) :: r, z => if ss.contains z then b else aek r z
def ag5 (m : M D) (f : Str → M Fl) : M Fl := m.bind fun d => match d with
 | .str z => f z
 | _ => fun _ _ => .err
end
end Pk
namespace Pk
open PySem PySem.Spec L2
section
variable {X : Cx} {T : Tb} {W : WX} {k : Nat} {pos pf : Pos} {a : Expr} {ma : M D}
def aim (_ : Hh) (d : D) : Option D := match d with
 | .int i => if i.natAbs.log2 < 1920 then some (.str (toString i)) else none
 | .str z => some (.str z)
 | _ => none
end
end Pk
namespace Pk
open PySem PySem.Spec L2
section
variable {X : Cx} {T : Tb} {W : WX} {k j : Nat} {pos : Pos} {a b : Expr} {ma mb : M D}
end
end Pk
namespace Pk
open PySem PySem.Spec PyProof.Rows L2
section
variable {prog : Program} {w : World} {A : Around} {E : Value → Shared → Prop} {s : Shared} {l : Addr} {its : List Value} {ns : List Int} {Q : Value → Shared → Prop}
theorem acy (hh : A.handled = none) (hl : PyProof.Rows.IsTup s.heap l its.toArray) (hi : IntsAre its ns)
 (h : ∀ h' tk t', (∀ b o, s.heap.get? b = some o → h'.get? b = some o) → Q (.int ns.sum t') { s with heap := h', toks := tk }) : wpAny (model prog w) A (call (.builtin "sum") [.ref l]) Q E s := by
 obtain ⟨xs, e⟩ := hi.allInts.items
 have hn : numsOf (intItems xs).toList = ns := by rw [← e]; exact hi.numsOf
 rw [nums_intItems] at hn
 rw [e] at hl
 refine PySem.W.ktm_sumG hh hl fun h' tk t' hk => ?_
 have := h h' tk t' hk
 rw [preSum_eq, List.take_of_length_le (by simp), hn]; exact this
end
def afr (K : PySem.W.Frag) : List V → Hp → VK → Prop := fun vs H Q => ∃ (a : Addr) (ns : List Int), vs = [V.ref a] ∧ SqT K H a (ns.map V.int) ∧ Q (.int ns.sum) H
theorem acz {X : L2.Cx} (hc : X.calm = true) : CallR X (.builtin "sum") (afr X.K) := by
 intro pins s σ H vs us Q I r h
 obtain ⟨a, ns, rfl, hs, q⟩ := h
 obtain ⟨its, rv, hl, _⟩ := I.tuple hs
 rw [Vals.ref1 r]
 exact acy (I.ok.hd hc) hl rv.ints fun h' tk t' hk => ⟨.int _, H, I.kept hk, ⟨_, rfl⟩, q⟩
section
variable {X : Cx} {T : Tb} {W : WX} {k : Nat} {e a b c : Expr} {es : List Expr} {m ma mb mc : M D} {pos pf : Pos}
def vD (h : Hh) (d : D) : Option D := match d with
 | .tup l => (D.ints l).map fun l => .int l.sum
 | _ => aaj h d
theorem Mq (C : Cq X T W k) (sa : Dk X T W a ma) (hm : X.mg "sum" = none) (hg : Gl X "sum" := by rfl) (he : starEach (a :: []) X.env = (false, eval a X.env) :: starEach [] X.env := by exact eE rfl) : aX X T W (.Call (.Name "sum" pf) [a] [] pos) (aJ vD ma) :=
 aai (id := "sum") sa (fun B w σ H fr h x d z Q R rx q kk => by
  unfold vD at q
  split at q
  · rename_i l
    obtain ⟨ls, el, rfl⟩ := Option.map_eq_some_iff.mp q
    rcases rx with rx | ⟨_, _, _, _, rr⟩
    · obtain ⟨p, vs, rfl, sq, rl⟩ := vX rx
      rw [ints_map el] at rl
      rw [rl.ints] at sq
      exact iU (acz C.calm) ⟨p, ls, rfl, dR R.sub sq, kk w H _ (Wd.le_refl _) R (.int _)⟩
    · cases rr
  · obtain ⟨l, el, rfl⟩ := Option.map_eq_some_iff.mp q
    obtain ⟨p, rfl, sq⟩ := Y4 R rx el
    exact iU (cr_sum C.calm) ⟨p, l, rfl, sq, kk w H _ (Wd.le_refl _) R (.int _)⟩) hm hg (by decide +kernel) (by decide) (by decide) he
end
end Pk
namespace PySem
namespace OwA
open PySem.W PySem.Calls PyProof.Rows
section
variable {prog : Program} {w : World} {A : Around} {E : Value → Shared → Prop} {s : Shared} {K : Frag} {x C L f : Addr} {h₀ : Heap} {m : Str → Option Value} {ox : Obj} {od : Option Obj}
end
end OwA
end PySem
namespace Pk
open PySem PySem.Spec L2
section
variable {X : Cx} {T : Tb} {W : WX} {k j : Nat} {pos pf : Pos} {a b : Expr} {ma mb : M D}
def ajB (mt : Nat → Option Fn) (ma : M D) : M D := ma.bind fun o => N8 mt o []
def ain (K : PySem.W.Frag) (C : Addr) (f : Str) (i : Int) : Bool := UG K C && (match PySem.W.findCls K (.ref C) (.type "type") f with
 | some (.val (.int j _)) => decide (j = i)
 | _ => false)
end
end Pk
namespace PySem
namespace OwO
open PySem.W PySem.Calls PyProof.Rows
section
variable {prog : Program} {w : World} {A : Around} {E : Value → Shared → Prop} {s : Shared} {x C dx : Addr}
end
structure NmOk (nm : String) : Prop where
 n0 : fillsNumberSlot (.type "NoneType") nm = pure false
 n1 : fillsNumberSlot (.type "str") nm = pure false
 n2 : fillsNumberSlot (.type "list") nm = pure false
 n3 : fillsNumberSlot (.type "tuple") nm = pure false
 i0 : fillsNumberSlot (.type "int") nm = pure true
 b0 : fillsNumberSlot (.type "bool") nm = pure true
 i1 : numberSlotInPython (.type "int") nm = pure false
 b1 : numberSlotInPython (.type "bool") nm = pure false
 i2 : ∃ tk, typeLookup (.type "int") (dunderR nm) = pure tk
 b2 : ∃ tk, typeLookup (.type "bool") (dunderR nm) = pure tk
 ti : ∀ (prog : Program) (w : World) (A : Around) (E : Value → Shared → Prop) (s : Shared) (x C dx : Addr) (a : Int) (t : Tok), s.heap.get? x = some (instObj C dx) → ∀ P' : Option Value → Shared → Prop, P' none s → wpAny (model prog w) A (tryMethod (.int a t) (PySem.dunder nm) (.ref x)) P' E s
 tb : ∀ (prog : Program) (w : World) (A : Around) (E : Value → Shared → Prop) (s : Shared) (x C dx : Addr) (a : Bool), s.heap.get? x = some (instObj C dx) → ∀ P' : Option Value → Shared → Prop, P' none s → wpAny (model prog w) A (tryMethod (.bool a) (PySem.dunder nm) (.ref x)) P' E s
end OwO
end PySem
namespace Pk
open PySem PySem.Spec L2
structure OpF (X : Cx) (T : Tb) (k : Nat) (nm : String) (mt : Nat → Option Fn) : Prop where
 ok : PySem.OwO.NmOk nm
 ex : ∀ c F, mt c = some F → ∃ (kk : Nat) (f : Addr) (fd : FuncData) (ps : List Str), Cls X.K (T.cad c) ∧ Meth X.K (T.cad c) (PySem.dunder nm) f ∧ PySem.W.selfFirst X.K (T.cad c) = true ∧ oR X.prog X.w X.K X.mg X.base T kk f fd ps F ∧ Bn X.K T fd ps 2 [] (bh []) ∧ kk ≤ k ∧
  ∃ g, PySem.W.findIn X.K (.ref (T.cad c)) (PySem.dunderR nm) = some (some (.ref g))
structure ajC (X : Cx) (T : Tb) (k : Nat) (nm : String) (mt : Nat → Option Fn) : Prop where
 ex : ∀ c F, mt c = some F → ∃ (kk : Nat) (f : Addr) (fd : FuncData) (ps : List Str), Cls X.K (T.cad c) ∧ Meth X.K (T.cad c) (PySem.dunderR nm) f ∧ PySem.W.selfFirst X.K (T.cad c) = true ∧ oR X.prog X.w X.K X.mg X.base T kk f fd ps F ∧ Bn X.K T fd ps 2 [] (bh []) ∧ kk ≤ k ∧
  (∃ g, PySem.W.findIn X.K (.ref (T.cad c)) (PySem.dunder nm) = some (some (.ref g))) ∧ PySem.W.subIn X.K (.ref (T.cad c)) (.type "int") = some false ∧ PySem.W.subIn X.K (.ref (T.cad c)) (.type "bool") = some false
def afs (mtl mtr : Nat → Option Fn) (h : Hh) (x y : D) : Option (Fn × Bool) := match XM h x y with
 | some c => (mtl c).map fun F => (F, false)
 | none => match fnOf mtl h x, y.bty h with
   | some F, some _ => some (F, false)
   | _, _ => match fnOf mtr h y, x.smp with
     | some F, true => some (F, true)
     | _, _ => none
def ajD (mtl mtr : Nat → Option Fn) (ma mb : M D) : M D := ma.bind fun x => mb.bind fun y fr h => match afs mtl mtr h x y with
 | some (F, false) => qC fr (F [x, y] h)
 | some (F, true) => qC fr (F [y, x] h)
 | none => .err
section
variable {X : Cx} {T : Tb} {W : WX} {k : Nat} {a b : Expr} {ma mb : M D} {pos : Pos} {op : Operator}
def U0 (X : Cx) (T : Tb) (W : WX) (k : Nat) (σ : L2.St) (f : Addr) (x y : V) (H2 : Hp) (Q : VK) : Prop :=
 ∃ (kk : Nat) (fd : FuncData) (ps : List Str) (G : Fn), oR X.prog X.w X.K X.mg X.base T kk f fd ps G ∧ Bn X.K T fd ps 2 [] (bh []) ∧ kk ≤ k ∧
   ∀ g gV, KBn X.K fd ps 2 [] g gV → (∀ (w : Wd) (vs zs : List V) (ds es : List D), az X.K T w vs ds → az X.K T w zs es → ds.length = 2 → es.length = ([] : List Str).length → az X.K T w (gV vs zs) (bh [] ds es) ∧ (bh [] ds es).length = ps.length) →
     spF X.K T ps.length G (gV [x, y] []) H2 Q (fun c d H' => W c d σ H')
def ag6 (X : Cx) (T : Tb) (W : WX) (k : Nat) (op : Operator) (σ : L2.St) (x y : V) (H2 : Hp) (Q : VK) : Prop :=
 (∃ (p1 p2 C dx dy f : Addr) (fs gs : List (Str × V)), x = .ref p1 ∧ y = .ref p2 ∧ H2 p1 = some (.ins C dx fs) ∧ H2 p2 = some (.ins C dy gs) ∧ Meth X.K C (PySem.dunder op.info.2) f ∧ PySem.W.selfFirst X.K C = true ∧ U0 X T W k σ f x y H2 Q) ∨
 (∃ (p1 C dx f g : Addr) (fs : List (Str × V)) (t : String), x = .ref p1 ∧ H2 p1 = some (.ins C dx fs) ∧ TyX X.K H2 y (.type t) ∧ t ∈ HF ∧ Meth X.K C (PySem.dunder op.info.2) f ∧ PySem.W.selfFirst X.K C = true ∧ PySem.W.findIn X.K (.ref C) (PySem.dunderR op.info.2) = some (some (.ref g)) ∧ U0 X T W k σ f x y H2 Q) ∨
 (∃ (p1 C dx f g : Addr) (fs : List (Str × V)), y = .ref p1 ∧ H2 p1 = some (.ins C dx fs) ∧ (x = .non ∨ (∃ bb, x = .bl bb) ∨ ∃ i, x = .int i) ∧ Meth X.K C (PySem.dunderR op.info.2) f ∧ PySem.W.selfFirst X.K C = true ∧ PySem.W.findIn X.K (.ref C) (PySem.dunder op.info.2) = some (some (.ref g)) ∧ PySem.W.subIn X.K (.ref C) (.type "int") = some false ∧ PySem.W.subIn X.K (.ref C) (.type "bool") = some false ∧ U0 X T W k σ f y x H2 Q)
end
end Pk
namespace Pk
open PySem PySem.Spec L2
def D.lstP (h : Hh) (d : D) : Option (List PyData) := match d.der h with
 | .fl l => D.toPs l
 | .nl l => D.toPs l
 | .kl l => D.toPs l
 | _ => none
section
variable {K : PySem.W.Frag} {T : Tb} {B : Bs} {w : Wd} {σ : L2.St} {H : Hp} {fr : Fr} {h : Hh} {v : V} {d : D} {ps : List PyData}
theorem Oc (R : Rel K T B w σ H fr h) (z : vO K T B σ w H fr v d) (e : d.lstP h = some ps) : ∃ (a : Addr) (vs : List V), v = .ref a ∧ SqL K H a vs ∧ DpAll K H vs ps := by
 rcases z with z | ⟨p, o, rfl, eH, z⟩
 · cases z with
   | fl s r => exact ⟨_, _, rfl, SqL.of (R.sub _ _ s), uW R.sub r e⟩
   | kl s r => exact ⟨_, _, rfl, iJ R.sub s, uW R.sub r e⟩
   | @ref a n s =>
     have ln : n < h.length := by
      rw [← R.len]
      exact (List.getElem?_eq_some_iff.mp s).1
     obtain ⟨o, q, rr⟩ := R.cel n a h[n] s (akX ln)
     have e0 : D.der h (.ref n) = h[n] := by
      unfold D.der
      dsimp only
      rw [akX ln]
      rfl
     unfold D.lstP at e
     rw [e0] at e
     generalize h[n] = cc at rr e
     cases rr with
     | lst r => exact ⟨_, _, rfl, SqL.of q, uW R.sub r e⟩
     | obj r => cases e
     | dct _ r => cases e
     | dkt _ r => cases e
     | so0 _ => cases e
     | so1 _ _ => cases e
     | hid0 => cases e
     | hid1 => cases e
   | non => cases e
   | bl _ => cases e
   | int _ => cases e
   | str _ => cases e
   | tup _ _ => cases e
   | obj _ _ => cases e
   | cls _ => cases e
   | ty _ => cases e
   | sl _ => cases e
   | tp _ _ => cases e
 · cases z with
   | lst r => exact ⟨_, _, rfl, SqL.of eH, uW R.sub r e⟩
   | obj r => cases e
end
section
variable {X : Cx} {T : Tb} {W : WX} {k : Nat}
def Dt (h : Hh) (x y : D) : Option Bool := match x.toP, y.lstP h with
 | some p, some ps => if SeqAt.shaped p && SeqAt.shaped (.list ps) then some (ps.any fun z => PyData.eqv z p) else none
 | _, _ => none
def aio (h : Hh) (x y : D) : Option Bool := (Dt h x y).map (!·)
theorem Zh {h : Hh} {x y : D} {c : Bool} (q : Dt h x y = some c) : ∃ p ps, x.toP = some p ∧ y.lstP h = some ps ∧ SeqAt.shaped p = true ∧ SeqAt.shaped (.list ps) = true ∧ c = ps.any fun z => PyData.eqv z p := by
 unfold Dt at q
 split at q
 · rename_i p ps e1 e2
   split at q
   · rename_i hs
     obtain ⟨h1, h2⟩ := Bool.and_eq_true_iff.mp hs
     cases q
     exact ⟨p, ps, e1, e2, h1, h2, rfl⟩
   · cases q
 · cases q
theorem Wz (C : Cq X T W k) : wG X T vO .In Dt := fun B w σ H fr h x y d e c Q R rx ry q kk => by
 obtain ⟨p, ps, e1, e2, s1, s2, rfl⟩ := Zh q
 obtain ⟨a, vs, rfl, sq, dp⟩ := Oc R ry e2
 exact wF (op_inD (by have := C.u; omega)) ⟨p, ps, Lw R.sub rx e1, .lst sq dp, s1, s2, kk⟩
def rC (h : Hh) (o x : D) : Option D := match x.toP, o.lstP h with
 | some p, some ps => if SeqAt.shaped p && SeqAt.shaped (.list ps) then (ps.findIdx? fun z => PyData.eqv z p).map (fun j => .int (j : Nat)) else none
 | _, _ => none
theorem U3 {h : Hh} {o x : D} {z : D} (q : rC h o x = some z) : ∃ p ps j, x.toP = some p ∧ o.lstP h = some ps ∧ SeqAt.shaped p = true ∧ SeqAt.shaped (.list ps) = true ∧ (ps.findIdx? fun z => PyData.eqv z p) = some j ∧ z = .int (j : Nat) := by
 unfold rC at q
 split at q
 · rename_i p ps e1 e2
   split at q
   · rename_i hs
     obtain ⟨h1, h2⟩ := Bool.and_eq_true_iff.mp hs
     obtain ⟨j, ej, rfl⟩ := Option.map_eq_some_iff.mp q
     exact ⟨p, ps, j, e1, e2, h1, h2, ej, rfl⟩
   · cases q
 · cases q
def zB (mo m : M D) : M D := mo.bind fun o fr h => if (o.lstP h).isSome then m.bind (fun x fr h => M.opt (rC h o x) fr h) fr h else .err
variable {e o : Expr} {m mo : M D} {cpos apos : Pos}
theorem U4 (C : Cq X T W k) (so : aX X T W o mo) (s : aX X T W e m)
 (hbase : attributeBase o "index" X.env (eval o X.env) = eval o X.env := by rfl)
 (hfew : ((backTo cpos (starEach (e :: []) X.env)).all (fun x => !x.1) && (backToKw cpos (keywordEach [] X.env)).all (fun x => x.1.isSome)
  && decide ((e :: []).length + ([] : List Keyword).length + (if ([] : List Keyword).isEmpty then 0 else 1) < 30)) = true := by rfl)
 (hline : (apos.endLine == cpos.line) = true := by rfl) (hs : starEach (e :: []) X.env = (false, eval e X.env) :: starEach [] X.env := by exact eE rfl) (hplain : (backTo cpos (starEach [] X.env)).any (·.1) = false := by rfl) :
 aX X T W (.Call (.Attribute o "index" apos) [e] [] cpos) (zB mo m) := fun B w σ H fr h Q R p => by
 refine eV (pe_bm PySem.F.plainAttrs_list PySem.F.slot_list_index PySem.F.type_list_index (mt_indexD (by have := C.u; omega)) bF (pa_cons bF pa_nil hs) hbase hfew hline hs hplain) (so B w σ H fr h _ R (aZ.bind (VR := vV X.K T B σ) p fun od fr0 h0 w0 H0 ov e0 l0 r0 ro p0 => ?_))
 have p0' : aZ X.K T B W (vV X.K T B σ) w0 σ (if (od.lstP h0).isSome then m.bind (fun x fr h => M.opt (rC h od x) fr h) fr0 h0 else .err) Q := p0
 cases ei : od.lstP h0 with
 | none =>
   rw [ei] at p0'
   exact (show False from p0').elim
 | some ps0 =>
   rw [ei, Option.isSome_some, if_pos rfl] at p0'
   obtain ⟨a0, vs0, rfl, sq0, dp0⟩ := Oc r0 (.inl ro) ei
   refine ⟨.inl ⟨rfl, vs0, sq0⟩, s B w0 σ H0 fr0 h0 _ r0 (aZ.bind (VR := vV X.K T B σ) p0' fun x fr2 h2 w2 H2 y e2 l2 r2 ry p2 => ?_)⟩
   have p2' : aZ X.K T B W (vV X.K T B σ) w2 σ (M.opt (rC h2 od x) fr2 h2) Q := p2
   cases q : rC h2 od x with
   | none => rw [q] at p2'; exact p2'.elim
   | some z =>
     rw [q] at p2'
     obtain ⟨p, ps, j, e1, e3, s1, s2, ej, rfl⟩ := U3 q
     obtain ⟨a, vs, ea, sq, dp⟩ := Oc r2 (.inl (ro.mono l2)) e3
     obtain ⟨hj, hp, hno⟩ := List.findIdx?_eq_some_iff_getElem.mp ej
     exact ⟨a0, y, p, ps, j, ps[j], rfl, rfl, by cases ea; exact .lst sq dp, Lw r2.sub ry e1, s2, s1, akX hj, hp, fun m' z' hm ez => by
      have hl : m' < ps.length := by omega
      rw [akX hl] at ez
      cases ez
      have := hno m' hm
      simpa using this, p2' w2 H2 _ (Wd.le_refl _) r2 (.int _)⟩
end
end Pk
namespace Pk
open PySem PySem.Spec L2
def ajE (ix : Nat → Option Nat) (x : D) : M D := fun fr h => M.opt (cC ix h x) fr h
section
variable {X : Cx} {T : Tb} {W : WX} {k j : Nat} {apos pos : Pos} {o b : Expr} {mo mb : M D} {f : Str} {ix : Nat → Option Nat}
end
end Pk
namespace Pk
open PySem PySem.Spec L2
def vJD : kE It (Nat × List D × List D) := fun K T _ _ w _ _ J x => ∀ i w1 B1 σ1 H1 fr1 h1, w.le w1 → Rel K T B1 w1 σ1 H1 fr1 h1 → h1[x.1]? = some (.nl x.2.1) →
 (x.2.2.length ≤ i → J.stop i H1) ∧ ∀ d, x.2.2[i]? = some d → J.go i H1 ∧ ∀ y H2, J.yld i H1 y H2 → ∃ w2, w1.le w2 ∧ Rel K T B1 w2 σ1 H2 fr1 h1 ∧ bO K T w2 y d
open Classical in
noncomputable def ab5 (n : Nat) (l : List D) (vs : List Nat) (g : D → M Unit) (t : M Bool) (e : M D) : List D → M (List D)
 | [] => fun fr h => if h[n]? = some (.nl l) then .ok [] fr h else .err
 | d :: ds => fun fr h => if h[n]? = some (.nl l) then ((fL vs g t e d).bind fun o => (ab5 n l vs g t e ds).bind fun r => M.ret (yq o r)) fr h else .err
noncomputable def ael (vs : List Nat) (l : M (Nat × List D × List D)) (g : D → M Unit) (t : M Bool) (e : M D) : M D := l.bind fun x => (Ma vs).bind fun _ => if x.2.2.length ≤ big then (ab5 x.1 x.2.1 vs g t e x.2.2).bind fun r => M.ret (.nl r) else M.opt none
section
variable {X : Cx} {T : Tb} {W : WX} {k : Nat} {pos pos' : Pos} {tg iter elt c e : Expr} {ifs : List Expr} {li : M (Nat × List D × List D)} {g : D → M Unit} {b : M Fl} {is : List Nat} {t : M Bool} {m me : M D} {scope : Scope} {own : List (Str × Nat)} {body : List Stmt}
end
section
variable {X : Cx} {T : Tb} {W : WX} {k : Nat} {pos : Pos} {tg iter elt : Expr} {ifs : List Expr} {lj : M (List D)} {g : D → M Unit} {is : List Nat} {t : M Bool} {me : M D} {scope : Scope} {own : List (Str × Nat)}
end
end Pk
namespace Pk
open PySem PySem.Spec L2
def keyD : D → Option Key
 | .int i => some (.inl i)
 | .str s => some (.inr s)
 | _ => none
def Dd : List D → Option (List Key)
 | [] => some []
 | d :: ds => (keyD d).bind fun k => (Dd ds).map fun ks => k :: ks
theorem aem {K : PySem.W.Frag} {T : Tb} {w : Wd} {v : V} {d : D} {k : Key} (r : bO K T w v d) (e : keyD d = some k) : v = kV k := by
 cases r with
 | int i => cases e; rfl
 | str s => cases e; rfl
 | _ => cases e
theorem WD {K : PySem.W.Frag} {T : Tb} {w : Wd} : ∀ {vs : List V} {ds : List D} {ks : List Key}, az K T w vs ds → Dd ds = some ks → vs = ks.map kV
 | _, _, _, .nil, e => by cases e; rfl
 | _, _, ks, .cons (d := d) (ds := ds) r rs, e => by
   unfold Dd at e
   cases e1 : keyD d with
   | none => rw [e1] at e; cases e
   | some k =>
     rw [e1] at e
     cases e2 : Dd ds with
     | none => rw [e2] at e; cases e
     | some r2 =>
       rw [e2] at e
       cases e
       rw [akY, aem r e1, WD rs e2]
def valD : List (List Key) → List D → List Key → Option D
 | k' :: ks, d :: ds, k => if k' = k then some d else valD ks ds k
 | _, _, _ => none
def Ig (ks : List (List Key)) (k : List Key) : Bool := ks.any fun k' => decide (k' = k)
def wV (ks : List (List Key)) (k : List Key) : List (List Key) := if Ig ks k = true then ks else ks ++ [k]
def sO {α : Type} (ks : List (List Key)) (ds : List α) (k : List Key) (v : α) : List α := if Ig ks k = true then List.zipWith (fun k' d => if k' = k then v else d) ks ds else ds ++ [v]
def Mr (ds : List D) : Option (List Key) := if ds.length ≤ big then Dd ds else none
theorem XX {ds : List D} {k : List Key} (e : Mr ds = some k) : ds.length ≤ big ∧ Dd ds = some k := by
 unfold Mr at e
 by_cases h : ds.length ≤ big
 · rw [if_pos h] at e; exact ⟨h, e⟩
 · rw [if_neg h] at e; cases e
theorem Qc {K : PySem.W.Frag} {T : Tb} {w : Wd} {k : List Key} {z : D} : ∀ {ks : List (List Key)} {vs : List V} {ds : List D}, az K T w vs ds → valD ks ds k = some z → ∃ v, valV (ks.zip vs) k = some v ∧ bO K T w v z
 | [], _, _, _, e => by cases e
 | k' :: ks, _, _, .nil, e => by cases e
 | k' :: ks, _, _, .cons (v := v) (vs := vs) r rs, e => by
   unfold valD at e
   rw [List.zip_cons_cons]
   by_cases c : k' = k
   · rw [if_pos c] at e
     cases e
     exact ⟨v, valV_pos c, r⟩
   · rw [if_neg c] at e
     obtain ⟨u, h1, h2⟩ := Qc rs e
     exact ⟨u, (valV_neg c).trans h1, h2⟩
theorem WK {k : List Key} : ∀ {ks : List (List Key)} {vs : List V}, ks.length = vs.length → ((ks.zip vs).any fun kv => decide (kv.1 = k)) = Ig ks k
 | [], _, _ => rfl
 | _ :: _, [], h => by cases h
 | k' :: ks, v :: vs, h => by
   rw [List.zip_cons_cons, List.any_cons, WK (Nat.succ.inj h)]
   rfl
theorem U5 {k : List Key} {v : V} : ∀ {ks : List (List Key)} {vs : List V}, ((ks.zip vs).map fun kv => if kv.1 = k then (kv.1, v) else kv) = ks.zip (List.zipWith (fun k' d => if k' = k then v else d) ks vs)
 | [], _ => by simp
 | _ :: _, [] => by simp
 | k' :: ks, u :: vs => by
   rw [List.zip_cons_cons, akY, List.zipWith_cons_cons, List.zip_cons_cons, U5]
   by_cases c : k' = k <;> simp [c]
theorem aaw {ks : List (List Key)} {vs : List V} {k : List Key} {v : V} (hl : ks.length = vs.length) : putK (ks.zip vs) k v = (wV ks k).zip (sO ks vs k v) := by
 unfold putK wV sO
 have e := WK (k := k) hl
 by_cases c : Ig ks k = true
 · rw [if_pos c, if_pos c]
   rw [c] at e
   rw [← U5]
   simp only [e, if_true]
 · rw [if_neg c, if_neg c]
   rw [Bool.not_eq_true] at c
   rw [c] at e
   simp only [e, Bool.false_eq_true, if_false]
   rw [List.zip_append hl]
   rfl
theorem Zi {K : PySem.W.Frag} {T : Tb} {w : Wd} {k : List Key} {v : V} {d : D} (r : bO K T w v d) {ks : List (List Key)} {vs : List V} {ds : List D} (rs : az K T w vs ds) : az K T w (sO ks vs k v) (sO ks ds k d) := by
 have z : ∀ {ks : List (List Key)} {vs : List V} {ds : List D}, az K T w vs ds → az K T w (List.zipWith (fun k' u => if k' = k then v else u) ks vs) (List.zipWith (fun k' u => if k' = k then d else u) ks ds) := by
  intro ks
  induction ks with
  | nil => intro vs ds _; exact .nil
  | cons k' ks ih =>
    intro vs ds rs
    cases rs with
    | nil => exact .nil
    | cons r1 rs =>
      rw [List.zipWith_cons_cons, List.zipWith_cons_cons]
      refine .cons ?_ (ih rs)
      by_cases c : k' = k
      · rw [if_pos c, if_pos c]; exact r
      · rw [if_neg c, if_neg c]; exact r1
 unfold sO
 by_cases c : Ig ks k = true
 · rw [if_pos c, if_pos c]; exact z rs
 · rw [if_neg c, if_neg c]; exact rs.append (.cons r .nil)
theorem acA {ks : List (List Key)} {ds : List D} {k : List Key} {d : D} (h : ks.length = ds.length) : (wV ks k).length = (sO ks ds k d).length := by
 unfold wV sO
 by_cases c : Ig ks k = true
 · rw [if_pos c, if_pos c, List.length_zipWith, ← h, Nat.min_self]
 · rw [if_neg c, if_neg c, ak3, ak3, h]
   rfl
def lC (h : Hh) (d : D) : Option (Nat × List (List Key) × List D) := match d with
 | .ref n => match h[n]? with
   | some (.dc ks ds) => some (n, ks, ds)
   | _ => none
 | _ => none
theorem X3 {h : Hh} {d : D} {n : Nat} {ks : List (List Key)} {ds : List D} (e : lC h d = some (n, ks, ds)) : d = .ref n ∧ h[n]? = some (.dc ks ds) := by
 unfold lC at e
 split at e
 · split at e
   · rename_i q; cases e; exact ⟨rfl, q⟩
   · cases e
 · cases e
def aft (h : Hh) (o : D) (ks : List D) : Option D := (lC h o).bind fun x => (Mr ks).bind fun k => valD x.2.1 x.2.2 k
def afu (h : Hh) (o : D) (ks : List D) (d : D) : Option Hh := (lC h o).bind fun x => (Mr ks).bind fun k => if x.2.1.length ≤ big then some (h.set x.1 (.dc (wV x.2.1 k) (sO x.2.1 x.2.2 k d))) else none
def Qe : M D := fun fr h => .ok (.ref h.length) fr (h ++ [.dc [] []])
def aip (mo : M D) (ms : List (M D)) : M D := mo.bind fun o => (ak ms).bind fun ks fr h => M.opt (aft h o ks) fr h
def aiq (mo : M D) (ms : List (M D)) (mv : M D) : M Fl := mv.bind fun d => mo.bind fun o => (ak ms).bind fun ks fr h => match afu h o ks d with
 | some h' => .ok .nx fr h'
 | none => .err
section
variable {X : Cx} {T : Tb} {W : WX} {k x1 : Nat} {pos tpos pos' : Pos} {o e : Expr} {es : List Expr} {mo m : M D} {ms : List (M D)}
theorem acB : aX X T W (.Dict [] [] pos) Qe := fun B w σ H fr h Q R p => eV pe_dnewT (show tDNewT σ H Q from fun q nq => by
 have R2 := (R.temp (o := .dT []) nq).to_cellO (R.own_new nq) (R.loose_new nq) upd_same (qO.dct (ks := []) rfl .nil)
 exact p ⟨w.F, w.I ++ [q]⟩ _ (.ref q) ⟨fun _ _ z => z, [q], rfl⟩ R2 (.ref (by
  rw [← R.len]
  show (w.I ++ [q])[w.I.length]? = some q
  rw [ali (Nat.le_refl _), Nat.sub_self]
  rfl)))
end
end Pk
namespace Pk
open PySem PySem.Spec L2
def ajF (K : PySem.W.Frag) (ta : TE) (f : Str) : TG := fun v σ H Q => ta σ H fun x H1 => ∃ a C dx fs, x = .ref a ∧ H1 a = some (.ins C dx fs) ∧ Cls K C ∧ NoAttr K C f ∧ fs.length < 1000 ∧ Q σ (upd H1 a (.ins C dx (putF f v fs)))
section
variable {X : Cx} {o : Expr} {f : Str} {pos : Pos} {ta : TE}
end
def ais (j : Nat) (ix : Nat → Option Nat) (d : D) : M Unit := fun fr h => match fr[j]? with
 | some (some (.ref n)) => match h[n]? with
   | some (.no c fs) => match ix c with
     | some i => match pH i d fs with
       | some fs' => .ok () fr (h.set n (.no c fs'))
       | none => .err
     | none => .err
   | _ => .err
 | _ => .err
section
variable {X : Cx} {T : Tb} {W : WX} {k kk n c : Nat} {px tpos p pos : Pos} {f : Addr} {fd : FuncData} {ps : List Str} {F : Fn} {x : Str} {e : Expr} {es : List Expr} {ma mk : M (List D)} {gD : List D → List D → List D}
structure FnC (P : Program) (w : World) (K : PySem.W.Frag) (mg : Str → Option Value) (base : Heap) (T : Tb) (k c : Nat) (f : Addr) (fd : FuncData) (ps : List Str) (F : Fn) : Prop where
 ok : FnOk P w K mg base (L2N.CX P w) k f fd ps (spF K T ps.length F)
 made : Mk K (T.cad c) f
def Tw (fr : Fr) (n : Nat) : R D → R D
 | .ok .non _ h => .ok (.ref n) fr h
 | .ok _ _ _ => .err
 | .exc x _ h => .exc x fr h
 | .err => .err
def Gy (c n m : Nat) (F : Fn) (gD : List D → List D → List D) (ma mk : M (List D)) : M D := ma.bind fun ds => mk.bind fun es fr h => if ds.length = n ∧ es.length = m then Tw fr h.length (F (.ref h.length :: gD ds es) (h ++ [.no c []])) else .err
theorem Zj {B : Bs} {w : Wd} {σ : L2.St} {H : Hp} {fr : Fr} {h : Hh} {m : Nat} {vs zs : List V} {ds es : List D} {Q : VK} {gV gW : List V → List V → List V} (hv : ∀ x vs zs, vs.length = n → zs.length = m → gV (x :: vs) zs = x :: gW vs zs)
 (hg : ∀ (w : Wd) (vs zs : List V) (ds es : List D), az X.K T w vs ds → az X.K T w zs es → ds.length = n → es.length = m → az X.K T w (gW vs zs) (gD ds es) ∧ (gD ds es).length + 1 = ps.length)
 (R : Rel X.K T B w σ H fr h) (rs : az X.K T w vs ds) (rz : az X.K T w zs es) (p : aZ X.K T B W (vV X.K T B σ) w σ (if ds.length = n ∧ es.length = m then Tw fr h.length (F (.ref h.length :: gD ds es) (h ++ [.no c []])) else .err) Q) :
 vs.length = n ∧ zs.length = m ∧ ∀ x dx, H x = none → H dx = none → dx ≠ x → spF X.K T ps.length F (gV (.ref x :: vs) zs) (upd (upd H dx (.own x)) x (.ins (T.cad c) dx [])) (fun v H2 => v = .non ∧ Q (.ref x) H2) (fun c d H' => W c d σ H') := by
 by_cases hl : ds.length = n ∧ es.length = m
 · rw [if_pos hl] at p
   obtain ⟨r2, l2⟩ := hg w vs zs ds es rs rz hl.1 hl.2
   refine ⟨rs.length.trans hl.1, rz.length.trans hl.2, fun x dx nx nd ne => ?_⟩
   rw [hv _ _ _ (rs.length.trans hl.1) (rz.length.trans hl.2)]
   have R1 : Rel X.K T B w σ (upd H dx (.own x)) fr h := R.temp nd
   have nx1 : (upd H dx (.own x)) x = none := by rw [upd_ne (Ne.symm ne)]; exact nx
   have co : qO X.K T w x (.ins (T.cad c) dx []) (.no c []) := by
    have z : qO X.K T w x (.ins (T.cad c) dx ((T.fld c).zip [])) (.no c []) := .obj .nil
    rw [List.zip_nil_right] at z
    exact z
   have R2 := (R1.temp (o := .ins (T.cad c) dx []) nx1).to_cellO (R1.own_new nx1) (R1.loose_new nx1) upd_same co
   have le : w.le ⟨w.F, w.I ++ [x]⟩ := ⟨fun _ _ z => z, [x], rfl⟩
   have rx : bO X.K T ⟨w.F, w.I ++ [x]⟩ (.ref x) (.ref h.length) := .ref (by
    rw [← R.len]
    show (w.I ++ [x])[w.I.length]? = some x
    rw [ali (Nat.le_refl _), Nat.sub_self]
    rfl)
   refine Wv (B := B) (σ := σ) (fr := fr) (W := W) R2 (.cons rx (r2.mono le)) (by rw [akU]; exact l2) ?_
   revert p
   cases F (.ref h.length :: gD ds es) (h ++ [.no c []]) with
   | ok d fr' h' =>
     cases d with
     | non =>
       intro p w' H' v l R' rv
       have ev : v = .non := by
        rcases rv with rv | ⟨q, o, _, _, _, _, rd⟩
        · cases rv; rfl
        · cases rd
       exact ⟨ev, p w' H' (.ref x) (Wd.le_trans le l) R' (rx.mono l)⟩
     | _ => exact fun p => p.elim
   | exc y fr' h' => exact fun p w' H' c dd l R' z => p w' H' c dd (Wd.le_trans le l) R' z
   | err => exact fun p => p.elim
 · rw [if_neg hl] at p
   exact p.elim
theorem aax (C : Cq X T W k) (F0 : FnC X.prog X.w X.K X.mg X.base T kk c f fd ps F) (hk : kk + 1 ≤ k) (bn : BnI X.K T fd ps n [] gD) (hm : X.mg x = some (.ref (T.cad c))) (sa : JT X T W (e :: es) ma) (hg : Gl X x := by rfl) (hdb : (x == ("__debug__" : Str)) = false := by decide)
 (he : starEach (e :: es) X.env = (false, eval e X.env) :: starEach es X.env := by exact eE rfl) (hpl : (backTo pos (starEach es X.env)).any (·.1) = false := by rfl) : aX X T W (.Call (.Name x p) (e :: es) [] pos) (Gy c n 0 F gD ma (ak [])) := fun B w σ H fr h Q R pp => WE.mk <| fun pins s I => by
 obtain ⟨g, gV, gW, hb, hv, hgD⟩ := bn.ex
 refine wpAny_Call_Name_kw (ld_glob I hg hm ?_ hdb)
 refine PySem.W.callWith_K (h₀ := X.base) I.ok.mod.kin F0.made.kp (thn ((sa B w σ H fr h _ R (aZ.bind (VR := vA X.K T B σ) pp fun ds fr1 h1 w1 H1 vs e1 l1 r1 rs p1 => Zj (c := c) hv hgD r1 rs .nil p1)).go pos pins s I) fun us s1 ⟨vs, H1, I1, r, q⟩ => ⟨I1.kIn, ?_⟩) he hpl
 exact run_mk (ws := []) F0.made F0.ok (C.room.mono hk) hb C.takes I1 r .nil q.1 rfl q.2.2
end
def ait (h : Hh) (d e : D) : Option D := match d, e with
 | .fl a, .ref n => match h[n]? with
   | some (.nl b) => if a.length + b.length ≤ big then some (.nl (a ++ b)) else none
   | _ => none
 | _, _ => none
section
variable {X : Cx} {T : Tb} {W : WX} {pos : Pos} {a b : Expr} {ma mb : M D}
end
end Pk
namespace Pk
open PySem PySem.Spec L2
def uG (m : M D) : M (Nat × List D × List D) := m.bind fun d fr h => M.opt ((pJ h d).map fun x => (x.1, x.2, eG 0 x.2)) fr h
section
variable {X : Cx} {T : Tb} {W : WX} {p pos tpos : Pos} {kk : Nat} {elts : List Expr} {a : Expr} {ma : M D}
theorem Od (s : aX X T W a ma) (hm : X.mg "enumerate" = none) (hg : Gl X "enumerate" := by rfl) (hs : starEach [a] X.env = [(false, eval a X.env)] := by rfl) :
 jA (WI X (.Tuple elts kk tpos) (.Call (.Name "enumerate" p) [a] [] pos)) X.K T W vJC (uG ma) := fun B w σ H fr h Q r p =>
 LQ (Zf hg hm (pa_cons bF pa_nil (hs.trans (by rfl))) hs) (s B w σ H fr h _ r (aZ.bind (VR := vV X.K T B σ) p fun d fr1 h1 w1 H1 x e1 l1 r1 rx p1 => by
  cases q : pJ h1 d with
  | none => rw [q] at p1; exact p1.elim
  | some z =>
    obtain ⟨n, l⟩ := z
    rw [q] at p1
    obtain ⟨rfl, hc⟩ := Ie q
    cases rx with
    | @ref a n1 s1 =>
      obtain ⟨vs, sq, rv⟩ := yt r1 s1 hc
      refine ⟨a, vs, rfl, .inl ⟨sq, p1 w1 H1 (Ite X.K a) (Wd.le_refl _) r1 fun i w3 σ3 H3 fr3 h3 l3 r4 hc3 => ?_⟩⟩
      obtain ⟨vs3, sq3, rv3⟩ := yt r4 (Tv l3 s1) hc3
      refine ⟨fun hi => ⟨vs3, sq3, by rw [rv3.length, ← wM 0 l]; exact hi⟩, fun d' hd => ?_⟩
      obtain ⟨d1, hd1, rfl⟩ := CW 0 l i d' hd
      obtain ⟨v, hv, rv⟩ := rv3.get hd1
      refine ⟨⟨vs3, v, sq3, hv⟩, fun y H4 hy => ?_⟩
      obtain ⟨Tp, x, rfl, nT, rfl, hx⟩ := hy
      have z := hx vs3 sq3
      rw [hv] at z
      cases z
      have lw := Wd.le_add (o := .tup [.int (i : Nat), v]) (r4.nP nT).1
      rw [Nat.zero_add]
      exact ⟨w3.add Tp (.tup [.int (i : Nat), v]), lw, r4.laid nT, .tup (SqT.of (by show upd w3.F Tp _ Tp = _; rw [upd_same])) (.cons (.int _) (.cons (rv.mono lw) .nil))⟩))
end
end Pk
namespace Pk
open PySem PySem.Spec L2
def agG (j : Nat) (ix : Nat → Option Nat) (f : Int → Int → Int) (m : M D) : M Fl := fun fr h => match fr[j]? with
 | some (some (.ref n)) => match h[n]? with
   | some (.no c fs) => match ix c with
     | some i => match fs[i]? with
       | some (.int a) => (m.bind fun d fr h => match d with
         | .int b => match h[n]? with
           | some (.no c' fs') => if c' = c then match pH i (.int (f a b)) fs' with
            | some fs'' => .ok .nx fr (h.set n (.no c fs''))
            | none => .err
            else .err
           | _ => .err
         | _ => .err) fr h
       | _ => .err
     | none => .err
   | _ => .err
 | _ => .err
section
variable {X : Cx} {T : Tb} {W : WX} {k : Nat} {px pos tpos apos cpos : Pos} {e o : Expr} {m mo : M D}
def agn (d : D) (l : List D) : Option (List D) := match d with
 | .fl r => if l.length + r.length ≤ big then some (l ++ r) else none
 | _ => none
def aiu (i : Nat) (m : M D) : M D := (cQ i qw).bind fun _ => m.bind fun d => (cQ i (agn d)).bind fun _ => M.ret .non
end
def WN (i : Nat) (f : Hh → D → D → Option Bool) (m mt : M D) (b : M Fl) : Nat → M Fl
 | 0 => fun _ _ => .err
 | n + 1 => m.bind fun d fr h => (mt.bind fun t fr h => match f h d t with
   | some true => (match b fr h with
     | .ok .nx fr h => WN i f m mt b n fr h
     | .ok .ct fr h => WN i f m mt b n fr h
     | .ok .brk fr h => .ok .nx fr h
     | .ok (.rt d) fr h => .ok (.rt d) fr h
     | .exc x fr h => .exc x fr h
     | .err => .err)
   | some false => .ok .nx fr h
   | none => .err) (fr.set i (some d)) h
section
variable {X : Cx} {T : Tb} {W : WX} {k : Nat} {pos px npos cpos : Pos} {e t : Expr} {m mt : M D} {body : List Stmt} {b : M Fl} {x : Str}
end
end Pk
namespace Pk
open PySem PySem.Spec L2
section
variable {P : Program} {w : World} {K : PySem.W.Frag} {mg : Str → Option Value} {base : Heap} {T : Tb} {k : Nat} {x qual : Str} {params : Arguments} {body : List Stmt} {scope : Scope} {dvs : List V} {kws : List (Str × V)} {f : Addr} {fd : FuncData} {N ps : List Str} {p0 pv : Str}
end
def spM (K : PySem.W.Frag) (T : Tb) (F : Fn) : Sp := fun vs H Q E => ∃ ws rest, vs = ws ++ rest ∧ ws.length = 1 ∧ rest.length ≤ sizeLine ∧ ∀ p, H p = Option.none → spF K T 2 F (ws ++ [V.ref p]) (upd H p (.tup rest)) Q E
structure FnM (P : Program) (w : World) (K : PySem.W.Frag) (mg : Str → Option Value) (base : Heap) (T : Tb) (k : Nat) (f : Addr) (F : Fn) : Prop where
 run : FnR P w K mg base (L2N.CX P w) k f (spM K T F)
section
variable {P : Program} {w : World} {K : PySem.W.Frag} {mg : Str → Option Value} {base : Heap} {T : Tb} {k : Nat} {x qual : Str} {params : Arguments} {body : List Stmt} {scope : Scope} {f : Addr} {fd : FuncData} {N : List Str} {p0 pv : Str}
end
def ag9 (mt : Nat → Option Fn) (mo : M D) (ma : M (List D)) : M D := mo.bind fun o fr h => match fnOf mt h o with
 | some F => (ma.bind fun ds fr h => if ds.length ≤ big then qC fr (F [o, .tup ds] h) else .err) fr h
 | none => .err
def ajG (m : M D) (ma : M (List D)) : M (List D) := m.bind fun d fr h => match d.its h with
 | some l => (ma.bind fun r => M.ret (l ++ r)) fr h
 | none => .err
def aiv (m : M D) (ma : M (List D)) : M (List D) := m.bind fun d => ma.bind fun r => M.ret (d :: r)
structure aha (X : Cx) (T : Tb) (k : Nat) (m : Str) (mt : Nat → Option Fn) : Prop where
 ex : ∀ c F, mt c = some F → ∃ (kk : Nat) (f : Addr), Cls X.K (T.cad c) ∧ BMeth X.K (T.cad c) m f ∧ FnM X.prog X.w X.K X.mg X.base T kk f F ∧ m ∉ T.fld c ∧ kk ≤ k
section
variable {X : Cx} {T : Tb} {W : WX} {k kk : Nat} {f : Addr} {F : Fn} {m : Str} {p sp_ pos apos : Pos} {e o : Expr} {es : List Expr} {mo me : M D} {ma : M (List D)} {mt : Nat → Option Fn}
end
def bmX (K : PySem.W.Frag) (C : Addr) (m : Str) : Bool := He.eqO (PySem.W.specialIn K (.ref (He.ma K C m)) "__get__") (some (some (.builtin "function.__get__"))) && (decide (PySem.W.takesIn K (.ref (He.ma K C m)) = some false) && (decide (PySem.W.copiedNames.contains m = false) && PySem.W.fnIn K (He.ma K C m)))
end Pk
namespace Pk
open PySem PySem.Spec PyProof.Rows L2 GenW
section
variable {prog : Program} {w : World} {A : Around} {R : GenEnd} {Y : Protocol} {n : Nat} {s₀ : Shared} {c : Code} {fs : List Frame} {s : Shared} {env : Env} {K : Flow → Sem PySem.Fin} {J : Value → Sem PySem.Fin} {gd : Bool → Bool} {lv : List Value → List Value}
abbrev aiw (env : Env) (e : Value) : Sem PySem.Fin := (do noteFrame e env; theTreesLotGoes e : Sem Unit).wrap (fun _ => .raise e) .raise id id
abbrev turned (target : Expr) (it : Value) (body : List Stmt) (env : Env) : Flow → Sem PySem.Fin := fun f => match f with
 | .next | .cont => .pure (.again (.forLoop target it body [] env))
 | .brk => .pure (.done .next)
 | .ret v => .pure (.done (.ret v))
end
end Pk
namespace Pk
open PySem PySem.Spec PyProof.Rows L2 GenW
section
variable {M : Model} {A : Around} {R : GenEnd} {Y : Protocol} {n : Nat} {s₀ : Shared} {c : Code} {fs : List Frame} {s : Shared} {env : Env} {K : Flow → Sem PySem.Fin} {J : Value → Sem PySem.Fin} {gd : Bool → Bool} {lv : List Value → List Value}
end
section
variable {X : Cx} {tg : Expr}
def aix (wi : TI) (g : TG) (tb : TGn) : TGn := fun D ys σ H => wi σ H fun J H1 => ∃ W : Nat → Nat → List V → L2.St → Hp → Prop, (∃ m, W 0 m ys σ H1) ∧ ∀ i m ys σ H, W i m ys σ H →
 (J.stop i H ∧ D.nx ys σ H) ∨ (J.go i H ∧ ∃ N : List V → L2.St → Hp → Prop, (∀ ys' σ' H', N ys' σ' H' → ∃ m', m' < m ∧ W (i + 1) m' ys' σ' H') ∧ ∀ x H', J.yld i H x H' → g x σ H' fun σ2 H2 => tb { D with nx := N, ct := N, bk := D.nx } ys σ2 H2)
end
end Pk
namespace Pk
open PySem PySem.Spec PyProof.Rows L2
def aiy (ma : M (List D)) : M D := ma.bind fun ds => M.opt (if ds.length ≤ big then some (.tup ds) else none)
section
variable {X : Cx} {T : Tb} {W : WX} {es : List Expr} {ma : M (List D)} {pos : Pos}
end
def aen (vs vs1 : List Nat) (g : D → M Unit) (t : M Bool) (l1 : M (List D)) (g1 : D → M Unit) (t1 : M Bool) (e : M D) (acc : List D) (d : D) : M (List D) := fun fr h => match g d fr h with
 | .ok _ fr h => match t fr h with
   | .ok true fr h => match l1 fr h with
     | .ok ds1 fr h => if acc.length + ds1.length ≤ big then (match iT vs1 g1 t1 e ds1 (fQ fr vs1) h with
       | .ok r fr h => .ok (acc ++ r) (fQ fr vs) h
       | _ => .err) else .err
     | _ => .err
   | .ok false fr h => .ok acc (fQ fr vs) h
   | _ => .err
 | _ => .err
def ab6 (vs vs1 : List Nat) (g : D → M Unit) (t : M Bool) (l1 : M (List D)) (g1 : D → M Unit) (t1 : M Bool) (e : M D) : List D → List D → M (List D)
 | acc, [] => M.ret acc
 | acc, d :: ds => (aen vs vs1 g t l1 g1 t1 e acc d).bind fun acc' => ab6 vs vs1 g t l1 g1 t1 e acc' ds
def ajH (vs vs1 : List Nat) (l : M (List D)) (g : D → M Unit) (t : M Bool) (l1 : M (List D)) (g1 : D → M Unit) (t1 : M Bool) (e : M D) : M D := l.bind fun ds => (Ma vs).bind fun _ => (ab6 vs vs1 g t l1 g1 t1 e [] ds).bind fun r => M.ret (.nl r)
section
variable {X : Cx} {T : Tb} {W : WX} {k : Nat} {pos pos' : Pos} {tg iter elt tg1 iter1 : Expr} {ifs ifs1 : List Expr} {li l1 : M (List D)} {g g1 : D → M Unit} {is is1 vs1 : List Nat} {t t1 : M Bool} {me : M D} {scope : Scope} {own : List (Str × Nat)}
def IB (X : Cx) (scope : Scope) (tg iter : Expr) : TI := fun σ H R => ∀ (s : Shared) (H0 : Hp) (C : Addr) (cl : List (Str × Addr)) (fp : List Addr), WI (X.blk s H0 scope (compEnvC scope cl C X.env) fp) tg iter σ H R
end
end Pk
namespace Pk
open PySem PySem.Spec PyProof.Rows L2 GenW
structure WGS (X : Cx) (st : Stmt) (D : GEnds) (ys : List V) (σ : L2.St) (H : Hp) : Prop where
 go : ∀ (A : Around) (S : Addr) (ip : List (Addr × Obj)) (R : GenEnd) (n : Nat) (s₀ : Shared) (c : Code) (fs : List Frame) (K : Flow → Sem PySem.Fin) (J : Value → Sem PySem.Fin) (gd : Bool → Bool) (lv : List Value → List Value) (s : Shared),
  GC X S ip A c fs gd → n + ys.length = sizeLine → GK X S ip A R c fs K J D → GI X S ip ys σ H s →
  Seg (model X.prog X.w) A R (GY X S) n s₀ c ((exec st X.env).wrap K J gd lv) fs s
structure ago (X : Cx) (st : List Stmt) (D : GEnds) (ys : List V) (σ : L2.St) (H : Hp) : Prop where
 go : ∀ (A : Around) (S : Addr) (ip : List (Addr × Obj)) (R : GenEnd) (n : Nat) (s₀ : Shared) (c : Code) (fs : List Frame) (K : Flow → Sem PySem.Fin) (J : Value → Sem PySem.Fin) (gd : Bool → Bool) (lv : List Value → List Value) (s : Shared),
  GC X S ip A c fs gd → n + ys.length = sizeLine → GK X S ip A R c fs K J D → GI X S ip ys σ H s →
  Seg (model X.prog X.w) A R (GY X S) n s₀ c ((execs st X.env).wrap K J gd lv) fs s
section
variable {X : Cx} {st : Stmt} {sts : List Stmt} {D : GEnds} {ys : List V} {σ : L2.St} {H : Hp}
end
def Qg (K : PySem.W.Frag) (T : Tb) (B : Bs) (w : Wd) (r : R (List D)) (E : GEnds) : Prop := match r with
 | .ok ds fr h => ∀ w' σ' H' vs, w.le w' → Rel K T B w' σ' H' fr h → az K T w' vs ds → E.nx vs σ' H'
 | _ => False
def aiz (X : Cx) (T : Tb) (st : Stmt) (m : List D → M (List D)) : Prop := ∀ (B : Bs) (w : Wd) (σ : L2.St) (H : Hp) (fr : Fr) (h : Hh) (E : GEnds) (vs : List V) (ds : List D), Rel X.K T B w σ H fr h → az X.K T w vs ds → Qg X.K T B w (m ds fr h) E → WGS X st E vs σ H
def aeo (X : Cx) (T : Tb) (sts : List Stmt) (m : List D → M (List D)) : Prop := ∀ (B : Bs) (w : Wd) (σ : L2.St) (H : Hp) (fr : Fr) (h : Hh) (E : GEnds) (vs : List V) (ds : List D), Rel X.K T B w σ H fr h → az X.K T w vs ds → Qg X.K T B w (m ds fr h) E → ago X sts E vs σ H
def ahc (m : M Fl) (ds : List D) : M (List D) := fun fr h => match m fr h with
 | .ok .nx fr h => .ok ds fr h
 | _ => .err
def gNil (ds : List D) : M (List D) := M.ret ds
def aiA (m n : List D → M (List D)) (ds : List D) : M (List D) := (m ds).bind n
def ahd (me : M D) (ds : List D) : M (List D) := me.bind fun d => if ds.length < big then M.ret (ds ++ [d]) else fun _ _ => .err
def aep (g : D → M Unit) (b : List D → M (List D)) : List D → List D → M (List D)
 | [], out => M.ret out
 | d :: ds, out => (g d).bind fun _ => (b out).bind fun out' => aep g b ds out'
def aiB (l : M (List D)) (g : D → M Unit) (b : List D → M (List D)) (out : List D) : M (List D) := l.bind fun ds => aep g b ds out
section
variable {X : Cx} {T : Tb} {W : WX} {k : Nat} {st : Stmt} {sts body : List Stmt} {m n : List D → M (List D)} {b : List D → M (List D)} {pos yp : Pos} {e tg iter : Expr} {me : M D} {li : M (List D)} {g : D → M Unit} {is : List Nat}
theorem Qg.le {K : PySem.W.Frag} {T : Tb} {B : Bs} {w w' : Wd} {r : R (List D)} {E : GEnds} (l : w.le w') (p : Qg K T B w r E) : Qg K T B w' r E := by
 cases r with
 | ok ds fr h => exact fun w2 σ' H' vs l2 r rs => p w2 σ' H' vs (Wd.le_trans l l2) r rs
 | exc _ _ _ => exact p
 | err => exact p
end
end Pk
namespace Pk
open PySem PySem.Spec PyProof.Rows L2 GenW
abbrev U6 := List D → Hh → R (List D)
def ajI (n : Nat) (m : List D → M (List D)) : U6 := fun ds h => match m [] (startF n ds) h with
 | .ok ys _ h => .ok ys [] h
 | _ => .err
def agp (K : PySem.W.Frag) (T : Tb) (n : Nat) (F : U6) : SpG := fun vs H Q _ => ∃ w h ds, Rel K T (Bs.of w H) w [] H [] h ∧ az K T w vs ds ∧ ds.length = n ∧ match F ds h with
 | .ok ys _ h' => ∀ w' H' vs', w.le w' → Rel K T (Bs.of w H) w' [] H' [] h' → az K T w' vs' ys → Q vs' H'
 | _ => False
def aiC (P : Program) (w : World) (K : PySem.W.Frag) (mg : Str → Option Value) (base : Heap) (T : Tb) (k : Nat) (N : List Str) (qual : Str) (scope : Scope) (body : List Stmt) (m : List D → M (List D)) : Prop :=
 ∀ (f : Addr) (cdv : Value) (A : Around) (outer : List Env) (s : Shared) (H : Hp) (E : XK) (pn : List (Addr × Obj)), Cq (gcxOf P w K mg base N qual scope f cdv A outer s H E pn) T (WX.up E) k → aeo (gcxOf P w K mg base N qual scope f cdv A outer s H E pn) T body m
section
variable {P : Program} {w : World} {K : PySem.W.Frag} {mg : Str → Option Value} {base : Heap} {T : Tb} {k : Nat} {name qual : Str} {params : Arguments} {body : List Stmt} {scope : Scope} {f : Addr} {N ps : List Str} {dV kV doc pm cdv ct oc : Value} {an od : Option Addr} {osl : Array (Option Value)}
end
end Pk
namespace Pk
open PySem PySem.Spec PyProof.Rows L2 GenW
def afv (mt : Nat → Option U6) (h : Hh) (o : D) : Option U6 := match o.ins h with
 | some (c, _) => mt c
 | none => none
def ahe (mt : Nat → Option U6) (mo : M D) : M D := mo.bind fun o fr h => match afv mt h o with
 | some F => match F [o] h with
   | .ok ys _ h => .ok (.nl ys) fr h
   | _ => .err
 | none => .err
structure ahf (X : Cx) (T : Tb) (kk : Nat) (m : Str) (mt : Nat → Option U6) : Prop where
 ex : ∀ c F, mt c = some F → ∃ (f : Addr) (fd : FuncData) (ps : List Str), Cls X.K (T.cad c) ∧ Meth X.K (T.cad c) m f ∧ GFn X.prog X.w X.K X.mg X.base kk f fd ps (agp X.K T 1 F) ∧ Binds X.K fd ps [] ∧ m ∉ T.fld c
def WPG (X : Cx) (k : Nat) (e : Expr) (E : XK) : TGen := fun σ H cont => ∀ pins s, Inv X pins σ H s → wpAny (model X.prog X.w) X.A (eval e X.env)
    (fun u s' => ∃ H1 sc ex, Inv X pins σ H1 sc ∧ ExOk X pins ex ∧ GMade X.prog X.w k X.stack H1 sc ex cont E u s') X.xe s
section
variable {X : Cx} {T : Tb} {W : WX} {k kk : Nat} {m nm : Str} {p pos pos' apos : Pos} {o e : Expr} {mo : M D} {mt : Nat → Option U6} {E : XK}
end
section
variable {P : Program} {w : World} {K : PySem.W.Frag} {mg : Str → Option Value} {base : Heap} {T : Tb} {k : Nat} {x qual : Str} {params : Arguments} {body : List Stmt} {scope : Scope} {f : Addr} {fd : FuncData} {N ps : List Str} {dvs : List V} {kws : List (Str × V)}
end
end Pk
namespace L2
open PySem PySem.Spec PyProof.Rows
def Ky (K : PySem.W.Frag) : Bool → Hp → Addr → List V → Prop
 | true, H, a, xs => SqT K H a xs
 | false, H, a, xs => SqL K H a xs
def Du : Bool → Heap → Addr → Addr → Nat → Prop
 | true, h, it, a, i => h.IsTupleIter it a i
 | false, h, it, a, i => h.IsListIter it a i
def WP : Bool → Heap → Addr → Array Value → Prop
 | true, h, a, xs => h.IsTuple a xs
 | false, h, a, xs => h.IsList a xs
def itOb : Bool → Addr → Obj
 | true, t => { cls := .type "tuple_iterator", data := .fields #[.ref t, .int 0 0] }
 | false, t => { cls := .type "list_iterator", data := .fields #[.ref t, .int 0 0] }
theorem U7 {prog : Program} {w : World} {A : Around} (hA : A.handled = none) (k : Bool) (it t : Addr) (ne : t ≠ it) (items : Array Value) : Draws prog w A it [it, t] items.size (fun i v => items[i]? = some v) fun i h => Du k h it t i ∧ WP k h t items := by
 cases k
 · exact Draws.list hA it t ne items
 · exact Draws.tuple hA it t ne items
theorem WQ (k : Bool) (t : Addr) (items : Array Value) : Begins (.ref t) (itOb k t) fun h => WP k h t items := by
 cases k
 · exact begins_list t items
 · exact begins_tuple t items
theorem WR {k : Bool} {h : Heap} {it a : Addr} (e : h.get? it = some (itOb k a)) : Du k h it a 0 := by
 cases k
 · exact ⟨_, e, rfl, rfl⟩
 · exact ⟨_, e, rfl, rfl⟩
theorem Gz {k : Bool} {h h' : Heap} {it a : Addr} {i : Nat} (e : Du k h it a i) (q : ∀ o, h.get? it = some o → h'.get? it = some o) : Du k h' it a i := by
 cases k
 · exact Heap.IsListIter.at (h := h) e q
 · exact Heap.IsTupleIter.at (h := h) e q
theorem Ba {X : Cx} {pins : List (Addr × Obj)} {σ : St} {H : Hp} {s : Shared} (I : L2.Inv X pins σ H s) {k : Bool} {a : Addr} {xs : List V} (h : Ky X.K k H a xs) : ∃ its : List Value, Vals xs its ∧ WP k s.heap a its.toArray := by
 cases k
 · obtain ⟨its, rv, pl, _⟩ := I.list h
   exact ⟨its, rv, pl.isList⟩
 · obtain ⟨its, rv, p, _⟩ := I.tuple h
   exact ⟨its, rv, p⟩
theorem WY {X : Cx} {pins : List (Addr × Obj)} {σ : St} {H : Hp} {s : Shared} (I : L2.Inv X pins σ H s) {k : Bool} {a : Addr} {xs ys : List V} (h : Ky X.K k H a xs) (h2 : Ky X.K k H a ys) : xs = ys := by
 cases k
 · exact I.list_inj h h2
 · exact I.tuple_inj h h2
theorem Zk {prog : Program} {w : World} {A : Around} (hA : A.handled = none) (k : Bool) (it t : Addr) (ne : t ≠ it) (items : Array Value) {i : Nat} {h : Heap} (h1 : Du k h it t i) (h2 : WP k h t items) : ∃ n Pv Sv, Draws prog w A it [it, t] n Pv Sv ∧ Sv i h ∧ i ≤ n ∧ (items.size ≤ i → i = n) := by
 by_cases hi : items.size ≤ i
 · refine ⟨i, fun _ _ => True, fun j h => j = i ∧ Du k h it t j ∧ WP k h t items, ?_, ⟨rfl, h1, h2⟩, Nat.le_refl _, fun _ => rfl⟩
   have hn : items[i]? = none := by simp; omega
   cases k
   · exact ⟨fun _ _ st => (let ⟨_, ⟨o, ho, _⟩, _⟩ := st; ⟨o, ho⟩), fun _ _ _ st hk => ⟨st.1, Gz st.2.1 fun o e => hk it (by simp) o e, st.2.2.at fun o e => hk t (by simp) o e⟩, fun j s Q E hj st _ => absurd st.1 (Nat.ne_of_lt hj), fun s Q E st hE => PySem.wpAny_nextOf_list_end hA st.2.1 st.2.2 hn hE⟩
   · exact ⟨fun _ _ st => (let ⟨_, ⟨o, ho, _⟩, _⟩ := st; ⟨o, ho⟩), fun _ _ _ st hk => ⟨st.1, Gz st.2.1 fun o e => hk it (by simp) o e, st.2.2.at fun o e => hk t (by simp) o e⟩, fun j s Q E hj st _ => absurd st.1 (Nat.ne_of_lt hj), fun s Q E st hE => PySem.wpAny_nextOf_tuple_end hA st.2.1 st.2.2 hn hE⟩
 · exact ⟨items.size, _, _, U7 hA k it t ne items, ⟨h1, h2⟩, by omega, fun z => absurd z hi⟩
theorem Qh {k : Bool} {h : Heap} {it a : Addr} {i : Nat} {items : Array Value} (h1 : Du k h it a i) (p : WP k h a items) : a ≠ it := fun q => by
 cases k
 · obtain ⟨o, ho, c, _⟩ := id h1
   obtain ⟨o2, ho2, c2, _⟩ := id p
   rw [q, ho] at ho2
   cases ho2
   rw [c] at c2
   exact absurd c2 (by decide)
 · obtain ⟨o, ho, c, _⟩ := id h1
   obtain ⟨o2, ho2, c2, _⟩ := id p
   rw [q, ho] at ho2
   cases ho2
   rw [c] at c2
   exact absurd c2 (by decide)
def aay (K : PySem.W.Frag) (k1 k2 : Bool) (a b : Addr) : It :=
 ⟨fun i H => ∃ xs ys x y, Ky K k1 H a xs ∧ Ky K k2 H b ys ∧ xs[i]? = some x ∧ ys[i]? = some y,
  fun i H v H' => ∃ T x y, v = V.ref T ∧ H T = none ∧ H' = upd H T (.tup [x, y]) ∧ (∀ xs, Ky K k1 H a xs → xs[i]? = some x) ∧ ∀ ys, Ky K k2 H b ys → ys[i]? = some y,
  fun i H => ∃ xs ys, Ky K k1 H a xs ∧ Ky K k2 H b ys ∧ (xs.length ≤ i ∨ ys.length ≤ i)⟩
theorem Zm {P : Program} {w : World} {K : PySem.W.Frag} {elts : List Expr} {kk : Nat} {tpos : Pos} {k1 k2 : Bool} {a b z TI TO i1 i2 : Addr} (D : ZipSep2 z TI TO i1 i2 [i1, a] [i2, b]) :
 Turn P w K (.Tuple elts kk tpos) (aay K k1 k2 a b) [z, TI, TO, i1, i2] z fun i h =>
  IsZip h z TI TO .none ∧ IsTupOf2 h TI (.ref i1) (.ref i2) ∧ (∃ x y, IsTupOf2 h TO x y) ∧ Du k1 h i1 a i ∧ Du k2 h i2 b i where
 mem := by simp
 obj := fun i h st c hc => by
  obtain ⟨hz, hTI, ⟨x, y, hTO⟩, h1, h2⟩ := st
  have e : c = z ∨ c = TI ∨ c = TO ∨ c = i1 ∨ c = i2 := by simpa using hc
  have key : ∀ (k : Bool) (it a : Addr), Du k h it a i → ∃ o, h.get? it = some o ∧ ∀ v, o.data ≠ Data.cell v := fun k it a q => by
   cases k
   · obtain ⟨o, ho, _, hd⟩ := q
     exact ⟨o, ho, fun v q => by rw [hd] at q; cases q⟩
   · obtain ⟨o, ho, _, hd⟩ := q
     exact ⟨o, ho, fun v q => by rw [hd] at q; cases q⟩
  rcases e with rfl | rfl | rfl | rfl | rfl
  · exact ⟨_, hz, fun v q => nomatch q⟩
  · exact ⟨_, hTI, fun v q => nomatch q⟩
  · exact ⟨_, hTO, fun v q => nomatch q⟩
  · exact key _ _ _ h1
  · exact key _ _ _ h2
 keep := fun i h h' st k => by
  obtain ⟨hz, hTI, ⟨x, y, hTO⟩, h1, h2⟩ := st
  exact ⟨k z (by simp) _ hz, k TI (by simp) _ hTI, ⟨x, y, k TO (by simp) _ hTO⟩, Gz h1 fun o q => k i1 (by simp) o q, Gz h2 fun o q => k i2 (by simp) o q⟩
 item := by
  intro X hP hw hK hc i pins s σ H E I hf st hg
  subst hP hw hK
  obtain ⟨hz, hTI, ⟨x0, y0, hTO⟩, h1, h2⟩ := st
  obtain ⟨xs, ys, x, y, hqx, hqy, hx, hy⟩ := hg
  obtain ⟨its, rv, p⟩ := Ba I hqx
  obtain ⟨its2, rv2, p2⟩ := Ba I hqy
  obtain ⟨u, hu, ru⟩ := rv.get hx
  obtain ⟨u2, hu2, ru2⟩ := rv2.get hy
  have l1 : i < its.toArray.size := by
   have := (List.getElem?_eq_some_iff.mp hu).1
   simpa using this
  have l2 : i < its2.toArray.size := by
   have := (List.getElem?_eq_some_iff.mp hu2).1
   simpa using this
  have ea := Qh h1 p
  have eb := Qh h2 p2
  have hA : X.A.in1.handled = none := I.ok.hd hc
  refine wpAny_pyNext_zipD2_item D (U7 hA k1 i1 a ea its.toArray) (U7 hA k2 i2 b eb its2.toArray) hz hTI hTO ⟨h1, p⟩ ⟨h2, p2⟩ l1 l2 fun v1 v2 h' tk q1 q2 hz' hTO' s1 s2 hT hsz hk => ?_
  obtain rfl : u = v1 := by
   have e1 : its[i]? = some v1 := by simpa using q1
   rw [hu] at e1
   exact Option.some.inj e1
  obtain rfl : u2 = v2 := by
   have e1 : its2[i]? = some v2 := by simpa using q2
   rw [hu2] at e1
   exact Option.some.inj e1
  have zl : z < s.heap.objs.size := Heap.lt_size hz
  have TIl : TI < s.heap.objs.size := Heap.lt_size hTI
  have TOl : TO < s.heap.objs.size := Heap.lt_size hTO
  have il1 : i1 < s.heap.objs.size := by
   cases k1
   · obtain ⟨_, q, _⟩ := h1
     exact Heap.lt_size q
   · obtain ⟨_, q, _⟩ := h1
     exact Heap.lt_size q
  have il2 : i2 < s.heap.objs.size := by
   cases k2
   · obtain ⟨_, q, _⟩ := h2
     exact Heap.lt_size q
   · obtain ⟨_, q, _⟩ := h2
     exact Heap.lt_size q
  have hTI' : IsTupOf2 h' TI (.ref i1) (.ref i2) := hk TI _ D.TIz D.TITO D.TIi1 D.TIi2 hTI
  refine ⟨_, rfl, wpAny_letOwnedTupleGo_zip (s := { s with heap := h', toks := tk }) hz' fun h'' he' sb => ?_⟩
  have nz : s.heap.objs.size ≠ z := Nat.ne_of_gt zl
  have new : ObjOk X.prog X.w (upd H s.heap.objs.size (.tup [x, y])) h'' s.heap.objs.size (.tup [x, y]) :=
   ⟨by show 2 ≤ sizeLine; decide, [u, u2], .cons ru (.cons ru2 .nil), ⟨_, (sb.2 _ nz).trans hT, rfl, _, rfl⟩⟩
  have I1 : Inv X pins σ (upd H s.heap.objs.size (.tup [x, y])) { s with heap := h'', toks := tk } :=
   I.turnedNew (ch := [z, TI, TO, i1, i2]) (fun c ob hb q => (sb.2 c (fun z => hb (by simp [z]))).trans (hk c ob (fun z => hb (by simp [z])) (fun z => hb (by simp [z])) (fun z => hb (by simp [z])) (fun z => hb (by simp [z])) q)) hf (Nat.le_refl _) new
  have i1z : i1 ≠ z := fun q => D.zf1 (by rw [← q]; simp)
  have i2z : i2 ≠ z := fun q => D.zf2 (by rw [← q]; simp)
  refine ⟨.ref s.heap.objs.size, _, I1, rfl, ⟨_, x, y, rfl, I.hok.fresh (Nat.le_refl _), rfl, fun ws hw => by rw [WY I hw hqx]; exact hx, fun ws hw => by rw [WY I hw hqy]; exact hy⟩, ⟨he', (sb.2 TI D.TIz).trans hTI', ⟨u, u2, (sb.2 TO D.TOz).trans hTO'⟩, Gz s1.1 fun o q => (sb.2 i1 i1z).trans q, Gz s2.1 fun o q => (sb.2 i2 i2z).trans q⟩, fun c hc => ?_⟩
  have hc' : c < s.heap.objs.size := by
   rcases (show c = z ∨ c = TI ∨ c = TO ∨ c = i1 ∨ c = i2 by simpa using hc) with rfl | rfl | rfl | rfl | rfl
   · exact zl
   · exact TIl
   · exact TOl
   · exact il1
   · exact il2
  rw [upd_ne (Nat.ne_of_lt hc')]
  exact (hf c hc).1
 done := by
  intro X hP hw hK hc i pins s σ H E I hf st hg
  subst hP hw hK
  obtain ⟨hz, hTI, ⟨x0, y0, hTO⟩, h1, h2⟩ := st
  obtain ⟨xs, ys, hqx, hqy, hi⟩ := hg
  obtain ⟨its, rv, p⟩ := Ba I hqx
  obtain ⟨its2, rv2, p2⟩ := Ba I hqy
  have l1 := rv.length
  have l2 := rv2.length
  have hA : X.A.in1.handled = none := I.ok.hd hc
  obtain ⟨n1, P1, S1, D1, st1, le1, eq1⟩ := Zk (prog := X.prog) (w := X.w) hA k1 i1 a (Qh h1 p) its.toArray h1 p
  obtain ⟨n2, P2, S2, D2, st2, le2, eq2⟩ := Zk (prog := X.prog) (w := X.w) hA k2 i2 b (Qh h2 p2) its2.toArray h2 p2
  refine wpAny_pyNext_zipD2_end D D1 D2 hz hTI hTO st1 st2 le1 le2 ?_ fun h' tk hk => ⟨rfl, ?_⟩
  · rcases hi with hi | hi
    · exact .inl (eq1 (by simp; omega))
    · exact .inr (eq2 (by simp; omega))
  exact I.turnedL (ch := [z, TI, TO, i1, i2]) (fun c o hb q => hk c o (fun z => hb (by simp [z])) (fun z => hb (by simp [z])) (fun z => hb (by simp [z])) (fun z => hb (by simp [z])) q) hf
 self := fun A i s Q E st h => wpAny_pyIter_zip st.1 h
def afw (K : PySem.W.Frag) (ta : TA) : TI := fun σ H R => ta σ H fun vs H1 => ∃ k1 k2 a b xs ys, vs = [.ref a, .ref b] ∧ Ky K k1 H1 a xs ∧ Ky K k2 H1 b ys ∧ R (aay K k1 k2 a b) H1
theorem acC {X : Cx} {e e2 : Expr} {ta : TA} {p pos tpos : Pos} {elts : List Expr} {kk : Nat} (hg : Gl X "zip") (hm : X.mg "zip" = none) (ha : PA X [e, e2] ta) (hs : starEach [e, e2] X.env = (false, eval e X.env) :: starEach [e2] X.env := by rfl) (hpl : (backTo pos (starEach [e2] X.env)).any (·.1) = false := by rfl) :
 PI X (.Tuple elts kk tpos) (.Call (.Name "zip" p) [e, e2] [] pos) (afw X.K ta) := by
 refine ⟨fun pins s σ H R I h => ?_⟩
 refine Call_ (ld_blt I hg hm boot_zip (PyProof.Rows.callWith_type1 (thn (ha.run pos pins s σ H _ I h) fun us s1 hh => ?_) hs hpl))
 obtain ⟨vs, H1, I1, r1, k1, k2, a, b, xs, ys, rfl, hx, hy, q⟩ := hh
 cases r1 with
 | cons r rr =>
   cases rr with
   | cons r' rr =>
     cases rr
     cases r
     cases r'
     obtain ⟨its, rv, p⟩ := Ba I1 hx
     obtain ⟨its2, rv2, p2⟩ := Ba I1 hy
     have al : a < s1.heap.objs.size := by
      cases k1
      · obtain ⟨_, q, _⟩ := p
        exact Heap.lt_size q
      · obtain ⟨_, q, _⟩ := p
        exact Heap.lt_size q
     have bl : b < s1.heap.objs.size := by
      cases k2
      · obtain ⟨_, q, _⟩ := p2
        exact Heap.lt_size q
      · obtain ⟨_, q, _⟩ := p2
        exact Heap.lt_size q
     have five : ∀ c ∈ [s1.heap.objs.size + 4, s1.heap.objs.size + 2, s1.heap.objs.size + 3, s1.heap.objs.size, s1.heap.objs.size + 1], FpOk X pins H1 c := fun c hc => by
      have hle : s1.heap.objs.size ≤ c := by
       simp at hc
       omega
      exact I1.fpOk hle (I1.hok.fresh hle)
     refine zip_begins2 (WQ k1 a its.toArray) (WQ k2 b its2.toArray) p p2 fun h' hz hTI hTO e1 e2 hsz hk => wpAny_pyIter_zip hz ?_
     exact ⟨s1.heap.objs.size + 4, [s1.heap.objs.size + 4, s1.heap.objs.size + 2, s1.heap.objs.size + 3, s1.heap.objs.size, s1.heap.objs.size + 1], _, _, H1, rfl, I1.kept (t' := s1.toks) hk, Zm (zip_sep2 (N := s1.heap.objs.size) (fp1 := [a]) (fp2 := [b]) (fun c hc => by rw [List.mem_singleton.mp hc]; exact al) (fun c hc => by rw [List.mem_singleton.mp hc]; exact bl)), ⟨hz, hTI, ⟨_, _, hTO⟩, WR e1, WR e2⟩, five, q⟩
end L2
namespace Pk
open PySem PySem.Spec L2
def afx (h : Hh) (d e : D) : Option (Nat × List D × List D) := match pJ h d, e with
 | some (n, l), .fl m => some (n, l, jD l m)
 | some (n, l), .tup m => some (n, l, jD l m)
 | _, _ => none
def ahg (ma mb : M D) : M (Nat × List D × List D) := ma.bind fun d => mb.bind fun e fr h => M.opt (afx h d e) fr h
section
variable {X : Cx} {T : Tb} {W : WX} {k kk : Nat} {pos p tpos : Pos} {tg iter a c : Expr} {elts : List Expr} {body : List Stmt} {g : D → M Unit} {b : M Fl} {is : List Nat} {li : M (Nat × List D × List D)} {ma mb : M D}
end
end Pk
namespace GenP
open PySem PySem.Spec
def noG : Frame → Bool
 | .gen .. => false
 | .ret .. => true
def Tz : Frame → Frame
 | .gen _ _ _ c p => .ret (fun _ => .unsupported "") none false [] c p []
 | f => f
theorem VP (f : Frame) : (Tz f).where_ = f.where_ := by cases f <;> rfl
def TF : GenState → GenState
 | .suspended _ l c p fs cl => .suspended (fun _ => .unsupported "") l c p (fs.map Tz) cl
 | st => st
def Kz : GenState → Bool
 | .fresh _ => false
 | _ => true
def clean : GenState → Bool
 | .suspended _ _ _ _ fs _ => fs.all noG
 | _ => true
theorem Zo (st : GenState) : (TF st).seen = st.seen := by
 cases st with
 | suspended k l c p fs cl =>
   show (_, some ((c, p) :: List.map Frame.where_ (fs.map Tz))) = (_, some ((c, p) :: List.map Frame.where_ fs))
   rw [alc, show Frame.where_ ∘ Tz = Frame.where_ from funext VP]
 | _ => rfl
theorem Zq (st : GenState) : (TF st).bare = st.bare := by cases st <;> rfl
structure PS (D : Nat → Prop) (s t : Shared) : Prop where
 heap : s.heap = t.heap
 drawn : s.drawn = t.drawn
 toks : s.toks = t.toks
 os : s.os = t.os
 size : s.gens.size = t.gens.size
 dead : ∀ i, D i → ∃ st, t.gens[i]? = some st ∧ Kz st = true ∧ s.gens[i]? = some (TF st)
 live : ∀ i, ¬ D i → s.gens[i]? = t.gens[i]? ∧ ∀ st, t.gens[i]? = some st → clean st = true
theorem PS.seen {D : Nat → Prop} {s t : Shared} (P : PS D s t) {g : Nat} {st : GenState} (h : s.gens[g]? = some st) : ∃ st', t.gens[g]? = some st' ∧ st'.seen = st.seen := by
 by_cases hd : D g
 · obtain ⟨st', e1, e2, e3⟩ := P.dead g hd
   rw [h] at e3
   cases e3
   exact ⟨st', e1, (Zo st').symm⟩
 · exact ⟨st, (P.live g hd).1.symm.trans h, rfl⟩
theorem PS.same {D : Nat → Prop} {s t : Shared} (P : PS D s t) {g : Nat} {st : GenState} (h : s.gens[g]? = some st) (ns : ∀ k l c p fs cl, st ≠ .suspended k l c p fs cl) : t.gens[g]? = some st := by
 by_cases hd : D g
 · obtain ⟨st', e1, e2, e3⟩ := P.dead g hd
   rw [h] at e3
   cases st' with
   | suspended k l c p fs cl => exact absurd (Option.some.inj e3) (ns _ _ _ _ _ _)
   | _ => rw [e1]; exact e3.symm
 · exact (P.live g hd).1.symm.trans h
theorem PS.set {D : Nat → Prop} {s t : Shared} (P : PS D s t) {g : Nat} (hd : ¬ D g) {st : GenState} (hc : clean st = true) : PS D (s.setGen g st) (t.setGen g st) where
 heap := P.heap
 drawn := P.drawn
 toks := P.toks
 os := P.os
 size := by show (s.gens.setIfInBounds g st).size = (t.gens.setIfInBounds g st).size; simp [P.size]
 dead := fun i hi => by
  have ne : g ≠ i := fun e => hd (e ▸ hi)
  obtain ⟨st', e1, e2, e3⟩ := P.dead i hi
  exact ⟨st', by show (t.gens.setIfInBounds g st)[i]? = _; rw [Array.getElem?_setIfInBounds_ne ne]; exact e1, e2, by show (s.gens.setIfInBounds g st)[i]? = _; rw [Array.getElem?_setIfInBounds_ne ne]; exact e3⟩
 live := fun i hi => by
  obtain ⟨e1, e2⟩ := P.live i hi
  show (s.gens.setIfInBounds g st)[i]? = (t.gens.setIfInBounds g st)[i]? ∧ ∀ x, (t.gens.setIfInBounds g st)[i]? = some x → _
  by_cases ne : g = i
  · subst ne
    rw [Array.getElem?_setIfInBounds_self, Array.getElem?_setIfInBounds_self, P.size]
    refine ⟨rfl, fun x hx => ?_⟩
    split at hx
    · cases hx; exact hc
    · cases hx
  · rw [Array.getElem?_setIfInBounds_ne ne, Array.getElem?_setIfInBounds_ne ne]
    exact ⟨e1, e2⟩
theorem PS.push {D : Nat → Prop} {s t : Shared} (P : PS D s t) (c : Code) : PS D { s with gens := s.gens.push (.fresh c) } { t with gens := t.gens.push (.fresh c) } where
 heap := P.heap
 drawn := P.drawn
 toks := P.toks
 os := P.os
 size := by simp [P.size]
 dead := fun i hi => by
  obtain ⟨st', e1, e2, e3⟩ := P.dead i hi
  have l1 := (Array.getElem?_eq_some_iff.mp e1).1
  refine ⟨st', ?_, e2, ?_⟩
  · show (t.gens.push _)[i]? = _
    rw [Array.getElem?_push_lt l1, ← e1, Array.getElem?_eq_getElem l1]
  · have l2 := (Array.getElem?_eq_some_iff.mp e3).1
    show (s.gens.push _)[i]? = _
    rw [Array.getElem?_push_lt l2, ← e3, Array.getElem?_eq_getElem l2]
 live := fun i hi => by
  obtain ⟨e1, e2⟩ := P.live i hi
  show (s.gens.push _)[i]? = (t.gens.push _)[i]? ∧ ∀ st, (t.gens.push _)[i]? = some st → _
  rw [Array.getElem?_push, Array.getElem?_push, P.size, e1]
  refine ⟨rfl, fun st hst => ?_⟩
  split at hst
  · cases hst; rfl
  · exact e2 st hst
def Kept (D : Nat → Prop) (t t' : Shared) : Prop := (∀ i, D i → t'.gens[i]? = t.gens[i]?) ∧ t.gens.size ≤ t'.gens.size
theorem Kept.refl {D : Nat → Prop} {t : Shared} : Kept D t t := ⟨fun _ _ => rfl, Nat.le_refl _⟩
theorem Kept.trans {D : Nat → Prop} {t t' t2 : Shared} (a : Kept D t t') (b : Kept D t' t2) : Kept D t t2 := ⟨fun i hi => (b.1 i hi).trans (a.1 i hi), Nat.le_trans a.2 b.2⟩
theorem Kept.set {D : Nat → Prop} {t : Shared} {g : Nat} (hd : ¬ D g) (st : GenState) : Kept D t (t.setGen g st) := ⟨fun i hi => Array.getElem?_setIfInBounds_ne fun e => hd (by rw [e]; exact hi), by show t.gens.size ≤ (t.gens.setIfInBounds g st).size; simp⟩
theorem Kept.gens {D : Nat → Prop} {t t' : Shared} (h : t'.gens = t.gens) : Kept D t t' := ⟨fun i _ => by rw [h], by rw [h]; exact Nat.le_refl _⟩
def ahh : End → Bool
 | .ret _ => true
 | .susp _ _ _ _ _ _ fs => fs.all noG
def aaz (u : Shared) : Nat → Prop := fun i => ∃ st, u.gens[i]? = some st ∧ Kz st = true
def afZ (u : Shared) : Shared := { u with gens := u.gens.map TF }
theorem PS.bare {D : Nat → Prop} {s u : Shared} (P : PS D s u) (h : PyProof.Rows.AllBare s.gens) : PyProof.Rows.AllBare u.gens := fun y hy => by
 obtain ⟨i, hi, e⟩ := Array.mem_iff_getElem.mp hy
 have e : u.gens[i]? = some y := by rw [Array.getElem?_eq_getElem hi, e]
 by_cases hd : D i
 · obtain ⟨st, e1, _, e3⟩ := P.dead i hd
   rw [e] at e1
   cases e1
   rw [← Zq]
   exact h _ (Array.mem_of_getElem? e3)
 · exact h _ (Array.mem_of_getElem? ((P.live i hd).1.trans e))
end GenP
namespace GenP
open PySem PySem.Spec PyProof.Rows L2 GenW
section
variable {D : Nat → Prop} {s u : Shared} {X : Cx} {pins : List (Addr × Obj)} {σ : L2.St} {H : Hp}
end
abbrev SL := List (Nat × GenState)
def Sl (sl : SL) (s : Shared) : Prop := ∀ p ∈ sl, s.gens[p.1]? = some p.2 ∧ Kz p.2 = true
theorem Sl.keep {sl : SL} {u u' : Shared} (h : Sl sl u) (k : Kept (aaz u) u u') : Sl sl u' := fun p hp => by
 obtain ⟨e, hs⟩ := h p hp
 exact ⟨(k.1 p.1 ⟨_, e, hs⟩).trans e, hs⟩
def cutS (n : Nat) (s : Shared) : Shared := { s with heap := { s.heap with objs := s.heap.objs.extract 0 n } }
theorem aaA {n : Nat} {s : Shared} (h : n ≤ s.heap.objs.size) : (cutS n s).heap.objs.size = n := by
 show (s.heap.objs.extract 0 n).size = n
 rw [Array.size_extract]
 omega
section
variable {X : Cx} {pins : List (Addr × Obj)} {σ : L2.St} {H H1 : Hp} {s s1 : Shared} {n : Nat}
structure Low (X : Cx) (pins : List (Addr × Obj)) (n : Nat) : Prop where
 loc : X.env.locals < n
 cel : ∀ (x : Str) (c : Addr), ak6 x X.env.cells = some c → c < n
 pin : ∀ p ∈ X.pn ++ pins, p.1 < n
end
abbrev E0g : XK := fun _ _ _ => False
structure GD where
 P : Program
 w : World
 K : PySem.W.Frag
 mg : Str → Option Value
 base : Heap
 N : List Str
 qual : Str
 scope : Scope
 f : Addr
 cdv : Value
 A : Around
 outer : List Env
 n : Nat
 g : Nat
 pn : List (Addr × Obj)
def GD.cx (G : GD) (s : Shared) (H : Hp) : Cx := gcxOf G.P G.w G.K G.mg G.base G.N G.qual G.scope G.f G.cdv G.A G.outer s H E0g G.pn
def GD.env (G : GD) : Env := envOfC G.qual G.scope G.n G.f G.cdv
variable {G : GD} {s s0 s1 s2 : Shared} {H H0 H1 H2 : Hp} {pins : List (Addr × Obj)} {σ : L2.St}
end GenP
namespace GenP
open PySem PySem.Spec PyProof.Rows L2 GenW Pk
inductive GSt where
 | go (a : Fr) (h : Hh)
 | out (f : Fl) (a : Fr) (h : Hh)
 | err
inductive GR where
 | go (n : Nat) (a fr : Fr) (h : Hh)
 | out (f : Fl) (a : Fr) (h : Hh)
 | err
abbrev Step := D → Fr → Hh → GSt
abbrev xY := Step → Nat → Fr → Fr → Hh → GR
def GR.bind (r : GR) (k : Nat → Fr → Fr → Hh → GR) : GR := match r with
 | .go n a fr h => k n a fr h
 | .out f a h => .out f a h
 | .err => .err
def afy : xY := fun _ n a fr h => .go n a fr h
def ahk (b c : xY) : xY := fun st n a fr h => (b st n a fr h).bind (c st)
def agH (ms : M Fl) : xY := fun _ n a fr h => match ms fr h with
 | .ok .nx fr h => .go n a fr h
 | _ => .err
def frozen (fr : Fr) : Bool := fr.all fun o => match o with
 | some d => !d.own
 | none => true
def agI (m : M D) : xY := fun st n a fr h => match n with
 | 0 => .err
 | n + 1 => match m fr h with
   | .ok d fr h => if frozen fr then (match st d a h with
     | .go a h => .go n a fr h
     | .out f a h => .out f a h
     | .err => .err) else .err
   | _ => .err
def Zr (g : D → M Unit) (b : xY) : List D → xY
 | [] => afy
 | d :: ds => fun st n a fr h => match g d fr h with
   | .ok _ fr h => (b st n a fr h).bind (Zr g b ds st)
   | _ => .err
def aiD (li : M (List D)) (g : D → M Unit) (b : xY) : xY := fun st n a fr h => match li fr h with
 | .ok ds fr h => Zr g b ds st n a fr h
 | _ => .err
def ajJ (t : M Bool) (b c : xY) : xY := fun st n a fr h => match t fr h with
 | .ok true fr h => b st n a fr h
 | .ok false fr h => c st n a fr h
 | _ => .err
def At (G : GD) (T : Tb) (Tok : Fr → Shared → Wd → Hp → Hh → Prop) (sl : SL) (X : Cx) (a : Fr) (w : Wd) (σ : L2.St) (H : Hp) (fr : Fr) (h : Hh) (s : Shared) (pins : List (Addr × Obj)) : Prop :=
 ∃ sw ww Hw hw, Tok a sw ww Hw hw ∧ G.n ≤ sw.heap.objs.size ∧ X = G.cx (cutS G.n sw) Hw ∧ L2.Inv X pins σ H s ∧ Rel G.K T (Bs.of ww Hw) w σ H fr h ∧ Sl ((G.g, .running) :: sl) s ∧ ∀ p ∈ pins, G.n ≤ p.1
def Fam (G : GD) (X : Cx) : Prop := ∃ s H, s.heap.objs.size = G.n ∧ X = G.cx s H
structure U8 (G : GD) (T : Tb) where
 Tok : Fr → Shared → Wd → Hp → Hh → Prop
 R : GenEnd
 Y : Protocol
 step : Step
 Fin : Fl → Fr → Hh → Prop
 yld : ∀ {sl : SL} {X : Cx} {n : Nat} {s₀ : Shared} {kap : Resume → Shared → Prop} {x : V} {u : Value} {d : D} {a : Fr} {w : Wd} {σ : L2.St} {H : Hp} {fr : Fr} {h : Hh} {s : Shared} {pins : List (Addr × Obj)},
  At G T Tok sl X a w σ H fr h s pins → frozen fr = true → RelV x u → bO G.K T w x d →
  match step d a h with
  | .go a' h' => (∀ {X' : Cx} {w' : Wd} {H' : Hp} {s' : Shared}, w.le w' → At G T Tok sl X' a' w' σ H' fr h' s' pins → kap (.send .none) s' ∧ kap (.send (.bool true)) s') → Y n s₀ u s kap
  | .out f a' h' => Fin f a' h' → Y n s₀ u s kap
  | .err => True
structure aeq (G : GD) (A : Around) (c : Code) (fs : List Frame) (gd : Bool → Bool) : Prop where
 over : A.over c fs = G.A.deeper G.env
 split : splitAtGen fs = none
 guard : fs.any Frame.guarded = false
 gd : gd false = false
section
variable {G : GD} {T : Tb}
def Exc (C : U8 G T) (A : Around) (c : Code) (fs : List Frame) (J : Value → Sem PySem.Fin) : Prop := ∀ n s₀ X e s, Fam G X → X.xe e s → Seg (model G.P G.w) A C.R C.Y n s₀ c (J e) fs s
def U9 (C : U8 G T) (sl : SL) (A : Around) (c : Code) (fs : List Frame) (t : Sem PySem.Fin) (w : Wd) (pins : List (Addr × Obj)) (r : GR) : Prop := match r with
 | .go n a fr h => ∀ {X : Cx} {w' : Wd} {σ : L2.St} {H : Hp} {s s₀ : Shared}, w.le w' → At G T C.Tok sl X a w' σ H fr h s pins → Seg (model G.P G.w) A C.R C.Y n s₀ c t fs s
 | .out f a h => C.Fin f a h
 | .err => False
theorem U9.le {C : U8 G T} {sl : SL} {A : Around} {c : Code} {fs : List Frame} {t : Sem PySem.Fin} {w w' : Wd} {pins : List (Addr × Obj)} {r : GR} (l : w.le w') (z : U9 C sl A c fs t w pins r) : U9 C sl A c fs t w' pins r := by
 cases r with
 | go n a fr h => exact fun l2 => z (Wd.le_trans l l2)
 | out f a h => exact z
 | err => exact z
def GA (G : GD) (T : Tb) (st : Stmt) (m : xY) : Prop := ∀ (C : U8 G T) (sl : SL) (A : Around) (c : Code) (fs : List Frame) (Kf : Flow → Sem PySem.Fin) (J : Value → Sem PySem.Fin) (gd : Bool → Bool) (lv : List Value → List Value) (n : Nat) (s₀ : Shared) (X : Cx) (a : Fr) (w : Wd) (σ : L2.St) (H : Hp) (fr : Fr) (h : Hh) (s : Shared) (pins : List (Addr × Obj)),
 aeq G A c fs gd → Exc C A c fs J → At G T C.Tok sl X a w σ H fr h s pins → U9 C sl A c fs (Kf .next) w pins (m C.step n a fr h) →
 Seg (model G.P G.w) A C.R C.Y n s₀ c ((exec st G.env).wrap Kf J gd lv) fs s
def GAs (G : GD) (T : Tb) (sts : List Stmt) (m : xY) : Prop := ∀ (C : U8 G T) (sl : SL) (A : Around) (c : Code) (fs : List Frame) (Kf : Flow → Sem PySem.Fin) (J : Value → Sem PySem.Fin) (gd : Bool → Bool) (lv : List Value → List Value) (n : Nat) (s₀ : Shared) (X : Cx) (a : Fr) (w : Wd) (σ : L2.St) (H : Hp) (fr : Fr) (h : Hh) (s : Shared) (pins : List (Addr × Obj)),
 aeq G A c fs gd → Exc C A c fs J → At G T C.Tok sl X a w σ H fr h s pins → U9 C sl A c fs (Kf .next) w pins (m C.step n a fr h) →
 Seg (model G.P G.w) A C.R C.Y n s₀ c ((execs sts G.env).wrap Kf J gd lv) fs s
theorem At.next {Tok : Fr → Shared → Wd → Hp → Hh → Prop} {sl : SL} {X : Cx} {a : Fr} {w w' : Wd} {σ σ' : L2.St} {H H' : Hp} {fr fr' : Fr} {h h' : Hh} {s s' : Shared} {pins : List (Addr × Obj)} (z : At G T Tok sl X a w σ H fr h s pins) (I : L2.Inv X pins σ' H' s')
 (r : ∀ B, Rel G.K T B w σ H fr h → Rel G.K T B w' σ' H' fr' h') (k : Sl ((G.g, .running) :: sl) s → Sl ((G.g, .running) :: sl) s') : At G T Tok sl X a w' σ' H' fr' h' s' pins := by
 obtain ⟨sw, ww, Hw, hw, t, hn, e, _, R, S, hp⟩ := z
 exact ⟨sw, ww, Hw, hw, t, hn, e, I, r _ R, k S, hp⟩
structure GOk (G : GD) (T : Tb) (k : Nat) : Prop where
 cq : ∀ s H, s.heap.objs.size = G.n → Cq (G.cx s H) T (WX.up E0g) k
theorem At.x {Tok : Fr → Shared → Wd → Hp → Hh → Prop} {sl : SL} {X : Cx} {a : Fr} {w : Wd} {σ : L2.St} {H : Hp} {fr : Fr} {h : Hh} {s : Shared} {pins : List (Addr × Obj)} (z : At G T Tok sl X a w σ H fr h s pins) :
 ∃ s' H', s'.heap.objs.size = G.n ∧ X = G.cx s' H' ∧ L2.Inv X pins σ H s ∧ (∃ B, Rel G.K T B w σ H fr h) ∧ Sl ((G.g, .running) :: sl) s := by
 obtain ⟨sw, ww, Hw, hw, _, hn, e, I, R, S, _⟩ := z
 exact ⟨_, _, aaA hn, e, I, ⟨_, R⟩, S⟩
end
end GenP
namespace GenP
open PySem PySem.Spec PyProof.Rows L2 GenW Pk
section
variable {G : GD} {T : Tb}
end
end GenP
namespace GenP
open PySem PySem.Spec PyProof.Rows L2 GenW Pk
def ab7 (P : Program) (w : World) (K : PySem.W.Frag) (mg : Str → Option Value) (base : Heap) (N : List Str) (qual : Str) (scope : Scope) (body : List Stmt) (f : Addr) (cdv : Value) (outer : List Env) (H : Hp) (vs : List V) (s : Shared) (u : Value) (s' : Shared) : Prop :=
 ∃ a g go, u = .ref a ∧ s.heap.objs.size < a ∧ s'.heap.get? a = some go ∧ (∀ h : Heap, h.get? a = some go → h.IsGen a g) ∧ (∀ v, go.data ≠ .cell v) ∧ s'.gens[g]? = some (.fresh (.func body (envOfC qual scope s.heap.objs.size f cdv))) ∧
   s'.os = s.os ∧ AllBare s'.gens ∧ (∀ b o, s.heap.get? b = some o → s'.heap.get? b = some o) ∧
   ∀ A : Around, A.handled = none → A.frames = some outer → L2.Inv (GD.cx ⟨P, w, K, mg, base, N, qual, scope, f, cdv, A, outer, s.heap.objs.size, g, [(a, go)]⟩ s H) [] (L2.start N vs) H s'
structure agq (P : Program) (w : World) (K : PySem.W.Frag) (mg : Str → Option Value) (base : Heap) (f : Addr) (fd : FuncData) (ps N : List Str) (qual : Str) (scope : Scope) (body : List Stmt) : Prop where
 ex : ∃ cdv, ∀ (A : Around) (outer : List Env) (s : Shared) (H : Hp) (args : Args) (us : List Value) (vs : List V), A.depth < recursionLimit → A.handled = none → Env0 P w K mg base A outer s H → BindsTo s fd args (ps.zip us) → Vals vs us → vs.length = ps.length →
  codeAny (model P w) A (.call (.ref f) args) (fun r s' => match r with
   | .ok (.ret u) => ab7 P w K mg base N qual scope body f cdv outer H vs s u s'
   | _ => False) s
section
variable {P : Program} {w : World} {K : PySem.W.Frag} {mg : Str → Option Value} {base : Heap} {x qual : Str} {params : Arguments} {body : List Stmt} {scope : Scope} {f : Addr} {fd : FuncData} {N ps : List Str} {dvs : List V} {kws : List (Str × V)}
end
section
variable {X : Cx} {T : Tb} {W : WX} {k : Nat}
def Yf (X : Cx) (pins : List (Addr × Obj)) (tg : Expr) (body : List Stmt) (a : Addr) (g : Nat) (D : Ends) : Protocol := fun _ _ v s kap => ∀ gs' : GenState, gs'.bare = true →
 wpAny (model X.prog X.w) X.A (assign tg X.env v) (fun _ s2 => wpAny (model X.prog X.w) X.A (execs body X.env) (fun f s3 => match f with
  | .next => (Kz gs' = true → s3.gens[g]? = some gs') ∧ s3.heap.IsGen a g ∧ s3.heap.NoLimit ∧ kap (.send .none) (s3.setGen g .running) ∧ kap (.send (.bool true)) (s3.setGen g .running)
  | .cont => (Kz gs' = true → s3.gens[g]? = some gs') ∧ s3.heap.IsGen a g ∧ s3.heap.NoLimit ∧ kap (.send .none) (s3.setGen g .running) ∧ kap (.send (.bool true)) (s3.setGen g .running)
  | .brk => ∃ σ' H', L2.Inv X pins σ' H' s3 ∧ D.nx σ' H'
  | .ret u => ∃ x σ' H', L2.Inv X pins σ' H' s3 ∧ RelV x u ∧ D.rt x H') X.xe s2) X.xe (s.setGen g gs')
def Rf (X : Cx) (pins : List (Addr × Obj)) (D : Ends) : GenEnd := fun _ _ r s => (r = .ok (.ret .none) ∨ r = .ok .next) ∧ (∃ σ' H', L2.Inv X pins σ' H' s ∧ D.nx σ' H') ∨ ∃ e, r = .error e ∧ False
def stepF (g : D → M Unit) (b : M Fl) : Step := fun d a h => match g d a h with
 | .ok _ a h => match b a h with
   | .ok .nx a h => .go a h
   | .ok .ct a h => .go a h
   | .ok .brk a h => .out .nx a h
   | .ok (.rt d) a h => .out (.rt d) a h
   | _ => .err
 | _ => .err
def ajK (X : Cx) (T : Tb) (B : Bs) (w0 : Wd) (pins : List (Addr × Obj)) : Fr → Shared → Wd → Hp → Hh → Prop := fun a sw ww Hw hw => ∃ σ, L2.Inv X pins σ Hw sw ∧ Rel X.K T B ww σ Hw a hw ∧ w0.le ww
def ajL (X : Cx) (T : Tb) (B : Bs) (W : WX) (w0 : Wd) (D : Ends) : Fl → Fr → Hh → Prop := fun f a h => dh X.K T B W w0 (.ok f a h) D
end
end GenP
namespace GenP
open PySem PySem.Spec PyProof.Rows L2 GenW Pk
abbrev Gc (X : Cx) (N : List Str) (qual : Str) (scope : Scope) (f : Addr) (cdv : Value) (n g : Nat) (a : Addr) (go : Obj) : GD := ⟨X.prog, X.w, X.K, X.mg, X.base, N, qual, scope, f, cdv, X.A.in1, X.stack, n, g, [(a, go)]⟩
section
variable {X : Cx} {T : Tb} {W : WX} {k : Nat} {pins : List (Addr × Obj)} {tg : Expr} {body : List Stmt} {gm : D → M Unit} {bm : M Fl} {is : List Nat} {B : Bs} {w0 : Wd} {Dn : Ends}
 {N : List Str} {qual : Str} {scope : Scope} {f : Addr} {cdv : Value} {n g : Nat} {a : Addr} {go : Obj}
structure ajM (X : Cx) (pins : List (Addr × Obj)) (N : List Str) (qual : Str) (scope : Scope) (f : Addr) (cdv : Value) (n g : Nat) (a : Addr) (go : Obj) : Prop where
 low : Low X pins n
 cel : (Gc X N qual scope f cdv n g a go).env.cells = []
 na : n < a
 gen : ∀ h : Heap, h.get? a = some go → h.IsGen a g
 dat : ∀ v, go.data ≠ .cell v
 fr : ∀ b ∈ frs X.stack, b < n
end
end GenP
namespace GenP
open PySem PySem.Spec PyProof.Rows L2 GenW Pk
def aho (P : Program) (w : World) (K : PySem.W.Frag) (mg : Str → Option Value) (base : Heap) (T : Tb) (k : Nat) (N : List Str) (qual : Str) (scope : Scope) (body : List Stmt) (m : xY) : Prop :=
 ∀ (f : Addr) (cdv : Value) (A : Around) (outer : List Env) (n g : Nat) (pn : List (Addr × Obj)), GOk ⟨P, w, K, mg, base, N, qual, scope, f, cdv, A, outer, n, g, pn⟩ T k → GAs ⟨P, w, K, mg, base, N, qual, scope, f, cdv, A, outer, n, g, pn⟩ T body m
structure WCG (X : Cx) (e : Expr) (N : List Str) (qual : Str) (scope : Scope) (body : List Stmt) (σ : L2.St) (H : Hp) (Q : List V → Hp → Prop) : Prop where
 go : ∀ pins s, L2.Inv X pins σ H s → wpAny (model X.prog X.w) X.A (eval e X.env) (fun u s' => ∃ f cdv vs H1 s1, L2.Inv X pins σ H1 s1 ∧ Q vs H1 ∧ ab7 X.prog X.w X.K X.mg X.base N qual scope body f cdv X.stack H1 vs s1 u s') X.xe s
abbrev aiE (X : Cx) (T : Tb) (W : WX) (e : Expr) (N : List Str) (qual : Str) (scope : Scope) (body : List Stmt) (m : M (List D)) : Prop := jA (WCG X e N qual scope body) X.K T W vA m
def afz (nN : Nat) (b : xY) (st : Step) : List D → Fr → Hh → R Fl := fun ds a h => match b st big a (startF nN ds) h with
 | .go _ a _ h => .ok .nx a h
 | .out f a h => .ok f a h
 | .err => .err
def aiF (mc : M (List D)) (nN : Nat) (b : xY) (g : D → M Unit) (bm : M Fl) : M Fl := fun fr h => match mc fr h with
 | .ok ds fr h => afz nN b (stepF g bm) ds fr h
 | .exc x fr h => .exc x fr h
 | .err => .err
section
variable {X : Cx} {T : Tb} {W : WX} {k kk : Nat} {x : Str} {tp pos : Pos} {iter : Expr} {body gbody : List Stmt} {gm : D → M Unit} {bm : M Fl} {is : List Nat} {N ps : List Str} {qual : Str} {scope : Scope} {gb : xY} {mc : M (List D)}
end
end GenP
namespace GenP
open PySem PySem.Spec PyProof.Rows L2 GenW Pk
def aiG (c : Nat) (mo : M D) : M (List D) := mo.bind fun o fr h => match o.ins h with
 | some (c', _) => if c' = c then .ok [o] fr h else .err
 | none => .err
structure ahq (X : Cx) (T : Tb) (m : Str) (c : Nat) (ps N : List Str) (qual : Str) (scope : Scope) (body : List Stmt) : Prop where
 ex : ∃ (f : Addr) (fd : FuncData), Cls X.K (T.cad c) ∧ Meth X.K (T.cad c) m f ∧ agq X.prog X.w X.K X.mg X.base f fd ps N qual scope body ∧ Binds X.K fd ps [] ∧ m ∉ T.fld c
 one : ps.length = 1
section
variable {X : Cx} {T : Tb} {W : WX} {k c : Nat} {m nm : Str} {p pos pos' apos : Pos} {o e : Expr} {mo : M D} {ps N : List Str} {qual : Str} {scope : Scope} {body : List Stmt}
end
end GenP
namespace Pk
open PySem PySem.Spec L2
def D.enc (d : D) : PyData := d.toP.getD .none
def leD (a b : D) : Bool := PySem.W.dataLe false D.enc a b
def aer (a : D) : List D → List D
 | [] => [a]
 | b :: l => if leD a b then a :: b :: l else b :: aer a l
def X4 : List D → List D
 | [] => []
 | a :: l => aer a (X4 l)
def W0 : List D → Bool
 | [] => true
 | a :: l => l.all (fun b => !leD b a) && W0 l
theorem pw_or {α : Type} {R : α → α → Prop} : ∀ {l : List α}, l.Pairwise R → ∀ a ∈ l, ∀ b ∈ l, a = b ∨ R a b ∨ R b a
 | x :: l, h, a, ha, b, hb => by
   obtain ⟨h1, h2⟩ := List.pairwise_cons.mp h
   rcases List.mem_cons.mp ha with ea | ha
   · rcases List.mem_cons.mp hb with eb | hb
     · exact .inl (ea.trans eb.symm)
     · exact .inr (.inl (ea ▸ h1 b hb))
   · rcases List.mem_cons.mp hb with eb | hb
     · exact .inr (.inr (eb ▸ h1 a ha))
     · exact pw_or h2 a ha b hb
def aes : PyData → Bool
 | .tuple (_ :: _) => true
 | _ => false
def afA : PyData → Bool
 | .none => false
 | .tuple _ => false
 | _ => true
def D.lds (h : Hh) (d : D) : Option (List D) := match d.der h with
 | .fl l => some l
 | .nl l => some l
 | .kl l => some l
 | _ => none
def ahr (h : Hh) (d : D) : Option D := match d.lds h with
 | some l => if l.all (fun d => d.toP.isSome && decide (d.enc.depth ≤ 8)) && (l.all fun a => l.all fun b => PySem.W.alike a.enc b.enc) && (l.all (fun d => aes d.enc) || l.all (fun d => afA d.enc)) && decide (l.length ≤ big) && W0 (X4 l) then some (.nl (X4 l)) else none
 | none => none
section
variable {X : Cx} {T : Tb} {W : WX} {k : Nat} {a : Expr} {ma : M D} {pf pos : Pos}
end
end Pk
namespace Pk
open PySem PySem.Spec PyProof.Rows L2
def keyB : Key → D
 | .inl i => .int i
 | .inr s => .str s
theorem aet {K : PySem.W.Frag} {T : Tb} {w : Wd} (k : Key) : bO K T w (kV k) (keyB k) := by
 cases k with
 | inl i => exact .int i
 | inr s => exact .str s
theorem W3 {K : PySem.W.Frag} {T : Tb} {w : Wd} : ∀ ks : List Key, az K T w (ks.map kV) (ks.map keyB)
 | [] => .nil
 | k :: ks => .cons (aet k) (W3 ks)
def valE : List Key → List D → Key → Option D
 | k' :: ks, d :: ds, k => if k' = k then some d else valE ks ds k
 | _, _, _ => none
def aeu (ks : List Key) (k : Key) : Bool := ks.any fun k' => decide (k' = k)
def afB (ks : List Key) (k : Key) : List Key := if aeu ks k = true then ks else ks ++ [k]
def afC {α : Type} (ks : List Key) (ds : List α) (k : Key) (v : α) : List α := if aeu ks k = true then List.zipWith (fun k' d => if k' = k then v else d) ks ds else ds ++ [v]
def cellE (h : Hh) (d : D) : Option (Nat × List Key × List D) := match d with
 | .ref n => match h[n]? with
   | some (.dk ks ds) => some (n, ks, ds)
   | _ => none
 | _ => none
def afD (h : Hh) (o k : D) : Option D := (cellE h o).bind fun x => (keyD k).bind fun k => valE x.2.1 x.2.2 k
def aev (h : Hh) (o k z : D) : Option D := (cellE h o).bind fun x => (keyD k).bind fun k => some ((valE x.2.1 x.2.2 k).getD z)
def afE (h : Hh) (o k d : D) : Option Hh := (cellE h o).bind fun x => (keyD k).bind fun k => if x.2.1.length ≤ big then some (h.set x.1 (.dk (afB x.2.1 k) (afC x.2.1 x.2.2 k d))) else none
def aew (h : Hh) (o : D) : Option D := (cellE h o).bind fun x => some (.nl (x.2.1.map keyB))
def aiH : M D := fun fr h => .ok (.ref h.length) fr (h ++ [.dk [] []])
def aiI (mo mk : M D) : M D := mo.bind fun o => mk.bind fun k fr h => M.opt (afD h o k) fr h
def ahs (mo mk mz : M D) : M D := mo.bind fun o fr h => if (cellE h o).isSome = true then (mk.bind fun k => mz.bind fun z fr h => M.opt (aev h o k z) fr h) fr h else .err
def aiJ (mo mk mv : M D) : M Fl := mv.bind fun d => mo.bind fun o => mk.bind fun k fr h => match afE h o k d with
 | some h' => .ok .nx fr h'
 | none => .err
def aht (mo : M D) : M D := mo.bind fun o fr h => M.opt (aew h o) fr h
section
variable {X : Cx} {e : Expr} {td : TE} {apos cpos p pos : Pos}
def agr (td : TE) : TE := fun σ H Q => td σ H fun x H1 => ∃ d kvs, x = .ref d ∧ H1 d = some (.dK kvs) ∧ ∀ q, H1 q = none → Q (.ref q) (upd H1 q (.lst (kvs.map fun kv => kV kv.1)))
end
section
variable {X : Cx} {T : Tb} {W : WX} {k : Nat} {pos pos' cpos apos p : Pos} {o e f : Expr} {mo mk mz m : M D}
def agJ (i : Nat) (m : M D) : M D := (aN i).bind fun o fr h => if (o.lstP h).isSome = true then (m.bind fun x => (aN i).bind fun o fr h => M.opt (rC h o x) fr h) fr h else .err
end
end Pk
namespace Pk
open PySem PySem.Spec PyProof.Rows L2
def D.toPd (h : Hh) (d : D) : Option PyData := match d with
 | .ref n => (D.lstP h (.ref n)).map .list
 | d => d.toP
def ags (h : Hh) (d e : D) : Option Bool := match d.toPd h, e.toP with
 | some p, some q => if SeqAt.shaped p && SeqAt.shaped q then some (PyData.eqv p q) else none
 | _, _ => none
def ajN (h : Hh) (d e : D) : Option Bool := (ags h d e).map (!·)
section
variable {X : Cx} {T : Tb} {W : WX} {k : Nat}
end
end Pk
namespace Pk
open PySem PySem.Spec PyProof.Rows L2
def mCh {α : Type} (t : Fr → Hh → Bool) (m1 m2 : M α) : M α := fun fr h => if t fr h = true then m1 fr h else m2 fr h
def Qi (m : M D) : Fr → Hh → Bool := fun fr h => match m fr h with
 | .ok (.ref _) _ _ => true
 | _ => false
section
variable {X : Cx} {T : Tb} {W : WX} {k : Nat} {pos : Pos} {tg e elt : Expr} {ifs : List Expr} {body : List Stmt} {g : D → M Unit} {b : M Fl} {is : List Nat} {t : M Bool} {m me : M D} {scope : Scope}
noncomputable def aiK (m : M D) (g : D → M Unit) (b : M Fl) : M Fl := mCh (Qi m) (sY (aat m) g b) (gq (rB m) g b)
noncomputable def ajO (vs : List Nat) (m : M D) (g : D → M Unit) (t : M Bool) (me : M D) : M D := mCh (Qi m) (ael vs (aat m) g t me) (fM vs (rB m) g t me)
noncomputable def ahu (m : M D) (g : D → M Unit) (b : M Fl) : M Fl := mCh (Qi m) (sY (uG m) g b) (gq (qb m) g b)
end
end Pk
namespace Pk
open PySem PySem.Spec PyProof.Rows L2
def X5 {α : Type} : List (Option α) → Option (List α)
 | [] => some []
 | some a :: l => (X5 l).map (a :: ·)
 | none :: _ => none
def D.toPh (h : Hh) : Nat → D → Option PyData
 | 0, d => d.toP
 | k + 1, d => match d with
   | .ref n => match h[n]? with
     | some (.nl l) => (X5 (l.map (D.toPh h k))).map .list
     | _ => none
   | .fl l => (X5 (l.map (D.toPh h k))).map .list
   | .tup l => (X5 (l.map (D.toPh h k))).map .tuple
   | d => d.toP
def agt (h : Hh) (d e : D) : Option Bool := match d.toPh h 3, e.toPh h 3 with
 | some p, some q => if SeqAt.shaped p && SeqAt.shaped q then some (PyData.eqv p q) else none
 | _, _ => none
def ajP (h : Hh) (d e : D) : Option Bool := (agt h d e).map (!·)
section
variable {X : Cx} {T : Tb} {W : WX} {k : Nat}
def aiL (n : Nat) (gs : List D → M Unit) (d : D) : M Unit := match d with
 | .tup l => if l.length = n then gs l else M.opt none
 | .fl l => if l.length = n then gs l else M.opt none
 | .ref m => fun fr h => match h[m]? with
   | some (.nl l) => if l.length = n then gs l fr h else .err
   | _ => .err
 | _ => M.opt none
variable {kk n : Nat} {is : List Nat} {tgs : List Expr} {gs : List D → M Unit} {pos : Pos}
variable {tg e elt : Expr} {ifs : List Expr} {g : D → M Unit} {t : M Bool} {m me : M D} {scope : Scope} {js : List Nat}
noncomputable def agK (j : Nat) (vs : List Nat) (m : M D) (g : D → M Unit) (t : M Bool) (me : M D) : M Fl := mCh (Qi m) (bu j (ael vs (aat m) g t me)) (bu j (fM vs (rB m) g t me))
end
end Pk
namespace Pk
open PySem PySem.Spec PyProof.Rows L2
def ajQ (f : Str → Option D) (mo : M D) : M D := mo.bind fun o => M.opt (match o with
 | .str a => f a
 | _ => none)
def ajR (f : Hh → Str → D → Option D) (mo me : M D) : M D := mo.bind fun o => match o with
 | .str a => me.bind fun y fr h => M.opt (f h a y) fr h
 | _ => M.opt none
def bTx (g : Str → Str → D) (_ : Hh) (a : Str) (d : D) : Option D := match d with
 | .str b => some (g a b)
 | _ => none
def aaB : Nat := 2000000
def ahv (h : Hh) (a : Str) (d : D) : Option D := match d.its h with
 | some ds => match XS ds with
   | some ys => if (ys.map (·.length)).sum + ys.length * a.length ≤ aaB then some (.str (Txt.join a ys)) else none
   | none => none
 | none => none
def agL (_ : Hh) (a : Str) (d : D) : Option D := match d with
 | .str b => if b.length ≠ 0 ∧ a.length ≤ aaB then some (.nl ((Txt.split a b).map .str)) else none
 | _ => none
def ahw (a : Str) : Option D := if a.length ≤ aaB then some (.nl ((Txt.words a).map .str)) else none
def ahx (a : Str) : Option D := if a.length ≤ big then some (.str (Txt.upper a)) else none
def ahy (a : Str) : Option D := some (.bl (Txt.isdigit a))
section
variable {X : Cx} {T : Tb} {W : WX} {k : Nat} {pos pf apos : Pos} {a b o e : Expr} {ma mb mo me m : M D}
def aiM (_ : Hh) : D → D → Option D
 | .str z, .int n => if z.length ≤ 1000 ∧ n ≤ 10000 ∧ -1000 ≤ n then some (.str (Txt.mul z n)) else none
 | _, _ => none
open Builtin Builtin.Str in
def agu (al W : Nat) (x : Str) : Str := if W ≤ x.length then x else padded x (if al == 62 then W - x.length else 0) (if al == 62 then 0 else W - x.length) 32
open Builtin Builtin.Str Builtin.Float in
structure ahz (sp : Str) (al Wd : Nat) : Prop where
 ne : (sp.length == 0) = false
 sz : sp.length ≤ sizeLine
 asc : ((sp.cps.toList.drop 1).any (· ≥ 128) || (sp.cps.getD 0 0 ≥ 128 && !([60, 62, 61, 94] : List Nat).contains (sp.cps.getD 1 0))) = false
 ok : parseFormatSpec sp.cps.toList "str" 60 = .ok { align := al, width := some Wd }
 bk : (sp.cps.back? == some 0) = false
 al : al = 60 ∨ al = 62
 sm : Wd ≤ 1000
open Builtin Builtin.Str Builtin.Float in
open Builtin Builtin.Str Builtin.Float in
open Builtin Builtin.Str Builtin.Float in
def afF (al Wd : Nat) (d : D) : Option D := match d with
 | .str z => if z.length ≤ big then some (.str (agu al Wd z)) else none
 | _ => none
def aiN (al Wd : Nat) (m : M D) : M D := m.bind fun d => M.opt (afF al Wd d)
end
end Pk
namespace Pk
open PySem PySem.Spec PyProof.Rows L2
def afG (c : Nat) : D := .str ⟨#[c]⟩
def aex (d : D) : Option (List D) := match d with
 | .str z => some (z.cps.toList.map afG)
 | _ => none
def ajS (m : M D) : M (List D) := m.bind fun d => M.opt (aex d)
section
variable {X : Cx} {T : Tb} {W : WX} {k : Nat} {tg e : Expr} {m : M D}
end
end Pk
namespace Pk
open PySem PySem.Spec PyProof.Rows L2
def listOf (h : Hh) (d : D) : Option (List D) := match d with
 | .fl l => some l
 | .ref n => match h[n]? with
   | some (.nl l) => some l
   | _ => none
 | _ => none
def aiO (h : Hh) (d e : D) : Option D := match listOf h d, listOf h e with
 | some a, some b => if a.length + b.length ≤ big then some (.nl (a ++ b)) else none
 | _, _ => none
section
variable {X : Cx} {T : Tb} {W : WX} {pos : Pos} {a b : Expr} {ma mb : M D}
end
end Pk
namespace Pk
open PySem PySem.Spec L2
structure WET (X : Cx) (e : Expr) (σ : L2.St) (H : Hp) (Q : VK) : Prop where
 go : ∀ pins s, 1 ≤ s.toks → Inv X pins σ H s → wpAny (model X.prog X.w) X.A (eval e X.env) (EP X pins σ Q) X.xe s
structure WST (X : Cx) (st : Stmt) (D : Ends) (σ : L2.St) (H : Hp) : Prop where
 go : ∀ pins s, 1 ≤ s.toks → Inv X pins σ H s → wpAny (model X.prog X.w) X.A (exec st X.env) (SP X pins D) X.xe s
structure agv (X : Cx) (st : List Stmt) (D : Ends) (σ : L2.St) (H : Hp) : Prop where
 go : ∀ pins s, 1 ≤ s.toks → Inv X pins σ H s → wpAny (model X.prog X.w) X.A (execs st X.env) (SP X pins D) X.xe s
def aiP (X : Cx) (T : Tb) (W : WX) (st : Stmt) (m : M Fl) : Prop := ∀ (B : Bs) (w : Wd) (σ : L2.St) (H : Hp) (fr : Fr) (h : Hh) (D : Ends), Rel X.K T B w σ H fr h → dh X.K T B W w (m fr h) D → WST X st D σ H
def aey (X : Cx) (T : Tb) (W : WX) (sts : List Stmt) (m : M Fl) : Prop := ∀ (B : Bs) (w : Wd) (σ : L2.St) (H : Hp) (fr : Fr) (h : Hh) (D : Ends), Rel X.K T B w σ H fr h → dh X.K T B W w (m fr h) D → agv X sts D σ H
section
variable {X : Cx} {T : Tb} {W : WX} {k : Nat} {pos pos' apos : Pos} {e o : Expr} {st : Stmt} {sts : List Stmt} {m mo me : M D} {s n : M Fl}
def ahB (y z : Str) (a : Str) : Option D := if a.length ≤ 10000 ∧ z.length ≤ 1000 then some (.str (Txt.replace a y z)) else none
end
section
variable {P : Program} {w : World} {K : PySem.W.Frag} {mg : Str → Option Value} {base : Heap} {T : Tb} {k : Nat} {x qual : Str} {params : Arguments} {body : List Stmt} {scope : Scope} {dvs : List V} {kws : List (Str × V)} {f : Addr} {fd : FuncData} {N ps : List Str}
def aiQ (P : Program) (w : World) (K : PySem.W.Frag) (mg : Str → Option Value) (base : Heap) (T : Tb) (k : Nat) (N : List Str) (qual : Str) (scope : Scope) (body : List Stmt) (m : M Fl) : Prop :=
 ∀ (f : Addr) (cdv : Value) (A : Around) (outer : List Env) (s : Shared) (H : Hp) (E : XK), Cq (Zd P w K mg base N qual scope f cdv A outer s H E) T (WX.up E) k → aey (Zd P w K mg base N qual scope f cdv A outer s H E) T (WX.up E) body m
end
end Pk
namespace Pk
open PySem PySem.Spec L2
structure aiR (K : PySem.W.Frag) (T : Tb) (mt : Nat → Option Fn) (oth : Nat → Bool) : Prop where
 ef : EqF K T mt
 no : ∀ c F c', mt c = some F → oth c' = true → PySem.W.notFirst K (T.cad c) (.ref (T.cad c')) = true
def ahC (mt : Nat → Option Fn) (oth : Nat → Bool) (c : Bool → Bool) (x y : D) : M Bool := fun fr h => match y.ins h with
 | some (c', _) => if oth c' then ((N8 mt x [y]).bind fun d => (tbM d).bind fun b => M.ret (c b)) fr h else gEq mt c x y fr h
 | none => gEq mt c x y fr h
section
variable {X : Cx} {T : Tb} {W : WX} {k j : Nat}
end
end Pk
namespace Pk
open PySem PySem.Spec L2
section
variable {X : Cx} {T : Tb} {W : WX} {k : Nat} {px apos cpos : Pos}
theorem az.dropLast {K : PySem.W.Frag} {w : Wd} : ∀ {vs : List V} {ds : List D}, az K T w vs ds → az K T w vs.dropLast ds.dropLast
 | _, _, .nil => .nil
 | _, _, .cons h .nil => .nil
 | _, _, .cons h (.cons h2 t) => .cons h (az.dropLast (.cons h2 t))
def acD (i : Nat) : M D := fun fr h => match fr[i]? with
 | some (some (.nl l)) => (match l[l.length - 1]? with
  | some y => .ok y (fr.set i (some (.nl l.dropLast))) h
  | none => .err)
 | _ => .err
def ahD (i : Nat) : M D := (cQ i qw).bind fun _ => acD i
def ajT (m : M D) : M (List D) := m.bind fun d => M.opt (d.lst.map List.reverse)
end
end Pk
namespace Pk
open PySem PySem.Spec L2
structure SlF (X : Cx) (T : Tb) (f : Str) (ix : Nat → Option Nat) : Prop where
 cls : ∀ c i, ix c = some i → SlX.SCls X.K (T.cad c)
 sl : ∀ c i, ix c = some i → ∃ p, SlX.Slot1 X.K (T.cad c) f p i
def X6 (h : Hh) (o : D) : Option (Nat × Nat × Nat × List D) := match o with
 | .ref n => match h[n]? with
   | some (.so c m fs) => match h[m]? with
     | some (.hid b) => if b = !fs.isEmpty then some (n, c, m, fs) else none
     | _ => none
   | _ => none
 | _ => none
section
variable {K : PySem.W.Frag} {T : Tb} {B : Bs} {w : Wd} {σ : L2.St} {H : Hp} {fr : Fr} {h : Hh} {v : V} {o : D} {n c m : Nat} {fs : List D}
def afH (i : Nat) (d : D) (fs : List D) : List D := (fs ++ List.replicate (i + 1 - fs.length) (D.hid false)).set i d
def X7 (ix : Nat → Option Nat) (h : Hh) (o d : D) : Option Hh := (X6 h o).bind fun x => (ix x.2.1).bind fun i => some ((h.set x.2.2.1 (.hid true)).set x.1 (.so x.2.1 x.2.2.1 (afH i d x.2.2.2)))
end
def ajU (K : PySem.W.Frag) (ta tv : TE) (f : Str) (rd : V → V → Hp → VK → Prop) : TS := fun D σ H => ta σ H fun x H1 => ∃ a C dx p vs i v, x = .ref a ∧ SlX.Slt H1 a C dx vs ∧ SlX.SCls K C ∧ SlX.Slot1 K C f p i ∧ vs[i]? = some (some v) ∧
 tv σ H1 fun y H2 => rd v y H2 fun z H3 => ∃ C' dx' p' vs' i', SlX.Slt H3 a C' dx' vs' ∧ SlX.SCls K C' ∧ SlX.Slot1 K C' f p' i' ∧ D.nx σ (SlX.slH H3 a C' dx' (SlX.putS i' z vs'))
section
variable {X : Cx} {T : Tb} {W : WX} {k kk n c : Nat} {px tpos p pos apos : Pos} {f : Addr} {fd : FuncData} {ps : List Str} {F : Fn} {x m fn : Str} {e o : Expr} {es : List Expr} {mo me : M D} {ma mk : M (List D)} {gD : List D → List D → List D} {ix : Nat → Option Nat}
def bSl (ix : Nat → Option Nat) (h : Hh) (o : D) : Option D := (X6 h o).bind fun x => (ix x.2.1).bind fun i => (x.2.2.2[i]?).bind fun z => if z.isHid = true then none else some z
def ahF (ix : Nat → Option Nat) (mo m : M D) : M Fl := m.bind fun d => mo.bind fun o fr h => match X7 ix h o d with
 | some h' => .ok .nx fr h'
 | none => .err
def ahG (j : Nat) (ix : Nat → Option Nat) (f : Int → Int → Int) (m : M D) : M Fl := fun fr h => match fr[j]? with
 | some (some (.ref n)) => match bSl ix h (.ref n) with
   | some (.int a) => (m.bind fun d fr h => match d with
     | .int b => match X7 ix h (.ref n) (.int (f a b)) with
       | some h' => .ok .nx fr h'
       | none => .err
     | _ => .err) fr h
   | _ => .err
 | _ => .err
def ahH (c n m : Nat) (F : Fn) (gD : List D → List D → List D) (ma mk : M (List D)) : M D := ma.bind fun ds => mk.bind fun es fr h => if ds.length = n ∧ es.length = m then Tw fr (h.length + 1) (F (.ref (h.length + 1) :: gD ds es) (h ++ [.hid false] ++ [.so c h.length []])) else .err
structure ahI (X : Cx) (T : Tb) (k : Nat) (m : Str) (mt : Nat → Option Fn) (n : Nat) (ks : List Str) (gD : List D → List D → List D) : Prop where
 ex : ∀ c F, mt c = some F → ∃ (kk : Nat) (f : Addr) (fd : FuncData) (ps : List Str), SlX.SCls X.K (T.cad c) ∧ Meth X.K (T.cad c) m f ∧ oR X.prog X.w X.K X.mg X.base T kk f fd ps F ∧ Bn X.K T fd ps (n + 1) ks gD ∧ kk ≤ k
def aez (mt : Nat → Option Fn) (h : Hh) (o : D) : Option Fn := (X6 h o).bind fun x => mt x.2.1
def agM (n m : Nat) (mt : Nat → Option Fn) (gD : List D → List D → List D) (mo : M D) (ma mk : M (List D)) : M D := mo.bind fun o fr h => match aez mt h o with
 | some F => (bW (n + 1) m F gD (ma.bind fun ds => M.ret (o :: ds)) mk) fr h
 | none => .err
end
end Pk
namespace Pk
open PySem PySem.Spec L2
structure aiS (X : Cx) (T : Tb) (W : WX) (keys : List (Option Expr)) (es : List Expr) (ks : List Str) (ms : List (M D)) : Prop where
 ex : ∃ trs : List (TE × TE), (∀ pos, PPs X pos keys es trs) ∧ keys.all (·.isSome) = true ∧ keys.length = es.length ∧ keys.length = ks.length ∧
  ∀ (B : Bs) (w : Wd) (σ : L2.St) (H : Hp) (fr : Fr) (h : Hh) (Q : List (V × V) → Hp → Prop), Rel X.K T B w σ H fr h →
    aZ X.K T B W (vA X.K T B σ) w σ (ak ms fr h) (fun vs H' => Q ((ks.map V.str).zip vs) H') → tPairs trs σ H Q
def ahJ (ks : List Str) (ms : List (M D)) : M D := (ak ms).bind fun ds fr h => if ds.length = ks.length then .ok (.ref h.length) fr (h ++ [.dk (ks.map Sum.inr) ds]) else .err
section
variable {X : Cx} {T : Tb} {W : WX} {k : Nat} {pos kp : Pos} {e : Expr} {es : List Expr} {keys : List (Option Expr)} {ks : List Str} {m : M D} {ms : List (M D)} {s : Str} {z : Nat}
end
end Pk
namespace SetTx
open PySem PySem.Calls PyProof.Rows
def met (l : List Str) : List Str := l.foldl (fun acc x => if acc.any (· == x) = true then acc else acc ++ [x]) []
section
variable {prog : Program} {w : World} {A : Around} {R : Result → Shared → Prop} {I : Addr} {fp wr : List Addr} {G : Array GenState → Array GenState → Prop} {n : Nat} {P : Nat → Value → Prop} {St : Nat → Shared → Prop}
end
section
variable {prog : Program} {w : World} {A : Around} {E : Value → Shared → Prop} {s : Shared}
end
end SetTx
namespace Pk
open PySem PySem.Spec L2
def agw (K : PySem.W.Frag) (ta : TE) : TE := fun σ H Q => ta σ H fun x H1 => ∃ l, ∃ xs : List Str, x = .ref l ∧ SqT K H1 l (xs.map V.str) ∧ xs.length + 1 < scanBound ∧ Q (.int (SetTx.met xs).length) H1
def strsOf : List D → Option (List Str)
 | [] => some []
 | .str z :: l => (strsOf l).map (z :: ·)
 | _ :: _ => none
def agN (h : Hh) (d : D) : Option D := match d with
 | .tup l => (strsOf l).bind fun xs => if xs.length ≤ 1000 then some (.int ((SetTx.met xs).length : Nat)) else none
 | _ => none
section
variable {X : Cx} {T : Tb} {W : WX} {k : Nat} {a o : Expr} {ma mo : M D} {m : Str} {mt : Nat → Option Fn} {p p2 q pos apos : Pos}
end
end Pk
namespace Pk
open PySem PySem.Spec L2
def D.lstOf (h : Hh) (d : D) : Option (List D) := match d with
 | .fl l => some l
 | .kl l => some l
 | .ref n => match h[n]? with
   | some (.nl l) => some l
   | _ => none
 | _ => none
def ajV (h : Hh) (d e : D) : Option Bool := match d.lstOf h, e with
 | some l, .nl [] => some (!l.isEmpty)
 | some l, .fl [] => some (!l.isEmpty)
 | _, _ => none
def ajW (K : PySem.W.Frag) : R2 := fun x y H Q => ∃ a b vs, x = .ref a ∧ y = .ref b ∧ SqL K H a vs ∧ SqL K H b [] ∧ Q (.bl (!vs.isEmpty)) H
section
variable {X : Cx} {T : Tb} {W : WX} {k : Nat}
end
def aiT (K : PySem.W.Frag) (C : Addr) : Bool := PySem.W.plainGet K C Str.empty && (PySem.W.isClsIn K C && (PySem.W.plainOver K C && He.eqO (PySem.W.findIn K (.ref C) "__setattr__") (some (some (.builtin "object.__setattr__")))))
def aiU (K : PySem.W.Frag) (C : Addr) (f : Str) (i : Nat) : Bool := match PySem.W.findIn K (.ref C) f with
 | some (some (.ref p)) => He.eqO (PySem.W.specialIn K (.ref p) "__get__") (some (some (.builtin "member_descriptor.__get__"))) && (decide (PySem.W.takesIn K (.ref p) = some true) && (decide (PySem.W.typeIn K (.ref p) = some (.type "member_descriptor")) &&
   (decide (PySem.W.slotIn K p C = some i) && decide (i < 1000))))
 | _ => false
end Pk
namespace StarU
open PySem PySem.Spec PyProof.Rows L2
section
variable {prog : Program} {w : World} {A : Around} {E : Value → Shared → Prop} {s : Shared}
end
end StarU
namespace Pk
open PySem PySem.Spec PyProof.Rows L2
section
variable {X : Cx} {T : Tb} {W : WX} {k : Nat} {pos p2 pa pb ps ps2 : Pos} {e o : Expr} {m mo : M D} {cs : List MatchCase} {body : List Stmt} {mb mf : M Fl} {pt : Pattern} {ss : List Str} {x a b fn : Str}
def mCs (ss : List Str) (mb : M Fl) (f : Str → M Fl) : Str → M Fl := fun z => if ss.contains z then mb else f z
def ajX (i : Nat) (mb : M Fl) : Str → M Fl := fun z fr h => mb (fr.set i (some (.str z))) h
def aiV (K : PySem.W.Frag) (i j : Nat) : TG := fun v σ H Q => ∃ p x xs, v = .ref p ∧ SqT K H p (x :: xs) ∧ ∀ q, H q = none → Q ((σ.set i (some x)).set j (some (.ref q))) (upd H q (.lst xs))
def ahK (i j : Nat) (d : D) : M Unit := fun fr h => match d with
 | .tup (x :: xs) => .ok () ((fr.set i (some x)).set j (some (.nl xs))) h
 | _ => .err
def aiW (mb : M Fl) : M Fl := fun fr h => match mb fr h with
 | .exc _ _ _ => .err
 | r => r
def aeA : WX := fun _ _ _ _ => False
def aiX (mb mf : M Fl) : M Fl := fun fr h => match mb fr h with
 | .ok .nx fr1 h1 => match mf fr1 h1 with
   | .ok .nx fr2 h2 => .ok .nx fr2 h2
   | _ => .err
 | _ => .err
def gSl (K : PySem.W.Frag) (to : TE) (f : Str) : TG := fun v σ H Q => to σ H fun y H1 => ∃ a C dx p vs i, y = .ref a ∧ SlX.Slt H1 a C dx vs ∧ SlX.SCls K C ∧ SlX.Slot1 K C f p i ∧ Q σ (SlX.slH H1 a C dx (SlX.putS i v vs))
def ajY (ix : Nat → Option Nat) (mo : M D) (d : D) : M Unit := mo.bind fun o fr h => match X7 ix h o d with
 | some h' => .ok () fr h'
 | none => .err
end
end Pk
namespace HotF
open PySem PySem.Spec PyProof.Rows L2
section
variable {X : Cx} {pins : List (Addr × Obj)} {σ : L2.St} {H : Hp} {st : Shared}
def Chain (Z : Obj → Prop) (l : List (Addr × Obj)) : Prop := (∀ o vs, Z o → o.data = .fields vs → vs[2]? = some .none) ∨ ∃ (p : Addr × Obj) (ws : Array Value), (∀ o vs, Z o → o.data = .fields vs → vs[2]? = some (.ref p.1)) ∧ p ∈ l ∧ p.2.data = .fields ws ∧ ws[2]? = some .none
def GX (X : Cx) (W : WX) (u : Value) (s' : Shared) : Prop :=
 ∃ (a : Addr) (B : Heap) (sI : Shared) (pins : List (Addr × Obj)) (σ : L2.St) (H : Hp) (cls : Value) (d : Option Addr) (Z : Obj → Prop),
   u = .ref a ∧ Inv X pins σ H sI ∧ (∀ b o, sI.heap.get? b = some o → b ∉ frs X.stack → B.get? b = some o) ∧ sI.heap.UpToSlots s'.heap ∧
     Sky B X.stack a Z X.env.locals s'.heap ∧ H a = none ∧ s'.os = sI.os ∧ AllBare s'.gens ∧ W cls d σ H ∧ PXN.Steady1 Z ∧ (∀ o, Z o → Zc cls d o) ∧ Chain Z (X.pn ++ pins)
def Zt (X : Cx) (W : WX) : Prop := ∀ u s', GX X W u s' → X.xe u s'
theorem Zt.n {W : WX} (t : Zt X W) : L2N.Takes X W := fun u s' ⟨a, B, sI, pins, σ, H, cls, d, e, I, nb, up, sky, na, os, ag, w⟩ =>
 t u s' ⟨a, B, sI, pins, σ, H, cls, d, L2N.Zn cls d, e, I, nb, up, sky, na, os, ag, w, L2N.Zn.steady, fun _ z => z.zc, .inl fun o vs z q => z.2.2 vs q⟩
def ahL (h : Heap) (a x1 : Addr) : Heap := (h.update a (Obj.mapFields (·.setIfInBounds 3 (.ref x1)))).update a (Obj.mapFields (·.setIfInBounds 4 (.bool true)))
end
section
variable {prog : Program} {w : World} {A : Around} {E : Value → Shared → Prop} {env : Env} {s : Shared} {x c : Sem Value} {Q : Flow → Shared → Prop} {x1 : Addr} {cls1 : Value}
end
section
variable {X : Cx} {pins : List (Addr × Obj)} {σ : L2.St} {H : Hp} {s : Shared}
abbrev ahM (X : Cx) (a : Addr) (pn : List (Addr × Obj)) (E : Value → Shared → Prop) : Cx := (L2H.suiteX X a pn).wish E
def aiY (i : Nat) (Wout : WX) : WX := fun c d σ H => Wout c d (σ.set i none) H
end
section
variable {X : Cx} {x n : Str} {c : Value} {i : Nat} {body suite : List Stmt} {b₀ : Stmt} {np pos pos' : Pos} {tb : WX → TS} {ts : Addr → Value → Option Addr → TS} {Wout : WX}
end
section
variable {X : Cx} {W : WX} {e : Expr} {t : L2.St → Hp → XK → Prop} {i : Nat} {n : Str} {np pos : Pos} {a : Addr} {oe : Obj} {cls1 : Value} {dd : Option Addr}
theorem V1 {x : Value} : PXN.Steady1 (fun o => ∀ vs, o.data = .fields vs → vs[2]? = some x) := fun o v h => by
 obtain ⟨c, d, dt, sl⟩ := o
 cases dt with
 | fields vs0 =>
   intro vs e
   have e2 : vs0.setIfInBounds 1 v = vs := Data.fields.inj e
   subst e2
   exact HotX.set_other (by decide) (h vs0 rfl)
 | _ =>
   intro vs e
   cases e
theorem GX.new {pins : List (Addr × Obj)} {σ : L2.St} {H : Hp} {sI s1 : Shared} {b : Addr} {o : Obj} {vs ws : Array Value} {cls : Value} {d : Option Addr} {p : Addr × Obj} (I : Inv X pins σ H sI) (k : ∀ b o, sI.heap.get? b = some o → s1.heap.get? b = some o) (hne : sI.heap.get? b = none) (hb : s1.heap.get? b = some o)
 (hz : Zc cls d o) (hd : o.data = .fields vs) (h1 : vs[1]? = some .none) (h2 : ∀ vs, o.data = .fields vs → vs[2]? = some (.ref p.1)) (hp : p ∈ X.pn ++ pins) (dp : p.2.data = .fields ws) (cp : ws[2]? = some .none) (na : H b = none) (os : s1.os = sI.os) (ag : AllBare s1.gens) (w : W cls d σ H) : GX X W (.ref b) s1 := by
 refine ⟨b, PySem.W.hideAll sI.heap (frs X.stack), sI, pins, σ, H, cls, d, fun o => Zc cls d o ∧ ∀ vs, o.data = .fields vs → vs[2]? = some (.ref p.1), rfl, I, fun y u g hy => PySem.W.hideAll_get _ g hy, Heap.UpToSlots.of_keeps k,
  .inl ⟨fun y u g => k y u (PySem.W.of_hideAll _ g), ?_, ?_, o, vs, hb, ⟨hz, h2⟩, hd, h1⟩, na, os, ag, w, fun o v q => ⟨⟨PXN.steady_cls o v q.1.1, PXN.steady_dict o v q.1.2⟩, V1 o v q.2⟩, fun _ q => q.1, .inr ⟨p, ws, fun o vs q e => q.2 vs e, hp, dp, cp⟩⟩
 · cases q : (PySem.W.hideAll sI.heap (frs X.stack)).get? b with
   | none => rfl
   | some y =>
     have z := PySem.W.of_hideAll _ q
     rw [hne] at z
     cases z
 · exact Heap.FunFrames.of_keeps (fun y u g _ => ⟨u, k y u g, rfl⟩) (funFrames_none I.stack fun y hy => PySem.W.hideAll_none _ hy)
end
end HotF
namespace Pk
open PySem PySem.Spec PyProof.Rows L2
open PySem.ExS (HJ QW sup HQ Kh)
section
variable {X : Cx} {T : Tb} {W : WX} {k c : Nat} {x : Str} {a : Expr} {es : List Expr} {p pos : Pos} {Ok : Hp → List V → Prop}
end
section
variable {X : Cx} {T : Tb} {W : WX} {k : Nat} {x n : Str} {c : Value} {cond : Nat → Option Bool} {body suite : List Stmt} {b₀ : Stmt} {np pos pos' : Pos} {mb : M Fl} {ms : aH → M Fl}
end
section
variable {P : Program} {w : World} {K : PySem.W.Frag} {mg : Str → Option Value} {base : Heap} {T : Tb} {k : Nat} {x qual : Str} {params : Arguments} {body : List Stmt} {scope : Scope} {dvs : List V} {kws : List (Str × V)} {f : Addr} {fd : FuncData} {N ps : List Str}
abbrev aaC (P : Program) (w : World) (K : PySem.W.Frag) (mg : Str → Option Value) (base : Heap) (N : List Str) (qual : Str) (scope : Scope) (f : Addr) (cdv : Value) (A : Around) (outer : List Env) (s : Shared) (H : Hp) (E : XK) : Cx := cxOf (CX P w) P w K mg base N qual scope f cdv A outer s H E
def aiZ (P : Program) (w : World) (K : PySem.W.Frag) (mg : Str → Option Value) (base : Heap) (T : Tb) (k : Nat) (N : List Str) (qual : Str) (scope : Scope) (body : List Stmt) (m : M Fl) : Prop :=
 ∀ (f : Addr) (cdv : Value) (A : Around) (outer : List Env) (s : Shared) (H : Hp) (E : XK), Cq (aaC P w K mg base N qual scope f cdv A outer s H E) T (WX.up E) k → L2.Takes (aaC P w K mg base N qual scope f cdv A outer s H E) (WX.up E) → wJ (aaC P w K mg base N qual scope f cdv A outer s H E) T (WX.up E) body m
structure agx (P : Program) (w : World) (K : PySem.W.Frag) (mg : Str → Option Value) (base : Heap) (T : Tb) (k : Nat) (f : Addr) (fd : FuncData) (ps : List Str) (F : Fn) : Prop where
 ok : FnOk P w K mg base (CX P w) k f fd ps (spF K T ps.length F)
 kp : PySem.W.keepIn K (.ref f) = true
end
section
variable {X : Cx} {T : Tb} {W : WX} {k kk n : Nat} {f C : Addr} {fd : FuncData} {ps ks : List Str} {F : Fn} {x m : Str} {p pos apos : Pos} {e o : Expr} {es : List Expr} {kws : List Keyword} {mo : M D} {ma mk : M (List D)} {gD : List D → List D → List D}
structure ahN (X : Cx) (T : Tb) (k : Nat) (m : Str) (mt : Nat → Option Fn) (n : Nat) (ks : List Str) (gD : List D → List D → List D) : Prop where
 ex : ∀ c F, mt c = some F → ∃ (kk : Nat) (f : Addr) (fd : FuncData) (ps : List Str), Cls X.K (T.cad c) ∧ Meth X.K (T.cad c) m f ∧ agx X.prog X.w X.K X.mg X.base T kk f fd ps F ∧ Bn X.K T fd ps (n + 1) ks gD ∧ m ∉ T.fld c ∧ kk ≤ k
end
end Pk
namespace Pk
open PySem PySem.Spec PyProof.Rows L2
def ajZ (K : PySem.W.Frag) (C : Addr) (f : Str) : Addr := match PySem.W.takerIn K C f with
 | some (some (.ref p)) => (match PySem.W.recIn K p "property" with
   | some (_ :: .ref g :: _) => g
   | _ => 0)
 | _ => 0
structure afI (K : PySem.W.Frag) (C : Addr) (f : Str) (g : Addr) : Prop where
 ex : ∃ (p : Addr) (a : Value) (rest : List Value), PySem.W.takerIn K C f = some (some (.ref p)) ∧ PySem.W.typeIn K (.ref p) = some (.type "property") ∧ PySem.W.recIn K p "property" = some (a :: .ref g :: rest)
def aj0 (K : PySem.W.Frag) (C : Addr) (f : Str) : Bool := match PySem.W.takerIn K C f with
 | some (some (.ref p)) => decide (PySem.W.typeIn K (.ref p) = some (.type "property")) && (match PySem.W.recIn K p "property" with
   | some (_ :: .ref _ :: _) => true
   | _ => false)
 | _ => false
section
variable {X : Cx} {T : Tb} {W : WX} {k : Nat} {f : Str} {mt : Nat → Option Fn} {e o : Expr} {me mo : M D} {pos tpos : Pos}
structure aj1 (X : Cx) (T : Tb) (k : Nat) (f : Str) (mt : Nat → Option Fn) : Prop where
 ex : ∀ c F, mt c = some F → ∃ (kk : Nat) (g : Addr) (fd : FuncData) (ps : List Str), Cls X.K (T.cad c) ∧ afI X.K (T.cad c) f g ∧ oR X.prog X.w X.K X.mg X.base T kk g fd ps F ∧ Binds X.K fd ps [] ∧ ps.length = 2 ∧ kk + 2 ≤ k
def agy (mt : Nat → Option Fn) (mo me : M D) : M Fl := me.bind fun d => mo.bind fun o fr h => match fnOf mt h o with
 | some F => (match F [o, d] h with
   | .ok _ _ h' => .ok .nx fr h'
   | .exc x _ h' => .exc x fr h'
   | .err => .err)
 | none => .err
end
section
variable {K : PySem.W.Frag} {x qual : Str} {params : Arguments} {body : List Stmt} {scope : Scope} {dvs : List V} {kws : List (Str × V)} {f : Addr} {fd : FuncData} {ps : List Str}
end
end Pk
namespace HotF
open PySem PySem.Spec PyProof.Rows L2
def X8 (A : Around) (x1 : Addr) (h : Heap) : Prop := A.handled = some (.ref x1) ∧ ∃ (o1 : Obj) (vs1 : Array Value), h.get? x1 = some o1 ∧ o1.data = .fields vs1 ∧
 (vs1[2]? = some .none ∨ ∃ (x2 : Addr) (o2 : Obj) (vs2 : Array Value), vs1[2]? = some (.ref x2) ∧ x2 ≠ x1 ∧ h.get? x2 = some o2 ∧ o2.data = .fields vs2 ∧ vs2[2]? = some .none)
theorem X8.ext {A : Around} {x1 : Addr} {h h' : Heap} (c : X8 A x1 h) (k : ∀ b o vs, h.get? b = some o → o.data = .fields vs → vs[2]? = some .none ∨ (∃ x, vs[2]? = some (.ref x)) → h'.get? b = some o) : X8 A x1 h' := by
 obtain ⟨c1, o1, vs1, c2, c3, c4⟩ := c
 rcases c4 with c4 | ⟨x2, o2, vs2, e1, e2, e3, e4, e5⟩
 · exact ⟨c1, o1, vs1, k _ _ _ c2 c3 (.inl c4), c3, .inl c4⟩
 · exact ⟨c1, o1, vs1, k _ _ _ c2 c3 (.inr ⟨_, e1⟩), c3, .inr ⟨x2, o2, vs2, e1, e2, k _ _ _ e3 e4 (.inl e5), e4, e5⟩⟩
section
variable {prog : Program} {w : World} {A : Around} {E : Value → Shared → Prop} {s : Shared}
end
section
variable {X : Cx}
structure ab9 (X : Cx) : Prop where
 ex : ∃ (p : Addr × Obj) (vs1 : Array Value), X.A.handled = some (.ref p.1) ∧ p ∈ X.pn ∧ p.2.data = .fields vs1 ∧
  (vs1[2]? = some .none ∨ ∃ (p2 : Addr × Obj) (vs2 : Array Value), vs1[2]? = some (.ref p2.1) ∧ p2.1 ≠ p.1 ∧ p2 ∈ X.pn ∧ p2.2.data = .fields vs2 ∧ vs2[2]? = some .none)
theorem ab9.at {pins : List (Addr × Obj)} {σ : L2.St} {H : Hp} {s : Shared} (c : ab9 X) (I : Inv X pins σ H s) : ∃ x1, X8 X.A x1 s.heap := by
 obtain ⟨p, vs1, c1, c2, c3, c4⟩ := c.ex
 refine ⟨p.1, c1, p.2, vs1, (I.pin p (List.mem_append_left _ c2)).1, c3, ?_⟩
 rcases c4 with c4 | ⟨p2, vs2, e1, e2, e3, e4, e5⟩
 · exact .inl c4
 · exact .inr ⟨p2.1, p2.2, vs2, e1, e2, (I.pin p2 (List.mem_append_left _ e3)).1, e4, e5⟩
end
end HotF
namespace Pk
open PySem PySem.Spec PyProof.Rows L2
section
variable {X : Cx} {T : Tb} {W : WX} {k : Nat} {pos : Pos} {tgs : List Expr} {is : List Nat} {gs : List D → M Unit}
end
end Pk
namespace HotF
open PySem PySem.Spec PyProof.Rows L2
section
variable {X : Cx} {l : List (Addr × Obj)} {σ : L2.St} {H : Hp} {sI st : Shared} {B h1 : Heap}
end
section
variable {X : Cx} {pins : List (Addr × Obj)} {D : Ends} {u : Value} {st : Shared} {f₀ : Stmt} {fs : List Stmt} {tfs : TS} {Wout : WX}
abbrev ai0 (X : Cx) (pins : List (Addr × Obj)) (D : Ends) (fl : List Stmt) : Value → Shared → Prop := fun y s1 =>
 wpAny (model X.prog X.w) X.A (noteFrame y X.env) (fun _ s2 => FinallyRaised X.prog X.w X.A X.xe X.env fl (SP X pins D) y s2) (FinallyRaised X.prog X.w X.A X.xe X.env fl (SP X pins D)) s1
end
end HotF
namespace Pk
open PySem PySem.Spec PyProof.Rows L2
def ai1 (i : Nat) (cond : Nat → Option Bool) (c n : Nat) (chk : List D → Bool) (mb : M Fl) (ma : aH → M (List D)) : M Fl := fun fr h => match mb fr h with
 | .exc x fr1 h1 => match cond x.c with
   | some true => if i < fr1.length then (match ma x (fr1.set i none) h1 with
     | .ok ds fr2 h2 => if ds.length = n ∧ chk ds = true then .exc ⟨c, ds⟩ (fr2.set i none) h2 else .err
     | _ => .err) else .err
   | some false => .exc x fr1 h1
   | none => .err
 | r => r
section
variable {X : Cx} {T : Tb} {W : WX} {k c n : Nat} {x x2 y : Str} {cv : Value} {cond : Nat → Option Bool} {body : List Stmt} {a : Expr} {es : List Expr} {np np2 p p2 p3 pos pos' : Pos} {mb : M Fl} {ma : aH → M (List D)} {Ok : Hp → List V → Prop} {chk : List D → Bool}
end
def ai2 (mb mf : M Fl) : M Fl := fun fr h => match mb fr h with
 | .ok .nx fr1 h1 => match mf fr1 h1 with
   | .ok .nx fr2 h2 => .ok .nx fr2 h2
   | _ => .err
 | .exc x fr1 h1 => match mf fr1 h1 with
   | .ok .nx fr2 h2 => .exc x fr2 h2
   | _ => .err
 | _ => .err
section
variable {X : Cx} {T : Tb} {W : WX} {k : Nat} {body fs : List Stmt} {f₀ : Stmt} {pos : Pos} {mb mf : M Fl}
end
end Pk
namespace Pk
open PySem PySem.Spec L2
def acE (i : Nat) (j d : D) : M D := fun fr h => match fr[i]? with
 | some (some (.nl l)) => match j with
   | .int k => if 0 ≤ k ∧ k < 2 ^ 62 ∧ l.length < big then .ok .non (fr.set i (some (.nl (l.take k.toNat ++ [d] ++ l.drop k.toNat)))) h else .err
   | _ => .err
 | _ => .err
def ai3 (i : Nat) (mj m : M D) : M D := (cQ i qw).bind fun _ => mj.bind fun j => m.bind fun d => acE i j d
section
variable {X : Cx} {T : Tb} {W : WX} {k : Nat} {apos cpos px : Pos} {e ej : Expr} {m mj : M D}
end
end Pk
namespace Pk
open PySem PySem.Spec PyProof.Rows L2
section
variable {X : Cx} {pins : List (Addr × Obj)} {σ : L2.St} {H : Hp} {s : Shared} {a b : Addr} {r : Value} {d : V} {k : List Key} {A : Around} {E : Value → Shared → Prop}
theorem acF {kvs : List (List Key × V)} {Q : Value → Shared → Prop} (hu : A.units + 1 < cLine) (I : Inv X pins σ H s) (e : H a = some (.dT kvs)) (eb : H b = some (.tup (k.map kV))) (rd : RelV d r) (hl : kvs.length < sizeLine)
 (h1 : ∀ v, valV kvs k = some v → ∀ (w' : Value) (s' : Shared), Inv X pins σ H s' → RelV v w' → Q w' s') (h2 : valV kvs k = none → ∀ (w' : Value) (s' : Shared), Inv X pins σ (upd H a (.dT (putK kvs k d))) s' → RelV d w' → Q w' s') :
 wpAny (model X.prog X.w) A (call (.builtin "dict.setdefault") [.ref a, .ref b, r]) Q E s := by
 obtain ⟨z, hd, xs, rel, dd⟩ := dt_of I.hok e
 have hz : xs.length ≤ sizeLine := by
  rw [← Paired.length rel]
  exact z
 refine call_setdefault_heap (hsz := hz) (tupleKind_room_in1 hu) (key_of I.hok eb) hd dd (fun p hp => ?_) fun hn h' dd' hs => ?_
 · have q := rel.val k
   rw [hp] at q
   cases q0 : valV kvs k with
   | none =>
     rw [q0] at q
     exact (show False from q).elim
   | some v0 =>
     rw [q0] at q
     exact h1 v0 q0 _ _ (I.tok _) q
 · have q := rel.val k
   rw [hn] at q
   cases q0 : valV kvs k with
   | some v0 =>
     rw [q0] at q
     exact (show False from q).elim
   | none =>
     have hl2 : (putK kvs k d).length ≤ sizeLine := by
      have := length_putK kvs k d
      omega
     obtain ⟨q, es, ep, hq, g2, g3, g4, _, g5⟩ := dd'
     refine h2 q0 _ _ (d_write I (by rw [e]; exact True.intro) hs ⟨q, hq⟩ ⟨hl2, hd, _, (rel.put k eb rd).keeps fun c ys ec => ?_, q, es, ep, hq, g2, g3, g4, g5⟩) rd
     rw [upd_ne (ne_of ec e (fun z => nomatch z))]
     exact ec
end
def acG (td ty tx : TE) : TE := fun σ H Q => td σ H fun x H1 => ∃ a, x = .ref a ∧ IsD H1 a ∧ ty σ H1 fun y H2 => tx σ H2 fun z H3 => ∃ (kvs : List (List Key × V)) (k : List Key) (b : Addr), H3 a = some (.dT kvs) ∧ y = .ref b ∧ H3 b = some (.tup (k.map kV)) ∧ kvs.length < sizeLine ∧
 (∀ v, valV kvs k = some v → Q v H3) ∧ (valV kvs k = none → Q z (upd H3 a (.dT (putK kvs k z))))
section
variable {X : Cx} {o e f : Expr} {td ty tx : TE} {apos cpos : Pos}
theorem Zu (hu : X.A.units + 1 < cLine) (ho : PE X o td) (he : PE X e ty) (hf : PE X f tx) (m : M2 X o "setdefault" apos e f cpos) : PE X (.Call (.Attribute o "setdefault" apos) [e, f] [] cpos) (acG td ty tx) := by
 refine ⟨fun pins s σ H Q I h => ?_⟩
 refine wpAny_Call_method m.base m.few m.line PySem.F.plainAttrs_dict PySem.F.slot_dict_setdefault PySem.F.type_dict_setdefault (thn (ho.run pins s σ H _ I h) fun u s1 ⟨x, H1, I1, rx, a, ex, d, q1⟩ => ?_)
 subst ex
 obtain rfl : u = Value.ref a := rx
 obtain ⟨t1, t2, _⟩ := isD_at I1 d
 refine ⟨t1, t2, ?_⟩
 rw [m.trees]
 refine Calls.callWith_builtin rfl (Calls.evalArgs_plain (Calls.spliced_cons (thn (he.run pins s1 σ H1 _ I1 q1) fun iv s2 ⟨y, H2, I2, ry, q2⟩ =>
  Calls.spliced_cons (thn (hf.run pins s2 σ H2 _ I2 q2) fun fv s3 ⟨z, H3, I3, rz, kvs, k, b, ea, ey, eb, hl, q3, q4⟩ => Calls.spliced_nil ?_))))
 subst ey
 obtain rfl : iv = Value.ref b := ry
 exact acF hu I3 ea eb rz hl (fun v hv w' s4 I4 rw' => ⟨v, _, I4, rw', q3 v hv⟩) fun hn w' s4 I4 rw' => ⟨z, _, I4, rw', q4 hn⟩
end
def Dy : D → Option (List Key)
 | .tp l => Mr l
 | _ => none
theorem Va {K : PySem.W.Frag} {T : Tb} {w : Wd} {v : V} {d : D} {k : List Key} (r : bO K T w v d) (e : Dy d = some k) : ∃ b, v = .ref b ∧ w.F b = some (.tup (k.map kV)) := by
 cases d with
 | tp l =>
   cases r with
   | tp s rl =>
     obtain ⟨_, q⟩ := XX e
     obtain rfl := WD rl q
     exact ⟨_, rfl, s⟩
 | _ => cases e
def wW (h : Hh) (o k d : D) : Option (D × Hh) := (lC h o).bind fun x => (Dy k).bind fun kk => if x.2.1.length ≤ big then some (match valD x.2.1 x.2.2 kk with
 | some z => (z, h)
 | none => (d, h.set x.1 (.dc (wV x.2.1 kk) (sO x.2.1 x.2.2 kk d)))) else none
def GF (mo mk mv : M D) : M D := mo.bind fun o fr h => if (lC h o).isSome = true then (mk.bind fun k => mv.bind fun d fr h => match wW h o k d with
 | some (z, h') => .ok z fr h'
 | none => .err) fr h else .err
def zE (h : Hh) (o k : D) : Option D := (lC h o).bind fun x => (Dy k).bind fun kk => valD x.2.1 x.2.2 kk
def GJ (mo mk : M D) : M D := mo.bind fun o => mk.bind fun k fr h => M.opt (zE h o k) fr h
def Bu (h : Hh) (o : D) : Option D := (lC h o).bind fun x => some (.nl (x.2.1.map fun k => .tp (k.map keyB)))
def GP (mo : M D) : M D := mo.bind fun o fr h => M.opt (Bu h o) fr h
section
variable {X : Cx} {T : Tb} {W : WX} {k : Nat} {pos cpos apos p : Pos} {o e f : Expr} {mo mk mv m : M D}
theorem TJ {B : Bs} {w : Wd} {σ : L2.St} {H : Hp} {fr : Fr} {h : Hh} {x : V} {d : D} {n : Nat} {ks : List (List Key)} {ds : List D} (R : Rel X.K T B w σ H fr h) (rx : bO X.K T w x d) (q : lC h d = some (n, ks, ds)) :
 ∃ a vs, x = .ref a ∧ w.I[n]? = some a ∧ h[n]? = some (.dc ks ds) ∧ H a = some (.dT (ks.zip vs)) ∧ ks.length = ds.length ∧ az X.K T w vs ds := by
 obtain ⟨rfl, hc⟩ := X3 q
 cases rx with
 | @ref a n1 s1 =>
   obtain ⟨ob, eH, ro⟩ := R.cel n a _ s1 hc
   cases ro with
   | @dct _ vs _ hl rv => exact ⟨a, vs, rfl, s1, hc, eH, hl, rv⟩
theorem W4 {K : PySem.W.Frag} {w : Wd} {kk : List Key} : ∀ {ks : List (List Key)} {vs : List V} {ds : List D}, ks.length = ds.length → az K T w vs ds → valD ks ds kk = none → valV (ks.zip vs) kk = none
 | [], _, _, _, _, _ => rfl
 | k' :: ks, _, _, hl, .nil, _ => by cases hl
 | k' :: ks, _, _, hl, .cons (v := v) r rs, e => by
   unfold valD at e
   rw [List.zip_cons_cons]
   by_cases c : k' = kk
   · rw [if_pos c] at e
     cases e
   · rw [if_neg c] at e
     exact (valV_neg (p := (k', v)) c).trans (W4 (Nat.succ.inj hl) rs e)
theorem aaD (C : Cq X T W k) (so : aX X T W o mo) (sk : aX X T W e mk) (sv : aX X T W f mv) (m2 : M2 X o "setdefault" apos e f cpos := by exact ⟨by rfl, by rfl, by rfl, by rfl⟩) : aX X T W (.Call (.Attribute o "setdefault" apos) [e, f] [] cpos) (GF mo mk mv) := fun B w σ H fr h Q R p =>
 eV (Zu (by have := C.u; omega) bF bF bF m2) (so B w σ H fr h _ R (aZ.bind (VR := vV X.K T B σ) p fun d fr1 h1 w1 H1 x e1 l1 r1 rx p1 => by
  have p1 : aZ X.K T B W (vV X.K T B σ) w1 σ (if (lC h1 d).isSome = true then (mk.bind fun k => mv.bind fun z fr h => match wW h d k z with
   | some (z, h') => .ok z fr h'
   | none => .err) fr1 h1 else .err) Q := p1
  by_cases hi : (lC h1 d).isSome = true
  · rw [if_pos hi] at p1
    obtain ⟨⟨n, ks, ds⟩, q0⟩ := Option.isSome_iff_exists.mp hi
    obtain ⟨a, vs, rfl, s1, _, eH, _, _⟩ := TJ r1 rx q0
    refine ⟨a, rfl, .inr ⟨_, .inl eH⟩, ?_⟩
    exact sk B w1 σ H1 fr1 h1 _ r1 (aZ.bind (VR := vV X.K T B σ) p1 fun kd fr2 h2 w2 H2 y e2 l2 r2 rk p2 => sv B w2 σ H2 fr2 h2 _ r2 (aZ.bind (VR := vV X.K T B σ) p2 fun zd fr3 h3 w3 H3 u e3 l3 r3 rz p3 => by
     cases q : wW h3 d kd zd with
     | none => rw [q] at p3; exact p3.elim
     | some zz =>
       obtain ⟨z, h4⟩ := zz
       rw [q] at p3
       have p3 : aZ X.K T B W (vV X.K T B σ) w3 σ (.ok z fr3 h4) Q := p3
       unfold wW at q
       cases q1 : lC h3 d with
       | none => rw [q1] at q; cases q
       | some c =>
         obtain ⟨n, kk, ds⟩ := c
         rw [q1] at q
         cases q2 : Dy kd with
         | none => rw [q2] at q; cases q
         | some k1 =>
           rw [q2] at q
           have q : (if kk.length ≤ big then some (match valD kk ds k1 with
            | some z => (z, h3)
            | none => (zd, h3.set n (.dc (wV kk k1) (sO kk ds k1 zd)))) else none) = some (z, h4) := q
           by_cases hb : kk.length ≤ big
           · rw [if_pos hb] at q
             obtain ⟨a', vs, ea, s1, hc, eH, hl, rv⟩ := TJ r3 (rx.mono (Wd.le_trans l2 l3)) q1
             cases ea
             obtain ⟨b, rfl, hbF⟩ := Va (rk.mono l3) q2
             have hlv : kk.length = vs.length := hl.trans rv.length.symm
             refine ⟨kk.zip vs, k1, b, eH, rfl, r3.sub _ _ hbF, ?_, fun v hv => ?_, fun hn => ?_⟩
             · rw [List.length_zip, ← hlv, Nat.min_self]
               exact Nat.lt_of_le_of_lt hb (by decide)
             · cases q3 : valD kk ds k1 with
               | none =>
                 rw [W4 hl rv q3] at hv
                 cases hv
               | some z' =>
                 rw [q3] at q
                 cases q
                 obtain ⟨v', hv', rz'⟩ := Qc rv q3
                 rw [hv] at hv'
                 cases hv'
                 exact p3 w3 _ v (Wd.le_refl _) r3 rz'
             · cases q3 : valD kk ds k1 with
               | some z' =>
                 obtain ⟨v', hv', _⟩ := Qc rv q3
                 rw [hn] at hv'
                 cases hv'
               | none =>
                 rw [q3] at q
                 cases q
                 have R3 := r3.change_cell s1 hc (qO.dct (ks := wV kk k1) (vs := sO kk vs k1 u) (ds := sO kk ds k1 zd) (acA hl) (Zi rz rv))
                 rw [← aaw hlv] at R3
                 exact p3 w3 _ u (Wd.le_refl _) R3 rz
           · rw [if_neg hb] at q
             cases q))
  · rw [if_neg hi] at p1
    exact p1.elim))
theorem aaE (C : Cq X T W k) (so : aX X T W o mo) (sk : aX X T W e mk) (hs : NoSl e := by intro _ _; rfl) : aX X T W (.Subscript o e pos) (GJ mo mk) := fun B w σ H fr h Q R p =>
 eV (pe_dget (by have := C.u; omega) bF bF hs) (so B w σ H fr h _ R (aZ.bind (VR := vV X.K T B σ) p fun d fr1 h1 w1 H1 x e1 l1 r1 rx p1 =>
  sk B w1 σ H1 fr1 h1 _ r1 (aZ.bind (VR := vV X.K T B σ) p1 fun kd fr2 h2 w2 H2 y e2 l2 r2 rk p2 => by
   cases q : zE h2 d kd with
   | none => rw [q] at p2; exact p2.elim
   | some z =>
     rw [q] at p2
     unfold zE at q
     cases q1 : lC h2 d with
     | none => rw [q1] at q; cases q
     | some c =>
       obtain ⟨n, kk, ds⟩ := c
       rw [q1] at q
       cases q2 : Dy kd with
       | none => rw [q2] at q; cases q
       | some k1 =>
         rw [q2] at q
         have q : valD kk ds k1 = some z := q
         obtain ⟨a, vs, rfl, s1, hc, eH, hl, rv⟩ := TJ r2 (rx.mono l2) q1
         obtain ⟨b, rfl, hbF⟩ := Va rk q2
         obtain ⟨v, hv, rz⟩ := Qc rv q
         have g := DGet.t (k := k1) eH (r2.sub _ _ hbF)
         rw [hv] at g
         exact ⟨a, v, rfl, g, p2 w2 _ v (Wd.le_refl _) r2 rz⟩)))
end
section
variable {prog : Program} {w : World} {A : Around} {E : Value → Shared → Prop} {s : Shared} {d r : Addr} {o : Obj} {es : Array DictEntry} {ep : Nat}
theorem Zv (hv : PySem.W.KdlKeysView s.heap r d) (ho : s.heap.get? d = some o) (hdat : o.data = .dict es ep) {Q : Value → Shared → Prop}
 (hQ : Q (.ref s.heap.objs.size) { s with heap := s.heap.push { cls := .type "dict_keyiterator", data := .fields #[.ref d, .int 0 0, .int es.size 0, .int ep 0] } }) :
 wpAny (model prog w) A (pyIter (.ref r)) Q E s := by
 obtain ⟨ov, hov, hcv, hdv⟩ := id hv
 refine wpAny_pyIter_slot hv.typeIs PySem.W.kdl_slot_keys_iter (wpAny_call_entry PySem.W.kdl_slot_keys_iter hv.typeIs PySem.W.kdl_entry_keys_iter ?_ (PySem.W.kdl_args_keys_iter _))
 unfold Builtin.«dict_keys.__iter__»
 refine wpAny_bind (wpAny_pure ?_)
 refine wpAny_bind ?_
 unfold Builtin.Dict_items.dictOf
 refine wpAny_bind (wpAny_field hov hdv (x := .ref d) rfl (wpAny_pure ?_))
 refine wpAny_bind ?_
 unfold Builtin.Dict_items.newIterator
 refine wpAny_bind (wpAny_dictEntries ho hdat ?_)
 refine wpAny_bind (wpAny_dictEpoch ho hdat ?_)
 have hown : Builtin.Dict_items.ownsTuple "dict_keyiterator" = false := by decide
 simp only [hown, Bool.false_eq_true, if_false]
 refine wpAny_newObj_type (wpAny_pure ⟨_, rfl, "dict_keyiterator", _, ⟨_, Heap.get?_push_size _ rfl, rfl⟩, PySem.F.slot_dict_keyiterator_next.lookup, ?_⟩)
 simpa [rawInt] using hQ
theorem aaF (hd : o.data = .dict es ep) :
 PySem.W.KdlSrc prog w "dict_keys" r d es.size (fun i v => ∃ en : DictEntry, es[i]? = some en ∧ v = en.key) (fun h => PySem.W.KdlKeysView h r d ∧ h.get? d = some o) where
 type := fun _ hm => hm.1.typeIs
 there := fun _ hm => ⟨let ⟨_, ho, _⟩ := hm.1; Heap.lt_size ho, Heap.lt_size hm.2⟩
 keep := fun _ _ hm hk => ⟨let ⟨o, ho, x⟩ := hm.1; ⟨o, hk r (.inl rfl) o ho, x⟩, hk d (.inr rfl) _ hm.2⟩
 notList := by decide
 notTuple := by decide
 hint := fun _ _ _ _ hm hq => PySem.W.kdl_hint_keys hm.1.typeIs hq
 iter := fun _ s hh hm => ⟨_, _, (fun _ _ hq => Zv hm.1 hm.2 hd hq), walks_raw hh _ d (Nat.ne_of_lt (Heap.lt_size hm.2)) hd, ⟨⟨_, Heap.get?_push_size _ rfl, rfl, rfl⟩, Heap.get?_push_of_some _ hm.2⟩⟩
theorem V2 {K : Type} [DecidableEq K] (knd : HeapKind prog w K) (d : Addr) (hd : (d == sysModules) = false) :
 MeetsIn prog w (Builtin.«dict.keys» ⟨[.ref d], []⟩) (fun _ R s => (∃ xs, s.heap.DictOfH knd d xs) ∧
  R (.ok (.ret (.ref s.heap.objs.size))) { s with heap := s.heap.push { cls := .type "dict_keys", data := .fields #[.ref d] } }) :=
 .of_wp fun A R s ⟨⟨kvs, hm⟩, h⟩ => by
  refine wpAny_bind ?_
  unfold Builtin.Dict.noArgs
  refine wpAny_bind (wpAny_notOrdered_dict hm.typeIs ?_)
  show wpAny _ _ (pure d) _ _ s
  refine wpAny_pure ?_
  show wpAny _ _ (Builtin.Dict.showsAll d >>= _) _ _ s
  unfold Builtin.Dict.showsAll
  rw [if_neg (by rw [hd]; exact Bool.false_ne_true)]
  refine wpAny_bind (wpAny_pure ?_)
  exact wpAny_bind (wpAny_newObj_type (wpAny_pure ⟨_, rfl, h⟩))
end
section
variable {X : Cx} {e : Expr} {td : TE} {apos cpos p pos : Pos}
def Zw (td : TE) : TE := fun σ H Q => td σ H fun x H1 => ∃ d kvs, x = .ref d ∧ H1 d = some (.dT kvs) ∧ ∀ q bs, H1 q = none → IsKeys H1 kvs bs → Q (.ref q) (upd H1 q (.lst (bs.map V.ref)))
theorem Vb (hc : X.calm = true) (hg : Gl X "list") (hm : X.mg "list" = none) (he : PE X e td) (hbase : attributeBase e "keys" X.env (eval e X.env) = eval e X.env := by rfl) (hline : (apos.endLine == cpos.line) = true := by rfl)
 (na : starEach [Expr.Call (.Attribute e "keys" apos) [] [] cpos] X.env = (false, eval (.Call (.Attribute e "keys" apos) [] [] cpos) X.env) :: starEach [] X.env := by rfl) :
 PE X (.Call (.Name "list" p) [.Call (.Attribute e "keys" apos) [] [] cpos] [] pos) (Zw td) := by
 refine ⟨fun pins s σ H Q I h => ?_⟩
 refine Call_ (ld_blt I hg hm boot_list (PyProof.Rows.callWith_type1 (args_cons ?_ na) na))
 refine wpAny_Call_method (T := "dict") (id := "dict.keys") hbase rfl hline PySem.F.plainAttrs_dict PySem.F.slot_dict_keys PySem.F.type_dict_keys (thn (he.run pins s σ H _ I h) fun u s1 ⟨x, H1, I1, rx, d, kvs, ex, hd, q⟩ => ?_)
 subst ex
 obtain rfl : u = Value.ref d := rx
 obtain ⟨t1, t2, hs⟩ := isD_at I1 (.inr ⟨_, .inl hd⟩)
 refine ⟨t1, t2, ?_⟩
 have I2 : Inv X pins σ H1 { s1 with heap := s1.heap.push { cls := .type "dict_keys", data := .fields #[.ref d] } } := I1.kept (t' := s1.toks) fun b ob q => Heap.get?_push_of_some _ q
 show wpAny _ _ (callWith cpos (.builtin "dict.keys") [.ref d] [] []) _ X.xe s1
 obtain ⟨_, _, xs0, _, dd⟩ := dt_of I1.hok hd
 refine method_meetsIn PySem.F.slot_dict_keys PySem.F.entry_dict_keys rfl (PySem.evalArgs_none ⟨rfl, dd.typeIs, PySem.F.args_dict_keys_1 _, _, V2 (tupleKind (mixKind X.prog X.w)) d hs, ⟨xs0, dd⟩, args_nil ?_⟩)
 obtain ⟨z, _, ks, pr, o, es, ep, ho, hx, hdt, he2, hn⟩ := (show ObjOk X.prog X.w H1 s1.heap d (.dT kvs) from I1.hok d _ hd)
 have l1 : es.size = ks.length := size_of_entries he2
 have l2 : kvs.length = ks.length := Paired.length pr
 have dv : PySem.W.KdlKeysView (s1.heap.push { cls := .type "dict_keys", data := .fields #[.ref d] }) s1.heap.objs.size d := ⟨_, Heap.get?_push_size _ rfl, rfl, rfl⟩
 refine PySem.W.kdl_call (aaF (r := s1.heap.objs.size) hdt) (I1.ok.hd hc) ⟨dv, Heap.get?_push_of_some _ ho⟩ (by omega) fun h' tk acc' c' kp e it => ?_
 have ea : acc'.toList = ks.map fun x => Value.ref x.2.1 := by
  have hl : acc'.toList.length = ks.length := by rw [Array.length_toList, it.1]; exact l1
  apply List.ext_getElem?
  intro j
  rw [ak5]
  cases hj : acc'.toList[j]? with
  | none =>
    have h1 := List.getElem?_eq_none_iff.mp hj
    rw [alq (by omega)]
    all_goals rfl
  | some v =>
    obtain ⟨en, hen, hv⟩ := it.2 j v (by rw [← Array.getElem?_toList]; exact hj)
    have qe := entry_at he2 j
    rw [hen] at qe
    cases hb : ks[j]? with
    | none =>
      rw [hb] at qe
      exact nomatch (show some en = none from qe)
    | some b =>
      rw [hb] at qe
      have e2 : en = entryOfKey (tupleKind (mixKind X.prog X.w)) b := Option.some.inj qe
      rw [hv, e2]
      all_goals rfl
 have eb : acc'.toList = (ks.map fun x => x.2.1).map Value.ref := by rw [ea, alc]; all_goals rfl
 have rv : Vals ((ks.map fun x => x.2.1).map V.ref) acc'.toList := by rw [eb]; exact vals_refs _
 have hz : ((ks.map fun x => x.2.1).map V.ref).length ≤ sizeLine := by rw [akW, akW]; omega
 refine ⟨.ref _, upd H1 (s1.heap.push { cls := .type "dict_keys", data := .fields #[.ref d] }).objs.size (.lst ((ks.map fun x => x.2.1).map V.ref)), I2.laid (t' := tk) kp (Nat.le_refl _) ?_, rfl, q _ _ (I2.hok.fresh (Nat.le_refl _)) (isKeys_of pr)⟩
 exact ⟨hz, acc'.toList, c', rv, by rw [Array.toArray_toList]; exact e⟩
end
section
variable {X : Cx} {T : Tb} {W : WX} {k : Nat} {pos cpos apos p : Pos} {o : Expr} {mo : M D}
theorem Ql {B : Bs} {σ : L2.St} {H : Hp} {fr : Fr} {h : Hh} : ∀ {ks : List (List Key)} {bs : List Addr} {w : Wd}, Rel X.K T B w σ H fr h → Paired (fun (k : List Key) b => H b = some (.tup (k.map kV))) ks bs →
 ∃ w', w.le w' ∧ Rel X.K T B w' σ H fr h ∧ az X.K T w' (bs.map V.ref) (ks.map fun k => .tp (k.map keyB))
 | [], _, w, R, .nil => ⟨w, Wd.le_refl w, R, .nil⟩
 | k :: ks, _, w, R, .cons (b := b) e t => by
   obtain ⟨l1, R1⟩ := R.adopt e
   obtain ⟨w', l2, R2, rs⟩ := Ql R1 t
   refine ⟨w', Wd.le_trans l1 l2, R2, .cons (.tp (l2.1 _ _ ?_) (W3 k)) rs⟩
   show upd w.F b _ b = _
   rw [upd_same]
theorem RQ {H : Hp} : ∀ {ks : List (List Key)} {vs : List V} {bs : List Addr}, ks.length = vs.length → IsKeys H (ks.zip vs) bs → Paired (fun (k : List Key) b => H b = some (.tup (k.map kV))) ks bs
 | [], _, _, _, r => by
   cases r
   exact .nil
 | k :: ks, [], _, hl, _ => by cases hl
 | k :: ks, v :: vs, _, hl, r => by
   cases r with
   | cons e t => exact .cons e (RQ (Nat.succ.inj hl) t)
theorem aaG (C : Cq X T W k) (so : aX X T W o mo) (hm : X.mg "list" = none) (hg : Gl X "list" := by rfl) (hbase : attributeBase o "keys" X.env (eval o X.env) = eval o X.env := by rfl) (hline : (apos.endLine == cpos.line) = true := by rfl)
 (na : starEach [Expr.Call (.Attribute o "keys" apos) [] [] cpos] X.env = (false, eval (.Call (.Attribute o "keys" apos) [] [] cpos) X.env) :: starEach [] X.env := by rfl) :
 sG X T W (.Call (.Name "list" p) [.Call (.Attribute o "keys" apos) [] [] cpos] [] pos) (GP mo) := fun B w σ H fr h Q R pp =>
 eV (Vb C.calm hg hm bF hbase hline na) (so B w σ H fr h _ R (aZ.bind (VR := vV X.K T B σ) pp fun d fr1 h1 w1 H1 x e1 l1 r1 rx p1 => by
  cases q : Bu h1 d with
  | none => rw [q] at p1; exact p1.elim
  | some z =>
    rw [q] at p1
    unfold Bu at q
    cases q1 : lC h1 d with
    | none => rw [q1] at q; cases q
    | some c =>
      obtain ⟨n, kk, ds⟩ := c
      rw [q1] at q
      cases q
      obtain ⟨a, vs, rfl, s1, hc, eH, hl, rv⟩ := TJ r1 rx q1
      refine ⟨a, _, rfl, eH, fun q bs nq ik => ?_⟩
      obtain ⟨w2, l2, R2, rs⟩ := Ql r1 (RQ (hl.trans rv.length.symm) ik)
      exact yh R2 rs nq fun w3 H3 v l3 R3 rv => p1 w3 H3 v (Wd.le_trans l2 l3) R3 rv))
end
def Ag (h : Hh) (d : D) : Option D := match d.der h with
 | .fl l => some (.tp l)
 | .nl l => some (.tp l)
 | _ => none
section
variable {X : Cx} {T : Tb} {W : WX} {pf pos : Pos} {a : Expr} {ma : M D}
theorem Vc {K : PySem.W.Frag} {B : Bs} {w : Wd} {σ : L2.St} {H : Hp} {fr : Fr} {h : Hh} {p : Addr} {vs : List V} {ds : List D} {Q : V → Hp → Prop} (R : Rel K T B w σ H fr h) (r : az K T w vs ds) (np : H p = none)
 (q : ∀ w' H' v, w.le w' → Rel K T B w' σ H' fr h → bO K T w' v (.tp ds) → Q v H') : Q (.ref p) (upd H p (.tup vs)) :=
 q (w.add p (.tup vs)) _ _ (Wd.le_add (R.nP np).1) (R.laid np) (.tp (by show upd w.F p _ p = _; rw [upd_same]) (r.mono (Wd.le_add (R.nP np).1)))
theorem RX (sa : Dk X T W a ma) (hm : X.mg "tuple" = none) (hg : Gl X "tuple" := by rfl) (he : starEach (a :: []) X.env = (false, eval a X.env) :: starEach [] X.env := by exact eE rfl) : aX X T W (.Call (.Name "tuple" pf) [a] [] pos) (aJ Ag ma) :=
 XF (id := "tuple") sa (fun B w σ H fr h x d z Q R rx q k => by
  unfold Ag at q
  split at q
  · rename_i l hd
    cases q
    obtain ⟨p, vs, rfl, rl, sq⟩ := ym R rx (.inl hd)
    exact iU call_tuple_of ⟨p, vs, rfl, .inl ⟨sq, fun q nq => Vc R rl nq k⟩⟩
  · rename_i l hd
    cases q
    obtain ⟨p, vs, rfl, rl, sq⟩ := ym R rx (by first | exact .inr (.inl hd) | exact .inr (.inr hd))
    exact iU call_tuple_of ⟨p, vs, rfl, .inl ⟨sq, fun q nq => Vc R rl nq k⟩⟩
  · cases q) hm hg (by decide +kernel) (by decide) (by decide) he
end
def Ah (mo mj : M D) (d : D) : M Unit := mo.bind fun o => mj.bind fun j => eZ o (pG j d)
section
variable {X : Cx} {T : Tb} {W : WX} {tpos : Pos} {o j : Expr} {mo mj : M D}
theorem Zx (so : aX X T W o mo) (sj : aX X T W j mj)
 (ha : ∀ v, assign (.Subscript o j tpos) X.env v = (do
  let ov ← holding [v] (eval o X.env)
  let iv ← holding [v, ov] (eval j X.env)
  standAt tpos
  holding [v, ov, iv] (setItem ov iv v)
  release [v, ov, iv] []) := by intro _; rfl) : zQ X T [] (.Subscript o j tpos) (Ah mo mj) := fun B w σ H fr h v d Q R rd p => by
 refine XJ (pg_sub bF bF set_list ha) (so B w σ H fr h _ R ?_)
 unfold Ah at p
 cases e : mo fr h with
 | err => rw [M.bind_err e] at p; exact p.elim
 | exc y fr1 h1 => rw [M.bind_exc e] at p; exact p.elim
 | ok od fr1 h1 =>
   rw [M.bind_ok e] at p
   intro w1 H1 y l1 r1 ry
   have ry : bO X.K T w1 y od := ry
   refine sj B w1 σ H1 fr1 h1 _ r1 ?_
   cases e2 : mj fr1 h1 with
   | err => rw [M.bind_err e2] at p; exact p.elim
   | exc y fr1 h1 => rw [M.bind_exc e2] at p; exact p.elim
   | ok jd fr2 h2 =>
     rw [M.bind_ok e2] at p
     intro w2 H2 jv l2 r2 rj
     have rj : bO X.K T w2 jv jd := rj
     rcases Um (f := pG jd d) r2 (ry.mono l2) with q | ⟨fr3, h3, q, z⟩
     · rw [q] at p
       exact p.elim
     · rw [q] at p
       exact Y9 z (rd.mono (Wd.le_trans l1 l2)) rj fun H' R' => p w2 σ H' (Wd.le_trans l1 l2) R' ⟨rfl, fun _ _ => rfl⟩
end
section
variable {prog : Program} {w : World} {A : Around} {E : Value → Shared → Prop} {s : Shared}
theorem Yb (n : Nat) : sliceBounds none none none n = (0, (n : Int), 1) := by
 simp only [sliceBounds, Option.getD_none]
 rfl
set_option maxRecDepth 100000 in
theorem V3 {l b sl : Addr} {items new : Array Value} {n n2 : Nat} {Q : Unit → Shared → Prop}
 (e : s.heap.get? l = some { cls := .type "list", data := .seq items n }) (e2 : s.heap.get? b = some { cls := .type "list", data := .seq new n2 }) (hne : l ≠ b)
 (hs : s.heap.IsSliceOf sl .none .none .none) (hsz : items.size + new.size ≤ sizeLine) (h : Q () { s with heap := s.heap.update l (Obj.mapSeq fun xs => xs.extract 0 0 ++ new ++ xs.extract items.size xs.size) }) :
 wpAny (model prog w) A (setItem (.ref l) (.ref sl) (.ref b)) Q E s := by
 have hl : s.heap.IsList l items := PySem.IsL.isList e
 have hb : s.heap.IsList b new := PySem.IsL.isList e2
 obtain ⟨os, hos, hcs, hds⟩ := id hs
 have hTs : s.TypeIs (.ref sl) "slice" := ⟨os, hos, hcs⟩
 have hstep : ¬ ((rawPart none == rawInt 0) = true) := Bool.false_ne_true
 have hsame : Builtin.List.listSameRef (.ref l) (.ref b) = false := by
  unfold Builtin.List.listSameRef
  exact beq_eq_false_iff_ne.mpr hne
 have hmax : (max (0 : Int) (items.size : Int)).toNat = items.size := by omega
 have hz' : ((fun xs : Array Value => xs.extract 0 0 ++ new ++ xs.extract items.size xs.size) items).size ≤ sizeLine + 1 := by
  simp only [Array.size_append, Array.size_extract]
  omega
 unfold setItem
 try with_reducible refine wpAny_holding ?_
 first | refine wpAny_bind (wpAny_pure ?_) | skip
 refine wpAny_bind (wpAny_sequenceKey hl.typeIs (by decide) ?_)
 refine wpAny_bind (wpAny_callSpecial?_slot (name := Str.ofString "__setitem__") hl.typeIs slot_list_setitem
  (wpAny_call_entry slot_list_setitem hl.typeIs entry_list_setitem ?_ (args_list_setitem _ _ _)))
 show wpAny _ _ (Builtin.List.listSubscript? (.ref sl) >>= _) _ _ s
 refine wpAny_bind ?_
 unfold Builtin.List.listSubscript?
 refine wpAny_bind (wpAny_specialOf hTs slice_no_index ?_)
 simp only [Option.isNone_none, if_true]
 refine wpAny_pure ?_
 show wpAny _ _ (typeOf (.ref sl) >>= _) _ _ s
 refine wpAny_bind (wpAny_typeOf hTs ?_)
 first
  | rw [if_neg (by decide)]
  | refine PySem.W.KFB.if_not (by decide) ?_
 rw [listSliceParts_eq]
 refine wpAny_bind (wpAny_bind (wpAny_field hos hds (x := .none) rfl (wpAny_bind (wpAny_listPart .none ?_))))
 rw [if_neg hstep]
 refine wpAny_bind (wpAny_field hos hds (x := .none) rfl (wpAny_bind (wpAny_listPart .none ?_)))
 refine wpAny_bind (wpAny_field hos hds (x := .none) rfl (wpAny_bind (wpAny_listPart .none (wpAny_pure ?_))))
 first
  | simp only [hsame, Bool.false_eq_true, if_false]
  | refine PySem.W.KFB.if_not hsame ?_
  | (dsimp only
     rw [if_neg (by rw [hsame]; exact Bool.false_ne_true)])
 refine wpAny_bind (m := Builtin.List.listAllItems (.ref b) "must assign iterable to extended slice") ?_
 unfold Builtin.List.listAllItems
 refine wpAny_bind (wpAny_typeOf hb.typeIs ?_)
 first
  | refine PySem.W.KFB.if_so (by decide) ?_
  | rw [if_pos (by decide)]
  | simp only [beq_self_eq_true, Bool.true_or, if_true]
 unfold Builtin.List.listItems
 refine wpAny_bind (wpAny_seqItems e2 rfl (wpAny_pure ?_))
 refine wpAny_bind (wpAny_bind (wpAny_seqItems e rfl (wpAny_pure ?_)))
 refine wpAny_bind (wpAny_of_eq ((sliceIndices_raw none none none items.size (by simp)).trans (congrArg (pure : Int × Int × Int → Sem (Int × Int × Int)) (Yb _))) ?_)
 show wpAny _ _ (if ((1 : Int) == 1) = true then _ else _) _ _ s
 rw [if_pos (by decide)]
 refine wpAny_bind (wpAny_rule ?_)
 first
  | simp only [L2.notLongL hsz, Bool.false_eq_true, if_false]
  | refine PySem.W.KFB.if_not (L2.notLongL hsz) ?_
 first | refine wpAny_bind (wpAny_pure ?_) | skip
 show wpAny _ _ (updateSeq l (fun xs => xs.extract 0 ((0 : Int)).toNat ++ new ++ xs.extract (max (0 : Int) (items.size : Int)).toNat xs.size) >>= _) _ _ s
 rw [hmax]
 refine wpAny_bind (wpAny_updateSeq (hz := Nat.le_trans (Nat.le_add_right _ _) hsz) (_hz' := hz') e rfl ?_)
 refine wpAny_bind (wpAny_letGo ?_)
 first
  | exact wpAny_bind (wpAny_pure (wpAny_pure ⟨.none, rfl, wpAny_pure h⟩))
  | exact wpAny_pure ⟨.none, rfl, wpAny_pure h⟩
end
section
variable {X : Cx}
theorem acH {pins : List (Addr × Obj)} {s : Shared} {σ : L2.St} {H : Hp} {l b sl : Addr} {xs ys : List V} {Q : Unit → Shared → Prop} (I : Inv X pins σ H s)
 (hH : H l = some (.lst xs)) (hB : H b = some (.lst ys)) (hne : l ≠ b) (hs : s.heap.IsSliceOf sl .none .none .none) (hz : xs.length + ys.length ≤ sizeLine) (h : ∀ s', Inv X pins σ (upd H l (.lst ys)) s' → Q () s') :
 wpAny (model X.prog X.w) X.A (setItem (.ref l) (.ref sl) (.ref b)) Q X.xe s := by
 obtain ⟨z, its, n, r, hl, e⟩ := I.lstM hH
 obtain ⟨z2, its2, n2, r2, hl2, e2⟩ := I.lstM hB
 refine V3 e e2 hne hs (by rw [List.size_toArray, List.size_toArray]; omega) (h _ ?_)
 have ey : its.take 0 ++ its2 ++ its.drop its.length = its2 := by simp
 refine I.lset (its' := its2) (t' := s.toks) hH e ?_ r2 (by omega)
 have := L2.splice_eq its its2 0 its.length
 rw [ey] at this
 rw [List.size_toArray]
 exact this
def agz (to : TE) : TG := fun x σ H Q => to σ H fun y H1 => ∃ l b xs ys, y = V.ref l ∧ x = V.ref b ∧ H1 l = some (.lst xs) ∧ H1 b = some (.lst ys) ∧ l ≠ b ∧ xs.length + ys.length ≤ sizeLine ∧ Q σ (upd H1 l (.lst ys))
theorem aeB {o : Expr} {to : TE} {p2 pos : Pos} (ho : PE X o to)
 (ha : ∀ v, assign (.Subscript o (.Slice none none none p2) pos) X.env v = (do
  let ov ← holding [v] (eval o X.env)
  let iv ← holding [v, ov] (eval (.Slice none none none p2) X.env)
  standAt pos
  holding [v, ov, iv] (setItem ov iv v)
  release [iv, v, ov] []) := by intro _; rfl) : PG X (.Subscript o (.Slice none none none p2) pos) (agz to) := by
 refine ⟨fun pins s σ H v u Q I r h => ?_⟩
 rw [ha]
 refine wpAny_bind (wpAny_holding (thn (ho.run pins s σ H _ I h) fun ov s1 ⟨y, H1, I1, r1, l, b, xs, ys, ey, ex, hl, hb, ne, hz, q⟩ => ?_))
 subst ey ex
 obtain rfl : ov = Value.ref l := r1
 obtain rfl : u = Value.ref b := r
 refine wpAny_bind (wpAny_holding ?_)
 refine wpAny_Slice ?_
 rw [evalPart_none]
 refine wpAny_pure ?_
 refine wpAny_pure ?_
 refine wpAny_pure ?_
 have I2 : Inv X pins σ H1 { s1 with heap := s1.heap.push { cls := .type "slice", data := .fields #[.none, .none, .none] } } := I1.kept (t' := s1.toks) fun b ob q => Heap.get?_push_of_some _ q
 refine wpAny_bind (wpAny_standAt (wpAny_bind (wpAny_holding (acH I2 hl hb ne (Heap.IsSliceOf.new ..) hz fun s3 I3 => ?_))))
 exact wpAny_release ⟨σ, _, I3, q⟩
end
def KC (d : D) (l : List D) : Option (List D) := match d with
 | .fl m => if l.length ≤ big ∧ m.length ≤ big then some m else none
 | _ => none
def Bb (mo m : M D) : M Fl := m.bind fun d => mo.bind fun o => (eZ o (KC d)).bind fun _ => M.ret .nx
section
variable {X : Cx} {T : Tb} {W : WX} {p2 pos tpos : Pos} {o e : Expr} {mo m : M D}
theorem aaH (so : aX X T W o mo) (s : aX X T W e m)
 (ha : ∀ v, assign (.Subscript o (.Slice none none none p2) tpos) X.env v = (do
  let ov ← holding [v] (eval o X.env)
  let iv ← holding [v, ov] (eval (.Slice none none none p2) X.env)
  standAt tpos
  holding [v, ov, iv] (setItem ov iv v)
  release [iv, v, ov] []) := by intro _; rfl)
 (hs : swapsWithSole [.Subscript o (.Slice none none none p2) tpos] e pos.line X.env = pure false := by rfl) (hw : swappedStores [.Subscript o (.Slice none none none p2) tpos] e X.env = pure none := by rfl)
 (h1 : (assignEach [.Subscript o (.Slice none none none p2) tpos] X.env).map (·.2) = [assign (.Subscript o (.Slice none none none p2) tpos) X.env] := by rfl) : sJ X T W (.Assign [.Subscript o (.Slice none none none p2) tpos] e pos) (Bb mo m) := fun B w σ H fr h D R p =>
 qp (ps_asg bF (aeB bF ha) hs hw h1) (s B w σ H fr h _ R (dh.bind (VR := vV X.K T B σ) p fun d fr1 h1 w1 H1 v e1 l1 r1 rx p1 => so B w1 σ H1 fr1 h1 _ r1 (dh.bind (VR := vV X.K T B σ) p1 fun od fr0 h0 w0 H0 ov e0 l0 r0 ro p0 => by
  have p2' : dh X.K T B W w0 ((eZ od (KC d)).bind (fun _ => M.ret .nx) fr0 h0) D := p0
  rcases Um (f := KC d) r0 ro with q | ⟨fr3, h3, q, z⟩
  · rw [M.bind_err q] at p2'
    exact p2'.elim
  · rw [M.bind_ok q] at p2'
    obtain ⟨nn, rfl⟩ : ∃ n, od = .ref n := by
     cases od <;> first
      | exact ⟨_, rfl⟩
      | (unfold eZ at q; cases q)
    obtain ⟨p, vs, l, l', rfl, eq, r, ef, k⟩ := z
    unfold KC at ef
    split at ef
    · rename_i mm
      split at ef
      · rename_i hb
        cases ef
        cases rx.mono l0 with
        | @fl b us _ fb ru =>
          have hB := r0.sub _ _ fb
          have hI : p ≠ b := fun z => by
           cases ro with
           | ref s1 =>
             have := r0.dis _ (ald s1)
             rw [z, fb] at this
             cases this
          refine ⟨p, b, vs, us, rfl, rfl, eq, hB, hI, ?_, p2' w0 σ _ (Wd.le_refl _) (k us ru)⟩
          rw [r.length, ru.length]
          have : big + big ≤ sizeLine := by decide
          omega
      · cases ef
    · cases ef)))
end
end Pk
namespace Pk
open PySem PySem.Spec PyProof.Rows L2
def Zy : kE It ((Hh → Prop) × List D) := fun K T _ _ w _ _ J x => ∀ i w1 B1 σ1 H1 fr1 h1, w.le w1 → Rel K T B1 w1 σ1 H1 fr1 h1 → x.1 h1 →
 (x.2.length ≤ i → J.stop i H1) ∧ ∀ d, x.2[i]? = some d → J.go i H1 ∧ ∀ y H2, J.yld i H1 y H2 → ∃ w2, w1.le w2 ∧ Rel K T B1 w2 σ1 H2 fr1 h1 ∧ bO K T w2 y d
open Classical in
noncomputable def jE (n : Hh → Prop) (vs : List Nat) (g : D → M Unit) (t : M Bool) (e : M D) : List D → M (List D)
 | [] => fun fr h => if n h then .ok [] fr h else .err
 | d :: ds => fun fr h => if n h then ((fL vs g t e d).bind fun o => (jE n vs g t e ds).bind fun r => M.ret (yq o r)) fr h else .err
noncomputable def Oe (vs : List Nat) (l : M ((Hh → Prop) × List D)) (g : D → M Unit) (t : M Bool) (e : M D) : M D := l.bind fun x => (Ma vs).bind fun _ => if x.2.length ≤ big then (jE x.1 vs g t e x.2).bind fun r => M.ret (.nl r) else M.opt none
section
variable {X : Cx} {T : Tb} {W : WX} {k : Nat} {pos pos' : Pos} {tg iter elt c e : Expr} {ifs : List Expr} {li : M ((Hh → Prop) × List D)} {g : D → M Unit} {b : M Fl} {is : List Nat} {t : M Bool} {m me : M D} {scope : Scope} {own : List (Str × Nat)} {body : List Stmt}
theorem acI {B : Bs} {w : Wd} {σ : L2.St} {H : Hp} {fr : Fr} {h : Hh} {Q : VK} (si : jA (WI X tg iter) X.K T W Zy li) (hi : ∀ i ∈ is, i ∈ own.map (·.2))
 (sg : ∀ (s : Shared) (H0 : Hp) (C : Addr) (cl : List (Str × Addr)) (fp : List Addr), zQ (X.blk s H0 scope (compEnvC scope cl C X.env) fp) T is tg g)
 (st : ∀ (s : Shared) (H0 : Hp) (C : Addr) (cl : List (Str × Addr)) (fp : List Addr), jA (Pr (X.blk s H0 scope (compEnvC scope cl C X.env) fp) ifs) X.K T WF vB t)
 (se : ∀ (s : Shared) (H0 : Hp) (C : Addr) (cl : List (Str × Addr)) (fp : List Addr), aX (X.blk s H0 scope (compEnvC scope cl C X.env) fp) T WF elt me)
 (R : Rel X.K T B w σ H fr h) (p : aZ X.K T B W (vE X.K T B σ) w σ (Oe (own.map (·.2)) li g t me fr h) Q) : tLc (WI X tg iter) (GB X scope tg) (TB X scope ifs) (EB X scope elt) (own.map (·.2)) σ H Q := by
 refine si B w σ H fr h _ R (aZ.bind (VR := Zy X.K T B σ) p fun xx fr0 h0 w1 H1 J e1 l1 r0 vj p0 => ?_)
 obtain ⟨n, ds⟩ := xx
 generalize hvs : own.map (·.2) = vs at hi p0 ⊢
 intro A0 nD
 have p1 : aZ X.K T B W (vE X.K T B σ) w1 σ ((if ds.length ≤ big then (jE n vs g t me ds).bind fun r => M.ret (.nl r) else M.opt none) (fQ fr0 vs) h0) Q := p0
 by_cases hb : ds.length ≤ big
 · rw [if_pos hb] at p1
   have rD := r0.temp (o := .lst []) nD
   have OD : Own B w1 A0 := r0.own_new nD
   refine ⟨fun i m H => m = ds.length - i ∧ i ≤ ds.length ∧ ∃ w' fr' h' acc vs', w1.le w' ∧ az X.K T w' vs' acc ∧ acc.length ≤ i ∧ Rel X.K T (B.pr A0 (.lst vs')) w' (wipe σ vs) H fr' h' ∧ (∀ j ∈ vs, ∀ d, fr'[j]? ≠ some (some d)) ∧
    aZ X.K T B W (vE X.K T B σ) w' σ (((jE n vs g t me (ds.drop i)).bind fun r => M.ret (D.nl (acc ++ r))) fr' h') Q, ⟨ds.length, by simp, Nat.zero_le _, w1, fQ fr0 vs, h0, [], [], Wd.le_refl _, .nil, Nat.zero_le _,
     (rD.wipe vs).protect OD (fun i ⟨z1, dd, z2, z3⟩ => r0.loose_new nD i (by
      by_cases hj : i ∈ vs
      · exact absurd z2 (qP hj)
      · rw [CQ hj] at z2
        rw [wipe_out hj] at z1
        exact ⟨z1, dd, z2, z3⟩)) upd_same, fun j hj d => qP hj, p1⟩, ?_⟩
   rintro i m H2 ⟨rfl, hil, w2, fr2, h2, acc, us, l2, ra, la, r2, hw2, p2⟩
   have hP := OD.p
   by_cases hc : n h2
   case neg =>
    exfalso
    have q : jE n vs g t me (ds.drop i) fr2 h2 = .err := by cases ds.drop i <;> (unfold jE; rw [if_neg hc])
    rw [M.bind_err q] at p2
    exact p2.elim
   obtain ⟨js, jg⟩ := vj i w2 (B.pr A0 (.lst us)) (wipe σ vs) H2 fr2 h2 l2 r2 hc
   by_cases hlt : i < ds.length
   · obtain ⟨go, y⟩ := jg ds[i] (akX hlt)
     have ed : ds.drop i = ds[i] :: ds.drop (i + 1) := List.drop_eq_getElem_cons hlt
     rw [ed] at p2
     refine .inr ⟨go, fun H' => ∃ w' fr' h' acc vs', w1.le w' ∧ az X.K T w' vs' acc ∧ acc.length ≤ i + 1 ∧ Rel X.K T (B.pr A0 (.lst vs')) w' (wipe σ vs) H' fr' h' ∧ (∀ j ∈ vs, ∀ d, fr'[j]? ≠ some (some d)) ∧
      aZ X.K T B W (vE X.K T B σ) w' σ (((jE n vs g t me (ds.drop (i + 1))).bind fun r => M.ret (D.nl (acc ++ r))) fr' h') Q, fun H' q => ⟨ds.length - (i + 1), by omega, rfl, hlt, q⟩, fun x H3 yx => ?_⟩
     obtain ⟨w3, l3, r3, rx⟩ := y x H3 yx
     have turn : ∃ o fr' h', fL vs g t me ds[i] fr2 h2 = .ok o fr' h' ∧ aZ X.K T B W (vE X.K T B σ) w2 σ (((jE n vs g t me (ds.drop (i + 1))).bind fun r => M.ret (D.nl (acc ++ yq o r))) fr' h') Q := by
      have p2' : aZ X.K T B W (vE X.K T B σ) w2 σ (((fL vs g t me ds[i]).bind fun o => (jE n vs g t me (ds.drop (i + 1))).bind fun r => M.ret (D.nl (acc ++ yq o r))) fr2 h2) Q := by
       have ee : ((jE n vs g t me (ds[i] :: ds.drop (i + 1))).bind fun r => M.ret (D.nl (acc ++ r))) fr2 h2 = ((fL vs g t me ds[i]).bind fun o => (jE n vs g t me (ds.drop (i + 1))).bind fun r => M.ret (D.nl (acc ++ yq o r))) fr2 h2 := by
        have q9 : jE n vs g t me (ds[i] :: ds.drop (i + 1)) fr2 h2 = ((fL vs g t me ds[i]).bind fun o => (jE n vs g t me (ds.drop (i + 1))).bind fun r => M.ret (yq o r)) fr2 h2 := by rw [jE]; dsimp only; rw [if_pos hc]
        unfold M.bind at q9 ⊢
        rw [q9]
        cases fL vs g t me ds[i] fr2 h2 with
        | ok o fr' h' => dsimp only; cases jE n vs g t me (ds.drop (i + 1)) fr' h' <;> rfl
        | exc _ _ _ => rfl
        | err => rfl
       rw [← ee]
       exact p2
      cases q : fL vs g t me ds[i] fr2 h2 with
      | ok o fr' h' =>
        rw [M.bind_ok q] at p2'
        exact ⟨o, fr', h', rfl, p2'⟩
      | exc y fr' h' =>
        exfalso
        unfold fL at q
        split at q
        · split at q
          · split at q <;> cases q
          · cases q
          · cases q
        · cases q
      | err =>
        rw [M.bind_err q] at p2'
        exact p2'.elim
     obtain ⟨o, fro, ho, qt, p3⟩ := turn
     have upw : ∀ {u2 : L2.St} {w' : Wd} {H' : Hp} {fr' : Fr} {h' : Hh} {B' : Bs}, wipe u2 vs = wipe σ vs → Rel X.K T B' w' u2 H' fr' h' → Rel X.K T B' w' (wipe σ vs) H' (fQ fr' vs) h' := fun {u2 w' H' fr' h' B'} e R' => by
      rw [← e]
      exact R'.wipe vs
     intro s0 H0 C cl fp
     refine sg s0 H0 C cl fp (B.pr A0 (.lst us)) w3 (wipe σ vs) H3 fr2 h2 x ds[i] _ r3 rx ?_
     unfold fL at qt
     cases q1 : g ds[i] fr2 h2 with
     | exc _ _ _ => rw [q1] at qt; cases qt
     | err => rw [q1] at qt; cases qt
     | ok _ fr3 h3 =>
       rw [q1] at qt
       dsimp only at qt
       intro w4 σ4 H4 l4 r4 k4
       have ew : wipe σ4 vs = wipe σ vs := Uj (k4.1.trans (wipe_length σ vs)) hi k4.2
       refine ⟨ew, fun s0 H0 C cl fp => st s0 H0 C cl fp (B.pr A0 (.lst us)) w4 σ4 H4 fr3 h3 _ r4 ?_⟩
       cases q2 : t fr3 h3 with
       | exc _ _ _ => rw [q2] at qt; cases qt
       | err => rw [q2] at qt; cases qt
       | ok b fr4 h4 =>
         rw [q2] at qt
         intro w5 H5 v l5 r5 rv
         have rv' : v = b := rv
         subst rv'
         cases v with
         | false =>
           dsimp only at qt
           cases qt
           simp only [Bool.false_eq_true, if_false]
           exact ⟨w5, _, _, acc, us, Wd.le_trans l2 (Wd.le_trans l3 (Wd.le_trans l4 l5)), ra.mono (Wd.le_trans l3 (Wd.le_trans l4 l5)), Nat.le_succ_of_le la, upw ew r5, fun j hj d => qP hj, p3.le (Wd.le_trans l3 (Wd.le_trans l4 l5))⟩
         | true =>
           dsimp only at qt
           simp only [if_true]
           intro s0 H0 C cl fp
           refine se s0 H0 C cl fp (B.pr A0 (.lst us)) w5 σ4 H5 fr4 h4 _ r5 ?_
           cases q3 : me fr4 h4 with
           | exc _ _ _ => rw [q3] at qt; cases qt
           | err => rw [q3] at qt; cases qt
           | ok yd fr5 h5 =>
             rw [q3] at qt
             cases qt
             intro w6 H6 yv l6 r6 ry
             have hD6 : H6 A0 = some (.lst us) := (r6.prot (A0, .lst us) (ak4)).1
             have lall : w2.le w6 := Wd.le_trans l3 (Wd.le_trans l4 (Wd.le_trans l5 l6))
             refine ⟨us, hD6, ?_, w6, _, _, acc ++ [yd], us ++ [yv], Wd.le_trans l2 lall, (ra.mono lall).append (.cons ry .nil), ?_, (upw ew r6).repr OD.e OD.p, fun j hj d => qP hj, ?_⟩
             · rw [ra.length]
               have : big < sizeLine := by decide
               omega
             · rw [ak3]
               show acc.length + 1 ≤ i + 1
               omega
             · have e9 : ∀ r : List _, acc ++ yq (some yd) r = acc ++ [yd] ++ r := fun r => by
                show acc ++ yd :: r = _
                rw [aln]
                rfl
               simp only [e9] at p3
               exact p3.le lall
   · have e : i = ds.length := by omega
     subst e
     rw [List.drop_length] at p2
     obtain ⟨r3, O3, lo3, eD⟩ := r2.unprotect OD.e OD.p
     refine .inl ⟨js (Nat.le_refl _), ?_⟩
     have p3 : aZ X.K T B W (vE X.K T B σ) w2 σ (.ok (D.nl (acc ++ [])) fr2 h2) Q := by
      have q : jE n vs g t me [] fr2 h2 = .ok [] fr2 h2 := by unfold jE; rw [if_pos hc]
      rw [M.bind_ok q] at p2
      exact p2
     rw [akZ] at p3
     have r4 : Rel X.K T B w2 σ H2 fr2 h2 := r3.refr (by rw [← wipe_length σ vs]; exact r3.fl) fun j d ej => ⟨ej, by
      by_cases hj : j ∈ vs
      · exact absurd ej (hw2 j hj d)
      · exact (wipe_out hj).symm⟩
     refine p3 w2 H2 (.ref A0) (Wd.le_refl _) r4 (.inr ⟨A0, _, rfl, O3, fun j ⟨z1, dd, z2, z3⟩ => lo3 j ⟨?_, dd, z2, z3⟩, eD, .lst ra⟩)
     by_cases hj : j ∈ vs
     · exact absurd z2 (hw2 j hj dd)
     · rw [wipe_out hj]
       exact z1
 · rw [if_neg hb] at p1
   exact p1.elim
theorem aaI (C : Cq X T W k) (j : Nat) {y : Str} {py spos : Pos} (own : List (Str × Nat)) (si : jA (WI X tg iter) X.K T W Zy li) (hi : ∀ i ∈ is, i ∈ own.map (·.2))
 (sg : ∀ (s : Shared) (H0 : Hp) (C : Addr) (cl : List (Str × Addr)) (fp : List Addr), zQ (X.blk s H0 scope (compEnvC scope cl C X.env) fp) T is tg g)
 (st : ∀ (s : Shared) (H0 : Hp) (C : Addr) (cl : List (Str × Addr)) (fp : List Addr), jA (Pr (X.blk s H0 scope (compEnvC scope cl C X.env) fp) ifs) X.K T WF vB t)
 (se : ∀ (s : Shared) (H0 : Hp) (C : Addr) (cl : List (Str × Addr)) (fp : List Addr), aX (X.blk s H0 scope (compEnvC scope cl C X.env) fp) T WF elt me)
 (ok : BlkOk X.N X.env.scope scope own) (hsw : swapsWith (.ListComp elt [⟨tg, iter, ifs, 0⟩] scope pos) (some (.Name y py)) spos.line X.env = pure true) (hy : X.N[j]? = some y := by rfl) (j0 : j ≠ 0 := by decide) (hyl : X.env.scope.names.lookup y = some .local := by rfl)
 (hs : ∀ x, foldedSetIterable iter X.env x = pure x := by intro _; rfl) : sJ X T W (.Assign [.Name y py] (.ListComp elt [⟨tg, iter, ifs, 0⟩] scope pos) spos) (bu j (Oe (own.map (·.2)) li g t me)) := fun B w σ H fr h D R p =>
 qp (ps_setLc C.calm C.nd hy hyl hsw J5 ok (fun s H C cl fp => ⟨fun pins s' σ H v u Q I r hh => hh s _ C cl fp pins s' u I r⟩) (fun s H C cl fp => ⟨fun pins s' σ H Q I hh => hh s _ C cl fp pins s' I⟩) (fun s H C cl fp => ⟨fun pins s' σ H Q I hh => (hh s _ C cl fp).go pins s' I⟩) hs)
  (acI si hi sg st se R (dh.bind (VR := vE X.K T B σ) p fun d fr1 h1 w1 H1 v e1 l1 r1 rx p1 => p1 w1 _ H1 (Wd.le_refl _) (r1.put j j0 rx)))
end
def Ih (h : Hh) (d e : D) : Option ((Hh → Prop) × List D) := match pJ h d, pJ h e with
 | some (n, l), some (n2, m) => some (fun h' => h'[n]? = some (.nl l) ∧ h'[n2]? = some (.nl m), jD l m)
 | _, _ => none
def GZ (ma mb : M D) : M ((Hh → Prop) × List D) := ma.bind fun d => mb.bind fun e fr h => M.opt (Ih h d e) fr h
section
variable {X : Cx} {T : Tb} {W : WX} {k kk : Nat} {pos p tpos : Pos} {a c : Expr} {elts : List Expr} {ma mb : M D}
theorem acJ {K : PySem.W.Frag} {B : Bs} {σ : L2.St} {w : Wd} {H : Hp} {fr : Fr} {a1 a2 : Addr} {n n2 : Nat} {l m : List D} (s1 : w.I[n]? = some a1) (s2 : w.I[n2]? = some a2) : Zy K T B σ w H fr (aay K false false a1 a2) (fun h' => h'[n]? = some (.nl l) ∧ h'[n2]? = some (.nl m), jD l m) := fun i w3 B3 σ3 H3 fr3 h3 l3 r4 hc3 => by
 obtain ⟨vs3, sq3, rv3⟩ := yt r4 (Tv l3 s1) hc3.1
 obtain ⟨us, su3, rm3⟩ := yt r4 (Tv l3 s2) hc3.2
 have q1 : vs3.length = l.length := rv3.length
 have q2 : us.length = m.length := rm3.length
 refine ⟨fun hi => ⟨vs3, us, sq3, su3, ?_⟩, fun d' hd => ?_⟩
 · rw [uZ] at hi
   omega
 · obtain ⟨d1, d2, g1, g2, rfl⟩ := Ib l m i d' hd
   obtain ⟨v, hv, rv⟩ := rv3.get g1
   obtain ⟨u, hu, ru⟩ := rm3.get g2
   refine ⟨⟨vs3, us, v, u, sq3, su3, hv, hu⟩, fun y H4 hy => ?_⟩
   obtain ⟨Tp, x1, x2, rfl, nT, rfl, hx, hx2⟩ := hy
   have z := hx vs3 sq3
   rw [hv] at z
   cases z
   have z := hx2 us su3
   rw [hu] at z
   cases z
   have lw := Wd.le_add (o := .tup [v, u]) (r4.nP nT).1
   exact ⟨w3.add Tp (.tup [v, u]), lw, r4.laid nT, .tup (SqT.of (by show upd w3.F Tp _ Tp = _; rw [upd_same])) (.cons (rv.mono lw) (.cons (ru.mono lw) .nil))⟩
theorem aaJ (s : aX X T W a ma) (s2 : aX X T W c mb) (hm : X.mg "zip" = none) (hg : Gl X "zip" := by rfl) (hs : starEach [a, c] X.env = (false, eval a X.env) :: starEach [c] X.env := by rfl) (hs2 : starEach [c] X.env = (false, eval c X.env) :: starEach [] X.env := by rfl) (hpl : (backTo pos (starEach [c] X.env)).any (·.1) = false := by rfl) :
 jA (WI X (.Tuple elts kk tpos) (.Call (.Name "zip" p) [a, c] [] pos)) X.K T W Zy (GZ ma mb) := fun B w σ H fr h Q r p =>
 LQ (acC hg hm (pa_cons bF (pa_cons bF pa_nil hs2) hs) hs hpl) (s B w σ H fr h _ r (aZ.bind (VR := vV X.K T B σ) p fun d fr1 h1 w1 H1 x e1 l1 r1 rx p1 =>
  s2 B w1 σ H1 fr1 h1 _ r1 (aZ.bind (VR := vV X.K T B σ) p1 fun e fr2 h2 w2 H2 y e2 l2 r2 ry p2 => by
   cases q : Ih h2 d e with
   | none => rw [q] at p2; exact p2.elim
   | some z =>
     rw [q] at p2
     unfold Ih at q
     split at q
     · rename_i n l n2 m q0 q1
       cases q
       obtain ⟨rfl, hc⟩ := Ie q0
       obtain ⟨rfl, hc2⟩ := Ie q1
       cases rx with
       | @ref a1 n1 s1 =>
         cases ry with
         | @ref a2 n3 s3 =>
           have s1' : w2.I[n]? = some a1 := Tv l2 s1
           obtain ⟨vs, sq, rv⟩ := yt r2 s1' hc
           obtain ⟨us, sq2, rv2⟩ := yt r2 s3 hc2
           exact ⟨false, false, a1, a2, vs, us, rfl, sq, sq2, p2 w2 H2 _ (Wd.le_refl _) r2 (acJ (B := B) (σ := σ) (H := H2) (fr := fr2) s1' s3)⟩
     · cases q)))
end
end Pk
namespace Pk
open PySem PySem.Spec PyProof.Rows L2
section
variable {prog : Program} {w : World} {A : Around} {E : Value → Shared → Prop} {s : Shared}
theorem Og {sl : Addr} {vl vu vs : Value} {n : Nat} {Q : Int × Int × Nat → Shared → Prop} (hs : s.heap.IsSliceOf sl vl vu vs) (pl : IsPart vl none) (pu : IsPart vu none) (ps : IsPart vs (some (-1)))
 (h : Q ((n : Int) - 1, -1, n) s) : wpAny (model prog w) A (Builtin.Slice.sliceApplied (.ref sl) (pure (n : Int))) Q E s := by
 obtain ⟨os, hos, hcs, hds⟩ := id hs
 unfold Builtin.Slice.sliceApplied Builtin.Slice.sliceFields
 refine wpAny_bind (wpAny_bind (wpAny_field hos hds (x := vl) rfl (wpAny_bind (wpAny_field hos hds (x := vu) rfl (wpAny_bind (wpAny_field hos hds (x := vs) rfl (wpAny_pure ?_)))))))
 refine wpAny_bind (HT.slicePart_ ps ?_)
 show wpAny _ _ (if ((-1 : Int) == 0) = true then _ else _) _ _ s
 rw [if_neg (by decide)]
 refine wpAny_bind (HT.slicePart_ pl (wpAny_bind (HT.slicePart_ pu (wpAny_bind (wpAny_pure ?_)))))
 have e : Builtin.Slice.sliceAdjust none none (-1) (n : Int) = ((n : Int) - 1, -1) := rfl
 have e2 : Builtin.Slice.slicePlaces ((n : Int) - 1) (-1) (-1) = n := by
  unfold Builtin.Slice.slicePlaces
  rw [if_neg (by decide)]
  split
  · rw [show (- -1 : Int) = 1 by decide, Int.ediv_one]
    omega
  · omega
 show wpAny _ _ (match Builtin.Slice.sliceAdjust none none (-1) (n : Int) with | (lo, hi) => pure (lo, (-1 : Int), Builtin.Slice.slicePlaces lo hi (-1))) _ _ s
 rw [e]
 show wpAny _ _ (pure ((n : Int) - 1, (-1 : Int), Builtin.Slice.slicePlaces ((n : Int) - 1) (-1) (-1))) _ _ s
 rw [e2]
 exact wpAny_pure h
theorem W6 {α β : Type} {f g : α → Option β} : ∀ {l : List α}, (∀ a ∈ l, f a = g a) → l.filterMap f = l.filterMap g
 | [], _ => rfl
 | a :: l, h => by
   rw [List.filterMap_cons, List.filterMap_cons, h a ak4, W6 fun b hb => h b (alb _ hb)]
theorem aaK (xs : Array Value) : ((akS xs.size).filterMap fun (m : Nat) => xs[(((xs.size : Int) - 1) + (m : Int) * (-1)).toNat]?).toArray = xs.toList.reverse.toArray := by
 have e : ((akS xs.size).filterMap fun (m : Nat) => xs[(((xs.size : Int) - 1) + (m : Int) * (-1)).toNat]?) = ((akS xs.size).map fun k => xs.size - 1 - k).filterMap (xs[·]?) := by
  rw [List.filterMap_map]
  refine W6 fun m hm => ?_
  have := List.mem_range.mp hm
  show _ = xs[xs.size - 1 - m]?
  congr 1
  omega
 rw [e, PySem.W.krv_range, List.filterMap_reverse, PySem.W.krv_all]
theorem M6 {t sl : Addr} {items : Array Value} {vl vu vs : Value} {Q : Value → Shared → Prop} (ht : IsTup s.heap t items) (hs : s.heap.IsSliceOf sl vl vu vs) (pl : IsPart vl none) (pu : IsPart vu none) (ps : IsPart vs (some (-1)))
 (h : Q (.ref s.heap.objs.size) { s with heap := s.heap.push { cls := .type "tuple", data := .seq items.toList.reverse.toArray } }) (hsz : items.size ≤ sizeLine) : wpAny (model prog w) A (getItem (.ref t) (.ref sl)) Q E s := by
 have htake : sizeOk (.seq items.toList.reverse.toArray) := by
  show items.toList.reverse.toArray.size ≤ sizeLine
  rw [List.size_toArray, List.length_reverse, Array.length_toList]
  exact hsz
 obtain ⟨os, hos, hcs, hds⟩ := id hs
 have hTs : s.TypeIs (.ref sl) "slice" := ⟨os, hos, hcs⟩
 unfold getItem
 try with_reducible refine wpAny_holding ?_
 first | refine wpAny_bind (wpAny_pure ?_) | skip
 refine wpAny_bind (wpAny_sequenceKey ht.typeIs (by decide) ?_)
 refine wpAny_bind (wpAny_callSpecial?_slot (name := Str.ofString "__getitem__") ht.typeIs PyProof.Rows.slot_tuple_getitem
  (wpAny_call_entry PyProof.Rows.slot_tuple_getitem ht.typeIs entry_tuple_getitem ?_ (args_tuple_getitem _ _)))
 show wpAny _ _ (Builtin.Tuple.tupleItemsOf (.ref t) >>= _) _ _ s
 refine wpAny_bind (tupleItemsOf_ ht ?_)
 refine wpAny_bind (wpAny_typeOf hTs ?_)
 rw [if_pos (by decide)]
 refine wpAny_bind (Og hs pl pu ps ?_)
 have hno : ¬ ((((items.size : Int) - 1) == 0 && (-1 : Int) == 1 && items.size == items.size) = true) := by
  intro q
  rw [Bool.and_eq_true, Bool.and_eq_true] at q
  exact absurd q.1.2 (by decide)
 show wpAny _ _ (if ((((items.size : Int) - 1) == 0 && (-1 : Int) == 1 && items.size == items.size) = true) then _ else _) _ _ s
 rw [if_neg hno, aaK]
 first
  | exact wpAny_bind (m := Builtin.Tuple.tupleExact _) (wpAny_newObj_type (wpAny_pure ⟨_, rfl, wpAny_pure h⟩) htake)
  | exact wpAny_bind (m := Builtin.Tuple.tupleExact _) (wpAny_newObj_type (wpAny_bind (wpAny_pure (wpAny_pure ⟨_, rfl, wpAny_pure h⟩))) htake)
  | exact wpAny_bind (wpAny_bind (m := Builtin.Tuple.tupleExact _) (wpAny_newObj_type (wpAny_pure (wpAny_pure ⟨_, rfl, wpAny_pure h⟩)) htake))
  | exact wpAny_bind (wpAny_bind (m := Builtin.Tuple.tupleExact _) (wpAny_newObj_type (wpAny_pure ⟨_, rfl, wpAny_pure h⟩) htake))
end
section
variable {X : Cx}
def afJ (K : PySem.W.Frag) (te : TE) : TE := fun σ H Q => te σ H fun x H1 => ∃ a xs, x = .ref a ∧ SqT K H1 a xs ∧ ∀ p, H1 p = none → Q (.ref p) (upd H1 p (.tup xs.reverse))
theorem acK {e : Expr} {te : TE} {k : Nat} {p1 p2 p3 pos : Pos} (he : PE X e te) : PE X (.Subscript e (.Slice none none (some (.UnaryOp .USub (.Constant (.int 1) k p1) p2)) p3) pos) (afJ X.K te) := by
 refine ⟨fun pins s σ H Q I h => ?_⟩
 refine Subscript_ (thn (he.run pins s σ H _ I h) fun v s1 ⟨x, H1, I1, r1, q1⟩ => ?_)
 obtain ⟨a, xs, ex, hx, q⟩ := q1
 subst ex
 cases r1
 have hst : PO X (some (.UnaryOp .USub (.Constant (.int 1) k p1) p2)) (tPart (tUn (rU fun i => .int (-i)) (tC (.int 1)))) := po_some (pe_un un_neg pe_int)
 refine wpAny_Slice (thn (po_none.run pins s1 σ H1 (fun o H2 => o = none ∧ H2 = H1) I1 ⟨rfl, rfl⟩) fun vl s2 ⟨l, H2, I2, pl, el, e2⟩ => ?_)
 subst el e2
 refine thn (po_none.run pins s2 σ H2 (fun o H3 => o = none ∧ H3 = H2) I2 ⟨rfl, rfl⟩) fun vu s3 ⟨u, H3, I3, pu, eu, e3⟩ => ?_
 subst eu e3
 refine thn (hst.run pins s3 σ H3 (fun o H4 => o = some (-1) ∧ H4 = H3) I3 ⟨1, rfl, -1, rfl, rfl, rfl⟩) fun vs s4 ⟨o, H4, I4, ps, eo, e4⟩ => ?_
 subst eo e4
 have I5 : Inv X pins σ H4 { s4 with heap := s4.heap.push { cls := .type "slice", data := .fields #[vl, vu, vs] } } := I4.kept (t' := s4.toks) fun b ob q => Heap.get?_push_of_some _ q
 obtain ⟨its, r, ht, hz⟩ := I5.tuple hx
 have hlen := r.length
 show wpAny (model X.prog X.w) X.A (subscriptTail e (.Slice none none (some (.UnaryOp .USub (.Constant (.int 1) k p1) p2)) p3) (.ref a) (.ref s4.heap.objs.size)) (EP X pins σ Q) X.xe { s4 with heap := s4.heap.push { cls := .type "slice", data := .fields #[vl, vu, vs] } }
 refine tail_any (ops := [.ref a, .ref s4.heap.objs.size]) ht.typeIs (PyProof.Rows.slot_tuple_getitem.lookup) ?_ (by with_unfolding_all rfl)
 refine M6 ht (Heap.IsSliceOf.new _ vl vu vs) pl pu ps ?_ (by rw [List.size_toArray]; omega)
 refine ⟨.ref _, _, I5.laid (t' := s4.toks) (o := .tup xs.reverse) (fun b ob q => Heap.get?_push_of_some _ q) (Nat.le_refl _) ?_, rfl, q _ (I5.hok.fresh (Nat.le_refl _))⟩
 exact ⟨by rw [List.length_reverse]; exact hz, _, r.reverse, IsTup.new _ _⟩
end
def De (_ : Hh) : D → Option D
 | .tp l => some (.tp l.reverse)
 | .tup l => some (.tup l.reverse)
 | _ => none
theorem R4 {K : PySem.W.Frag} {T : Tb} {w : Wd} : ∀ {vs us : List V} {ds es : List D}, az K T w vs ds → az K T w us es → az K T w (vs ++ us) (ds ++ es)
 | _, _, _, _, .nil, q => q
 | _, _, _, _, .cons r rs, q => .cons r (R4 rs q)
theorem KD {K : PySem.W.Frag} {T : Tb} {w : Wd} : ∀ {vs : List V} {ds : List D}, az K T w vs ds → az K T w vs.reverse ds.reverse
 | _, _, .nil => .nil
 | _, _, .cons r rs => by
   rw [List.reverse_cons, List.reverse_cons]
   exact R4 (KD rs) (.cons r .nil)
section
variable {X : Cx} {T : Tb} {W : WX} {k : Nat} {p1 p2 p3 pos : Pos} {a : Expr} {ma : M D}
theorem W7 (sa : aX X T W a ma) : aX X T W (.Subscript a (.Slice none none (some (.UnaryOp .USub (.Constant (.int 1) k p1) p2)) p3) pos) (aJ De ma) := fun B w σ H fr h Q r1 p =>
 eV (acK bF) (sa B w σ H fr h _ r1 (aZ.bind (VR := vV X.K T B σ) p fun d fr1 h1 w1 H1 x e1 l1 r2 rx p1 => by
  cases q : De h1 d with
  | none => rw [q] at p1; exact p1.elim
  | some z =>
    rw [q] at p1
    have p1 : aZ X.K T B W (vV X.K T B σ) w1 σ (.ok z fr1 h1) Q := p1
    cases d with
    | tp l =>
      cases q
      cases rx with
      | tp s r => exact ⟨_, _, rfl, SqT.of (r2.sub _ _ s), fun q nq => Vc r2 (KD r) nq fun w' H' v l' r' rv => p1 w' H' v l' r' rv⟩
    | tup l =>
      cases q
      cases rx with
      | tup s r => exact ⟨_, _, rfl, dR r2.sub s, fun q nq => yg r2 (KD r) nq fun w' H' v l' r' rv => p1 w' H' v l' r' rv⟩
    | _ => cases q))
end
end Pk
namespace Pk
open PySem PySem.Spec L2
def Wq {α : Type} (r : R α) (Q : α → Fr → Hh → Prop) (E : aH → Fr → Hh → Prop) : Prop := match r with
 | .ok a fr h => Q a fr h
 | .exc x fr h => E x fr h
 | .err => False
def Aa (d : D) : Option (List D) := match d with
 | .int j => if z7 j then some (fV 0 j.toNat) else none
 | _ => none
def rgB (x y : D) : Option (List D) := match x, y with
 | .int i, .int j => if z7 i && z7 j then some (fV i (j - i).toNat) else none
 | _, _ => none
def dD (_ : aH) (_ : Fr) (_ : Hh) : Prop := False
def Oq {α : Type} (o : Option α) (K : α → Prop) : Prop := match o with
 | some a => K a
 | none => False
def Sq (s : Option (Option D)) (K : D → Prop) : Prop := match s with
 | some (some d) => K d
 | _ => False
def Jr (b : Bool) (A B : Prop) : Prop := if b then A else B
def Bq (fr : Fr) (K : Fr → Prop) : Prop := K fr
def Fq (f : Fl) (A B : Prop) : Prop := match f with
 | .nx => A
 | _ => B
def Rq (f : Fl) (K : D → Prop) : Prop := match f with
 | .rt d => K d
 | .nx => K .non
 | _ => False
section
variable {α β : Type} {Q : α → Fr → Hh → Prop} {E : aH → Fr → Hh → Prop} {fr : Fr} {h : Hh}
theorem wX {a : α} : Wq (.ok a fr h) Q E = Q a fr h := by unfold Wq; rfl
theorem uL : Wq (.err : R α) Q E = False := by unfold Wq; rfl
theorem o9 {a : α} {K : α → Prop} : Oq (some a) K = K a := by unfold Oq; rfl
theorem qQ {K : α → Prop} : Oq none K = False := by unfold Oq; rfl
theorem W8 {o : Option α} {f : α → β} {K : β → Prop} : Oq (o.map f) K = Oq o fun a => K (f a) := by cases o <;> (unfold Oq; rfl)
theorem Ms {c : Prop} [Decidable c] {a : α} {K : α → Prop} : Oq (if c then some a else none) K = (c ∧ K a) := by
 by_cases hc : c
 · rw [if_pos hc, o9]; simp [hc]
 · rw [if_neg hc, qQ]; simp [hc]
theorem acL {c : Bool} {a : α} {K : α → Prop} : Oq (if c then some a else none) K = (c = true ∧ K a) := Ms
theorem Ii {d : D} {K : D → Prop} : Sq (some (some d)) K = K d := by unfold Sq; rfl
theorem Yc {A B : Prop} : Jr true A B = A := by unfold Jr; exact if_pos rfl
theorem Yd {A B : Prop} : Jr false A B = B := by unfold Jr; exact if_neg (fun z => by cases z)
theorem aaL {a : Option D} {l : Fr} {K : Fr → Prop} : Bq (a :: l) K = K (a :: l) := by unfold Bq; rfl
theorem W9 {A B : Prop} : Fq .nx A B = A := by unfold Fq; rfl
theorem Xa {A B : Prop} {d : D} : Fq (.rt d) A B = B := by unfold Fq; rfl
theorem aaM {A B : Prop} : Fq .brk A B = B := by unfold Fq; rfl
theorem Xb {A B : Prop} : Fq .ct A B = B := by unfold Fq; rfl
theorem acM {K : D → Prop} : Rq .nx K = K .non := by unfold Rq; rfl
theorem acN {K : D → Prop} {d : D} : Rq (.rt d) K = K d := by unfold Rq; rfl
theorem Wq.mono {r : R α} {Q Q' : α → Fr → Hh → Prop} {E : aH → Fr → Hh → Prop} (w : Wq r Q E) (hq : ∀ a fr h, Q a fr h → Q' a fr h) : Wq r Q' E := by
 cases r with
 | ok a fr h => exact hq _ _ _ w
 | exc x fr h => exact w
 | err => exact w
theorem Wq.ex {r : R α} {Q : α → Fr → Hh → Prop} (w : Wq r Q dD) : ∃ a fr h, r = .ok a fr h ∧ Q a fr h := by
 cases r with
 | ok a fr h => exact ⟨a, fr, h, rfl, w⟩
 | exc x fr h => exact w.elim
 | err => exact w.elim
theorem Wq.eq {a : α} {r : R α} {fr : Fr} {h : Hh} (w : Wq r (fun b fr1 h1 => b = a ∧ fr1 = fr ∧ h1 = h) dD) : r = .ok a fr h := by
 obtain ⟨b, fr1, h1, e, e1, e2, e3⟩ := w.ex
 rw [e, e1, e2, e3]
theorem Wq.of_eq {r : R α} {a : α} {fr : Fr} {h : Hh} (e : r = .ok a fr h) (q : Q a fr h) : Wq r Q E := by
 rw [e]; exact q
theorem eX {a : α} : Wq (M.ret a fr h) Q E = Q a fr h := by unfold M.ret; exact wX
theorem aY {m : M β} {f : β → M α} : Wq (M.bind m f fr h) Q E = Wq (m fr h) (fun a fr h => Wq (f a fr h) Q E) E := by
 unfold M.bind
 cases m fr h <;> (unfold Wq; rfl)
theorem gA {o : Option α} : Wq (M.opt o fr h) Q E = Oq o fun a => Q a fr h := by
 cases o <;> (unfold Wq Oq M.opt; rfl)
end
section
variable {α : Type} {Q : D → Fr → Hh → Prop} {P : Bool → Fr → Hh → Prop} {S : α → Fr → Hh → Prop} {U : Unit → Fr → Hh → Prop} {G : List D → Fr → Hh → Prop} {L : Fl → Fr → Hh → Prop} {I : Option Int → Fr → Hh → Prop} {E : aH → Fr → Hh → Prop} {fr : Fr} {h : Hh} {m ma mb mc : M D} {i : Nat}
theorem afK {d : D} : Wq (mC d fr h) Q E = Q d fr h := eX
theorem aeC : Wq (bG m fr h) Q E = Wq (m fr h) (fun d fr h => Q d.fz fr h) E := by
 unfold bG; rw [aY]; simp only [eX]
theorem acO : Wq (aa i fr h) Q E = Sq fr[i]? fun d => Jr d.own (Bq (fr.set i (some d.fz)) fun fr => Q d.fz fr h) (Q d fr h) := by
 unfold aa
 cases fr[i]? with
 | none => rfl
 | some o => cases o with
   | none => rfl
   | some d =>
     rw [Ii]
     dsimp only
     cases d.own <;> rfl
theorem aaN : Wq (uh i fr h) Q E = Sq fr[i]? fun d => Bq (fr.set i none) fun fr => Q d fr h := by
 unfold uh
 cases fr[i]? with
 | none => rfl
 | some o => cases o <;> rfl
theorem Xc : Wq (aN i fr h) Q E = Sq fr[i]? fun d => Q d fr h := by
 unfold aN
 cases fr[i]? with
 | none => rfl
 | some o => cases o <;> rfl
theorem Xd : Wq (pF i fr h) U E = Sq fr[i]? fun _ => U () fr h := by
 unfold pF
 cases fr[i]? with
 | none => rfl
 | some o => cases o <;> rfl
theorem aeD {f : Hh → D → D → Option α} : Wq (aq f ma mb fr h) S E = Wq (ma fr h) (fun x fr h => Wq (mb fr h) (fun y fr h => Oq (f h x y) fun z => S z fr h) E) E := by
 unfold aq; simp only [aY, gA]
theorem aeE {f : Hh → D → Option α} : Wq (aJ f ma fr h) S E = Wq (ma fr h) (fun x fr h => Oq (f h x) fun z => S z fr h) E := by
 unfold aJ; simp only [aY, gA]
theorem acP {t : M Bool} : Wq (zP t fr h) P E = Wq (t fr h) (fun b fr h => P (!b) fr h) E := by
 unfold zP; simp only [aY, eX]
theorem Ij {β : Type} {b : Bool} {m n : M β} {Q : β → Fr → Hh → Prop} : Wq ((if b then m else n) fr h) Q E = Jr b (Wq (m fr h) Q E) (Wq (n fr h) Q E) := by
 cases b
 · rw [Yd]; rfl
 · rw [Yc]; rfl
theorem acQ {t u : M Bool} : Wq (qZ t u fr h) P E = Wq (t fr h) (fun b fr h => Jr b (Wq (u fr h) P E) (P false fr h)) E := by
 unfold qZ; simp only [aY, Ij, eX]
theorem aeF {t u : M Bool} : Wq (uA t u fr h) P E = Wq (t fr h) (fun b fr h => Jr b (P true fr h) (Wq (u fr h) P E)) E := by
 unfold uA; simp only [aY, Ij, eX]
theorem aaO : Wq (LC m fr h) Q E = Wq (m fr h) (fun d fr h => Oq d.tb fun b => Q (.bl (!b)) fr h) E := by
 unfold LC; simp only [aY, gA, W8]
theorem aaP {n : M D} : Wq (LK m n fr h) Q E = Wq (m fr h) (fun d fr h => Oq d.tb fun b => Jr b (Wq (n fr h) Q E) (Q (.bl false) fr h)) E := by
 unfold LK; rw [aY]
 congr 1
 funext d fr h
 cases d.tb with
 | none => dsimp only; rw [gA, qQ, qQ]
 | some b =>
   rw [o9]
   cases b
   · rw [Yd]; exact eX
   · rw [Yc]
theorem aeG {t : M Bool} {m n : M α} : Wq (Gq t m n fr h) S E = Wq (t fr h) (fun b fr h => Jr b (Wq (m fr h) S E) (Wq (n fr h) S E)) E := by
 unfold Gq; simp only [aY, Ij]
theorem Zz : Wq (ak [] fr h) G E = G [] fr h := eX
theorem ZC {ms : List (M D)} : Wq (ak (m :: ms) fr h) G E = Wq (m fr h) (fun d fr h => Wq (ak ms fr h) (fun ds fr h => G (d :: ds) fr h) E) E := by
 rw [ak]; simp only [aY, eX]
theorem acR {ms : List (M D)} : Wq (rA ms fr h) Q E = Wq (ak ms fr h) (fun ds fr h => ds.length ≤ big ∧ Q (.tup ds) fr h) E := by
 unfold rA; simp only [aY, gA, Ms]
theorem acS {ms : List (M D)} : Wq (eU ms fr h) Q E = Wq (ak ms fr h) (fun ds fr h => ds.length ≤ big ∧ Q (.nl ds) fr h) E := by
 unfold eU; simp only [aY, gA, Ms]
theorem aaQ {β : Type} {m : M β} {f : Hh → D → β → Option D} : Wq (bU i m f fr h) Q E = Sq fr[i]? fun _ => Wq (m fr h) (fun y fr h => Sq fr[i]? fun d => Oq (f h d y) fun z => Q z fr h) E := by
 unfold bU; simp only [aY, Xd, Xc, gA]
theorem aeH : Wq (Uh fr h) I E = I none fr h := eX
theorem aeI : Wq (Pj m fr h) I E = Wq (m fr h) (fun d fr h => Oq (match d with | .int i => some i | _ => none) fun i => I (some i) fr h) E := by
 unfold Pj; rw [aY]
 congr 1
 funext d fr h
 cases d <;> (rw [gA]; first | rw [qQ, qQ] | rw [o9, o9])
theorem aaR {ml mh : M (Option Int)} {J : Option Int × Option Int → Fr → Hh → Prop} : Wq (yP ml mh fr h) J E = Wq (ml fr h) (fun l fr h => Wq (mh fr h) (fun u fr h => J (l, u) fr h) E) E := by
 unfold yP; simp only [aY, eX]
theorem aeJ : Wq (rB m fr h) G E = Wq (m fr h) (fun d fr h => Oq (d.its []) fun l => G l fr h) E := by
 unfold rB; simp only [aY, gA]
theorem aaS : Wq (dO m fr h) G E = Wq (m fr h) (fun d fr h => Oq (Aa d) fun l => G l fr h) E := by
 unfold dO; simp only [aY, gA]; rfl
theorem aaT : Wq (qb m fr h) G E = Wq (m fr h) (fun d fr h => Oq d.lst fun l => G (eG 0 l) fr h) E := by
 unfold qb; simp only [aY, gA, W8]
theorem acT {s n : M Fl} : Wq (aD s n fr h) L E = Wq (s fr h) (fun f fr h => Fq f (Wq (n fr h) L E) (L f fr h)) E := by
 unfold aD; rw [aY]
 congr 1
 funext f fr h
 cases f with
 | nx => rw [W9]
 | brk => rw [aaM]; exact eX
 | ct => rw [Xb]; exact eX
 | rt d => rw [Xa]; exact eX
theorem acU {t : M Bool} {s n : M Fl} : Wq (fu t s n fr h) L E = Wq (t fr h) (fun b fr h => Jr b (Wq (s fr h) L E) (Wq (n fr h) L E)) E := by
 unfold fu; simp only [aY, Ij]
theorem aaU {m : M α} : Wq (oJ m fr h) L E = Wq (m fr h) (fun _ fr h => L .nx fr h) E := by
 unfold oJ; simp only [aY, eX]
theorem acV : Wq (cO m fr h) L E = Wq (m fr h) (fun d fr h => L (.rt d) fr h) E := by
 unfold cO; simp only [aY, eX]
theorem acW : Wq (bu i m fr h) L E = Wq (m fr h) (fun d fr h => Bq (fr.set i (some d)) fun fr => L .nx fr h) E := by
 unfold bu Bq; rw [aY]
 congr 1
theorem acX {g : D → M Unit} : Wq (Ka m g fr h) L E = Wq (m fr h) (fun d fr h => Wq (g d fr h) (fun _ fr h => L .nx fr h) dD) E := by
 unfold Ka; rw [aY]
 congr 1
 funext d fr h
 cases g d fr h <;> (unfold Wq; rfl)
theorem aaV {is : List Nat} {ms : M (List D)} : Wq (CP is ms fr h) L E = Wq (ms fr h) (fun ds fr h => Oq (wI is ds fr) fun fr' => ds.length ≤ big ∧ Bq fr' fun fr' => L .nx fr' h) E := by
 unfold CP Bq; rw [aY]
 congr 1
 funext ds fr h
 cases wI is ds fr with
 | none => exact uL.trans qQ.symm
 | some f =>
   rw [o9]
   dsimp only
   split
   · rename_i hb; rw [wX]; simp only [hb, true_and]
   · rename_i hb; rw [uL]; simp only [hb, false_and]
theorem aaW {l : M (List D)} {g : D → M Unit} {b : M Fl} : Wq (gq l g b fr h) L E = Wq (l fr h) (fun ds fr h => Wq (ou g b ds fr h) L E) E := by
 unfold gq; rw [aY]
theorem aeK {vs : List Nat} {l : M (List D)} {g : D → M Unit} {t : M Bool} {e : M D} : Wq (fM vs l g t e fr h) Q E = Wq (l fr h) (fun ds fr h => ds.length ≤ big ∧ Bq (fQ fr vs) fun fr => Wq (iT vs g t e ds fr h) (fun r fr h => Q (.nl r) fr h) E) E := by
 unfold fM Ma Bq; rw [aY]
 congr 1
 funext ds fr h
 rw [aY, wX]
 split
 · rename_i hb; rw [aY]; simp only [eX, hb, true_and]
 · rename_i hb; rw [gA, qQ]; simp only [hb, false_and]
theorem aaX {d : D} : Wq (aR i d fr h) U E = Bq (fr.set i (some d)) fun fr => U () fr h := by
 unfold aR Bq; exact wX
theorem ZD : Wq (dJ [] fr h) U E = U () fr h := eX
theorem Ye {g : D → M Unit} {gs : List D → M Unit} {d : D} {ds : List D} : Wq (aU g gs (d :: ds) fr h) U E = Wq (g d fr h) (fun _ fr h => Wq (gs ds fr h) U E) E := by
 unfold aU; exact aY
theorem ZF {n : Nat} {gs : List D → M Unit} {l : List D} : Wq (dH n gs (.tup l) fr h) U E = (l.length = n ∧ Wq (gs l fr h) U E) := by
 unfold dH
 dsimp only
 split
 · rename_i hb; simp only [hb, true_and]
 · rename_i hb; rw [gA, qQ]; simp only [hb, false_and]
theorem acY {f : List D → Option (List D)} : Wq (cQ i f fr h) U E = Sq fr[i]? fun d => match d with
 | .nl l => Oq (f l) fun l' => Bq (fr.set i (some (.nl l'))) fun fr => U () fr h
 | .ref n => Oq h[n]? fun c => match c with
   | .nl l => Oq (f l) fun l' => U () fr (h.set n (.nl l'))
   | _ => False
 | _ => False := by
 unfold cQ Bq
 cases e : fr[i]? with
 | none => unfold Wq Sq; rfl
 | some o =>
   cases o with
   | none => unfold Wq Sq; rfl
   | some d =>
     rw [Ii]
     cases d with
     | nl l => dsimp only; cases f l <;> (unfold Wq Oq; rfl)
     | ref n =>
       dsimp only
       cases h[n]? with
       | none => unfold Wq Oq; rfl
       | some c =>
         rw [o9]
         cases c with
         | nl l => dsimp only; cases f l <;> (unfold Wq Oq; rfl)
         | _ => unfold Wq; rfl
     | _ => unfold Wq; rfl
theorem aaY {n : Nat} {f : List D → Option (List D)} : Wq (eZ (.ref n) f fr h) U E = Oq h[n]? fun c => match c with
 | .nl l => Oq (f l) fun l' => U () fr (h.set n (.nl l'))
 | _ => False := by
 unfold eZ
 dsimp only
 cases h[n]? with
 | none => unfold Wq Oq; rfl
 | some c =>
   rw [o9]
   cases c with
   | nl l => dsimp only; cases f l <;> (unfold Wq Oq; rfl)
   | _ => unfold Wq; rfl
theorem aaZ : Wq (uw i m fr h) Q E = Wq (cQ i qw fr h) (fun _ fr h => Wq (m fr h) (fun d fr h => Wq (cQ i (zR d) fr h) (fun _ fr h => Q .non fr h) E) E) E := by
 unfold uw; simp only [aY, eX]
theorem aa0 {mo : M D} : Wq (Mg mo m fr h) Q E = Wq (mo fr h) (fun o fr h => Wq (eZ o qw fr h) (fun _ fr h => Wq (m fr h) (fun d fr h => Wq (eZ o (zR d) fr h) (fun _ fr h => Q .non fr h) E) E) E) E := by
 unfold Mg; simp only [aY, eX]
theorem aa1 {mi : M D} : Wq (oN i m mi fr h) L E = Wq (m fr h) (fun d fr h => Sq fr[i]? fun _ => Wq (mi fr h) (fun j fr h => Wq (cQ i (pG j d) fr h) (fun _ fr h => L .nx fr h) E) E) E := by
 unfold oN; simp only [aY, eX, Xd]
theorem aa2 : Wq (qY m fr h) Q E = Wq (m fr h) (fun d fr h => d.own = true ∧ Q (.ref h.length) fr (h ++ [d])) E := by
 unfold qY; rw [aY]
 congr 1
 funext d fr h
 split
 · rename_i hb; rw [wX]; simp only [hb, true_and]
 · rename_i hb; rw [uL, eq_iff_iff]
   exact ⟨False.elim, fun z => hb z.1⟩
theorem Yg {ix : Nat → Option Nat} : Wq (oO i ix m fr h) L E = Wq (m fr h) (fun d fr h => Wq (uY i ix d fr h) (fun _ fr h => L .nx fr h) E) E := by
 unfold oO; simp only [aY, eX]
theorem aa3 {ix : Nat → Option Nat} {x : D} : Wq (uY i ix x fr h) U E = Sq fr[i]? fun d => match d with
 | .no c fs => Oq (ix c) fun k => Oq (pH k x fs) fun fs' => Bq (fr.set i (some (.no c fs'))) fun fr => U () fr h
 | .ref n => Oq h[n]? fun c => match c with
   | .no c fs => Oq (ix c) fun k => Oq (pH k x fs) fun fs' => U () fr (h.set n (.no c fs'))
   | _ => False
 | _ => False := by
 unfold uY Bq
 cases e : fr[i]? with
 | none => unfold Wq Sq; rfl
 | some o =>
   cases o with
   | none => unfold Wq Sq; rfl
   | some d =>
     rw [Ii]
     cases d with
     | no c fs =>
       dsimp only
       cases ix c with
       | none => unfold Wq Oq; rfl
       | some k => rw [o9]; dsimp only; cases pH k x fs <;> (unfold Wq Oq; rfl)
     | ref n =>
       dsimp only
       cases h[n]? with
       | none => unfold Wq Oq; rfl
       | some c =>
         rw [o9]
         cases c with
         | no c fs =>
           dsimp only
           cases ix c with
           | none => unfold Wq Oq; rfl
           | some k => rw [o9]; dsimp only; cases pH k x fs <;> (unfold Wq Oq; rfl)
         | _ => unfold Wq; rfl
     | _ => unfold Wq; rfl
theorem aa4 {r : R D} {fr0 : Fr} : Wq (qC fr0 r) Q E = Wq r (fun d _ h => Q d fr0 h) (fun x _ h => E x fr0 h) := by
 cases r <;> (unfold Wq qC; rfl)
theorem Vd {n k : Nat} {F : Fn} {gD : List D → List D → List D} {ma mk : M (List D)} : Wq (bW n k F gD ma mk fr h) Q E = Wq (ma fr h) (fun ds fr h => Wq (mk fr h) (fun es fr h => ds.length = n ∧ es.length = k ∧ Wq (F (gD ds es) h) (fun d _ h => Q d fr h) (fun x _ h => E x fr h)) E) E := by
 unfold bW; rw [aY]
 congr 1
 funext ds fr h
 rw [aY]
 congr 1
 funext es fr h
 split
 · rename_i hb; rw [aa4]; simp only [hb.1, hb.2, true_and]
 · rename_i hb
   rw [uL, eq_iff_iff]
   exact ⟨False.elim, fun z => hb ⟨z.1, z.2.1⟩⟩
theorem aa5 {n k : Nat} {mt : Nat → Option Fn} {gD : List D → List D → List D} {mo : M D} {ma mk : M (List D)} : Wq (mZ n k mt gD mo ma mk fr h) Q E = Wq (mo fr h) (fun o fr h => Oq (fnOf mt h o) fun F => Wq (ma fr h) (fun ds fr h => Wq (mk fr h) (fun es fr h => ds.length = n ∧ es.length = k ∧ Wq (F (gD (o :: ds) es) h) (fun d _ h => Q d fr h) (fun x _ h => E x fr h)) E) E) E := by
 unfold mZ; rw [aY]
 congr 1
 funext o fr h
 cases fnOf mt h o with
 | none => exact uL.trans qQ.symm
 | some F =>
   rw [o9]
   dsimp only
   rw [Vd]
   simp only [aY, eX, akU, Nat.add_right_cancel_iff]
theorem aa6 {n : Nat} {m : M Fl} {ds : List D} : Wq (dY n m ds h) Q E = Bq (startF n ds) fun fr => Wq (m fr h) (fun f _ h => Rq f fun d => Q d [] h) (fun x _ h => E x [] h) := by
 unfold dY Bq
 show _ = Wq (m (startF n ds) h) _ _
 generalize m (startF n ds) h = r
 cases r with
 | ok f fr h => cases f <;> rfl
 | exc x fr h => rfl
 | err => rfl
def Nq (c : Nat) (s : Option (Option D)) (K : D → Prop) : Prop := match s with
 | some (some (.no c' fs)) => c' = c ∧ K (.no c fs)
 | _ => False
end
structure Jt {β γ : Type} (_ : β) (_ : γ) : Type where
def Wp {α : Type} (r : R α) (Q : α → Fr → Hh → Prop) (E : aH → Fr → Hh → Prop) (_ : Jt Q E := ⟨⟩) : Prop := Wq r Q E
def Op {α : Type} (o : Option α) (K : α → Prop) (_ : Jt K K := ⟨⟩) : Prop := Oq o K
def Sl (s : Option (Option D)) (K : D → Prop) (_ : Jt K K := ⟨⟩) : Prop := Sq s K
def Cd (b : Bool) (A B : Prop) (_ : Jt A B := ⟨⟩) : Prop := Jr b A B
def Bx (fr : Fr) (K : Fr → Prop) (_ : Jt K K := ⟨⟩) : Prop := Bq fr K
def FlK (f : Fl) (A B : Prop) (_ : Jt A B := ⟨⟩) : Prop := Fq f A B
def RtK (f : Fl) (K : D → Prop) (_ : Jt K K := ⟨⟩) : Prop := Rq f K
def NoK (c : Nat) (s : Option (Option D)) (K : D → Prop) (_ : Jt K K := ⟨⟩) : Prop := Nq c s K
section
variable {α β : Type} {Q : α → Fr → Hh → Prop} {E : aH → Fr → Hh → Prop} {fr : Fr} {h : Hh}
theorem cJ {a : α} : Wp (.ok a fr h) Q E = Q a fr h := wX
theorem aK {a : α} {K : α → Prop} : Op (some a) K = K a := o9
theorem Ve {c : Prop} [Decidable c] {a : α} {K : α → Prop} : Op (if c then some a else none) K = (c ∧ K a) := Ms
theorem aeM {c : Bool} {a : α} {K : α → Prop} : Op (if c then some a else none) K = (c = true ∧ K a) := acL
theorem aA {d : D} {K : D → Prop} : Sl (some (some d)) K = K d := Ii
theorem dF {A B : Prop} : Cd true A B = A := Yc
theorem bH {A B : Prop} : Cd false A B = B := Yd
theorem aC {a : Option D} {l : Fr} {K : Fr → Prop} : Bx (a :: l) K = K (a :: l) := aaL
theorem cA {A B : Prop} : FlK .nx A B = A := W9
theorem Vf {A B : Prop} {d : D} : FlK (.rt d) A B = B := Xa
theorem Qm {A B : Prop} : FlK .ct A B = B := Xb
theorem ZG {K : D → Prop} : RtK .nx K = K .non := acM
theorem lN {K : D → Prop} {d : D} : RtK (.rt d) K = K d := acN
theorem Wp.mono {r : R α} {Q Q' : α → Fr → Hh → Prop} {E : aH → Fr → Hh → Prop} (w : Wp r Q E) (hq : ∀ a fr h, Q a fr h → Q' a fr h) : Wp r Q' E := Wq.mono w hq
theorem Wp.ex {r : R α} {Q : α → Fr → Hh → Prop} (w : Wp r Q dD) : ∃ a fr h, r = .ok a fr h ∧ Q a fr h := Wq.ex w
theorem Wp.eq {a : α} {r : R α} {fr : Fr} {h : Hh} (w : Wp r (fun b fr1 h1 => b = a ∧ fr1 = fr ∧ h1 = h) dD) : r = .ok a fr h := Wq.eq w
theorem Wp.of_eq {r : R α} {a : α} {fr : Fr} {h : Hh} (e : r = .ok a fr h) (q : Q a fr h) : Wp r Q E := Wq.of_eq e q
theorem cX {a : α} : Wp (M.ret a fr h) Q E = Q a fr h := eX
end
section
variable {α : Type} {Q : D → Fr → Hh → Prop} {P : Bool → Fr → Hh → Prop} {S : α → Fr → Hh → Prop} {U : Unit → Fr → Hh → Prop} {G : List D → Fr → Hh → Prop} {L : Fl → Fr → Hh → Prop} {I : Option Int → Fr → Hh → Prop} {E : aH → Fr → Hh → Prop} {fr : Fr} {h : Hh} {m ma mb mc : M D} {i : Nat}
theorem cP {d : D} : Wp (mC d fr h) Q E = Q d fr h := afK
theorem fU : Wp (bG m fr h) Q E = Wp (m fr h) (fun d fr h => Q d.fz fr h) E := aeC
theorem aQ : Wp (aa i fr h) Q E = Sl fr[i]? fun d => Cd d.own (Bx (fr.set i (some d.fz)) fun fr => Q d.fz fr h) (Q d fr h) := acO
theorem Q7 : Wp (uh i fr h) Q E = Sl fr[i]? fun d => Bx (fr.set i none) fun fr => Q d fr h := aaN
theorem cY : Wp (aN i fr h) Q E = Sl fr[i]? fun d => Q d fr h := Xc
theorem bK {f : Hh → D → D → Option α} : Wp (aq f ma mb fr h) S E = Wp (ma fr h) (fun x fr h => Wp (mb fr h) (fun y fr h => Op (f h x y) fun z => S z fr h) E) E := aeD
theorem cD {f : Hh → D → Option α} : Wp (aJ f ma fr h) S E = Wp (ma fr h) (fun x fr h => Op (f h x) fun z => S z fr h) E := aeE
theorem KH {t : M Bool} : Wp (zP t fr h) P E = Wp (t fr h) (fun b fr h => P (!b) fr h) E := acP
theorem mJ {t u : M Bool} : Wp (qZ t u fr h) P E = Wp (t fr h) (fun b fr h => Cd b (Wp (u fr h) P E) (P false fr h)) E := acQ
theorem ux {t u : M Bool} : Wp (uA t u fr h) P E = Wp (t fr h) (fun b fr h => Cd b (P true fr h) (Wp (u fr h) P E)) E := aeF
theorem acZ : Wp (LC m fr h) Q E = Wp (m fr h) (fun d fr h => Op d.tb fun b => Q (.bl (!b)) fr h) E := aaO
theorem ac0 {n : M D} : Wp (LK m n fr h) Q E = Wp (m fr h) (fun d fr h => Op d.tb fun b => Cd b (Wp (n fr h) Q E) (Q (.bl false) fr h)) E := aaP
theorem TQ {t : M Bool} {m n : M α} : Wp (Gq t m n fr h) S E = Wp (t fr h) (fun b fr h => Cd b (Wp (m fr h) S E) (Wp (n fr h) S E)) E := aeG
theorem bQ : Wp (ak [] fr h) G E = G [] fr h := Zz
theorem cG {ms : List (M D)} : Wp (ak (m :: ms) fr h) G E = Wp (m fr h) (fun d fr h => Wp (ak ms fr h) (fun ds fr h => G (d :: ds) fr h) E) E := ZC
theorem KJ {ms : List (M D)} : Wp (rA ms fr h) Q E = Wp (ak ms fr h) (fun ds fr h => ds.length ≤ big ∧ Q (.tup ds) fr h) E := acR
theorem qD {ms : List (M D)} : Wp (eU ms fr h) Q E = Wp (ak ms fr h) (fun ds fr h => ds.length ≤ big ∧ Q (.nl ds) fr h) E := acS
theorem eY {β : Type} {m : M β} {f : Hh → D → β → Option D} : Wp (bU i m f fr h) Q E = Sl fr[i]? fun _ => Wp (m fr h) (fun y fr h => Sl fr[i]? fun d => Op (f h d y) fun z => Q z fr h) E := aaQ
theorem afL : Wp (Uh fr h) I E = I none fr h := aeH
theorem afM : Wp (Pj m fr h) I E = Wp (m fr h) (fun d fr h => Op (match d with | .int i => some i | _ => none) fun i => I (some i) fr h) E := aeI
theorem ac1 {ml mh : M (Option Int)} {J : Option Int × Option Int → Fr → Hh → Prop} : Wp (yP ml mh fr h) J E = Wp (ml fr h) (fun l fr h => Wp (mh fr h) (fun u fr h => J (l, u) fr h) E) E := aaR
theorem yR : Wp (rB m fr h) G E = Wp (m fr h) (fun d fr h => Op (d.its []) fun l => G l fr h) E := aeJ
theorem oX : Wp (dO m fr h) G E = Wp (m fr h) (fun d fr h => Op (Aa d) fun l => G l fr h) E := aaS
theorem yu : Wp (qb m fr h) G E = Wp (m fr h) (fun d fr h => Op d.lst fun l => G (eG 0 l) fr h) E := aaT
theorem cR {s n : M Fl} : Wp (aD s n fr h) L E = Wp (s fr h) (fun f fr h => FlK f (Wp (n fr h) L E) (L f fr h)) E := acT
theorem gh {t : M Bool} {s n : M Fl} : Wp (fu t s n fr h) L E = Wp (t fr h) (fun b fr h => Cd b (Wp (s fr h) L E) (Wp (n fr h) L E)) E := acU
theorem rE {m : M α} : Wp (oJ m fr h) L E = Wp (m fr h) (fun _ fr h => L .nx fr h) E := aaU
theorem lD : Wp (cO m fr h) L E = Wp (m fr h) (fun d fr h => L (.rt d) fr h) E := acV
theorem dB : Wp (bu i m fr h) L E = Wp (m fr h) (fun d fr h => Bx (fr.set i (some d)) fun fr => L .nx fr h) E := acW
theorem Vg {g : D → M Unit} : Wp (Ka m g fr h) L E = Wp (m fr h) (fun d fr h => Wp (g d fr h) (fun _ fr h => L .nx fr h) dD) E := acX
theorem Q8 {is : List Nat} {ms : M (List D)} : Wp (CP is ms fr h) L E = Wp (ms fr h) (fun ds fr h => Op (wI is ds fr) fun fr' => ds.length ≤ big ∧ Bx fr' fun fr' => L .nx fr' h) E := aaV
theorem rF {l : M (List D)} {g : D → M Unit} {b : M Fl} : Wp (gq l g b fr h) L E = Wp (l fr h) (fun ds fr h => Wp (ou g b ds fr h) L E) E := aaW
theorem qd {vs : List Nat} {l : M (List D)} {g : D → M Unit} {t : M Bool} {e : M D} : Wp (fM vs l g t e fr h) Q E = Wp (l fr h) (fun ds fr h => ds.length ≤ big ∧ Bx (fQ fr vs) fun fr => Wp (iT vs g t e ds fr h) (fun r fr h => Q (.nl r) fr h) E) E := aeK
theorem bf {d : D} : Wp (aR i d fr h) U E = Bx (fr.set i (some d)) fun fr => U () fr h := aaX
theorem cV : Wp (dJ [] fr h) U E = U () fr h := ZD
theorem cH {g : D → M Unit} {gs : List D → M Unit} {d : D} {ds : List D} : Wp (aU g gs (d :: ds) fr h) U E = Wp (g d fr h) (fun _ fr h => Wp (gs ds fr h) U E) E := Ye
theorem cW {n : Nat} {gs : List D → M Unit} {l : List D} : Wp (dH n gs (.tup l) fr h) U E = (l.length = n ∧ Wp (gs l fr h) U E) := ZF
theorem rG {f : List D → Option (List D)} : Wp (cQ i f fr h) U E = Sl fr[i]? fun d => match d with
 | .nl l => Op (f l) fun l' => Bx (fr.set i (some (.nl l'))) fun fr => U () fr h
 | .ref n => Op h[n]? fun c => match c with
   | .nl l => Op (f l) fun l' => U () fr (h.set n (.nl l'))
   | _ => False
 | _ => False := acY
theorem Mu {n : Nat} {f : List D → Option (List D)} : Wp (eZ (.ref n) f fr h) U E = Op h[n]? fun c => match c with
 | .nl l => Op (f l) fun l' => U () fr (h.set n (.nl l'))
 | _ => False := aaY
theorem yw : Wp (uw i m fr h) Q E = Wp (cQ i qw fr h) (fun _ fr h => Wp (m fr h) (fun d fr h => Wp (cQ i (zR d) fr h) (fun _ fr h => Q .non fr h) E) E) E := aaZ
theorem ac2 {mo : M D} : Wp (Mg mo m fr h) Q E = Wp (mo fr h) (fun o fr h => Wp (eZ o qw fr h) (fun _ fr h => Wp (m fr h) (fun d fr h => Wp (eZ o (zR d) fr h) (fun _ fr h => Q .non fr h) E) E) E) E := aa0
theorem yz {mi : M D} : Wp (oN i m mi fr h) L E = Wp (m fr h) (fun d fr h => Sl fr[i]? fun _ => Wp (mi fr h) (fun j fr h => Wp (cQ i (pG j d) fr h) (fun _ fr h => L .nx fr h) E) E) E := aa1
theorem Q9 : Wp (qY m fr h) Q E = Wp (m fr h) (fun d fr h => d.own = true ∧ Q (.ref h.length) fr (h ++ [d])) E := aa2
theorem R5 {ix : Nat → Option Nat} : Wp (oO i ix m fr h) L E = Wp (m fr h) (fun d fr h => Wp (uY i ix d fr h) (fun _ fr h => L .nx fr h) E) E := Yg
theorem Xe {ix : Nat → Option Nat} {x : D} : Wp (uY i ix x fr h) U E = Sl fr[i]? fun d => match d with
 | .no c fs => Op (ix c) fun k => Op (pH k x fs) fun fs' => Bx (fr.set i (some (.no c fs'))) fun fr => U () fr h
 | .ref n => Op h[n]? fun c => match c with
   | .no c fs => Op (ix c) fun k => Op (pH k x fs) fun fs' => U () fr (h.set n (.no c fs'))
   | _ => False
 | _ => False := aa3
theorem gG {n k : Nat} {F : Fn} {gD : List D → List D → List D} {ma mk : M (List D)} : Wp (bW n k F gD ma mk fr h) Q E = Wp (ma fr h) (fun ds fr h => Wp (mk fr h) (fun es fr h => ds.length = n ∧ es.length = k ∧ Wp (F (gD ds es) h) (fun d _ h => Q d fr h) (fun x _ h => E x fr h)) E) E := Vd
theorem Bc {n k : Nat} {mt : Nat → Option Fn} {gD : List D → List D → List D} {mo : M D} {ma mk : M (List D)} : Wp (mZ n k mt gD mo ma mk fr h) Q E = Wp (mo fr h) (fun o fr h => Op (fnOf mt h o) fun F => Wp (ma fr h) (fun ds fr h => Wp (mk fr h) (fun es fr h => ds.length = n ∧ es.length = k ∧ Wp (F (gD (o :: ds) es) h) (fun d _ h => Q d fr h) (fun x _ h => E x fr h)) E) E) E := aa5
theorem gH {n : Nat} {m : M Fl} {ds : List D} : Wp (dY n m ds h) Q E = Bx (startF n ds) fun fr => Wp (m fr h) (fun f _ h => RtK f fun d => Q d [] h) (fun x _ h => E x [] h) := aa6
end
end Pk
namespace Pk
open PySem PySem.Spec L2
section
variable {h : Hh} {l l' ds fs : List D} {i j : Int} {a b : Bool} {s z : Str} {n c : Nat} {t : String}
theorem aW : (D.int i).own = false := by unfold D.own; rfl
theorem ZJ : (D.bl a).own = false := by unfold D.own; rfl
theorem Mv : (D.str s).own = false := by unfold D.own; rfl
theorem Ra : D.non.own = false := by unfold D.own; rfl
theorem vZ : (D.tup l).own = false := by unfold D.own; rfl
theorem qF : (D.fl l).own = false := by unfold D.own; rfl
theorem aeN : (D.kl l).own = false := by unfold D.own; rfl
theorem dW : (D.ref n).own = false := by unfold D.own; rfl
theorem rH : (D.nl l).own = true := by unfold D.own; rfl
theorem lO : (D.int i).fz = .int i := by unfold D.fz; rfl
theorem ZK : (D.tup l).fz = .tup l := by unfold D.fz; rfl
theorem m7 : (D.nl l).fz = .fl l := by unfold D.fz; rfl
theorem Mw : (D.tup l).its h = some l := by unfold D.its D.der; rfl
theorem uH : (D.fl l).its h = some l := by unfold D.its D.der; rfl
theorem aeO : (D.kl l).its h = some l := by unfold D.its D.der; rfl
theorem Qn : (D.nl l).its h = some l := by unfold D.its D.der; rfl
theorem ac3 {x : D} (e : h[n]? = some x) : (D.ref n).der h = x := by
 unfold D.der; dsimp only; rw [e]; rfl
theorem ac4 (e : h[n]? = some (.nl l)) : (D.ref n).its h = some l := by
 unfold D.its; rw [ac3 e]
theorem Bv : cI h (.tup l) = some (.int l.length) := by unfold cI; dsimp only; rw [Mw]; rfl
theorem v4 : cI h (.fl l) = some (.int l.length) := by unfold cI; dsimp only; rw [uH]; rfl
theorem ac5 : cI h (.kl l) = some (.int l.length) := by unfold cI; dsimp only; rw [aeO]; rfl
theorem Xf : cI h (.nl l) = some (.int l.length) := by unfold cI; dsimp only; rw [Qn]; rfl
theorem lQ : aP h (.tup l) (.int i) = atI l i := by unfold aP; dsimp only; rw [Mw]
theorem Vh : aP h (.fl l) (.int i) = atI l i := by unfold aP; dsimp only; rw [uH]
theorem Xg : aP h (.nl l) (.int i) = atI l i := by unfold aP; dsimp only; rw [Qn]
theorem yC (e : h[n]? = some (.nl l)) : aP h (.ref n) (.int i) = atI l i := by unfold aP; dsimp only; rw [ac4 e]
section
variable {α : Type} {xs : List α}
theorem ju {k : Nat} : atI xs (k : Int) = xs[k]? := by
 unfold atI ixN
 rw [if_pos (by omega)]
 by_cases hk : k < xs.length
 · rw [if_pos (by omega)]; simp
 · rw [if_neg (by omega)]; simp; omega
theorem aeP : atI xs 0 = xs[0]? := ju (k := 0)
theorem acb : atI xs (-1) = xs.getLast? := by
 unfold atI ixN
 rw [if_neg (by decide), List.getLast?_eq_getElem?]
 by_cases hk : 1 ≤ xs.length
 · rw [if_pos (by omega)]
   show xs[((-1 : Int) + (xs.length : Int)).toNat]? = _
   congr 1; omega
 · rw [if_neg (by omega)]
   have : xs = [] := List.length_eq_zero_iff.mp (by omega)
   subst this; rfl
end
section
variable {C : Int → Int → Bool} {g : Int → Int → Int} {K : D → Prop}
theorem mK : Op (tM C g h (.int i) (.int j)) K = (C i j = true ∧ K (.int (g i j))) := by unfold tM; exact aeM
theorem yS : T7 i j = true := by unfold T7; rfl
theorem pO : du h (.int i) (.int j) = some (.int (i + j)) := by unfold du; rfl
theorem v5 : du h (.fl l) (.fl l') = if l.length + l'.length ≤ big then some (.nl (l ++ l')) else none := by unfold du; rfl
theorem Ik : pY h (.bl a) = some (.int (if a then 1 else 0)) := by unfold pY; rfl
theorem aa7 {d : D} : Pn h d = (d.its h).map .nl := by unfold Pn; rfl
theorem R6 {d : D} : Bm h d = (d.its h).map .tup := by unfold Bm; rfl
theorem dZ {p : Int → Int → Bool} : cInt p h (.int i) (.int j) = some (p i j) := by unfold cInt; rfl
theorem oA : fX h (.int i) (.int j) = some (decide (i = j)) := by
 have : fX h (.int i) (.int j) = some (i == j) := by unfold fX; rfl
 rw [this]
 by_cases e : i = j
 · subst e; simp
 · simp [e]
theorem Vi {d e : D} : zY h d e = (fX h d e).map (!·) := by unfold zY; rfl
theorem afN : (D.bl a).tb = some a := by unfold D.tb; rfl
theorem qG : (D.bl a).tru h = some a := by unfold D.tru; rfl
end
theorem ZL : ∀ xs : List Int, D.ints (xs.map .int) = some xs
 | [] => by unfold D.ints; rfl
 | i :: xs => by rw [akY]; unfold D.ints; rw [ZL xs]; rfl
theorem afO {xs : List Int} : aaj h (.nl (xs.map .int)) = some (.int xs.sum) := by
 unfold aaj D.lints D.der; dsimp only; rw [ZL]; rfl
theorem Oh {fr : Fr} : wI [] [] fr = some fr := by unfold wI; rfl
theorem KN {fr : Fr} {k : Nat} {ks : List Nat} {d : D} : wI (k :: ks) (d :: ds) fr = wI ks ds (fr.set k (some d)) := by rw [wI]
theorem bB {fr : Fr} : fQ fr [] = fr := by unfold fQ; rfl
theorem bj {fr : Fr} {k : Nat} {ks : List Nat} : fQ fr (k :: ks) = (fQ fr ks).set k none := by rw [fQ]
theorem dX {dfl es : List D} : bh dfl ds es = ds ++ dfl := by unfold bh; rfl
theorem uI : qw l = some l := by unfold qw; rfl
theorem v7 {d : D} : zR d l = if l.length < big then some (l ++ [d]) else none := by unfold zR; rfl
end
theorem dU : big = 100000 := by unfold big; rfl
def Bw (f : Fl) (A : Prop) (B : Fl → Prop) (_ : Jt A B := ⟨⟩) : Prop := match f with
 | .nx => A
 | .ct => A
 | .brk => B .nx
 | .rt d => B (.rt d)
theorem d9 {A : Prop} {B : Fl → Prop} : Bw .nx A B = A := by unfold Bw; rfl
theorem wY {A : Prop} {B : Fl → Prop} : Bw .ct A B = A := by unfold Bw; rfl
theorem Mz {A : Prop} {B : Fl → Prop} : Bw .brk A B = B .nx := by unfold Bw; rfl
theorem Qo {d : D} {A : Prop} {B : Fl → Prop} : Bw (.rt d) A B = B (.rt d) := by unfold Bw; rfl
section
variable {L : Fl → Fr → Hh → Prop} {E : aH → Fr → Hh → Prop} {g : D → M Unit} {b : M Fl}
theorem Rb {fr : Fr} {h : Hh} : Wp (ou g b [] fr h) L E = L .nx fr h := by unfold ou; exact cX
theorem Be {d : D} {ds : List D} {fr : Fr} {h : Hh} : Wp (ou g b (d :: ds) fr h) L E = Wp (g d fr h) (fun _ fr h => Wp (b fr h) (fun f fr h => Bw f (Wp (ou g b ds fr h) L E) fun f => L f fr h) E) dD := by
 rw [ou]
 dsimp only
 cases g d fr h with
 | ok u fr h =>
   rw [cJ]
   dsimp only
   cases b fr h with
   | ok f fr h =>
     rw [cJ]
     cases f with
     | nx => rw [d9]
     | ct => rw [wY]
     | brk => rw [Mz]; exact cJ
     | rt d => rw [Qo]; exact cJ
   | exc x fr h => unfold Wp; rfl
   | err => unfold Wp; rfl
 | exc x fr h => unfold Wp dD; rfl
 | err => unfold Wp; rfl
theorem Vj {α : Type} {F : α → D} {xs : List α} (I : List α → Fr → Hh → Prop) {fr : Fr} {h : Hh} (i0 : I [] fr h)
 (st : ∀ pre a suf fr h, xs = pre ++ a :: suf → I pre fr h → Wp (g (F a) fr h) (fun _ fr h => Wp (b fr h) (fun f fr h => Bw f (I (pre ++ [a]) fr h) fun f => L f fr h) E) dD)
 (en : ∀ fr h, I xs fr h → L .nx fr h) : Wp (ou g b (xs.map F) fr h) L E := by
 have main : ∀ (suf pre : List α) (fr : Fr) (h : Hh), xs = pre ++ suf → I pre fr h → Wp (ou g b (suf.map F) fr h) L E := by
  intro suf
  induction suf with
  | nil =>
    intro pre fr h e i
    rw [ak2, Rb]
    rw [akZ] at e
    subst e
    exact en fr h i
  | cons a suf ih =>
    intro pre fr h e i
    rw [akY, Be]
    refine (st pre a suf fr h e i).mono fun _ fr1 h1 w => w.mono fun f fr2 h2 z => ?_
    have e' : xs = (pre ++ [a]) ++ suf := by rw [e, aln]; rfl
    cases f with
    | nx => rw [d9] at z ⊢; exact ih _ _ _ e' z
    | ct => rw [wY] at z ⊢; exact ih _ _ _ e' z
    | brk => rw [Mz] at z ⊢; exact z
    | rt d => rw [Qo] at z ⊢; exact z
 exact main xs [] fr h rfl i0
theorem ac6 {lo : Int} {n : Nat} (I : Int → Fr → Hh → Prop) {fr : Fr} {h : Hh} (i0 : I lo fr h)
 (st : ∀ j fr h, lo ≤ j → j < lo + n → I j fr h → Wp (g (.int j) fr h) (fun _ fr h => Wp (b fr h) (fun f fr h => Bw f (I (j + 1) fr h) fun f => L f fr h) E) dD)
 (en : ∀ fr h, I (lo + n) fr h → L .nx fr h) : Wp (ou g b (fV lo n) fr h) L E := by
 have e : fV lo n = ((akS n).map fun (k : Nat) => lo + (k : Int)).map D.int := by unfold fV; rw [alc]; rfl
 rw [e]
 refine Vj (fun pre fr h => I (lo + pre.length) fr h) (by simpa using i0) (fun pre a suf fr h ex i => ?_) (fun fr h i => en fr h ?_)
 · have hl : pre.length < n := by
    have := congrArg List.length ex
    simp only [akW, ak1, ak3, akU] at this
    omega
   have ha : a = lo + pre.length := by
    have := congrArg (fun l => l[pre.length]?) ex
    simp only [ak5, List.getElem?_range hl, Option.map_some, ali (Nat.le_refl _), Nat.sub_self, akR, Option.some.injEq] at this
    exact this.symm
   subst ha
   have z := st (lo + pre.length) fr h (by omega) (by omega) i
   rw [ak3, alg, Int.natCast_add, ← Int.add_assoc]
   exact z
 · simpa using i
end
section
variable {vs : List Nat} {g : D → M Unit} {t : M Bool} {e : M D}
theorem dN {d : D} {Q : Option D → Fr → Hh → Prop} {E : aH → Fr → Hh → Prop} {fr : Fr} {h : Hh} : Wp (fL vs g t e d fr h) Q E = Wp (g d fr h) (fun _ fr h => Wp (t fr h) (fun b fr h => Cd b (Wp (e fr h) (fun y fr h => Bx (fQ fr vs) fun fr => Q (some y) fr h) dD) (Bx (fQ fr vs) fun fr => Q none fr h)) dD) dD := by
 unfold fL Bx
 cases g d fr h with
 | ok u fr h =>
   rw [cJ]
   dsimp only
   cases t fr h with
   | ok b fr h =>
     rw [cJ]
     cases b with
     | true =>
       rw [dF]
       dsimp only
       cases e fr h with
       | ok y fr h => rw [cJ]; exact cJ (E := dD)
       | exc x fr h => unfold Wp dD; rfl
       | err => unfold Wp; rfl
     | false => rw [bH]; exact cJ
   | exc x fr h => unfold Wp dD; rfl
   | err => unfold Wp; rfl
 | exc x fr h => unfold Wp dD; rfl
 | err => unfold Wp; rfl
theorem MF {fr : Fr} {h : Hh} : iT vs g t e [] fr h = .ok [] fr h := by unfold iT; rfl
theorem uN {α : Type} {F G : α → D} {p : α → Bool} {fr : Fr} {h : Hh} : ∀ {xs : List α}, (∀ a ∈ xs, Wp (fL vs g t e (F a) fr h) (fun o fr1 h1 => (o = if p a then some (G a) else none) ∧ fr1 = fr ∧ h1 = h) dD) → iT vs g t e (xs.map F) fr h = .ok ((xs.filter p).map G) fr h
 | [], _ => MF
 | a :: xs, hh => by
   rw [akY]
   unfold iT
   rw [M.bind_ok ((hh a ak4).eq), M.bind_ok (uN fun x hx => hh x (alb _ hx)), List.filter_cons]
   cases p a <;> rfl
theorem pK {α : Type} {F G : α → D} {fr : Fr} {h : Hh} {xs : List α} (hh : ∀ a ∈ xs, Wp (fL vs g t e (F a) fr h) (fun o fr1 h1 => o = some (G a) ∧ fr1 = fr ∧ h1 = h) dD) : iT vs g t e (xs.map F) fr h = .ok (xs.map G) fr h := by
 have := uN (p := fun _ => true) (F := F) (G := G) (xs := xs) (vs := vs) (g := g) (t := t) (e := e) (fr := fr) (h := h) (fun a ha => (hh a ha).mono fun o fr1 h1 z => by simpa using z)
 rw [this, List.filter_eq_self.mpr (fun _ _ => rfl)]
theorem Oi {α : Type} {F : α → D} {fr : Fr} {h : Hh} {xs : List α} (hh : ∀ a ∈ xs, Wp (fL vs g t e (F a) fr h) (fun o fr1 h1 => o = none ∧ fr1 = fr ∧ h1 = h) dD) : iT vs g t e (xs.map F) fr h = .ok [] fr h := by
 have := uN (p := fun _ => false) (F := F) (G := F) (xs := xs) (vs := vs) (g := g) (t := t) (e := e) (fr := fr) (h := h) (fun a ha => (hh a ha).mono fun o fr1 h1 z => by simpa using z)
 rw [this, List.filter_eq_nil_iff.mpr (fun _ _ => by simp)]; rfl
end
end Pk
namespace Pk
open PySem PySem.Spec L2
structure Em (α : Type) [DecidableEq α] where
 f : α → PyData
 n : Nat
 ok : α → Prop
 lay : ∀ a, ok a → (f a).canLay0 = true
 dep : ∀ a, (f a).depth ≤ n
 eq : ∀ a b, PyData.eqv (f a) (f b) = decide (a = b)
theorem ac7 (a b : Int) : (a == b) = decide (a = b) := by
 by_cases e : a = b
 · subst e; simp
 · simp [e]
def Em.int : Em Int where
 f := .int
 n := 0
 ok := fun _ => True
 lay := fun _ _ => rfl
 dep := fun _ => Nat.le_refl 0
 eq := fun a b => by
  show (a == b) = _
  exact ac7 a b
def Il (s : Str) : Bool := (PyData.str s).canLay0
def Em.str : Em Str where
 f := .str
 n := 0
 ok := fun s => Il s = true
 lay := fun _ h => h
 dep := fun _ => Nat.le_refl 0
 eq := fun a b => by
  show (a == b) = _
  by_cases e : a = b
  · subst e; simp
  · simp [e]
section
variable {α β : Type} [DecidableEq α] [DecidableEq β]
theorem Em.all_lay (A : Em α) : ∀ {l : List α}, (∀ a ∈ l, A.ok a) → PyData.canLayAll0 (l.map A.f) = true
 | [], _ => rfl
 | a :: l, h => by
   rw [akY, PyData.canLayAll0, A.lay a (h a ak4), A.all_lay fun x hx => h x (alb _ hx)]
   rfl
theorem Em.all_dep (A : Em α) : ∀ l : List α, PyData.depthAll (l.map A.f) ≤ A.n
 | [] => Nat.zero_le _
 | a :: l => by
   rw [akY, PyData.depthAll]
   exact Nat.max_le.mpr ⟨A.dep a, A.all_dep l⟩
theorem Em.all_eq (A : Em α) : ∀ l m : List α, PyData.eqvAll (l.map A.f) (m.map A.f) = decide (l = m)
 | [], [] => rfl
 | [], b :: m => by simp [PyData.eqvAll]
 | a :: l, [] => by simp [PyData.eqvAll]
 | a :: l, b :: m => by
   rw [akY, akY, PyData.eqvAll, A.eq, A.all_eq l m]
   by_cases e : a = b <;> by_cases e2 : l = m <;> simp [e, e2]
def Em.list (A : Em α) : Em (List α) where
 f := fun l => .list (l.map A.f)
 n := A.n + 1
 ok := fun l => ∀ a ∈ l, A.ok a
 lay := fun l h => by rw [PyData.canLay0]; exact A.all_lay h
 dep := fun l => by rw [PyData.depth]; exact Nat.succ_le_succ (A.all_dep l)
 eq := fun l m => by rw [PyData.eqv]; exact A.all_eq l m
def Em.tup (A : Em α) : Em (List α) where
 f := fun l => .tuple (l.map A.f)
 n := A.n + 1
 ok := fun l => ∀ a ∈ l, A.ok a
 lay := fun l h => by rw [PyData.canLay0]; exact A.all_lay h
 dep := fun l => by rw [PyData.depth]; exact Nat.succ_le_succ (A.all_dep l)
 eq := fun l m => by rw [PyData.eqv]; exact A.all_eq l m
def Em.pair (A : Em α) (B : Em β) : Em (α × β) where
 f := fun p => .tuple [A.f p.1, B.f p.2]
 n := max A.n B.n + 1
 ok := fun p => A.ok p.1 ∧ B.ok p.2
 lay := fun p h => by
  rw [PyData.canLay0, PyData.canLayAll0, PyData.canLayAll0, PyData.canLayAll0, A.lay _ h.1, B.lay _ h.2]; rfl
 dep := fun p => by
  rw [PyData.depth, PyData.depthAll, PyData.depthAll, PyData.depthAll]
  have := A.dep p.1
  have := B.dep p.2
  omega
 eq := fun p q => by
  rw [PyData.eqv, PyData.eqvAll, PyData.eqvAll, PyData.eqvAll, A.eq, B.eq]
  obtain ⟨a, b⟩ := p
  obtain ⟨c, d⟩ := q
  by_cases e : a = c <;> by_cases e2 : b = d <;> simp [e, e2]
def Em.opt (A : Em α) (hn : ∀ a, PyData.eqv .none (A.f a) = false ∧ PyData.eqv (A.f a) .none = false) : Em (Option α) where
 f := fun o => match o with
   | some a => A.f a
   | none => .none
 n := A.n
 ok := fun o => ∀ a, o = some a → A.ok a
 lay := fun o h => by
  cases o with
  | none => rfl
  | some a => exact A.lay a (h a rfl)
 dep := fun o => by
  cases o with
  | none => exact Nat.zero_le _
  | some a => exact A.dep a
 eq := fun o p => by
  cases o with
  | none => cases p with
    | none => rfl
    | some b => simp only [(hn b).1]; simp
  | some a => cases p with
    | none => simp only [(hn a).2]; simp
    | some b => simp only [A.eq]; simp
theorem Em.shaped (A : Em α) {a : α} (h : A.ok a) (hn : A.n ≤ 64) : SeqAt.shaped (A.f a) = true := by
 unfold SeqAt.shaped
 rw [A.lay a h, decide_eq_true (Nat.le_trans (A.dep a) hn)]
 rfl
theorem ZM (A : Em α) {h : Hh} {d e : D} {a b : α} (hd : d.toP = some (A.f a)) (he : e.toP = some (A.f b)) (oa : A.ok a) (ob : A.ok b) (hn : A.n ≤ 64) : fX h d e = some (decide (a = b)) := by
 unfold fX
 rw [hd, he]
 dsimp only
 rw [A.shaped oa hn, A.shaped ob hn, ← A.eq]
 rfl
theorem MJ (A : Em α) {g : α → D} (hg : ∀ a, (g a).toP = some (A.f a)) : ∀ l : List α, D.toPs (l.map g) = some (l.map A.f)
 | [] => by rw [ak2, D.toPs]; rfl
 | a :: l => by
   rw [akY, D.toPs, hg a, MJ A hg l]
   rfl
theorem aeQ (A : Em α) {g : α → D} (hg : ∀ a, (g a).toP = some (A.f a)) (l : List α) : (D.fl (l.map g)).toP = some (A.list.f l) := by
 rw [D.toP, MJ A hg]; rfl
theorem aeR (A : Em α) {g : α → D} (hg : ∀ a, (g a).toP = some (A.f a)) (l : List α) : (D.nl (l.map g)).toP = some (A.list.f l) := by
 rw [D.toP, MJ A hg]; rfl
theorem v8 (i : Int) : (D.int i).toP = some (Em.int.f i) := by unfold D.toP; rfl
theorem Xh (s : Str) : (D.str s).toP = some (Em.str.f s) := by unfold D.toP; rfl
end
section
variable {h : Hh} {l m : List Int} {v : Int}
theorem Xi : fX h (.fl (l.map .int)) (.nl (m.map .int)) = some (decide (l = m)) := ZM Em.int.list (aeQ Em.int v8 l) (aeR Em.int v8 m) (fun _ _ => trivial) (fun _ _ => trivial) (by decide)
end
theorem KQ {l : List D} : (D.fl l).lst = some l := by unfold D.lst; rfl
theorem Xj {l : List D} : (D.tup l).lst = some l := by unfold D.lst; rfl
def psI (d : D) : Option Int := match d with
 | .int i => some i
 | _ => none
theorem ac8 {i : Int} : psI (.int i) = some i := by unfold psI; rfl
theorem aeT {m : M D} {I : Option Int → Fr → Hh → Prop} {E : aH → Fr → Hh → Prop} {fr : Fr} {h : Hh} : Wp (Pj m fr h) I E = Wp (m fr h) (fun d fr h => Op (psI d) fun i => I (some i) fr h) E := by
 rw [afM]
 congr 1
theorem aa8 {α : Type} {l : List α} {k : Nat} : l.take (min k l.length) = l.take k := by
 by_cases hk : k ≤ l.length
 · rw [Nat.min_eq_left hk]
 · rw [Nat.min_eq_right (by omega), List.take_length, List.take_of_length_le (by omega)]
theorem aeU {α : Type} {l : List α} {k : Int} (h0 : 0 ≤ k) : cutD l none (some k) = l.take k.toNat := by
 unfold cutD HT.sIx
 dsimp only
 rw [if_neg (by omega), List.drop_zero, Nat.sub_zero, aa8]
theorem aeV {α : Type} {l : List α} {k : Int} (h0 : 0 ≤ k) : cutD l (some k) none = l.drop k.toNat := by
 unfold cutD HT.sIx
 dsimp only
 rw [if_neg (by omega)]
 by_cases hk : k.toNat ≤ l.length
 · rw [Nat.min_eq_left hk, List.take_of_length_le (by rw [List.length_drop]; omega)]
 · rw [Nat.min_eq_right (by omega), List.drop_of_length_le (Nat.le_refl _), List.drop_of_length_le (by omega), List.take_nil]
theorem ac9 {h : Hh} {l : List D} {p : Option Int × Option Int} : wH h (.nl l) p = some (.nl (cutD l p.1 p.2)) := by unfold wH; rfl
theorem G3 {h : Hh} {a b : Str} (ha : Il a = true) (hb : Il b = true) : fX h (.str a) (.str b) = some (decide (a = b)) := ZM Em.str (Xh a) (Xh b) ha hb (by decide)
theorem aeW {i : Int} (h1 : -100000 ≤ i) (h2 : i ≤ 100000) : z7 i = true := by
 unfold z7
 rw [decide_eq_true (show -(2 ^ 62) ≤ i by omega), decide_eq_true (show i < 2 ^ 62 by omega)]
 rfl
theorem ada {n : Nat} {N : Int} {b : M Fl} {ns : List Int} (hn : 2 ≤ n) (h1 : 1 ≤ N) (hN : N ≤ 63)
 (hb : ∀ (k : Nat) (xs : Fr) (h : Hh), (k : Int) < N → xs.length = n - 2 → Wp (b (some (.kl (ns.map .int)) :: some (.int k) :: xs) h) (fun f fr _ => (f = .nx ∨ f = .ct) ∧ ∃ x1 ys, fr = some (.kl (ns.map .int)) :: x1 :: ys ∧ ys.length = n - 2) dD) :
 ∃ fr h, dY n (aD (gq (dO (aq CN (mC (.int 1)) (aq Pq (mC (.int N)) (aJ cI (aN 0))))) (aR 1) b) (cO (mC (.bl true)))) [.kl (ns.map .int)] [] = .ok (.bl true) fr h := by
 have w : Wp (dY n (aD (gq (dO (aq CN (mC (.int 1)) (aq Pq (mC (.int N)) (aJ cI (aN 0))))) (aR 1) b) (cO (mC (.bl true)))) [.kl (ns.map .int)] []) (fun d _ _ => d = .bl true) dD := by
  have es : startF n [.kl (ns.map .int)] = some (.kl (ns.map .int)) :: none :: List.replicate (n - 2) none := by
   unfold startF
   obtain ⟨m, rfl⟩ : ∃ m, n = m + 2 := ⟨n - 2, by omega⟩
   simp [ale]
  simp only [gH, es, aC, ↓cR, ↓rF, ↓oX, ↓bK, ↓cP, ↓cD, ↓cY, akR, aA, ac5, aK, mK, yS, true_and, Aa, akW]
  generalize hz : (if (if (ns.length : Int) < N then (ns.length : Int) else N) > 1 then (if (ns.length : Int) < N then (ns.length : Int) else N) else 1) = z
  have z1 : 1 ≤ z := by rw [← hz]; split <;> omega
  have z2 : z ≤ N := by rw [← hz]; split <;> split at * <;> omega
  rw [aeW (by omega) (by omega)]
  simp only [↓reduceIte, aK]
  refine ac6 (fun _ fr _ => ∃ x1 ys, fr = some (.kl (ns.map .int)) :: x1 :: ys ∧ ys.length = n - 2) ⟨none, _, rfl, by simp⟩ ?_ ?_
  · rintro j fr h j0 j1 ⟨x1, ys, rfl, hy⟩
    simp only [↓bf, akP, akQ, aC]
    have ej : ((j.toNat : Nat) : Int) = j := by omega
    have := hb j.toNat ys h (by omega) hy
    rw [ej] at this
    refine this.mono ?_
    rintro f fr h ⟨rfl | rfl, q⟩
    · rw [d9]; exact q
    · rw [wY]; exact q
  · rintro fr h ⟨x1, ys, rfl, hy⟩
    simp only [cA, ↓lD, ↓cP, lN]
 obtain ⟨d, fr, h, e, rfl⟩ := w.ex
 exact ⟨fr, h, e⟩
end Pk
namespace Pk
open PySem PySem.Spec L2
section
variable {Q : D → Fr → Hh → Prop} {E : aH → Fr → Hh → Prop} {fr : Fr} {h : Hh} {ma mb : M D} {mk : M (List D)} {F : Fn} {m : Nat} {mt : Nat → Option Fn}
end
section
variable {h : Hh} {l m : List Str} {w : Str}
end
section
variable {vs : List Nat} {g : D → M Unit} {t : M Bool} {e : M D}
theorem aa9 {α : Type} {F G : α → D} {fr fr' : Fr} {h : Hh} {xs : List α} (hx : xs ≠ []) (h1 : ∀ a ∈ xs, Wp (fL vs g t e (F a) fr h) (fun o fr1 h1 => o = some (G a) ∧ fr1 = fr' ∧ h1 = h) dD)
 (h2 : ∀ a ∈ xs, Wp (fL vs g t e (F a) fr' h) (fun o fr1 h1 => o = some (G a) ∧ fr1 = fr' ∧ h1 = h) dD) : iT vs g t e (xs.map F) fr h = .ok (xs.map G) fr' h := by
 cases xs with
 | nil => exact absurd rfl hx
 | cons a xs =>
   rw [akY]
   unfold iT
   rw [M.bind_ok ((h1 a ak4).eq), M.bind_ok (pK fun x hx => h2 x (alb _ hx))]
   rfl
end
end Pk
namespace Pk
open PySem PySem.Spec L2
def endF (i : Nat) (f : Fl) (fr : Fr) : Fr := match f with
 | .rt _ => fr
 | _ => fr.set i none
section
variable {Q : Fl → Fr → Hh → Prop} {S : D → Fr → Hh → Prop} {E : aH → Fr → Hh → Prop} {fr : Fr} {h : Hh} {i : Nat} {cond : Nat → Option Bool} {mb : M Fl} {ms : aH → M Fl} {ma mc : M D} {mt : Nat → Option Fn}
end
section
variable {h : Hh} {i : Int} {b : Bool} {z : Str} {l : List D}
end
end Pk
namespace Pk
open PySem PySem.Spec L2
def aj2 (d : D) (K : Int → Prop) : Prop := match d with
 | .int i => 0 ≤ i ∧ i < 2 ^ 60 ∧ K i
 | _ => False
section
variable {Q : Bool → Fr → Hh → Prop} {S : D → Fr → Hh → Prop} {E : aH → Fr → Hh → Prop} {fr : Fr} {h : Hh} {ma mb : M D} {mt : Nat → Option Fn}
end
end Pk
namespace Pk
open PySem PySem.Spec L2
section
variable {Q : Bool → Fr → Hh → Prop} {E : aH → Fr → Hh → Prop} {fr : Fr} {h : Hh} {mt : Nat → Option Fn} {n m : Nat} {fs gs : List D}
end
end Pk
namespace Pk
open PySem PySem.Spec L2
def agA (l : List D) (d : D) : Option (D × List D) := match d with
 | .int j => if -(2 ^ 63) ≤ j ∧ j < 2 ^ 63 then (match seqIndex? j l.length with
   | some q => (match l[q]? with
     | some y => some (y, l.eraseIdx q)
     | none => none)
   | none => none) else none
 | _ => none
def aj3 (x d : D) (K : D → List D → Prop) : Prop := match x with
 | .nl l => Oq (agA l d) fun p => K p.1 p.2
 | _ => False
section
variable {S : D → Fr → Hh → Prop} {E : aH → Fr → Hh → Prop} {fr : Fr} {h : Hh} {ma : M D} {mas : M (List D)} {mt : Nat → Option Fn} {i n c : Nat} {d : D} {l : List D}
end
end Pk
namespace Pk
open PySem PySem.Spec L2
section
variable {Q : Bool → Fr → Hh → Prop} {E : aH → Fr → Hh → Prop} {fr : Fr} {h : Hh} {mb : M D} {i : Nat}
end
end Pk
namespace Pk
open PySem PySem.Spec L2
def EqK {α : Type} (o : Option α) (A B : Prop) : Prop := match o with
 | some _ => A
 | none => B
section
variable {Q : Bool → Fr → Hh → Prop} {E : aH → Fr → Hh → Prop} {fr : Fr} {h : Hh} {mt : Nat → Option Fn} {i : Int} {b c : Bool} {z : Str} {l : List D}
end
end Pk
namespace Pk
open PySem PySem.Spec L2
section
variable {Q : Bool → Fr → Hh → Prop} {E : aH → Fr → Hh → Prop} {fr : Fr} {h : Hh} {mt : Nat → Option Fn} {nf : Nat → Nat}
end
end Pk
namespace Pk
open PySem PySem.Spec L2
section
variable {Q : Fl → Fr → Hh → Prop} {E : aH → Fr → Hh → Prop} {fr : Fr} {h : Hh} {i : Nat} {cond : Nat → Option Bool} {mb : M Fl} {ms : aH → M Fl} {x : aH} {cs : List Hd}
end
end Pk
namespace Pk
open PySem PySem.Spec L2
end Pk
namespace Pk
open PySem PySem.Spec L2
section
variable {Q : Fl → Fr → Hh → Prop} {E : aH → Fr → Hh → Prop} {fr : Fr} {h : Hh} {c : Nat} {ma : M D}
end
end Pk
namespace Pk
open PySem PySem.Spec L2
section
variable {G : List D → Fr → Hh → Prop} {E : aH → Fr → Hh → Prop} {fr : Fr} {h : Hh} {ma mb : M D} {a b : D} {l m : List D}
theorem aeX : Wp (Q6 ma mb fr h) G E = Wp (ma fr h) (fun x fr h => Wp (mb fr h) (fun y fr h => Op (Q5 x y) fun l => G l fr h) E) E := by
 show Wq (Q6 ma mb fr h) G E = Wq (ma fr h) (fun x fr h => Wq (mb fr h) (fun y fr h => Oq (Q5 x y) fun l => G l fr h) E) E
 unfold Q6
 simp only [aY, gA]
theorem Xk {k : Int} : yr h (.fl l) (.int k) = if 0 ≤ k ∧ k < 1000 ∧ l.length ≤ 100 then some (.nl (List.replicate k.toNat l).flatten) else none := rfl
theorem adb : Q5 (.fl l) (.fl m) = some (jD l m) := rfl
end
end Pk
namespace Pk
open PySem PySem.Spec L2
def aj4 : List Int → Int
 | a :: r => XH a r
 | [] => 0
theorem ints_of : ∀ l : List Int, D.ints (l.map D.int) = some l
 | [] => rfl
 | a :: l => by
   rw [akY, D.ints, ints_of l]
   rfl
end Pk
namespace Pk
open PySem PySem.Spec L2
section
variable {L : Fl → Fr → Hh → Prop} {E : aH → Fr → Hh → Prop} {g : D → M Unit} {b : M Fl} {n : Nat} {l : List D} {fr : Fr} {h : Hh} {G : Nat × List D × List D → Fr → Hh → Prop} {li : M (Nat × List D × List D)} {ma mb : M D}
theorem Oj : Wp (sY li g b fr h) L E = Wp (li fr h) (fun x fr h => Wp (oW x.1 x.2.1 g b x.2.2 fr h) L E) E := by
 show Wq (sY li g b fr h) L E = Wq (li fr h) (fun x fr h => Wq (oW x.1 x.2.1 g b x.2.2 fr h) L E) E
 unfold sY
 simp only [aY]
theorem R7 (e : h[n]? = some (.nl l)) : pJ h (.ref n) = some (n, l) := by
 unfold pJ
 dsimp only
 rw [e]
theorem aba (hc : h[n]? = some (.nl l)) : Wp (oW n l g b [] fr h) L E = L .nx fr h := by
 unfold oW
 rw [if_pos hc]
 exact cJ
theorem abb {d : D} {ds : List D} (hc : h[n]? = some (.nl l)) : Wp (oW n l g b (d :: ds) fr h) L E = Wp (g d fr h) (fun _ fr h => Wp (b fr h) (fun f fr h => Bw f (Wp (oW n l g b ds fr h) L E) fun f => L f fr h) E) dD := by
 rw [oW]
 dsimp only
 rw [if_pos hc]
 cases g d fr h with
 | ok u fr h =>
   rw [cJ]
   dsimp only
   cases b fr h with
   | ok f fr h =>
     rw [cJ]
     cases f with
     | nx => rw [d9]
     | ct => rw [wY]
     | brk => rw [Mz]; exact cJ
     | rt d => rw [Qo]; exact cJ
   | exc x fr h => unfold Wp; rfl
   | err => unfold Wp; rfl
 | exc x fr h => unfold Wp dD; rfl
 | err => unfold Wp; rfl
theorem adc {α : Type} {F : α → D} {xs : List α} (I : List α → Fr → Hh → Prop) (cell : ∀ pre fr h, I pre fr h → h[n]? = some (.nl l)) (i0 : I [] fr h)
 (st : ∀ pre a suf fr h, xs = pre ++ a :: suf → I pre fr h → Wp (g (F a) fr h) (fun _ fr h => Wp (b fr h) (fun f fr h => Bw f (I (pre ++ [a]) fr h) fun f => L f fr h) E) dD)
 (en : ∀ fr h, I xs fr h → L .nx fr h) : Wp (oW n l g b (xs.map F) fr h) L E := by
 have main : ∀ (suf pre : List α) (fr : Fr) (h : Hh), xs = pre ++ suf → I pre fr h → Wp (oW n l g b (suf.map F) fr h) L E := by
  intro suf
  induction suf with
  | nil =>
    intro pre fr h e i
    rw [ak2, aba (cell pre fr h i)]
    rw [akZ] at e
    subst e
    exact en fr h i
  | cons a suf ih =>
    intro pre fr h e i
    rw [akY, abb (cell pre fr h i)]
    refine (st pre a suf fr h e i).mono fun _ fr1 h1 w => w.mono fun f fr2 h2 z => ?_
    have e' : xs = (pre ++ [a]) ++ suf := by rw [e, aln]; rfl
    cases f with
    | nx => rw [d9] at z ⊢; exact ih _ _ _ e' z
    | ct => rw [wY] at z ⊢; exact ih _ _ _ e' z
    | brk => rw [Mz] at z ⊢; exact z
    | rt d => rw [Qo] at z ⊢; exact z
 exact main xs [] fr h rfl i0
end
end Pk
namespace Pk
open PySem PySem.Spec L2
def JnK (d : D) (K : Str → Prop) : Prop := match d with
 | .str y => K y
 | _ => False
def AgK (d : D) (K : Int → Prop) : Prop := match d with
 | .int y => K y
 | _ => False
section
variable {α : Type} {Q : α → Fr → Hh → Prop} {S : D → Fr → Hh → Prop} {L : Fl → Fr → Hh → Prop} {G : Str → Fr → Hh → Prop} {E : aH → Fr → Hh → Prop} {fr : Fr} {h : Hh} {m ma mb : M D} {ml mh : M (Option Int)} {mt : Nat → Option Fn} {i : Nat} {ms : List (M D)} {acc : Str}
theorem abd : Wp (Gx ma fr h) S E = Wp (ma fr h) (fun d fr h => Op (Qa (.int 0) d) fun z => S z fr h) E := by
 show Wq (Gx ma fr h) S E = Wq (ma fr h) (fun d fr h => Oq (Qa (.int 0) d) fun z => S z fr h) E
 unfold Gx
 simp only [aY, gA]
end
end Pk
namespace Pk
open PySem PySem.Spec L2
end Pk
namespace Pk
open PySem PySem.Spec L2
section
variable {h : Hh}
theorem aeY {xs : List Int} : vD h (.nl (xs.map .int)) = some (.int xs.sum) := afO
theorem Wp.out {α : Type} {r : R α} {Q : α → Fr → Hh → Prop} (w : Wp r Q dD) : ∃ a fr h, r = .ok a fr h ∧ Q a fr h := by
 cases r with
 | ok a fr h => exact ⟨a, fr, h, rfl, w⟩
 | exc y fr1 h1 => exact (show False from w).elim
 | err => exact (show False from w).elim
end
end Pk
namespace Pk
open PySem PySem.Spec L2
section
variable {S : D → Fr → Hh → Prop} {E : aH → Fr → Hh → Prop} {fr : Fr} {h : Hh} {ma : M D} {mt : Nat → Option Fn}
end
end Pk
namespace Pk
open PySem PySem.Spec L2
def Oxq (o : Option (Fn × Bool)) (A B : Fn → Prop) : Prop := match o with
 | some (F, false) => A F
 | some (F, true) => B F
 | none => False
def OxK (o : Option (Fn × Bool)) (A B : Fn → Prop) (_ : Jt A B := ⟨⟩) : Prop := Oxq o A B
section
variable {S : D → Fr → Hh → Prop} {E : aH → Fr → Hh → Prop} {fr : Fr} {h : Hh} {ma mb : M D} {mtl mtr : Nat → Option Fn}
end
end Pk
namespace Pk
open PySem PySem.Spec L2
section
variable {S : D → Fr → Hh → Prop} {E : aH → Fr → Hh → Prop} {fr : Fr} {h : Hh} {mo ma : M D}
theorem Vk : Wp (zB mo ma fr h) S E = Wp (mo fr h) (fun o fr h => (o.lstP h).isSome = true ∧ Wp (ma fr h) (fun x fr h => Op (rC h o x) fun z => S z fr h) E) E := by
 show Wq (zB mo ma fr h) S E = Wq (mo fr h) (fun o fr h => (o.lstP h).isSome = true ∧ Wq (ma fr h) (fun x fr h => Oq (rC h o x) fun z => S z fr h) E) E
 unfold zB
 rw [aY]
 congr 1
 funext o fr h
 cases e : (o.lstP h).isSome with
 | true =>
   rw [if_pos rfl, aY]
   simp only [true_and]
   congr 1
   funext x fr h
   exact gA
 | false =>
   rw [if_neg Bool.false_ne_true]
   simp only [Bool.false_eq_true, false_and]
   exact uL
end
section
variable {α : Type} [DecidableEq α] {h : Hh} {x y : D} {a : α} {l : List α}
theorem aeZ (A : Em α) : ((l.map A.f).any fun z => PyData.eqv z (A.f a)) = decide (a ∈ l) := by
 induction l with
 | nil => rfl
 | cons b l ih =>
   rw [akY, List.any_cons, ih, A.eq]
   by_cases e : b = a
   · subst e; simp
   · have e' : ¬ a = b := fun z => e z.symm
     simp [e, e']
theorem Xl (A : Em α) (hx : x.toP = some (A.f a)) (hl : y.lstP h = some (l.map A.f)) (oa : A.ok a) (ol : ∀ b ∈ l, A.ok b) (hn : A.n + 1 ≤ 64) : Dt h x y = some (decide (a ∈ l)) := by
 unfold Dt
 rw [hx, hl]
 dsimp only
 rw [A.shaped oa (by omega), show SeqAt.shaped (.list (l.map A.f)) = true from A.list.shaped (a := l) ol hn, aeZ A]
 rfl
theorem ade (A : Em α) (hm : a ∈ l) : ((l.map A.f).findIdx? fun z => PyData.eqv z (A.f a)) = some (l.idxOf a) := by
 induction l with
 | nil => cases hm
 | cons b l ih =>
   rw [akY, List.findIdx?_cons, A.eq, List.idxOf_cons]
   by_cases e : b = a
   · subst e; simp
   · have hm' : a ∈ l := by
      rcases List.mem_cons.mp hm with q | q
      · exact absurd q.symm e
      · exact q
     rw [ih hm', show (b == a) = false from beq_eq_false_iff_ne.mpr e]
     simp [e]
theorem Vl (A : Em α) (hx : x.toP = some (A.f a)) (hl : y.lstP h = some (l.map A.f)) (oa : A.ok a) (ol : ∀ b ∈ l, A.ok b) (hn : A.n + 1 ≤ 64) (hm : a ∈ l) : rC h y x = some (.int (l.idxOf a : Nat)) := by
 unfold rC
 rw [hx, hl]
 dsimp only
 rw [A.shaped oa (by omega), show SeqAt.shaped (.list (l.map A.f)) = true from A.list.shaped (a := l) ol hn, ade A hm]
 rfl
theorem Vm {p : Nat} {g : α → D} (A : Em α) (e : h[p]? = some (.nl (l.map g))) (hg : ∀ a, (g a).toP = some (A.f a)) : (D.ref p).lstP h = some (l.map A.f) := by
 unfold D.lstP D.der
 dsimp only
 rw [e]
 exact MJ A hg l
end
end Pk
namespace Pk
open PySem PySem.Spec L2
section
variable {Q : D → Fr → Hh → Prop} {S : List D → Fr → Hh → Prop} {E : aH → Fr → Hh → Prop} {fr : Fr} {h : Hh} {n : Nat} {l : List D} {vs : List Nat} {g : D → M Unit} {t : M Bool} {e : M D}
end
end Pk
namespace Pk
open PySem PySem.Spec L2
def aj5 (h : Hh) (ix : Nat → Option Nat) (o d : D) : Option Hh := match o with
 | .ref n => match h[n]? with
   | some (.no c fs) => match ix c with
     | some i => match pH i d fs with
       | some fs' => some (h.set n (.no c fs'))
       | none => none
     | none => none
   | _ => none
 | _ => none
section
variable {Q : D → Fr → Hh → Prop} {L : Fl → Fr → Hh → Prop} {U : Unit → Fr → Hh → Prop} {E : aH → Fr → Hh → Prop} {fr : Fr} {h : Hh} {mo mv : M D} {ms : List (M D)}
theorem adf : Wp (Qe fr h) Q E = Q (.ref h.length) fr (h ++ [.dc [] []]) := by
 unfold Qe
 exact cJ
theorem abe {c n m : Nat} {F : Fn} {gD : List D → List D → List D} {ma mk : M (List D)} : Wp (Gy c n m F gD ma mk fr h) Q E = Wp (ma fr h) (fun ds fr h => Wp (mk fr h) (fun es fr h => ds.length = n ∧ es.length = m ∧ Wp (F (.ref h.length :: gD ds es) (h ++ [.no c []])) (fun d _ h' => d = .non ∧ Q (.ref h.length) fr h') (fun x _ h' => E x fr h')) E) E := by
 show Wq (Gy c n m F gD ma mk fr h) Q E = Wq (ma fr h) (fun ds fr h => Wq (mk fr h) (fun es fr h => ds.length = n ∧ es.length = m ∧ Wq (F (.ref h.length :: gD ds es) (h ++ [.no c []])) (fun d _ h' => d = .non ∧ Q (.ref h.length) fr h') (fun x _ h' => E x fr h')) E) E
 unfold Gy
 rw [aY]
 congr 1
 funext ds fr h
 rw [aY]
 congr 1
 funext es fr h
 split
 · rename_i hb
   simp only [hb.1, hb.2, true_and]
   cases F (.ref h.length :: gD ds es) (h ++ [.no c []]) with
   | ok d fr' h' => cases d <;> simp [Tw, Wq]
   | exc x fr' h' => rfl
   | err => rfl
 · rename_i hb
   rw [uL, eq_iff_iff]
   exact ⟨False.elim, fun z => hb ⟨z.1, z.2.1⟩⟩
end
end Pk
namespace Pk
open PySem PySem.Spec L2
section
variable {E : aH → Fr → Hh → Prop} {fr : Fr} {h : Hh} {G : Nat × List D × List D → Fr → Hh → Prop} {ma : M D}
theorem Ol : Wp (uG ma fr h) G E = Wp (ma fr h) (fun d fr h => Op ((pJ h d).map fun x => (x.1, x.2, eG 0 x.2)) fun x => G x fr h) E := by
 show Wq (uG ma fr h) G E = Wq (ma fr h) (fun d fr h => Oq ((pJ h d).map fun x => (x.1, x.2, eG 0 x.2)) fun x => G x fr h) E
 unfold uG
 simp only [aY, gA]
end
end Pk
namespace Pk
open PySem PySem.Spec L2
def aj6 (d : D) (K : Nat → Prop) : Prop := match d with
 | .ref n => K n
 | _ => False
def aj7 (d : D) (K : Nat → List D → Prop) : Prop := match d with
 | .no c fs => K c fs
 | _ => False
section
variable {S : D → Fr → Hh → Prop} {L : Fl → Fr → Hh → Prop} {A : List D → Fr → Hh → Prop} {E : aH → Fr → Hh → Prop} {fr : Fr} {h : Hh} {m mo mt : M D} {ma : M (List D)} {t : M Bool} {b : M Fl} {i j n : Nat}
def WhK (f : Fl) (again : Prop) (out : Fl → Prop) : Prop := match f with
 | .nx => again
 | .ct => again
 | .brk => out .nx
 | .rt d => out (.rt d)
theorem Vn {p : Prop} {o : Fl → Prop} : WhK .nx p o = p := rfl
theorem KR : Wp (jr t b (n + 1) fr h) L E = Wp (t fr h) (fun c fr h => if c then Wp (b fr h) (fun f fr h => WhK f (Wp (jr t b n fr h) L E) fun f => L f fr h) E else L .nx fr h) E := by
 show Wq (jr t b (n + 1) fr h) L E = Wq (t fr h) (fun c fr h => if c then Wq (b fr h) (fun f fr h => WhK f (Wq (jr t b n fr h) L E) fun f => L f fr h) E else L .nx fr h) E
 rw [jr]
 dsimp only
 cases t fr h with
 | ok c fr h =>
   cases c with
   | true =>
     rw [wX]
     dsimp only
     rw [if_pos rfl]
     cases b fr h with
     | ok f fr h => cases f <;> rfl
     | exc x fr h => rfl
     | err => rfl
   | false => rfl
 | exc x fr h => rfl
 | err => rfl
end
end Pk
namespace Pk
open PySem PySem.Spec L2
section
variable {S : D → Fr → Hh → Prop} {A : List D → Fr → Hh → Prop} {E : aH → Fr → Hh → Prop} {fr : Fr} {h : Hh} {m mo : M D} {ma li : M (List D)} {ms : M Fl} {ds out : List D} {g : D → M Unit} {b c : List D → M (List D)}
end
end Pk
namespace Pk
open PySem PySem.Spec L2
section
variable {G : Nat × List D × List D → Fr → Hh → Prop} {E : aH → Fr → Hh → Prop} {fr : Fr} {h : Hh} {ma mb : M D} {n : Nat} {l : List D}
end
end Pk
namespace Pk
open PySem PySem.Spec L2 GenP
section
variable {A : List D → Fr → Hh → Prop} {L : Fl → Fr → Hh → Prop} {E : aH → Fr → Hh → Prop} {fr : Fr} {h : Hh} {mo : M D} {mc : M (List D)} {c nN : Nat} {b : xY} {g : D → M Unit} {bm : M Fl}
end
end Pk
namespace Pk
open PySem PySem.Spec L2
section
variable {Q : D → Fr → Hh → Prop} {L : Fl → Fr → Hh → Prop} {E : aH → Fr → Hh → Prop} {fr : Fr} {h : Hh} {mo mk mv mz m : M D}
end
end Pk
namespace Pk
open PySem PySem.Spec L2
section
variable {α : Type} {Q : α → Fr → Hh → Prop} {E : aH → Fr → Hh → Prop} {fr : Fr} {h : Hh} {t : Fr → Hh → Bool} {a b : M α}
end
end Pk
namespace Pk
open PySem PySem.Spec L2
section
variable {α : Type} {Q : D → Fr → Hh → Prop} {L : Fl → Fr → Hh → Prop} {E : aH → Fr → Hh → Prop} {fr : Fr} {h : Hh} {m mo me : M D} {g : D → M Unit} {b : M Fl} {t : M Bool} {e : M D} {vs : List Nat}
end
end Pk
namespace Pk
open PySem PySem.Spec L2
section
variable {Q : Bool → Fr → Hh → Prop} {E : aH → Fr → Hh → Prop} {fr : Fr} {h : Hh} {mt : Nat → Option Fn} {oth : Nat → Bool}
end
end Pk
namespace Pk
open PySem PySem.Spec L2
def afP (l : List D) : Option (D × List D) := match l[l.length - 1]? with
 | some y => some (y, l.dropLast)
 | none => none
def aj8 (x : D) (K : D → List D → Prop) : Prop := match x with
 | .nl l => Oq (afP l) fun p => K p.1 p.2
 | _ => False
section
variable {S : D → Fr → Hh → Prop} {G : List D → Fr → Hh → Prop} {E : aH → Fr → Hh → Prop} {fr : Fr} {h : Hh} {ma : M D} {i : Nat} {l : List D} {y : D}
end
end Pk
namespace Pk
open PySem PySem.Spec L2
section
variable {Q : D → Fr → Hh → Prop} {L : Fl → Fr → Hh → Prop} {E : aH → Fr → Hh → Prop} {fr : Fr} {h : Hh} {mo m : M D} {ma mk : M (List D)} {ms : List (M D)} {ks : List Str} {i j n c k : Nat} {ix : Nat → Option Nat} {d f : D} {fs fs' : List D}
theorem set_same {l : List D} {i : Nat} {x : D} (e : l[i]? = some x) : l.set i x = l := by
 obtain ⟨hi, rfl⟩ := List.getElem?_eq_some_iff.mp e
 exact List.set_getElem_self hi
end
end Pk
namespace Pk
open PySem PySem.Spec L2
def Fal {α : Type} (_ : α) (_ : Fr) (_ : Hh) : Prop := False
def ai4 (d : D) (K : D → List D → Prop) (_ : Jt K K := ⟨⟩) : Prop := match d with
 | .tup (x :: xs) => K x xs
 | _ => False
section
variable {Q : D → Fr → Hh → Prop} {L : Fl → Fr → Hh → Prop} {U : Unit → Fr → Hh → Prop} {E : aH → Fr → Hh → Prop} {fr : Fr} {h : Hh} {mo me : M D} {mb mf : M Fl} {i j n c : Nat} {ix : Nat → Option Nat} {mt : Nat → Option Fn} {d : D} {z : Str} {ss : List Str} {f : Str → M Fl} {cond : Nat → Option Bool} {chk : List D → Bool} {ma : aH → M (List D)}
end
end Pk
namespace Pk
open PySem PySem.Spec L2
def agB (l : List D) (j d : D) : Option (List D) := match j with
 | .int k => if 0 ≤ k ∧ k < 2 ^ 62 ∧ l.length < big then some (l.take k.toNat ++ [d] ++ l.drop k.toNat) else none
 | _ => none
def aj9 (x j d : D) (K : List D → Prop) : Prop := match x with
 | .nl l => Oq (agB l j d) K
 | _ => False
section
variable {S : D → Fr → Hh → Prop} {E : aH → Fr → Hh → Prop} {fr : Fr} {h : Hh} {mj m : M D} {i : Nat} {j d : D} {l : List D}
end
end Pk
namespace Pk
open PySem PySem.Spec L2
theorem KY {l : List D} : (D.tp l).own = false := by unfold D.own; rfl
theorem ae1 {h : Hh} {l : List D} : (D.tp l).its h = some l := by unfold D.its D.der; rfl
theorem Xm {h : Hh} {l : List D} {i : Int} : aP h (.tp l) (.int i) = atI l i := by unfold aP; dsimp only; rw [ae1]
theorem abf {h : Hh} {l : List D} : Ag h (.fl l) = some (.tp l) := rfl
section
variable {Q : D → Fr → Hh → Prop} {L : Fl → Fr → Hh → Prop} {U : Unit → Fr → Hh → Prop} {E : aH → Fr → Hh → Prop} {fr : Fr} {h : Hh} {mo mk mv m mj : M D} {d : D}
def Op2 (o : Option (D × Hh)) (K : D → Hh → Prop) (_ : Jt K K := ⟨⟩) : Prop := match o with
 | some (z, h) => K z h
 | none => False
theorem Vo {z : D} {h' : Hh} {K : D → Hh → Prop} : Op2 (some (z, h')) K = K z h' := rfl
theorem Vp : Wp (GF mo mk mv fr h) Q E = Wp (mo fr h) (fun o fr h => (lC h o).isSome = true ∧ Wp (mk fr h) (fun k fr h => Wp (mv fr h) (fun d fr h => Op2 (wW h o k d) fun z h' => Q z fr h') E) E) E := by
 show Wq (GF mo mk mv fr h) Q E = Wq (mo fr h) (fun o fr h => (lC h o).isSome = true ∧ Wq (mk fr h) (fun k fr h => Wq (mv fr h) (fun d fr h => Op2 (wW h o k d) fun z h' => Q z fr h') E) E) E
 unfold GF
 rw [aY]
 congr 1
 funext o fr h
 by_cases c : (lC h o).isSome = true
 · rw [if_pos c]
   simp only [aY, c, true_and]
   congr 1
   funext k fr h
   congr 1
   funext d fr h
   cases wW h o k d with
   | none => exact uL
   | some zz => exact wX
 · rw [if_neg c, uL, eq_iff_iff]
   exact ⟨False.elim, fun z => c z.1⟩
theorem abg : Wp (GJ mo mk fr h) Q E = Wp (mo fr h) (fun o fr h => Wp (mk fr h) (fun k fr h => Op (zE h o k) fun z => Q z fr h) E) E := by
 show Wq (GJ mo mk fr h) Q E = Wq (mo fr h) (fun o fr h => Wq (mk fr h) (fun k fr h => Oq (zE h o k) fun z => Q z fr h) E) E
 unfold GJ
 simp only [aY, gA]
theorem abh : Wp (GP mo fr h) Q E = Wp (mo fr h) (fun o fr h => Op (Bu h o) fun z => Q z fr h) E := by
 show Wq (GP mo fr h) Q E = Wq (mo fr h) (fun o fr h => Oq (Bu h o) fun z => Q z fr h) E
 unfold GP
 simp only [aY, gA]
theorem abi : Wp (Ah mo mj d fr h) U E = Wp (mo fr h) (fun o fr h => Wp (mj fr h) (fun j fr h => Wp (eZ o (pG j d) fr h) U E) E) E := by
 show Wq (Ah mo mj d fr h) U E = Wq (mo fr h) (fun o fr h => Wq (mj fr h) (fun j fr h => Wq (eZ o (pG j d) fr h) U E) E) E
 unfold Ah
 simp only [aY]
theorem R8 : Wp (Bb mo m fr h) L E = Wp (m fr h) (fun d fr h => Wp (mo fr h) (fun o fr h => Wp (eZ o (KC d) fr h) (fun _ fr h => L .nx fr h) E) E) E := by
 show Wq (Bb mo m fr h) L E = Wq (m fr h) (fun d fr h => Wq (mo fr h) (fun o fr h => Wq (eZ o (KC d) fr h) (fun _ fr h => L .nx fr h) E) E) E
 unfold Bb
 simp only [aY, eX]
theorem Vq {G : (Hh → Prop) × List D → Fr → Hh → Prop} : Wp (GZ mo m fr h) G E = Wp (mo fr h) (fun d fr h => Wp (m fr h) (fun e fr h => Op (Ih h d e) fun x => G x fr h) E) E := by
 show Wq (GZ mo m fr h) G E = Wq (mo fr h) (fun d fr h => Wq (m fr h) (fun e fr h => Oq (Ih h d e) fun x => G x fr h) E) E
 unfold GZ
 rw [aY]
 congr 1
 funext d fr h
 rw [aY]
 congr 1
 funext e fr h
 rw [gA]
theorem abj {n n2 : Nat} {l m : List D} (e : h[n]? = some (.nl l)) (e2 : h[n2]? = some (.nl m)) : Ih h (.ref n) (.ref n2) = some (fun h' => h'[n]? = some (.nl l) ∧ h'[n2]? = some (.nl m), jD l m) := by
 unfold Ih
 rw [R7 e, R7 e2]
end
section
variable {Q : D → Fr → Hh → Prop} {E : aH → Fr → Hh → Prop} {fr : Fr} {h : Hh} {c : Hh → Prop} {vs : List Nat} {g : D → M Unit} {t : M Bool} {e : M D}
theorem ZP {li : M ((Hh → Prop) × List D)} : Wp (Oe vs li g t e fr h) Q E = Wp (li fr h) (fun x fr h => x.2.length ≤ big ∧ Bx (fQ fr vs) fun fr => Wp (jE x.1 vs g t e x.2 fr h) (fun r fr h => Q (.nl r) fr h) E) E := by
 show Wq (Oe vs li g t e fr h) Q E = Wq (li fr h) (fun x fr h => x.2.length ≤ big ∧ Bq (fQ fr vs) fun fr => Wq (jE x.1 vs g t e x.2 fr h) (fun r fr h => Q (.nl r) fr h) E) E
 unfold Oe Ma Bq; rw [aY]
 congr 1
 funext ds fr h
 rw [aY, wX]
 split
 · rename_i hb; rw [aY]; simp only [eX, hb, true_and]
 · rename_i hb; rw [gA, qQ]; simp only [hb, false_and]
theorem abk (hc : c h) : jE c vs g t e [] fr h = .ok [] fr h := by unfold jE; rw [if_pos hc]
theorem ZQ {d : D} {ds : List D} {o : Option D} {r : List D} {fr1 fr2 : Fr} {h1 h2 : Hh} (hc : c h) (e1 : fL vs g t e d fr h = .ok o fr1 h1) (e2 : jE c vs g t e ds fr1 h1 = .ok r fr2 h2) : jE c vs g t e (d :: ds) fr h = .ok (yq o r) fr2 h2 := by
 rw [jE]
 dsimp only
 rw [if_pos hc, M.bind_ok e1, M.bind_ok e2]
 rfl
theorem Vr {α : Type} {F G : α → D} (hc : c h) : ∀ {xs : List α}, (∀ a ∈ xs, fL vs g t e (F a) fr h = .ok (some (G a)) fr h) → jE c vs g t e (xs.map F) fr h = .ok (xs.map G) fr h
 | [], _ => abk hc
 | a :: xs, hh => by
   rw [akY, akY]
   exact ZQ hc (hh a ak4) (Vr hc fun b hb => hh b (alb _ hb))
end
end Pk
namespace L
open PySem PySem.Spec L2 Pk GenP
noncomputable section
def fld : Nat → List Str
 | 0 => ["grid", "outside", "basis", "scale"]
 | _ => []
abbrev T (K : PySem.W.Frag) : Tb := Tbo cn fld K
def di : Nat → Option Nat := fun c => ak6 c [(0, 0)]
def d7 : Nat → Option Nat := fun c => ak6 c [(0, 1)]
def ir : Nat → Option Nat := fun c => ak6 c [(0, 2)]
def kJ : Nat → Option Nat := fun c => ak6 c [(0, 3)]
def qH : Tg → Tg → Option Bool := adZ []
def ahP : Tg → Tg → Option Bool := agf []
def sS : M Fl :=
    (aD (bu 3 (Gq (aq cGe (aJ NQ (aa 2)) (aq Dm (mC (.int 10)) (mC (.int 18)))) (aJ NQ (aa 2)) (mC (.int 0))))
    (cO (eU [(aa 3), (bG (aq du (bG (aq du (aq JX (aJ pY (aa 2)) (mC (.int 2147483629))) (aq mF (mC (.int 15485863)) (aa 1)))) (mC (.int 7919)))), (mC (.int 0))])))
def tD : M Fl :=
    (aD (bu 2 (Gq (aq CG (aa 1) (aJ cI (aN 0))) (bU 0 (aa 1) aP) (mC (.int 0))))
    sS)
def lZ : Fn := dY 4 tD
def yD : M Fl :=
    (aD (bu 3 (aq JX (aJ pY (aq Dm (bG (aq du (aa 3) (aq mF (mC (.int 49979687)) (bU 0 (mC (.int 2)) aP)))) (mC (.int 2)))) (mC (.int 2305843009213693951))))
    (cO (aq JX (aJ pY (aq NP (aa 3) (mC (.int 4096)))) (aa 1))))
def yE : M Fl :=
    (aD (bu 3 (aq JX (aJ pY (aq Dm (bG (aq du (bU 0 (mC (.int 1)) aP) (aq mF (mC (.int 32452843)) (bU 0 (mC (.int 2)) aP)))) (mC (.int 3)))) (mC (.int 2305843009213693921))))
    yD)
def yF : M Fl :=
    (aD (oN 0 (bG (aq du (bU 0 (mC (.int 2)) aP) (mC (.int 1)))) (mC (.int 2)))
    yE)
def yU : M Fl :=
    (aD (fu (aq zf (bU 0 (mC (.int 0)) aP) (mC (.int 0)))
    (aD (bu 2 (aq JX (aJ pY (bU 0 (mC (.int 0)) aP)) (aa 1)))
    (aD (oN 0 (aq NP (bU 0 (mC (.int 0)) aP) (aa 1)) (mC (.int 0)))
    (cO (uh 2))))
    (M.ret .nx))
    yF)
def bR : Fn := dY 4 yU
def KZ : M Fl :=
    (cO (bU 1 (bG (bW 2 0 bR (bh []) (ak [(aa 0), (aJ cI (aN 1))]) (ak []))) aP))
def v9 : Fn := dY 2 KZ
def pP : D → M Unit :=
    (aR 3)
def pQ : M Bool :=
    (M.ret true)
def pU : M D :=
    (aq (fun h x y => (fX h x y).map .bl) (bG (bW 2 0 bR (bh []) (ak [(aa 0), (mC (.int 2))]) (ak []))) (mC (.int 1)))
def sU : M Fl :=
    (aD (oN 2 (mC (.bl true)) (bG (bW 2 0 bR (bh []) (ak [(aa 0), (aa 1)]) (ak []))))
    (cO (aJ Bm (aN 2))))
def tE : M Fl :=
    (aD (bu 2 (fM [3] (dO (aa 1)) pP pQ pU))
    sU)
def qm : Fn := dY 4 tE
def qI : M Fl :=
    (cO (aq yj (bG (bW 2 0 bR (bh []) (ak [(aa 0), (bG (aq du (aq mF (mC (.int 2)) (aa 1)) (mC (.int 1))))]) (ak []))) (aa 1)))
def iK : Fn := dY 2 qI
def jM : D → M Unit :=
    (aR 7)
def jN : M Bool :=
    (M.ret true)
def jO : M D :=
    (bG (bW 2 0 iK (bh []) (ak [(aa 0), (aa 2)]) (ak [])))
def jP : M Fl :=
    (oJ (uw 4 (bG (fM [7] (dO (aa 1)) jM jN jO))))
def fB : D → M Unit :=
    (dH 2 (aU (aR 9) (aU (aR 10) dJ)))
def fD : M Bool :=
    (M.ret true)
def fG : M D :=
    (aq mF (bU 10 (aa 7) aP) (bG (aq du (mC (.int 1)) (aa 9))))
def jQ : M Fl :=
    (aD (bu 8 (aq du (aJ pY (bU 3 (aa 7) aP)) (aq mF (bG (bW 2 0 bR (bh []) (ak [(aa 0), (mC (.int 3))]) (ak []))) (bG (bW 2 0 bR (bh []) (ak [(aa 0), (mC (.int 2))]) (ak []))))))
    (oJ (uw 6 (aq yj (aa 8) (aJ vD (fM [9, 10] (qb (aa 4)) fB fD fG))))))
def qR : M Fl :=
    (aD (gq (dO (aa 1)) (aR 7) jQ)
    (cO (aq du (aa 4) (bG (eU [(aa 6)])))))
def m9 : M Fl :=
    (aD (bu 6 (eU []))
    qR)
def qT : M Fl :=
    (aD (gq (dO (bG (bW 2 0 bR (bh []) (ak [(aa 0), (mC (.int 7))]) (ak [])))) (aR 5) jP)
    m9)
def mO : M Fl :=
    (aD (bu 4 (eU []))
    qT)
def iw : Fn := dY 11 mO
def jR : D → M Unit :=
    (aR 10)
def jT : M Bool :=
    (M.ret true)
def jU : M D :=
    (bG (bW 2 0 bR (bh []) (ak [(aa 0), (mC (.int 4))]) (ak [])))
def jV : D → M Unit :=
    (aR 10)
def jW : M Bool :=
    (aJ D.tru (bU 3 (aa 10) aP))
def jX : M D :=
    (aa 10)
def jY : D → M Unit :=
    (aR 10)
def jZ : M Bool :=
    (M.ret true)
def j5 : M D :=
    (bG (bW 2 0 iK (bh []) (ak [(aa 0), (aa 2)]) (ak [])))
def gJ : D → M Unit :=
    (aR 10)
def gK : M Bool :=
    (M.ret true)
def gM : M D :=
    (aq mF (bU 4 (aa 10) aP) (bU 8 (aa 10) aP))
def jC : M Fl :=
    (aD (bu 8 (fM [10] (dO (aa 1)) jY jZ j5))
    (aD (bu 9 (aJ vD (fM [10] (dO (aa 1)) gJ gK gM)))
    (aD (oN 8 (aq yj (aq yj (bU 8 (aa 5) aP) (aa 9)) (aq mF (bG (bW 2 0 bR (bh []) (ak [(aa 0), (mC (.int 3))]) (ak []))) (bG (bW 2 0 bR (bh []) (ak [(aa 0), (mC (.int 2))]) (ak []))))) (aa 5))
    (oJ (uw 6 (aa 8))))))
def qU : M Fl :=
    (aD (gq (dO (bG (bW 2 0 bR (bh []) (ak [(aa 0), (mC (.int 12))]) (ak [])))) (aR 7) jC)
    (cO (uh 6)))
def ni : M Fl :=
    (aD (bu 6 (eU []))
    qU)
def nj : M Fl :=
    (aD (oN 4 (mC (.int 1)) (aa 5))
    ni)
def nu : M Fl :=
    (aD (bu 5 (aq aP (bG (fM [10] (dO (aa 1)) jV jW jX)) (mC (.int 0))))
    nj)
def mQ : M Fl :=
    (aD (bu 4 (fM [10] (dO (aa 1)) jR jT jU))
    nu)
def iy : Fn := dY 11 mQ
def j6 : D → M Unit :=
    (dH 2 (aU (aR 4) (aU (aR 5) dJ)))
def j7 : M Bool :=
    (M.ret true)
def j8 : M D :=
    (qY (aq du (aa 4) (bG (eU [(aa 5)]))))
def gQ : D → M Unit :=
    (aR 6)
def gR : M Bool :=
    (M.ret true)
def gU : M D :=
    (aJ (fun _ => fj) (aa 6))
def gY : D → M Unit :=
    (aR 7)
def g8 : M Bool :=
    (M.ret true)
def ie : M D :=
    (bG (aq du (aJ cI (aN 3)) (aa 7)))
def nA : M Fl :=
    (aD (oO 0 ir (qY (fM [7] (dO (aJ cI (aN 1))) gY g8 ie)))
    (oO 0 kJ (mC (.int 1))))
def nH : M Fl :=
    (aD (oO 0 d7 (qY (Gx (aJ cI (aN 3)))))
    nA)
def nJ : M Fl :=
    (aD (oJ (Mg (aJ (cC di) (aN 0)) (qY (aq du (bG (fM [6] (rB (aa 3)) gQ gR gU)) (bG (eU [(mC (.int 0))]))))))
    nH)
def mU : M Fl :=
    (aD (oO 0 di (qY (fM [4, 5] (Q6 (aa 1) (aa 2)) j6 j7 j8)))
    nJ)
def iz : Fn := dY 8 mU
def eO : M Fl :=
    (CP [1, 2] (ak [(aa 2), (aq JX (aa 1) (aa 2))]))
def ue : M Fl :=
    (jr (aq zf (aa 2) (mC (.int 0))) eO 100000)
def uf : M Fl :=
    (aD (gq (rB (aa 0)) (aR 2) ue)
    (cO (aq CN (aa 1) (mC (.int 1)))))
def pW : M Fl :=
    (aD (bu 1 (mC (.int 0)))
    uf)
def kW : Fn := dY 3 pW
def rJ : D → M Unit :=
    (aR 2)
def rK : M Bool :=
    (M.ret true)
def rO : M D :=
    (aq NP (aa 2) (aa 1))
def u5 : M Fl :=
    (aD (bu 1 (bW 1 0 kW (bh []) (ak [(aa 0)]) (ak [])))
    (cO (aJ Bm (fM [2] (rB (aa 0)) rJ rK rO))))
def nM : Fn := dY 3 u5
def nO : M Fl :=
    (fu (qZ (aq CG (aq aP (aq aP (aJ (cC di) (aN 0)) (aJ (fun _ => fj) (mC (.int 1)))) (aa 2)) (mC (.int 0))) (uA (aq CJ (aa 1) (mC .non)) (aq CG (aa 3) (aq aP (aJ (cC d7) (aN 0)) (aa 1)))))
    (bu 1 (aa 2))
    (M.ret .nx))
def qW : M Fl :=
    (aD (sY (uG (aJ (cC d7) (aN 0))) (dH 2 (aU (aR 2) (aU (aR 3) dJ))) nO)
    (cO (uh 1)))
def mV : M Fl :=
    (aD (bu 1 (mC .non))
    qW)
def iD : Fn := dY 4 mV
def fH : D → M Unit :=
    (dH 2 (aU (aR 9) (aU (aR 10) dJ)))
def fJ : M Bool :=
    (M.ret true)
def fK : M D :=
    (aq NP (aq yj (aq mF (aa 9) (aa 4)) (aq mF (aa 7) (aa 10))) (aJ (cC kJ) (aN 0)))
def nQ : M Fl :=
    (aD (fu (aq fX (aa 5) (aN 1))
    (M.ret .ct)
    (M.ret .nx))
    (aD (bu 7 (bU 6 (aa 2) aP))
    (aD (fu (qZ (aq fX (aa 7) (mC (.int 0))) (aq fX (aa 4) (aJ (cC kJ) (aN 0))))
    (M.ret .ct)
    (M.ret .nx))
    (aD (bu 8 (Oe [9, 10] (GZ (aa 6) (aa 3)) fH fJ fK))
    (aD (oN 8 (aJ (fun _ => fj) (aa 7)) (aa 2))
    (Bb (aa 6) (aa 8)))))))
def nR : M Fl :=
    (aD (oO 0 kJ (aa 4))
    (Ka (rA [(aq aP (aJ (cC d7) (aN 0)) (aa 2)), (aq aP (aJ (cC ir) (aN 0)) (aa 1))]) (dH 2 (aU (Ah (aJ (cC ir) (aN 0)) (aa 1)) (aU (Ah (aJ (cC d7) (aN 0)) (aa 2)) dJ)))))
def nW : M Fl :=
    (aD (oN 3 (aJ (cC kJ) (aN 0)) (aa 2))
    nR)
def qX : M Fl :=
    (aD (sY (uG (aJ (cC di) (aN 0))) (dH 2 (aU (aR 5) (aU (aR 6) dJ))) nQ)
    nW)
def nY : M Fl :=
    (aD (bu 4 (bU 3 (aa 2) aP))
    qX)
def mW : M Fl :=
    (aD (bu 3 (aq aP (aJ (cC di) (aN 0)) (aa 1)))
    nY)
def iG : Fn := dY 11 mW
def oY : M Fl :=
    (aD (bu 5 (aq aP (aq aP (aJ (cC di) (aN 0)) (aa 3)) (aa 1)))
    (aD (fu (aq cLe (aa 5) (mC (.int 0)))
    (M.ret .ct)
    (M.ret .nx))
    (aD (fu (aq CJ (aa 2) (mC .non))
    (aD (bu 2 (aa 3))
    (M.ret .ct))
    (M.ret .nx))
    (aD (bu 6 (aq yj (aq mF (aq aP (aq aP (aJ (cC di) (aN 0)) (aa 3)) (aJ (fun _ => fj) (mC (.int 1)))) (aq aP (aq aP (aJ (cC di) (aN 0)) (aa 2)) (aa 1))) (aq mF (aq aP (aq aP (aJ (cC di) (aN 0)) (aa 2)) (aJ (fun _ => fj) (mC (.int 1)))) (aa 5))))
    (fu (uA (aq CG (aa 6) (mC (.int 0))) (qZ (aq fX (aa 6) (mC (.int 0))) (aq CG (aa 4) (aq aP (aJ (cC ir) (aN 0)) (aa 2)))))
    (bu 2 (aa 3))
    (M.ret .nx))))))
def rP : M Fl :=
    (aD (sY (uG (aJ (cC ir) (aN 0))) (dH 2 (aU (aR 3) (aU (aR 4) dJ))) oY)
    (cO (uh 2)))
def oE : M Fl :=
    (aD (bu 2 (mC .non))
    rP)
def jw : Fn := dY 7 oE
def yV : Nat → Option Fn := fun c => ak6 c [(0, iD)]
def yW : Nat → Option Fn := fun c => ak6 c [(0, iG)]
def Ai : Nat → Option Fn := fun c => ak6 c [(0, jw)]
def qJ : M Fl :=
    (aD (oJ (mZ 2 0 yW (bh []) (aa 0) (ak [(bG (mZ 1 0 Ai (bh []) (aa 0) (ak [(aa 1)]) (ak []))), (aa 1)]) (ak [])))
    (cO (mC (.bl true))))
def qK : M Fl :=
    (aD (fu (aq CJ (aa 1) (mC .non))
    (cO (mC (.bl false)))
    (M.ret .nx))
    qJ)
def qL : M Fl :=
    (aD (bu 1 (mZ 0 0 yV (bh []) (aa 0) (ak []) (ak [])))
    qK)
def iQ : Fn := dY 2 qL
def pq : M Fl :=
    (cO (Gq (aq Dt (aa 1) (aJ (cC ir) (aN 0))) (aq aP (aq aP (aJ (cC di) (aN 0)) (zB (aJ (cC ir) (aN 0)) (aa 1))) (aJ (fun _ => fj) (mC (.int 1)))) (mC (.int 0))))
def ig : Fn := dY 2 pq
def pX : M Fl :=
    (cO (Gq (aq Dt (aa 1) (aJ (cC d7) (aN 0))) (aq aP (aq aP (aJ (cC di) (aN 0)) (aJ (fun _ => fj) (mC (.int 1)))) (zB (aJ (cC d7) (aN 0)) (aa 1))) (mC (.int 0))))
def jx : Fn := dY 2 pX
def wg : Nat → Option Fn := fun c => ak6 c [(0, iQ)]
def Im : Nat → Option Fn := fun c => ak6 c [(0, jx)]
def Df : Nat → Option Fn := fun c => ak6 c [(0, ig)]
def wZ : M Fl :=
    (oJ (GF (aa 2) (aa 4) (aa 3)))
def xf : D → M Unit :=
    (aR 4)
def xj : M Bool :=
    (M.ret true)
def xq : M D :=
    (aJ (fun _ => fj) (bU 4 (aa 3) aP))
def xF : M Fl :=
    (oJ (uw 6 (bG (aq du (bG (eU [(aJ pY (aa 7))])) (bG (fM [4] (rB (aa 5)) xf xj xq))))))
def qM : M Fl :=
    (M.ret .nx)
def xG : D → M Unit :=
    (aR 3)
def xH : M Bool :=
    (M.ret true)
def xJ : M D :=
    (bG (mZ 1 0 Im (bh []) (aa 8) (ak [(bG (aq du (aa 9) (aa 3)))]) (ak [])))
def u6 : M Fl :=
    (oN 10 (bG (mZ 1 0 Df (bh []) (aa 8) (ak [(bG (aq du (mC (.int 1)) (aa 3)))]) (ak []))) (GJ (aa 2) (aa 4)))
def Dz : M Fl :=
    (aD (gq (qb (aa 5)) (dH 2 (aU (aR 3) (aU (aR 4) dJ))) u6)
    (cO (rA [(mC (.str "amounts")), (bG (bW 1 0 nM (bh []) (ak [(aa 10)]) (ak [])))])))
def Aj : M Fl :=
    (aD (bu 10 (aq yr (bG (eU [(mC (.int 0))])) (aJ cI (aN 0))))
    Dz)
def xK : M Fl :=
    (aD (fu (aq fX (aq aP (aq aP (aJ (cC di) (aN 8)) (aJ (fun _ => fj) (mC (.int 1)))) (aJ (fun _ => fj) (mC (.int 1)))) (mC (.int 0)))
    (aD (bu 9 (aq du (mC (.int 1)) (aJ cI (aN 5))))
    (cO (rA [(mC (.str "weights")), (bG (bW 1 0 nM (bh []) (ak [(bG (fM [3] (dO (aJ cI (aN 1))) xG xH xJ))]) (ak [])))])))
    (M.ret .nx))
    Aj)
def Io : M Fl :=
    (aD (jr (qZ (aq fX (aq aP (aq aP (aJ (cC di) (aN 8)) (aJ (fun _ => fj) (mC (.int 1)))) (aJ (fun _ => fj) (mC (.int 1)))) (mC (.int 0))) (aJ D.tru (mZ 0 0 wg (bh []) (aa 8) (ak []) (ak [])))) qM 2147483648)
    xK)
def Ak : M Fl :=
    (aD (bu 8 (Gy 0 3 0 iz (bh []) (ak [(aa 6), (bG (aq du (bG (aq yr (bG (eU [(mC (.int 0))])) (aJ cI (aN 1)))) (bG (eU [(mC (.int 1))])))), (bG (aq du (bG (eU [(mC (.int 1))])) (bG (aq yr (bG (eU [(mC (.int 0))])) (aJ cI (aN 5))))))]) (ak [])))
    Io)
def Ao : M Fl :=
    (aD (oJ (uw 6 (bG (aq du (bG (eU [(mC (.int 0))])) (bG (aq yr (bG (eU [(mC (.int 1))])) (aJ cI (aN 5))))))))
    Ak)
def Ip : M Fl :=
    (aD (gq (qb (aa 1)) (dH 2 (aU (aR 3) (aU (aR 7) dJ))) xF)
    Ao)
def Aq : M Fl :=
    (aD (bu 6 (eU []))
    Ip)
def Ar : M Fl :=
    (aD (bu 5 (GP (aa 2)))
    Aq)
def Ir : M Fl :=
    (aD (gq (qb (aa 0)) (dH 2 (aU (aR 3) (aU (aR 4) dJ))) wZ)
    Ar)
def G4 : M Fl :=
    (aD (bu 2 Qe)
    Ir)
def wj : Fn := dY 11 G4
def pA : M Fl :=
    (cO (LK (aq (tO qH) (aa 0) (mC (.ty "int"))) (LC (aq (tO qH) (aa 0) (mC (.ty "bool"))))))
def lY : Fn := dY 1 pA
def iV : D → M Unit :=
    (aR 9)
def iW : M Bool :=
    (uA (zP (aJ D.tru (bW 1 0 lY (bh []) (ak [(bU 4 (aa 9) aP)]) (ak [])))) (aq CG (bU 4 (aa 9) aP) (mC (.int 0))))
def oZ : M D :=
    (aa 9)
def iY : D → M Unit :=
    (aR 9)
def iZ : M Bool :=
    (aq zf (bU 4 (aa 9) aP) (mC (.int 0)))
def jc : M D :=
    (aa 9)
def je : D → M Unit :=
    (aR 9)
def jf : M Bool :=
    (M.ret true)
def jh : M D :=
    (aq mF (aq aP (bU 1 (aa 9) aP) (aa 6)) (bU 4 (aa 9) aP))
def j9 : M Fl :=
    (aD (bu 8 (aJ vD (fM [9] (dO (aJ cI (aN 1))) je jf jh)))
    (fu (uA (aq CG (aa 8) (mC (.int 0))) (qZ (aJ D.tru (aN 7)) (aq fX (aa 8) (mC (.int 0)))))
    (cO (mC (.bl false)))
    (M.ret .nx)))
def lE : D → M Unit :=
    (aR 9)
def lG : M Bool :=
    (qZ (aJ D.tru (bU 2 (aa 9) aP)) (aq zf (bU 4 (aa 9) aP) (mC (.int 0))))
def lH : M D :=
    (aa 9)
def ji : D → M Unit :=
    (aR 9)
def jk : M Bool :=
    (M.ret true)
def jm : M D :=
    (aq mF (bU 10 (aa 9) aP) (bU 4 (aa 9) aP))
def lJ : D → M Unit :=
    (aR 10)
def lK : M Bool :=
    (aq zf (aJ vD (fM [9] (dO (aJ cI (aN 2))) ji jk jm)) (mC (.int 0)))
def rQ : M D :=
    (aa 10)
def o5 : M Fl :=
    (aD (fu (aq fX (bG (fM [9] (dO (aJ cI (aN 2))) lE lG lH)) (eU []))
    (cO (mC (.bl false)))
    (M.ret .nx))
    (cO (aq (fun h x y => (fX h x y).map .bl) (bG (fM [10] (rB (aa 1)) lJ lK rQ)) (eU []))))
def lL : M Fl :=
    (aD (fu (uA (aq zY (aa 3) (mC (.str "weights"))) (aq zY (aJ cI (aN 4)) (aJ cI (aN 2))))
    (cO (mC (.bl false)))
    (M.ret .nx))
    o5)
def lM : M Fl :=
    (aD (fu (aq fX (aa 3) (mC (.str "amounts")))
    (aD (bu 5 (fM [9] (dO (aJ cI (aN 4))) iY iZ jc))
    (aD (fu (uA (aq zY (aJ cI (aN 4)) (aJ cI (aN 1))) (aq zf (aJ cI (aN 5)) (aJ cI (aN 2))))
    (cO (mC (.bl false)))
    (M.ret .nx))
    (aD (gq (qb (aa 2)) (dH 2 (aU (aR 6) (aU (aR 7) dJ))) j9)
    (cO (mC (.bl true))))))
    (M.ret .nx))
    lL)
def o7 : M Fl :=
    (aD (fu (aq zY (bG (fM [9] (dO (aJ cI (aN 4))) iV iW oZ)) (eU []))
    (cO (mC (.bl false)))
    (M.ret .nx))
    lM)
def o8 : M Fl :=
    (aD (Ka (aa 0) (dH 2 (aU (aR 3) (aU (aR 4) dJ))))
    o7)
def oF : M Fl :=
    (aD (fu (uA (zP (aJ D.tru (aq (tO qH) (aa 0) (mC (.ty "tuple"))))) (uA (aq zY (aJ cI (aN 0)) (mC (.int 2))) (zP (aJ D.tru (aq (tO qH) (bU 0 (mC (.int 1)) aP) (mC (.ty "tuple")))))))
    (cO (mC (.bl false)))
    (M.ret .nx))
    o8)
def fW : Fn := dY 11 oF
def BJ : D → M Unit :=
    (aR 17)
def BK : M Bool :=
    (M.ret true)
def BP : M D :=
    (aq mF (bG (aq du (mC (.int 1)) (aa 15))) (aa 17))
def yG : D → M Unit :=
    (dH 2 (aU (aR 15) (aU (aR 16) dJ)))
def yH : M Bool :=
    (M.ret true)
def yI : M D :=
    (aJ Ag (fM [17] (rB (aa 16)) BJ BK BP))
def BR : D → M Unit :=
    (aR 16)
def BV : M Bool :=
    (M.ret true)
def BW : M D :=
    (aJ Ag (aN 16))
def BX : D → M Unit :=
    (aR 16)
def BZ : M Bool :=
    (M.ret true)
def Ca : M D :=
    (aJ De (aa 16))
def zF : M Fl :=
    (aD (bu 14 (bW 2 0 wj (bh []) (ak [(bG (aJ Pn (aN 12))), (aa 13)]) (ak [])))
    (fu (uA (zP (aJ D.tru (bW 3 0 fW (bh []) (ak [(aa 14), (aa 12), (aa 13)]) (ak [])))) (aq zY (bU 14 (mC (.int 0)) aP) (aN 6)))
    (cO (mC (.bl false)))
    (M.ret .nx)))
def DG : M Fl :=
    (aD (CP [10, 11] (ak [(fM [16] (rB (aa 7)) BR BV BW), (fM [16] (rB (aa 8)) BX BZ Ca)]))
    (gq (rB (rA [(rA [(aa 10), (aa 5)]), (rA [(aa 8), (aa 5)]), (rA [(aa 11), (aJ De (aa 5))])])) (dH 2 (aU (aR 12) (aU (aR 13) dJ))) zF))
def yX : M Fl :=
    (aD (bu 8 (aq du (bG (bU 8 (yP (Pj (aa 9)) Uh) wH)) (bG (bU 8 (yP Uh (Pj (aa 9))) wH))))
    DG)
def yZ : M Fl :=
    (aD (bu 9 (bW 2 0 bR (bh []) (ak [(aa 2), (bG (aq du (aJ cI (aN 8)) (mC (.int 1))))]) (ak [])))
    yX)
def u9 : M Fl :=
    (aD (bu 8 (fM [15, 16] (qb (aa 7)) yG yH yI))
    yZ)
def DK : M Fl :=
    (aD (fu (aq fX (aa 6) (mC (.str "weights")))
    (bu 7 (bW 4 0 iy (bh []) (ak [(aa 2), (aa 3), (aa 4), (aa 5)]) (ak [])))
    (M.ret .nx))
    u9)
def zG : M Fl :=
    (aD (bu 7 (bW 4 0 iw (bh []) (ak [(aa 2), (aa 3), (aa 4), (aa 5)]) (ak [])))
    DK)
def DN : M Fl :=
    (aD (bu 5 (bW 2 0 qm (bh []) (ak [(aa 2), (aa 3)]) (ak [])))
    (gq (rB (rA [(mC (.str "amounts")), (mC (.str "weights"))])) (aR 6) zG))
def za : M Fl :=
    (aD (bu 4 (bW 2 0 v9 (bh []) (ak [(aa 2), (bG (eU [(mC (.int 1)), (mC (.int 2)), (mC (.int 9)), (aq Dm (mC (.int 10)) (mC (.int 6))), (aq Dm (mC (.int 10)) (mC (.int 25)))]))]) (ak [])))
    DN)
def zb : M Fl :=
    (aD (bu 3 (aq du (mC (.int 1)) (bG (bW 2 0 bR (bh []) (ak [(aa 2), (mC (.int 6))]) (ak [])))))
    za)
def Dg : M Fl :=
    (aD (bu 2 (qY (bW 2 0 lZ (bh []) (ak [(aa 0), (aa 1)]) (ak []))))
    zb)
def Yh : M Fl :=
    (aD (gq (dO (aq CN (mC (.int 1)) (aq Pq (mC (.int 12)) (aJ cI (aN 0))))) (aR 1) Dg)
    (cO (mC (.bl true))))
def Yi : Fn := dY 18 Yh
end
end L
namespace L
open PySem PySem.Spec L2 Pk GenP
section
variable {P : Program} {w : World} {K : PySem.W.Frag} {mg : Str → Option Value} {base : Heap}
theorem fP (c : bY K) (Y : K.In base) (G : base.Ns mainGlobals mg) : mg "_law_draw" = some (.ref (He.ga K "_law_draw")) := He.glo_ok Y G (c.fact 3 (f := .he (.glo "_law_draw")) rfl)
theorem Ce (c : bY K) (Y : K.In base) (G : base.Ns mainGlobals mg) : mg "_law_entry_of" = some (.ref (He.ga K "_law_entry_of")) := He.glo_ok Y G (c.fact 6 (f := .he (.glo "_law_entry_of")) rfl)
theorem M7 (c : bY K) (Y : K.In base) (G : base.Ns mainGlobals mg) : mg "common_divisor" = some (.ref (He.ga K "common_divisor")) := He.glo_ok Y G (c.fact 12 (f := .he (.glo "common_divisor")) rfl)
theorem Yj (c : bY K) (Y : K.In base) (G : base.Ns mainGlobals mg) : mg "Tableau" = some (.ref (He.ga K "Tableau")) := He.glo_ok Y G (c.fact 13 (f := .he (.glo "Tableau")) rfl)
theorem K6 (c : bY K) (Y : K.In base) (G : base.Ns mainGlobals mg) : mg "shortened" = some (.ref (He.ga K "shortened")) := He.glo_ok Y G (c.fact 14 (f := .he (.glo "shortened")) rfl)
theorem K7 (c : bY K) (Y : K.In base) (G : base.Ns mainGlobals mg) : mg "_law_is_integer" = some (.ref (He.ga K "_law_is_integer")) := He.glo_ok Y G (c.fact 17 (f := .he (.glo "_law_is_integer")) rfl)
theorem Rc (c : bY K) (Y : K.In base) (G : base.Ns mainGlobals mg) : mg "_law_source" = some (.ref (He.ga K "_law_source")) := He.glo_ok Y G (c.fact 19 (f := .he (.glo "_law_source")) rfl)
theorem Yk (c : bY K) (Y : K.In base) (G : base.Ns mainGlobals mg) : mg "_law_of" = some (.ref (He.ga K "_law_of")) := He.glo_ok Y G (c.fact 20 (f := .he (.glo "_law_of")) rfl)
theorem Rg (c : bY K) (Y : K.In base) (G : base.Ns mainGlobals mg) : mg "_law_strict" = some (.ref (He.ga K "_law_strict")) := He.glo_ok Y G (c.fact 21 (f := .he (.glo "_law_strict")) rfl)
theorem Iu (c : bY K) (Y : K.In base) (G : base.Ns mainGlobals mg) : mg "_law_with_amounts" = some (.ref (He.ga K "_law_with_amounts")) := He.glo_ok Y G (c.fact 22 (f := .he (.glo "_law_with_amounts")) rfl)
theorem Iv (c : bY K) (Y : K.In base) (G : base.Ns mainGlobals mg) : mg "_law_with_weights" = some (.ref (He.ga K "_law_with_weights")) := He.glo_ok Y G (c.fact 23 (f := .he (.glo "_law_with_weights")) rfl)
theorem abl (c : bY K) (Y : K.In base) (G : base.Ns mainGlobals mg) : mg "solve" = some (.ref (He.ga K "solve")) := He.glo_ok Y G (c.fact 24 (f := .he (.glo "solve")) rfl)
theorem Jz (c : bY K) (Y : K.In base) (G : base.Ns mainGlobals mg) : mg "_law_is_solution" = some (.ref (He.ga K "_law_is_solution")) := He.glo_ok Y G (c.fact 25 (f := .he (.glo "_law_is_solution")) rfl)
theorem gj (c : bY K) (Y : K.In base) (G : base.Ns mainGlobals mg) : mg "len" = none := He.free_ok Y G (c.fact 0 (f := .he (.free "len")) rfl)
theorem ZR (c : bY K) (Y : K.In base) (G : base.Ns mainGlobals mg) : mg "abs" = none := He.free_ok Y G (c.fact 1 (f := .he (.free "abs")) rfl)
theorem zH (c : bY K) (Y : K.In base) (G : base.Ns mainGlobals mg) : mg "int" = none := He.free_ok Y G (c.fact 2 (f := .he (.free "int")) rfl)
theorem iH (c : bY K) (Y : K.In base) (G : base.Ns mainGlobals mg) : mg "range" = none := He.free_ok Y G (c.fact 4 (f := .he (.free "range")) rfl)
theorem yJ (c : bY K) (Y : K.In base) (G : base.Ns mainGlobals mg) : mg "tuple" = none := He.free_ok Y G (c.fact 5 (f := .he (.free "tuple")) rfl)
theorem lV (c : bY K) (Y : K.In base) (G : base.Ns mainGlobals mg) : mg "enumerate" = none := He.free_ok Y G (c.fact 7 (f := .he (.free "enumerate")) rfl)
theorem Qp (c : bY K) (Y : K.In base) (G : base.Ns mainGlobals mg) : mg "sum" = none := He.free_ok Y G (c.fact 8 (f := .he (.free "sum")) rfl)
theorem ZS (c : bY K) (Y : K.In base) (G : base.Ns mainGlobals mg) : mg "zip" = none := He.free_ok Y G (c.fact 9 (f := .he (.free "zip")) rfl)
theorem Rh (c : bY K) (Y : K.In base) (G : base.Ns mainGlobals mg) : mg "list" = none := He.free_ok Y G (c.fact 10 (f := .he (.free "list")) rfl)
theorem ZV (c : bY K) (Y : K.In base) (G : base.Ns mainGlobals mg) : mg "max" = none := He.free_ok Y G (c.fact 11 (f := .he (.free "max")) rfl)
theorem vG (c : bY K) (Y : K.In base) (G : base.Ns mainGlobals mg) : mg "isinstance" = none := He.free_ok Y G (c.fact 15 (f := .he (.free "isinstance")) rfl)
theorem adg (c : bY K) (Y : K.In base) (G : base.Ns mainGlobals mg) : mg "bool" = none := He.free_ok Y G (c.fact 16 (f := .he (.free "bool")) rfl)
theorem ae3 (c : bY K) (Y : K.In base) (G : base.Ns mainGlobals mg) : mg "min" = none := He.free_ok Y G (c.fact 18 (f := .he (.free "min")) rfl)
theorem pM (c : bY K) {X : Cx} (hK : X.K = K) : QR X (T K) "grid" di := by
 subst hK
 exact ⟨jt (Q := fun c _ => Cls X.K ((T X.K).cad c)) (.cons (He.cls_ok (c.fact 26 (f := .he (.cls "Tableau")) rfl)) .nil),
  jt (Q := fun c _ => NoAttr X.K ((T X.K).cad c) "grid") (.cons (He.noat_ok (c.fact 27 (f := .he (.noat "Tableau" "grid")) rfl)) .nil),
  jt (Q := fun c _ => ((T X.K).fld c).Nodup ∧ ((T X.K).fld c).length < 1000) (.cons ⟨(by show (fld 0).Nodup; decide +kernel), (by show (fld 0).length < 1000; decide)⟩ .nil),
  jt (Q := fun (c i : Nat) => ((T X.K).fld c)[i]? = some (("grid" : Str))) (.cons rfl .nil)⟩
theorem sV (c : bY K) {X : Cx} (hK : X.K = K) : QR X (T K) "outside" d7 := by
 subst hK
 exact ⟨jt (Q := fun c _ => Cls X.K ((T X.K).cad c)) (.cons (He.cls_ok (c.fact 26 (f := .he (.cls "Tableau")) rfl)) .nil),
  jt (Q := fun c _ => NoAttr X.K ((T X.K).cad c) "outside") (.cons (He.noat_ok (c.fact 28 (f := .he (.noat "Tableau" "outside")) rfl)) .nil),
  jt (Q := fun c _ => ((T X.K).fld c).Nodup ∧ ((T X.K).fld c).length < 1000) (.cons ⟨(by show (fld 0).Nodup; decide +kernel), (by show (fld 0).length < 1000; decide)⟩ .nil),
  jt (Q := fun (c i : Nat) => ((T X.K).fld c)[i]? = some (("outside" : Str))) (.cons rfl .nil)⟩
theorem vQ (c : bY K) {X : Cx} (hK : X.K = K) : QR X (T K) "basis" ir := by
 subst hK
 exact ⟨jt (Q := fun c _ => Cls X.K ((T X.K).cad c)) (.cons (He.cls_ok (c.fact 26 (f := .he (.cls "Tableau")) rfl)) .nil),
  jt (Q := fun c _ => NoAttr X.K ((T X.K).cad c) "basis") (.cons (He.noat_ok (c.fact 29 (f := .he (.noat "Tableau" "basis")) rfl)) .nil),
  jt (Q := fun c _ => ((T X.K).fld c).Nodup ∧ ((T X.K).fld c).length < 1000) (.cons ⟨(by show (fld 0).Nodup; decide +kernel), (by show (fld 0).length < 1000; decide)⟩ .nil),
  jt (Q := fun (c i : Nat) => ((T X.K).fld c)[i]? = some (("basis" : Str))) (.cons rfl .nil)⟩
theorem Cg (c : bY K) {X : Cx} (hK : X.K = K) : QR X (T K) "scale" kJ := by
 subst hK
 exact ⟨jt (Q := fun c _ => Cls X.K ((T X.K).cad c)) (.cons (He.cls_ok (c.fact 26 (f := .he (.cls "Tableau")) rfl)) .nil),
  jt (Q := fun c _ => NoAttr X.K ((T X.K).cad c) "scale") (.cons (He.noat_ok (c.fact 30 (f := .he (.noat "Tableau" "scale")) rfl)) .nil),
  jt (Q := fun c _ => ((T X.K).fld c).Nodup ∧ ((T X.K).fld c).length < 1000) (.cons ⟨(by show (fld 0).Nodup; decide +kernel), (by show (fld 0).length < 1000; decide)⟩ .nil),
  jt (Q := fun (c i : Nat) => ((T X.K).fld c)[i]? = some (("scale" : Str))) (.cons rfl .nil)⟩
theorem Kw (c : bY K) : QT K (T K) qH := ad0 .nil
theorem Om (c : bY K) (Y : K.In base) (G : base.Ns mainGlobals mg) : Does P w K mg base (T K) 0 Jp "_law_source" (defScope qj) (defBody qj) tD := by
 intro f cdv A outer s H E C
 exact (aM (jB C 2 (s_if (dG cmp_lt (aj 1) (fZ (bM 0) (gj c Y G))) (dM 0 (aj 1)) aO))
  (aM (jB C 3 (s_if (dG cmp_ge (Y0 (aj 2) (ZR c Y G)) (JZ aO aO)) (Y0 (aj 2) (ZR c Y G)) aO))
  (bT (s_ret (lg (aG (aj 3) (aG (bZ (jo (bZ (jo (Gm (yo (aj 2) (zH c Y G)) aO) (pN aO (aj 1)))) aO)) (aG aO bL))))))))
theorem Ri (c : bY K) (Y : K.In base) (G : base.Ns mainGlobals mg) : ∃ fd : FuncData, oR P w K mg base (T K) 1 (zV.adr K) fd zU lZ ∧ Bn K (T K) fd zU 2 [] (bh []) := by
 obtain ⟨fd, F⟩ := c.def_ 0 (d := zV) rfl
 exact ⟨fd, ⟨fn_sim F QX (Om c Y G), F.kp⟩, (mH (FunD.bindsN F fun _ _ _ _ _ _ us hl => match us, hl with | [_, _], _ => (by kernel_rfl)))⟩
theorem Rj (c : bY K) (Y : K.In base) (G : base.Ns mainGlobals mg) : Does P w K mg base (T K) 0 Np "_law_draw" (defScope tK) (defBody tK) yU := by
 intro f cdv A outer s H E C
 exact (aM (pZ (dG cmp_gt (dM 0 aO) aO)
  (aM (jB C 2 (Gm (yo (dM 0 aO) (zH c Y G)) (aj 1)))
  (aM (zq 0 (Pg (dM 0 aO) (aj 1)) aO)
  (bT (s_ret (Lr 2)))))
  mG)
  (aM (zq 0 (bZ (jo (dM 0 aO) aO)) aO)
  (aM (jB C 3 (Gm (yo (JZ (bZ (jo (dM 0 aO) (pN aO (dM 0 aO)))) aO) (zH c Y G)) aO))
  (aM (jB C 3 (Gm (yo (JZ (bZ (jo (aj 3) (pN aO (dM 0 aO)))) aO) (zH c Y G)) aO))
  (bT (s_ret (km (Gm (yo (Pg (aj 3) aO) (zH c Y G)) (aj 1)))))))))
theorem rR (c : bY K) (Y : K.In base) (G : base.Ns mainGlobals mg) : ∃ fd : FuncData, oR P w K mg base (T K) 1 (Dq.adr K) fd Do bR ∧ Bn K (T K) fd Do 2 [] (bh []) := by
 obtain ⟨fd, F⟩ := c.def_ 1 (d := Dq) rfl
 exact ⟨fd, ⟨fn_sim F Ux (Rj c Y G), F.kp⟩, (mH (FunD.bindsN F fun _ _ _ _ _ _ us hl => match us, hl with | [_, _], _ => (by kernel_rfl)))⟩
theorem Vs (c : bY K) (Y : K.In base) (G : base.Ns mainGlobals mg) : Does P w K mg base (T K) 1 RP "_law_of" (defScope vY) (defBody vY) KZ := by
 obtain ⟨fd__law_draw, F__law_draw, B__law_draw_0⟩ := rR (P := P) (w := w) c Y G
 intro f cdv A outer s H E C
 exact (bT (s_ret (km (dM 1 (bZ (eQ C F__law_draw (by decide) B__law_draw_0 (fP c Y G) (aG (aj 0) (aG (fZ (bM 1) (gj c Y G)) bL))))))))
theorem Yl (c : bY K) (Y : K.In base) (G : base.Ns mainGlobals mg) : ∃ fd : FuncData, oR P w K mg base (T K) 2 (Km.adr K) fd Kl v9 ∧ Bn K (T K) fd Kl 2 [] (bh []) := by
 obtain ⟨fd, F⟩ := c.def_ 2 (d := Km) rfl
 exact ⟨fd, ⟨fn_sim F XN (Vs c Y G), F.kp⟩, (mH (FunD.bindsN F fun _ _ _ _ _ _ us hl => match us, hl with | [_, _], _ => (by kernel_rfl)))⟩
theorem Oo (c : bY K) (Y : K.In base) (G : base.Ns mainGlobals mg) : Does P w K mg base (T K) 1 Jq "_law_strict" (defScope ql) (defBody ql) tE := by
 obtain ⟨fd__law_draw, F__law_draw, B__law_draw_0⟩ := rR (P := P) (w := w) c Y G
 intro f cdv A outer s H E C
 exact (aM (QM C 2 [("_law_turn", 3)] (lu (aj 1) (iH c Y G)) (by decide) (fun _ _ _ _ _ => (bJ (Cq.blk C) 3)) (fun _ _ _ _ _ => jy) (fun _ _ _ _ _ => (YQ (cmp_eq (Cq.blk C)) (bZ (eQ (Cq.blk C) F__law_draw (by decide) B__law_draw_0 (fP c Y G) (aG (aj 0) (aG aO bL)))) (pD aO))) (blkOk_by rfl) (sw_true rfl rfl rfl rfl))
  (aM (zq 2 vC (bZ (eQ C F__law_draw (by decide) B__law_draw_0 (fP c Y G) (aG (aj 0) (aG (aj 1) bL)))))
  (bT (s_ret (km (Ui (bM 2) (yJ c Y G)))))))
theorem Rk (c : bY K) (Y : K.In base) (G : base.Ns mainGlobals mg) : ∃ fd : FuncData, oR P w K mg base (T K) 2 (zX.adr K) fd zW qm ∧ Bn K (T K) fd zW 2 [] (bh []) := by
 obtain ⟨fd, F⟩ := c.def_ 3 (d := zX) rfl
 exact ⟨fd, ⟨fn_sim F QZ (Oo c Y G), F.kp⟩, (mH (FunD.bindsN F fun _ _ _ _ _ _ us hl => match us, hl with | [_, _], _ => (by kernel_rfl)))⟩
theorem K8 (c : bY K) (Y : K.In base) (G : base.Ns mainGlobals mg) : Does P w K mg base (T K) 1 CZ "_law_entry_of" (defScope oU) (defBody oU) qI := by
 obtain ⟨fd__law_draw, F__law_draw, B__law_draw_0⟩ := rR (P := P) (w := w) c Y G
 intro f cdv A outer s H E C
 exact (bT (s_ret (km (Gk (bZ (eQ C F__law_draw (by decide) B__law_draw_0 (fP c Y G) (aG (aj 0) (aG (bZ (jo (pN aO (aj 1)) aO)) bL)))) (aj 1)))))
theorem Ci (c : bY K) (Y : K.In base) (G : base.Ns mainGlobals mg) : ∃ fd : FuncData, oR P w K mg base (T K) 2 (wQ.adr K) fd wO iK ∧ Bn K (T K) fd wO 2 [] (bh []) := by
 obtain ⟨fd, F⟩ := c.def_ 4 (d := wQ) rfl
 exact ⟨fd, ⟨fn_sim F N6 (K8 c Y G), F.kp⟩, (mH (FunD.bindsN F fun _ _ _ _ _ _ us hl => match us, hl with | [_, _], _ => (by kernel_rfl)))⟩
theorem DP (c : bY K) (Y : K.In base) (G : base.Ns mainGlobals mg) : Does P w K mg base (T K) 2 xT "_law_with_amounts" (defScope jG) (defBody jG) mO := by
 obtain ⟨fd__law_draw, F__law_draw, B__law_draw_0⟩ := rR (P := P) (w := w) c Y G
 obtain ⟨fd__law_entry_of, F__law_entry_of, B__law_entry_of_0⟩ := Ci (P := P) (w := w) c Y G
 intro f cdv A outer s H E C
 exact (aM (oK C 4 (lg bL))
  (aM (wL C (lu (bZ (eQ C F__law_draw (by decide) B__law_draw_0 (fP c Y G) (aG (aj 0) (aG aO bL)))) (iH c Y G)) (bJ C 5)
  (bT (zp (Gu 4 (bZ (oM C [("_law_place", 7)] (lu (aj 1) (iH c Y G)) (by decide) (fun _ _ _ _ _ => (bJ (Cq.blk C) 7)) (fun _ _ _ _ _ => jy) (fun _ _ _ _ _ => (bZ (eQ (Cq.blk C) F__law_entry_of (by decide) B__law_entry_of_0 (Ce c Y G) (aG (aj 0) (aG (aj 2) bL))))) (blkOk_by rfl)))))))
  (aM (oK C 6 (lg bL))
  (aM (wL C (lu (aj 1) (iH c Y G)) (bJ C 7)
  (aM (oK C 8 (jo (yo (dM 3 (aj 7)) (zH c Y G)) (pN (bZ (eQ C F__law_draw (by decide) B__law_draw_0 (fP c Y G) (aG (aj 0) (aG aO bL)))) (bZ (eQ C F__law_draw (by decide) B__law_draw_0 (fP c Y G) (aG (aj 0) (aG aO bL)))))))
  (bT (zp (Gu 6 (Gk (aj 8) (Mq C (sW (oM C [("_law_k", 9), ("_law_column", 10)] (Ay (aj 4) (lV c Y G)) (by decide) (fun _ _ _ _ _ => (qu (Cq.blk C) (dC (bJ (Cq.blk C) 9) (dC (bJ (Cq.blk C) 10) oH)))) (fun _ _ _ _ _ => jy) (fun _ _ _ _ _ => (pN (dM 10 (aj 7)) (bZ (jo aO (aj 9))))) (blkOk_by rfl))) (Qp c Y G))))))))
  (bT (s_ret (jo (aj 4) (bZ (lg (aG (aj 6) bL))))))))))
theorem Iw (c : bY K) (Y : K.In base) (G : base.Ns mainGlobals mg) : ∃ fd : FuncData, oR P w K mg base (T K) 3 (tR.adr K) fd tQ iw ∧ Bn K (T K) fd tQ 4 [] (bh []) := by
 obtain ⟨fd, F⟩ := c.def_ 5 (d := tR) rfl
 exact ⟨fd, ⟨fn_sim F HR (DP c Y G), F.kp⟩, (mH (FunD.bindsN F fun _ _ _ _ _ _ us hl => match us, hl with | [_, _, _, _], _ => (by kernel_rfl)))⟩
theorem DQ (c : bY K) (Y : K.In base) (G : base.Ns mainGlobals mg) : Does P w K mg base (T K) 2 xU "_law_with_weights" (defScope jH) (defBody jH) mQ := by
 obtain ⟨fd__law_draw, F__law_draw, B__law_draw_0⟩ := rR (P := P) (w := w) c Y G
 obtain ⟨fd__law_entry_of, F__law_entry_of, B__law_entry_of_0⟩ := Ci (P := P) (w := w) c Y G
 intro f cdv A outer s H E C
 exact (aM (oK C 4 (oM C [("_law_place", 10)] (lu (aj 1) (iH c Y G)) (by decide) (fun _ _ _ _ _ => (bJ (Cq.blk C) 10)) (fun _ _ _ _ _ => jy) (fun _ _ _ _ _ => (bZ (eQ (Cq.blk C) F__law_draw (by decide) B__law_draw_0 (fP c Y G) (aG (aj 0) (aG aO bL))))) (blkOk_by rfl)))
  (aM (jB C 5 (fY (bZ (oM C [("_law_place", 10)] (lu (aj 1) (iH c Y G)) (by decide) (fun _ _ _ _ _ => (bJ (Cq.blk C) 10)) (fun _ _ _ _ _ => (Gr (zg (pD (dM 3 (aj 10)))))) (fun _ _ _ _ _ => (aj 10)) (blkOk_by rfl))) aO))
  (aM (zq 4 aO (aj 5))
  (aM (oK C 6 (lg bL))
  (aM (wL C (lu (bZ (eQ C F__law_draw (by decide) B__law_draw_0 (fP c Y G) (aG (aj 0) (aG aO bL)))) (iH c Y G)) (bJ C 7)
  (aM (oK C 8 (oM C [("_law_place", 10)] (lu (aj 1) (iH c Y G)) (by decide) (fun _ _ _ _ _ => (bJ (Cq.blk C) 10)) (fun _ _ _ _ _ => jy) (fun _ _ _ _ _ => (bZ (eQ (Cq.blk C) F__law_entry_of (by decide) B__law_entry_of_0 (Ce c Y G) (aG (aj 0) (aG (aj 2) bL))))) (blkOk_by rfl)))
  (aM (jB C 9 (Mq C (sW (oM C [("_law_place", 10)] (lu (aj 1) (iH c Y G)) (by decide) (fun _ _ _ _ _ => (bJ (Cq.blk C) 10)) (fun _ _ _ _ _ => jy) (fun _ _ _ _ _ => (pN (dM 4 (aj 10)) (dM 8 (aj 10)))) (blkOk_by rfl))) (Qp c Y G)))
  (aM (zq 8 (Gk (Gk (dM 8 (aj 5)) (aj 9)) (pN (bZ (eQ C F__law_draw (by decide) B__law_draw_0 (fP c Y G) (aG (aj 0) (aG aO bL)))) (bZ (eQ C F__law_draw (by decide) B__law_draw_0 (fP c Y G) (aG (aj 0) (aG aO bL)))))) (aj 5))
  (bT (zp (Gu 6 (aj 8))))))))
  (bT (s_ret (Lr 6))))))))
theorem Iz (c : bY K) (Y : K.In base) (G : base.Ns mainGlobals mg) : ∃ fd : FuncData, oR P w K mg base (T K) 3 (tV.adr K) fd tU iy ∧ Bn K (T K) fd tU 4 [] (bh []) := by
 obtain ⟨fd, F⟩ := c.def_ 6 (d := tV) rfl
 exact ⟨fd, ⟨fn_sim F HS (DQ c Y G), F.kp⟩, (mH (FunD.bindsN F fun _ _ _ _ _ _ us hl => match us, hl with | [_, _, _, _], _ => (by kernel_rfl)))⟩
theorem DR (c : bY K) (Y : K.In base) (G : base.Ns mainGlobals mg) : Does P w K mg base (T K) 0 xV "Tableau.__init__" (defScope jJ) (defBody jJ) mU := by
 intro f cdv A outer s H E C
 exact (aM (Bo 0 (pM c rfl) (Ax (oM C [("row", 4), ("limit", 5)] (aef (aj 1) (aj 2) (ZS c Y G)) (by decide) (fun _ _ _ _ _ => (qu (Cq.blk C) (dC (bJ (Cq.blk C) 4) (dC (bJ (Cq.blk C) 5) oH)))) (fun _ _ _ _ _ => jy) (fun _ _ _ _ _ => (Ax (jo (aj 4) (bZ (lg (aG (aj 5) bL)))))) (blkOk_by rfl))))
  (aM (zp (acl (fO (pM c rfl) (bM 0)) (Ax (jo (bZ (oM C [("gain", 6)] (uX (aj 3)) (by decide) (fun _ _ _ _ _ => (bJ (Cq.blk C) 6)) (fun _ _ _ _ _ => jy) (fun _ _ _ _ _ => (sX (aj 6))) (blkOk_by rfl))) (bZ (lg (aG aO bL)))))))
  (aM (Bo 0 (sV c rfl) (Ax (aav C (fZ (bM 3) (gj c Y G)) (Rh c Y G) (iH c Y G))))
  (aM (Bo 0 (vQ c rfl) (Ax (oM C [("at", 7)] (lu (fZ (bM 1) (gj c Y G)) (iH c Y G)) (by decide) (fun _ _ _ _ _ => (bJ (Cq.blk C) 7)) (fun _ _ _ _ _ => jy) (fun _ _ _ _ _ => (bZ (jo (fZ (bM 3) (gj c Y G)) (aj 7)))) (blkOk_by rfl))))
  (bT (Bo 0 (Cg c rfl) aO))))))
theorem IK (c : bY K) (Y : K.In base) (G : base.Ns mainGlobals mg) : ∃ fd : FuncData, FnC P w K mg base (T K) 1 0 (tX.adr K) fd tW iz ∧ BnI K (T K) fd tW 3 [] (bh []) := by
 obtain ⟨fd, F⟩ := c.def_ 7 (d := tX) rfl
 exact ⟨fd, ⟨fn_sim F HW (DR c Y G), He.mkr_ok (c.fact 37 (f := .he (.mkr "Tableau")) rfl)⟩, (acn 3 (FunD.bindsN F fun _ _ _ _ _ _ us hl => match us, hl with | [_, _, _, _], _ => (by kernel_rfl)) rfl)⟩
theorem JB (c : bY K) (Y : K.In base) (G : base.Ns mainGlobals mg) : Does P w K mg base (T K) 0 Br "common_divisor" (defScope mX) (defBody mX) pW := by
 intro f cdv A outer s H E C
 exact (aM (jB C 1 aO)
  (aM (wL C (uX (aj 0)) (bJ C 2)
  (bT (s_while C 100000 (dG cmp_gt (aj 2) aO)
  (bT (Y5 C 1 2 (Hz (km (aj 2)) (Hz (km (Gm (aj 1) (aj 2))) Ws)))))))
  (bT (s_ret (km (Wo C (aj 1) aO (ZV c Y G)))))))
theorem M8 (c : bY K) (Y : K.In base) (G : base.Ns mainGlobals mg) : ∃ fd : FuncData, oR P w K mg base (T K) 1 (vL.adr K) fd vK kW ∧ Bn K (T K) fd vK 1 [] (bh []) := by
 obtain ⟨fd, F⟩ := c.def_ 8 (d := vL) rfl
 exact ⟨fd, ⟨fn_sim F M4 (JB c Y G), F.kp⟩, (mH (FunD.bindsN F fun _ _ _ _ _ _ us hl => match us, hl with | [_], _ => (by kernel_rfl)))⟩
theorem Rm (c : bY K) (Y : K.In base) (G : base.Ns mainGlobals mg) : Does P w K mg base (T K) 1 Nr "shortened" (defScope tL) (defBody tL) u5 := by
 obtain ⟨fd_common_divisor, F_common_divisor, B_common_divisor_0⟩ := M8 (P := P) (w := w) c Y G
 intro f cdv A outer s H E C
 exact (aM (oK C 1 (eQ C F_common_divisor (by decide) B_common_divisor_0 (M7 c Y G) (aG (aj 0) bL)))
  (bT (s_ret (km (Ui (sW (oM C [("value", 2)] (uX (aj 0)) (by decide) (fun _ _ _ _ _ => (bJ (Cq.blk C) 2)) (fun _ _ _ _ _ => jy) (fun _ _ _ _ _ => (Pg (aj 2) (aj 1))) (blkOk_by rfl))) (yJ c Y G))))))
theorem Vt (c : bY K) (Y : K.In base) (G : base.Ns mainGlobals mg) : ∃ fd : FuncData, oR P w K mg base (T K) 2 (Ds.adr K) fd Dr nM ∧ Bn K (T K) fd Dr 1 [] (bh []) := by
 obtain ⟨fd, F⟩ := c.def_ 9 (d := Ds) rfl
 exact ⟨fd, ⟨fn_sim F Uy (Rm c Y G), F.kp⟩, (mH (FunD.bindsN F fun _ _ _ _ _ _ us hl => match us, hl with | [_], _ => (by kernel_rfl)))⟩
theorem DW (c : bY K) (Y : K.In base) (G : base.Ns mainGlobals mg) : Does P w K mg base (T K) 0 xW "Tableau.entering" (defScope jK) (defBody jK) mV := by
 intro f cdv A outer s H E C
 exact (aM (jB C 1 JV)
  (aM (UV C (Od (fO (sV c rfl) (bM 0)) (lV c Y G)) (qu C (dC (bJ C 2) (dC (bJ C 3) oH)))
  (bT (pZ (uv (Gp (dG cmp_lt (fY (fY (fO (pM c rfl) (bM 0)) (sX aO)) (aj 2)) aO) (Av (uv (Ad (dG Ua (aj 1) JV) (zj (dG cmp_lt (aj 3) (fY (fO (sV c rfl) (bM 0)) (aj 1)))))))))
  (bT (jB C 1 (aj 2)))
  mG)))
  (bT (s_ret (Lr 1)))))
theorem IV (c : bY K) (Y : K.In base) (G : base.Ns mainGlobals mg) : ∃ fd : FuncData, oR P w K mg base (T K) 1 (tZ.adr K) fd tY iD ∧ Bn K (T K) fd tY 1 [] (bh []) := by
 obtain ⟨fd, F⟩ := c.def_ 10 (d := tZ) rfl
 exact ⟨fd, ⟨fn_sim F HX (DW c Y G), F.kp⟩, (mH (FunD.bindsN F fun _ _ _ _ _ _ us hl => match us, hl with | [_], _ => (by kernel_rfl)))⟩
theorem DY (c : bY K) (Y : K.In base) (G : base.Ns mainGlobals mg) : Does P w K mg base (T K) 0 xX "Tableau.exchange" (defScope jL) (defBody jL) mW := by
 intro f cdv A outer s H E C
 exact (aM (jB C 3 (fY (fO (pM c rfl) (bM 0)) (aj 1)))
  (aM (jB C 4 (dM 3 (aj 2)))
  (aM (UV C (Od (fO (pM c rfl) (bM 0)) (lV c Y G)) (qu C (dC (bJ C 5) (dC (bJ C 6) oH)))
  (aM (pZ (dG (cmp_eq C) (aj 5) (bM 1))
  (bT Px)
  mG)
  (aM (jB C 7 (dM 6 (aj 2)))
  (aM (pZ (uv (Gp (dG (cmp_eq C) (aj 7) (pD aO)) (Av (dG (cmp_eq C) (aj 4) (pD (fO (Cg c rfl) (bM 0)))))))
  (bT Px)
  mG)
  (aM (aaI C 8 [("x", 9), ("y", 10)] (aaJ (aj 6) (aj 3) (ZS c Y G)) (by decide) (fun _ _ _ _ _ => (qu (Cq.blk C) (dC (bJ (Cq.blk C) 9) (dC (bJ (Cq.blk C) 10) oH)))) (fun _ _ _ _ _ => jy) (fun _ _ _ _ _ => (Pg (Gk (pN (aj 9) (aj 4)) (pN (aj 7) (aj 10))) (fO (Cg c rfl) (bM 0)))) (blkOk_by rfl) (sw_true rfl rfl rfl rfl))
  (aM (zq 8 (sX (aj 7)) (aj 2))
  (bT (aaH (aj 6) (aj 8)))))))))
  (aM (zq 3 (fO (Cg c rfl) (bM 0)) (aj 2))
  (aM (Bo 0 (Cg c rfl) (aj 4))
  (bT (s_asg (zm (aG (fY (fO (sV c rfl) (bM 0)) (aj 2)) (aG (fY (fO (vQ c rfl) (bM 0)) (aj 1)) bL))) (qu C (dC (Zx (W := aeA) (fO (vQ c rfl) (bM 0)) (aj 1)) (dC (Zx (W := aeA) (fO (sV c rfl) (bM 0)) (aj 2)) oH))))))))))
theorem IW (c : bY K) (Y : K.In base) (G : base.Ns mainGlobals mg) : ∃ fd : FuncData, oR P w K mg base (T K) 1 (t8.adr K) fd t7 iG ∧ Bn K (T K) fd t7 3 [] (bh []) := by
 obtain ⟨fd, F⟩ := c.def_ 11 (d := t8) rfl
 exact ⟨fd, ⟨fn_sim F HY (DY c Y G), F.kp⟩, (mH (FunD.bindsN F fun _ _ _ _ _ _ us hl => match us, hl with | [_, _, _], _ => (by kernel_rfl)))⟩
theorem G5 (c : bY K) (Y : K.In base) (G : base.Ns mainGlobals mg) : Does P w K mg base (T K) 0 zu "Tableau.leaving" (defScope lA) (defBody lA) oE := by
 intro f cdv A outer s H E C
 exact (aM (jB C 2 JV)
  (aM (UV C (Od (fO (vQ c rfl) (bM 0)) (lV c Y G)) (qu C (dC (bJ C 3) (dC (bJ C 4) oH)))
  (aM (jB C 5 (fY (fY (fO (pM c rfl) (bM 0)) (aj 3)) (aj 1)))
  (aM (pZ (dG cmp_le (aj 5) aO)
  (bT Px)
  mG)
  (aM (pZ (dG Ua (aj 2) JV)
  (aM (jB C 2 (aj 3))
  (bT Px))
  mG)
  (aM (jB C 6 (Gk (pN (fY (fY (fO (pM c rfl) (bM 0)) (aj 3)) (sX aO)) (fY (fY (fO (pM c rfl) (bM 0)) (aj 2)) (aj 1))) (pN (fY (fY (fO (pM c rfl) (bM 0)) (aj 2)) (sX aO)) (aj 5))))
  (bT (pZ (uv (Ad (dG cmp_lt (aj 6) aO) (zj (uv (Gp (dG (cmp_eq C) (aj 6) (pD aO)) (Av (dG cmp_lt (aj 4) (fY (fO (vQ c rfl) (bM 0)) (aj 2)))))))))
  (bT (jB C 2 (aj 3)))
  mG)))))))
  (bT (s_ret (Lr 2)))))
theorem JC (c : bY K) (Y : K.In base) (G : base.Ns mainGlobals mg) : ∃ fd : FuncData, oR P w K mg base (T K) 1 (uD.adr K) fd uC jw ∧ Bn K (T K) fd uC 2 [] (bh []) := by
 obtain ⟨fd, F⟩ := c.def_ 12 (d := uD) rfl
 exact ⟨fd, ⟨fn_sim F Jx (G5 c Y G), F.kp⟩, (mH (FunD.bindsN F fun _ _ _ _ _ _ us hl => match us, hl with | [_, _], _ => (by kernel_rfl)))⟩
theorem V4 (c : bY K) (Y : K.In base) (G : base.Ns mainGlobals mg) {X : Cx} {k : Nat} (hk : 1 ≤ k) (hP : X.prog = P) (hw : X.w = w) (hK : X.K = K) (hm : X.mg = mg) (hb : X.base = base) : Af X (T K) k "entering" yV 0 [] (bh []) := by
 subst hP hw hK hm hb
 exact ⟨jt (.cons (by
  obtain ⟨fd, F, B⟩ := IV (P := X.prog) (w := X.w) c Y G
  exact ⟨_, _, fd, _, He.cls_ok (c.fact 26 (f := .he (.cls "Tableau")) rfl), He.meth_ok (c.fact 31 (f := .he (.meth "Tableau" "entering")) rfl), F, B, (by show _ ∉ fld 0; decide +kernel), Nat.le_trans (by decide) hk⟩) .nil)⟩
theorem V5 (c : bY K) (Y : K.In base) (G : base.Ns mainGlobals mg) {X : Cx} {k : Nat} (hk : 1 ≤ k) (hP : X.prog = P) (hw : X.w = w) (hK : X.K = K) (hm : X.mg = mg) (hb : X.base = base) : Af X (T K) k "exchange" yW 2 [] (bh []) := by
 subst hP hw hK hm hb
 exact ⟨jt (.cons (by
  obtain ⟨fd, F, B⟩ := IW (P := X.prog) (w := X.w) c Y G
  exact ⟨_, _, fd, _, He.cls_ok (c.fact 26 (f := .he (.cls "Tableau")) rfl), He.meth_ok (c.fact 32 (f := .he (.meth "Tableau" "exchange")) rfl), F, B, (by show _ ∉ fld 0; decide +kernel), Nat.le_trans (by decide) hk⟩) .nil)⟩
theorem Ym (c : bY K) (Y : K.In base) (G : base.Ns mainGlobals mg) {X : Cx} {k : Nat} (hk : 1 ≤ k) (hP : X.prog = P) (hw : X.w = w) (hK : X.K = K) (hm : X.mg = mg) (hb : X.base = base) : Af X (T K) k "leaving" Ai 1 [] (bh []) := by
 subst hP hw hK hm hb
 exact ⟨jt (.cons (by
  obtain ⟨fd, F, B⟩ := JC (P := X.prog) (w := X.w) c Y G
  exact ⟨_, _, fd, _, He.cls_ok (c.fact 26 (f := .he (.cls "Tableau")) rfl), He.meth_ok (c.fact 33 (f := .he (.meth "Tableau" "leaving")) rfl), F, B, (by show _ ∉ fld 0; decide +kernel), Nat.le_trans (by decide) hk⟩) .nil)⟩
theorem K9 (c : bY K) (Y : K.In base) (G : base.Ns mainGlobals mg) : Does P w K mg base (T K) 1 Dc "Tableau.step" (defScope oV) (defBody oV) qL := by
 intro f cdv A outer s H E C
 exact (aM (oK C 1 (Uq C (V4 (P := P) c Y G (by decide) rfl rfl rfl rfl rfl) (aj 0)))
  (aM (pZ (dG Ua (aj 1) JV)
  (bT (s_ret (km vC)))
  mG)
  (aM (zp (Mh C (V5 (P := P) c Y G (by decide) rfl rfl rfl rfl rfl) (aj 0) (aG (bZ (Mh C (Ym (P := P) c Y G (by decide) rfl rfl rfl rfl rfl) (aj 0) (aG (aj 1) bL))) (aG (aj 1) bL))))
  (bT (s_ret (km vC))))))
theorem Ot (c : bY K) (Y : K.In base) (G : base.Ns mainGlobals mg) : ∃ fd : FuncData, oR P w K mg base (T K) 2 (wU.adr K) fd wR iQ ∧ Bn K (T K) fd wR 1 [] (bh []) := by
 obtain ⟨fd, F⟩ := c.def_ 13 (d := wU) rfl
 exact ⟨fd, ⟨fn_sim F N7 (K9 c Y G), F.kp⟩, (mH (FunD.bindsN F fun _ _ _ _ _ _ us hl => match us, hl with | [_], _ => (by kernel_rfl)))⟩
theorem Ja (c : bY K) (Y : K.In base) (G : base.Ns mainGlobals mg) : Does P w K mg base (T K) 0 z8 "Tableau.amount" (defScope lW) (defBody lW) pq := by
 intro f cdv A outer s H E C
 exact (bT (s_ret (km (s_if (dG (Wz C) (aj 1) (pD (fO (vQ c rfl) (bM 0)))) (fY (fY (fO (pM c rfl) (bM 0)) (U4 C (fO (vQ c rfl) (bM 0)) (aj 1))) (sX aO)) aO))))
theorem Ld (c : bY K) (Y : K.In base) (G : base.Ns mainGlobals mg) : ∃ fd : FuncData, oR P w K mg base (T K) 1 (uR.adr K) fd uQ ig ∧ Bn K (T K) fd uQ 2 [] (bh []) := by
 obtain ⟨fd, F⟩ := c.def_ 14 (d := uR) rfl
 exact ⟨fd, ⟨fn_sim F Ko (Ja c Y G), F.kp⟩, (mH (FunD.bindsN F fun _ _ _ _ _ _ us hl => match us, hl with | [_, _], _ => (by kernel_rfl)))⟩
theorem JD (c : bY K) (Y : K.In base) (G : base.Ns mainGlobals mg) : Does P w K mg base (T K) 0 Bt "Tableau.price" (defScope mY) (defBody mY) pX := by
 intro f cdv A outer s H E C
 exact (bT (s_ret (km (s_if (dG (Wz C) (aj 1) (pD (fO (sV c rfl) (bM 0)))) (fY (fY (fO (pM c rfl) (bM 0)) (sX aO)) (U4 C (fO (sV c rfl) (bM 0)) (aj 1))) aO))))
theorem M9 (c : bY K) (Y : K.In base) (G : base.Ns mainGlobals mg) : ∃ fd : FuncData, oR P w K mg base (T K) 1 (vP.adr K) fd vM jx ∧ Bn K (T K) fd vM 2 [] (bh []) := by
 obtain ⟨fd, F⟩ := c.def_ 15 (d := vP) rfl
 exact ⟨fd, ⟨fn_sim F M5 (JD c Y G), F.kp⟩, (mH (FunD.bindsN F fun _ _ _ _ _ _ us hl => match us, hl with | [_, _], _ => (by kernel_rfl)))⟩
theorem adh (c : bY K) (Y : K.In base) (G : base.Ns mainGlobals mg) {X : Cx} {k : Nat} (hk : 2 ≤ k) (hP : X.prog = P) (hw : X.w = w) (hK : X.K = K) (hm : X.mg = mg) (hb : X.base = base) : Af X (T K) k "step" wg 0 [] (bh []) := by
 subst hP hw hK hm hb
 exact ⟨jt (.cons (by
  obtain ⟨fd, F, B⟩ := Ot (P := X.prog) (w := X.w) c Y G
  exact ⟨_, _, fd, _, He.cls_ok (c.fact 26 (f := .he (.cls "Tableau")) rfl), He.meth_ok (c.fact 34 (f := .he (.meth "Tableau" "step")) rfl), F, B, (by show _ ∉ fld 0; decide +kernel), Nat.le_trans (by decide) hk⟩) .nil)⟩
theorem abm (c : bY K) (Y : K.In base) (G : base.Ns mainGlobals mg) {X : Cx} {k : Nat} (hk : 1 ≤ k) (hP : X.prog = P) (hw : X.w = w) (hK : X.K = K) (hm : X.mg = mg) (hb : X.base = base) : Af X (T K) k "price" Im 1 [] (bh []) := by
 subst hP hw hK hm hb
 exact ⟨jt (.cons (by
  obtain ⟨fd, F, B⟩ := M9 (P := X.prog) (w := X.w) c Y G
  exact ⟨_, _, fd, _, He.cls_ok (c.fact 26 (f := .he (.cls "Tableau")) rfl), He.meth_ok (c.fact 35 (f := .he (.meth "Tableau" "price")) rfl), F, B, (by show _ ∉ fld 0; decide +kernel), Nat.le_trans (by decide) hk⟩) .nil)⟩
theorem ZW (c : bY K) (Y : K.In base) (G : base.Ns mainGlobals mg) {X : Cx} {k : Nat} (hk : 1 ≤ k) (hP : X.prog = P) (hw : X.w = w) (hK : X.K = K) (hm : X.mg = mg) (hb : X.base = base) : Af X (T K) k "amount" Df 1 [] (bh []) := by
 subst hP hw hK hm hb
 exact ⟨jt (.cons (by
  obtain ⟨fd, F, B⟩ := Ld (P := X.prog) (w := X.w) c Y G
  exact ⟨_, _, fd, _, He.cls_ok (c.fact 26 (f := .he (.cls "Tableau")) rfl), He.meth_ok (c.fact 36 (f := .he (.meth "Tableau" "amount")) rfl), F, B, (by show _ ∉ fld 0; decide +kernel), Nat.le_trans (by decide) hk⟩) .nil)⟩
theorem Yn (c : bY K) (Y : K.In base) (G : base.Ns mainGlobals mg) : Does P w K mg base (T K) 2 Ww "solve" (defScope Az) (defBody Az) G4 := by
 obtain ⟨fd_Tableau____init__, F_Tableau____init__, B_Tableau____init___0⟩ := IK (P := P) (w := w) c Y G
 obtain ⟨fd_shortened, F_shortened, B_shortened_0⟩ := Vt (P := P) (w := w) c Y G
 intro f cdv A outer s H E C
 exact (aM (jB C 2 acB)
  (aM (wL C (Ay (aj 0) (lV c Y G)) (qu C (dC (bJ C 3) (dC (bJ C 4) oH)))
  (bT (zp (aaD C (aj 2) (aj 4) (aj 3)))))
  (aM (oK C 5 (aaG C (aj 2) (Rh c Y G)))
  (aM (oK C 6 (lg bL))
  (aM (wL C (Ay (aj 1) (lV c Y G)) (qu C (dC (bJ C 3) (dC (bJ C 7) oH)))
  (bT (zp (Gu 6 (bZ (jo (bZ (lg (aG (yo (aj 7) (zH c Y G)) bL))) (bZ (oM C [("column", 4)] (uX (aj 5)) (by decide) (fun _ _ _ _ _ => (bJ (Cq.blk C) 4)) (fun _ _ _ _ _ => jy) (fun _ _ _ _ _ => (sX (dM 4 (aj 3)))) (blkOk_by rfl)))))))))
  (aM (zp (Gu 6 (bZ (jo (bZ (lg (aG aO bL))) (bZ (P0 (bZ (lg (aG aO bL))) (fZ (bM 5) (gj c Y G))))))))
  (aM (jB C 8 (aax C F_Tableau____init__ (by decide) B_Tableau____init___0 (Yj c Y G) (aG (aj 6) (aG (bZ (jo (bZ (P0 (bZ (lg (aG aO bL))) (fZ (bM 1) (gj c Y G)))) (bZ (lg (aG aO bL))))) (aG (bZ (jo (bZ (lg (aG aO bL))) (bZ (P0 (bZ (lg (aG aO bL))) (fZ (bM 5) (gj c Y G)))))) bL)))))
  (aM (s_while C 2147483648 (uv (Gp (dG (cmp_eq C) (fY (fY (fO (pM c rfl) (bM 8)) (sX aO)) (sX aO)) (pD aO)) (Av (zg (sW (Uq C (adh (P := P) c Y G (by decide) rfl rfl rfl rfl rfl) (aj 8)))))))
  (bT adQ))
  (aM (pZ (dG (cmp_eq C) (fY (fY (fO (pM c rfl) (bM 8)) (sX aO)) (sX aO)) (pD aO))
  (aM (oK C 9 (jo aO (fZ (bM 5) (gj c Y G))))
  (bT (s_ret (km (zm (aG Bj (aG (bZ (eQ C F_shortened (by decide) B_shortened_0 (K6 c Y G) (aG (bZ (oM C [("at", 3)] (lu (fZ (bM 1) (gj c Y G)) (iH c Y G)) (by decide) (fun _ _ _ _ _ => (bJ (Cq.blk C) 3)) (fun _ _ _ _ _ => jy) (fun _ _ _ _ _ => (bZ (Mh (Cq.blk C) (abm (P := P) c Y G (by decide) rfl rfl rfl rfl rfl) (aj 8) (aG (bZ (jo (aj 9) (aj 3))) bL)))) (blkOk_by rfl))) bL))) bL)))))))
  mG)
  (aM (oK C 10 (P0 (bZ (lg (aG aO bL))) (fZ (bM 0) (gj c Y G))))
  (aM (wL C (Ay (aj 5) (lV c Y G)) (qu C (dC (bJ C 3) (dC (bJ C 4) oH)))
  (bT (zq 10 (bZ (Mh C (ZW (P := P) c Y G (by decide) rfl rfl rfl rfl rfl) (aj 8) (aG (bZ (jo aO (aj 3))) bL))) (aaE C (aj 2) (aj 4)))))
  (bT (s_ret (km (zm (aG Bj (aG (bZ (eQ C F_shortened (by decide) B_shortened_0 (K6 c Y G) (aG (aj 10) bL))) bL)))))))))))))))))
theorem abn (c : bY K) (Y : K.In base) (G : base.Ns mainGlobals mg) : ∃ fd : FuncData, oR P w K mg base (T K) 3 (Q4.adr K) fd Q3 wj ∧ Bn K (T K) fd Q3 2 [] (bh []) := by
 obtain ⟨fd, F⟩ := c.def_ 16 (d := Q4) rfl
 exact ⟨fd, ⟨fn_sim F aar (Yn c Y G), F.kp⟩, (mH (FunD.bindsN F fun _ _ _ _ _ _ us hl => match us, hl with | [_, _], _ => (by kernel_rfl)))⟩
theorem Jb (c : bY K) (Y : K.In base) (G : base.Ns mainGlobals mg) : Does P w K mg base (T K) 0 z9 "_law_is_integer" (defScope lX) (defBody lX) pA := by
 intro f cdv A outer s H E C
 exact (bT (s_ret (km (adF (PB (Kw c) (aj 0) (Tu (t := "int") (zH c Y G)) (vG c Y G)) (adD (adE (PB (Kw c) (aj 0) (Tu (t := "bool") (adg c Y G)) (vG c Y G))))))))
theorem Le (c : bY K) (Y : K.In base) (G : base.Ns mainGlobals mg) : ∃ fd : FuncData, oR P w K mg base (T K) 1 (uV.adr K) fd uU lY ∧ Bn K (T K) fd uU 1 [] (bh []) := by
 obtain ⟨fd, F⟩ := c.def_ 17 (d := uV) rfl
 exact ⟨fd, ⟨fn_sim F Kr (Jb c Y G), F.kp⟩, (mH (FunD.bindsN F fun _ _ _ _ _ _ us hl => match us, hl with | [_], _ => (by kernel_rfl)))⟩
theorem G6 (c : bY K) (Y : K.In base) (G : base.Ns mainGlobals mg) : Does P w K mg base (T K) 1 zA "_law_is_solution" (defScope lB) (defBody lB) oF := by
 obtain ⟨fd__law_is_integer, F__law_is_integer, B__law_is_integer_0⟩ := Le (P := P) (w := w) c Y G
 intro f cdv A outer s H E C
 exact (aM (pZ (uv (Ad (Ph (zg (pD (PB (Kw c) (aj 0) (Tu (t := "tuple") (yJ c Y G)) (vG c Y G))))) (Ad (dG (Gn C) (fZ (bM 0) (gj c Y G)) (pD aO)) (zj (Ph (zg (pD (PB (Kw c) (dM 0 aO) (Tu (t := "tuple") (yJ c Y G)) (vG c Y G)))))))))
  (bT (s_ret (km vC)))
  mG)
  (aM (s_asg (aj 0) (qu C (dC (bJ C 3) (dC (bJ C 4) oH))))
  (aM (pZ (dG (Gn C) (bZ (oM C [("_law_k", 9)] (lu (fZ (bM 4) (gj c Y G)) (iH c Y G)) (by decide) (fun _ _ _ _ _ => (bJ (Cq.blk C) 9)) (fun _ _ _ _ _ => (Gr (uv (Ad (Ph (zg (sW (eQ (Cq.blk C) F__law_is_integer (by decide) B__law_is_integer_0 (K7 c Y G) (aG (dM 4 (aj 9)) bL))))) (zj (dG cmp_lt (dM 4 (aj 9)) aO)))))) (fun _ _ _ _ _ => (aj 9)) (blkOk_by rfl))) (sW (lg bL)))
  (bT (s_ret (km vC)))
  mG)
  (aM (pZ (dG (cmp_eq C) (aj 3) (pD Bj))
  (aM (QM C 5 [("_law_k", 9)] (lu (fZ (bM 4) (gj c Y G)) (iH c Y G)) (by decide) (fun _ _ _ _ _ => (bJ (Cq.blk C) 9)) (fun _ _ _ _ _ => (Gr (dG cmp_gt (dM 4 (aj 9)) aO))) (fun _ _ _ _ _ => (aj 9)) (blkOk_by rfl) (sw_true rfl rfl rfl rfl))
  (aM (pZ (uv (Ad (dG (Gn C) (fZ (bM 4) (gj c Y G)) (pD (fZ (bM 1) (gj c Y G)))) (zj (dG cmp_gt (fZ (bM 5) (gj c Y G)) (fZ (bM 2) (gj c Y G))))))
  (bT (s_ret (km vC)))
  mG)
  (aM (wL C (Ay (aj 2) (lV c Y G)) (qu C (dC (bJ C 6) (dC (bJ C 7) oH)))
  (aM (jB C 8 (Mq C (sW (oM C [("_law_k", 9)] (lu (fZ (bM 1) (gj c Y G)) (iH c Y G)) (by decide) (fun _ _ _ _ _ => (bJ (Cq.blk C) 9)) (fun _ _ _ _ _ => jy) (fun _ _ _ _ _ => (pN (fY (dM 1 (aj 9)) (aj 6)) (dM 4 (aj 9)))) (blkOk_by rfl))) (Qp c Y G)))
  (bT (pZ (uv (Ad (dG cmp_lt (aj 8) aO) (zj (uv (Gp (zg (bM 7)) (Av (dG (cmp_eq C) (aj 8) (pD aO))))))))
  (bT (s_ret (km vC)))
  mG))))
  (bT (s_ret (km vC))))))
  mG)
  (aM (pZ (uv (Ad (dG (Gn C) (aj 3) (pD Bj)) (zj (dG (Gn C) (fZ (bM 4) (gj c Y G)) (pD (fZ (bM 2) (gj c Y G)))))))
  (bT (s_ret (km vC)))
  mG)
  (aM (pZ (dG (cmp_eq C) (bZ (oM C [("_law_k", 9)] (lu (fZ (bM 2) (gj c Y G)) (iH c Y G)) (by decide) (fun _ _ _ _ _ => (bJ (Cq.blk C) 9)) (fun _ _ _ _ _ => (Gr (uv (Gp (zg (pD (dM 2 (aj 9)))) (Av (dG cmp_gt (dM 4 (aj 9)) aO)))))) (fun _ _ _ _ _ => (aj 9)) (blkOk_by rfl))) (sW (lg bL)))
  (bT (s_ret (km vC)))
  mG)
  (bT (s_ret (km (YQ (cmp_eq C) (bZ (oM C [("_law_one", 10)] (uX (aj 1)) (by decide) (fun _ _ _ _ _ => (bJ (Cq.blk C) 10)) (fun _ _ _ _ _ => (Gr (dG cmp_gt (Mq (Cq.blk C) (sW (oM (Cq.blk C) [("_law_k", 9)] (lu (fZ (bM 2) (gj c Y G)) (iH c Y G)) (by decide) (fun _ _ _ _ _ => (bJ (Cq.blk (Cq.blk C)) 9)) (fun _ _ _ _ _ => jy) (fun _ _ _ _ _ => (pN (dM 10 (aj 9)) (dM 4 (aj 9)))) (blkOk_by rfl))) (Qp c Y G)) aO))) (fun _ _ _ _ _ => (aj 10)) (blkOk_by rfl))) (sW (lg bL))))))))))))
theorem JF (c : bY K) (Y : K.In base) (G : base.Ns mainGlobals mg) : ∃ fd : FuncData, oR P w K mg base (T K) 2 (uF.adr K) fd uE fW ∧ Bn K (T K) fd uE 3 [] (bh []) := by
 obtain ⟨fd, F⟩ := c.def_ 18 (d := uF) rfl
 exact ⟨fd, ⟨fn_sim F Jy (G6 c Y G), F.kp⟩, (mH (FunD.bindsN F fun _ _ _ _ _ _ us hl => match us, hl with | [_, _, _], _ => (by kernel_rfl)))⟩
theorem abo (c : bY K) (Y : K.In base) (G : base.Ns mainGlobals mg) : Does P w K mg base (T K) 3 abX "law" (defScope Ml) (defBody Ml) Yh := by
 obtain ⟨fd__law_draw, F__law_draw, B__law_draw_0⟩ := rR (P := P) (w := w) c Y G
 obtain ⟨fd__law_is_solution, F__law_is_solution, B__law_is_solution_0⟩ := JF (P := P) (w := w) c Y G
 obtain ⟨fd__law_of, F__law_of, B__law_of_0⟩ := Yl (P := P) (w := w) c Y G
 obtain ⟨fd__law_source, F__law_source, B__law_source_0⟩ := Ri (P := P) (w := w) c Y G
 obtain ⟨fd__law_strict, F__law_strict, B__law_strict_0⟩ := Rk (P := P) (w := w) c Y G
 obtain ⟨fd__law_with_amounts, F__law_with_amounts, B__law_with_amounts_0⟩ := Iw (P := P) (w := w) c Y G
 obtain ⟨fd__law_with_weights, F__law_with_weights, B__law_with_weights_0⟩ := Iz (P := P) (w := w) c Y G
 obtain ⟨fd_solve, F_solve, B_solve_0⟩ := abn (P := P) (w := w) c Y G
 intro f cdv A outer s H E C
 exact (aM (wL C (lu (Wo C aO (aci C aO (fZ (bM 0) (gj c Y G)) (ae3 c Y G)) (ZV c Y G)) (iH c Y G)) (bJ C 1)
  (aM (jB C 2 (Ax (eQ C F__law_source (by decide) B__law_source_0 (Rc c Y G) (aG (aj 0) (aG (aj 1) bL)))))
  (aM (oK C 3 (jo aO (bZ (eQ C F__law_draw (by decide) B__law_draw_0 (fP c Y G) (aG (aj 2) (aG aO bL))))))
  (aM (oK C 4 (eQ C F__law_of (by decide) B__law_of_0 (Yk c Y G) (aG (aj 2) (aG (bZ (lg (aG aO (aG aO (aG aO (aG (JZ aO aO) (aG (JZ aO aO) bL))))))) bL))))
  (aM (oK C 5 (eQ C F__law_strict (by decide) B__law_strict_0 (Rg c Y G) (aG (aj 2) (aG (aj 3) bL))))
  (bT (wL C (uX (zm (aG Bj (aG Bj bL)))) (bJ C 6)
  (aM (oK C 7 (eQ C F__law_with_amounts (by decide) B__law_with_amounts_0 (Iu c Y G) (aG (aj 2) (aG (aj 3) (aG (aj 4) (aG (aj 5) bL))))))
  (aM (pZ (dG (cmp_eq C) (aj 6) (pD Bj))
  (bT (oK C 7 (eQ C F__law_with_weights (by decide) B__law_with_weights_0 (Iv c Y G) (aG (aj 2) (aG (aj 3) (aG (aj 4) (aG (aj 5) bL)))))))
  mG)
  (aM (QM C 8 [("_law_k", 15), ("_law_row", 16)] (Ay (aj 7) (lV c Y G)) (by decide) (fun _ _ _ _ _ => (qu (Cq.blk C) (dC (bJ (Cq.blk C) 15) (dC (bJ (Cq.blk C) 16) oH)))) (fun _ _ _ _ _ => jy) (fun _ _ _ _ _ => (RX (sW (oM (Cq.blk C) [("_law_value", 17)] (uX (aj 16)) (by decide) (fun _ _ _ _ _ => (bJ (Cq.blk (Cq.blk C)) 17)) (fun _ _ _ _ _ => jy) (fun _ _ _ _ _ => (pN (bZ (jo aO (aj 15))) (aj 17))) (blkOk_by rfl))) (yJ c Y G))) (blkOk_by rfl) (sw_true rfl rfl rfl rfl))
  (aM (oK C 9 (eQ C F__law_draw (by decide) B__law_draw_0 (fP c Y G) (aG (aj 2) (aG (bZ (jo (fZ (bM 8) (gj c Y G)) aO)) bL))))
  (aM (oK C 8 (jo (bZ (Wn 8 (Wl (aj 9)) Wk)) (bZ (Wn 8 Wk (Wl (aj 9))))))
  (aM (Y5 C 10 11 (Hz (oM C [("_law_row", 16)] (uX (aj 7)) (by decide) (fun _ _ _ _ _ => (bJ (Cq.blk C) 16)) (fun _ _ _ _ _ => jy) (fun _ _ _ _ _ => (RX (bM 16) (yJ c Y G))) (blkOk_by rfl)) (Hz (oM C [("_law_row", 16)] (uX (aj 8)) (by decide) (fun _ _ _ _ _ => (bJ (Cq.blk C) 16)) (fun _ _ _ _ _ => jy) (fun _ _ _ _ _ => (W7 (aj 16))) (blkOk_by rfl)) Ws)))
  (bT (wL C (uX (zm (aG (zm (aG (aj 10) (aG (aj 5) bL))) (aG (zm (aG (aj 8) (aG (aj 5) bL))) (aG (zm (aG (aj 11) (aG (W7 (aj 5)) bL))) bL))))) (qu C (dC (bJ C 12) (dC (bJ C 13) oH)))
  (aM (oK C 14 (eQ C F_solve (by decide) B_solve_0 (abl c Y G) (aG (bZ (ach (bM 12) (Rh c Y G))) (aG (aj 13) bL))))
  (bT (pZ (uv (Ad (Ph (zg (sW (eQ C F__law_is_solution (by decide) B__law_is_solution_0 (Jz c Y G) (aG (aj 14) (aG (aj 12) (aG (aj 13) bL))))))) (zj (dG (Gn C) (dM 14 aO) (bM 6)))))
  (bT (s_ret (km vC)))
  mG))))))))))))))))))
  (bT (s_ret (km vC))))
end
end L
namespace L
open PySem PySem.Spec L2 Pk GenP
theorem Ou {d : D} {fr : Fr} {h : Hh} {Q : Unit → Fr → Hh → Prop} {E : aH → Fr → Hh → Prop} : Wp (pP d fr h) Q E = Wp ((
 (aR 3)) d fr h) Q E := congrArg (fun m => Wp (m d fr h) Q E) pP.eq_1
theorem Ov {fr : Fr} {h : Hh} {Q : Bool → Fr → Hh → Prop} {E : aH → Fr → Hh → Prop} : Wp (pQ fr h) Q E = Wp ((
 (M.ret true)) fr h) Q E := congrArg (fun m => Wp (m fr h) Q E) pQ.eq_1
theorem Ow {fr : Fr} {h : Hh} {Q : D → Fr → Hh → Prop} {E : aH → Fr → Hh → Prop} : Wp (pU fr h) Q E = Wp ((
 (aq (fun h x y => (fX h x y).map .bl) (bG (bW 2 0 bR (bh []) (ak [(aa 0), (mC (.int 2))]) (ak []))) (mC (.int 1)))) fr h) Q E := congrArg (fun m => Wp (m fr h) Q E) pU.eq_1
theorem Ox {fr : Fr} {h : Hh} {Q : Fl → Fr → Hh → Prop} {E : aH → Fr → Hh → Prop} : Wp (sU fr h) Q E = Wp ((
 (aD (oN 2 (mC (.bl true)) (bG (bW 2 0 bR (bh []) (ak [(aa 0), (aa 1)]) (ak []))))
 (cO (aJ Bm (aN 2))))) fr h) Q E := congrArg (fun m => Wp (m fr h) Q E) sU.eq_1
theorem S9 {fr : Fr} {h : Hh} {Q : Fl → Fr → Hh → Prop} {E : aH → Fr → Hh → Prop} : Wp (tE fr h) Q E = Wp ((
 (aD (bu 2 (fM [3] (dO (aa 1)) pP pQ pU))
 sU)) fr h) Q E := congrArg (fun m => Wp (m fr h) Q E) tE.eq_1
theorem Qq {fr : Fr} {h : Hh} {Q : Fl → Fr → Hh → Prop} {E : aH → Fr → Hh → Prop} : Wp (qI fr h) Q E = Wp ((
 (cO (aq yj (bG (bW 2 0 bR (bh []) (ak [(aa 0), (bG (aq du (aq mF (mC (.int 2)) (aa 1)) (mC (.int 1))))]) (ak []))) (aa 1)))) fr h) Q E := congrArg (fun m => Wp (m fr h) Q E) qI.eq_1
theorem Ea {d : D} {fr : Fr} {h : Hh} {Q : Unit → Fr → Hh → Prop} {E : aH → Fr → Hh → Prop} : Wp (jM d fr h) Q E = Wp ((
 (aR 7)) d fr h) Q E := congrArg (fun m => Wp (m d fr h) Q E) jM.eq_1
theorem Eb {fr : Fr} {h : Hh} {Q : Bool → Fr → Hh → Prop} {E : aH → Fr → Hh → Prop} : Wp (jN fr h) Q E = Wp ((
 (M.ret true)) fr h) Q E := congrArg (fun m => Wp (m fr h) Q E) jN.eq_1
theorem Ec {fr : Fr} {h : Hh} {Q : D → Fr → Hh → Prop} {E : aH → Fr → Hh → Prop} : Wp (jO fr h) Q E = Wp ((
 (bG (bW 2 0 iK (bh []) (ak [(aa 0), (aa 2)]) (ak [])))) fr h) Q E := congrArg (fun m => Wp (m fr h) Q E) jO.eq_1
theorem Ed {fr : Fr} {h : Hh} {Q : Fl → Fr → Hh → Prop} {E : aH → Fr → Hh → Prop} : Wp (jP fr h) Q E = Wp ((
 (oJ (uw 4 (bG (fM [7] (dO (aa 1)) jM jN jO))))) fr h) Q E := congrArg (fun m => Wp (m fr h) Q E) jP.eq_1
theorem Ef {d : D} {fr : Fr} {h : Hh} {Q : Unit → Fr → Hh → Prop} {E : aH → Fr → Hh → Prop} : Wp (fB d fr h) Q E = Wp ((
 (dH 2 (aU (aR 9) (aU (aR 10) dJ)))) d fr h) Q E := congrArg (fun m => Wp (m d fr h) Q E) fB.eq_1
theorem Eh {fr : Fr} {h : Hh} {Q : Bool → Fr → Hh → Prop} {E : aH → Fr → Hh → Prop} : Wp (fD fr h) Q E = Wp ((
 (M.ret true)) fr h) Q E := congrArg (fun m => Wp (m fr h) Q E) fD.eq_1
theorem Ei {fr : Fr} {h : Hh} {Q : D → Fr → Hh → Prop} {E : aH → Fr → Hh → Prop} : Wp (fG fr h) Q E = Wp ((
 (aq mF (bU 10 (aa 7) aP) (bG (aq du (mC (.int 1)) (aa 9))))) fr h) Q E := congrArg (fun m => Wp (m fr h) Q E) fG.eq_1
theorem vf {fr : Fr} {h : Hh} {Q : Fl → Fr → Hh → Prop} {E : aH → Fr → Hh → Prop} : Wp (jQ fr h) Q E = Wp ((
 (aD (bu 8 (aq du (aJ pY (bU 3 (aa 7) aP)) (aq mF (bG (bW 2 0 bR (bh []) (ak [(aa 0), (mC (.int 3))]) (ak []))) (bG (bW 2 0 bR (bh []) (ak [(aa 0), (mC (.int 2))]) (ak []))))))
 (oJ (uw 6 (aq yj (aa 8) (aJ vD (fM [9, 10] (qb (aa 4)) fB fD fG))))))) fr h) Q E := congrArg (fun m => Wp (m fr h) Q E) jQ.eq_1
theorem Ek {fr : Fr} {h : Hh} {Q : Fl → Fr → Hh → Prop} {E : aH → Fr → Hh → Prop} : Wp (m9 fr h) Q E = Wp ((
 (aD (bu 6 (eU []))
 qR)) fr h) Q E := congrArg (fun m => Wp (m fr h) Q E) m9.eq_1
theorem JG {fr : Fr} {h : Hh} {Q : Fl → Fr → Hh → Prop} {E : aH → Fr → Hh → Prop} : Wp (mO fr h) Q E = Wp ((
 (aD (bu 4 (eU []))
 qT)) fr h) Q E := congrArg (fun m => Wp (m fr h) Q E) mO.eq_1
theorem El {d : D} {fr : Fr} {h : Hh} {Q : Unit → Fr → Hh → Prop} {E : aH → Fr → Hh → Prop} : Wp (jR d fr h) Q E = Wp ((
 (aR 10)) d fr h) Q E := congrArg (fun m => Wp (m d fr h) Q E) jR.eq_1
theorem En {fr : Fr} {h : Hh} {Q : Bool → Fr → Hh → Prop} {E : aH → Fr → Hh → Prop} : Wp (jT fr h) Q E = Wp ((
 (M.ret true)) fr h) Q E := congrArg (fun m => Wp (m fr h) Q E) jT.eq_1
theorem Eo {fr : Fr} {h : Hh} {Q : D → Fr → Hh → Prop} {E : aH → Fr → Hh → Prop} : Wp (jU fr h) Q E = Wp ((
 (bG (bW 2 0 bR (bh []) (ak [(aa 0), (mC (.int 4))]) (ak [])))) fr h) Q E := congrArg (fun m => Wp (m fr h) Q E) jU.eq_1
theorem vg {d : D} {fr : Fr} {h : Hh} {Q : Unit → Fr → Hh → Prop} {E : aH → Fr → Hh → Prop} : Wp (jV d fr h) Q E = Wp ((
 (aR 10)) d fr h) Q E := congrArg (fun m => Wp (m d fr h) Q E) jV.eq_1
theorem vh {fr : Fr} {h : Hh} {Q : Bool → Fr → Hh → Prop} {E : aH → Fr → Hh → Prop} : Wp (jW fr h) Q E = Wp ((
 (aJ D.tru (bU 3 (aa 10) aP))) fr h) Q E := congrArg (fun m => Wp (m fr h) Q E) jW.eq_1
theorem Ep {fr : Fr} {h : Hh} {Q : D → Fr → Hh → Prop} {E : aH → Fr → Hh → Prop} : Wp (jX fr h) Q E = Wp ((
 (aa 10)) fr h) Q E := congrArg (fun m => Wp (m fr h) Q E) jX.eq_1
theorem Es {d : D} {fr : Fr} {h : Hh} {Q : Unit → Fr → Hh → Prop} {E : aH → Fr → Hh → Prop} : Wp (jY d fr h) Q E = Wp ((
 (aR 10)) d fr h) Q E := congrArg (fun m => Wp (m d fr h) Q E) jY.eq_1
theorem Et {fr : Fr} {h : Hh} {Q : Bool → Fr → Hh → Prop} {E : aH → Fr → Hh → Prop} : Wp (jZ fr h) Q E = Wp ((
 (M.ret true)) fr h) Q E := congrArg (fun m => Wp (m fr h) Q E) jZ.eq_1
theorem Eu {fr : Fr} {h : Hh} {Q : D → Fr → Hh → Prop} {E : aH → Fr → Hh → Prop} : Wp (j5 fr h) Q E = Wp ((
 (bG (bW 2 0 iK (bh []) (ak [(aa 0), (aa 2)]) (ak [])))) fr h) Q E := congrArg (fun m => Wp (m fr h) Q E) j5.eq_1
theorem Ew {d : D} {fr : Fr} {h : Hh} {Q : Unit → Fr → Hh → Prop} {E : aH → Fr → Hh → Prop} : Wp (gJ d fr h) Q E = Wp ((
 (aR 10)) d fr h) Q E := congrArg (fun m => Wp (m d fr h) Q E) gJ.eq_1
theorem Ey {fr : Fr} {h : Hh} {Q : Bool → Fr → Hh → Prop} {E : aH → Fr → Hh → Prop} : Wp (gK fr h) Q E = Wp ((
 (M.ret true)) fr h) Q E := congrArg (fun m => Wp (m fr h) Q E) gK.eq_1
theorem Ez {fr : Fr} {h : Hh} {Q : D → Fr → Hh → Prop} {E : aH → Fr → Hh → Prop} : Wp (gM fr h) Q E = Wp ((
 (aq mF (bU 4 (aa 10) aP) (bU 8 (aa 10) aP))) fr h) Q E := congrArg (fun m => Wp (m fr h) Q E) gM.eq_1
theorem Cz {fr : Fr} {h : Hh} {Q : Fl → Fr → Hh → Prop} {E : aH → Fr → Hh → Prop} : Wp (jC fr h) Q E = Wp ((
 (aD (bu 8 (fM [10] (dO (aa 1)) jY jZ j5))
 (aD (bu 9 (aJ vD (fM [10] (dO (aa 1)) gJ gK gM)))
 (aD (oN 8 (aq yj (aq yj (bU 8 (aa 5) aP) (aa 9)) (aq mF (bG (bW 2 0 bR (bh []) (ak [(aa 0), (mC (.int 3))]) (ak []))) (bG (bW 2 0 bR (bh []) (ak [(aa 0), (mC (.int 2))]) (ak []))))) (aa 5))
 (oJ (uw 6 (aa 8))))))) fr h) Q E := congrArg (fun m => Wp (m fr h) Q E) jC.eq_1
theorem EY {fr : Fr} {h : Hh} {Q : Fl → Fr → Hh → Prop} {E : aH → Fr → Hh → Prop} : Wp (ni fr h) Q E = Wp ((
 (aD (bu 6 (eU []))
 qU)) fr h) Q E := congrArg (fun m => Wp (m fr h) Q E) ni.eq_1
theorem Fb {fr : Fr} {h : Hh} {Q : Fl → Fr → Hh → Prop} {E : aH → Fr → Hh → Prop} : Wp (nj fr h) Q E = Wp ((
 (aD (oN 4 (mC (.int 1)) (aa 5))
 ni)) fr h) Q E := congrArg (fun m => Wp (m fr h) Q E) nj.eq_1
theorem Fe {fr : Fr} {h : Hh} {Q : Fl → Fr → Hh → Prop} {E : aH → Fr → Hh → Prop} : Wp (nu fr h) Q E = Wp ((
 (aD (bu 5 (aq aP (bG (fM [10] (dO (aa 1)) jV jW jX)) (mC (.int 0))))
 nj)) fr h) Q E := congrArg (fun m => Wp (m fr h) Q E) nu.eq_1
theorem JH {fr : Fr} {h : Hh} {Q : Fl → Fr → Hh → Prop} {E : aH → Fr → Hh → Prop} : Wp (mQ fr h) Q E = Wp ((
 (aD (bu 4 (fM [10] (dO (aa 1)) jR jT jU))
 nu)) fr h) Q E := congrArg (fun m => Wp (m fr h) Q E) mQ.eq_1
theorem Ff {d : D} {fr : Fr} {h : Hh} {Q : Unit → Fr → Hh → Prop} {E : aH → Fr → Hh → Prop} : Wp (j6 d fr h) Q E = Wp ((
 (dH 2 (aU (aR 4) (aU (aR 5) dJ)))) d fr h) Q E := congrArg (fun m => Wp (m d fr h) Q E) j6.eq_1
theorem Fg {fr : Fr} {h : Hh} {Q : Bool → Fr → Hh → Prop} {E : aH → Fr → Hh → Prop} : Wp (j7 fr h) Q E = Wp ((
 (M.ret true)) fr h) Q E := congrArg (fun m => Wp (m fr h) Q E) j7.eq_1
theorem Fj {fr : Fr} {h : Hh} {Q : D → Fr → Hh → Prop} {E : aH → Fr → Hh → Prop} : Wp (j8 fr h) Q E = Wp ((
 (qY (aq du (aa 4) (bG (eU [(aa 5)]))))) fr h) Q E := congrArg (fun m => Wp (m fr h) Q E) j8.eq_1
theorem Fo {d : D} {fr : Fr} {h : Hh} {Q : Unit → Fr → Hh → Prop} {E : aH → Fr → Hh → Prop} : Wp (gQ d fr h) Q E = Wp ((
 (aR 6)) d fr h) Q E := congrArg (fun m => Wp (m d fr h) Q E) gQ.eq_1
theorem Fp {fr : Fr} {h : Hh} {Q : Bool → Fr → Hh → Prop} {E : aH → Fr → Hh → Prop} : Wp (gR fr h) Q E = Wp ((
 (M.ret true)) fr h) Q E := congrArg (fun m => Wp (m fr h) Q E) gR.eq_1
theorem Ft {fr : Fr} {h : Hh} {Q : D → Fr → Hh → Prop} {E : aH → Fr → Hh → Prop} : Wp (gU fr h) Q E = Wp ((
 (aJ (fun _ => fj) (aa 6))) fr h) Q E := congrArg (fun m => Wp (m fr h) Q E) gU.eq_1
theorem Fv {d : D} {fr : Fr} {h : Hh} {Q : Unit → Fr → Hh → Prop} {E : aH → Fr → Hh → Prop} : Wp (gY d fr h) Q E = Wp ((
 (aR 7)) d fr h) Q E := congrArg (fun m => Wp (m d fr h) Q E) gY.eq_1
theorem Fw {fr : Fr} {h : Hh} {Q : Bool → Fr → Hh → Prop} {E : aH → Fr → Hh → Prop} : Wp (g8 fr h) Q E = Wp ((
 (M.ret true)) fr h) Q E := congrArg (fun m => Wp (m fr h) Q E) g8.eq_1
theorem Fy {fr : Fr} {h : Hh} {Q : D → Fr → Hh → Prop} {E : aH → Fr → Hh → Prop} : Wp (ie fr h) Q E = Wp ((
 (bG (aq du (aJ cI (aN 3)) (aa 7)))) fr h) Q E := congrArg (fun m => Wp (m fr h) Q E) ie.eq_1
theorem FJ {fr : Fr} {h : Hh} {Q : Fl → Fr → Hh → Prop} {E : aH → Fr → Hh → Prop} : Wp (nA fr h) Q E = Wp ((
 (aD (oO 0 ir (qY (fM [7] (dO (aJ cI (aN 1))) gY g8 ie)))
 (oO 0 kJ (mC (.int 1))))) fr h) Q E := congrArg (fun m => Wp (m fr h) Q E) nA.eq_1
theorem FP {fr : Fr} {h : Hh} {Q : Fl → Fr → Hh → Prop} {E : aH → Fr → Hh → Prop} : Wp (nH fr h) Q E = Wp ((
 (aD (oO 0 d7 (qY (Gx (aJ cI (aN 3)))))
 nA)) fr h) Q E := congrArg (fun m => Wp (m fr h) Q E) nH.eq_1
theorem FQ {fr : Fr} {h : Hh} {Q : Fl → Fr → Hh → Prop} {E : aH → Fr → Hh → Prop} : Wp (nJ fr h) Q E = Wp ((
 (aD (oJ (Mg (aJ (cC di) (aN 0)) (qY (aq du (bG (fM [6] (rB (aa 3)) gQ gR gU)) (bG (eU [(mC (.int 0))]))))))
 nH)) fr h) Q E := congrArg (fun m => Wp (m fr h) Q E) nJ.eq_1
theorem JK {fr : Fr} {h : Hh} {Q : Fl → Fr → Hh → Prop} {E : aH → Fr → Hh → Prop} : Wp (mU fr h) Q E = Wp ((
 (aD (oO 0 di (qY (fM [4, 5] (Q6 (aa 1) (aa 2)) j6 j7 j8)))
 nJ)) fr h) Q E := congrArg (fun m => Wp (m fr h) Q E) mU.eq_1
theorem xZ {fr : Fr} {h : Hh} {Q : Fl → Fr → Hh → Prop} {E : aH → Fr → Hh → Prop} : Wp (eO fr h) Q E = Wp ((
 (CP [1, 2] (ak [(aa 2), (aq JX (aa 1) (aa 2))]))) fr h) Q E := congrArg (fun m => Wp (m fr h) Q E) eO.eq_1
theorem Oz {fr : Fr} {h : Hh} {Q : Fl → Fr → Hh → Prop} {E : aH → Fr → Hh → Prop} : Wp (pW fr h) Q E = Wp ((
 (aD (bu 1 (mC (.int 0)))
 uf)) fr h) Q E := congrArg (fun m => Wp (m fr h) Q E) pW.eq_1
theorem Ro {d : D} {fr : Fr} {h : Hh} {Q : Unit → Fr → Hh → Prop} {E : aH → Fr → Hh → Prop} : Wp (rJ d fr h) Q E = Wp ((
 (aR 2)) d fr h) Q E := congrArg (fun m => Wp (m d fr h) Q E) rJ.eq_1
theorem Rp {fr : Fr} {h : Hh} {Q : Bool → Fr → Hh → Prop} {E : aH → Fr → Hh → Prop} : Wp (rK fr h) Q E = Wp ((
 (M.ret true)) fr h) Q E := congrArg (fun m => Wp (m fr h) Q E) rK.eq_1
theorem Rr {fr : Fr} {h : Hh} {Q : D → Fr → Hh → Prop} {E : aH → Fr → Hh → Prop} : Wp (rO fr h) Q E = Wp ((
 (aq NP (aa 2) (aa 1))) fr h) Q E := congrArg (fun m => Wp (m fr h) Q E) rO.eq_1
theorem V6 {fr : Fr} {h : Hh} {Q : Fl → Fr → Hh → Prop} {E : aH → Fr → Hh → Prop} : Wp (u5 fr h) Q E = Wp ((
 (aD (bu 1 (bW 1 0 kW (bh []) (ak [(aa 0)]) (ak [])))
 (cO (aJ Bm (fM [2] (rB (aa 0)) rJ rK rO))))) fr h) Q E := congrArg (fun m => Wp (m fr h) Q E) u5.eq_1
theorem nZ {fr : Fr} {h : Hh} {Q : Fl → Fr → Hh → Prop} {E : aH → Fr → Hh → Prop} : Wp (nO fr h) Q E = Wp ((
 (fu (qZ (aq CG (aq aP (aq aP (aJ (cC di) (aN 0)) (aJ (fun _ => fj) (mC (.int 1)))) (aa 2)) (mC (.int 0))) (uA (aq CJ (aa 1) (mC .non)) (aq CG (aa 3) (aq aP (aJ (cC d7) (aN 0)) (aa 1)))))
 (bu 1 (aa 2))
 (M.ret .nx))) fr h) Q E := congrArg (fun m => Wp (m fr h) Q E) nO.eq_1
theorem JL {fr : Fr} {h : Hh} {Q : Fl → Fr → Hh → Prop} {E : aH → Fr → Hh → Prop} : Wp (mV fr h) Q E = Wp ((
 (aD (bu 1 (mC .non))
 qW)) fr h) Q E := congrArg (fun m => Wp (m fr h) Q E) mV.eq_1
theorem FT {d : D} {fr : Fr} {h : Hh} {Q : Unit → Fr → Hh → Prop} {E : aH → Fr → Hh → Prop} : Wp (fH d fr h) Q E = Wp ((
 (dH 2 (aU (aR 9) (aU (aR 10) dJ)))) d fr h) Q E := congrArg (fun m => Wp (m d fr h) Q E) fH.eq_1
theorem FW {fr : Fr} {h : Hh} {Q : Bool → Fr → Hh → Prop} {E : aH → Fr → Hh → Prop} : Wp (fJ fr h) Q E = Wp ((
 (M.ret true)) fr h) Q E := congrArg (fun m => Wp (m fr h) Q E) fJ.eq_1
theorem FZ {fr : Fr} {h : Hh} {Q : D → Fr → Hh → Prop} {E : aH → Fr → Hh → Prop} : Wp (fK fr h) Q E = Wp ((
 (aq NP (aq yj (aq mF (aa 9) (aa 4)) (aq mF (aa 7) (aa 10))) (aJ (cC kJ) (aN 0)))) fr h) Q E := congrArg (fun m => Wp (m fr h) Q E) fK.eq_1
theorem oh {fr : Fr} {h : Hh} {Q : Fl → Fr → Hh → Prop} {E : aH → Fr → Hh → Prop} : Wp (nQ fr h) Q E = Wp ((
 (aD (fu (aq fX (aa 5) (aN 1))
 (M.ret .ct)
 (M.ret .nx))
 (aD (bu 7 (bU 6 (aa 2) aP))
 (aD (fu (qZ (aq fX (aa 7) (mC (.int 0))) (aq fX (aa 4) (aJ (cC kJ) (aN 0))))
 (M.ret .ct)
 (M.ret .nx))
 (aD (bu 8 (Oe [9, 10] (GZ (aa 6) (aa 3)) fH fJ fK))
 (aD (oN 8 (aJ (fun _ => fj) (aa 7)) (aa 2))
 (Bb (aa 6) (aa 8)))))))) fr h) Q E := congrArg (fun m => Wp (m fr h) Q E) nQ.eq_1
theorem Ge {fr : Fr} {h : Hh} {Q : Fl → Fr → Hh → Prop} {E : aH → Fr → Hh → Prop} : Wp (nR fr h) Q E = Wp ((
 (aD (oO 0 kJ (aa 4))
 (Ka (rA [(aq aP (aJ (cC d7) (aN 0)) (aa 2)), (aq aP (aJ (cC ir) (aN 0)) (aa 1))]) (dH 2 (aU (Ah (aJ (cC ir) (aN 0)) (aa 1)) (aU (Ah (aJ (cC d7) (aN 0)) (aa 2)) dJ)))))) fr h) Q E := congrArg (fun m => Wp (m fr h) Q E) nR.eq_1
theorem Gf {fr : Fr} {h : Hh} {Q : Fl → Fr → Hh → Prop} {E : aH → Fr → Hh → Prop} : Wp (nW fr h) Q E = Wp ((
 (aD (oN 3 (aJ (cC kJ) (aN 0)) (aa 2))
 nR)) fr h) Q E := congrArg (fun m => Wp (m fr h) Q E) nW.eq_1
theorem Gg {fr : Fr} {h : Hh} {Q : Fl → Fr → Hh → Prop} {E : aH → Fr → Hh → Prop} : Wp (nY fr h) Q E = Wp ((
 (aD (bu 4 (bU 3 (aa 2) aP))
 qX)) fr h) Q E := congrArg (fun m => Wp (m fr h) Q E) nY.eq_1
theorem JM {fr : Fr} {h : Hh} {Q : Fl → Fr → Hh → Prop} {E : aH → Fr → Hh → Prop} : Wp (mW fr h) Q E = Wp ((
 (aD (bu 3 (aq aP (aJ (cC di) (aN 0)) (aa 1)))
 nY)) fr h) Q E := congrArg (fun m => Wp (m fr h) Q E) mW.eq_1
theorem jn {fr : Fr} {h : Hh} {Q : Fl → Fr → Hh → Prop} {E : aH → Fr → Hh → Prop} : Wp (oY fr h) Q E = Wp ((
 (aD (bu 5 (aq aP (aq aP (aJ (cC di) (aN 0)) (aa 3)) (aa 1)))
 (aD (fu (aq cLe (aa 5) (mC (.int 0)))
 (M.ret .ct)
 (M.ret .nx))
 (aD (fu (aq CJ (aa 2) (mC .non))
 (aD (bu 2 (aa 3))
 (M.ret .ct))
 (M.ret .nx))
 (aD (bu 6 (aq yj (aq mF (aq aP (aq aP (aJ (cC di) (aN 0)) (aa 3)) (aJ (fun _ => fj) (mC (.int 1)))) (aq aP (aq aP (aJ (cC di) (aN 0)) (aa 2)) (aa 1))) (aq mF (aq aP (aq aP (aJ (cC di) (aN 0)) (aa 2)) (aJ (fun _ => fj) (mC (.int 1)))) (aa 5))))
 (fu (uA (aq CG (aa 6) (mC (.int 0))) (qZ (aq fX (aa 6) (mC (.int 0))) (aq CG (aa 4) (aq aP (aJ (cC ir) (aN 0)) (aa 2)))))
 (bu 2 (aa 3))
 (M.ret .nx))))))) fr h) Q E := congrArg (fun m => Wp (m fr h) Q E) oY.eq_1
theorem Lf {fr : Fr} {h : Hh} {Q : Fl → Fr → Hh → Prop} {E : aH → Fr → Hh → Prop} : Wp (oE fr h) Q E = Wp ((
 (aD (bu 2 (mC .non))
 rP)) fr h) Q E := congrArg (fun m => Wp (m fr h) Q E) oE.eq_1
theorem Lg {fr : Fr} {h : Hh} {Q : Fl → Fr → Hh → Prop} {E : aH → Fr → Hh → Prop} : Wp (qJ fr h) Q E = Wp ((
 (aD (oJ (mZ 2 0 yW (bh []) (aa 0) (ak [(bG (mZ 1 0 Ai (bh []) (aa 0) (ak [(aa 1)]) (ak []))), (aa 1)]) (ak [])))
 (cO (mC (.bl true))))) fr h) Q E := congrArg (fun m => Wp (m fr h) Q E) qJ.eq_1
theorem zJ {fr : Fr} {h : Hh} {Q : Fl → Fr → Hh → Prop} {E : aH → Fr → Hh → Prop} : Wp (qK fr h) Q E = Wp ((
 (aD (fu (aq CJ (aa 1) (mC .non))
 (cO (mC (.bl false)))
 (M.ret .nx))
 qJ)) fr h) Q E := congrArg (fun m => Wp (m fr h) Q E) qK.eq_1
theorem Dh {fr : Fr} {h : Hh} {Q : Fl → Fr → Hh → Prop} {E : aH → Fr → Hh → Prop} : Wp (qL fr h) Q E = Wp ((
 (aD (bu 1 (mZ 0 0 yV (bh []) (aa 0) (ak []) (ak [])))
 qK)) fr h) Q E := congrArg (fun m => Wp (m fr h) Q E) qL.eq_1
theorem Ab {fr : Fr} {h : Hh} {Q : Fl → Fr → Hh → Prop} {E : aH → Fr → Hh → Prop} : Wp (pq fr h) Q E = Wp ((
 (cO (Gq (aq Dt (aa 1) (aJ (cC ir) (aN 0))) (aq aP (aq aP (aJ (cC di) (aN 0)) (zB (aJ (cC ir) (aN 0)) (aa 1))) (aJ (fun _ => fj) (mC (.int 1)))) (mC (.int 0))))) fr h) Q E := congrArg (fun m => Wp (m fr h) Q E) pq.eq_1
theorem Cj {fr : Fr} {h : Hh} {Q : Fl → Fr → Hh → Prop} {E : aH → Fr → Hh → Prop} : Wp (pX fr h) Q E = Wp ((
 (cO (Gq (aq Dt (aa 1) (aJ (cC d7) (aN 0))) (aq aP (aq aP (aJ (cC di) (aN 0)) (aJ (fun _ => fj) (mC (.int 1)))) (zB (aJ (cC d7) (aN 0)) (aa 1))) (mC (.int 0))))) fr h) Q E := congrArg (fun m => Wp (m fr h) Q E) pX.eq_1
theorem Qs {fr : Fr} {h : Hh} {Q : Fl → Fr → Hh → Prop} {E : aH → Fr → Hh → Prop} : Wp (wZ fr h) Q E = Wp ((
 (oJ (GF (aa 2) (aa 4) (aa 3)))) fr h) Q E := congrArg (fun m => Wp (m fr h) Q E) wZ.eq_1
theorem Yo {d : D} {fr : Fr} {h : Hh} {Q : Unit → Fr → Hh → Prop} {E : aH → Fr → Hh → Prop} : Wp (xf d fr h) Q E = Wp ((
 (aR 4)) d fr h) Q E := congrArg (fun m => Wp (m d fr h) Q E) xf.eq_1
theorem Yp {fr : Fr} {h : Hh} {Q : Bool → Fr → Hh → Prop} {E : aH → Fr → Hh → Prop} : Wp (xj fr h) Q E = Wp ((
 (M.ret true)) fr h) Q E := congrArg (fun m => Wp (m fr h) Q E) xj.eq_1
theorem Yq {fr : Fr} {h : Hh} {Q : D → Fr → Hh → Prop} {E : aH → Fr → Hh → Prop} : Wp (xq fr h) Q E = Wp ((
 (aJ (fun _ => fj) (bU 4 (aa 3) aP))) fr h) Q E := congrArg (fun m => Wp (m fr h) Q E) xq.eq_1
theorem Qt {fr : Fr} {h : Hh} {Q : Fl → Fr → Hh → Prop} {E : aH → Fr → Hh → Prop} : Wp (xF fr h) Q E = Wp ((
 (oJ (uw 6 (bG (aq du (bG (eU [(aJ pY (aa 7))])) (bG (fM [4] (rB (aa 5)) xf xj xq))))))) fr h) Q E := congrArg (fun m => Wp (m fr h) Q E) xF.eq_1
theorem Yr {fr : Fr} {h : Hh} {Q : Fl → Fr → Hh → Prop} {E : aH → Fr → Hh → Prop} : Wp (qM fr h) Q E = Wp ((
 (M.ret .nx)) fr h) Q E := congrArg (fun m => Wp (m fr h) Q E) qM.eq_1
theorem Ys {d : D} {fr : Fr} {h : Hh} {Q : Unit → Fr → Hh → Prop} {E : aH → Fr → Hh → Prop} : Wp (xG d fr h) Q E = Wp ((
 (aR 3)) d fr h) Q E := congrArg (fun m => Wp (m d fr h) Q E) xG.eq_1
theorem Yt {fr : Fr} {h : Hh} {Q : Bool → Fr → Hh → Prop} {E : aH → Fr → Hh → Prop} : Wp (xH fr h) Q E = Wp ((
 (M.ret true)) fr h) Q E := congrArg (fun m => Wp (m fr h) Q E) xH.eq_1
theorem Yu {fr : Fr} {h : Hh} {Q : D → Fr → Hh → Prop} {E : aH → Fr → Hh → Prop} : Wp (xJ fr h) Q E = Wp ((
 (bG (mZ 1 0 Im (bh []) (aa 8) (ak [(bG (aq du (aa 9) (aa 3)))]) (ak [])))) fr h) Q E := congrArg (fun m => Wp (m fr h) Q E) xJ.eq_1
theorem V7 {fr : Fr} {h : Hh} {Q : Fl → Fr → Hh → Prop} {E : aH → Fr → Hh → Prop} : Wp (u6 fr h) Q E = Wp ((
 (oN 10 (bG (mZ 1 0 Df (bh []) (aa 8) (ak [(bG (aq du (mC (.int 1)) (aa 3)))]) (ak []))) (GJ (aa 2) (aa 4)))) fr h) Q E := congrArg (fun m => Wp (m fr h) Q E) u6.eq_1
theorem Yv {fr : Fr} {h : Hh} {Q : Fl → Fr → Hh → Prop} {E : aH → Fr → Hh → Prop} : Wp (Aj fr h) Q E = Wp ((
 (aD (bu 10 (aq yr (bG (eU [(mC (.int 0))])) (aJ cI (aN 0))))
 Dz)) fr h) Q E := congrArg (fun m => Wp (m fr h) Q E) Aj.eq_1
theorem Qu {fr : Fr} {h : Hh} {Q : Fl → Fr → Hh → Prop} {E : aH → Fr → Hh → Prop} : Wp (xK fr h) Q E = Wp ((
 (aD (fu (aq fX (aq aP (aq aP (aJ (cC di) (aN 8)) (aJ (fun _ => fj) (mC (.int 1)))) (aJ (fun _ => fj) (mC (.int 1)))) (mC (.int 0)))
 (aD (bu 9 (aq du (mC (.int 1)) (aJ cI (aN 5))))
 (cO (rA [(mC (.str "weights")), (bG (bW 1 0 nM (bh []) (ak [(bG (fM [3] (dO (aJ cI (aN 1))) xG xH xJ))]) (ak [])))])))
 (M.ret .nx))
 Aj)) fr h) Q E := congrArg (fun m => Wp (m fr h) Q E) xK.eq_1
theorem Yw {fr : Fr} {h : Hh} {Q : Fl → Fr → Hh → Prop} {E : aH → Fr → Hh → Prop} : Wp (Ak fr h) Q E = Wp ((
 (aD (bu 8 (Gy 0 3 0 iz (bh []) (ak [(aa 6), (bG (aq du (bG (aq yr (bG (eU [(mC (.int 0))])) (aJ cI (aN 1)))) (bG (eU [(mC (.int 1))])))), (bG (aq du (bG (eU [(mC (.int 1))])) (bG (aq yr (bG (eU [(mC (.int 0))])) (aJ cI (aN 5))))))]) (ak [])))
 Io)) fr h) Q E := congrArg (fun m => Wp (m fr h) Q E) Ak.eq_1
theorem Yx {fr : Fr} {h : Hh} {Q : Fl → Fr → Hh → Prop} {E : aH → Fr → Hh → Prop} : Wp (Ao fr h) Q E = Wp ((
 (aD (oJ (uw 6 (bG (aq du (bG (eU [(mC (.int 0))])) (bG (aq yr (bG (eU [(mC (.int 1))])) (aJ cI (aN 5))))))))
 Ak)) fr h) Q E := congrArg (fun m => Wp (m fr h) Q E) Ao.eq_1
theorem Yy {fr : Fr} {h : Hh} {Q : Fl → Fr → Hh → Prop} {E : aH → Fr → Hh → Prop} : Wp (Aq fr h) Q E = Wp ((
 (aD (bu 6 (eU []))
 Ip)) fr h) Q E := congrArg (fun m => Wp (m fr h) Q E) Aq.eq_1
theorem Yz {fr : Fr} {h : Hh} {Q : Fl → Fr → Hh → Prop} {E : aH → Fr → Hh → Prop} : Wp (Ar fr h) Q E = Wp ((
 (aD (bu 5 (GP (aa 2)))
 Aq)) fr h) Q E := congrArg (fun m => Wp (m fr h) Q E) Ar.eq_1
theorem adi {fr : Fr} {h : Hh} {Q : Fl → Fr → Hh → Prop} {E : aH → Fr → Hh → Prop} : Wp (G4 fr h) Q E = Wp ((
 (aD (bu 2 Qe)
 Ir)) fr h) Q E := congrArg (fun m => Wp (m fr h) Q E) G4.eq_1
theorem Nb {fr : Fr} {h : Hh} {Q : Fl → Fr → Hh → Prop} {E : aH → Fr → Hh → Prop} : Wp (pA fr h) Q E = Wp ((
 (cO (LK (aq (tO qH) (aa 0) (mC (.ty "int"))) (LC (aq (tO qH) (aa 0) (mC (.ty "bool"))))))) fr h) Q E := congrArg (fun m => Wp (m fr h) Q E) pA.eq_1
theorem wk {d : D} {fr : Fr} {h : Hh} {Q : Unit → Fr → Hh → Prop} {E : aH → Fr → Hh → Prop} : Wp (iV d fr h) Q E = Wp ((
 (aR 9)) d fr h) Q E := congrArg (fun m => Wp (m d fr h) Q E) iV.eq_1
theorem wu {fr : Fr} {h : Hh} {Q : Bool → Fr → Hh → Prop} {E : aH → Fr → Hh → Prop} : Wp (iW fr h) Q E = Wp ((
 (uA (zP (aJ D.tru (bW 1 0 lY (bh []) (ak [(bU 4 (aa 9) aP)]) (ak [])))) (aq CG (bU 4 (aa 9) aP) (mC (.int 0))))) fr h) Q E := congrArg (fun m => Wp (m fr h) Q E) iW.eq_1
theorem wy {d : D} {fr : Fr} {h : Hh} {Q : Unit → Fr → Hh → Prop} {E : aH → Fr → Hh → Prop} : Wp (iY d fr h) Q E = Wp ((
 (aR 9)) d fr h) Q E := congrArg (fun m => Wp (m d fr h) Q E) iY.eq_1
theorem wz {fr : Fr} {h : Hh} {Q : Bool → Fr → Hh → Prop} {E : aH → Fr → Hh → Prop} : Wp (iZ fr h) Q E = Wp ((
 (aq zf (bU 4 (aa 9) aP) (mC (.int 0)))) fr h) Q E := congrArg (fun m => Wp (m fr h) Q E) iZ.eq_1
theorem G7 {fr : Fr} {h : Hh} {Q : D → Fr → Hh → Prop} {E : aH → Fr → Hh → Prop} : Wp (jc fr h) Q E = Wp ((
 (aa 9)) fr h) Q E := congrArg (fun m => Wp (m fr h) Q E) jc.eq_1
theorem G8 {d : D} {fr : Fr} {h : Hh} {Q : Unit → Fr → Hh → Prop} {E : aH → Fr → Hh → Prop} : Wp (je d fr h) Q E = Wp ((
 (aR 9)) d fr h) Q E := congrArg (fun m => Wp (m d fr h) Q E) je.eq_1
theorem G9 {fr : Fr} {h : Hh} {Q : Bool → Fr → Hh → Prop} {E : aH → Fr → Hh → Prop} : Wp (jf fr h) Q E = Wp ((
 (M.ret true)) fr h) Q E := congrArg (fun m => Wp (m fr h) Q E) jf.eq_1
theorem Hf {fr : Fr} {h : Hh} {Q : D → Fr → Hh → Prop} {E : aH → Fr → Hh → Prop} : Wp (jh fr h) Q E = Wp ((
 (aq mF (aq aP (bU 1 (aa 9) aP) (aa 6)) (bU 4 (aa 9) aP))) fr h) Q E := congrArg (fun m => Wp (m fr h) Q E) jh.eq_1
theorem vm {fr : Fr} {h : Hh} {Q : Fl → Fr → Hh → Prop} {E : aH → Fr → Hh → Prop} : Wp (j9 fr h) Q E = Wp ((
 (aD (bu 8 (aJ vD (fM [9] (dO (aJ cI (aN 1))) je jf jh)))
 (fu (uA (aq CG (aa 8) (mC (.int 0))) (qZ (aJ D.tru (aN 7)) (aq fX (aa 8) (mC (.int 0)))))
 (cO (mC (.bl false)))
 (M.ret .nx)))) fr h) Q E := congrArg (fun m => Wp (m fr h) Q E) j9.eq_1
theorem rW {d : D} {fr : Fr} {h : Hh} {Q : Unit → Fr → Hh → Prop} {E : aH → Fr → Hh → Prop} : Wp (lE d fr h) Q E = Wp ((
 (aR 9)) d fr h) Q E := congrArg (fun m => Wp (m d fr h) Q E) lE.eq_1
theorem rY {fr : Fr} {h : Hh} {Q : Bool → Fr → Hh → Prop} {E : aH → Fr → Hh → Prop} : Wp (lG fr h) Q E = Wp ((
 (qZ (aJ D.tru (bU 2 (aa 9) aP)) (aq zf (bU 4 (aa 9) aP) (mC (.int 0))))) fr h) Q E := congrArg (fun m => Wp (m fr h) Q E) lG.eq_1
theorem Hg {fr : Fr} {h : Hh} {Q : D → Fr → Hh → Prop} {E : aH → Fr → Hh → Prop} : Wp (lH fr h) Q E = Wp ((
 (aa 9)) fr h) Q E := congrArg (fun m => Wp (m fr h) Q E) lH.eq_1
theorem Hi {d : D} {fr : Fr} {h : Hh} {Q : Unit → Fr → Hh → Prop} {E : aH → Fr → Hh → Prop} : Wp (ji d fr h) Q E = Wp ((
 (aR 9)) d fr h) Q E := congrArg (fun m => Wp (m d fr h) Q E) ji.eq_1
theorem Hj {fr : Fr} {h : Hh} {Q : Bool → Fr → Hh → Prop} {E : aH → Fr → Hh → Prop} : Wp (jk fr h) Q E = Wp ((
 (M.ret true)) fr h) Q E := congrArg (fun m => Wp (m fr h) Q E) jk.eq_1
theorem Hk {fr : Fr} {h : Hh} {Q : D → Fr → Hh → Prop} {E : aH → Fr → Hh → Prop} : Wp (jm fr h) Q E = Wp ((
 (aq mF (bU 10 (aa 9) aP) (bU 4 (aa 9) aP))) fr h) Q E := congrArg (fun m => Wp (m fr h) Q E) jm.eq_1
theorem Hl {d : D} {fr : Fr} {h : Hh} {Q : Unit → Fr → Hh → Prop} {E : aH → Fr → Hh → Prop} : Wp (lJ d fr h) Q E = Wp ((
 (aR 10)) d fr h) Q E := congrArg (fun m => Wp (m d fr h) Q E) lJ.eq_1
theorem Hm {fr : Fr} {h : Hh} {Q : Bool → Fr → Hh → Prop} {E : aH → Fr → Hh → Prop} : Wp (lK fr h) Q E = Wp ((
 (aq zf (aJ vD (fM [9] (dO (aJ cI (aN 2))) ji jk jm)) (mC (.int 0)))) fr h) Q E := congrArg (fun m => Wp (m fr h) Q E) lK.eq_1
theorem Hn {fr : Fr} {h : Hh} {Q : Fl → Fr → Hh → Prop} {E : aH → Fr → Hh → Prop} : Wp (o5 fr h) Q E = Wp ((
 (aD (fu (aq fX (bG (fM [9] (dO (aJ cI (aN 2))) lE lG lH)) (eU []))
 (cO (mC (.bl false)))
 (M.ret .nx))
 (cO (aq (fun h x y => (fX h x y).map .bl) (bG (fM [10] (rB (aa 1)) lJ lK rQ)) (eU []))))) fr h) Q E := congrArg (fun m => Wp (m fr h) Q E) o5.eq_1
theorem Ho {fr : Fr} {h : Hh} {Q : Fl → Fr → Hh → Prop} {E : aH → Fr → Hh → Prop} : Wp (lL fr h) Q E = Wp ((
 (aD (fu (uA (aq zY (aa 3) (mC (.str "weights"))) (aq zY (aJ cI (aN 4)) (aJ cI (aN 2))))
 (cO (mC (.bl false)))
 (M.ret .nx))
 o5)) fr h) Q E := congrArg (fun m => Wp (m fr h) Q E) lL.eq_1
theorem Hq {fr : Fr} {h : Hh} {Q : Fl → Fr → Hh → Prop} {E : aH → Fr → Hh → Prop} : Wp (lM fr h) Q E = Wp ((
 (aD (fu (aq fX (aa 3) (mC (.str "amounts")))
 (aD (bu 5 (fM [9] (dO (aJ cI (aN 4))) iY iZ jc))
 (aD (fu (uA (aq zY (aJ cI (aN 4)) (aJ cI (aN 1))) (aq zf (aJ cI (aN 5)) (aJ cI (aN 2))))
 (cO (mC (.bl false)))
 (M.ret .nx))
 (aD (gq (qb (aa 2)) (dH 2 (aU (aR 6) (aU (aR 7) dJ))) j9)
 (cO (mC (.bl true))))))
 (M.ret .nx))
 lL)) fr h) Q E := congrArg (fun m => Wp (m fr h) Q E) lM.eq_1
theorem wA {fr : Fr} {h : Hh} {Q : Fl → Fr → Hh → Prop} {E : aH → Fr → Hh → Prop} : Wp (o7 fr h) Q E = Wp ((
 (aD (fu (aq zY (bG (fM [9] (dO (aJ cI (aN 4))) iV iW oZ)) (eU []))
 (cO (mC (.bl false)))
 (M.ret .nx))
 lM)) fr h) Q E := congrArg (fun m => Wp (m fr h) Q E) o7.eq_1
theorem wB {fr : Fr} {h : Hh} {Q : Fl → Fr → Hh → Prop} {E : aH → Fr → Hh → Prop} : Wp (o8 fr h) Q E = Wp ((
 (aD (Ka (aa 0) (dH 2 (aU (aR 3) (aU (aR 4) dJ))))
 o7)) fr h) Q E := congrArg (fun m => Wp (m fr h) Q E) o8.eq_1
theorem zK {fr : Fr} {h : Hh} {Q : Fl → Fr → Hh → Prop} {E : aH → Fr → Hh → Prop} : Wp (oF fr h) Q E = Wp ((
 (aD (fu (uA (zP (aJ D.tru (aq (tO qH) (aa 0) (mC (.ty "tuple"))))) (uA (aq zY (aJ cI (aN 0)) (mC (.int 2))) (zP (aJ D.tru (aq (tO qH) (bU 0 (mC (.int 1)) aP) (mC (.ty "tuple")))))))
 (cO (mC (.bl false)))
 (M.ret .nx))
 o8)) fr h) Q E := congrArg (fun m => Wp (m fr h) Q E) oF.eq_1
theorem abp {d : D} {fr : Fr} {h : Hh} {Q : Unit → Fr → Hh → Prop} {E : aH → Fr → Hh → Prop} : Wp (BJ d fr h) Q E = Wp ((
 (aR 17)) d fr h) Q E := congrArg (fun m => Wp (m d fr h) Q E) BJ.eq_1
theorem abq {fr : Fr} {h : Hh} {Q : Bool → Fr → Hh → Prop} {E : aH → Fr → Hh → Prop} : Wp (BK fr h) Q E = Wp ((
 (M.ret true)) fr h) Q E := congrArg (fun m => Wp (m fr h) Q E) BK.eq_1
theorem abr {fr : Fr} {h : Hh} {Q : D → Fr → Hh → Prop} {E : aH → Fr → Hh → Prop} : Wp (BP fr h) Q E = Wp ((
 (aq mF (bG (aq du (mC (.int 1)) (aa 15))) (aa 17))) fr h) Q E := congrArg (fun m => Wp (m fr h) Q E) BP.eq_1
theorem abt {d : D} {fr : Fr} {h : Hh} {Q : Unit → Fr → Hh → Prop} {E : aH → Fr → Hh → Prop} : Wp (yG d fr h) Q E = Wp ((
 (dH 2 (aU (aR 15) (aU (aR 16) dJ)))) d fr h) Q E := congrArg (fun m => Wp (m d fr h) Q E) yG.eq_1
theorem abu {fr : Fr} {h : Hh} {Q : Bool → Fr → Hh → Prop} {E : aH → Fr → Hh → Prop} : Wp (yH fr h) Q E = Wp ((
 (M.ret true)) fr h) Q E := congrArg (fun m => Wp (m fr h) Q E) yH.eq_1
theorem abv {fr : Fr} {h : Hh} {Q : D → Fr → Hh → Prop} {E : aH → Fr → Hh → Prop} : Wp (yI fr h) Q E = Wp ((
 (aJ Ag (fM [17] (rB (aa 16)) BJ BK BP))) fr h) Q E := congrArg (fun m => Wp (m fr h) Q E) yI.eq_1
theorem abw {d : D} {fr : Fr} {h : Hh} {Q : Unit → Fr → Hh → Prop} {E : aH → Fr → Hh → Prop} : Wp (BR d fr h) Q E = Wp ((
 (aR 16)) d fr h) Q E := congrArg (fun m => Wp (m d fr h) Q E) BR.eq_1
theorem abx {fr : Fr} {h : Hh} {Q : Bool → Fr → Hh → Prop} {E : aH → Fr → Hh → Prop} : Wp (BV fr h) Q E = Wp ((
 (M.ret true)) fr h) Q E := congrArg (fun m => Wp (m fr h) Q E) BV.eq_1
theorem aby {fr : Fr} {h : Hh} {Q : D → Fr → Hh → Prop} {E : aH → Fr → Hh → Prop} : Wp (BW fr h) Q E = Wp ((
 (aJ Ag (aN 16))) fr h) Q E := congrArg (fun m => Wp (m fr h) Q E) BW.eq_1
theorem abz {d : D} {fr : Fr} {h : Hh} {Q : Unit → Fr → Hh → Prop} {E : aH → Fr → Hh → Prop} : Wp (BX d fr h) Q E = Wp ((
 (aR 16)) d fr h) Q E := congrArg (fun m => Wp (m d fr h) Q E) BX.eq_1
theorem abA {fr : Fr} {h : Hh} {Q : Bool → Fr → Hh → Prop} {E : aH → Fr → Hh → Prop} : Wp (BZ fr h) Q E = Wp ((
 (M.ret true)) fr h) Q E := congrArg (fun m => Wp (m fr h) Q E) BZ.eq_1
theorem abB {fr : Fr} {h : Hh} {Q : D → Fr → Hh → Prop} {E : aH → Fr → Hh → Prop} : Wp (Ca fr h) Q E = Wp ((
 (aJ De (aa 16))) fr h) Q E := congrArg (fun m => Wp (m fr h) Q E) Ca.eq_1
theorem ZX {fr : Fr} {h : Hh} {Q : Fl → Fr → Hh → Prop} {E : aH → Fr → Hh → Prop} : Wp (zF fr h) Q E = Wp ((
 (aD (bu 14 (bW 2 0 wj (bh []) (ak [(bG (aJ Pn (aN 12))), (aa 13)]) (ak [])))
 (fu (uA (zP (aJ D.tru (bW 3 0 fW (bh []) (ak [(aa 14), (aa 12), (aa 13)]) (ak [])))) (aq zY (bU 14 (mC (.int 0)) aP) (aN 6)))
 (cO (mC (.bl false)))
 (M.ret .nx)))) fr h) Q E := congrArg (fun m => Wp (m fr h) Q E) zF.eq_1
theorem V8 {fr : Fr} {h : Hh} {Q : Fl → Fr → Hh → Prop} {E : aH → Fr → Hh → Prop} : Wp (yX fr h) Q E = Wp ((
 (aD (bu 8 (aq du (bG (bU 8 (yP (Pj (aa 9)) Uh) wH)) (bG (bU 8 (yP Uh (Pj (aa 9))) wH))))
 DG)) fr h) Q E := congrArg (fun m => Wp (m fr h) Q E) yX.eq_1
theorem V9 {fr : Fr} {h : Hh} {Q : Fl → Fr → Hh → Prop} {E : aH → Fr → Hh → Prop} : Wp (yZ fr h) Q E = Wp ((
 (aD (bu 9 (bW 2 0 bR (bh []) (ak [(aa 2), (bG (aq du (aJ cI (aN 8)) (mC (.int 1))))]) (ak [])))
 yX)) fr h) Q E := congrArg (fun m => Wp (m fr h) Q E) yZ.eq_1
theorem Wb {fr : Fr} {h : Hh} {Q : Fl → Fr → Hh → Prop} {E : aH → Fr → Hh → Prop} : Wp (u9 fr h) Q E = Wp ((
 (aD (bu 8 (fM [15, 16] (qb (aa 7)) yG yH yI))
 yZ)) fr h) Q E := congrArg (fun m => Wp (m fr h) Q E) u9.eq_1
theorem R9 {fr : Fr} {h : Hh} {Q : Fl → Fr → Hh → Prop} {E : aH → Fr → Hh → Prop} : Wp (zG fr h) Q E = Wp ((
 (aD (bu 7 (bW 4 0 iw (bh []) (ak [(aa 2), (aa 3), (aa 4), (aa 5)]) (ak [])))
 DK)) fr h) Q E := congrArg (fun m => Wp (m fr h) Q E) zG.eq_1
theorem Wc {fr : Fr} {h : Hh} {Q : Fl → Fr → Hh → Prop} {E : aH → Fr → Hh → Prop} : Wp (za fr h) Q E = Wp ((
 (aD (bu 4 (bW 2 0 v9 (bh []) (ak [(aa 2), (bG (eU [(mC (.int 1)), (mC (.int 2)), (mC (.int 9)), (aq Dm (mC (.int 10)) (mC (.int 6))), (aq Dm (mC (.int 10)) (mC (.int 25)))]))]) (ak [])))
 DN)) fr h) Q E := congrArg (fun m => Wp (m fr h) Q E) za.eq_1
theorem We {fr : Fr} {h : Hh} {Q : Fl → Fr → Hh → Prop} {E : aH → Fr → Hh → Prop} : Wp (zb fr h) Q E = Wp ((
 (aD (bu 3 (aq du (mC (.int 1)) (bG (bW 2 0 bR (bh []) (ak [(aa 2), (mC (.int 6))]) (ak [])))))
 za)) fr h) Q E := congrArg (fun m => Wp (m fr h) Q E) zb.eq_1
theorem Z0 {fr : Fr} {h : Hh} {Q : Fl → Fr → Hh → Prop} {E : aH → Fr → Hh → Prop} : Wp (Dg fr h) Q E = Wp ((
 (aD (bu 2 (qY (bW 2 0 lZ (bh []) (ak [(aa 0), (aa 1)]) (ak []))))
 zb)) fr h) Q E := congrArg (fun m => Wp (m fr h) Q E) Dg.eq_1
theorem Ru {ds : List D} {h : Hh} {Q : D → Fr → Hh → Prop} {E : aH → Fr → Hh → Prop} : Wp (qm ds h) Q E = Wp (dY 4 tE ds h) Q E := congrArg (fun m => Wp (m ds h) Q E) qm.eq_1
theorem OJ {ds : List D} {h : Hh} {Q : D → Fr → Hh → Prop} {E : aH → Fr → Hh → Prop} : Wp (iK ds h) Q E = Wp (dY 2 qI ds h) Q E := congrArg (fun m => Wp (m ds h) Q E) iK.eq_1
theorem Jc {ds : List D} {h : Hh} {Q : D → Fr → Hh → Prop} {E : aH → Fr → Hh → Prop} : Wp (iw ds h) Q E = Wp (dY 11 mO ds h) Q E := congrArg (fun m => Wp (m ds h) Q E) iw.eq_1
theorem Jd {ds : List D} {h : Hh} {Q : D → Fr → Hh → Prop} {E : aH → Fr → Hh → Prop} : Wp (iy ds h) Q E = Wp (dY 11 mQ ds h) Q E := congrArg (fun m => Wp (m ds h) Q E) iy.eq_1
theorem Je {ds : List D} {h : Hh} {Q : D → Fr → Hh → Prop} {E : aH → Fr → Hh → Prop} : Wp (iz ds h) Q E = Wp (dY 8 mU ds h) Q E := congrArg (fun m => Wp (m ds h) Q E) iz.eq_1
theorem Nf {ds : List D} {h : Hh} {Q : D → Fr → Hh → Prop} {E : aH → Fr → Hh → Prop} : Wp (kW ds h) Q E = Wp (dY 3 pW ds h) Q E := congrArg (fun m => Wp (m ds h) Q E) kW.eq_1
theorem Vu {ds : List D} {h : Hh} {Q : D → Fr → Hh → Prop} {E : aH → Fr → Hh → Prop} : Wp (nM ds h) Q E = Wp (dY 3 u5 ds h) Q E := congrArg (fun m => Wp (m ds h) Q E) nM.eq_1
theorem Jf {ds : List D} {h : Hh} {Q : D → Fr → Hh → Prop} {E : aH → Fr → Hh → Prop} : Wp (iD ds h) Q E = Wp (dY 4 mV ds h) Q E := congrArg (fun m => Wp (m ds h) Q E) iD.eq_1
theorem Jg {ds : List D} {h : Hh} {Q : D → Fr → Hh → Prop} {E : aH → Fr → Hh → Prop} : Wp (iG ds h) Q E = Wp (dY 11 mW ds h) Q E := congrArg (fun m => Wp (m ds h) Q E) iG.eq_1
theorem JN {ds : List D} {h : Hh} {Q : D → Fr → Hh → Prop} {E : aH → Fr → Hh → Prop} : Wp (jw ds h) Q E = Wp (dY 7 oE ds h) Q E := congrArg (fun m => Wp (m ds h) Q E) jw.eq_1
theorem Ck {ds : List D} {h : Hh} {Q : D → Fr → Hh → Prop} {E : aH → Fr → Hh → Prop} : Wp (iQ ds h) Q E = Wp (dY 2 qL ds h) Q E := congrArg (fun m => Wp (m ds h) Q E) iQ.eq_1
theorem zL {ds : List D} {h : Hh} {Q : D → Fr → Hh → Prop} {E : aH → Fr → Hh → Prop} : Wp (ig ds h) Q E = Wp (dY 2 pq ds h) Q E := congrArg (fun m => Wp (m ds h) Q E) ig.eq_1
theorem Ac {ds : List D} {h : Hh} {Q : D → Fr → Hh → Prop} {E : aH → Fr → Hh → Prop} : Wp (jx ds h) Q E = Wp (dY 2 pX ds h) Q E := congrArg (fun m => Wp (m ds h) Q E) jx.eq_1
theorem abC {ds : List D} {h : Hh} {Q : D → Fr → Hh → Prop} {E : aH → Fr → Hh → Prop} : Wp (wj ds h) Q E = Wp (dY 11 G4 ds h) Q E := congrArg (fun m => Wp (m ds h) Q E) wj.eq_1
theorem Lh {ds : List D} {h : Hh} {Q : D → Fr → Hh → Prop} {E : aH → Fr → Hh → Prop} : Wp (lY ds h) Q E = Wp (dY 1 pA ds h) Q E := congrArg (fun m => Wp (m ds h) Q E) lY.eq_1
theorem yc {ds : List D} {h : Hh} {Q : D → Fr → Hh → Prop} {E : aH → Fr → Hh → Prop} : Wp (fW ds h) Q E = Wp (dY 11 oF ds h) Q E := congrArg (fun m => Wp (m ds h) Q E) fW.eq_1
end L
namespace L
open PySem PySem.Spec L2 Pk
def Src (h : Hh) (n : Nat) (C : Int) : Prop := ∃ a b c : Int, h[n]? = some (.nl [.int a, .int b, .int c]) ∧ 0 ≤ b ∧ b < 2 ^ 33 ∧ 0 ≤ c ∧ c ≤ C
theorem log2_lt {i : Int} {k : Nat} (h : i.natAbs < 2 ^ k) (hk : 0 < k) : i.natAbs.log2 < k := by
 by_cases h0 : i.natAbs = 0
 · rw [h0]; simpa using hk
 · exact (Nat.log2_lt h0).mpr h
theorem yK {i j : Int} (h : 0 < j) : T8 i j = true := decide_eq_true h
end L
namespace L
open PySem PySem.Spec L2 Pk
abbrev Mem := List (Nat × D)
structure cU (h : Hh) (A : Mem) : Prop where
 at_ : ∀ p ∈ A, h[p.1]? = some p.2
 nd : (A.map (·.1)).Nodup
section
variable {h : Hh} {A B : Mem} {n i : Nat} {d d' : D}
theorem cU.nil (h : Hh) : cU h [] := { at_ := fun p hp => absurd hp alo, nd := List.nodup_nil }
theorem cU.get (H : cU h A) (e : A[i]? = some (n, d)) : h[n]? = some d := H.at_ (n, d) (ald e)
theorem cU.perm (H : cU h A) (p : A.Perm B) : cU h B := ⟨fun q hq => H.at_ q (p.mem_iff.mpr hq), (p.map _).nodup_iff.mp H.nd⟩
theorem cU.right (H : cU h (A ++ B)) : cU h B := ⟨fun q hq => H.at_ q (List.mem_append_right _ hq), by
 have := H.nd
 rw [alj] at this
 exact (List.nodup_append.mp this).2.1⟩
theorem cU.left (H : cU h (A ++ B)) : cU h A := ⟨fun q hq => H.at_ q (List.mem_append_left _ hq), by
 have := H.nd
 rw [alj] at this
 exact (List.nodup_append.mp this).1⟩
theorem cU.lt (H : cU h A) {p : Nat × D} (hp : p ∈ A) : p.1 < h.length := (List.getElem?_eq_some_iff.mp (H.at_ p hp)).1
theorem cU.set (H : cU h A) (i : Nat) (e : A[i]? = some (n, d)) (d' : D) : cU (h.set n d') (A.set i (n, d')) := by
 have hi : i < A.length := (List.getElem?_eq_some_iff.mp e).1
 have hn : n < h.length := H.lt (p := (n, d)) (ald e)
 have ek : (A.set i (n, d')).map (·.1) = A.map (·.1) := by
  rw [List.map_set]
  have : (A.map (·.1))[i]? = some n := by rw [ak5, e]; rfl
  obtain ⟨hj, q⟩ := List.getElem?_eq_some_iff.mp this
  show (A.map (·.1)).set i n = _
  rw [← q]
  exact List.set_getElem_self hj
 refine ⟨fun p hp => ?_, by rw [ek]; exact H.nd⟩
 obtain ⟨j, hj, ej⟩ := List.getElem_of_mem hp
 have hj' : j < A.length := by rwa [ak8] at hj
 by_cases c : i = j
 · subst c
   rw [List.getElem_set_self] at ej
   rw [← ej]
   exact ak9 hn
 · rw [List.getElem_set_ne c] at ej
   have hm : p ∈ A := by rw [← ej]; exact alm hj'
   have hne : n ≠ p.1 := fun z => by
    have n1 : (A.map (·.1))[i]? = some n := by rw [ak5, e]; rfl
    have n2 : (A.map (·.1))[j]? = some p.1 := by rw [ak5, akX hj', ej]; rfl
    rw [← z] at n2
    exact c (Nv H.nd n1 n2)
   rw [ak7 hne]
   exact H.at_ p hm
theorem cU.app (H : cU h A) (d : D) : cU (h ++ [d]) ((h.length, d) :: A) := by
 refine ⟨fun p hp => ?_, ?_⟩
 · rcases List.mem_cons.mp hp with rfl | hp
   · rw [ali (Nat.le_refl _), Nat.sub_self]
     rfl
   · rw [alk (H.lt hp)]
     exact H.at_ p hp
 · rw [akY, List.nodup_cons]
   refine ⟨fun z => ?_, H.nd⟩
   obtain ⟨q, hq, e⟩ := List.mem_map.mp z
   have := H.lt hq
   have e : q.1 = h.length := e
   omega
theorem cU.upd {h' : Hh} (H : cU h ((n, d) :: A)) (e : h'[n]? = some d') (hk : ∀ k, k ≠ n → h'[k]? = h[k]?) : cU h' ((n, d') :: A) := by
 refine ⟨fun p hp => ?_, H.nd⟩
 rcases List.mem_cons.mp hp with rfl | hp
 · exact e
 · rw [hk p.1 fun z => ?_]
   · exact H.at_ p (alb _ hp)
   · have := H.nd
     rw [akY, List.nodup_cons] at this
     exact this.1 (by show n ∈ _; rw [← z]; exact List.mem_map_of_mem hp)
theorem perm_swap {X Y Z : Mem} : (X ++ (Y ++ Z)).Perm (Y ++ (X ++ Z)) := by
 rw [← aln, ← aln]
 exact List.perm_append_comm.append_right Z
end
theorem adk {l : List Int} {i : Nat} {t : Int} {j : Int} (hj : j = (i : Int)) (e : l[i]? = some t) : atI (l.map D.int) j = some (.int t) := by
 subst hj
 have hl := (List.getElem?_eq_some_iff.mp e).1
 unfold atI
 have : ixN (l.map D.int).length (i : Int) = some i := by
  unfold ixN
  rw [akW, if_pos (by omega), if_pos (by omega)]
  congr 1
 rw [this]
 simp [e]
theorem Wf {h : Hh} {ns : List Int} {k : Nat} (hk : k ≤ 62) : ∃ a b, lZ [.kl (ns.map .int), .int k] h = .ok (.nl [.int a, .int b, .int 0]) [] h ∧ 0 ≤ b ∧ b < 2 ^ 33 := by
 have p18 : QL 10 18 = true := by decide
 have b3 : 3 ≤ big := by decide
 have c1 : uz 15485863 (k : Int) = true := by
  have l2 : ((15485863 : Int)).natAbs.log2 < 64 := log2_lt (by decide) (by decide)
  have l1 : ((k : Int)).natAbs.log2 < 64 := log2_lt (by omega) (by decide)
  exact decide_eq_true (by omega)
 have main : ∀ v : Int, (if (k : Int) < ns.length then aP h (.kl (ns.map .int)) (.int k) = some (.int v) else v = 0) → ∃ a b, lZ [.kl (ns.map .int), .int k] h = .ok (.nl [.int a, .int b, .int 0]) [] h ∧ 0 ≤ b ∧ b < 2 ^ 33 := fun v hv => by
  have hb0 : 0 ≤ v % 2147483629 := Int.emod_nonneg _ (by decide)
  have hb1 : v % 2147483629 < 2147483629 := Int.emod_lt_of_pos _ (by decide)
  refine ⟨if (1000000000000000000 : Int) ≤ (if v < 0 then -v else v) then (if v < 0 then -v else v) else 0, v % 2147483629 + 15485863 * (k : Int) + 7919, ?_, by omega, by omega⟩
  by_cases hl : (k : Int) < ns.length
  · rw [if_pos hl] at hv
    have hl' : k < ns.length := by omega
    by_cases hbig : (1000000000000000000 : Int) ≤ (if v < 0 then -v else v)
    · simp [lZ, dY, tD, sS, startF, aD, bu, Gq, aq, aa, D.own, M.bind, M.ret, M.opt, aJ, cI, aN, D.its, D.der, cInt, hl, hl', bU, pF, hv, mC, NQ, tM, p18, hbig, cO, eU, ak, bG, du, D.fz, pY, yK, c1, b3]
    · simp [lZ, dY, tD, sS, startF, aD, bu, Gq, aq, aa, D.own, M.bind, M.ret, M.opt, aJ, cI, aN, D.its, D.der, cInt, hl, hl', bU, pF, hv, mC, NQ, tM, p18, hbig, cO, eU, ak, bG, du, D.fz, pY, yK, c1, b3]
  · rw [if_neg hl] at hv
    subst hv
    have hl' : ¬ k < ns.length := by omega
    simp [lZ, dY, tD, sS, startF, aD, bu, Gq, aq, aa, D.own, M.bind, M.ret, M.opt, aJ, cI, aN, D.its, D.der, cInt, hl, hl', mC, NQ, tM, p18, cO, eU, ak, bG, du, D.fz, pY, yK, c1, b3]
 by_cases hl : (k : Int) < ns.length
 · have e : ns[k]? = some (ns[k]'(by omega)) := akX _
   exact main _ (by rw [if_pos hl]; exact adk rfl e)
 · exact main 0 (by rw [if_neg hl])
theorem cU.mid {h : Hh} {X G Y : Mem} (H : cU h (X ++ (G ++ Y))) : cU h (X ++ Y) := (H.perm perm_swap).right
theorem Src.up {h : Hh} {n : Nat} {C C' : Int} (S : Src h n C) (hC : C ≤ C') : Src h n C' := by
 obtain ⟨a, b, c, q1, q2, q3, q4, q5⟩ := S
 exact ⟨a, b, c, q1, q2, q3, q4, by omega⟩
end L
namespace L
open PySem PySem.Spec L2 Pk
structure Jh (n : Nat) (h h' : Hh) : Prop where
 len : h'.length = h.length
 at_ : ∀ k, k ≠ n → h'[k]? = h[k]?
theorem Jh.refl (n : Nat) (h : Hh) : Jh n h h := ⟨rfl, fun _ _ => rfl⟩
theorem Jh.trans {n : Nat} {h h' h2 : Hh} (a : Jh n h h') (b : Jh n h' h2) : Jh n h h2 := ⟨b.len.trans a.len, fun k hk => (b.at_ k hk).trans (a.at_ k hk)⟩
theorem ae4 {n : Nat} {h : Hh} (x : D) : Jh n h (h.set n x) := ⟨ak8, fun k hk => ak7 (Ne.symm hk)⟩
def Ji (hB h : Hh) (n : Nat) (C : Int) : Prop := Src h n C ∧ Jh n hB h
theorem Ji.up {hB h : Hh} {n : Nat} {C C' : Int} (S : Ji hB h n C) (hC : C ≤ C') : Ji hB h n C' := ⟨S.1.up hC, S.2⟩
theorem Src.u {h : Hh} {n : Nat} {C : Int} (S : Src h n C) : Ji h h n C := ⟨S, Jh.refl n h⟩
theorem Qv {hB : Hh} {h : Hh} {n : Nat} {C m : Int} (S : Ji hB h n C) (hC : C ≤ 100000) (hm : 0 < m) (hl : m < 2 ^ 200) :
 ∃ r h', bR [.ref n, .int m] h = .ok (.int r) [] h' ∧ Ji hB h' n (C + 1) ∧ 0 ≤ r ∧ r < m := by
 obtain ⟨⟨a, b, c, e, b0, b1, c0, c1⟩, U⟩ := S
 have hn : n < h.length := (List.getElem?_eq_some_iff.mp e).1
 have hml : m.natAbs.log2 < 9000 := by
  refine Nat.lt_of_lt_of_le (log2_lt (k := 200) ?_ (by decide)) (by decide)
  omega
 by_cases ha : 0 < a
 · refine ⟨a % m, h.set n (.nl [.int (a / m), .int b, .int c]), ?_, ⟨⟨a / m, b, c, by rw [ak9 hn], b0, b1, c0, by omega⟩, U.trans (ae4 _)⟩, Int.emod_nonneg _ (by omega), Int.emod_lt_of_pos _ hm⟩
   simp [bR, dY, yU, yF, yE, yD, startF, aD, fu, M.bind, M.ret, M.opt, aq, bU, pF, aN, mC, aP, D.its, D.der, e, atI, ixN, cInt, ha, bu, aJ, pY, aa, D.own, tM, T8, hm, oN, cQ, pG, JW, hml, cO, uh]
 · have z1 : (b + 32452843 * (c + 1)).natAbs < 2 ^ 64 := by omega
   generalize hx : (b + 32452843 * (c + 1)) ^ 3 % 2305843009213693921 = x
   have hx0 : 0 ≤ x := by rw [← hx]; exact Int.emod_nonneg _ (by decide)
   have hx1 : x < 2305843009213693921 := by rw [← hx]; exact Int.emod_lt_of_pos _ (by decide)
   have z2 : (x + 49979687 * (c + 1)).natAbs < 2 ^ 64 := by omega
   have l1 : (c + 1).natAbs.log2 < 64 := log2_lt (by omega) (by decide)
   have l2 : ((32452843 : Int)).natAbs.log2 < 64 := log2_lt (by decide) (by decide)
   have l3 : ((49979687 : Int)).natAbs.log2 < 64 := log2_lt (by decide) (by decide)
   have l4 : ((4096 : Int)).natAbs.log2 < 9000 := Nat.lt_trans (log2_lt (k := 64) (by decide) (by decide)) (by decide)
   have c1' : uz 32452843 (c + 1) = true := decide_eq_true (by omega)
   have c2' : uz 49979687 (c + 1) = true := decide_eq_true (by omega)
   have c3' : QL (b + 32452843 * (c + 1)) 3 = true := by
    unfold QL
    rw [decide_eq_true z1]
    rfl
   have c4' : QL (x + 49979687 * (c + 1)) 2 = true := by
    unfold QL
    rw [decide_eq_true z2]
    rfl
   have c5' : JW ((x + 49979687 * (c + 1)) ^ 2 % 2305843009213693951) 4096 = true := by
    unfold JW
    rw [decide_eq_true l4]
    rfl
   refine ⟨((x + 49979687 * (c + 1)) ^ 2 % 2305843009213693951) / 4096 % m, h.set n (.nl [.int a, .int b, .int (c + 1)]), ?_, ⟨⟨a, b, c + 1, by rw [ak9 hn], b0, b1, by omega, by omega⟩, U.trans (ae4 _)⟩, Int.emod_nonneg _ (by omega), Int.emod_lt_of_pos _ hm⟩
   have ha' : decide (0 < a) = false := decide_eq_false ha
   have e2 : ∀ v : D, (h.set n v)[n]? = some v := fun v => ak9 hn
   simp [bR, dY, yU, yF, yE, yD, startF, aD, fu, M.bind, M.ret, M.opt, aq, bU, pF, aN, mC, aP, D.its, D.der, e, atI, ixN, cInt, ha', bu, aJ, pY, aa, D.own, tM, oN, cQ, pG, cO, uh, bG, D.fz, du, e2, c1', c2', c3', c4', c5', yK, hm, hx]
theorem abD {hB : Hh} {h : Hh} {n : Nat} {C : Int} {l : List D} (S : Ji hB h n C) (hC : C ≤ 100000) (h0 : 0 < l.length) (hl : l.length ≤ 1000) :
 ∃ i d h', i < l.length ∧ l[i]? = some d ∧ v9 [.ref n, .fl l] h = .ok d [] h' ∧ Ji hB h' n (C + 1) := by
 obtain ⟨r, h', e, S', r0, r1⟩ := Qv (m := (l.length : Int)) S hC (by omega) (by omega)
 have hi : r.toNat < l.length := by omega
 refine ⟨r.toNat, l[r.toNat], h', hi, akX hi, ?_, S'⟩
 have er : ((r.toNat : Nat) : Int) = r := Int.toNat_of_nonneg r0
 simp [v9, dY, KZ, startF, cO, bU, pF, aN, bG, bW, ak, M.bind, M.ret, M.opt, aa, D.own, D.fz, aJ, cI, D.its, D.der, bh, e, qC, aP, atI, ixN, r0, r1, hi]
def d8 (F : Mem) (h : Hh) (n : Nat) (C : Int) : Prop := ∃ a b c : Int, cU h ((n, .nl [.int a, .int b, .int c]) :: F) ∧ 0 ≤ b ∧ b < 2 ^ 33 ∧ 0 ≤ c ∧ c ≤ C
section
variable {F : Mem} {h : Hh} {n : Nat} {C : Int}
theorem d8.src (S : d8 F h n C) : Src h n C := by
 obtain ⟨a, b, c, H, q1, q2, q3, q4⟩ := S
 exact ⟨a, b, c, H.get (i := 0) rfl, q1, q2, q3, q4⟩
theorem d8.up {C' : Int} (S : d8 F h n C) (hC : C ≤ C') : d8 F h n C' := by
 obtain ⟨a, b, c, H, q1, q2, q3, q4⟩ := S
 exact ⟨a, b, c, H, q1, q2, q3, by omega⟩
theorem d8.go {h' : Hh} {C' : Int} (S : d8 F h n C) (U : Ji h h' n C') : d8 F h' n C' := by
 obtain ⟨a, b, c, H, q1, q2, q3, q4⟩ := S
 obtain ⟨⟨a', b', c', e, r1, r2, r3, r4⟩, U⟩ := U
 exact ⟨a', b', c', H.upd e U.at_, r1, r2, r3, r4⟩
theorem vH {m : Int} (S : d8 F h n C) (hC : C ≤ 100000) (hm : 0 < m) (hl : m < 2 ^ 200) : ∃ r h', bR [.ref n, .int m] h = .ok (.int r) [] h' ∧ d8 F h' n (C + 1) ∧ 0 ≤ r ∧ r < m := by
 obtain ⟨r, h', e, U, r0, r1⟩ := Qv S.src.u hC hm hl
 exact ⟨r, h', e, S.go U, r0, r1⟩
theorem ofF {l : List D} (S : d8 F h n C) (hC : C ≤ 100000) (h0 : 0 < l.length) (hl : l.length ≤ 1000) : ∃ d h', d ∈ l ∧ v9 [.ref n, .fl l] h = .ok d [] h' ∧ d8 F h' n (C + 1) := by
 obtain ⟨i, d, h', _, hi, e, U⟩ := abD S.src.u hC h0 hl
 exact ⟨d, h', ald hi, e, S.go U⟩
end
end L
namespace L
def au : Nat → (Nat → Int) → Int
 | 0, _ => 0
 | n + 1, f => au n f + f n
theorem bD {f g : Nat → Int} : ∀ {n : Nat}, (∀ k, k < n → f k = g k) → au n f = au n g
 | 0, _ => rfl
 | n + 1, h => by
   unfold au
   rw [bD (fun k hk => h k (Nat.lt_succ_of_lt hk)), h n (Nat.lt_succ_self n)]
theorem il {f : Nat → Int} {n : Nat} (h : ∀ k, k < n → f k = 0) : au n f = 0 := by
 induction n with
 | zero => rfl
 | succ n ih =>
   unfold au
   rw [ih fun k hk => h k (Nat.lt_succ_of_lt hk), h n (Nat.lt_succ_self n)]
   rfl
theorem yL (f g : Nat → Int) : ∀ n : Nat, au n (fun k => f k + g k) = au n f + au n g
 | 0 => rfl
 | n + 1 => by
   unfold au
   rw [yL f g n]
   show au n f + au n g + (f n + g n) = _
   omega
theorem kY (a : Int) (f : Nat → Int) : ∀ n : Nat, au n (fun k => a * f k) = a * au n f
 | 0 => by unfold au; omega
 | n + 1 => by
   unfold au
   rw [kY a f n, Int.mul_add]
theorem iI {f : Nat → Int} {n c : Nat} (hc : c < n) (h : ∀ k, k < n → k ≠ c → f k = 0) : au n f = f c := by
 induction n with
 | zero => omega
 | succ n ih =>
   unfold au
   by_cases e : c = n
   · subst e
     rw [il fun k hk => h k (Nat.lt_succ_of_lt hk) (Nat.ne_of_lt hk)]
     omega
   · rw [ih (by omega) fun k hk => h k (Nat.lt_succ_of_lt hk), h n (Nat.lt_succ_self n) (fun z => e z.symm)]
     omega
theorem O4 {f : Nat → Int} {n a b : Nat} (hb : b < n) (ab : a < b) (h : ∀ k, k < n → k ≠ a → k ≠ b → f k = 0) : au n f = f a + f b := by
 induction n with
 | zero => omega
 | succ n ih =>
   unfold au
   by_cases e : b = n
   · subst e
     rw [iI ab fun k hk ka => h k (Nat.lt_succ_of_lt hk) ka (Nat.ne_of_lt hk)]
   · rw [ih (by omega) fun k hk => h k (Nat.lt_succ_of_lt hk), h n (Nat.lt_succ_self n) (by omega) (by omega)]
     omega
abbrev Mx := Nat → Nat → Int
def minor (A : Mx) (k : Nat) : Mx := fun c r => A (if c < k then c else c + 1) (r + 1)
def sgn (k : Nat) : Int := if k % 2 = 0 then 1 else -1
theorem abE (k : Nat) : sgn (k + 1) = -sgn k := by
 unfold sgn
 by_cases h : k % 2 = 0
 · rw [if_pos h, if_neg (by omega)]
 · rw [if_neg h, if_pos (by omega)]
   rfl
def det : Nat → Mx → Int
 | 0, _ => 1
 | m + 1, A => au (m + 1) fun k => sgn k * A k 0 * det m (minor A k)
theorem Di : ∀ {m : Nat} {A B : Mx}, (∀ c r, c < m → r < m → A c r = B c r) → det m A = det m B
 | 0, _, _, _ => rfl
 | m + 1, A, B, h => by
   unfold det
   refine bD fun k hk => ?_
   rw [h k 0 hk (Nat.succ_pos m), Di (A := minor A k) (B := minor B k) fun c r hc hr => ?_]
   unfold minor
   by_cases q : c < k
   · rw [if_pos q]
     exact h c (r + 1) (by omega) (by omega)
   · rw [if_neg q]
     exact h (c + 1) (r + 1) (by omega) (by omega)
def upd {α : Type} (A : Nat → α) (c : Nat) (v : α) : Nat → α := fun k => if k = c then v else A k
theorem pB {α : Type} (A : Nat → α) (c : Nat) (v : α) : upd A c v c = v := if_pos rfl
theorem upd_ne {α : Type} (A : Nat → α) {c k : Nat} (v : α) (h : k ≠ c) : upd A c v k = A k := if_neg h
theorem ph {α : Type} (A : Nat → α) {c e : Nat} (h : c ≠ e) (v w : α) : upd (upd A c v) e w = upd (upd A e w) c v := by
 funext k
 unfold upd
 by_cases h1 : k = c
 · by_cases h2 : k = e
   · exact absurd (h1.symm.trans h2) h
   · rw [if_neg h2, if_pos h1, if_pos h1]
 · by_cases h2 : k = e
   · rw [if_pos h2, if_neg h1, if_pos h2]
   · rw [if_neg h2, if_neg h1, if_neg h1, if_neg h2]
theorem upd_self {α : Type} (A : Nat → α) (c : Nat) : upd A c (A c) = A := by
 funext k
 unfold upd
 by_cases h : k = c
 · rw [if_pos h, h]
 · rw [if_neg h]
theorem Cm (A : Mx) (c : Nat) (v : Nat → Int) : minor (upd A c v) c = minor A c := by
 funext k r
 unfold minor upd
 by_cases h : k < c
 · rw [if_pos h, if_neg (by omega)]
 · rw [if_neg h, if_neg (by omega)]
theorem Cp (A : Mx) {c k : Nat} (h : k < c) (v : Nat → Int) : minor (upd A c v) k = upd (minor A k) (c - 1) (fun r => v (r + 1)) := by
 funext x r
 unfold minor upd
 by_cases h1 : x < k
 · rw [if_pos h1, if_neg (by omega), if_neg (by omega)]
   simp only [h1, if_true]
 · rw [if_neg h1]
   by_cases h2 : x + 1 = c
   · rw [if_pos h2, if_pos (by omega)]
   · rw [if_neg h2, if_neg (by omega)]
     simp only [h1, if_false]
theorem Cr (A : Mx) {c k : Nat} (h : c < k) (v : Nat → Int) : minor (upd A c v) k = upd (minor A k) c (fun r => v (r + 1)) := by
 funext x r
 unfold minor upd
 by_cases h1 : x < k
 · rw [if_pos h1]
   by_cases h2 : x = c
   · rw [if_pos h2, if_pos h2]
   · rw [if_neg h2, if_neg h2]
     simp only [h1, if_true]
 · rw [if_neg h1, if_neg (by omega), if_neg (by omega)]
   simp only [h1, if_false]
theorem uO : ∀ {m : Nat} (A : Mx) {c : Nat} (hc : c < m) (u v : Nat → Int), det m (upd A c fun r => u r + v r) = det m (upd A c u) + det m (upd A c v)
 | 0, _, _, h, _, _ => by omega
 | m + 1, A, c, hc, u, v => by
   unfold det
   rw [← yL]
   refine bD fun k hk => ?_
   by_cases e : k = c
   · subst e
     rw [pB, pB, pB, Cm, Cm, Cm, Int.mul_add, Int.add_mul]
   · rw [upd_ne _ _ e, upd_ne _ _ e, upd_ne _ _ e]
     by_cases q : k < c
     · rw [Cp _ q, Cp _ q, Cp _ q, uO (minor A k) (by omega) (fun r => u (r + 1)) (fun r => v (r + 1)), Int.mul_add]
     · rw [Cr _ (by omega), Cr _ (by omega), Cr _ (by omega), uO (minor A k) (by omega) (fun r => u (r + 1)) (fun r => v (r + 1)), Int.mul_add]
theorem yM : ∀ {m : Nat} (A : Mx) {c : Nat} (hc : c < m) (a : Int) (u : Nat → Int), det m (upd A c fun r => a * u r) = a * det m (upd A c u)
 | 0, _, _, h, _, _ => by omega
 | m + 1, A, c, hc, a, u => by
   unfold det
   rw [← kY]
   refine bD fun k hk => ?_
   by_cases e : k = c
   · subst e
     rw [pB, pB, Cm, Cm]
     grind
   · rw [upd_ne _ _ e, upd_ne _ _ e]
     by_cases q : k < c
     · rw [Cp _ q, Cp _ q, yM (minor A k) (by omega) a (fun r => u (r + 1))]
       grind
     · rw [Cr _ (by omega), Cr _ (by omega), yM (minor A k) (by omega) a (fun r => u (r + 1))]
       grind
theorem MK {m : Nat} (A : Mx) {c : Nat} (hc : c < m) (x : Nat → Int) (V : Nat → Nat → Int) : ∀ n : Nat, det m (upd A c fun r => au n fun i => x i * V i r) = au n fun i => x i * det m (upd A c (V i))
 | 0 => by
   have e : (upd A c fun r => au 0 fun i => x i * V i r) = upd A c fun r => 0 * (0 : Int) := by
    congr 1
   rw [e, yM A hc 0 (fun _ => 0), Int.zero_mul]
   rfl
 | n + 1 => by
   show det m (upd A c fun r => (au n fun i => x i * V i r) + x n * V n r) = _
   rw [uO A hc, MK A hc x V n, yM A hc]
   rfl
theorem MN : ∀ {m : Nat} (A : Mx) {c : Nat} (hc : c + 1 < m) (e : A c = A (c + 1)), det m A = 0
 | 0, _, _, h, _ => by omega
 | m + 1, A, c, hc, e => by
   unfold det
   rw [O4 (a := c) (b := c + 1) hc (Nat.lt_succ_self c) fun k hk h1 h2 => ?_]
   · have em : minor A c = minor A (c + 1) := by
      funext x r
      unfold minor
      by_cases h1 : x < c
      · rw [if_pos h1, if_pos (by omega)]
      · rw [if_neg h1]
        by_cases h2 : x = c
        · rw [if_pos (by omega), h2, e]
        · rw [if_neg (by omega)]
     rw [em, e, abE]
     grind
   · have : det m (minor A k) = 0 := by
      by_cases q : k < c
      · refine MN (minor A k) (c := c - 1) (by omega) ?_
        funext r
        unfold minor
        rw [if_neg (by omega), if_neg (by omega), show c - 1 + 1 = c by omega, e]
      · refine MN (minor A k) (c := c) (by omega) ?_
        funext r
        unfold minor
        rw [if_pos (by omega), if_pos (by omega), e]
     rw [this, Int.mul_zero]
theorem abF {m : Nat} (A : Mx) {c : Nat} (hc : c + 1 < m) (u v : Nat → Int) : det m (upd (upd A c u) (c + 1) v) = -det m (upd (upd A c v) (c + 1) u) := by
 have n : c ≠ c + 1 := by omega
 have z : ∀ w, det m (upd (upd A c w) (c + 1) w) = 0 := fun w => MN _ hc (by rw [upd_ne _ _ n, pB, pB])
 have h := z fun r => u r + v r
 rw [uO _ hc, ph _ n, uO _ (by omega), ph _ n, uO _ (by omega), ph _ n.symm, ph _ n.symm, ph _ n.symm, ph _ n.symm, z, z] at h
 omega
theorem Vv {m : Nat} : ∀ (g : Nat) (A : Mx) {a b : Nat} (hb : b < m) (hg : b = a + g + 1) (e : A a = A b), det m A = 0
 | 0, A, a, b, hb, hg, e => by
   subst hg
   exact MN A hb e
 | g + 1, A, a, b, hb, hg, e => by
   have n : b - 1 ≠ b := by omega
   have es : A = upd (upd A (b - 1) (A (b - 1))) (b - 1 + 1) (A b) := by
    rw [upd_self, show b - 1 + 1 = b by omega, upd_self]
   rw [es, abF A (by omega)]
   rw [Vv g (upd (upd A (b - 1) (A b)) (b - 1 + 1) (A (b - 1))) (a := a) (b := b - 1) (by omega) (by omega) ?_]
   · rfl
   · rw [upd_ne _ _ (by omega), upd_ne _ _ (by omega), upd_ne _ _ (by omega), pB, e]
theorem MP {m : Nat} (A : Mx) {a b : Nat} (ha : a < m) (hb : b < m) (n : a ≠ b) (e : A a = A b) : det m A = 0 := by
 by_cases h : a < b
 · exact Vv (b - a - 1) A hb (by omega) e
 · exact Vv (a - b - 1) A ha (by omega) e.symm
theorem ae5 {m : Nat} (A : Mx) {a b : Nat} (ha : a < m) (hb : b < m) (n : a ≠ b) (u v : Nat → Int) : det m (upd (upd A a u) b v) = -det m (upd (upd A a v) b u) := by
 have z : ∀ w, det m (upd (upd A a w) b w) = 0 := fun w => MP _ ha hb n (by rw [upd_ne _ _ n, pB, pB])
 have h := z fun r => u r + v r
 rw [uO _ hb, ph _ n, uO _ ha, ph _ n, uO _ ha, ph _ n.symm, ph _ n.symm, ph _ n.symm, ph _ n.symm, z, z] at h
 omega
theorem Xn : ∀ m : Nat, det m (fun c r => if c = r then 1 else 0) = 1
 | 0 => rfl
 | m + 1 => by
   unfold det
   have e : det m (minor (fun c r => if c = r then 1 else 0) 0) = 1 := by
    rw [Di (B := fun c r => if c = r then 1 else 0) fun c r hc hr => ?_, Xn m]
    unfold minor
    simp
   rw [iI (c := 0) (Nat.succ_pos m) fun k hk h => ?_]
   · rw [e]
     rfl
   · simp only [h, if_false, Int.mul_zero, Int.zero_mul]
def Lj : Nat → Nat
 | 0 => 1
 | n + 1 => (n + 1) * Lj n
theorem Jj {f : Nat → Int} {b : Nat} : ∀ {n : Nat}, (∀ k, k < n → (f k).natAbs ≤ b) → (au n f).natAbs ≤ n * b
 | 0, _ => by
   unfold au
   simp
 | n + 1, h => by
   have h1 := Jj (n := n) fun k hk => h k (Nat.lt_succ_of_lt hk)
   have h2 := h n (Nat.lt_succ_self n)
   unfold au
   rw [Nat.succ_mul]
   omega
theorem sgn_abs (k : Nat) : (sgn k).natAbs = 1 := by
 unfold sgn
 by_cases h : k % 2 = 0
 · rw [if_pos h]
   rfl
 · rw [if_neg h]
   rfl
theorem Xo {W : Nat} : ∀ {m : Nat} {A : Mx}, (∀ c r, c < m → r < m → (A c r).natAbs ≤ W) → (det m A).natAbs ≤ Lj m * W ^ m
 | 0, _, _ => by
   unfold det Lj
   simp
 | m + 1, A, h => by
   unfold det Lj
   have e : ((m + 1) * Lj m) * W ^ (m + 1) = (m + 1) * (W * (Lj m * W ^ m)) := by
    rw [Nat.pow_succ]
    grind
   rw [e]
   refine Jj fun k hk => ?_
   rw [Int.natAbs_mul, Int.natAbs_mul, sgn_abs, Nat.one_mul]
   refine Nat.mul_le_mul (h k 0 hk (Nat.succ_pos m)) (Xo fun c r hc hr => ?_)
   unfold minor
   split
   · exact h c (r + 1) (by omega) (by omega)
   · exact h (c + 1) (r + 1) (by omega) (by omega)
end L
namespace L
structure Tb where
 d : Int
 T : Nat → Nat → Int
 bs : Nat → Nat
 out : Nat → Nat
section
variable {V : Mx} {M n : Nat}
structure Tb.Ok (V : Mx) (M n : Nat) (t : Tb) : Prop where
 dp : 0 < t.d
 dt : det M (fun i => V (t.bs i)) = t.d
 lin : ∀ l, l ≤ n → ∀ r, r < M → t.d * V (t.out l) r = au M fun i => t.T i l * V (t.bs i) r
def Tb.piv (t : Tb) (a q : Nat) : Tb where
 d := t.T a q
 T := fun k l => if k = a then (if l = q then t.d else t.T a l) else (if l = q then -t.T k q else (t.T k l * t.T a q - t.T k q * t.T a l) / t.d)
 bs := upd t.bs a (t.out q)
 out := upd t.out q (t.bs a)
theorem abG (f g : Nat → Int) (n : Nat) : au n (fun k => f k - g k) = au n f - au n g := by
 have h := yL (fun k => f k - g k) g n
 have e : au n (fun k => f k - g k + g k) = au n f := bD fun k _ => by omega
 rw [e] at h
 omega
theorem Cu (f : Nat → Int) (v : Int) : ∀ {n c : Nat}, c < n → au n (upd f c v) = au n f - f c + v
 | 0, _, h => by omega
 | n + 1, c, h => by
   unfold au
   by_cases e : c = n
   · subst e
     rw [pB, bD (g := f) fun k hk => upd_ne f v (Nat.ne_of_lt hk)]
     omega
   · rw [upd_ne f v (fun z => e z.symm), Cu f v (by omega)]
     omega
theorem zM (a : Nat → Int) (b : Nat → Int) (T : Nat → Nat → Int) (M : Nat) : ∀ n : Nat, au n (fun l => a l * au M (fun i => T i l * b i)) = au M fun i => au n (fun l => T i l * a l) * b i
 | 0 => by
   show 0 = _
   rw [il fun k _ => ?_]
   unfold au
   exact Int.zero_mul _
 | n + 1 => by
   have e := zM a b T M n
   show au n _ + a n * au M (fun i => T i n * b i) = _
   rw [e, ← kY, ← yL]
   refine bD fun k _ => ?_
   show _ = (au n _ + T k n * a n) * b k
   grind
theorem Gh {m : Nat} (A : Mx) {c : Nat} {u v : Nat → Int} (h : ∀ r, r < m → u r = v r) : det m (upd A c u) = det m (upd A c v) := Di fun k r _ hr => by
 unfold upd
 by_cases e : k = c
 · rw [if_pos e, if_pos e, h r hr]
 · rw [if_neg e, if_neg e]
theorem cancel {a b c : Int} (h : 0 < a) (e : a * b = a * c) : b = c := Int.eq_of_mul_eq_mul_left (by omega) e
variable {t : Tb}
theorem Tb.Ok.entry (o : t.Ok V M n) {i l : Nat} (hi : i < M) (hl : l ≤ n) : t.T i l = det M (upd (fun i => V (t.bs i)) i (V (t.out l))) := by
 refine cancel o.dp ?_
 rw [← yM _ hi, Gh _ (o.lin l hl), MK _ hi (fun k => t.T k l) (fun k => V (t.bs k)), iI hi fun k hk hne => ?_]
 · have e : upd (fun i => V (t.bs i)) i (V (t.bs i)) = fun i => V (t.bs i) := upd_self (fun i => V (t.bs i)) i
   rw [e, o.dt]
   exact Int.mul_comm _ _
 · rw [MP _ hi hk hne.symm (by rw [pB, upd_ne _ _ hne]), Int.mul_zero]
theorem Tb.Ok.exact_ (o : t.Ok V M n) {a q k l : Nat} (ha : a < M) (hq : q ≤ n) (hk : k < M) (hl : l ≤ n) (hka : k ≠ a) :
 t.d * det M (upd (upd (fun i => V (t.bs i)) a (V (t.out q))) k (V (t.out l))) = t.T k l * t.T a q - t.T k q * t.T a l := by
 rw [← yM _ hk, Gh _ (o.lin l hl), MK _ hk (fun k => t.T k l) (fun k => V (t.bs k))]
 have z : ∀ i, i < M → i ≠ k → i ≠ a → t.T i l * det M (upd (upd (fun i => V (t.bs i)) a (V (t.out q))) k (V (t.bs i))) = 0 := fun i hi h1 h2 => by
  rw [MP _ hi hk h1 (by rw [upd_ne _ _ h1, upd_ne _ _ h2, pB]), Int.mul_zero]
 have e1 : upd (upd (fun i => V (t.bs i)) a (V (t.out q))) k (V (t.bs k)) = upd (fun i => V (t.bs i)) a (V (t.out q)) := by
  have := upd_self (upd (fun i => V (t.bs i)) a (V (t.out q))) k
  rw [upd_ne _ _ hka] at this
  exact this
 have e2 : det M (upd (upd (fun i => V (t.bs i)) a (V (t.out q))) k (V (t.bs a))) = -t.T k q := by
  rw [ae5 _ ha hk (fun z => hka z.symm), o.entry hk hq]
  have e : upd (fun i => V (t.bs i)) a (V (t.bs a)) = fun i => V (t.bs i) := upd_self (fun i => V (t.bs i)) a
  rw [e]
 rcases Nat.lt_or_gt_of_ne hka with h | h
 · rw [O4 ha h (fun i hi h1 h2 => z i hi h1 h2), e1, e2, ← o.entry ha hq]
   grind
 · rw [O4 hk h (fun i hi h1 h2 => z i hi h2 h1), e1, e2, ← o.entry ha hq]
   grind
theorem Tb.Ok.divides (o : t.Ok V M n) {a q k l : Nat} (ha : a < M) (hq : q ≤ n) (hk : k < M) (hl : l ≤ n) (hka : k ≠ a) :
 t.d * ((t.T k l * t.T a q - t.T k q * t.T a l) / t.d) = t.T k l * t.T a q - t.T k q * t.T a l := by
 rw [← o.exact_ ha hq hk hl hka, Int.mul_ediv_cancel_left _ (by have := o.dp; omega)]
theorem Tb.Ok.piv (o : t.Ok V M n) {a q : Nat} (ha : a < M) (hq : q ≤ n) (hp : 0 < t.T a q) : (t.piv a q).Ok V M n := by
 have eB : (fun i => V ((t.piv a q).bs i)) = upd (fun i => V (t.bs i)) a (V (t.out q)) := by
  funext i
  show V (upd t.bs a (t.out q) i) = _
  unfold upd
  split <;> rfl
 refine ⟨hp, ?_, fun l hl r hr => ?_⟩
 · rw [eB, ← o.entry ha hq]
   rfl
 · have hb : ∀ k, V ((t.piv a q).bs k) r = if k = a then V (t.out q) r else V (t.bs k) r := fun k => by
    have := congrFun (congrFun eB k) r
    rw [this]
    unfold upd
    split <;> rfl
   by_cases e : l = q
   · subst e
     have e1 : (t.piv a l).out l = t.bs a := pB _ _ _
     have e2 : (au M fun i => (t.piv a l).T i l * V ((t.piv a l).bs i) r) = au M (upd (fun i => -(t.T i l * V (t.bs i) r)) a (t.d * V (t.out l) r)) := bD fun k _ => by
      rw [hb]
      show (if k = a then (if l = l then t.d else _) else (if l = l then -t.T k l else _)) * _ = _
      unfold upd
      by_cases h : k = a
      · rw [if_pos h, if_pos h, if_pos rfl, if_pos h]
      · rw [if_neg h, if_neg h, if_pos rfl, if_neg h]
        grind
     have e3 : au M (fun i => -(t.T i l * V (t.bs i) r)) = -au M (fun i => t.T i l * V (t.bs i) r) := by
      have := kY (-1) (fun i => t.T i l * V (t.bs i) r) M
      rw [show -au M (fun i => t.T i l * V (t.bs i) r) = -1 * au M (fun i => t.T i l * V (t.bs i) r) by omega, ← this]
      exact bD fun k _ => by omega
     rw [e1, e2, Cu _ _ ha, e3, ← o.lin l hl r hr]
     show t.T a l * _ = _
     omega
   · refine cancel o.dp ?_
     have e1 : (t.piv a q).out l = t.out l := upd_ne _ _ e
     have e2 : t.d * (au M fun i => (t.piv a q).T i l * V ((t.piv a q).bs i) r) = au M (fun i => (t.T a q * (t.T i l * V (t.bs i) r) - t.T a l * (t.T i q * V (t.bs i) r)) + (if i = a then t.T a l * (t.d * V (t.out q) r) else 0)) := by
      rw [← kY]
      refine bD fun k hk => ?_
      rw [hb]
      show t.d * ((if k = a then (if l = q then _ else t.T a l) else (if l = q then _ else (t.T k l * t.T a q - t.T k q * t.T a l) / t.d)) * _) = _
      by_cases h : k = a
      · rw [if_pos h, if_neg e, if_pos h, if_pos h, h]
        grind
      · rw [if_neg h, if_neg e, if_neg h, if_neg h, ← Int.mul_assoc, o.divides ha hq hk hl h]
        grind
     rw [e1, e2, yL, abG, kY, kY, ← o.lin l hl r hr, ← o.lin q hq r hr, iI ha fun k _ h => if_neg h, if_pos rfl]
     show t.d * (t.T a q * _) = _
     grind
def Tb.sol (V : Mx) (M n : Nat) (t : Tb) (x : Nat → Int) (r : Nat) : Int := au M (fun i => x (t.bs i) * V (t.bs i) r) + au (n + 1) (fun l => x (t.out l) * V (t.out l) r)
theorem Tb.sol_piv {a q : Nat} (ha : a < M) (hq : q ≤ n) (x : Nat → Int) (r : Nat) : (t.piv a q).sol V M n x r = t.sol V M n x r := by
 unfold Tb.sol
 have e1 : (fun i => x ((t.piv a q).bs i) * V ((t.piv a q).bs i) r) = upd (fun i => x (t.bs i) * V (t.bs i) r) a (x (t.out q) * V (t.out q) r) := by
  funext i
  show x (upd t.bs a (t.out q) i) * V (upd t.bs a (t.out q) i) r = _
  unfold upd
  split <;> rfl
 have e2 : (fun i => x ((t.piv a q).out i) * V ((t.piv a q).out i) r) = upd (fun i => x (t.out i) * V (t.out i) r) q (x (t.bs a) * V (t.bs a) r) := by
  funext i
  show x (upd t.out q (t.bs a) i) * V (upd t.out q (t.bs a) i) r = _
  unfold upd
  split <;> rfl
 rw [e1, e2, Cu _ _ ha, Cu _ _ (by omega)]
 omega
theorem Tb.Ok.sol_iff (o : t.Ok V M n) (x : Nat → Int) : (∀ r, r < M → t.sol V M n x r = 0) ↔ ∀ i, i < M → t.d * x (t.bs i) + au (n + 1) (fun l => t.T i l * x (t.out l)) = 0 := by
 have key : ∀ r, r < M → t.d * t.sol V M n x r = au M (fun i => (t.d * x (t.bs i) + au (n + 1) (fun l => t.T i l * x (t.out l))) * V (t.bs i) r) := fun r hr => by
  unfold Tb.sol
  have e1 : t.d * au (n + 1) (fun l => x (t.out l) * V (t.out l) r) = au (n + 1) (fun l => x (t.out l) * au M (fun i => t.T i l * V (t.bs i) r)) := by
   rw [← kY]
   refine bD fun l hl => ?_
   rw [← o.lin l (by omega) r hr]
   grind
  rw [Int.mul_add, e1, zM, ← kY, ← yL]
  refine bD fun k _ => ?_
  grind
 constructor
 · intro h k hk
   have z : det M (upd (fun i => V (t.bs i)) k (fun r => au M (fun i => (t.d * x (t.bs i) + au (n + 1) (fun l => t.T i l * x (t.out l))) * V (t.bs i) r))) = det M (upd (fun i => V (t.bs i)) k (fun _ => 0 * (0 : Int))) := Gh _ fun r hr => by
    rw [← key r hr, h r hr]
    omega
   rw [yM _ hk 0 (fun _ => 0), Int.zero_mul, MK _ hk (fun i => t.d * x (t.bs i) + au (n + 1) (fun l => t.T i l * x (t.out l))) (fun i => V (t.bs i)), iI hk fun i hi hne => ?_] at z
   · have e : upd (fun i => V (t.bs i)) k (V (t.bs k)) = fun i => V (t.bs i) := upd_self (fun i => V (t.bs i)) k
     rw [e, o.dt] at z
     rcases Int.mul_eq_zero.mp z with q | q
     · exact q
     · have := o.dp
       omega
   · rw [MP _ hk hi hne.symm (by rw [pB, upd_ne _ _ hne]), Int.mul_zero]
 · intro h r hr
   refine cancel o.dp ?_
   rw [key r hr, il fun i hi => ?_]
   · omega
   · rw [h i hi, Int.zero_mul]
end
end L
namespace L
theorem Vw {f : Nat → Int} : ∀ {n : Nat}, au n f < 0 → ∃ k, k < n ∧ f k < 0
 | 0, h => by
   unfold au at h
   omega
 | n + 1, h => by
   unfold au at h
   by_cases q : f n < 0
   · exact ⟨n, Nat.lt_succ_self n, q⟩
   · obtain ⟨k, h1, h2⟩ := Vw (f := f) (n := n) (by omega)
     exact ⟨k, Nat.lt_succ_of_lt h1, h2⟩
section
variable {V : Mx} {N m n z rh : Nat}
structure Tb.Lab (N m n z rh : Nat) (t : Tb) : Prop where
 bz : t.bs m = z
 orh : t.out n = rh
 zN : N ≤ z
 rN : N ≤ rh
 zr : z ≠ rh
 bl : ∀ i, i < m → t.bs i < N
 ol : ∀ l, l < n → t.out l < N
 bi : ∀ i j, i < m → j < m → t.bs i = t.bs j → i = j
 oi : ∀ i j, i < n → j < n → t.out i = t.out j → i = j
 bo : ∀ i l, i < m → l < n → t.bs i ≠ t.out l
theorem Tb.Lab.piv {t : Tb} (L : t.Lab N m n z rh) {a q : Nat} (ha : a < m) (hq : q < n) : (t.piv a q).Lab N m n z rh := by
 have b' : ∀ i, (t.piv a q).bs i = if i = a then t.out q else t.bs i := fun i => rfl
 have o' : ∀ l, (t.piv a q).out l = if l = q then t.bs a else t.out l := fun i => rfl
 refine ⟨?_, ?_, L.zN, L.rN, L.zr, fun i hi => ?_, fun l hl => ?_, fun i j hi hj e => ?_, fun i j hi hj e => ?_, fun i l hi hl e => ?_⟩
 · rw [b', if_neg (by omega), L.bz]
 · rw [o', if_neg (by omega), L.orh]
 · rw [b']
   split
   · exact L.ol q hq
   · exact L.bl i hi
 · rw [o']
   split
   · exact L.bl a ha
   · exact L.ol l hl
 · rw [b', b'] at e
   split at e <;> split at e
   · omega
   · exact absurd e.symm (L.bo j q hj hq)
   · exact absurd e (L.bo i q hi hq)
   · exact L.bi i j hi hj e
 · rw [o', o'] at e
   split at e <;> split at e
   · omega
   · exact absurd e (L.bo a j ha hj)
   · exact absurd e.symm (L.bo a i ha hi)
   · exact L.oi i j hi hj e
 · rw [b', o'] at e
   split at e <;> split at e
   · exact L.bo a q ha hq e.symm
   · rename_i h1 h2
     exact h2 (L.oi q l hq hl e).symm
   · rename_i h1 h2
     exact h1 (L.bi i a hi ha e)
   · exact L.bo i l hi hl e
def Tb.dir (t : Tb) (m q : Nat) (u : Nat) : Int := if u = t.out q then t.d else au (m + 1) fun i => if t.bs i = u then -t.T i q else 0
section
variable {t : Tb}
theorem Tb.Lab.dir_in (L : t.Lab N m n z rh) {q : Nat} : t.dir m q (t.out q) = t.d := if_pos rfl
theorem Tb.Lab.bne (L : t.Lab N m n z rh) {i j : Nat} (hi : i < m + 1) (hj : j < m + 1) (e : t.bs i = t.bs j) : i = j := by
 by_cases h1 : i = m
 · by_cases h2 : j = m
   · omega
   · have := L.bl j (by omega)
     rw [h1, L.bz] at e
     have := L.zN
     omega
 · by_cases h2 : j = m
   · have := L.bl i (by omega)
     rw [h2, L.bz] at e
     have := L.zN
     omega
   · exact L.bi i j (by omega) (by omega) e
theorem Tb.Lab.dir_bs (L : t.Lab N m n z rh) {q i : Nat} (hq : q < n) (hi : i < m + 1) : t.dir m q (t.bs i) = -t.T i q := by
 unfold Tb.dir
 rw [if_neg, iI hi fun k hk hne => if_neg fun e => hne (L.bne hk hi e), if_pos rfl]
 intro e
 by_cases h : i = m
 · have := L.ol q hq
   rw [h, L.bz] at e
   have := L.zN
   omega
 · exact L.bo i q (by omega) hq e
theorem Tb.dir_no {q u : Nat} (h1 : u ≠ t.out q) (h2 : ∀ i, i < m + 1 → t.bs i ≠ u) : t.dir m q u = 0 := by
 unfold Tb.dir
 rw [if_neg h1]
 exact il fun k hk => if_neg (h2 k hk)
theorem Tb.Lab.dir_out (L : t.Lab N m n z rh) {q l : Nat} (hq : q < n) (hl : l < n + 1) (h : l ≠ q) : t.dir m q (t.out l) = 0 := by
 refine Tb.dir_no (fun e => ?_) fun i hi e => ?_
 · by_cases h1 : l = n
   · have := L.ol q hq
     rw [h1, L.orh] at e
     have := L.rN
     omega
   · exact h (L.oi l q (by omega) hq e)
 · by_cases h1 : l = n
   · rw [h1, L.orh] at e
     by_cases h2 : i = m
     · rw [h2, L.bz] at e
       exact L.zr e
     · have := L.bl i (by omega)
       have := L.rN
       omega
   · by_cases h2 : i = m
     · have := L.ol l (by omega)
       rw [h2, L.bz] at e
       have := L.zN
       omega
     · exact L.bo i l (by omega) (by omega) e
theorem Tb.Ok.dir_sol (o : t.Ok V (m + 1) n) (L : t.Lab N m n z rh) {q : Nat} (hq : q < n) : ∀ r, r < m + 1 → t.sol V (m + 1) n (t.dir m q) r = 0 := by
 rw [o.sol_iff]
 intro i hi
 rw [L.dir_bs hq hi, iI (c := q) (by omega) fun k hk h => by rw [L.dir_out hq hk h, Int.mul_zero], L.dir_in]
 grind
end
theorem Vx {t t' : Tb} (o : t.Ok V (m + 1) n) (o' : t'.Ok V (m + 1) n) (L : t.Lab N m n z rh) (L' : t'.Lab N m n z rh) (same : ∀ x r, t.sol V (m + 1) n x r = t'.sol V (m + 1) n x r)
 {q a : Nat} (hq : q < n) (ha : a < m) (hc : t.T m q < 0) (hp : 0 < t.T a q)
 (rule : ∀ i, i < m → 0 < t.T i q → t.T i n = 0 → t.bs a ≤ t.bs i) (lt : t.out q < t.bs a)
 {q' : Nat} (hq' : q' < n) (he : t'.out q' = t.bs a) (hc' : t'.T m q' < 0) (rule' : ∀ l, l < n → t'.T m l < 0 → t.bs a ≤ t'.out l)
 (st : ∀ l, l < n → t.bs a < t'.out l → ∃ l', l' < n ∧ t.out l' = t'.out l)
 (val : ∀ i, i < m → (∃ l, l < n ∧ t'.out l = t.bs i) → t.T i n = 0) : False := by
 have s := o.dir_sol L hq
 have s' := (o'.sol_iff (t.dir m q)).mp fun r hr => by rw [← same]; exact s r hr
 have e := s' m (by omega)
 have dz : t.dir m q (t'.bs m) = -t.T m q := by
  rw [L'.bz, ← L.bz]
  exact L.dir_bs hq (by omega)
 rw [dz] at e
 have hpos : 0 < t'.d * -t.T m q := Int.mul_pos o'.dp (by omega)
 obtain ⟨l, hl, neg⟩ := Vw (f := fun l => t'.T m l * t.dir m q (t'.out l)) (n := n + 1) (by omega)
 by_cases h1 : l = n
 · rw [h1, L'.orh, ← L.orh, L.dir_out hq (by omega) (by omega), Int.mul_zero] at neg
   omega
 have hl : l < n := by omega
 by_cases h2 : t'.out l = t.out q
 · rw [h2, L.dir_in] at neg
   have : t'.T m l < 0 := by
    refine Int.not_le.mp fun h => ?_
    have := Int.mul_nonneg h (Int.le_of_lt o.dp)
    omega
   have := rule' l hl this
   omega
 by_cases h3 : ∃ i, i < m + 1 ∧ t.bs i = t'.out l
 · obtain ⟨i, hi, ei⟩ := h3
   have him : i < m := by
    by_cases h : i = m
    · have := L'.ol l hl
      rw [h, L.bz] at ei
      have := L.zN
      omega
    · omega
   rw [← ei, L.dir_bs hq hi] at neg
   rcases Nat.lt_trichotomy (t'.out l) (t.bs a) with g | g | g
   · have nn : 0 ≤ t'.T m l := Int.not_lt.mp fun h => by
      have := rule' l hl h
      omega
     have tp : 0 < t.T i q := by
      refine Int.not_le.mp fun h => ?_
      have := Int.mul_nonneg nn (show 0 ≤ -t.T i q by omega)
      omega
     have := rule i him tp (val i him ⟨l, hl, ei.symm⟩)
     omega
   · have e1 : l = q' := L'.oi l q' hl hq' (g.trans he.symm)
     have e2 : i = a := L.bi i a him ha (ei.trans g)
     rw [e1, e2] at neg
     have := Int.mul_pos_of_neg_of_neg hc' (show -t.T a q < 0 by omega)
     omega
   · obtain ⟨l', h4, h5⟩ := st l hl g
     exact L.bo i l' him h4 (ei.trans h5.symm)
 · rw [Tb.dir_no h2 fun i hi e => h3 ⟨i, hi, e⟩, Int.mul_zero] at neg
   omega
def Tb.isOut (t : Tb) (n u : Nat) : Prop := ∃ l, l < n ∧ t.out l = u
theorem Z3 {t : Tb} {a q u : Nat} (h1 : t.out q ≠ u) (h2 : t.bs a ≠ u) : (t.piv a q).isOut n u ↔ t.isOut n u := by
 have o' : ∀ l, (t.piv a q).out l = if l = q then t.bs a else t.out l := fun i => rfl
 constructor
 · rintro ⟨l, hl, e⟩
   rw [o'] at e
   split at e
   · exact absurd e h2
   · exact ⟨l, hl, e⟩
 · rintro ⟨l, hl, e⟩
   refine ⟨l, hl, ?_⟩
   rw [o', if_neg fun h => h1 (by rw [← h]; exact e)]
   exact e
def Tb.at_ (t : Tb) (m n : Nat) (X : Nat → Int) (D0 : Int) : Prop := (∀ i, i < m → t.T i n * D0 = X (t.bs i) * t.d) ∧ ∀ l, l < n → X (t.out l) = 0
structure Run (V : Mx) (N m n z rh : Nat) (tb : Nat → Tb) (ent lev : Nat → Nat) (K : Nat) : Prop where
 ok : (tb 0).Ok V (m + 1) n
 lab : (tb 0).Lab N m n z rh
 st : ∀ i, i < K → tb (i + 1) = (tb i).piv (lev i) (ent i)
 hq : ∀ i, i < K → ent i < n
 ha : ∀ i, i < K → lev i < m
 hc : ∀ i, i < K → (tb i).T m (ent i) < 0
 hp : ∀ i, i < K → 0 < (tb i).T (lev i) (ent i)
 er : ∀ i, i < K → ∀ l, l < n → (tb i).T m l < 0 → (tb i).out (ent i) ≤ (tb i).out l
 lr : ∀ i, i < K → ∀ k, k < m → 0 < (tb i).T k (ent i) → (tb i).T k n = 0 → (tb i).bs (lev i) ≤ (tb i).bs k
 dg : ∀ i, i < K → (tb i).T (lev i) n = 0
section
variable {tb : Nat → Tb} {ent lev : Nat → Nat} {K : Nat}
theorem Run.all (R : Run V N m n z rh tb ent lev K) : ∀ i, i ≤ K → (tb i).Ok V (m + 1) n ∧ (tb i).Lab N m n z rh
 | 0, _ => ⟨R.ok, R.lab⟩
 | i + 1, h => by
   obtain ⟨h1, h2⟩ := R.all i (by omega)
   rw [R.st i (by omega)]
   have ha := R.ha i (by omega)
   have hq := R.hq i (by omega)
   exact ⟨h1.piv (by omega) (by omega) (R.hp i (by omega)), h2.piv ha hq⟩
theorem Run.same (R : Run V N m n z rh tb ent lev K) (x : Nat → Int) (r : Nat) : ∀ i, i ≤ K → (tb i).sol V (m + 1) n x r = (tb 0).sol V (m + 1) n x r
 | 0, _ => rfl
 | i + 1, h => by
   have ha := R.ha i (by omega)
   have hq := R.hq i (by omega)
   rw [R.st i (by omega), Tb.sol_piv (by omega) (by omega), R.same x r i (by omega)]
theorem Run.point (R : Run V N m n z rh tb ent lev K) {X : Nat → Int} {D0 : Int} (h0 : (tb 0).at_ m n X D0) : ∀ i, i ≤ K → (tb i).at_ m n X D0
 | 0, _ => h0
 | i + 1, h => by
   have hi : i < K := by omega
   obtain ⟨p1, p2⟩ := R.point h0 i (by omega)
   obtain ⟨o, L⟩ := R.all i (by omega)
   have ha := R.ha i hi
   have hq := R.hq i hi
   have dg := R.dg i hi
   have hp := R.hp i hi
   rw [R.st i hi]
   have b' : ∀ k, ((tb i).piv (lev i) (ent i)).bs k = if k = lev i then (tb i).out (ent i) else (tb i).bs k := fun i => rfl
   have o' : ∀ l, ((tb i).piv (lev i) (ent i)).out l = if l = ent i then (tb i).bs (lev i) else (tb i).out l := fun i => rfl
   have d' : ((tb i).piv (lev i) (ent i)).d = (tb i).T (lev i) (ent i) := rfl
   have X0 : X ((tb i).bs (lev i)) = 0 := by
    have := p1 (lev i) ha
    rw [dg, Int.zero_mul] at this
    rcases Int.mul_eq_zero.mp this.symm with q | q
    · exact q
    · have := o.dp
      omega
   refine ⟨fun k hk => ?_, fun l hl => ?_⟩
   · rw [b', d']
     by_cases e : k = lev i
     · rw [if_pos e, p2 _ hq, e]
       show (if lev i = lev i then (if n = ent i then _ else (tb i).T (lev i) n) else _) * D0 = _
       rw [if_pos rfl, if_neg (by omega), dg, Int.zero_mul, Int.zero_mul]
     · rw [if_neg e]
       have t' : ((tb i).piv (lev i) (ent i)).T k n = ((tb i).T k n * (tb i).T (lev i) (ent i) - (tb i).T k (ent i) * (tb i).T (lev i) n) / (tb i).d := by
        show (if k = lev i then _ else (if n = ent i then _ else _)) = _
        rw [if_neg e, if_neg (by omega)]
       refine cancel o.dp ?_
       rw [t', ← Int.mul_assoc, o.divides (by omega) (by omega) (by omega) (Nat.le_refl n) e, dg]
       have := p1 k hk
       grind
   · rw [o']
     split
     · exact X0
     · exact p2 l hl
theorem Run.stays (R : Run V N m n z rh tb ent lev K) {u a : Nat} : ∀ b, a ≤ b → b ≤ K → (∀ i, a ≤ i → i < b → (tb i).out (ent i) ≠ u ∧ (tb i).bs (lev i) ≠ u) → ((tb b).isOut n u ↔ (tb a).isOut n u)
 | 0, h, _, _ => by
   have : a = 0 := by omega
   rw [this]
 | b + 1, h, hb, hn => by
   by_cases e : a = b + 1
   · rw [e]
   · have q := hn b (by omega) (by omega)
     rw [R.st b (by omega), Z3 q.1 q.2]
     exact R.stays b (by omega) (by omega) fun i h1 h2 => hn i h1 (by omega)
theorem Run.once (R : Run V N m n z rh tb ent lev K) {X : Nat → Int} {D0 : Int} (hD : 0 < D0) (h0 : (tb 0).at_ m n X D0) {w a b i0 i1 : Nat} (hb : b ≤ K) (le : ∀ i, a ≤ i → i < b → (tb i).out (ent i) ≤ w ∧ (tb i).bs (lev i) ≤ w)
 (h1 : a ≤ i0) (h2 : i0 < i1) (h3 : i1 < b) (p0 : (tb i0).out (ent i0) = w ∨ (tb i0).bs (lev i0) = w) (p1 : (tb i1).out (ent i1) = w ∨ (tb i1).bs (lev i1) = w)
 (no : ∀ i, i0 < i → i < i1 → (tb i).out (ent i) ≠ w ∧ (tb i).bs (lev i) ≠ w) : False := by
 obtain ⟨o0, L0⟩ := R.all i0 (by omega)
 obtain ⟨o1, L1⟩ := R.all i1 (by omega)
 have q0 := R.hq i0 (by omega)
 have a0 := R.ha i0 (by omega)
 have q1 := R.hq i1 (by omega)
 have a1 := R.ha i1 (by omega)
 have le0 := le i0 (by omega) (by omega)
 have le1 := le i1 (by omega) (by omega)
 have sw := R.stays (u := w) (a := i0 + 1) i1 (by omega) (by omega) fun i h4 h5 => no i (by omega) h5
 have o' : ∀ l, (tb (i0 + 1)).out l = if l = ent i0 then (tb i0).bs (lev i0) else (tb i0).out l := fun l => by rw [R.st i0 (by omega)]; rfl
 have su : ∀ u, w < u → ((tb i1).isOut n u ↔ (tb i0).isOut n u) := fun u hu => R.stays i1 (by omega) (by omega) fun i h4 h5 => by
  have := le i (by omega) (by omega)
  exact ⟨by omega, by omega⟩
 have same : ∀ x r, (tb i0).sol V (m + 1) n x r = (tb i1).sol V (m + 1) n x r := fun x r => by rw [R.same x r i0 (by omega), R.same x r i1 (by omega)]
 obtain ⟨x0, y0⟩ := R.point h0 i0 (by omega)
 obtain ⟨x1, y1⟩ := R.point h0 i1 (by omega)
 have zero : ∀ {c D d : Int}, 0 < D → c * D = 0 * d → c = 0 := fun {c D d} hD e => by
  rw [Int.zero_mul] at e
  rcases Int.mul_eq_zero.mp e with q | q
  · exact q
  · omega
 rcases p0 with p0 | p0
 · have nw : ¬ (tb (i0 + 1)).isOut n w := by
    rintro ⟨l, hl, e⟩
    rw [o'] at e
    split at e
    · exact L0.bo (lev i0) (ent i0) a0 q0 (e.trans p0.symm)
    · rename_i h
      exact h (L0.oi l (ent i0) hl q0 (e.trans p0.symm))
   have p1 : (tb i1).bs (lev i1) = w := by
    rcases p1 with p1 | p1
    · exact absurd (sw.mp ⟨_, q1, p1⟩) nw
    · exact p1
   have ne := L1.bo (lev i1) (ent i1) a1 q1
   refine Vx o1 o0 L1 L0 (fun x r => (same x r).symm) q1 a1 (R.hc i1 (by omega)) (R.hp i1 (by omega)) (R.lr i1 (by omega)) (by omega) q0 (p0.trans p1.symm) (R.hc i0 (by omega)) (fun l hl h => ?_) (fun l hl h => ?_) fun i hi ⟨l, hl, e⟩ => ?_
   · have := R.er i0 (by omega) l hl h
     omega
   · rw [p1] at h
     exact (su _ h).mpr ⟨l, hl, rfl⟩
   · have := x1 i hi
     rw [← e, y0 l hl] at this
     exact zero hD this
 · have nw : (tb (i0 + 1)).isOut n w := ⟨ent i0, q0, by rw [o', if_pos rfl, p0]⟩
   obtain ⟨l, hl, el⟩ := sw.mpr nw
   have p1 : (tb i1).out (ent i1) = w := by
    rcases p1 with p1 | p1
    · exact p1
    · exact absurd (p1.trans el.symm) (L1.bo _ _ a1 hl)
   have ne := L0.bo (lev i0) (ent i0) a0 q0
   refine Vx o0 o1 L0 L1 same q0 a0 (R.hc i0 (by omega)) (R.hp i0 (by omega)) (R.lr i0 (by omega)) (by omega) q1 (p1.trans p0.symm) (R.hc i1 (by omega)) (fun l hl h => ?_) (fun l hl h => ?_) fun i hi ⟨l, hl, e⟩ => ?_
   · have := R.er i1 (by omega) l hl h
     omega
   · rw [p0] at h
     exact (su _ h).mp ⟨l, hl, rfl⟩
   · have := x0 i hi
     rw [← e, y1 l hl] at this
     exact zero hD this
theorem adl {P : Nat → Prop} {i0 i1 : Nat} (h : i0 < i1) (p : P i1) : ∃ i, i0 < i ∧ i ≤ i1 ∧ P i ∧ ∀ j, i0 < j → j < i → ¬ P j := by
 induction i1 using Nat.strongRecOn with
 | ind i1 ih =>
   by_cases e : ∃ j, i0 < j ∧ j < i1 ∧ P j
   · obtain ⟨j, h1, h2, h3⟩ := e
     obtain ⟨i, g1, g2, g3⟩ := ih j h2 h1 h3
     exact ⟨i, g1, by omega, g3⟩
   · exact ⟨i1, h, Nat.le_refl _, p, fun j h1 h2 h3 => e ⟨j, h1, h2, h3⟩⟩
theorem Run.short (R : Run V N m n z rh tb ent lev K) {X : Nat → Int} {D0 : Int} (hD : 0 < D0) (h0 : (tb 0).at_ m n X D0) : ∀ (w a b : Nat), a ≤ b → b ≤ K → (∀ i, a ≤ i → i < b → (tb i).out (ent i) < w ∧ (tb i).bs (lev i) < w) → b - a < 2 ^ w
 | 0, a, b, h1, h2, h3 => by
   by_cases e : a = b
   · rw [e, Nat.sub_self]
     decide
   · have := h3 a (Nat.le_refl a) (by omega)
     omega
 | w + 1, a, b, h1, h2, h3 => by
   have pw : 2 ^ (w + 1) = 2 ^ w + 2 ^ w := by rw [Nat.pow_succ]; omega
   by_cases e : ∃ i, a ≤ i ∧ i < b ∧ ((tb i).out (ent i) = w ∨ (tb i).bs (lev i) = w)
   · obtain ⟨i, hi1, hi2, p⟩ := e
     have nxt : ∀ j k, a ≤ j → j < k → k < b → ((tb j).out (ent j) = w ∨ (tb j).bs (lev j) = w) → ((tb k).out (ent k) = w ∨ (tb k).bs (lev k) = w) → False := fun j k h4 h5 h6 p0 p1 => by
      obtain ⟨k', g1, g2, g3, g4⟩ := adl (P := fun k => (tb k).out (ent k) = w ∨ (tb k).bs (lev k) = w) h5 p1
      exact R.once hD h0 (a := a) (b := b) (w := w) h2 (fun i h7 h8 => by have := h3 i h7 h8; omega) h4 g1 (by omega) p0 g3 fun i h7 h8 => ⟨fun z => g4 i h7 h8 (.inl z), fun z => g4 i h7 h8 (.inr z)⟩
     have s1 := R.short hD h0 w a i hi1 (by omega) fun j h4 h5 => by
      have := h3 j h4 (by omega)
      have n1 : (tb j).out (ent j) ≠ w := fun z => nxt j i h4 h5 hi2 (.inl z) p
      have n2 : (tb j).bs (lev j) ≠ w := fun z => nxt j i h4 h5 hi2 (.inr z) p
      omega
     have s2 := R.short hD h0 w (i + 1) b (by omega) h2 fun j h4 h5 => by
      have := h3 j (by omega) h5
      have n1 : (tb j).out (ent j) ≠ w := fun z => nxt i j hi1 (by omega) h5 p (.inl z)
      have n2 : (tb j).bs (lev j) ≠ w := fun z => nxt i j hi1 (by omega) h5 p (.inr z)
      omega
     omega
   · have := R.short hD h0 w a b h1 h2 fun i h4 h5 => by
      have := h3 i h4 h5
      have n1 : (tb i).out (ent i) ≠ w := fun z => e ⟨i, h4, h5, .inl z⟩
      have n2 : (tb i).bs (lev i) ≠ w := fun z => e ⟨i, h4, h5, .inr z⟩
      omega
     omega
theorem Run.bound (R : Run V N m n z rh tb ent lev K) {X : Nat → Int} {D0 : Int} (hD : 0 < D0) (h0 : (tb 0).at_ m n X D0) : K < 2 ^ N := by
 have := R.short hD h0 N 0 K (Nat.zero_le K) (Nat.le_refl K) fun i h1 h2 => by
  obtain ⟨o, L⟩ := R.all i (by omega)
  exact ⟨L.ol _ (R.hq i h2), L.bl _ (R.ha i h2)⟩
 omega
end
end
end L
namespace L
structure Sy where
 p : Nat
 q : Nat
 st : Nat → Int
 col : Nat → Nat → Int
abbrev Sy.n (s : Sy) : Nat := s.q + 1
abbrev Sy.m (s : Sy) : Nat := s.p + 1
abbrev Sy.N (s : Sy) : Nat := s.n + s.m
def Sy.T (s : Sy) (i j : Nat) : Int :=
 if i < s.p then (if j = 0 then s.st i else if j < s.n then -s.col (j - 1) i else 0)
 else if i = s.p then (if j = 0 then 0 else 1)
 else if j = 0 then -1 else 0
def Sy.t (s : Sy) : Tb where
 d := 1
 T := s.T
 bs := fun i => s.n + i
 out := fun l => if l < s.n then l else s.N + 1
def Sy.V (s : Sy) (u r : Nat) : Int := if u < s.n then s.T r u else if u ≤ s.N then (if u = s.n + r then 1 else 0) else s.T r s.n
theorem Sy.hm (s : Sy) : s.m = s.p + 1 := rfl
theorem Sy.hn (s : Sy) : s.n = s.q + 1 := rfl
theorem Sy.hN (s : Sy) : s.N = s.n + s.m := rfl
section
variable {s : Sy}
theorem Sy.lab (s : Sy) : s.t.Lab s.N s.m s.n s.N (s.N + 1) := by
 have hm := s.hm
 have hn := s.hn
 have hN := s.hN
 have o : ∀ l, s.t.out l = if l < s.n then l else s.N + 1 := fun l => rfl
 have b : ∀ i, s.t.bs i = s.n + i := fun i => rfl
 refine ⟨rfl, ?_, Nat.le_refl _, by omega, by omega, fun i hi => ?_, fun l hl => ?_, fun i j hi hj e => ?_, fun i j hi hj e => ?_, fun i l hi hl e => ?_⟩
 · rw [o, if_neg (by omega)]
 · rw [b]
   show s.n + i < s.n + s.m
   omega
 · rw [o, if_pos hl]
   show l < s.n + s.m
   omega
 · rw [b, b] at e
   omega
 · rw [o, o, if_pos hi, if_pos hj] at e
   exact e
 · rw [o, b, if_pos hl] at e
   omega
theorem Sy.ok (s : Sy) : s.t.Ok s.V (s.m + 1) s.n := by
 have hm := s.hm
 have hn := s.hn
 have hN := s.hN
 have vb : ∀ i r, i < s.m + 1 → s.V (s.t.bs i) r = if i = r then 1 else 0 := fun i r hi => by
  show s.V (s.n + i) r = _
  unfold Sy.V
  rw [if_neg (by omega), if_pos (by show s.n + i ≤ s.n + s.m; omega)]
  by_cases e : i = r
  · rw [if_pos (by omega), if_pos e]
  · rw [if_neg (by omega), if_neg e]
 have vo : ∀ l r, l ≤ s.n → s.V (s.t.out l) r = s.T r l := fun l r hl => by
  show s.V (if l < s.n then l else s.N + 1) r = _
  by_cases e : l < s.n
  · rw [if_pos e]
    unfold Sy.V
    rw [if_pos e]
  · rw [if_neg e]
    unfold Sy.V
    rw [if_neg (by show ¬ s.n + s.m + 1 < s.n; omega), if_neg (by omega), show l = s.n by omega]
 refine ⟨by show (0 : Int) < 1; decide, ?_, fun l hl r hr => ?_⟩
 · rw [Di (B := fun c r => if c = r then 1 else 0) fun c r hc hr => vb c r hc, Xn]
   rfl
 · rw [vo l r hl, bD (g := fun i => s.T i l * if i = r then 1 else 0) fun i hi => by rw [vb i r hi]; rfl, iI hr fun k hk h => by rw [if_neg h, Int.mul_zero], if_pos rfl]
   show 1 * _ = _ * 1
   omega
structure On (s : Sy) (t : Tb) : Prop where
 ok : t.Ok s.V (s.m + 1) s.n
 lab : t.Lab s.N s.m s.n s.N (s.N + 1)
 sol : ∀ x r, t.sol s.V (s.m + 1) s.n x r = s.t.sol s.V (s.m + 1) s.n x r
 nn : ∀ i, i < s.m → 0 ≤ t.T i s.n
theorem Sy.on (s : Sy) : On s s.t := ⟨s.ok, s.lab, fun _ _ => rfl, fun i hi => by
 have hm := s.hm
 have hn := s.hn
 have hN := s.hN
 show 0 ≤ s.T i s.n
 unfold Sy.T
 split
 · rw [if_neg (by omega), if_neg (by omega)]
   omega
 · split
   · rw [if_neg (by omega)]
     decide
   · omega⟩
variable {t : Tb}
theorem On.piv (o : On s t) {a q : Nat} (ha : a < s.m) (hq : q < s.n) (hp : 0 < t.T a q) (rule : ∀ k, k < s.m → 0 < t.T k q → t.T a s.n * t.T k q ≤ t.T k s.n * t.T a q) : On s (t.piv a q) := by
 have hm := s.hm
 have hn := s.hn
 have hN := s.hN
 refine ⟨o.ok.piv (by omega) (by omega) hp, o.lab.piv ha hq, fun x r => by rw [Tb.sol_piv (by omega) (by omega), o.sol], fun i hi => ?_⟩
 show 0 ≤ if i = a then (if s.n = q then t.d else t.T a s.n) else (if s.n = q then -t.T i q else (t.T i s.n * t.T a q - t.T i q * t.T a s.n) / t.d)
 by_cases e : i = a
 · rw [if_pos e, if_neg (by omega)]
   exact o.nn a ha
 · rw [if_neg e, if_neg (by omega)]
   refine Int.ediv_nonneg ?_ (Int.le_of_lt o.ok.dp)
   have h1 := Int.mul_nonneg (o.nn i hi) (Int.le_of_lt hp)
   by_cases g : 0 < t.T i q
   · have := rule i hi g
     have e : t.T a s.n * t.T i q = t.T i q * t.T a s.n := Int.mul_comm _ _
     omega
   · have h2 := Int.mul_nonneg (show 0 ≤ -t.T i q by omega) (o.nn a ha)
     have e : -t.T i q * t.T a s.n = -(t.T i q * t.T a s.n) := Int.neg_mul _ _
     omega
theorem On.gain (o : On s t) {a q : Nat} (ha : a < s.m) (hq : q < s.n) (h0 : t.T s.m s.n = 0) (hc : t.T s.m q < 0) (hz : (t.piv a q).T s.m s.n = 0) : t.T a s.n = 0 := by
 have hm := s.hm
 have hn := s.hn
 have hN := s.hN
 have e : (t.piv a q).T s.m s.n = (t.T s.m s.n * t.T a q - t.T s.m q * t.T a s.n) / t.d := by
  show (if s.m = a then _ else (if s.n = q then _ else _)) = _
  rw [if_neg (by omega), if_neg (by omega)]
 have d := o.ok.divides (a := a) (q := q) (k := s.m) (l := s.n) (by omega) (by omega) (by omega) (Nat.le_refl _) (by omega)
 rw [← e, hz, h0] at d
 rcases Int.mul_eq_zero.mp (show t.T s.m q * t.T a s.n = 0 by omega) with g | g
 · omega
 · exact g
theorem On.rows (o : On s t) {x : Nat → Int} (h : ∀ i, i < s.m + 1 → t.d * x (t.bs i) + au (s.n + 1) (fun l => t.T i l * x (t.out l)) = 0) : ∀ i, i < s.m + 1 → x (s.n + i) + (au s.n (fun j => s.T i j * x j) + s.T i s.n * x (s.N + 1)) = 0 := by
 have hm := s.hm
 have hn := s.hn
 have hN := s.hN
 have h1 := (o.ok.sol_iff x).mpr h
 have h2 := (s.ok.sol_iff x).mp fun r hr => by rw [← o.sol]; exact h1 r hr
 intro i hi
 have := h2 i hi
 have e1 : s.t.d * x (s.t.bs i) = x (s.n + i) := Int.one_mul _
 have e2 : au (s.n + 1) (fun l => s.t.T i l * x (s.t.out l)) = au s.n (fun j => s.T i j * x j) + s.T i s.n * x (s.N + 1) := by
  show au s.n _ + s.T i s.n * x (if s.n < s.n then s.n else s.N + 1) = _
  rw [if_neg (by omega), bD fun j hj => ?_]
  show s.T i j * x (if j < s.n then j else s.N + 1) = _
  rw [if_pos hj]
 rw [e1, e2] at this
 exact this
theorem On.rows' (o : On s t) {x : Nat → Int} (h : ∀ i, i < s.m + 1 → x (s.n + i) + (au s.n (fun j => s.T i j * x j) + s.T i s.n * x (s.N + 1)) = 0) : ∀ i, i < s.m + 1 → t.d * x (t.bs i) + au (s.n + 1) (fun l => t.T i l * x (t.out l)) = 0 := by
 have hm := s.hm
 have hn := s.hn
 have hN := s.hN
 refine (o.ok.sol_iff x).mp fun r hr => ?_
 rw [o.sol]
 refine (s.ok.sol_iff x).mpr (fun i hi => ?_) r hr
 have := h i hi
 have e1 : s.t.d * x (s.t.bs i) = x (s.n + i) := Int.one_mul _
 have e2 : au (s.n + 1) (fun l => s.t.T i l * x (s.t.out l)) = au s.n (fun j => s.T i j * x j) + s.T i s.n * x (s.N + 1) := by
  show au s.n _ + s.T i s.n * x (if s.n < s.n then s.n else s.N + 1) = _
  rw [if_neg (by omega), bD fun j hj => ?_]
  show s.T i j * x (if j < s.n then j else s.N + 1) = _
  rw [if_pos hj]
 rw [e1, e2]
 exact this
theorem Sy.row_lt (s : Sy) {i : Nat} (hi : i < s.p) (x : Nat → Int) : au s.n (fun j => s.T i j * x j) = s.st i * x 0 - au s.q (fun l => s.col l i * x (l + 1)) := by
 have hm := s.hm
 have hn := s.hn
 have hN := s.hN
 have e : ∀ k : Nat, k ≤ s.q → au (k + 1) (fun j => s.T i j * x j) = s.st i * x 0 - au k (fun l => s.col l i * x (l + 1)) := by
  intro k
  induction k with
  | zero =>
    intro _
    show 0 + s.T i 0 * x 0 = _
    unfold Sy.T
    rw [if_pos hi, if_pos rfl]
    show _ = _ - 0
    omega
  | succ k ih =>
    intro hk
    have t1 : s.T i (k + 1) = -s.col k i := by
     unfold Sy.T
     rw [if_pos hi, if_neg (by omega), if_pos (by show k + 1 < s.q + 1; omega)]
     rfl
    show au (k + 1) _ + s.T i (k + 1) * x (k + 1) = _ - (au k _ + s.col k i * x (k + 1))
    rw [ih (by omega), t1, Int.neg_mul]
    omega
 exact e s.q (Nat.le_refl _)
theorem Sy.row_p (s : Sy) (x : Nat → Int) : au s.n (fun j => s.T s.p j * x j) = au s.q (fun l => x (l + 1)) := by
 have hm := s.hm
 have hn := s.hn
 have hN := s.hN
 have e : ∀ k : Nat, au (k + 1) (fun j => s.T s.p j * x j) = au k (fun l => x (l + 1)) := by
  intro k
  induction k with
  | zero =>
    show 0 + s.T s.p 0 * x 0 = 0
    unfold Sy.T
    rw [if_neg (by omega), if_pos rfl, if_pos rfl]
    omega
  | succ k ih =>
    show au (k + 1) _ + s.T s.p (k + 1) * x (k + 1) = au k _ + x (k + 1)
    have t1 : s.T s.p (k + 1) = 1 := by
     unfold Sy.T
     rw [if_neg (by omega), if_pos rfl, if_neg (by omega)]
    rw [ih, t1, Int.one_mul]
 exact e s.q
theorem Sy.row_m (s : Sy) (x : Nat → Int) : au s.n (fun j => s.T s.m j * x j) = -x 0 := by
 have hm := s.hm
 have hn := s.hn
 have hN := s.hN
 rw [iI (c := 0) (by omega) fun k hk h => ?_]
 · unfold Sy.T
   rw [if_neg (by omega), if_neg (by omega), if_pos rfl]
   omega
 · unfold Sy.T
   rw [if_neg (by omega), if_neg (by omega), if_neg h, Int.zero_mul]
theorem Sy.rhs_lt (s : Sy) {i : Nat} (hi : i < s.p) : s.T i s.n = 0 := by
 have hm := s.hm
 have hn := s.hn
 have hN := s.hN
 unfold Sy.T
 rw [if_pos hi, if_neg (by omega), if_neg (by omega)]
theorem Sy.rhs_p (s : Sy) : s.T s.p s.n = 1 := by
 have hm := s.hm
 have hn := s.hn
 have hN := s.hN
 unfold Sy.T
 rw [if_neg (by omega), if_pos rfl, if_neg (by omega)]
theorem Sy.rhs_m (s : Sy) : s.T s.m s.n = 0 := by
 have hm := s.hm
 have hn := s.hn
 have hN := s.hN
 unfold Sy.T
 rw [if_neg (by omega), if_neg (by omega), if_neg (by omega)]
theorem wC {f : Nat → Int} : ∀ {n : Nat}, (∀ k, k < n → 0 ≤ f k) → 0 ≤ au n f
 | 0, _ => Int.le_refl _
 | n + 1, h => by
   have h1 := wC (f := f) (n := n) fun k hk => h k (Nat.lt_succ_of_lt hk)
   have h2 := h n (Nat.lt_succ_self n)
   unfold au
   omega
theorem O5 {f : Nat → Int} : ∀ {n : Nat}, (∀ k, k < n → 0 ≤ f k) → au n f ≤ 0 → ∀ k, k < n → f k = 0
 | 0, _, _, k, hk => by omega
 | n + 1, h, e, k, hk => by
   have h1 := wC (f := f) (n := n) fun k hk => h k (Nat.lt_succ_of_lt hk)
   have h2 := h n (Nat.lt_succ_self n)
   unfold au at e
   by_cases g : k = n
   · rw [g]
     omega
   · exact O5 (fun k hk => h k (Nat.lt_succ_of_lt hk)) (by omega) k (by omega)
theorem On.limited (o : On s t) (hs : ∃ i, i < s.p ∧ s.st i = 1) {q : Nat} (hq : q < s.n) (hc : t.T s.m q < 0) : ∃ k, k < s.m ∧ 0 < t.T k q := by
 have hm := s.hm
 have hn := s.hn
 have hN := s.hN
 refine Classical.byContradiction fun no => ?_
 have le : ∀ k, k < s.m → t.T k q ≤ 0 := fun k hk => Int.not_lt.mp fun h => no ⟨k, hk, h⟩
 have L := o.lab
 obtain ⟨x, hx⟩ : ∃ x, x = t.dir s.m q := ⟨_, rfl⟩
 have nn : ∀ u, u < s.N → 0 ≤ x u := fun u hu => by
  rw [hx]
  unfold Tb.dir
  split
  · exact Int.le_of_lt o.ok.dp
  · refine wC fun k hk => ?_
    split
    · rename_i e
      by_cases g : k = s.m
      · rw [g, L.bz] at e
        omega
      · have := le k (by omega)
        omega
    · exact Int.le_refl _
 have rows := o.rows (x := x) fun i hi => by
  have := (o.ok.sol_iff x).mp (fun r hr => by rw [hx]; exact o.ok.dir_sol L hq r hr) i hi
  exact this
 have xr : x (s.N + 1) = 0 := by
  have := L.dir_out hq (l := s.n) (by omega) (by omega)
  rw [L.orh] at this
  rw [hx]
  exact this
 have xz : 0 < x (s.n + s.m) := by
  have := L.dir_bs hq (i := s.m) (by omega)
  rw [L.bz] at this
  rw [hx]
  show 0 < t.dir s.m q s.N
  omega
 have rp := rows s.p (by omega)
 rw [s.row_p, xr, Int.mul_zero] at rp
 have sp : 0 ≤ x (s.n + s.p) := nn _ (by show s.n + s.p < s.n + (s.p + 1); omega)
 have z := O5 (f := fun l => x (l + 1)) (n := s.q) (fun k hk => nn _ (by show k + 1 < s.q + 1 + (s.p + 1); omega)) (by omega)
 have rm := rows s.m (by omega)
 rw [s.row_m, xr, Int.mul_zero] at rm
 obtain ⟨i, hi, e⟩ := hs
 have ri := rows i (by omega)
 rw [s.row_lt hi, xr, Int.mul_zero, e, il fun l hl => by have := z l hl; rw [this, Int.mul_zero]] at ri
 have := nn (s.n + i) (by show s.n + i < s.n + (s.p + 1); omega)
 omega
def Tb.price (t : Tb) (m n u : Nat) : Int := au n fun l => if t.out l = u then t.T m l else 0
def Tb.amt (t : Tb) (m n u : Nat) : Int := au m fun i => if t.bs i = u then t.T i n else 0
theorem xM (f : Nat → Int) (a : Nat) : ∀ b : Nat, au (a + b) f = au a f + au b fun i => f (a + i)
 | 0 => by
   show au a f = au a f + 0
   omega
 | b + 1 => by
   show au (a + b) f + f (a + b) = au a f + (au b (fun i => f (a + i)) + f (a + b))
   rw [xM f a b]
   omega
theorem On.prices (o : On s t) (x : Nat → Int) : au s.n (fun l => t.T s.m l * x (t.out l)) = au s.N fun u => t.price s.m s.n u * x u := by
 have hm := s.hm
 have hn := s.hn
 have hN := s.hN
 have e : au s.N (fun u => x u * au s.n (fun l => (if t.out l = u then 1 else 0) * t.T s.m l)) = au s.n (fun l => au s.N (fun u => (if t.out l = u then 1 else 0) * x u) * t.T s.m l) := zM x (fun l => t.T s.m l) (fun l u => if t.out l = u then 1 else 0) s.n s.N
 have e1 : au s.N (fun u => t.price s.m s.n u * x u) = au s.N (fun u => x u * au s.n (fun l => (if t.out l = u then 1 else 0) * t.T s.m l)) := bD fun u _ => by
  unfold Tb.price
  rw [Int.mul_comm]
  congr 1
  refine bD fun l _ => ?_
  split
  · omega
  · omega
 rw [e1, e]
 refine bD fun l hl => ?_
 rw [iI (o.lab.ol l hl) fun k hk h => by rw [if_neg fun z => h z.symm, Int.zero_mul], if_pos rfl]
 grind
theorem On.gains (o : On s t) (h0 : t.T s.m s.n = 0) {x : Nat → Int} (h : ∀ i, i < s.m + 1 → x (s.n + i) + (au s.n (fun j => s.T i j * x j) + s.T i s.n * x (s.N + 1)) = 0) :
 t.d * x (s.n + s.m) + (au s.n (fun j => t.price s.m s.n j * x j) + au s.m (fun i => t.price s.m s.n (s.n + i) * x (s.n + i))) = 0 := by
 have r := o.rows' h s.m (by omega)
 have L := o.lab
 have e : au (s.n + 1) (fun l => t.T s.m l * x (t.out l)) = au s.n (fun l => t.T s.m l * x (t.out l)) + t.T s.m s.n * x (t.out s.n) := rfl
 rw [L.bz, e, h0, Int.zero_mul, o.prices, show s.N = s.n + s.m from rfl, xM] at r
 omega
structure adm (s : Sy) (y : Nat → Int) : Prop where
 nn : ∀ i, 0 ≤ y i
 one : ∃ i, i < s.p ∧ s.st i = 1 ∧ 0 < y i
 le : ∀ l, l < s.q → au s.p (fun i => s.col l i * y i) ≤ 0
theorem On.weights (o : On s t) (hst : ∀ i, i < s.p → s.st i = 0 ∨ s.st i = 1) (h0 : t.T s.m s.n = 0) (hc : ∀ l, l < s.n → 0 ≤ t.T s.m l) : adm s (fun i => t.price s.m s.n (s.n + i)) := by
 have hm := s.hm
 have hn := s.hn
 have hN := s.hN
 have pn : ∀ u, 0 ≤ t.price s.m s.n u := fun u => wC fun l hl => by
  split
  · exact hc l hl
  · exact Int.le_refl _
 obtain ⟨y, hy⟩ : ∃ y : Nat → Int, y = fun i => t.price s.m s.n (s.n + i) := ⟨_, rfl⟩
 have yn : ∀ i, 0 ≤ y i := fun i => by rw [hy]; exact pn _
 have yp : y s.p = 0 := by
  have g := o.gains h0 (x := fun u => if u < s.n then 0 else if u = s.N + 1 then -1 else s.T (u - s.n) s.n) fun i hi => by
   rw [if_neg (by omega), if_neg (by show ¬ s.n + i = s.n + s.m + 1; omega), if_neg (by show ¬ s.n + s.m + 1 < s.n; omega), if_pos rfl, show s.n + i - s.n = i by omega, il fun j hj => by rw [if_pos hj, Int.mul_zero]]
   omega
  rw [if_neg (by omega), if_neg (by show ¬ s.n + s.m = s.n + s.m + 1; omega), show s.n + s.m - s.n = s.m by omega, s.rhs_m, Int.mul_zero, il fun j hj => by rw [if_pos hj, Int.mul_zero], iI (c := s.p) (by omega) fun k hk h => ?_, if_neg (by omega), if_neg (by show ¬ s.n + s.p = s.n + (s.p + 1) + 1; omega), show s.n + s.p - s.n = s.p by omega, s.rhs_p] at g
  · rw [hy]
    show t.price s.m s.n (s.n + s.p) = 0
    omega
  · rw [if_neg (by omega), if_neg (by show ¬ s.n + k = s.n + (s.p + 1) + 1; omega), show s.n + k - s.n = k by omega, s.rhs_lt (by omega), Int.mul_zero]
 have col : ∀ j, j < s.n → au s.p (fun i => y i * s.T i j) = t.price s.m s.n j - t.d * s.T s.m j := fun j hj => by
  have g := o.gains h0 (x := fun u => if u < s.n then (if u = j then 1 else 0) else if u = s.N + 1 then 0 else -s.T (u - s.n) j) fun i hi => by
   rw [if_neg (by omega), if_neg (by show ¬ s.n + i = s.n + s.m + 1; omega), if_neg (by show ¬ s.n + s.m + 1 < s.n; omega), if_pos rfl, show s.n + i - s.n = i by omega, iI hj fun k hk h => by rw [if_pos hk, if_neg h, Int.mul_zero], if_pos hj, if_pos rfl]
   omega
  rw [if_neg (by omega), if_neg (by show ¬ s.n + s.m = s.n + s.m + 1; omega), show s.n + s.m - s.n = s.m by omega, iI hj fun k hk h => by rw [if_pos hk, if_neg h, Int.mul_zero], if_pos hj, if_pos rfl] at g
  have e : au s.m (fun i => t.price s.m s.n (s.n + i) * (if s.n + i < s.n then (if s.n + i = j then 1 else 0) else if s.n + i = s.N + 1 then 0 else -s.T (s.n + i - s.n) j)) = -1 * au s.p (fun i => y i * s.T i j) := by
   show au s.p _ + _ = _
   dsimp only
   have z : y s.p = t.price s.m s.n (s.n + s.p) := by rw [hy]
   rw [← z, yp, Int.zero_mul, ← kY, bD (g := fun k => -1 * (y k * s.T k j)) fun k hk => ?_]
   · omega
   · rw [if_neg (by omega), if_neg (by show ¬ s.n + k = s.n + (s.p + 1) + 1; omega), show s.n + k - s.n = k by omega, hy]
     grind
  rw [e] at g
  have e2 : t.d * -s.T s.m j = -(t.d * s.T s.m j) := Int.mul_neg _ _
  omega
 rw [← hy]
 refine ⟨yn, ?_, fun l hl => ?_⟩
 · have c := col 0 (by omega)
   have tm : s.T s.m 0 = -1 := by
    unfold Sy.T
    rw [if_neg (by omega), if_neg (by omega), if_pos rfl]
   rw [tm] at c
   have pos : 0 < au s.p (fun i => y i * s.T i 0) := by
    have := pn 0
    have := o.ok.dp
    omega
   refine Classical.byContradiction fun no => ?_
   have : au s.p (fun i => y i * s.T i 0) ≤ 0 := by
    rw [il fun i hi => ?_]
    · exact Int.le_refl _
    · have t1 : s.T i 0 = s.st i := by
       unfold Sy.T
       rw [if_pos hi, if_pos rfl]
      rw [t1]
      rcases hst i hi with g | g
      · rw [g, Int.mul_zero]
      · have h1 : ¬ 0 < y i := fun h => no ⟨i, hi, g, h⟩
        have h2 := yn i
        rw [show y i = 0 by omega, Int.zero_mul]
   omega
 · have c := col (l + 1) (by show l + 1 < s.q + 1; omega)
   have tm : s.T s.m (l + 1) = 0 := by
    unfold Sy.T
    rw [if_neg (by omega), if_neg (by omega), if_neg (by omega)]
   rw [tm, Int.mul_zero] at c
   have e : au s.p (fun i => y i * s.T i (l + 1)) = -1 * au s.p (fun i => s.col l i * y i) := by
    rw [← kY]
    refine bD fun i hi => ?_
    have t1 : s.T i (l + 1) = -s.col l i := by
     unfold Sy.T
     rw [if_pos hi, if_neg (by omega), if_pos (by show l + 1 < s.q + 1; omega)]
     rfl
    rw [t1]
    grind
   have := pn (l + 1)
   omega
structure adn (s : Sy) (x : Nat → Int) : Prop where
 nn : ∀ l, 0 ≤ x l
 le : ∀ i, i < s.p → 0 ≤ au s.q (fun l => s.col l i * x l)
 lt : ∀ i, i < s.p → s.st i = 1 → 0 < au s.q (fun l => s.col l i * x l)
 few : ((akS s.q).filter fun l => decide (0 < x l)).length ≤ s.p
theorem Cv : ∀ {l l' : List Nat}, l.Nodup → (∀ a ∈ l, a ∈ l') → l.length ≤ l'.length
 | [], l', _, _ => Nat.zero_le _
 | a :: l, l', h, h2 => by
   obtain ⟨h3, h4⟩ := List.nodup_cons.mp h
   have ma := h2 a ak4
   have := Cv (l := l) (l' := l'.erase a) h4 fun b hb => by
    refine (List.mem_erase_of_ne ?_).mpr (h2 b (alb _ hb))
    rintro rfl
    exact h3 hb
   rw [List.length_erase_of_mem ma] at this
   have : 0 < l'.length := List.length_pos_of_mem ma
   rw [akU]
   omega
theorem On.amounts (o : On s t) (hst : ∀ i, i < s.p → s.st i = 0 ∨ s.st i = 1) (h0 : t.T s.m s.n ≠ 0) : adn s (fun l => t.amt s.m s.n (l + 1)) := by
 have hm := s.hm
 have hn := s.hn
 have hN := s.hN
 have L := o.lab
 have an : ∀ u, 0 ≤ t.amt s.m s.n u := fun u => wC fun i hi => by
  split
  · exact o.nn i hi
  · exact Int.le_refl _
 have ab : ∀ i, i < s.m → t.amt s.m s.n (t.bs i) = t.T i s.n := fun i hi => by
  unfold Tb.amt
  rw [iI hi fun k hk h => if_neg fun e => h (L.bi k i hk hi e), if_pos rfl]
 have ao : ∀ l, l < s.n → t.amt s.m s.n (t.out l) = 0 := fun l hl => by
  unfold Tb.amt
  exact il fun k hk => if_neg fun e => L.bo k l hk hl e
 obtain ⟨X, hX⟩ : ∃ X : Nat → Int, X = t.amt s.m s.n := ⟨_, rfl⟩
 have rows := o.rows (x := fun u => if u = s.N then t.T s.m s.n else if u = s.N + 1 then -t.d else X u) fun i hi => by
  have e : au (s.n + 1) (fun l => t.T i l * (if t.out l = s.N then t.T s.m s.n else if t.out l = s.N + 1 then -t.d else X (t.out l))) = t.T i s.n * -t.d := by
   show au s.n _ + _ = _
   dsimp only
   rw [L.orh, if_neg (by omega), if_pos rfl, il fun l hl => ?_]
   · omega
   · have := L.ol l hl
     rw [if_neg (by omega), if_neg (by omega), hX, ao l hl, Int.mul_zero]
  rw [e]
  by_cases g : i = s.m
  · rw [g, L.bz, if_pos rfl]
    grind
  · have := L.bl i (by omega)
    rw [if_neg (by omega), if_neg (by omega), hX, ab i (by omega)]
    grind
 have xs : ∀ i, i < s.p → au s.q (fun l => s.col l i * X (l + 1)) = s.st i * X 0 + X (s.n + i) := fun i hi => by
  have r := rows i (by omega)
  rw [if_neg (by show ¬ s.n + i = s.n + (s.p + 1); omega), if_neg (by show ¬ s.n + i = s.n + (s.p + 1) + 1; omega), s.rhs_lt hi, Int.zero_mul, bD (g := fun j => s.T i j * X j) fun j hj => by
   rw [if_neg (by show ¬ j = s.n + (s.p + 1); omega), if_neg (by show ¬ j = s.n + (s.p + 1) + 1; omega)], s.row_lt hi] at r
  omega
 have x0 : X 0 = t.T s.m s.n := by
  have r := rows s.m (by omega)
  rw [if_pos rfl, s.rhs_m, Int.zero_mul, bD (g := fun j => s.T s.m j * X j) fun j hj => by
   rw [if_neg (by show ¬ j = s.n + (s.p + 1); omega), if_neg (by show ¬ j = s.n + (s.p + 1) + 1; omega)], s.row_m] at r
  omega
 have xn : ∀ u, 0 ≤ X u := fun u => by rw [hX]; exact an u
 have xp : 0 < X 0 := by
  have := xn 0
  omega
 rw [← hX]
 refine ⟨fun l => xn _, fun i hi => ?_, fun i hi e => ?_, ?_⟩
 · rw [xs i hi]
   have := xn (s.n + i)
   have := Int.mul_nonneg (show 0 ≤ s.st i by rcases hst i hi with g | g <;> omega) (xn 0)
   omega
 · rw [xs i hi, e]
   have := xn (s.n + i)
   omega
 · have bas : ∀ u, 0 < X u → u ∈ (akS s.m).map t.bs := fun u hu => by
    refine Classical.byContradiction fun no => ?_
    have : X u = 0 := by
     rw [hX]
     unfold Tb.amt
     refine il fun k hk => if_neg fun e => no (List.mem_map.mpr ⟨k, List.mem_range.mpr hk, e⟩)
    omega
   have nd : (0 :: ((akS s.q).filter fun l => decide (0 < X (l + 1))).map (· + 1)).Nodup := by
    refine List.nodup_cons.mpr ⟨fun h => ?_, ?_⟩
    · obtain ⟨l, _, e⟩ := List.mem_map.mp h
      omega
    · exact ((List.nodup_range (n := s.q)).filter _).map _ fun a b h e => h (by omega)
   have le := Cv nd fun u hu => by
    rcases List.mem_cons.mp hu with rfl | h
    · exact bas 0 xp
    · obtain ⟨l, hl, rfl⟩ := List.mem_map.mp h
      exact bas _ (of_decide_eq_true (List.mem_filter.mp hl).2)
   rw [akU, akW, akW, ak1] at le
   omega
end
end L
namespace L
structure Qw (p c : Nat) (en : Nat → Nat → Int) (st : Nat → Int) (x : Nat → Int) : Prop where
 nn : ∀ k, k < c → 0 ≤ x k
 ge : ∀ i, i < p → 0 ≤ au c fun k => en k i * x k
 gt : ∀ i, i < p → st i = 1 → 0 < au c fun k => en k i * x k
 few : ((akS c).filter fun k => decide (0 < x k)).length ≤ p
structure vp (p c : Nat) (en : Nat → Nat → Int) (st : Nat → Int) (y : Nat → Int) : Prop where
 nn : ∀ i, i < p → 0 ≤ y i
 one : ∃ i, i < p ∧ st i = 1 ∧ 0 < y i
 le : ∀ k, k < c → au p (fun i => en k i * y i) ≤ 0
def pC (ix : Nat → Nat) (x : Nat → Int) (l k : Nat) : Int := au l fun l' => if ix l' = k then x l' else 0
section
variable {p c q : Nat} {en col : Nat → Nat → Int} {st x y : Nat → Int} {ix : Nat → Nat}
theorem abH (inj : ∀ a b, a < q → b < q → ix a = ix b → a = b) {l : Nat} (hl : l < q) (k : Nat) : pC ix x (l + 1) k = if k = ix l then x l else pC ix x l k := by
 have e : pC ix x (l + 1) k = pC ix x l k + if ix l = k then x l else 0 := rfl
 rw [e]
 by_cases h : k = ix l
 · rw [if_pos h, if_pos h.symm]
   have z : pC ix x l k = 0 := il fun l' hl' => if_neg fun e => by
    have := inj l' l (by omega) hl (e.trans h)
    omega
   omega
 · rw [if_neg h, if_neg fun z => h z.symm]
   omega
theorem ado {l k : Nat} (h : 0 < pC ix x l k) (hx : ∀ a, a < l → 0 ≤ x a) : ∃ a, a < l ∧ ix a = k ∧ 0 < x a := by
 refine Classical.byContradiction fun no => ?_
 have : pC ix x l k = 0 := il fun a ha => by
  split
  · rename_i e
    have := hx a ha
    have h2 : ¬ 0 < x a := fun z => no ⟨a, ha, e, z⟩
    omega
  · rfl
 omega
theorem ae6 (inj : ∀ a b, a < q → b < q → ix a = ix b → a = b) (lt : ∀ a, a < q → ix a < c) (ec : ∀ a i, a < q → i < p → en (ix a) i = col a i) (nn : ∀ l, 0 ≤ x l) (ge : ∀ i, i < p → 0 ≤ au q fun l => col l i * x l)
 (gt : ∀ i, i < p → st i = 1 → 0 < au q fun l => col l i * x l) (few : ((akS q).filter fun l => decide (0 < x l)).length ≤ p) : Qw p c en st (pC ix x q) := by
 have sm : ∀ i, i < p → au c (fun k => en k i * pC ix x q k) = au q fun l => col l i * x l := fun i hi => by
  have e := zM (fun k => en k i) x (fun l k => if ix l = k then 1 else 0) q c
  have e1 : au c (fun k => en k i * pC ix x q k) = au c (fun k => en k i * au q fun l => (if ix l = k then 1 else 0) * x l) := bD fun k _ => by
   congr 1
   refine bD fun l _ => ?_
   split
   · omega
   · omega
  rw [e1, e]
  refine bD fun l hl => ?_
  rw [iI (lt l hl) fun k hk h => by rw [if_neg fun z => h z.symm, Int.zero_mul], if_pos rfl, Int.one_mul, ec l i hl hi]
 refine ⟨fun k _ => wC fun l _ => ?_, fun i hi => ?_, fun i hi e => ?_, ?_⟩
 · split
   · exact nn l
   · exact Int.le_refl _
 · rw [sm i hi]
   exact ge i hi
 · rw [sm i hi]
   exact gt i hi e
 · have := Cv (l := (akS c).filter fun k => decide (0 < pC ix x q k)) (l' := ((akS q).filter fun l => decide (0 < x l)).map ix) ((List.nodup_range (n := c)).filter _) fun k hk => by
    obtain ⟨a, ha, rfl, hp⟩ := ado (of_decide_eq_true (List.mem_filter.mp hk).2) fun a _ => nn a
    exact List.mem_map.mpr ⟨a, List.mem_filter.mpr ⟨List.mem_range.mpr ha, decide_eq_true hp⟩, rfl⟩
   rw [akW] at this
   omega
theorem Rv {g : Int} {n : Nat} {f z : Nat → Int} (hd : ∀ k, k < n → g ∣ z k) : g * au n (fun k => f k * (z k / g)) = au n fun k => f k * z k := by
 rw [← kY]
 refine bD fun k hk => ?_
 have := Int.mul_ediv_cancel' (hd k hk)
 grind
theorem div_pos {g a : Int} (hg : 1 ≤ g) (hd : g ∣ a) : 0 < a / g ↔ 0 < a := by
 have e := Int.mul_ediv_cancel' hd
 constructor
 · intro h
   have := Int.mul_pos (show 0 < g by omega) h
   omega
 · intro h
   refine Int.not_le.mp fun h2 => ?_
   have := Int.mul_le_mul_of_nonneg_left h2 (show 0 ≤ g by omega)
   omega
theorem Z4 {g a : Int} (hg : 1 ≤ g) (h : 0 ≤ a) : 0 ≤ a / g := Int.ediv_nonneg h (by omega)
theorem Qw.div (A : Qw p c en st x) {g : Int} (hg : 1 ≤ g) (hd : ∀ k, k < c → g ∣ x k) : Qw p c en st fun k => x k / g := by
 refine ⟨fun k hk => Z4 hg (A.nn k hk), fun i hi => ?_, fun i hi e => ?_, ?_⟩
 · have e1 := Rv (f := fun k => en k i) hd
   have := A.ge i hi
   refine Int.not_lt.mp fun h2 => ?_
   have := Int.mul_lt_mul_of_pos_left h2 (show 0 < g by omega)
   omega
 · have e1 := Rv (f := fun k => en k i) hd
   have := A.gt i hi e
   refine Int.not_le.mp fun h2 => ?_
   have := Int.mul_le_mul_of_nonneg_left h2 (show 0 ≤ g by omega)
   omega
 · have e : ((akS c).filter fun k => decide (0 < x k / g)) = (akS c).filter fun k => decide (0 < x k) := by
    refine List.filter_congr fun k hk => ?_
    exact decide_eq_decide.mpr (div_pos hg (hd k (List.mem_range.mp hk)))
   rw [e]
   exact A.few
theorem vp.div (W : vp p c en st y) {g : Int} (hg : 1 ≤ g) (hd : ∀ i, i < p → g ∣ y i) : vp p c en st fun i => y i / g := by
 refine ⟨fun i hi => Z4 hg (W.nn i hi), ?_, fun k hk => ?_⟩
 · obtain ⟨i, hi, e, h⟩ := W.one
   exact ⟨i, hi, e, (div_pos hg (hd i hi)).mpr h⟩
 · have e1 := Rv (f := fun i => en k i) hd
   have := W.le k hk
   refine Int.not_lt.mp fun h2 => ?_
   have := Int.mul_lt_mul_of_pos_left h2 (show 0 < g by omega)
   omega
end
end L
namespace L
def xO : Nat → (Nat → Int) → Int
 | 0, _ => 1
 | n + 1, f => xO n f * f n
theorem Nt {f g : Nat → Int} : ∀ {n : Nat}, (∀ k, k < n → f k = g k) → xO n f = xO n g
 | 0, _ => rfl
 | n + 1, h => by
   unfold xO
   rw [Nt fun k hk => h k (Nat.lt_succ_of_lt hk), h n (Nat.lt_succ_self n)]
theorem Lk {f : Nat → Int} : ∀ {n : Nat}, (∀ k, k < n → 0 < f k) → 0 < xO n f
 | 0, _ => by
   show (0 : Int) < 1
   decide
 | n + 1, h => Int.mul_pos (Lk fun k hk => h k (Nat.lt_succ_of_lt hk)) (h n (Nat.lt_succ_self n))
theorem Sd (f : Nat → Int) : ∀ {n c : Nat}, c < n → f c * xO n (upd f c 1) = xO n f
 | n + 1, c, h => by
   unfold xO
   by_cases e : c = n
   · rw [e, pB, Nt (g := f) fun k hk => upd_ne f 1 (Nat.ne_of_lt hk), Int.mul_one, Int.mul_comm]
   · rw [upd_ne f 1 (fun z => e z.symm), ← Int.mul_assoc, Sd f (n := n) (c := c) (by omega)]
theorem abI (n : Nat) : ∀ f : Nat → Int, au n (fun i => f (n - 1 - i)) = au n f := by
 induction n with
 | zero => exact fun _ => rfl
 | succ n ih =>
   intro f
   have e1 : au (n + 1) (fun i => f (n + 1 - 1 - i)) = au n (fun i => f (n - i)) + f 0 := by
    show au n (fun i => f (n + 1 - 1 - i)) + f (n + 1 - 1 - n) = _
    rw [show n + 1 - 1 - n = 0 by omega]
    congr 1
   have e2 : au (n + 1) f = f 0 + au n (fun i => f (1 + i)) := by
    rw [show n + 1 = 1 + n by omega, xM]
    congr 1
    show 0 + f 0 = f 0
    omega
   have e3 := ih fun i => f (1 + i)
   rw [e1, e2, ← e3, bD (f := fun i => f (n - i)) (g := fun i => f (1 + (n - 1 - i))) fun i hi => by rw [show 1 + (n - 1 - i) = n - i by omega]]
   omega
structure FA (p c : Nat) (en : Nat → Nat → Int) (st x : Nat → Int) : Prop where
 nn : ∀ k, k < c → 0 ≤ x k
 ge : ∀ i, i < p → 0 ≤ au c fun k => en k i * x k
 gt : ∀ i, i < p → st i = 1 → 0 < au c fun k => en k i * x k
section
variable {p c : Nat} {en : Nat → Nat → Int} {st x y : Nat → Int}
theorem Qw.fa (A : Qw p c en st x) : FA p c en st x := ⟨A.nn, A.ge, A.gt⟩
theorem FA.no (A : FA p c en st x) (W : vp p c en st y) : False := by
 have e : au c (fun l => x l * au p (fun i => en l i * y i)) = au p (fun i => au c (fun l => en l i * x l) * y i) := zM x y (fun i l => en l i) p c
 have le : 0 ≤ au c (fun l => x l * -au p (fun i => en l i * y i)) := wC fun l hl => Int.mul_nonneg (A.nn l hl) (by have := W.le l hl; omega)
 have e2 : au c (fun l => x l * -au p (fun i => en l i * y i)) = -1 * au c (fun l => x l * au p (fun i => en l i * y i)) := by
  rw [← kY]
  refine bD fun l _ => ?_
  grind
 obtain ⟨i, hi, e1, yi⟩ := W.one
 have z := O5 (f := fun i => au c (fun l => en l i * x l) * y i) (n := p) (fun i hi => Int.mul_nonneg (A.ge i hi) (W.nn i hi)) (by omega) i hi
 have := Int.mul_pos (A.gt i hi e1) yi
 omega
theorem FA.congr {en' : Nat → Nat → Int} {st' : Nat → Int} (A : FA p c en st x) (h : ∀ k i, k < c → i < p → en' k i = en k i) (hs : ∀ i, i < p → st' i = st i) : FA p c en' st' x := by
 have e : ∀ i, i < p → au c (fun k => en' k i * x k) = au c fun k => en k i * x k := fun i hi => bD fun k hk => by rw [h k i hk hi]
 exact ⟨A.nn, fun i hi => by rw [e i hi]; exact A.ge i hi, fun i hi z => by rw [e i hi]; exact A.gt i hi (by rw [← hs i hi]; exact z)⟩
theorem vp.congr {en' : Nat → Nat → Int} {st' : Nat → Int} (W : vp p c en st y) (h : ∀ k i, k < c → i < p → en' k i = en k i) (hs : ∀ i, i < p → st' i = st i) : vp p c en' st' y := by
 refine ⟨W.nn, ?_, fun k hk => ?_⟩
 · obtain ⟨i, hi, e, z⟩ := W.one
   exact ⟨i, hi, by rw [hs i hi]; exact e, z⟩
 · rw [bD (g := fun i => en k i * y i) fun i hi => by rw [h k i hk hi]]
   exact W.le k hk
theorem FA.scale (A : FA p c en st x) {m : Nat → Int} (hm : ∀ k, k < c → 0 < m k) : FA p c (fun k i => m k * en k i) st fun k => x k * xO c (upd m k 1) := by
 have P := Lk hm
 have e : ∀ i, au c (fun k => m k * en k i * (x k * xO c (upd m k 1))) = xO c m * au c fun k => en k i * x k := fun i => by
  rw [← kY]
  refine bD fun k hk => ?_
  have := Sd m hk
  rw [← this]
  grind
 refine ⟨fun k hk => Int.mul_nonneg (A.nn k hk) (Int.le_of_lt (Lk fun j hj => ?_)), fun i hi => ?_, fun i hi z => ?_⟩
 · unfold upd
   split
   · decide
   · exact hm j hj
 · rw [e i]
   exact Int.mul_nonneg (Int.le_of_lt P) (A.ge i hi)
 · rw [e i]
   exact Int.mul_pos P (A.gt i hi z)
theorem vp.scale (W : vp p c en st y) {m : Nat → Int} (hm : ∀ k, k < c → 0 < m k) : vp p c (fun k i => m k * en k i) st y := by
 refine ⟨W.nn, W.one, fun k hk => ?_⟩
 have e : au p (fun i => m k * en k i * y i) = m k * au p fun i => en k i * y i := by
  rw [← kY]
  exact bD fun i _ => Int.mul_assoc _ _ _
 rw [e]
 have := Int.mul_le_mul_of_nonneg_left (W.le k hk) (Int.le_of_lt (hm k hk))
 omega
def rot (c cut k : Nat) : Nat := if k < c - cut then cut + k else k - (c - cut)
theorem Z5 {cut k : Nat} (hc : cut ≤ c) (hk : k < c) : rot c cut k < c := by
 unfold rot
 split <;> omega
theorem abJ {cut : Nat} (hc : cut ≤ c) (f : Nat → Int) : au c (fun k => f (rot c cut k)) = au c f := by
 obtain ⟨r, rfl⟩ : ∃ r, c = cut + r := ⟨c - cut, by omega⟩
 have e1 := xM (fun k => f (rot (cut + r) cut k)) r cut
 rw [xM f cut r, show cut + r = r + cut by omega]
 rw [show cut + r = r + cut by omega] at e1
 rw [e1, bD (g := fun i => f (cut + i)) fun k hk => by unfold rot; rw [if_pos (by omega)], bD (f := fun i => f (rot (r + cut) cut (r + i))) (g := f) fun k hk => by unfold rot; rw [if_neg (by omega), show r + k - (r + cut - cut) = k by omega]]
 omega
theorem FA.rot (A : FA p c en st x) {cut : Nat} (hc : cut ≤ c) : FA p c (fun k i => en (rot c cut k) i) st fun k => x (L.rot c cut k) := by
 have e : ∀ i, au c (fun k => en (L.rot c cut k) i * x (L.rot c cut k)) = au c fun k => en k i * x k := fun i => abJ hc fun k => en k i * x k
 exact ⟨fun k hk => A.nn _ (Z5 hc hk), fun i hi => by rw [e i]; exact A.ge i hi, fun i hi z => by rw [e i]; exact A.gt i hi z⟩
theorem vp.rot (W : vp p c en st y) {cut : Nat} (hc : cut ≤ c) : vp p c (fun k i => en (rot c cut k) i) st y := ⟨W.nn, W.one, fun k hk => W.le _ (Z5 hc hk)⟩
theorem FA.rev (A : FA p c en st x) : FA p c (fun k i => en k (p - 1 - i)) (fun i => st (p - 1 - i)) x := ⟨A.nn, fun i hi => A.ge (p - 1 - i) (by omega), fun i hi z => A.gt (p - 1 - i) (by omega) z⟩
theorem vp.rev (W : vp p c en st y) : vp p c (fun k i => en k (p - 1 - i)) (fun i => st (p - 1 - i)) fun i => y (p - 1 - i) := by
 refine ⟨fun i hi => W.nn _ (by omega), ?_, fun k hk => ?_⟩
 · obtain ⟨i, hi, e, z⟩ := W.one
   exact ⟨p - 1 - i, by omega, by rw [show p - 1 - (p - 1 - i) = i by omega]; exact e, by rw [show p - 1 - (p - 1 - i) = i by omega]; exact z⟩
 · rw [abI p fun i => en k i * y i]
   exact W.le k hk
theorem FA.planted {need : Nat → Int} (h : ∀ i, i < p → en c i = need i - au c fun k => en k i * (1 + (k : Int))) (h0 : ∀ i, i < p → 0 ≤ need i) (h1 : ∀ i, i < p → st i = 1 → 0 < need i) : FA p (c + 1) en st fun k => if k = c then 1 else 1 + (k : Int) := by
 have e : ∀ i, i < p → au (c + 1) (fun k => en k i * if k = c then 1 else 1 + (k : Int)) = need i := fun i hi => by
  show au c _ + en c i * (if c = c then 1 else 1 + (c : Int)) = _
  rw [if_pos rfl, h i hi, bD (g := fun k => en k i * (1 + (k : Int))) fun k hk => by rw [if_neg (by omega)]]
  omega
 refine ⟨fun k _ => ?_, fun i hi => by rw [e i hi]; exact h0 i hi, fun i hi z => by rw [e i hi]; exact h1 i hi z⟩
 split <;> omega
end
end L
namespace L
open PySem PySem.Spec L2 Pk
theorem Ss {n a : Nat} {pre suf : List Nat} (e : akS n = pre ++ a :: suf) : pre.length < n ∧ a = pre.length := by
 have hl : pre.length < n := by
  have := congrArg List.length e
  rw [ak1, ak3, akU] at this
  omega
 refine ⟨hl, ?_⟩
 have := congrArg (fun l => l[pre.length]?) e
 rw [ali (Nat.le_refl _), Nat.sub_self, List.getElem?_range hl] at this
 exact (Option.some.inj this).symm
section
variable {g : D → M Unit} {b : M Fl} {L : Fl → Fr → Hh → Prop} {E : aH → Fr → Hh → Prop} {fr : Fr} {h : Hh} {c n : Nat} {l : List D} {F : Nat → D}
theorem O6 (I : Nat → Fr → Hh → Prop) (cell : ∀ k fr h, I k fr h → h[c]? = some (.nl l)) (i0 : I 0 fr h)
 (st : ∀ k fr h, k < n → I k fr h → Wp (g (F k) fr h) (fun _ fr h => Wp (b fr h) (fun f fr h => Bw f (I (k + 1) fr h) fun f => L f fr h) E) dD)
 (en : ∀ fr h, I n fr h → L .nx fr h) : Wp (oW c l g b ((akS n).map F) fr h) L E := by
 refine adc (fun pre fr h => I pre.length fr h) (fun pre fr h i => cell _ fr h i) i0 (fun pre a suf fr h e i => ?_) fun fr h i => en fr h (by rw [ak1] at i; exact i)
 obtain ⟨h1, rfl⟩ := Ss e
 rw [ak3, alg]
 exact st _ fr h h1 i
theorem yN (I : Nat → Fr → Hh → Prop) (i0 : I 0 fr h)
 (st : ∀ k fr h, k < n → I k fr h → Wp (g (F k) fr h) (fun _ fr h => Wp (b fr h) (fun f fr h => Bw f (I (k + 1) fr h) fun f => L f fr h) E) dD)
 (en : ∀ fr h, I n fr h → L .nx fr h) : Wp (ou g b ((akS n).map F) fr h) L E := by
 refine Vj (fun pre fr h => I pre.length fr h) i0 (fun pre a suf fr h e i => ?_) fun fr h i => en fr h (by rw [ak1] at i; exact i)
 obtain ⟨h1, rfl⟩ := Ss e
 rw [ak3, alg]
 exact st _ fr h h1 i
end
theorem Qx : ∀ (l : List D) (i : Nat), eG i l = (akS l.length).map fun k => D.tup [.int ((i + k : Nat) : Int), (l[k]?).getD .non]
 | [], i => by simp [eG]
 | d :: l, i => by
   rw [eG, Qx l (i + 1), akU, List.range_succ_eq_map, akY, alc]
   congr 1
   refine alp fun k _ => ?_
   show D.tup [.int ((i + 1 + k : Nat) : Int), _] = D.tup [.int ((i + (k + 1) : Nat) : Int), _]
   rw [show i + 1 + k = i + (k + 1) by omega]
   rfl
structure Tab where
 t : Nat
 g : Nat
 o : Nat
 b : Nat
 rp : Nat → Nat
 tb : Tb
def nD (i : Nat) : D := .int (i : Int)
def aV (n : Nat) (f : Nat → D) : List D := (akS n).map f
def dw (n : Nat) (f : Nat → Int) : List D := aV (n + 1) fun j => .int (f j)
def Tab.fs (T : Tab) : List D := [.ref T.g, .ref T.o, .ref T.b, .int T.tb.d]
def Tab.cl (T : Tab) (m n : Nat) : Mem := (T.t, .no 0 T.fs) :: (T.g, .nl (aV (m + 1) fun i => .ref (T.rp i))) :: (T.o, .nl (aV n fun l => nD (T.tb.out l))) :: (T.b, .nl (aV m fun i => nD (T.tb.bs i))) :: (akS (m + 1)).map fun i => (T.rp i, .nl (dw n (T.tb.T i)))
structure Tab.Sh (T : Tab) (m n : Nat) : Prop where
 sm : m ≤ 50
 sn : n ≤ 50
 bd : ∀ i j, i ≤ m → j ≤ n → (T.tb.T i j).natAbs < 2 ^ 4000
def optN : Option Nat → D
 | none => .non
 | some q => .int (q : Int)
theorem Ln : optN none = .non := rfl
theorem uJ (q : Nat) : optN (some q) = .int (q : Int) := rfl
theorem Jk (r : Option Nat) : (optN r).own = false := by cases r <;> rfl
theorem cZ (n : Nat) (f : Nat → D) : (aV n f).length = n := by
 unfold aV
 rw [akW, ak1]
theorem tG {n : Nat} (f : Nat → D) {i : Nat} (h : i < n) : (aV n f)[i]? = some (f i) := by
 unfold aV
 rw [ak5, List.getElem?_range h]
 rfl
theorem Vy {n : Nat} (f : Nat → D) : (aV (n + 1) f).getLast? = some (f n) := by
 rw [List.getLast?_eq_getElem?, cZ, Nat.add_sub_cancel, tG f (Nat.lt_succ_self n)]
theorem mD {n : Nat} {f g : Nat → D} (h : ∀ i, i < n → f i = g i) : aV n f = aV n g := alp fun i hi => h i (List.mem_range.mp hi)
theorem Ju {α : Type} {n k : Nat} (f : Nat → α) (v : α) : ((akS n).map f).set k v = (akS n).map fun i => if i = k then v else f i := by
 refine List.ext_getElem (by simp) fun i h1 h2 => ?_
 rw [List.getElem_set]
 simp only [List.getElem_map, List.getElem_range]
 by_cases c : i = k
 · rw [if_pos c.symm, if_pos c]
 · rw [if_neg fun z => c z.symm, if_neg c]
theorem adp {n k : Nat} (f : Nat → D) (v : D) : (aV n f).set k v = aV n fun i => if i = k then v else f i := Ju f v
section
variable {h : Hh} {T : Tab} {F : Mem} {m n i j : Nat}
theorem Xp {n c : Nat} {fs : List D} (e : h[n]? = some (.no c fs)) : (D.ref n).ins h = some (c, fs) := by
 unfold D.ins D.der
 dsimp only
 rw [e]
 rfl
theorem Cy {n c i : Nat} {fs : List D} {ix : Nat → Option Nat} (e : h[n]? = some (.no c fs)) (hi : ix c = some i) : cC ix h (.ref n) = fs[i]? := by
 unfold cC
 rw [Xp e]
 dsimp only
 rw [hi]
theorem Z6 {n c : Nat} {fs : List D} {mt : Nat → Option Fn} (e : h[n]? = some (.no c fs)) : fnOf mt h (.ref n) = mt c := by
 unfold fnOf
 rw [Xp e]
theorem Vz (H : cU h (T.cl m n ++ F)) : h[T.t]? = some (.no 0 T.fs) := H.get (i := 0) rfl
theorem rZ (H : cU h (T.cl m n ++ F)) : cC di h (.ref T.t) = some (.ref T.g) ∧ cC d7 h (.ref T.t) = some (.ref T.o) ∧ cC ir h (.ref T.t) = some (.ref T.b) ∧ cC kJ h (.ref T.t) = some (.int T.tb.d) := by
 have e := Vz H
 exact ⟨Cy (i := 0) e rfl, Cy (i := 1) e rfl, Cy (i := 2) e rfl, Cy (i := 3) e rfl⟩
theorem MT {mt : Nat → Option Fn} (H : cU h (T.cl m n ++ F)) : fnOf mt h (.ref T.t) = mt 0 := Z6 (Vz H)
theorem TV (H : cU h (T.cl m n ++ F)) : h[T.g]? = some (.nl (aV (m + 1) fun i => .ref (T.rp i))) := H.get (i := 1) rfl
theorem TX (H : cU h (T.cl m n ++ F)) : h[T.o]? = some (.nl (aV n fun l => nD (T.tb.out l))) := H.get (i := 2) rfl
theorem TY (H : cU h (T.cl m n ++ F)) : h[T.b]? = some (.nl (aV m fun i => nD (T.tb.bs i))) := H.get (i := 3) rfl
theorem Z7 (hi : i ≤ m) : (T.cl m n ++ F)[4 + i]? = some (T.rp i, .nl (dw n (T.tb.T i))) := by
 have e : ((akS (m + 1)).map fun i => (T.rp i, D.nl (dw n (T.tb.T i))))[i]? = some (T.rp i, .nl (dw n (T.tb.T i))) := by
  rw [ak5, List.getElem?_range (by omega)]
  rfl
 unfold Tab.cl
 rw [alk (by simp; omega), show 4 + i = i + 1 + 1 + 1 + 1 by omega]
 simp only [akT]
 exact e
theorem Qy (H : cU h (T.cl m n ++ F)) (hi : i ≤ m) : h[T.rp i]? = some (.nl (dw n (T.tb.T i))) := H.get (Z7 hi)
theorem YB (H : cU h (T.cl m n ++ F)) (hi : i ≤ m) : aP h (.ref T.g) (.int (i : Int)) = some (.ref (T.rp i)) := by
 rw [yC (TV H), ju, tG _ (by omega)]
theorem T5 (H : cU h (T.cl m n ++ F)) : aP h (.ref T.g) (.int (-1)) = some (.ref (T.rp m)) := by
 rw [yC (TV H), acb, Vy]
theorem Rx (H : cU h (T.cl m n ++ F)) (hi : i ≤ m) (hj : j ≤ n) : aP h (.ref (T.rp i)) (.int (j : Int)) = some (.int (T.tb.T i j)) := by
 rw [yC (Qy H hi), ju]
 exact tG _ (by omega)
theorem Qz (H : cU h (T.cl m n ++ F)) (hi : i ≤ m) : aP h (.ref (T.rp i)) (.int (-1)) = some (.int (T.tb.T i n)) := by
 rw [yC (Qy H hi), acb]
 exact Vy _
theorem ae7 (H : cU h (T.cl m n ++ F)) (hj : j < n) : aP h (.ref T.o) (.int (j : Int)) = some (.int (T.tb.out j : Int)) := by
 rw [yC (TX H), ju]
 exact tG _ hj
theorem ae8 (H : cU h (T.cl m n ++ F)) (hi : i < m) : aP h (.ref T.b) (.int (i : Int)) = some (.int (T.tb.bs i : Int)) := by
 rw [yC (TY H), ju]
 exact tG _ hi
theorem uP (n : Nat) (f : Nat → D) : eG 0 (aV n f) = (akS n).map fun (k : Nat) => D.tup [.int (k : Int), f k] := by
 rw [Qx, cZ]
 refine alp fun k hk => ?_
 rw [tG f (List.mem_range.mp hk), Nat.zero_add]
 rfl
def Ent (T : Tab) (m k : Nat) : Option Nat → Prop
 | none => ∀ l, l < k → 0 ≤ T.tb.T m l
 | some q => q < k ∧ T.tb.T m q < 0 ∧ ∀ l, l < k → T.tb.T m l < 0 → T.tb.out q ≤ T.tb.out l
theorem Tc (H : cU h (T.cl m n ++ F)) (S : T.Sh m n) : ∃ r, iD [.ref T.t] h = .ok (optN r) [] h ∧ Ent T m n r := by
 obtain ⟨fg, fo, fb, fd⟩ := rZ H
 have gm := T5 H
 have co := TX H
 have cl : pJ h (.ref T.o) = some (T.o, (aV n fun l => nD (T.tb.out l))) := by
  unfold pJ
  dsimp only
  rw [co]
 obtain ⟨B, hB⟩ : ∃ B, B = nO := ⟨_, rfl⟩
 have k1 : qW = (aD (sY (uG (aJ (cC d7) (aN 0))) (dH 2 (aU (aR 2) (aU (aR 3) dJ))) B) (cO (uh 1))) := by rw [hB]; rfl
 have b1 : fj (.int 1) = some (.int (-1)) := rfl
 have lp : Wp (oW T.o ((aV n fun l => nD (T.tb.out l))) (dH 2 (aU (aR 2) (aU (aR 3) dJ))) B ((akS n).map fun (k : Nat) => D.tup [.int (k : Int), nD (T.tb.out k)]) [some (.ref T.t), some .non, none, none] h)
  (fun f fr h' => f = .nx ∧ h' = h ∧ ∃ r x2 x3, fr = [some (.ref T.t), some (optN r), x2, x3] ∧ Ent T m n r) dD := by
  refine O6 (fun k fr h' => h' = h ∧ ∃ r x2 x3, fr = [some (.ref T.t), some (optN r), x2, x3] ∧ Ent T m k r) ?_ ?_ ?_ ?_
  · rintro k fr h' ⟨rfl, _⟩
    exact co
  · exact ⟨rfl, none, none, none, rfl, fun l hl => by omega⟩
  · rintro k fr h' hk ⟨rfl, r, x2, x3, rfl, en⟩
    have ee := Rx H (Nat.le_refl m) (Nat.le_of_lt hk)
    rw [hB]
    by_cases c : T.tb.T m k < 0
    · have d1 : decide (T.tb.T m k < 0) = true := decide_eq_true c
      cases r with
      | none =>
        have cn : CJ h' D.non .non = some true := rfl
        simp only [↓cW, nD, akU, akV, Nat.zero_add, Nat.reduceAdd, ↓cH, ↓bf, Ln, akP, akQ, aC, ↓cV, ↓nZ, ↓gh, ↓mJ, ↓bK, ↓cD, ↓cY, akR, aA, fg, aK, ↓cP, b1, Int.reduceNeg, gm, ↓aQ, akT, aW, bH, ee, dZ, d1, dF, ↓ux, Ra, cn, ↓dB, d9, true_and]
        exact ⟨some k, _, _, rfl, Nat.lt_succ_self k, c, fun l hl hc => by
         by_cases g : l = k
         · rw [g]
           exact Nat.le_refl _
         · have := en l (by omega)
           omega⟩
      | some q =>
        obtain ⟨h1, h2, h3⟩ := en
        have cn : CJ h' (.int (q : Int)) .non = some false := rfl
        have xo := ae7 H (j := q) (by omega)
        by_cases c2 : T.tb.out k < T.tb.out q
        · have d2 : decide ((T.tb.out k : Int) < (T.tb.out q : Int)) = true := decide_eq_true (by omega)
          simp only [↓cW, nD, akU, akV, Nat.zero_add, Nat.reduceAdd, ↓cH, ↓bf, uJ, akP, akQ, aC, ↓cV, ↓nZ, ↓gh, ↓mJ, ↓bK, ↓cD, ↓cY, akR, aA, fg, aK, ↓cP, b1, Int.reduceNeg, gm, ↓aQ, akT, aW, bH, ee, dZ, d1, dF, ↓ux, cn, fo, xo, d2, ↓dB, d9, true_and]
          exact ⟨some k, _, _, rfl, Nat.lt_succ_self k, c, fun l hl hc => by
           by_cases g : l = k
           · rw [g]
             exact Nat.le_refl _
           · have := h3 l (by omega) hc
             omega⟩
        · have d2 : decide ((T.tb.out k : Int) < (T.tb.out q : Int)) = false := decide_eq_false (by omega)
          simp only [↓cW, nD, akU, akV, Nat.zero_add, Nat.reduceAdd, ↓cH, ↓bf, uJ, akP, akQ, aC, ↓cV, ↓nZ, ↓gh, ↓mJ, ↓bK, ↓cD, ↓cY, akR, aA, fg, aK, ↓cP, b1, Int.reduceNeg, gm, ↓aQ, akT, aW, bH, ee, dZ, d1, dF, ↓ux, cn, fo, xo, d2, ↓cX, d9, true_and]
          exact ⟨some q, _, _, rfl, by omega, h2, fun l hl hc => by
           by_cases g : l = k
           · rw [g]
             omega
           · exact h3 l (by omega) hc⟩
    · have d1 : decide (T.tb.T m k < 0) = false := decide_eq_false c
      have ow := Jk r
      obtain ⟨OR, hOR⟩ : ∃ x, x = optN r := ⟨_, rfl⟩
      rw [← hOR] at ow ⊢
      simp only [↓cW, nD, akU, akV, Nat.zero_add, Nat.reduceAdd, ↓cH, ↓bf, akP, akQ, aC, ↓cV, ↓nZ, ↓gh, ↓mJ, ↓bK, ↓cD, ↓cY, akR, aA, fg, aK, ↓cP, b1, Int.reduceNeg, gm, ↓aQ, akT, aW, bH, ee, dZ, d1, ↓cX, d9, true_and]
      refine ⟨r, _, _, by rw [hOR], ?_⟩
      cases r with
      | none =>
        intro l hl
        by_cases g : l = k
        · rw [g]
          omega
        · exact en l (by omega)
      | some q =>
        obtain ⟨h1, h2, h3⟩ := en
        exact ⟨by omega, h2, fun l hl hc => by
         by_cases g : l = k
         · rw [g] at hc
           exact absurd hc c
         · exact h3 l (by omega) hc⟩
  · rintro fr h' ⟨rfl, r, x2, x3, rfl, en⟩
    exact ⟨rfl, rfl, r, x2, x3, rfl, en⟩
 have eo := uP n (fun l => nD (T.tb.out l))
 have w : Wp (iD [.ref T.t] h) (fun d fr h' => fr = [] ∧ h' = h ∧ ∃ r, d = optN r ∧ Ent T m n r) dD := by
  clear H
  generalize (aV n fun l => nD (T.tb.out l)) = OD at *
  simp only [↓Jf, ↓gH, startF, akY, ak2, akU, akV, Nat.zero_add, Nat.reduceSub, ale, ala, alf, alh, aC, ↓JL, ↓cR, ↓dB, ↓cP, akP, akQ, cA, k1, ↓Oj, ↓Ol, ↓cD, ↓cY, akR, aA, fo, aK, cl, Option.map_some, eo]
  refine lp.mono ?_
  rintro f fr h' ⟨rfl, rfl, r, x2, x3, rfl, en⟩
  have ow := Jk r
  obtain ⟨OR, hOR⟩ : ∃ x, x = optN r := ⟨_, rfl⟩
  rw [← hOR] at ow ⊢
  simp only [cA, ↓lD, ↓Q7, akT, akR, akP, akQ, aA, aC, lN, true_and]
  exact ⟨r, hOR, en⟩
 obtain ⟨d, fr, h', e, rfl, rfl, r, rfl, en⟩ := w.out
 exact ⟨r, e, en⟩
end
end L
namespace L
open PySem PySem.Spec L2 Pk
theorem abK {xk pk xa pa xi pi : Int} (ha : 0 < pa) (hk : 0 < pk) (hi : 0 < pi) (h1 : xk * pa < xa * pk) (h2 : xa * pi ≤ xi * pa) : xk * pi < xi * pk := by
 have g1 := Int.mul_lt_mul_of_pos_right h1 hi
 have g2 := Int.mul_le_mul_of_nonneg_right h2 (Int.le_of_lt hk)
 refine Int.lt_of_mul_lt_mul_left (a := pa) ?_ (Int.le_of_lt ha)
 have e1 : pa * (xk * pi) = xk * pa * pi := by grind
 have e2 : pa * (xi * pk) = xi * pa * pk := by grind
 have e3 : xa * pk * pi = xa * pi * pk := by grind
 omega
theorem abL {xk pk xa pa xi pi : Int} (ha : 0 < pa) (hk : 0 < pk) (hi : 0 < pi) (h1 : xk * pa = xa * pk) (h2 : xa * pi ≤ xi * pa) : xk * pi ≤ xi * pk ∧ (xi * pk = xk * pi → xi * pa = xa * pi) := by
 have g1 : xk * pa * pi = xa * pk * pi := by rw [h1]
 have g2 := Int.mul_le_mul_of_nonneg_right h2 (Int.le_of_lt hk)
 have e1 : pa * (xk * pi) = xk * pa * pi := by grind
 have e2 : pa * (xi * pk) = xi * pa * pk := by grind
 have e3 : xa * pk * pi = xa * pi * pk := by grind
 refine ⟨Int.le_of_mul_le_mul_left (a := pa) (by omega) ha, fun e => ?_⟩
 refine Int.eq_of_mul_eq_mul_left (a := pk) (by omega) ?_
 have e4 : pa * (xi * pk) = pa * (xk * pi) := by rw [e]
 have e5 : pk * (xi * pa) = xi * pa * pk := by grind
 have e6 : pk * (xa * pi) = xa * pi * pk := by grind
 omega
def Lv (T : Tab) (n q k : Nat) : Option Nat → Prop
 | none => ∀ i, i < k → T.tb.T i q ≤ 0
 | some a => a < k ∧ 0 < T.tb.T a q ∧ ∀ i, i < k → 0 < T.tb.T i q → T.tb.T a n * T.tb.T i q ≤ T.tb.T i n * T.tb.T a q ∧ (T.tb.T i n * T.tb.T a q = T.tb.T a n * T.tb.T i q → T.tb.bs a ≤ T.tb.bs i)
theorem Bf {a b : Int} (ha : a.natAbs < 2 ^ 4000) (hb : b.natAbs < 2 ^ 4000) : uz a b = true := by
 have l1 := log2_lt ha (by decide)
 have l2 := log2_lt hb (by decide)
 exact decide_eq_true (by omega)
theorem VB {a b : Int} (h0 : 0 < b) (hb : b.natAbs < 2 ^ 4000) : JW a b = true := by
 have l2 := log2_lt hb (by decide)
 unfold JW
 rw [decide_eq_true h0, decide_eq_true (show b.natAbs.log2 < 9000 by omega)]
 rfl
section
variable {h : Hh} {T : Tab} {F : Mem} {m n i j q : Nat}
theorem VD (H : cU h (T.cl m n ++ F)) (S : T.Sh m n) (hq : q ≤ n) : ∃ r, jw [.ref T.t, .int (q : Int)] h = .ok (optN r) [] h ∧ Lv T n q m r := by
 obtain ⟨fg, fo, fb, fd⟩ := rZ H
 have co := TY H
 have cl : pJ h (.ref T.b) = some (T.b, (aV m fun i => nD (T.tb.bs i))) := by
  unfold pJ
  dsimp only
  rw [co]
 obtain ⟨B, hB⟩ : ∃ B, B = oY := ⟨_, rfl⟩
 have k1 : rP = (aD (sY (uG (aJ (cC ir) (aN 0))) (dH 2 (aU (aR 3) (aU (aR 4) dJ))) B) (cO (uh 2))) := by rw [hB]; rfl
 have b1 : fj (.int 1) = some (.int (-1)) := rfl
 have lp : Wp (oW T.b (aV m fun i => nD (T.tb.bs i)) (dH 2 (aU (aR 3) (aU (aR 4) dJ))) B ((akS m).map fun (k : Nat) => D.tup [.int (k : Int), nD (T.tb.bs k)]) [some (.ref T.t), some (.int (q : Int)), some .non, none, none, none, none] h)
  (fun f fr h' => f = .nx ∧ h' = h ∧ ∃ r x3 x4 x5 x6, fr = [some (.ref T.t), some (.int (q : Int)), some (optN r), x3, x4, x5, x6] ∧ Lv T n q m r) dD := by
  refine O6 (fun k fr h' => h' = h ∧ ∃ r x3 x4 x5 x6, fr = [some (.ref T.t), some (.int (q : Int)), some (optN r), x3, x4, x5, x6] ∧ Lv T n q k r) ?_ ?_ ?_ ?_
  · rintro k fr h' ⟨rfl, _⟩
    exact co
  · exact ⟨rfl, none, none, none, none, none, rfl, fun l hl => by omega⟩
  · rintro k fr h' hk ⟨rfl, r, x3, x4, x5, x6, rfl, en⟩
    have xg := YB H (i := k) (by omega)
    have xe := Rx H (i := k) (j := q) (by omega) hq
    have xm := Qz H (i := k) (by omega)
    rw [hB]
    by_cases c : T.tb.T k q ≤ 0
    · have d1 : decide (T.tb.T k q ≤ 0) = true := decide_eq_true c
      have ow := Jk r
      obtain ⟨OR, hOR⟩ : ∃ x, x = optN r := ⟨_, rfl⟩
      rw [← hOR] at ow ⊢
      simp only [↓cW, nD, akU, akV, Nat.zero_add, Nat.reduceAdd, ↓cH, ↓bf, akP, akQ, aC, ↓cV, ↓jn, ↓cR, ↓dB, ↓bK, ↓cD, ↓cY, akR, aA, fg, aK, ↓aQ, akT, aW, bH, xg, xe, cA, ↓gh, ↓cP, dZ, d1, dF, ↓cX, Qm, wY, true_and]
      refine ⟨r, _, _, _, _, by rw [hOR], ?_⟩
      cases r with
      | none =>
        intro l hl
        by_cases g : l = k
        · rw [g]
          exact c
        · exact en l (by omega)
      | some a =>
        obtain ⟨h1, h2, h3⟩ := en
        exact ⟨by omega, h2, fun l hl hc => by
         by_cases g : l = k
         · rw [g] at hc
           omega
         · exact h3 l (by omega) hc⟩
    · have d1 : decide (T.tb.T k q ≤ 0) = false := decide_eq_false c
      cases r with
      | none =>
        have cn : CJ h' D.non .non = some true := rfl
        simp only [↓cW, nD, akU, akV, Nat.zero_add, Nat.reduceAdd, ↓cH, ↓bf, Ln, akP, akQ, aC, ↓cV, ↓jn, ↓cR, ↓dB, ↓bK, ↓cD, ↓cY, akR, aA, fg, aK, ↓aQ, akT, aW, bH, xg, xe, cA, ↓gh, ↓cP, dZ, d1, ↓cX, Ra, cn, dF, Qm, wY, true_and]
        exact ⟨some k, _, _, _, _, rfl, Nat.lt_succ_self k, by omega, fun l hl hc => by
         by_cases g : l = k
         · rw [g]
           exact ⟨Int.le_refl _, fun _ => Nat.le_refl _⟩
         · have := en l (by omega)
           omega⟩
      | some a =>
        obtain ⟨h1, h2, h3⟩ := en
        have cn : CJ h' (.int (a : Int)) .non = some false := rfl
        have ag := YB H (i := a) (by omega)
        have ae := Rx H (i := a) (j := q) (by omega) hq
        have am := Qz H (i := a) (by omega)
        have ab := ae8 H (i := a) (by omega)
        have m1 : uz (T.tb.T k n) (T.tb.T a q) = true := Bf (S.bd _ _ (by omega) (Nat.le_refl n)) (S.bd _ _ (by omega) hq)
        have m2 : uz (T.tb.T a n) (T.tb.T k q) = true := Bf (S.bd _ _ (by omega) (Nat.le_refl n)) (S.bd _ _ (by omega) hq)
        by_cases c2 : T.tb.T k n * T.tb.T a q - T.tb.T a n * T.tb.T k q < 0
        · have d2 : decide (T.tb.T k n * T.tb.T a q - T.tb.T a n * T.tb.T k q < 0) = true := decide_eq_true c2
          simp only [↓cW, nD, akU, akV, Nat.zero_add, Nat.reduceAdd, ↓cH, ↓bf, uJ, akP, akQ, aC, ↓cV, ↓jn, ↓cR, ↓dB, ↓bK, ↓cD, ↓cY, akR, aA, fg, aK, ↓aQ, akT, aW, bH, xg, xe, cA, ↓gh, ↓cP, dZ, d1, ↓cX, cn, b1, Int.reduceNeg, xm, ag, ae, mK, m1, am, m2, yS, ↓ux, d2, dF, d9, true_and]
          exact ⟨some k, _, _, _, _, rfl, Nat.lt_succ_self k, by omega, fun l hl hc => by
           by_cases g : l = k
           · rw [g]
             exact ⟨Int.le_refl _, fun _ => Nat.le_refl _⟩
           · have := abK h2 (show 0 < T.tb.T k q by omega) hc (show T.tb.T k n * T.tb.T a q < T.tb.T a n * T.tb.T k q by omega) (h3 l (by omega) hc).1
             exact ⟨by omega, fun e => by omega⟩⟩
        · have d2 : decide (T.tb.T k n * T.tb.T a q - T.tb.T a n * T.tb.T k q < 0) = false := decide_eq_false c2
          by_cases c3 : T.tb.T k n * T.tb.T a q - T.tb.T a n * T.tb.T k q = 0
          · by_cases c4 : T.tb.bs k < T.tb.bs a
            · have d4 : decide ((T.tb.bs k : Int) < (T.tb.bs a : Int)) = true := decide_eq_true (by omega)
              simp only [↓cW, nD, akU, akV, Nat.zero_add, Nat.reduceAdd, ↓cH, ↓bf, uJ, akP, akQ, aC, ↓cV, ↓jn, ↓cR, ↓dB, ↓bK, ↓cD, ↓cY, akR, aA, fg, aK, ↓aQ, akT, aW, bH, xg, xe, cA, ↓gh, ↓cP, dZ, d1, ↓cX, cn, b1, Int.reduceNeg, xm, ag, ae, mK, m1, am, m2, yS, c3, ↓ux, Int.reduceLT, decide_false, ↓mJ, oA, decide_true, dF, fb, ab, d4, d9, true_and]
              exact ⟨some k, _, _, _, _, rfl, Nat.lt_succ_self k, by omega, fun l hl hc => by
               by_cases g : l = k
               · rw [g]
                 exact ⟨Int.le_refl _, fun _ => Nat.le_refl _⟩
               · obtain ⟨g1, g2⟩ := h3 l (by omega) hc
                 obtain ⟨g3, g4⟩ := abL h2 (show 0 < T.tb.T k q by omega) hc (show T.tb.T k n * T.tb.T a q = T.tb.T a n * T.tb.T k q by omega) g1
                 exact ⟨g3, fun e => by
                  have := g2 (g4 e)
                  omega⟩⟩
            · have d4 : decide ((T.tb.bs k : Int) < (T.tb.bs a : Int)) = false := decide_eq_false (by omega)
              simp only [↓cW, nD, akU, akV, Nat.zero_add, Nat.reduceAdd, ↓cH, ↓bf, uJ, akP, akQ, aC, ↓cV, ↓jn, ↓cR, ↓dB, ↓bK, ↓cD, ↓cY, akR, aA, fg, aK, ↓aQ, akT, aW, bH, xg, xe, cA, ↓gh, ↓cP, dZ, d1, ↓cX, cn, b1, Int.reduceNeg, xm, ag, ae, mK, m1, am, m2, yS, c3, ↓ux, Int.reduceLT, decide_false, ↓mJ, oA, decide_true, dF, fb, ab, d4, d9, true_and]
              exact ⟨some a, _, _, _, _, rfl, by omega, h2, fun l hl hc => by
               by_cases g : l = k
               · rw [g]
                 exact ⟨by omega, fun _ => by omega⟩
               · exact h3 l (by omega) hc⟩
          · have d3 : decide (T.tb.T k n * T.tb.T a q - T.tb.T a n * T.tb.T k q = 0) = false := decide_eq_false c3
            simp only [↓cW, nD, akU, akV, Nat.zero_add, Nat.reduceAdd, ↓cH, ↓bf, uJ, akP, akQ, aC, ↓cV, ↓jn, ↓cR, ↓dB, ↓bK, ↓cD, ↓cY, akR, aA, fg, aK, ↓aQ, akT, aW, bH, xg, xe, cA, ↓gh, ↓cP, dZ, d1, ↓cX, cn, b1, Int.reduceNeg, xm, ag, ae, mK, m1, am, m2, yS, ↓ux, d2, ↓mJ, oA, c3, decide_false, d9, true_and]
            exact ⟨some a, _, _, _, _, rfl, by omega, h2, fun l hl hc => by
             by_cases g : l = k
             · rw [g]
               exact ⟨by omega, fun e => by omega⟩
             · exact h3 l (by omega) hc⟩
  · rintro fr h' ⟨rfl, r, x3, x4, x5, x6, rfl, en⟩
    exact ⟨rfl, rfl, r, x3, x4, x5, x6, rfl, en⟩
 have eo := uP m (fun i => nD (T.tb.bs i))
 have w : Wp (jw [.ref T.t, .int (q : Int)] h) (fun d fr h' => fr = [] ∧ h' = h ∧ ∃ r, d = optN r ∧ Lv T n q m r) dD := by
  clear H
  generalize (aV m fun i => nD (T.tb.bs i)) = OD at *
  simp only [↓JN, ↓gH, startF, akY, ak2, akU, akV, Nat.zero_add, Nat.reduceAdd, Nat.reduceSub, ale, ala, alf, alh, aC, ↓Lf, ↓cR, ↓dB, ↓cP, akP, akQ, cA, k1, ↓Oj, ↓Ol, ↓cD, ↓cY, akR, aA, fb, aK, cl, Option.map_some, eo]
  refine lp.mono ?_
  rintro f fr h' ⟨rfl, rfl, r, x3, x4, x5, x6, rfl, en⟩
  have ow := Jk r
  obtain ⟨OR, hOR⟩ : ∃ x, x = optN r := ⟨_, rfl⟩
  rw [← hOR] at ow ⊢
  simp only [cA, ↓lD, ↓Q7, akT, akR, akP, akQ, aA, aC, lN, true_and]
  exact ⟨r, hOR, en⟩
 obtain ⟨d, fr, h', e, rfl, rfl, r, rfl, en⟩ := w.out
 exact ⟨r, e, en⟩
end
end L
namespace L
open PySem PySem.Spec L2 Pk
theorem Ry (f g : Nat → D) : ∀ l : List Nat, jD (l.map f) (l.map g) = l.map fun j => .tup [f j, g j]
 | [] => rfl
 | a :: l => by
   rw [akY, akY, jD, Ry f g l, akY]
theorem Hr {n q : Nat} (f : Nat → D) (v : D) (hq : q < n) : pG (.int (q : Int)) v (aV n f) = some (aV n fun i => if i = q then v else f i) := by
 unfold pG
 dsimp only
 have : ixN (aV n f).length (q : Int) = some q := by
  rw [cZ]
  unfold ixN
  rw [if_pos (by omega), if_pos (by omega)]
  congr 1
 rw [this, ← adp]
 rfl
def Tab.w (U : Tab) (tb : Tb) : Tab := ⟨U.t, U.g, U.o, U.b, U.rp, tb⟩
def Tab.row (U : Tab) (i : Nat) (f : Nat → Int) : Tab := U.w ⟨U.tb.d, fun k => if k = i then f else U.tb.T k, U.tb.bs, U.tb.out⟩
section
variable {h : Hh} {T U : Tab} {F : Mem} {m n i j a q : Nat}
theorem cU.row (H : cU h (U.cl m n ++ F)) (hi : i ≤ m) (f : Nat → Int) : cU (h.set (U.rp i) (.nl (dw n f))) ((U.row i f).cl m n ++ F) := by
 have H2 := H.set (4 + i) (Z7 hi) (.nl (dw n f))
 have e : (U.cl m n ++ F).set (4 + i) (U.rp i, .nl (dw n f)) = (U.row i f).cl m n ++ F := by
  rw [List.set_append_left _ _ (by unfold Tab.cl; simp; omega)]
  congr 1
  unfold Tab.cl
  rw [show 4 + i = i + 1 + 1 + 1 + 1 by omega]
  simp only [akP]
  rw [Ju]
  refine congrArg (fun r => (U.t, D.no 0 U.fs) :: (U.g, D.nl (aV (m + 1) fun i => .ref (U.rp i))) :: (U.o, D.nl (aV n fun l => nD (U.tb.out l))) :: (U.b, D.nl (aV m fun i => nD (U.tb.bs i))) :: r) (alp fun k _ => ?_)
  show _ = (U.rp k, D.nl (dw n ((if k = i then f else U.tb.T k))))
  by_cases c : k = i
  · rw [if_pos c, if_pos c, c]
  · rw [if_neg c, if_neg c]
 rw [e] at H2
 exact H2
def Tab.mid (T : Tab) (a q k : Nat) : Tab := T.w ⟨T.tb.d, fun i l => if i < k ∧ i ≠ a then (T.tb.piv a q).T i l else T.tb.T i l, T.tb.bs, T.tb.out⟩
theorem Tab.mid0 : T.mid a q 0 = T := by
 have e : (fun i l => if i < 0 ∧ i ≠ a then (T.tb.piv a q).T i l else T.tb.T i l) = T.tb.T := by
  funext i l
  rw [if_neg (by omega)]
 unfold Tab.mid
 rw [e]
 rfl
theorem Tab.mid_skip {k : Nat} (e : k = a ∨ ∀ l, (T.tb.piv a q).T k l = T.tb.T k l) : T.mid a q (k + 1) = T.mid a q k := by
 unfold Tab.mid
 congr 2
 funext i l
 by_cases c : i < k + 1 ∧ i ≠ a
 · by_cases c2 : i < k ∧ i ≠ a
   · rw [if_pos c, if_pos c2]
   · rw [if_pos c, if_neg c2]
     obtain rfl : i = k := by omega
     rcases e with e | e
     · exact absurd e c.2
     · exact e l
 · rw [if_neg c, if_neg (by omega)]
theorem Tab.mid_row {k : Nat} (ka : k ≠ a) : (T.mid a q k).row k ((T.tb.piv a q).T k) = T.mid a q (k + 1) := by
 unfold Tab.mid Tab.row
 show T.w _ = T.w _
 congr 2
 funext i
 by_cases c : i = k
 · rw [if_pos c]
   funext l
   rw [if_pos (by omega), c]
 · rw [if_neg c]
   funext l
   show (if i < k ∧ i ≠ a then (T.tb.piv a q).T i l else T.tb.T i l) = _
   by_cases c2 : i < k ∧ i ≠ a
   · rw [if_pos c2, if_pos (by omega)]
   · rw [if_neg c2, if_neg (by omega)]
theorem Xq {t : Tb} {a q k l : Nat} (ka : k ≠ a) : (t.piv a q).T k l = if l = q then -t.T k q else (t.T k l * t.T a q - t.T k q * t.T a l) / t.d := by
 unfold Tb.piv
 dsimp only
 rw [if_neg ka]
theorem Td (H : cU h (T.cl m n ++ F)) (S : T.Sh m n) (hd : 0 < T.tb.d) (hd2 : T.tb.d.natAbs < 2 ^ 4000) (ha : a < m) (hq : q < n) :
 ∃ h', iG [.ref T.t, .int (a : Int), .int (q : Int)] h = .ok .non [] h' ∧ cU h' ((T.w (T.tb.piv a q)).cl m n ++ F) := by
 have b50 : 51 ≤ big := by decide
 have sm := S.sm
 have sn := S.sn
 obtain ⟨B, hB⟩ : ∃ B, B = nQ := ⟨_, rfl⟩
 have k2 : qX = (aD (sY (uG (aJ (cC di) (aN 0))) (dH 2 (aU (aR 5) (aU (aR 6) dJ))) B) nW) := by rw [hB]; rfl
 have lp : Wp (oW T.g (aV (m + 1) fun i => .ref (T.rp i)) (dH 2 (aU (aR 5) (aU (aR 6) dJ))) B ((akS (m + 1)).map fun (k : Nat) => D.tup [.int (k : Int), .ref (T.rp k)])
  [some (.ref T.t), some (.int (a : Int)), some (.int (q : Int)), some (.ref (T.rp a)), some (.int (T.tb.T a q)), none, none, none, none, none, none] h)
  (fun f fr h' => f = .nx ∧ cU h' ((T.mid a q (m + 1)).cl m n ++ F) ∧ ∃ x5 x6 x7 x8 x9 x10, fr = [some (.ref T.t), some (.int (a : Int)), some (.int (q : Int)), some (.ref (T.rp a)), some (.int (T.tb.T a q)), x5, x6, x7, x8, x9, x10]) dD := by
  refine O6 (fun k fr h' => cU h' ((T.mid a q k).cl m n ++ F) ∧ ∃ x5 x6 x7 x8 x9 x10, fr = [some (.ref T.t), some (.int (a : Int)), some (.int (q : Int)), some (.ref (T.rp a)), some (.int (T.tb.T a q)), x5, x6, x7, x8, x9, x10]) ?_ ?_ ?_ ?_
  · rintro k fr h' ⟨H', _⟩
    exact TV (T := T.mid a q k) H'
  · rw [Tab.mid0]
    exact ⟨H, none, none, none, none, none, none, rfl⟩
  · rintro k fr h' hk ⟨H', x5, x6, x7, x8, x9, x10, rfl⟩
    obtain ⟨fg, fo, fb, fd⟩ := rZ H'
    have fd : cC kJ h' (.ref T.t) = some (.int T.tb.d) := fd
    have ek : (T.mid a q k).tb.T k = T.tb.T k := by
     funext l
     exact if_neg (by omega)
    have ea : (T.mid a q k).tb.T a = T.tb.T a := by
     funext l
     exact if_neg (by omega)
    have xe := Rx H' (i := k) (j := q) (by omega) (Nat.le_of_lt hq)
    rw [ek] at xe
    have xe : aP h' (.ref (T.rp k)) (.int (q : Int)) = some (.int (T.tb.T k q)) := xe
    have rk := Qy H' (i := k) (by omega)
    rw [ek] at rk
    have rk : h'[T.rp k]? = some (.nl (dw n (T.tb.T k))) := rk
    have ra := Qy H' (i := a) (by omega)
    rw [ea] at ra
    have ra : h'[T.rp a]? = some (.nl (dw n (T.tb.T a))) := ra
    rw [hB]
    by_cases c : k = a
    · have d1 : decide ((k : Int) = (a : Int)) = true := decide_eq_true (by omega)
      simp only [↓cW, akU, akV, Nat.zero_add, Nat.reduceAdd, ↓cH, ↓bf, akP, akQ, aC, ↓cV, ↓oh, ↓cR, ↓gh, ↓bK, ↓aQ, akT, akR, aA, aW, bH, ↓cY, oA, d1, aK, dF, ↓cX, Qm, wY, true_and]
      rw [Tab.mid_skip (.inl c)]
      exact ⟨H', _, _, _, _, _, _, rfl⟩
    · have d1 : decide ((k : Int) = (a : Int)) = false := decide_eq_false (by omega)
      by_cases c2 : T.tb.T k q = 0 ∧ T.tb.T a q = T.tb.d
      · have d2 : decide (T.tb.T k q = 0) = true := decide_eq_true c2.1
        have d3 : decide (T.tb.T a q = T.tb.d) = true := decide_eq_true c2.2
        simp only [↓cW, akU, akV, Nat.zero_add, Nat.reduceAdd, ↓cH, ↓bf, akP, akQ, aC, ↓cV, ↓oh, ↓cR, ↓gh, ↓bK, ↓aQ, akT, akR, aA, aW, bH, ↓cY, oA, d1, aK, ↓cX, cA, ↓dB, ↓eY, xe, ↓mJ, ↓cP, d2, dF, ↓cD, fd, d3, Qm, wY, true_and]
        rw [Tab.mid_skip (.inr fun l => ?_)]
        · exact ⟨H', _, _, _, _, _, _, rfl⟩
        · rw [Xq c, c2.1, c2.2]
          by_cases g : l = q
          · rw [if_pos g, g, c2.1]
            rfl
          · rw [if_neg g, Int.zero_mul, Int.sub_zero, Int.mul_ediv_cancel _ (by omega)]
      · have W1 : ∀ fr0 : Fr, fr0 = [some (.ref T.t), some (.int (a : Int)), some (.int (q : Int)), some (.ref (T.rp a)), some (.int (T.tb.T a q)), some (.int (k : Int)), some (.ref (T.rp k)), some (.int (T.tb.T k q)), x8, none, none] →
         Wp (jE (fun h2 => h2[T.rp k]? = some (.nl (dw n (T.tb.T k))) ∧ h2[T.rp a]? = some (.nl (dw n (T.tb.T a)))) [9, 10] fH fJ fK (jD (dw n (T.tb.T k)) (dw n (T.tb.T a))) fr0 h')
          (fun r fr h2 => h2 = h' ∧ fr = fr0 ∧ r = aV (n + 1) fun j => .int ((T.tb.T k j * T.tb.T a q - T.tb.T k q * T.tb.T a j) / T.tb.d)) dD := by
         rintro fr0 rfl
         have ez : jD (dw n (T.tb.T k)) (dw n (T.tb.T a)) = (akS (n + 1)).map fun j => D.tup [.int (T.tb.T k j), .int (T.tb.T a j)] := Ry _ _ _
         rw [ez]
         have q0 := Vr (vs := [9, 10]) (g := fH) (t := fJ) (e := fK) (c := fun h2 => h2[T.rp k]? = some (.nl (dw n (T.tb.T k))) ∧ h2[T.rp a]? = some (.nl (dw n (T.tb.T a))))
          (h := h') (fr := [some (.ref T.t), some (.int (a : Int)), some (.int (q : Int)), some (.ref (T.rp a)), some (.int (T.tb.T a q)), some (.int (k : Int)), some (.ref (T.rp k)), some (.int (T.tb.T k q)), x8, none, none])
          (F := fun j => D.tup [.int (T.tb.T k j), .int (T.tb.T a j)]) (G := fun j => .int ((T.tb.T k j * T.tb.T a q - T.tb.T k q * T.tb.T a j) / T.tb.d)) (xs := akS (n + 1)) ⟨rk, ra⟩ fun j hj => by
           have hj := List.mem_range.mp hj
           have m1 : uz (T.tb.T k j) (T.tb.T a q) = true := Bf (S.bd _ _ (by omega) (by omega)) (S.bd _ _ (by omega) (by omega))
           have m2 : uz (T.tb.T k q) (T.tb.T a j) = true := Bf (S.bd _ _ (by omega) (by omega)) (S.bd _ _ (by omega) (by omega))
           have m3 : ∀ x, JW x T.tb.d = true := fun x => VB hd hd2
           have w : Wp (fL [9, 10] fH fJ fK (D.tup [.int (T.tb.T k j), .int (T.tb.T a j)]) [some (.ref T.t), some (.int (a : Int)), some (.int (q : Int)), some (.ref (T.rp a)), some (.int (T.tb.T a q)), some (.int (k : Int)), some (.ref (T.rp k)), some (.int (T.tb.T k q)), x8, none, none] h')
            (fun o fr1 h1 => o = some (.int ((T.tb.T k j * T.tb.T a q - T.tb.T k q * T.tb.T a j) / T.tb.d)) ∧ fr1 = [some (.ref T.t), some (.int (a : Int)), some (.int (q : Int)), some (.ref (T.rp a)), some (.int (T.tb.T a q)), some (.int (k : Int)), some (.ref (T.rp k)), some (.int (T.tb.T k q)), x8, none, none] ∧ h1 = h') dD := by
            simp only [↓dN, ↓FT, ↓cW, akU, akV, Nat.zero_add, Nat.reduceAdd, ↓cH, ↓bf, akP, akQ, aC, ↓cV, ↓FW, ↓cX, dF, ↓FZ, ↓bK, ↓aQ, akT, akR, aA, aW, bH, mK, m1, m2, yS, ↓cD, ↓cY, fd, aK, m3, bj, bB, and_self]
           obtain ⟨_, _, _, e, rfl, rfl, rfl⟩ := w.out
           exact e
         rw [q0]
         simp only [cJ]
         exact ⟨trivial, trivial, rfl⟩
        have ez := abj rk ra
        have lz : (jD (dw n (T.tb.T k)) (dw n (T.tb.T a))).length ≤ 100000 := by
         rw [uZ]
         unfold dw
         rw [cZ, cZ]
         omega
        have sF := Hr (n := n + 1) (q := q) (fun j => .int ((T.tb.T k j * T.tb.T a q - T.tb.T k q * T.tb.T a j) / T.tb.d)) (.int (-T.tb.T k q)) (by omega)
        have er : (aV (n + 1) fun i => if i = q then D.int (-T.tb.T k q) else .int ((T.tb.T k i * T.tb.T a q - T.tb.T k q * T.tb.T a i) / T.tb.d)) = dw n ((T.tb.piv a q).T k) := mD fun l _ => by
         rw [Xq c]
         by_cases g : l = q
         · rw [if_pos g, if_pos g]
         · rw [if_neg g, if_neg g]
        rw [er] at sF
        have aF : KC (.fl (dw n ((T.tb.piv a q).T k))) (dw n (T.tb.T k)) = some (dw n ((T.tb.piv a q).T k)) := by
         unfold KC
         dsimp only
         unfold dw
         rw [cZ, cZ, if_pos (by omega)]
        have H2 : cU (h'.set (T.rp k) (.nl (dw n ((T.tb.piv a q).T k)))) ((T.mid a q (k + 1)).cl m n ++ F) := by
         rw [← Tab.mid_row c]
         exact cU.row (U := T.mid a q k) H' (by omega) _
        have bn : fj (.int (T.tb.T k q)) = some (.int (-T.tb.T k q)) := rfl
        obtain ⟨R1, hR1⟩ : ∃ x, x = aV (n + 1) fun j => D.int ((T.tb.T k j * T.tb.T a q - T.tb.T k q * T.tb.T a j) / T.tb.d) := ⟨_, rfl⟩
        obtain ⟨R2, hR2⟩ : ∃ x, x = dw n ((T.tb.piv a q).T k) := ⟨_, rfl⟩
        obtain ⟨R3, hR3⟩ : ∃ x, x = dw n (T.tb.T k) := ⟨_, rfl⟩
        rw [← hR1] at sF
        rw [← hR2] at sF aF H2
        rw [← hR3] at aF rk lz ez
        have W1 := W1 _ rfl
        rw [← hR1, ← hR3] at W1
        by_cases c3 : T.tb.T k q = 0
        · have d2 : decide (T.tb.T k q = 0) = true := decide_eq_true c3
          have d3 : decide (T.tb.T a q = T.tb.d) = false := decide_eq_false fun z => c2 ⟨c3, z⟩
          simp only [↓cW, akU, akV, Nat.zero_add, Nat.reduceAdd, ↓cH, ↓bf, akP, akQ, aC, ↓cV, ↓oh, ↓cR, ↓gh, ↓bK, ↓aQ, akT, akR, aA, aW, bH, ↓cY, oA, d1, aK, ↓cX, cA, ↓dB, ↓eY, xe, ↓mJ, ↓cP, d2, dF, ↓cD, fd, d3, ↓ZP, ↓Vq, dW, ez, dU, lz, bj, bB, true_and]
          refine W1.mono ?_
          rintro r fr h2 ⟨rfl, rfl, rfl⟩
          simp only [akP, akQ, aC, cA, ↓cR, ↓yz, ↓cD, ↓aQ, akT, akR, aA, aW, bH, bn, aK, ↓rG, sF, ↓R8, rH, dF, m7, dW, Mu, rk, aF, d9]
          exact ⟨H2, _, _, _, _, _, _, rfl⟩
        · have d2 : decide (T.tb.T k q = 0) = false := decide_eq_false c3
          simp only [↓cW, akU, akV, Nat.zero_add, Nat.reduceAdd, ↓cH, ↓bf, akP, akQ, aC, ↓cV, ↓oh, ↓cR, ↓gh, ↓bK, ↓aQ, akT, akR, aA, aW, bH, ↓cY, oA, d1, aK, ↓cX, cA, ↓dB, ↓eY, xe, ↓mJ, ↓cP, d2, ↓ZP, ↓Vq, dW, ez, dU, lz, bj, bB, true_and]
          refine W1.mono ?_
          rintro r fr h2 ⟨rfl, rfl, rfl⟩
          simp only [akP, akQ, aC, cA, ↓cR, ↓yz, ↓cD, ↓aQ, akT, akR, aA, aW, bH, bn, aK, ↓rG, sF, ↓R8, rH, dF, m7, dW, Mu, rk, aF, d9]
          exact ⟨H2, _, _, _, _, _, _, rfl⟩
  · rintro fr h' ⟨H', q⟩
    exact ⟨rfl, H', q⟩
 obtain ⟨fg, fo, fb, fd⟩ := rZ H
 have co := TV H
 have cl : pJ h (.ref T.g) = some (T.g, (aV (m + 1) fun i => .ref (T.rp i))) := by
  unfold pJ
  dsimp only
  rw [co]
 have xg := YB H (i := a) (by omega)
 have xe := Rx H (i := a) (j := q) (by omega) (Nat.le_of_lt hq)
 have eo := uP (m + 1) (fun i => .ref (T.rp i))
 have w : Wp (iG [.ref T.t, .int (a : Int), .int (q : Int)] h) (fun d fr h' => d = .non ∧ fr = [] ∧ cU h' ((T.w (T.tb.piv a q)).cl m n ++ F)) dD := by
  clear H co
  generalize (aV (m + 1) fun i => .ref (T.rp i)) = OD at *
  simp only [↓Jg, ↓gH, startF, akY, ak2, akU, akV, Nat.zero_add, Nat.reduceAdd, Nat.reduceSub, ale, ala, alf, alh, aC, ↓JM, ↓cR, ↓dB, ↓bK, ↓cD, ↓cY, akR, aA, fg, aK, ↓aQ, akT, akP, akQ, aW, bH, xg, cA, ↓Gg, ↓eY, xe, k2, ↓Oj, ↓Ol, cl, Option.map_some, eo]
  refine lp.mono ?_
  rintro f fr h' ⟨rfl, H', x5, x6, x7, x8, x9, x10, rfl⟩
  obtain ⟨U, hU⟩ : ∃ U, U = T.mid a q (m + 1) := ⟨_, rfl⟩
  have ea : U.tb.T a = T.tb.T a := by
   rw [hU]
   funext l
   exact if_neg (by omega)
  have ut : U.t = T.t := by rw [hU]; rfl
  have ub : U.b = T.b := by rw [hU]; rfl
  have uo : U.o = T.o := by rw [hU]; rfl
  have ug : U.g = T.g := by rw [hU]; rfl
  have ur : U.rp = T.rp := by rw [hU]; rfl
  have ud : U.tb.d = T.tb.d := by rw [hU]; rfl
  have ubs : U.tb.bs = T.tb.bs := by rw [hU]; rfl
  have uout : U.tb.out = T.tb.out := by rw [hU]; rfl
  have uT : ∀ i, i ≤ m → i ≠ a → U.tb.T i = (T.tb.piv a q).T i := fun i hi ia => by
   rw [hU]
   funext l
   exact if_pos ⟨by omega, ia⟩
  rw [← hU] at H'
  clear hU
  obtain ⟨-, -, -, fd1⟩ := rZ H'
  have ra := Qy H' (i := a) (by omega)
  rw [ea, ur] at ra
  rw [ut, ud] at fd1
  have H1 := cU.row H' (i := a) (by omega) ((T.tb.piv a q).T a)
  obtain ⟨h1, e1⟩ : ∃ x, x = h'.set (U.rp a) (.nl (dw n ((T.tb.piv a q).T a))) := ⟨_, rfl⟩
  rw [← e1] at H1
  obtain ⟨X, hX⟩ : ∃ X : Nat → Nat → Int, X = fun k => if k = a then (T.tb.piv a q).T a else U.tb.T k := ⟨_, rfl⟩
  have H1 : cU h1 ((U.w ⟨U.tb.d, X, U.tb.bs, U.tb.out⟩).cl m n ++ F) := by rw [hX]; exact H1
  have c1 := Vz H1
  have c1 : h1[U.t]? = some (.no 0 [.ref U.g, .ref U.o, .ref U.b, .int U.tb.d]) := c1
  have H2 : cU (h1.set U.t (.no 0 [.ref U.g, .ref U.o, .ref U.b, .int (T.tb.T a q)])) ((U.w ⟨T.tb.T a q, X, U.tb.bs, U.tb.out⟩).cl m n ++ F) := H1.set 0 rfl _
  obtain ⟨h2, e2⟩ : ∃ x, x = h1.set U.t (.no 0 [.ref U.g, .ref U.o, .ref U.b, .int (T.tb.T a q)]) := ⟨_, rfl⟩
  rw [← e2] at H2
  obtain ⟨-, fo2, fb2, -⟩ := rZ H2
  have xo2 := ae7 H2 (j := q) hq
  have xb2 := ae8 H2 (i := a) ha
  have cb2 := TY H2
  have sb : pG (.int (a : Int)) (.int (U.tb.out q : Int)) (aV m fun i => nD (U.tb.bs i)) = some (aV m fun i => nD (upd U.tb.bs a (U.tb.out q) i)) := by
   rw [Hr _ _ ha]
   congr 1
   refine mD fun i _ => ?_
   unfold upd
   by_cases c : i = a
   · rw [if_pos c, if_pos c]
     rfl
   · rw [if_neg c, if_neg c]
  have so : pG (.int (q : Int)) (.int (U.tb.bs a : Int)) (aV n fun i => nD (U.tb.out i)) = some (aV n fun i => nD (upd U.tb.out q (U.tb.bs a) i)) := by
   rw [Hr _ _ hq]
   congr 1
   refine mD fun i _ => ?_
   unfold upd
   by_cases c : i = q
   · rw [if_pos c, if_pos c]
     rfl
   · rw [if_neg c, if_neg c]
  have H3 : cU (h2.set U.b (.nl (aV m fun i => nD (upd U.tb.bs a (U.tb.out q) i)))) ((U.w ⟨T.tb.T a q, X, upd U.tb.bs a (U.tb.out q), U.tb.out⟩).cl m n ++ F) := H2.set 3 rfl _
  obtain ⟨h3, e3⟩ : ∃ x, x = h2.set U.b (.nl (aV m fun i => nD (upd U.tb.bs a (U.tb.out q) i))) := ⟨_, rfl⟩
  rw [← e3] at H3
  obtain ⟨-, fo3, -, -⟩ := rZ H3
  have co3 := TX H3
  have H4 : cU (h3.set U.o (.nl (aV n fun i => nD (upd U.tb.out q (U.tb.bs a) i)))) ((U.w ⟨T.tb.T a q, X, upd U.tb.bs a (U.tb.out q), upd U.tb.out q (U.tb.bs a)⟩).cl m n ++ F) := H3.set 2 rfl _
  obtain ⟨h4, e4⟩ : ∃ x, x = h3.set U.o (.nl (aV n fun i => nD (upd U.tb.out q (U.tb.bs a) i))) := ⟨_, rfl⟩
  rw [← e4] at H4
  have fin : cU h4 ((T.w (T.tb.piv a q)).cl m n ++ F) := by
   have e : (U.w ⟨T.tb.T a q, X, upd U.tb.bs a (U.tb.out q), upd U.tb.out q (U.tb.bs a)⟩).cl m n = (T.w (T.tb.piv a q)).cl m n := by
    have er : ((akS (m + 1)).map fun i => (U.rp i, D.nl (dw n (X i)))) = (akS (m + 1)).map fun i => (T.rp i, D.nl (dw n ((T.tb.piv a q).T i))) := alp fun i hi => by
     have hi := List.mem_range.mp hi
     rw [ur, hX]
     dsimp only
     by_cases c : i = a
     · rw [if_pos c, c]
     · rw [if_neg c, uT i (by omega) c]
    unfold Tab.cl
    show _ :: _ :: _ :: _ :: ((akS (m + 1)).map fun i => (U.rp i, D.nl (dw n (X i)))) = _ :: _ :: _ :: _ :: ((akS (m + 1)).map fun i => (T.rp i, D.nl (dw n ((T.tb.piv a q).T i))))
    rw [er]
    unfold Tab.fs Tab.w
    dsimp only
    rw [ubs, uout, ut, ug, ur, ub, uo]
    rfl
   rw [← e]
   exact H4
  have sa : pG (.int (q : Int)) (.int T.tb.d) (dw n (T.tb.T a)) = some (dw n ((T.tb.piv a q).T a)) := by
   unfold dw
   rw [Hr _ _ (by omega)]
   congr 1
   refine mD fun i _ => ?_
   show _ = D.int (if a = a then (if i = q then T.tb.d else T.tb.T a i) else _)
   rw [if_pos rfl]
   by_cases c : i = q
   · rw [if_pos c, if_pos c]
   · rw [if_neg c, if_neg c]
  have pf : pH 3 (.int (T.tb.T a q)) [.ref U.g, .ref U.o, .ref U.b, .int U.tb.d] = some [.ref U.g, .ref U.o, .ref U.b, .int (T.tb.T a q)] := rfl
  have i3 : kJ 0 = some 3 := rfl
  have fo2 : cC d7 h2 (.ref U.t) = some (.ref U.o) := fo2
  have fb2 : cC ir h2 (.ref U.t) = some (.ref U.b) := fb2
  have fo3 : cC d7 h3 (.ref U.t) = some (.ref U.o) := fo3
  have xo2 : aP h2 (.ref U.o) (.int (q : Int)) = some (.int (U.tb.out q : Int)) := xo2
  have xb2 : aP h2 (.ref U.b) (.int (a : Int)) = some (.int (U.tb.bs a : Int)) := xb2
  have cb2 : h2[U.b]? = some (.nl (aV m fun i => nD (U.tb.bs i))) := cb2
  have co3 : h3[U.o]? = some (.nl (aV n fun i => nD (U.tb.out i))) := co3
  rw [ur] at e1
  rw [ut] at c1 e2 fo2 fb2 fo3
  have e1 := e1.symm
  have e2 := e2.symm
  have e3 := e3.symm
  have e4 := e4.symm
  simp only [cA, ↓Gf, ↓cR, ↓yz, ↓cD, ↓cY, akR, akT, aA, fd1, aK, ↓aQ, akP, akQ, aW, bH, ↓rG, ra, sa, ↓Ge, ↓R5, ↓Xe, e1, c1, i3, pf, ↓Vg, ↓KJ, ↓cG, ↓bK, akU, e2, fo2, xo2, fb2, xb2, ↓bQ, akV, Nat.zero_add, Nat.reduceAdd, dU, Nat.reduceLeDiff, ↓cW, ↓cH, ↓abi, Mu, cb2, sb, e3, fo3, co3, so, ↓cV, ZG, e4, true_and]
  exact fin
 obtain ⟨d, fr, h', e, rfl, rfl, H'⟩ := w.out
 exact ⟨h', e, H'⟩
end
end L
namespace L
open PySem PySem.Spec L2 Pk
section
variable {h : Hh} {T U : Tab} {F : Mem} {m n i j a q : Nat}
structure Step (T : Tab) (m n a q : Nat) : Prop where
 hq : q < n
 ha : a < m
 hc : T.tb.T m q < 0
 er : ∀ l, l < n → T.tb.T m l < 0 → T.tb.out q ≤ T.tb.out l
 hp : 0 < T.tb.T a q
 lr : ∀ i, i < m → 0 < T.tb.T i q → T.tb.T a n * T.tb.T i q ≤ T.tb.T i n * T.tb.T a q ∧ (T.tb.T i n * T.tb.T a q = T.tb.T a n * T.tb.T i q → T.tb.bs a ≤ T.tb.bs i)
theorem Z8 (H : cU h (T.cl m n ++ F)) (S : T.Sh m n) (hd : 0 < T.tb.d) (hd2 : T.tb.d.natAbs < 2 ^ 4000) (lim : ∀ q, q < n → T.tb.T m q < 0 → ∃ k, k < m ∧ 0 < T.tb.T k q) :
 (iQ [.ref T.t] h = .ok (.bl false) [] h ∧ ∀ l, l < n → 0 ≤ T.tb.T m l) ∨ ∃ a q h', iQ [.ref T.t] h = .ok (.bl true) [] h' ∧ cU h' ((T.w (T.tb.piv a q)).cl m n ++ F) ∧ Step T m n a q := by
 obtain ⟨r, e1, en⟩ := Tc H S
 have f1 : fnOf yV h (.ref T.t) = some iD := MT H
 cases r with
 | none =>
   refine .inl ⟨?_, en⟩
   have w : Wp (iQ [.ref T.t] h) (fun d fr h' => d = .bl false ∧ fr = [] ∧ h' = h) dD := by
    have ci : CJ h D.non .non = some true := rfl
    rw [Ln] at e1
    simp only [↓Ck, ↓gH, startF, akY, ak2, akU, akV, Nat.zero_add, Nat.reduceSub, ale, ala, alf, alh, aC, ↓Dh, ↓cR, ↓dB, ↓Bc, ↓aQ, akR, akQ, aA, dW, bH, f1, aK, ↓bQ, dX, akZ, e1, akP, ↓cJ, cA, ↓zJ, ↓gh, ↓bK, akT, Ra, ↓cP, ci, dF, ↓lD, Vf, lN, and_self]
   obtain ⟨_, _, _, e, rfl, rfl, rfl⟩ := w.out
   exact e
 | some q =>
   obtain ⟨hq, hc, er⟩ := en
   obtain ⟨r, e2, lv⟩ := VD H S (q := q) (by omega)
   have f2 : fnOf Ai h (.ref T.t) = some jw := MT H
   cases r with
   | none =>
     obtain ⟨k, hk, hp⟩ := lim q hq hc
     have := lv k hk
     omega
   | some a =>
     obtain ⟨ha, hp, lr⟩ := lv
     obtain ⟨h', e3, H'⟩ := Td H S hd hd2 ha hq
     have f3 : fnOf yW h (.ref T.t) = some iG := MT H
     refine .inr ⟨a, q, h', ?_, H', hq, ha, hc, er, hp, lr⟩
     have w : Wp (iQ [.ref T.t] h) (fun d fr h2 => d = .bl true ∧ fr = [] ∧ h2 = h') dD := by
      have ci : CJ h (.int (q : Int)) .non = some false := rfl
      rw [uJ] at e1 e2
      simp only [↓Ck, ↓gH, startF, akY, ak2, akU, akV, Nat.zero_add, Nat.reduceSub, ale, ala, alf, alh, aC, ↓Dh, ↓cR, ↓dB, ↓Bc, ↓aQ, akR, akQ, aA, dW, bH, f1, aK, ↓bQ, dX, akZ, e1, akP, ↓cJ, cA, ↓zJ, ↓gh, ↓bK, akT, aW, ↓cP, ci, ↓cX, ↓Lg, ↓rE, f3, ↓cG, ↓fU, f2, e2, Nat.reduceAdd, lO, e3, ↓lD, lN, and_self]
     obtain ⟨_, _, _, e, rfl, rfl, rfl⟩ := w.out
     exact e
theorem Xr (n : Nat) (f : Nat → Nat) : (aV n fun i => nD (f i)) = ((akS n).map fun i => (f i : Int)).map D.int := by
 unfold aV nD
 rw [alc]
 rfl
theorem Xu {n u : Nat} {f : Nat → Nat} (h : (u : Int) ∈ (akS n).map fun i => (f i : Int)) : ((akS n).map fun i => (f i : Int)).idxOf (u : Int) < n ∧ f (((akS n).map fun i => (f i : Int)).idxOf (u : Int)) = u := by
 have h1 := List.idxOf_lt_length_of_mem h
 have h2 := List.getElem_idxOf h1
 rw [List.getElem_map, List.getElem_range] at h2
 rw [akW, ak1] at h1
 exact ⟨h1, by omega⟩
theorem Wg (H : cU h (T.cl m n ++ F)) (inj : ∀ i j, i < m → j < m → T.tb.bs i = T.tb.bs j → i = j) (u : Nat) : ig [.ref T.t, .int (u : Int)] h = .ok (.int (T.tb.amt m n u)) [] h := by
 obtain ⟨fg, fo, fb, fd⟩ := rZ H
 have cb := TY H
 rw [Xr] at cb
 obtain ⟨l, hl⟩ : ∃ l, l = (akS m).map fun i => (T.tb.bs i : Int) := ⟨_, rfl⟩
 rw [← hl] at cb
 have lp := Vm (g := D.int) Em.int cb v8
 have ci := Xl (h := h) (a := (u : Int)) Em.int (v8 (u : Int)) lp trivial (fun _ _ => trivial) (by decide)
 have b1 : fj (.int 1) = some (.int (-1)) := rfl
 by_cases c : (u : Int) ∈ l
 · have ix := Vl (h := h) (a := (u : Int)) Em.int (v8 (u : Int)) lp trivial (fun _ _ => trivial) (by decide) c
   rw [decide_eq_true c] at ci
   rw [hl] at c
   obtain ⟨g1, g2⟩ := Xu c
   rw [← hl] at g1 g2
   have xg := YB H (i := l.idxOf (u : Int)) (by omega)
   have xm := Qz H (i := l.idxOf (u : Int)) (by omega)
   have am : T.tb.amt m n u = T.tb.T (l.idxOf (u : Int)) n := by
    unfold Tb.amt
    rw [iI g1 fun k hk hne => if_neg fun z => hne (inj _ _ hk g1 (z.trans g2.symm)), if_pos g2]
   have so : ((D.ref T.b).lstP h).isSome = true := by rw [lp]; rfl
   have w : Wp (ig [.ref T.t, .int (u : Int)] h) (fun d fr h' => d = .int (T.tb.T (l.idxOf (u : Int)) n) ∧ fr = [] ∧ h' = h) dD := by
    simp only [↓zL, ↓gH, startF, akY, ak2, akU, akV, Nat.zero_add, Nat.reduceAdd, Nat.reduceSub, ala, akZ, aC, ↓Ab, ↓lD, ↓TQ, ↓bK, ↓aQ, akT, akR, akP, akQ, aA, aW, bH, ↓cD, ↓cY, fb, aK, ci, dF, fg, ↓Vk, so, ix, xg, ↓cP, b1, Int.reduceNeg, xm, lN, and_self]
   obtain ⟨_, _, _, e, rfl, rfl, rfl⟩ := w.out
   rw [am]
   exact e
 · rw [decide_eq_false c] at ci
   have am : T.tb.amt m n u = 0 := by
    unfold Tb.amt
    refine il fun k hk => if_neg fun z => c ?_
    rw [hl]
    exact List.mem_map.mpr ⟨k, List.mem_range.mpr hk, by rw [z]⟩
   have w : Wp (ig [.ref T.t, .int (u : Int)] h) (fun d fr h' => d = .int 0 ∧ fr = [] ∧ h' = h) dD := by
    simp only [↓zL, ↓gH, startF, akY, ak2, akU, akV, Nat.zero_add, Nat.reduceAdd, Nat.reduceSub, ala, akZ, aC, ↓Ab, ↓lD, ↓TQ, ↓bK, ↓aQ, akT, akR, akP, akQ, aA, aW, bH, ↓cD, ↓cY, fb, aK, ci, ↓cP, lN, and_self]
   obtain ⟨_, _, _, e, rfl, rfl, rfl⟩ := w.out
   rw [am]
   exact e
theorem YC (H : cU h (T.cl m n ++ F)) (inj : ∀ i j, i < n → j < n → T.tb.out i = T.tb.out j → i = j) (u : Nat) : jx [.ref T.t, .int (u : Int)] h = .ok (.int (T.tb.price m n u)) [] h := by
 obtain ⟨fg, fo, fb, fd⟩ := rZ H
 have cb := TX H
 rw [Xr] at cb
 obtain ⟨l, hl⟩ : ∃ l, l = (akS n).map fun i => (T.tb.out i : Int) := ⟨_, rfl⟩
 rw [← hl] at cb
 have lp := Vm (g := D.int) Em.int cb v8
 have ci := Xl (h := h) (a := (u : Int)) Em.int (v8 (u : Int)) lp trivial (fun _ _ => trivial) (by decide)
 have b1 : fj (.int 1) = some (.int (-1)) := rfl
 have gm := T5 H
 by_cases c : (u : Int) ∈ l
 · have ix := Vl (h := h) (a := (u : Int)) Em.int (v8 (u : Int)) lp trivial (fun _ _ => trivial) (by decide) c
   rw [decide_eq_true c] at ci
   rw [hl] at c
   obtain ⟨g1, g2⟩ := Xu c
   rw [← hl] at g1 g2
   have xm := Rx H (i := m) (j := l.idxOf (u : Int)) (Nat.le_refl m) (by omega)
   have am : T.tb.price m n u = T.tb.T m (l.idxOf (u : Int)) := by
    unfold Tb.price
    rw [iI g1 fun k hk hne => if_neg fun z => hne (inj _ _ hk g1 (z.trans g2.symm)), if_pos g2]
   have so : ((D.ref T.o).lstP h).isSome = true := by rw [lp]; rfl
   have w : Wp (jx [.ref T.t, .int (u : Int)] h) (fun d fr h' => d = .int (T.tb.T m (l.idxOf (u : Int))) ∧ fr = [] ∧ h' = h) dD := by
    simp only [↓Ac, ↓gH, startF, akY, ak2, akU, akV, Nat.zero_add, Nat.reduceAdd, Nat.reduceSub, ala, akZ, aC, ↓Cj, ↓lD, ↓TQ, ↓bK, ↓aQ, akT, akR, akP, akQ, aA, aW, bH, ↓cD, ↓cY, fo, aK, ci, dF, fg, ↓cP, b1, Int.reduceNeg, gm, ↓Vk, so, ix, xm, lN, and_self]
   obtain ⟨_, _, _, e, rfl, rfl, rfl⟩ := w.out
   rw [am]
   exact e
 · rw [decide_eq_false c] at ci
   have am : T.tb.price m n u = 0 := by
    unfold Tb.price
    refine il fun k hk => if_neg fun z => c ?_
    rw [hl]
    exact List.mem_map.mpr ⟨k, List.mem_range.mpr hk, by rw [z]⟩
   have w : Wp (jx [.ref T.t, .int (u : Int)] h) (fun d fr h' => d = .int 0 ∧ fr = [] ∧ h' = h) dD := by
    simp only [↓Ac, ↓gH, startF, akY, ak2, akU, akV, Nat.zero_add, Nat.reduceAdd, Nat.reduceSub, ala, akZ, aC, ↓Cj, ↓lD, ↓TQ, ↓bK, ↓aQ, akT, akR, akP, akQ, aA, aW, bH, ↓cD, ↓cY, fo, aK, ci, ↓cP, lN, and_self]
   obtain ⟨_, _, _, e, rfl, rfl, rfl⟩ := w.out
   rw [am]
   exact e
end
end L
namespace L
open PySem PySem.Spec L2 Pk
theorem abM {f v : Int} (hv : 0 < v) (hf : v < f) : 2 * (v * (f % v)) < f * v := by
 have h0 := Int.emod_nonneg f (show v ≠ 0 by omega)
 have h1 := Int.emod_lt_of_pos f hv
 have h2 := Int.mul_ediv_add_emod f v
 have h3 : 0 < f / v := by
  rcases Int.lt_or_le 0 (f / v) with g | g
  · exact g
  · have := Int.mul_le_mul_of_nonneg_left g (Int.le_of_lt hv)
    omega
 have h4 : v ≤ v * (f / v) := by
  have := Int.mul_le_mul_of_nonneg_left (show (1 : Int) ≤ f / v by omega) (Int.le_of_lt hv)
  omega
 have h5 : 2 * (f % v) < f := by omega
 have h6 := Int.mul_lt_mul_of_pos_right h5 hv
 have e : 2 * (f % v) * v = 2 * (v * (f % v)) := by grind
 omega
section
variable {h : Hh} {V : D}
theorem Xv : ∀ (N : Nat) (f v : Int), 0 ≤ f → 0 ≤ v → v = 0 ∨ (v < f ∧ f * v < 2 ^ N) →
 Wp (jr (aq zf (aa 2) (mC (.int 0))) eO (N + 1) [some V, some (.int f), some (.int v)] h) (fun fl fr h' => fl = .nx ∧ h' = h ∧ ∃ g, fr = [some V, some (.int g), some (.int 0)] ∧ 0 ≤ g ∧ g ∣ f ∧ g ∣ v ∧ (g ≤ f ∨ g ≤ v)) dD
 | N, f, v, hf, hv, hm => by
   rw [KR]
   by_cases c : 0 < v
   · have d1 : decide (0 < v) = true := decide_eq_true c
     obtain ⟨c1, c2⟩ : v < f ∧ f * v < 2 ^ N := by
      rcases hm with g | g
      · omega
      · exact g
     have m1 : T8 f v = true := yK c
     cases N with
     | zero =>
       have := Int.mul_lt_mul_of_pos_right c1 c
       have := Int.mul_pos c c
       omega
     | succ N =>
       have h1 := abM c c1
       have ih := Xv N v (f % v) hv (Int.emod_nonneg f (by omega)) (.inr ⟨Int.emod_lt_of_pos f c, by
        have e : (2 : Int) ^ (N + 1) = 2 * 2 ^ N := by rw [Int.pow_succ, Int.mul_comm]
        omega⟩)
       obtain ⟨B, hB⟩ : ∃ B, B = eO := ⟨_, rfl⟩
       obtain ⟨t, ht⟩ : ∃ t, t = jr (aq zf (aa 2) (mC (.int 0))) eO (N + 1) := ⟨_, rfl⟩
       rw [← ht] at ih ⊢
       simp only [↓bK, ↓aQ, akT, akR, akP, akQ, aA, aW, bH, ↓cP, dZ, d1, aK, ↓reduceIte, ↓xZ, ↓Q8, ↓cG, akU, Vn, mK, m1, ↓bQ, KN, Oh, akV, Nat.reduceAdd, dU, Nat.reduceLeDiff, aC, true_and]
       refine ih.mono ?_
       rintro fl fr h' ⟨rfl, rfl, g, rfl, g0, g1, g2, g3⟩
       refine ⟨rfl, rfl, g, rfl, g0, ?_, g1, ?_⟩
       · have := Int.mul_ediv_add_emod f v
         rw [← this]
         exact Int.dvd_add (Int.dvd_trans g1 (Int.dvd_mul_right v _)) g2
       · have := Int.emod_lt_of_pos f c
         omega
   · have d1 : decide (0 < v) = false := decide_eq_false c
     obtain rfl : v = 0 := by omega
     simp only [↓bK, ↓aQ, akT, akR, akP, akQ, aA, aW, bH, ↓cP, dZ, Int.reduceLT, decide_false, aK, Bool.false_eq_true, ↓reduceIte, true_and]
     exact ⟨f, rfl, hf, Int.dvd_refl f, Int.dvd_zero f, .inl (Int.le_refl f)⟩
theorem YD {a b : Int} (ha : 0 ≤ a) (hb : 0 ≤ b) (ha2 : a < 2 ^ 4000) (hb2 : b < 2 ^ 4000) {N : Nat} (hN : 8000 ≤ N) : a * b < 2 ^ N := by
 obtain ⟨x, rfl⟩ := Int.eq_ofNat_of_zero_le ha
 obtain ⟨y, rfl⟩ := Int.eq_ofNat_of_zero_le hb
 have hx : x < 2 ^ 4000 := by exact_mod_cast ha2
 have hy : y < 2 ^ 4000 := by exact_mod_cast hb2
 have h1 : x * y < 2 ^ 4000 * 2 ^ 4000 := by
  rcases Nat.eq_zero_or_pos y with g | g
  · rw [g, Nat.mul_zero]
    exact Nat.mul_pos (Nat.two_pow_pos _) (Nat.two_pow_pos _)
  · exact Nat.mul_lt_mul_of_lt_of_le hx (Nat.le_of_lt hy) (Nat.two_pow_pos _)
 rw [← Nat.pow_add] at h1
 have h2 : x * y < 2 ^ N := Nat.lt_of_lt_of_le h1 (Nat.pow_le_pow_right (by decide) hN)
 exact_mod_cast h2
theorem ae9 {N : Nat} (hN : 8000 ≤ N) {f v : Int} (hf : 0 ≤ f) (hv : 0 ≤ v) (hf2 : f < 2 ^ 4000) (hv2 : v < 2 ^ 4000) :
 Wp (jr (aq zf (aa 2) (mC (.int 0))) eO (N + 1 + 1) [some V, some (.int f), some (.int v)] h) (fun fl fr h' => fl = .nx ∧ h' = h ∧ ∃ g, fr = [some V, some (.int g), some (.int 0)] ∧ 0 ≤ g ∧ g ∣ f ∧ g ∣ v ∧ (g ≤ f ∨ g ≤ v)) dD := by
 rw [KR]
 by_cases c : 0 < v
 · have d1 : decide (0 < v) = true := decide_eq_true c
   have m1 : T8 f v = true := yK c
   have l1 := Int.emod_nonneg f (show v ≠ 0 by omega)
   have l2 := Int.emod_lt_of_pos f c
   have ih := Xv (h := h) (V := V) N v (f % v) hv l1 (.inr ⟨l2, YD hv l1 hv2 (Int.lt_trans l2 hv2) hN⟩)
   obtain ⟨t, ht⟩ : ∃ t, t = jr (aq zf (aa 2) (mC (.int 0))) eO (N + 1) := ⟨_, rfl⟩
   rw [← ht] at ih ⊢
   simp only [↓bK, ↓aQ, akT, akR, akP, akQ, aA, aW, bH, ↓cP, dZ, d1, aK, ↓reduceIte, ↓xZ, ↓Q8, ↓cG, akU, Vn, mK, m1, ↓bQ, KN, Oh, akV, Nat.reduceAdd, dU, Nat.reduceLeDiff, aC, true_and]
   refine ih.mono ?_
   rintro fl fr h' ⟨rfl, rfl, g, rfl, g0, g1, g2, g3⟩
   refine ⟨rfl, rfl, g, rfl, g0, ?_, g1, ?_⟩
   · have := Int.mul_ediv_add_emod f v
     rw [← this]
     exact Int.dvd_add (Int.dvd_trans g1 (Int.dvd_mul_right v _)) g2
   · omega
 · have d1 : decide (0 < v) = false := decide_eq_false c
   obtain rfl : v = 0 := by omega
   simp only [↓bK, ↓aQ, akT, akR, akP, akQ, aA, aW, bH, ↓cP, dZ, Int.reduceLT, decide_false, aK, Bool.false_eq_true, ↓reduceIte, true_and]
   exact ⟨f, rfl, hf, Int.dvd_refl f, Int.dvd_zero f, .inl (Int.le_refl f)⟩
theorem VF {l : List Int} (hl : ∀ v ∈ l, 0 ≤ v ∧ v < 2 ^ 4000) : ∃ g, kW [.fl (l.map .int)] h = .ok (.int g) [] h ∧ 1 ≤ g ∧ g < 2 ^ 4000 ∧ ∀ v ∈ l, g ∣ v := by
 obtain ⟨N, hN, eN⟩ : ∃ N, 8000 ≤ N ∧ N + 1 + 1 = 100000 := ⟨99998, by decide, rfl⟩
 obtain ⟨B, hB⟩ : ∃ B, B = ue := ⟨_, rfl⟩
 have b2 : ue = jr (aq zf (aa 2) (mC (.int 0))) eO 100000 := rfl
 have k1 : uf = (aD (gq (rB (aa 0)) (aR 2) B) (cO (aq CN (aa 1) (mC (.int 1))))) := by rw [hB]; rfl
 have lp : Wp (ou (aR 2) B (l.map .int) [some (.fl (l.map .int)), some (.int 0), none] h) (fun f fr h' => f = .nx ∧ h' = h ∧ ∃ g x, fr = [some (.fl (l.map .int)), some (.int g), x] ∧ 0 ≤ g ∧ g < 2 ^ 4000 ∧ ∀ v ∈ l, g ∣ v) dD := by
  refine Vj (fun pre fr h' => h' = h ∧ ∃ g x, fr = [some (.fl (l.map .int)), some (.int g), x] ∧ 0 ≤ g ∧ g < 2 ^ 4000 ∧ ∀ v ∈ pre, g ∣ v) ?_ ?_ ?_
  · exact ⟨rfl, 0, none, rfl, Int.le_refl 0, Int.pow_pos (by decide), fun v hv => absurd hv alo⟩
  · rintro pre a suf fr h' e ⟨rfl, g, x, rfl, g0, g1, g2⟩
    obtain ⟨a0, a1⟩ := hl a (by rw [e]; simp)
    have w := ae9 (h := h') (V := .fl (l.map .int)) hN g0 a0 g1 a1
    rw [eN, ← b2, ← hB] at w
    obtain ⟨VL, hVL⟩ : ∃ x, x = l.map D.int := ⟨_, rfl⟩
    rw [← hVL] at w ⊢
    simp only [↓bf, akP, akQ, aC]
    refine w.mono ?_
    rintro f fr h2 ⟨rfl, rfl, g', rfl, z0, z1, z2, z3⟩
    simp only [d9, true_and]
    refine ⟨g', _, rfl, z0, by omega, fun v hv => ?_⟩
    rcases List.mem_append.mp hv with hv | hv
    · exact Int.dvd_trans z1 (g2 v hv)
    · rw [List.mem_singleton.mp hv]
      exact z2
  · rintro fr h' ⟨rfl, q⟩
    exact ⟨rfl, rfl, q⟩
 have w : Wp (kW [.fl (l.map .int)] h) (fun d fr h' => ∃ g, d = .int g ∧ fr = [] ∧ h' = h ∧ 1 ≤ g ∧ g < 2 ^ 4000 ∧ ∀ v ∈ l, g ∣ v) dD := by
  generalize l.map D.int = VL at *
  simp only [↓Nf, ↓gH, startF, akY, ak2, akU, akV, Nat.zero_add, Nat.reduceSub, ale, ala, alf, alh, aC, ↓Oz, ↓cR, ↓dB, ↓cP, akP, akQ, cA, k1, ↓rF, ↓yR, ↓aQ, akR, aA, qF, bH, uH, aK]
  refine lp.mono ?_
  rintro f fr h' ⟨rfl, rfl, g, x, rfl, g0, g1, g2⟩
  have mx : CN h' (.int g) (.int 1) = some (.int (if (1 : Int) > g then 1 else g)) := rfl
  simp only [cA, ↓lD, ↓bK, ↓aQ, akT, akR, akP, akQ, aA, aW, bH, ↓cP, mx, aK, lN, true_and]
  by_cases c : (1 : Int) > g
  · rw [if_pos c]
    refine ⟨1, rfl, Int.le_refl 1, ?_, fun v hv => ?_⟩
    · have h1 : (1 : Int) ≤ 2 ^ 3999 := by
       have : (0 : Int) < 2 ^ 3999 := Int.pow_pos (by decide)
       omega
      have h2 : (2 : Int) ^ 4000 = 2 ^ 3999 * 2 := Int.pow_succ _ _
      omega
    · exact Int.one_dvd v
  · rw [if_neg c]
    exact ⟨g, rfl, by omega, g1, g2⟩
 obtain ⟨d, fr, h', e, g, rfl, rfl, rfl, q⟩ := w.out
 exact ⟨g, e, q⟩
theorem Ht {l : List Int} (hl : ∀ v ∈ l, 0 ≤ v ∧ v < 2 ^ 4000) (hn : l.length ≤ 1000) : ∃ g : Int, nM [.fl (l.map .int)] h = .ok (.tup (l.map fun v => .int (v / g))) [] h ∧ 1 ≤ g ∧ ∀ v ∈ l, g ∣ v := by
 obtain ⟨g, e1, g1, g2, g3⟩ := VF (h := h) hl
 refine ⟨g, ?_, g1, g3⟩
 have m3 : ∀ x, JW x g = true := fun x => VB (by omega) (by
  have : (g.natAbs : Int) < ((2 ^ 4000 : Nat) : Int) := by
   rw [Int.natAbs_of_nonneg (by omega)]
   exact_mod_cast g2
  exact_mod_cast this)
 have lc := pK (vs := [2]) (g := rJ) (t := rK) (e := rO) (F := D.int) (G := fun v => .int (v / g)) (fr := [some (.fl (l.map .int)), some (.int g), none]) (h := h) (xs := l) fun a _ => by
  obtain ⟨VL, hVL⟩ : ∃ x, x = l.map D.int := ⟨_, rfl⟩
  rw [← hVL]
  simp only [↓dN, ↓Ro, ↓bf, akP, akQ, aC, ↓Rp, ↓cX, dF, ↓Rr, ↓bK, ↓aQ, akT, akR, aA, aW, bH, mK, m3, bj, bB, and_self]
 have ll : (l.map D.int).length ≤ 100000 := by
  rw [akW]
  omega
 have w : Wp (nM [.fl (l.map .int)] h) (fun d fr h' => d = .tup (l.map fun v => .int (v / g)) ∧ fr = [] ∧ h' = h) dD := by
  have lm : (l.map fun v => D.int (v / g)).length = l.length := akW ..
  generalize l.map D.int = VL at *
  generalize (l.map fun v => D.int (v / g)) = VG at *
  simp only [↓Vu, ↓gH, startF, akY, ak2, akU, akV, Nat.zero_add, Nat.reduceSub, ale, ala, alf, alh, aC, ↓V6, ↓cR, ↓dB, ↓gG, ↓cG, ↓aQ, akR, akQ, aA, qF, bH, ↓bQ, dX, akZ, e1, akP, ↓cJ, cA, ↓lD, ↓cD, ↓qd, ↓yR, uH, aK, dU, ll, bj, bB, lc, R6, Qn, Option.map_some, lN, and_self]
 obtain ⟨_, _, _, e, rfl, rfl, rfl⟩ := w.out
 exact e
end
end L
namespace L
open PySem PySem.Spec L2 Pk
section
variable {vs : List Nat} {g : D → M Unit} {t : M Bool} {e : M D} {α : Type} {F G : α → D} {fr : Fr}
theorem Sw : ∀ (xs : List α) (h : Hh), (∀ a ∈ xs, ∀ h, Wp (fL vs g t e (F a) fr h) (fun o fr1 h1 => o = some (.ref h.length) ∧ fr1 = fr ∧ h1 = h ++ [G a]) dD) →
 iT vs g t e (xs.map F) fr h = .ok ((akS xs.length).map fun i => .ref (h.length + i)) fr (h ++ xs.map G)
 | [], h, _ => by
   rw [ak2, MF, ak2, akZ]
   rfl
 | a :: xs, h, hh => by
   obtain ⟨o1, f1, h1, e1, rfl, z, rfl⟩ := (hh a ak4 h).out
   rw [z] at e1
   rw [akY]
   unfold iT
   rw [M.bind_ok e1, M.bind_ok (Sw xs _ fun b hb => hh b (alb _ hb))]
   show R.ok (D.ref h.length :: _) _ _ = _
   rw [akU, List.range_succ_eq_map, akY, alc, akY, aln, ak3]
   congr 2
   refine alp fun i _ => ?_
   show D.ref (h.length + 1 + i) = D.ref (h.length + (i + 1))
   congr 1
   omega
end
section
variable {h : Hh} {F : Mem} {m n : Nat}
theorem cU.apps (H : cU h F) (f : Nat → D) : ∀ k, cU (h ++ (akS k).map f) (((akS k).map fun i => (h.length + i, f i)) ++ F)
 | 0 => by
   rw [List.range_zero, ak2, ak2, akZ]
   exact H
 | k + 1 => by
   have := (cU.apps H f k).app (f k)
   rw [List.range_succ, alj, alj, ← aln]
   refine (this.perm (B := _) ?_)
   rw [ak3, akW, ak1, aln]
   exact List.perm_middle.symm
theorem vR (n : Nat) (f : Nat → D) : aV (n + 1) f = aV n f ++ [f n] := by
 unfold aV
 rw [List.range_succ, alj]
 rfl
theorem set_same {h : Hh} {i : Nat} {d : D} (e : h[i]? = some d) : h.set i d = h := by
 obtain ⟨hi, rfl⟩ := List.getElem?_eq_some_iff.mp e
 exact List.set_getElem_self hi
theorem Z9 (H : cU h F) (tb : Tb) (G : Nat → Int) (hm : m ≤ 50) (hn : n ≤ 50) (t1 : tb.d = 1) (t2 : ∀ i, i < m → tb.bs i = n + i) (t3 : ∀ l, l < n → tb.out l = l) (t4 : tb.T m n = 0) (t5 : ∀ j, j < n → tb.T m j = -G j) :
 ∃ (h' : Hh) (T : Tab), iz [.ref h.length, .fl (aV m fun i => .fl (aV n fun j => .int (tb.T i j))), .fl (aV m fun i => .int (tb.T i n)), .fl (aV n fun j => .int (G j))] (h ++ [.no 0 []]) = .ok .non [] h' ∧ T.t = h.length ∧ T.tb = tb ∧ cU h' (T.cl m n ++ F) := by
 have b50 : 100 ≤ big := by decide
 obtain ⟨RW, hRW⟩ : ∃ x, x = aV m fun i => D.fl (aV n fun j => .int (tb.T i j)) := ⟨_, rfl⟩
 obtain ⟨LM, hLM⟩ : ∃ x, x = aV m fun i => D.int (tb.T i n) := ⟨_, rfl⟩
 obtain ⟨GN, hGN⟩ : ∃ x, x = aV n fun j => D.int (G j) := ⟨_, rfl⟩
 have lRW : RW.length = m := by rw [hRW, cZ]
 have lGN : GN.length = n := by rw [hGN, cZ]
 have H0 := H.app (.no 0 [])
 obtain ⟨N, hN⟩ : ∃ N, N = h.length := ⟨_, rfl⟩
 obtain ⟨A0, hA0⟩ : ∃ x, x = h ++ [D.no 0 []] := ⟨_, rfl⟩
 rw [← hRW, ← hLM, ← hGN, ← hN, ← hA0]
 rw [← hN, ← hA0] at H0
 have zr : jD RW LM = (akS m).map fun i => D.tup [.fl (aV n fun j => .int (tb.T i j)), .int (tb.T i n)] := by
  rw [hRW, hLM]
  exact Ry _ _ _
 have lz : (jD RW LM).length ≤ 100000 := by
  rw [zr, akW, ak1]
  omega
 have lc1 := Sw (vs := [4, 5]) (g := j6) (t := j7) (e := j8) (F := fun i => D.tup [.fl (aV n fun j => .int (tb.T i j)), .int (tb.T i n)]) (G := fun i => .nl (dw n (tb.T i)))
  (fr := [some (.ref N), some (.fl RW), some (.fl LM), some (.fl GN), none, none, none, none]) (akS m) A0 fun i _ h0 => by
   have ap : du h0 (.fl (aV n fun j => .int (tb.T i j))) (.fl [.int (tb.T i n)]) = some (.nl (dw n (tb.T i))) := by
    unfold dw
    rw [vR, v5, cZ, alg, if_pos (by omega)]
   generalize (aV n fun j => D.int (tb.T i j)) = R0 at *
   simp only [↓dN, ↓Ff, ↓cW, akU, akV, Nat.zero_add, Nat.reduceAdd, ↓cH, ↓bf, akP, akQ, aC, ↓cV, ↓Fg, ↓cX, dF, ↓Fj, ↓Q9, ↓bK, ↓aQ, akT, akR, aA, qF, bH, ↓fU, ↓qD, ↓cG, aW, ↓bQ, dU, Nat.reduceLeDiff, m7, ap, aK, rH, bj, bB, and_self]
 rw [← zr, ak1] at lc1
 have H1 := H0.apps (fun i => .nl (dw n (tb.T i))) m
 obtain ⟨A1, hA1⟩ : ∃ x, x = A0 ++ (akS m).map fun i => D.nl (dw n (tb.T i)) := ⟨_, rfl⟩
 rw [← hA1] at lc1 H1
 obtain ⟨RF, hRF⟩ : ∃ x, x = (akS m).map fun i => D.ref (A0.length + i) := ⟨_, rfl⟩
 rw [← hRF] at lc1
 have lRF : RF.length = m := by rw [hRF, akW, ak1]
 have H2 := H1.app (.nl RF)
 obtain ⟨g, hg⟩ : ∃ g, g = A1.length := ⟨_, rfl⟩
 obtain ⟨A2, hA2⟩ : ∃ x, x = A1 ++ [D.nl RF] := ⟨_, rfl⟩
 rw [← hg, ← hA2] at H2
 obtain ⟨RR, hRR⟩ : ∃ RR, RR = (akS m).map fun i => (A0.length + i, D.nl (dw n (tb.T i))) := ⟨_, rfl⟩
 rw [← hRR] at H2
 have H2 : cU A2 ((N, .no 0 []) :: (g, .nl RF) :: (RR ++ F)) := H2.perm (by
  refine (List.perm_middle (a := (N, D.no 0 [])) (l₁ := (g, D.nl RF) :: RR) (l₂ := F)).trans ?_
  exact .refl _)
 have c2 : A2[N]? = some (.no 0 []) := H2.get (i := 0) rfl
 have H3 : cU (A2.set N (.no 0 [.ref g])) ((N, .no 0 [.ref g]) :: (g, .nl RF) :: (RR ++ F)) := H2.set 0 rfl _
 obtain ⟨A3, hA3⟩ : ∃ x, x = A2.set N (.no 0 [.ref g]) := ⟨_, rfl⟩
 rw [← hA3] at H3
 have fg3 : cC di A3 (.ref N) = some (.ref g) := Cy (i := 0) (H3.get (i := 0) rfl) rfl
 have cg3 : A3[g]? = some (.nl RF) := H3.get (i := 1) rfl
 have s3 := set_same cg3
 have H4 := H3.app (.nl (dw n (tb.T m)))
 obtain ⟨r, hr⟩ : ∃ r, r = A3.length := ⟨_, rfl⟩
 obtain ⟨A4, hA4⟩ : ∃ x, x = A3 ++ [D.nl (dw n (tb.T m))] := ⟨_, rfl⟩
 rw [← hr, ← hA4] at H4
 have cg4 : A4[g]? = some (.nl RF) := H4.get (i := 2) rfl
 have H5 : cU (A4.set g (.nl (RF ++ [.ref r]))) ((r, .nl (dw n (tb.T m))) :: (N, .no 0 [.ref g]) :: (g, .nl (RF ++ [.ref r])) :: (RR ++ F)) := H4.set 2 rfl _
 obtain ⟨A5, hA5⟩ : ∃ x, x = A4.set g (.nl (RF ++ [.ref r])) := ⟨_, rfl⟩
 rw [← hA5] at H5
 have H6 := H5.app (.nl (aV n fun l => nD l))
 obtain ⟨o, ho⟩ : ∃ o, o = A5.length := ⟨_, rfl⟩
 obtain ⟨A6, hA6⟩ : ∃ x, x = A5 ++ [D.nl (aV n fun l => nD l)] := ⟨_, rfl⟩
 rw [← ho, ← hA6] at H6
 have c6 : A6[N]? = some (.no 0 [.ref g]) := H6.get (i := 2) rfl
 have H7 : cU (A6.set N (.no 0 [.ref g, .ref o])) ((o, .nl (aV n fun l => nD l)) :: (r, .nl (dw n (tb.T m))) :: (N, .no 0 [.ref g, .ref o]) :: (g, .nl (RF ++ [.ref r])) :: (RR ++ F)) := H6.set 2 rfl _
 obtain ⟨A7, hA7⟩ : ∃ x, x = A6.set N (.no 0 [.ref g, .ref o]) := ⟨_, rfl⟩
 rw [← hA7] at H7
 have H8 := H7.app (.nl (aV m fun i => .int ((n : Int) + (i : Int))))
 obtain ⟨b, hb⟩ : ∃ b, b = A7.length := ⟨_, rfl⟩
 obtain ⟨A8, hA8⟩ : ∃ x, x = A7 ++ [D.nl (aV m fun i => .int ((n : Int) + (i : Int)))] := ⟨_, rfl⟩
 rw [← hb, ← hA8] at H8
 have c8 : A8[N]? = some (.no 0 [.ref g, .ref o]) := H8.get (i := 3) rfl
 have H9 : cU (A8.set N (.no 0 [.ref g, .ref o, .ref b])) ((b, .nl (aV m fun i => .int ((n : Int) + (i : Int)))) :: (o, .nl (aV n fun l => nD l)) :: (r, .nl (dw n (tb.T m))) :: (N, .no 0 [.ref g, .ref o, .ref b]) :: (g, .nl (RF ++ [.ref r])) :: (RR ++ F)) := H8.set 3 rfl _
 obtain ⟨A9, hA9⟩ : ∃ x, x = A8.set N (.no 0 [.ref g, .ref o, .ref b]) := ⟨_, rfl⟩
 rw [← hA9] at H9
 have c9 : A9[N]? = some (.no 0 [.ref g, .ref o, .ref b]) := H9.get (i := 3) rfl
 have H10 : cU (A9.set N (.no 0 [.ref g, .ref o, .ref b, .int 1])) ((b, .nl (aV m fun i => .int ((n : Int) + (i : Int)))) :: (o, .nl (aV n fun l => nD l)) :: (r, .nl (dw n (tb.T m))) :: (N, .no 0 [.ref g, .ref o, .ref b, .int 1]) :: (g, .nl (RF ++ [.ref r])) :: (RR ++ F)) := H9.set 3 rfl _
 obtain ⟨A10, hA10⟩ : ∃ x, x = A9.set N (.no 0 [.ref g, .ref o, .ref b, .int 1]) := ⟨_, rfl⟩
 rw [← hA10] at H10
 have lc2 : ∀ hh : Hh, iT [6] gQ gR gU GN [some (.ref N), some (.fl RW), some (.fl LM), some (.fl GN), none, none, none, none] hh = .ok (aV n fun j => .int (-G j)) [some (.ref N), some (.fl RW), some (.fl LM), some (.fl GN), none, none, none, none] hh := fun hh => by
  have := pK (vs := [6]) (g := gQ) (t := gR) (e := gU) (F := fun j => D.int (G j)) (G := fun j => .int (-G j)) (fr := [some (.ref N), some (.fl RW), some (.fl LM), some (.fl GN), none, none, none, none]) (h := hh) (xs := akS n) fun j _ => by
   have bn : fj (.int (G j)) = some (.int (-G j)) := rfl
   simp only [↓dN, ↓Fo, ↓bf, akP, akQ, aC, ↓Fp, ↓cX, dF, ↓Ft, ↓cD, ↓aQ, akT, akR, aA, aW, bH, bn, aK, bj, bB, and_self]
  rw [hGN] at this ⊢
  exact this
 have lc3 : ∀ hh : Hh, iT [7] gY g8 ie (fV 0 m) [some (.ref N), some (.fl RW), some (.fl LM), some (.fl GN), none, none, none, none] hh = .ok (aV m fun i => .int ((n : Int) + (i : Int))) [some (.ref N), some (.fl RW), some (.fl LM), some (.fl GN), none, none, none, none] hh := fun hh => by
  have := pK (vs := [7]) (g := gY) (t := g8) (e := ie) (F := fun (i : Nat) => D.int (0 + (i : Int))) (G := fun i => .int ((n : Int) + (i : Int))) (fr := [some (.ref N), some (.fl RW), some (.fl LM), some (.fl GN), none, none, none, none]) (h := hh) (xs := akS m) fun i _ => by
   simp only [↓dN, ↓Fv, ↓bf, Int.zero_add, akP, akQ, aC, ↓Fw, ↓cX, dF, ↓Fy, ↓fU, ↓bK, ↓cD, ↓cY, akT, akR, aA, v4, lGN, aK, ↓aQ, aW, bH, pO, bj, bB, lO, and_self]
  exact this
 have ap2 : ∀ hh : Hh, du hh (.fl (aV n fun j => .int (-G j))) (.fl [.int 0]) = some (.nl (dw n (tb.T m))) := fun hh => by
  unfold dw
  rw [vR, v5, cZ, alg, if_pos (by omega), t4]
  congr 2
  congr 1
  exact mD fun j hj => by rw [t5 j hj]
 have apF : zR (.ref r) RF = some (RF ++ [.ref r]) := by
  unfold zR
  rw [if_pos (by omega)]
 have rg : Qa (.int 0) (.int (n : Int)) = some (.nl (aV n fun l => nD l)) := by
  have r1 : UW 0 (n : Int) = true := by
   unfold UW
   simp only [Bool.and_eq_true, decide_eq_true_eq]
   omega
  have r2 : rgD 0 (n : Int) = aV n fun l => nD l := by
   unfold rgD aV nD
   rw [show ((n : Int) - 0).toNat = n by omega]
   exact alp fun i _ => by rw [Int.zero_add]
  unfold Qa
  dsimp only
  rw [if_pos r1, r2]
 have sm1 : z7 (m : Int) = true := by
  unfold z7
  rw [decide_eq_true (by omega), decide_eq_true (by omega)]
  rfl
 have lrn : (fV 0 m).length ≤ 100000 := by
  unfold fV
  rw [akW, ak1]
  omega
 have lGN2 : GN.length ≤ 100000 := by omega
 have i0 : di 0 = some 0 := rfl
 have i1 : d7 0 = some 1 := rfl
 have i2 : ir 0 = some 2 := rfl
 have i3 : kJ 0 = some 3 := rfl
 have p0 : pH 0 (.ref g) [] = some [.ref g] := rfl
 have p1 : pH 1 (.ref o) [.ref g] = some [.ref g, .ref o] := rfl
 have p2 : pH 2 (.ref b) [.ref g, .ref o] = some [.ref g, .ref o, .ref b] := rfl
 have p3 : pH 3 (.int 1) [.ref g, .ref o, .ref b] = some [.ref g, .ref o, .ref b, .int 1] := rfl
 have w : Wp (iz [.ref N, .fl RW, .fl LM, .fl GN] A0) (fun d fr h' => d = .non ∧ fr = [] ∧ h' = A10) dD := by
  have hA1 := hA1.symm
  have hA2 := hA2.symm
  have hA3 := hA3.symm
  have hA4 := hA4.symm
  have hA5 := hA5.symm
  have hA6 := hA6.symm
  have hA7 := hA7.symm
  have hA8 := hA8.symm
  have hA9 := hA9.symm
  have hA10 := hA10.symm
  have hg := hg.symm
  have hr := hr.symm
  have ho := ho.symm
  have hb := hb.symm
  generalize hz : jD RW LM = ZZ at *
  generalize hrm : (fV 0 m) = RM at *
  generalize (aV n fun l => nD l) = OL at *
  generalize (aV m fun i => D.int ((n : Int) + (i : Int))) = BL at *
  generalize (dw n (tb.T m)) = RL at *
  simp only [↓Je, ↓gH, startF, akY, ak2, akU, akV, Nat.zero_add, Nat.reduceAdd, Nat.reduceSub, ale, ala, alf, alh, aC, ↓JK, ↓cR, ↓R5, ↓Q9, ↓qd, ↓aeX, ↓aQ, akT, akR, akP, akQ, aA, qF, bH, adb, hz, aK, dU, lz, bj, bB, lc1, ↓cJ, rH, ↓Xe, hA2, c2, i0, hg, p0, cA, ↓FQ, ↓rE, ↓ac2, ↓cD, ↓cY, hA3, fg3, Mu, cg3, uI, ↓bK, ↓fU, ↓yR, uH, lGN, s3, lc2, ↓qD, ↓cG, ↓cP, ↓bQ, Nat.reduceLeDiff, m7, ap2, hr, hA4, cg4, v7, Ve, ↓FP, ↓abd, hA5, v4, rg, hA6, c6, i1, ho, p1, ↓FJ, ↓oX, Aa, hA7, lRW, sm1, ↓reduceIte, Int.toNat_natCast, hrm, lrn, lc3, hA8, c8, i2, hb, p2, hA9, c9, i3, p3, ZG, hA10, and_self, and_true, true_and]
  omega
 obtain ⟨_, _, _, e, rfl, rfl, rfl⟩ := w.out
 refine ⟨_, ⟨N, g, o, b, fun i => if i < m then A0.length + i else r, tb⟩, e, rfl, rfl, ?_⟩
 refine H10.perm ?_
 have e1 : (RF ++ [.ref r]) = aV (m + 1) fun i => .ref (if i < m then A0.length + i else r) := by
  rw [vR, if_neg (Nat.lt_irrefl m), hRF]
  refine congrArg (· ++ [D.ref r]) (alp fun i hi => ?_)
  rw [if_pos (List.mem_range.mp hi)]
 have e2 : (aV n fun l => nD l) = aV n fun l => nD (tb.out l) := mD fun l hl => by rw [t3 l hl]
 have e3 : (aV m fun i => D.int ((n : Int) + (i : Int))) = aV m fun i => nD (tb.bs i) := mD fun i hi => by
  rw [t2 i hi]
  unfold nD
  rw [Int.natCast_add]
 have e4 : RR ++ [(r, D.nl (dw n (tb.T m)))] = (akS (m + 1)).map fun i => ((if i < m then A0.length + i else r), D.nl (dw n (tb.T i))) := by
  rw [List.range_succ, alj, hRR]
  rw [akY, ak2, if_neg (Nat.lt_irrefl m)]
  refine congrArg (· ++ [(r, D.nl (dw n (tb.T m)))]) (alp fun i hi => ?_)
  rw [if_pos (List.mem_range.mp hi)]
 unfold Tab.cl Tab.fs
 dsimp only
 rw [← e4, ← e1, ← e2, ← e3, t1]
 generalize (b, D.nl (aV m fun i => D.int ((n : Int) + (i : Int)))) = B
 generalize (o, D.nl (aV n fun l => nD l)) = O
 generalize (r, D.nl (dw n (tb.T m))) = R
 generalize (N, D.no 0 [D.ref g, .ref o, .ref b, .int 1]) = N0
 generalize (g, D.nl (RF ++ [D.ref r])) = G0
 have q1 : (B :: O :: R :: N0 :: G0 :: (RR ++ F)).Perm (N0 :: G0 :: O :: B :: R :: (RR ++ F)) := by
  have z : ([B, O, R, N0, G0] : Mem).Perm [N0, G0, O, B, R] := by
   refine List.Perm.trans (l₂ := [N0, B, O, R, G0]) ?_ (.cons _ ?_)
   · exact List.perm_middle (l₁ := [B, O, R]) (l₂ := [G0])
   refine List.Perm.trans (l₂ := [G0, B, O, R]) ?_ (.cons _ ?_)
   · exact List.perm_middle (l₁ := [B, O, R]) (l₂ := [])
   exact .swap _ _ _
  exact z.append_right (RR ++ F)
 refine q1.trans ?_
 show (N0 :: G0 :: O :: B :: R :: (RR ++ F)).Perm (N0 :: G0 :: O :: B :: ((RR ++ [R]) ++ F))
 refine .cons _ (.cons _ (.cons _ (.cons _ ?_)))
 rw [aln]
 exact (List.perm_middle (a := R) (l₁ := RR) (l₂ := F)).symm
end
end L
namespace L
open PySem PySem.Spec L2 Pk
structure Sy.Sm (s : Sy) : Prop where
 hp : s.p ≤ 8
 hq : s.q ≤ 20
 hs : ∀ i, i < s.p → s.st i = 0 ∨ s.st i = 1
 one : ∃ i, i < s.p ∧ s.st i = 1
 hc : ∀ l i, l < s.q → i < s.p → (s.col l i).natAbs ≤ 2 ^ 200
theorem afa : ∀ M, M ≤ 10 → Lj M ≤ 3628800 := by decide
section
variable {s : Sy} {t : Tb}
theorem Sy.Sm.T (hs : s.Sm) (i j : Nat) : (s.T i j).natAbs ≤ 2 ^ 200 := by
 have h1 : 1 ≤ 2 ^ 200 := Nat.one_le_two_pow
 unfold Sy.T
 split
 · rename_i hi
   split
   · rcases hs.hs i hi with e | e
     · rw [e]
       exact Nat.zero_le _
     · rw [e]
       exact h1
   · rename_i hj
     split
     · rename_i hj2
       rw [Int.natAbs_neg]
       have hn := s.hn
       exact hs.hc _ _ (by omega) hi
     · exact Nat.zero_le _
 · split
   · split
     · exact Nat.zero_le _
     · exact h1
   · split
     · exact h1
     · exact Nat.zero_le _
theorem Sy.Sm.V (hs : s.Sm) (u r : Nat) : (s.V u r).natAbs ≤ 2 ^ 200 := by
 have h1 : 1 ≤ 2 ^ 200 := Nat.one_le_two_pow
 unfold Sy.V
 split
 · exact hs.T _ _
 · split
   · split
     · exact h1
     · exact Nat.zero_le _
   · exact hs.T _ _
theorem SJ {M : Nat} (hM : M ≤ 10) {A : Mx} (h : ∀ c r, (A c r).natAbs ≤ 2 ^ 200) : (det M A).natAbs < 2 ^ 4000 := by
 have h1 := Xo (W := 2 ^ 200) (m := M) (A := A) fun c r _ _ => h c r
 have h2 : (2 ^ 200) ^ M ≤ (2 ^ 200) ^ 10 := Nat.pow_le_pow_right (Nat.two_pow_pos _) hM
 have h3 : Lj M * (2 ^ 200) ^ M ≤ 3628800 * (2 ^ 200) ^ 10 := Nat.mul_le_mul (afa M hM) h2
 have e : (2 ^ 200) ^ 10 = 2 ^ (200 * 10) := (Nat.pow_mul 2 200 10).symm
 rw [e] at h3
 have h4 : 3628800 * 2 ^ (200 * 10) < 2 ^ 22 * 2 ^ (200 * 10) := Nat.mul_lt_mul_of_pos_right (by decide) (Nat.two_pow_pos _)
 rw [← Nat.pow_add] at h4
 have h5 : 2 ^ (22 + 200 * 10) ≤ 2 ^ 4000 := Nat.pow_le_pow_right (by decide) (by decide)
 exact Nat.lt_of_le_of_lt h1 (Nat.lt_of_le_of_lt h3 (Nat.lt_of_lt_of_le h4 h5))
theorem On.small (o : On s t) (hs : s.Sm) : (∀ i j, i ≤ s.m → j ≤ s.n → (t.T i j).natAbs < 2 ^ 4000) ∧ t.d.natAbs < 2 ^ 4000 := by
 have hm := s.hm
 have hp := hs.hp
 refine ⟨fun i j hi hj => ?_, ?_⟩
 · rw [o.ok.entry (i := i) (l := j) (by omega) hj]
   refine SJ (by omega) fun c r => ?_
   unfold upd
   split
   · exact hs.V _ _
   · exact hs.V _ _
 · rw [← o.ok.dt]
   exact SJ (by omega) fun c r => hs.V _ _
end
section
variable {h : Hh} {T : Tab} {F : Mem} {s : Sy}
theorem On.sh (o : On s T.tb) (hs : s.Sm) : T.Sh s.m s.n := by
 have hm := s.hm
 have hn := s.hn
 have hp := hs.hp
 have hq := hs.hq
 exact ⟨by omega, by omega, (o.small hs).1⟩
def Way (s : Sy) (t : Tb) (K : Nat) : Prop := ∃ tb ent lev, Run s.V s.N s.m s.n s.N (s.N + 1) tb ent lev K ∧ tb 0 = s.t ∧ tb K = t
theorem Way.lt {t : Tb} {K : Nat} (w : Way s t K) : K < 2 ^ s.N := by
 obtain ⟨tb, ent, lev, R, e0, _⟩ := w
 have hm := s.hm
 have hn := s.hn
 have hN := s.hN
 refine R.bound (X := fun u => if u < s.n then 0 else s.T (u - s.n) s.n) (D0 := 1) (by decide) ?_
 rw [e0]
 refine ⟨fun i hi => ?_, fun l hl => ?_⟩
 · show s.T i s.n * 1 = (if s.n + i < s.n then 0 else s.T (s.n + i - s.n) s.n) * 1
   rw [if_neg (by omega), show s.n + i - s.n = i by omega]
 · show (if (if l < s.n then l else s.N + 1) < s.n then (0 : Int) else _) = 0
   rw [if_pos hl, if_pos hl]
theorem Way.zero : Way s s.t 0 := ⟨fun _ => s.t, fun _ => 0, fun _ => 0, ⟨s.ok, s.lab, fun i hi => absurd hi (Nat.not_lt_zero i), fun i hi => absurd hi (Nat.not_lt_zero i), fun i hi => absurd hi (Nat.not_lt_zero i), fun i hi => absurd hi (Nat.not_lt_zero i), fun i hi => absurd hi (Nat.not_lt_zero i), fun i hi => absurd hi (Nat.not_lt_zero i), fun i hi => absurd hi (Nat.not_lt_zero i), fun i hi => absurd hi (Nat.not_lt_zero i)⟩, rfl, rfl⟩
theorem Way.next {a q K : Nat} (w : Way s T.tb K) (o : On s T.tb) (st : Step T s.m s.n a q) (h0 : T.tb.T s.m s.n = 0) (hz : (T.tb.piv a q).T s.m s.n = 0) : Way s (T.tb.piv a q) (K + 1) := by
 obtain ⟨tb, ent, lev, R, e0, eK⟩ := w
 have dg := o.gain st.ha st.hq h0 st.hc hz
 refine ⟨fun i => if i ≤ K then tb i else T.tb.piv a q, fun i => if i < K then ent i else q, fun i => if i < K then lev i else a, ?_, ?_, ?_⟩
 · have T0 : ∀ i, i ≤ K → (if i ≤ K then tb i else T.tb.piv a q) = tb i := fun i hi => if_pos hi
   have c : ∀ (P : Tb → Nat → Nat → Prop), (∀ i, i < K → P (tb i) (ent i) (lev i)) → P T.tb q a → ∀ i, i < K + 1 → P (if i ≤ K then tb i else T.tb.piv a q) (if i < K then ent i else q) (if i < K then lev i else a) := fun P h1 h2 i hi => by
    rw [if_pos (show i ≤ K by omega)]
    by_cases g : i < K
    · rw [if_pos g, if_pos g]
      exact h1 i g
    · rw [if_neg g, if_neg g, show i = K by omega, eK]
      exact h2
   refine ⟨?_, ?_, fun i hi => ?_, ?_, ?_, ?_, ?_, ?_, ?_, ?_⟩
   · show Tb.Ok _ _ _ (if 0 ≤ K then tb 0 else _)
     rw [if_pos (Nat.zero_le K)]
     exact R.ok
   · show Tb.Lab _ _ _ _ _ (if 0 ≤ K then tb 0 else _)
     rw [if_pos (Nat.zero_le K)]
     exact R.lab
   · show (if i + 1 ≤ K then tb (i + 1) else T.tb.piv a q) = (if i ≤ K then tb i else T.tb.piv a q).piv (if i < K then lev i else a) (if i < K then ent i else q)
     rw [if_pos (show i ≤ K by omega)]
     by_cases g : i < K
     · rw [if_pos (show i + 1 ≤ K by omega), if_pos g, if_pos g]
       exact R.st i g
     · rw [if_neg (by omega), if_neg g, if_neg g, show i = K by omega, eK]
   · exact c (fun _ e _ => e < s.n) R.hq st.hq
   · exact c (fun _ _ l => l < s.m) R.ha st.ha
   · exact c (fun t e _ => t.T s.m e < 0) R.hc st.hc
   · exact c (fun t e l => 0 < t.T l e) R.hp st.hp
   · exact c (fun t e _ => ∀ l, l < s.n → t.T s.m l < 0 → t.out e ≤ t.out l) R.er st.er
   · refine c (fun t e l => ∀ k, k < s.m → 0 < t.T k e → t.T k s.n = 0 → t.bs l ≤ t.bs k) R.lr fun k hk hp hn => (st.lr k hk hp).2 ?_
     rw [dg, hn, Int.zero_mul, Int.zero_mul]
   · exact c (fun t _ l => t.T l s.n = 0) R.dg dg
 · exact (if_pos (Nat.zero_le K)).trans e0
 · exact if_neg (by omega)
theorem QC (hs : s.Sm) {x0 x1 x2 x3 x4 x5 x6 x7 x9 x10 : Option D} : ∀ (fuel K : Nat) (h : Hh) (T : Tab), cU h (T.cl s.m s.n ++ F) → On s T.tb → (T.tb.T s.m s.n = 0 → Way s T.tb K) → K ≤ 2 ^ s.N → 2 ^ s.N < K + fuel →
 Wp (jr (qZ (aq fX (aq aP (aq aP (aJ (cC di) (aN 8)) (aJ (fun _ => fj) (mC (.int 1)))) (aJ (fun _ => fj) (mC (.int 1)))) (mC (.int 0))) (aJ D.tru (mZ 0 0 wg (bh []) (aa 8) (ak []) (ak [])))) qM fuel
  [x0, x1, x2, x3, x4, x5, x6, x7, some (.ref T.t), x9, x10] h)
  (fun f fr h' => f = .nx ∧ fr = [x0, x1, x2, x3, x4, x5, x6, x7, some (.ref T.t), x9, x10] ∧ ∃ T' : Tab, T'.t = T.t ∧ cU h' (T'.cl s.m s.n ++ F) ∧ On s T'.tb ∧ (T'.tb.T s.m s.n = 0 → ∀ l, l < s.n → 0 ≤ T'.tb.T s.m l)) dD
 | 0, K, h, T, H, o, w, hK, hf => by omega
 | f + 1, K, h, T, H, o, w, hK, hf => by
   have hm := s.hm
   have hn := s.hn
   have hN := s.hN
   obtain ⟨fg, fo, fb, fd⟩ := rZ H
   have gm := T5 H
   have em := Qz H (i := s.m) (Nat.le_refl _)
   have b1 : fj (.int 1) = some (.int (-1)) := rfl
   rw [KR]
   by_cases c : T.tb.T s.m s.n = 0
   · have d1 : decide (T.tb.T s.m s.n = 0) = true := decide_eq_true c
     have way := w c
     have lt := way.lt
     have f1 : fnOf wg h (.ref T.t) = some iQ := MT H
     rcases Z8 H (o.sh hs) o.ok.dp (o.small hs).2 (fun q hq hc => o.limited hs.one hq hc) with ⟨e1, hc⟩ | ⟨a, q, h', e1, H', st⟩
     · obtain ⟨W, hW⟩ : ∃ W, W = jr (qZ (aq fX (aq aP (aq aP (aJ (cC di) (aN 8)) (aJ (fun _ => fj) (mC (.int 1)))) (aJ (fun _ => fj) (mC (.int 1)))) (mC (.int 0))) (aJ D.tru (mZ 0 0 wg (bh []) (aa 8) (ak []) (ak [])))) qM f := ⟨_, rfl⟩
       rw [← hW]
       simp only [↓mJ, ↓bK, ↓cD, ↓cY, akT, akR, aA, fg, aK, ↓cP, b1, Int.reduceNeg, gm, em, oA, d1, dF, ↓Bc, ↓aQ, akP, akQ, dW, bH, f1, ↓bQ, akV, dX, akZ, e1, ↓cJ, qG, Bool.false_eq_true, ↓reduceIte, true_and]
       exact ⟨T, rfl, H, o, fun _ => hc⟩
     · have o' : On s (T.w (T.tb.piv a q)).tb := o.piv st.ha st.hq st.hp fun k hk hp => (st.lr k hk hp).1
       have ih := QC hs (x0 := x0) (x1 := x1) (x2 := x2) (x3 := x3) (x4 := x4) (x5 := x5) (x6 := x6) (x7 := x7) (x9 := x9) (x10 := x10) f (K + 1) h' (T.w (T.tb.piv a q)) H' o' (fun hz => way.next o st c hz) (by omega) (by omega)
       obtain ⟨W, hW⟩ : ∃ W, W = jr (qZ (aq fX (aq aP (aq aP (aJ (cC di) (aN 8)) (aJ (fun _ => fj) (mC (.int 1)))) (aJ (fun _ => fj) (mC (.int 1)))) (mC (.int 0))) (aJ D.tru (mZ 0 0 wg (bh []) (aa 8) (ak []) (ak [])))) qM f := ⟨_, rfl⟩
       rw [← hW] at ih ⊢
       simp only [↓mJ, ↓bK, ↓cD, ↓cY, akT, akR, aA, fg, aK, ↓cP, b1, Int.reduceNeg, gm, em, oA, d1, dF, ↓Bc, ↓aQ, akP, akQ, dW, bH, f1, ↓bQ, akV, dX, akZ, e1, ↓cJ, qG, ↓reduceIte, ↓Yr, ↓cX, true_and, Vn]
       exact ih
   · have d1 : decide (T.tb.T s.m s.n = 0) = false := decide_eq_false c
     obtain ⟨W, hW⟩ : ∃ W, W = jr (qZ (aq fX (aq aP (aq aP (aJ (cC di) (aN 8)) (aJ (fun _ => fj) (mC (.int 1)))) (aJ (fun _ => fj) (mC (.int 1)))) (mC (.int 0))) (aJ D.tru (mZ 0 0 wg (bh []) (aa 8) (ak []) (ak [])))) qM f := ⟨_, rfl⟩
     rw [← hW]
     simp only [↓mJ, ↓bK, ↓cD, ↓cY, akT, akR, aA, fg, aK, ↓cP, b1, Int.reduceNeg, gm, em, oA, d1, bH, Bool.false_eq_true, ↓reduceIte, true_and]
     exact ⟨T, rfl, H, o, fun z => absurd z c⟩
end
end L
namespace L
open PySem PySem.Spec L2 Pk
def dI (c : List Int) : List Key := c.map Sum.inl
def bA (c : List Int) : D := .tp (c.map .int)
theorem O7 {a b : List Int} (h : dI a = dI b) : a = b := (List.map_inj_right fun _ _ e => Sum.inl.inj e).mp h
theorem QD : ∀ c : List Int, Dd (c.map .int) = some (dI c)
 | [] => rfl
 | i :: c => by
   rw [akY, Dd, QD c]
   rfl
theorem O8 {c : List Int} (h : c.length ≤ big) : Dy (bA c) = some (dI c) := by
 unfold bA Dy Mr
 dsimp only
 rw [akW, if_pos h, QD]
theorem aaa (c : List Int) : (dI c).map keyB = c.map .int := by
 unfold dI
 rw [alc]
 rfl
section
variable {U : List (List Int)} {ds : List D} {c : List Int} {d : D}
theorem abN : Ig (U.map dI) (dI c) = decide (c ∈ U) := by
 unfold Ig
 induction U with
 | nil => rfl
 | cons a U ih =>
   rw [akY, List.any_cons, ih]
   by_cases e : a = c
   · subst e; simp
   · have e1 : ¬ dI a = dI c := fun z => e (O7 z)
     have e2 : ¬ c = a := fun z => e z.symm
     simp [e1, e2]
theorem Jv : ∀ {U : List (List Int)} {ds : List D}, c ∉ U → valD (U.map dI) ds (dI c) = none
 | [], _, _ => by unfold valD; rfl
 | a :: U, [], _ => rfl
 | a :: U, d :: ds, h => by
   have h1 : c ≠ a := fun z => h (by rw [z]; exact ak4)
   have h2 : c ∉ U := fun z => h (alb _ z)
   rw [akY, valD, if_neg fun z => h1 (O7 z).symm]
   exact Jv h2
theorem Jw : ∀ {U : List (List Int)} {ds : List D}, c ∈ U → U.length = ds.length → ∃ z, valD (U.map dI) ds (dI c) = some z
 | [], _, h, _ => absurd h alo
 | a :: U, [], _, e => by cases e
 | a :: U, d :: ds, h, e => by
   rw [akY, valD]
   by_cases g : dI a = dI c
   · rw [if_pos g]
     exact ⟨d, rfl⟩
   · rw [if_neg g]
     rcases List.mem_cons.mp h with h | h
     · exact absurd (by rw [h]) g
     · exact Jw h (Nat.succ.inj e)
theorem Nu : ∀ {U : List (List Int)} {ds : List D} {l : Nat}, U.Nodup → U[l]? = some c → ds[l]? = some d → valD (U.map dI) ds (dI c) = some d
 | [], _, _, _, h, _ => by cases h
 | a :: U, [], _, _, _, e => by cases e
 | a :: U, d' :: ds, 0, _, h, e => by
   rw [akR] at h e
   cases h
   cases e
   rw [akY, valD, if_pos rfl]
 | a :: U, d' :: ds, l + 1, nd, h, e => by
   rw [akT] at h e
   obtain ⟨n1, n2⟩ := List.nodup_cons.mp nd
   rw [akY, valD, if_neg fun z => n1 ?_]
   · exact Nu n2 h e
   · rw [O7 z]
     exact ald h
end
section
variable {h : Hh} {A : Nat} {U : List (List Int)} {ds : List D} {c : List Int} {d : D}
theorem Hu (e : h[A]? = some (.dc (U.map dI) ds)) : lC h (.ref A) = some (A, U.map dI, ds) := by
 unfold lC
 dsimp only
 rw [e]
theorem abO (e : h[A]? = some (.dc (U.map dI) ds)) (hc : c ∈ U) (hl : U.length = ds.length) (hb : U.length ≤ big) (hk : c.length ≤ big) : ∃ z, wW h (.ref A) (bA c) d = some (z, h) := by
 obtain ⟨z, ez⟩ := Jw hc hl
 refine ⟨z, ?_⟩
 unfold wW
 rw [Hu e]
 show (Dy (bA c)).bind _ = _
 rw [O8 hk]
 show (if (U.map dI).length ≤ big then some (match valD (U.map dI) ds (dI c) with
  | some z => (z, h)
  | none => (d, h.set A (.dc (wV (U.map dI) (dI c)) (sO (U.map dI) ds (dI c) d)))) else none) = _
 rw [akW, if_pos hb, ez]
theorem abP (e : h[A]? = some (.dc (U.map dI) ds)) (hc : c ∉ U) (hb : U.length ≤ big) (hk : c.length ≤ big) : wW h (.ref A) (bA c) d = some (d, h.set A (.dc ((U ++ [c]).map dI) (ds ++ [d]))) := by
 have hk0 : Ig (U.map dI) (dI c) = false := abN.trans (decide_eq_false hc)
 unfold wW
 rw [Hu e]
 show (Dy (bA c)).bind _ = _
 rw [O8 hk]
 show (if (U.map dI).length ≤ big then some (match valD (U.map dI) ds (dI c) with
  | some z => (z, h)
  | none => (d, h.set A (.dc (wV (U.map dI) (dI c)) (sO (U.map dI) ds (dI c) d)))) else none) = _
 rw [akW, if_pos hb, Jv hc]
 dsimp only
 unfold wV sO
 rw [if_neg (by rw [hk0]; exact Bool.false_ne_true), if_neg (by rw [hk0]; exact Bool.false_ne_true), alj]
 rfl
theorem adq (e : h[A]? = some (.dc (U.map dI) ds)) (nd : U.Nodup) {l : Nat} (hu : U[l]? = some c) (hd : ds[l]? = some d) (hk : c.length ≤ big) : zE h (.ref A) (bA c) = some d := by
 unfold zE
 rw [Hu e]
 show (Dy (bA c)).bind _ = _
 rw [O8 hk]
 exact Nu nd hu hd
theorem afQ (e : h[A]? = some (.dc (U.map dI) ds)) : Bu h (.ref A) = some (.nl (U.map bA)) := by
 unfold Bu
 rw [Hu e]
 show some (D.nl ((U.map dI).map fun k => .tp (k.map keyB))) = _
 rw [alc]
 congr 2
 refine alp fun c _ => ?_
 show D.tp ((dI c).map keyB) = bA c
 rw [aaa]
 rfl
end
structure Un (cols : List (List Int)) (k : Nat) (U : List (List Int)) (ix : Nat → Nat) : Prop where
 nd : U.Nodup
 lt : ∀ l, l < U.length → ix l < k
 inj : ∀ a b, a < U.length → b < U.length → ix a = ix b → a = b
 at_ : ∀ l, l < U.length → cols.getD (ix l) [] = U.getD l []
 al : ∀ i, i < k → cols.getD i [] ∈ U
section
variable {cols U : List (List Int)} {k : Nat} {ix : Nat → Nat}
theorem Un.zero : Un cols 0 [] fun _ => 0 := ⟨List.nodup_nil, fun l hl => absurd hl (Nat.not_lt_zero l), fun a b ha => absurd ha (Nat.not_lt_zero a), fun l hl => absurd hl (Nat.not_lt_zero l), fun i hi => absurd hi (Nat.not_lt_zero i)⟩
theorem Un.old (u : Un cols k U ix) (h : cols.getD k [] ∈ U) : Un cols (k + 1) U ix := ⟨u.nd, fun l hl => Nat.lt_succ_of_lt (u.lt l hl), u.inj, u.at_, fun i hi => by
 by_cases e : i = k
 · rw [e]
   exact h
 · exact u.al i (by omega)⟩
theorem Un.new (u : Un cols k U ix) (h : cols.getD k [] ∉ U) : Un cols (k + 1) (U ++ [cols.getD k []]) fun l => if l = U.length then k else ix l := by
 have len : (U ++ [cols.getD k []]).length = U.length + 1 := by rw [ak3, alg]
 refine ⟨?_, fun l hl => ?_, fun a b ha hb e => ?_, fun l hl => ?_, fun i hi => ?_⟩
 · refine List.nodup_append.mpr ⟨u.nd, by simp, fun a ha b hb e => h ?_⟩
   rw [← List.mem_singleton.mp hb, ← e]
   exact ha
 · rw [len] at hl
   show (if l = U.length then k else ix l) < k + 1
   split
   · omega
   · have := u.lt l (by omega)
     omega
 · rw [len] at ha hb
   have e : (if a = U.length then k else ix a) = (if b = U.length then k else ix b) := e
   by_cases c1 : a = U.length
   · by_cases c2 : b = U.length
     · omega
     · rw [if_pos c1, if_neg c2] at e
       have := u.lt b (by omega)
       omega
   · by_cases c2 : b = U.length
     · rw [if_neg c1, if_pos c2] at e
       have := u.lt a (by omega)
       omega
     · rw [if_neg c1, if_neg c2] at e
       exact u.inj a b (by omega) (by omega) e
 · rw [len] at hl
   show cols.getD (if l = U.length then k else ix l) [] = _
   rw [ak0 (l := U ++ _)]
   by_cases c : l = U.length
   · rw [if_pos c, c, ali (Nat.le_refl _), Nat.sub_self]
     rfl
   · rw [if_neg c, alk (by omega), u.at_ l (by omega), ak0]
 · by_cases c : i = k
   · rw [c]
     exact List.mem_append_right _ ak4
   · exact List.mem_append_left _ (u.al i (by omega))
end
theorem yO {α : Type} (f : α → D) (z : α) (l : List α) : l.map f = aV l.length fun k => f (l.getD k z) := by
 refine List.ext_getElem (by rw [akW, cZ]) fun i h1 h2 => ?_
 have hi : i < l.length := by rw [akW] at h1; exact h1
 rw [List.getElem_map]
 have := tG (n := l.length) (fun k => f (l.getD k z)) hi
 rw [akX h2] at this
 rw [Option.some.inj this, ak0, akX hi]
 rfl
theorem O9 (n : Nat) (f : Nat → D) : aV (n + 1) f = f 0 :: aV n fun i => f (i + 1) := by
 unfold aV
 rw [List.range_succ_eq_map, akY, alc]
 rfl
section
variable {h : Hh} {F : Mem} {A : Nat} {cols : List (List Int)} {ST : D}
theorem Wh (H : cU h ((A, .dc [] []) :: F)) (hn : cols.length ≤ 50) (hl : ∀ c ∈ cols, c.length ≤ 50) {x3 x4 x5 x6 x7 x8 x9 x10 : Option D} :
 Wp (ou (dH 2 (aU (aR 3) (aU (aR 4) dJ))) wZ (eG 0 (cols.map bA)) [some (.fl (cols.map bA)), some ST, some (.ref A), x3, x4, x5, x6, x7, x8, x9, x10] h)
  (fun f fr h' => f = .nx ∧ ∃ U ix x3 x4, fr = [some (.fl (cols.map bA)), some ST, some (.ref A), x3, x4, x5, x6, x7, x8, x9, x10] ∧ Un cols cols.length U ix ∧ cU h' ((A, .dc (U.map dI) (aV U.length fun l => nD (ix l))) :: F)) dD := by
 have b50 : 51 ≤ big := by decide
 have ee : eG 0 (cols.map bA) = (akS cols.length).map fun (k : Nat) => D.tup [.int (k : Int), bA (cols.getD k [])] := by
  rw [yO bA [] cols]
  exact uP _ _
 rw [ee]
 obtain ⟨CL, hCL⟩ : ∃ x, x = cols.map bA := ⟨_, rfl⟩
 rw [← hCL]
 refine yN (fun k fr h' => ∃ U ix x3 x4, fr = [some (.fl CL), some ST, some (.ref A), x3, x4, x5, x6, x7, x8, x9, x10] ∧ Un cols k U ix ∧ cU h' ((A, .dc (U.map dI) (aV U.length fun l => nD (ix l))) :: F)) ?_ ?_ ?_
 · exact ⟨[], fun _ => 0, x3, x4, rfl, Un.zero, H⟩
 · rintro k fr h' hk ⟨U, ix, x3, x4, rfl, u, H'⟩
   have e : h'[A]? = some (.dc (U.map dI) (aV U.length fun l => nD (ix l))) := H'.get (i := 0) rfl
   have cs : (lC h' (.ref A)).isSome = true := by rw [Hu e]; rfl
   have ul : U.length ≤ 50 := by
    have h1 := Cv (l := (akS U.length).map ix) (l' := akS k) (List.pairwise_map.mpr (List.Pairwise.imp_of_mem (fun ha hb hne e => hne (u.inj _ _ (List.mem_range.mp ha) (List.mem_range.mp hb) e)) List.nodup_range)) fun a ha => by
     obtain ⟨l, hl, rfl⟩ := List.mem_map.mp ha
     exact List.mem_range.mpr (u.lt l (List.mem_range.mp hl))
    rw [akW, ak1, ak1] at h1
    omega
   have kl : (cols.getD k []).length ≤ 50 := by
    rw [ak0, akX hk]
    exact hl _ (alm hk)
   have ow : (bA (cols.getD k [])).own = false := KY
   by_cases c : cols.getD k [] ∈ U
   · obtain ⟨z, ez⟩ := abO (d := .int (k : Int)) e c (by rw [cZ]) (by omega) (by omega)
     generalize bA (cols.getD k []) = CK at *
     simp only [↓cW, akU, akV, Nat.zero_add, Nat.reduceAdd, ↓cH, ↓bf, akP, akQ, aC, ↓cV, ↓Qs, ↓rE, ↓Vp, ↓aQ, akT, akR, aA, dW, bH, cs, ow, aW, ez, Vo, d9, true_and]
     exact ⟨U, ix, _, _, rfl, u.old c, H'⟩
   · have ez := abP (d := .int (k : Int)) e c (by omega) (by omega)
     have H2 := H'.set 0 rfl (.dc ((U ++ [cols.getD k []]).map dI) ((aV U.length fun l => nD (ix l)) ++ [.int (k : Int)]))
     have u2 := u.new c
     generalize hCK : bA (cols.getD k []) = CK at *
     generalize h'.set A (.dc ((U ++ [cols.getD k []]).map dI) ((aV U.length fun l => nD (ix l)) ++ [.int (k : Int)])) = h2 at *
     simp only [↓cW, akU, akV, Nat.zero_add, Nat.reduceAdd, ↓cH, ↓bf, akP, akQ, aC, ↓cV, ↓Qs, ↓rE, ↓Vp, ↓aQ, akT, akR, aA, dW, bH, cs, ow, aW, ez, Vo, d9, true_and]
     refine ⟨U ++ [cols.getD k []], fun l => if l = U.length then k else ix l, _, _, rfl, u2, ?_⟩
     have em : (aV (U ++ [cols.getD k []]).length fun l => nD (if l = U.length then k else ix l)) = (aV U.length fun l => nD (ix l)) ++ [.int (k : Int)] := by
      rw [ak3, alg, vR, if_pos rfl]
      refine congrArg (· ++ [D.int (k : Int)]) (mD fun l hl => ?_)
      rw [if_neg (by omega)]
     rw [em]
     exact H2
 · rintro fr h' ⟨U, ix, x3, x4, e, u, H'⟩
   exact ⟨rfl, U, ix, x3, x4, e, u, H'⟩
end
end L
namespace L
open PySem PySem.Spec L2 Pk
def Jl (U : List (List Int)) (strict : List Bool) : Sy := ⟨strict.length, U.length, fun i => if strict.getD i false then 1 else 0, fun l i => (U.getD l []).getD i 0⟩
def xP (s : Sy) (i : Nat) : D := .fl (aV s.n fun j => .int (s.T i j))
section
variable {h : Hh} {U : List (List Int)} {strict : List Bool} {CL : List D} {A : Nat}
theorem afb {k : Nat} (hk0 : k < strict.length) : ([D.int (if strict.getD k false then 1 else 0)] ++ U.map fun c => D.int (-(c.getD k 0))) = aV (Jl U strict).n fun j => .int ((Jl U strict).T k j) := by
 have hk : k < (Jl U strict).p := hk0
 show _ = aV (U.length + 1) _
 rw [O9, yO (fun c => D.int (-(c.getD k 0))) [] U]
 have e0 : (Jl U strict).T k 0 = if strict.getD k false then 1 else 0 := by
  unfold Sy.T
  rw [if_pos hk, if_pos rfl]
  rfl
 rw [e0]
 show _ :: _ = _ :: _
 congr 1
 refine mD fun j hj => ?_
 unfold Sy.T
 rw [if_pos hk, if_neg (by omega), if_pos (by show j + 1 < U.length + 1; omega)]
 rfl
theorem aab (hp : 1 ≤ strict.length) (hp2 : strict.length ≤ 50) (hq : U.length ≤ 50) (hl : ∀ c ∈ U, c.length = strict.length) {x3 x4 x7 x8 x9 x10 : Option D} :
 Wp (ou (dH 2 (aU (aR 3) (aU (aR 7) dJ))) xF (eG 0 (strict.map .bl)) [some (.fl CL), some (.tup (strict.map .bl)), some (.ref A), x3, x4, some (.nl (U.map bA)), some (.nl []), x7, x8, x9, x10] h)
  (fun f fr h' => f = .nx ∧ h' = h ∧ ∃ x3 x4 x7, fr = [some (.fl CL), some (.tup (strict.map .bl)), some (.ref A), x3, x4, some (.fl (U.map bA)), some (.nl (aV strict.length (xP (Jl U strict)))), x7, x8, x9, x10]) dD := by
 have b50 : 52 ≤ big := by decide
 have ee : eG 0 (strict.map D.bl) = (akS strict.length).map fun (k : Nat) => D.tup [.int (k : Int), .bl (strict.getD k false)] := by
  rw [yO D.bl false strict]
  exact uP _ _
 rw [ee]
 obtain ⟨SL, hSL⟩ : ∃ x, x = strict.map D.bl := ⟨_, rfl⟩
 rw [← hSL]
 obtain ⟨s, hs⟩ : ∃ s, s = Jl U strict := ⟨_, rfl⟩
 rw [← hs]
 refine yN (fun k fr h' => h' = h ∧ ∃ x3 x4 x5 x7, (if k = 0 then x5 = D.nl (U.map bA) else x5 = .fl (U.map bA)) ∧ fr = [some (.fl CL), some (.tup SL), some (.ref A), x3, x4, some x5, some (.nl (aV k (xP s))), x7, x8, x9, x10]) ?_ ?_ ?_
 · exact ⟨rfl, x3, x4, _, x7, rfl, rfl⟩
 · rintro k fr h' hk ⟨rfl, x3, x4, x5, x7, h5, rfl⟩
   have lc := pK (vs := [4]) (g := xf) (t := xj) (e := xq) (F := bA) (G := fun c => .int (-(c.getD k 0))) (fr := [some (.fl CL), some (.tup SL), some (.ref A), some (.int (k : Int)), none, some (.fl (U.map bA)), some (.nl (aV k (xP s))), some (.bl (strict.getD k false)), x8, x9, x10]) (h := h') (xs := U) fun c hc => by
    have bi : aP h' (bA c) (.int (k : Int)) = some (.int (c.getD k 0)) := by
     unfold bA
     rw [Xm, ju, ak5, ak0, akX (by rw [hl c hc]; exact hk)]
     rfl
    have bn : fj (.int (c.getD k 0)) = some (.int (-(c.getD k 0))) := rfl
    have ow : (bA c).own = false := KY
    generalize bA c = CK at *
    generalize hUL : U.map bA = UL at *
    generalize aV k (xP s) = RL at *
    simp only [↓dN, ↓Yo, ↓bf, akP, akQ, aC, ↓Yp, ↓cX, dF, ↓Yq, ↓cD, ↓eY, akT, akR, aA, ↓aQ, aW, bH, bi, aK, bn, bj, bB, and_self]
   have rq := afb (U := U) hk
   rw [← hs] at rq
   have ap : du h' (.fl [.int (if strict.getD k false then 1 else 0)]) (.fl (U.map fun c => D.int (-(c.getD k 0)))) = some (.nl (aV s.n fun j => .int (s.T k j))) := by
    rw [v5, alg, akW, if_pos (by omega), rq]
   have ll : (U.map bA).length ≤ 100000 := by rw [akW]; omega
   have rl : (aV k (xP s)).length < 100000 := by rw [cZ]; omega
   have apE : aV (k + 1) (xP s) = aV k (xP s) ++ [.fl (aV s.n fun j => .int (s.T k j))] := vR k (xP s)
   generalize U.map bA = UL at *
   generalize (U.map fun c => D.int (-(c.getD k 0))) = NL at *
   generalize (aV s.n fun j => D.int (s.T k j)) = ROW at *
   generalize aV k (xP s) = RL at *
   by_cases c : k = 0
   · rw [if_pos c] at h5
     subst h5
     simp only [↓cW, akU, akV, Nat.zero_add, Nat.reduceAdd, ↓cH, ↓bf, akP, akQ, aC, ↓cV, ↓Qt, ↓rE, ↓yw, ↓rG, akT, akR, aA, uI, aK, ↓fU, ↓bK, ↓qD, ↓cG, ↓cD, ↓aQ, ZJ, bH, Ik, ↓bQ, dU, Nat.reduceLeDiff, ↓qd, ↓yR, rH, dF, m7, uH, ll, bj, bB, lc, ↓cJ, ap, v7, Ve, d9, reduceCtorEq, ↓reduceIte, true_and]
     rw [apE]
     exact ⟨rl, _, _, _, _, rfl, rfl⟩
   · rw [if_neg c] at h5
     subst h5
     simp only [↓cW, akU, akV, Nat.zero_add, Nat.reduceAdd, ↓cH, ↓bf, akP, akQ, aC, ↓cV, ↓Qt, ↓rE, ↓yw, ↓rG, akT, akR, aA, uI, aK, ↓fU, ↓bK, ↓qD, ↓cG, ↓cD, ↓aQ, ZJ, bH, Ik, ↓bQ, dU, Nat.reduceLeDiff, ↓qd, ↓yR, qF, uH, ll, bj, bB, lc, ↓cJ, m7, ap, v7, Ve, d9, reduceCtorEq, ↓reduceIte, true_and]
     rw [apE]
     exact ⟨rl, _, _, _, _, rfl, rfl⟩
 · rintro fr h' ⟨rfl, x3, x4, x5, x7, h5, rfl⟩
   rw [if_neg (by omega)] at h5
   subst h5
   exact ⟨rfl, rfl, x3, x4, x7, rfl⟩
end
end L
namespace L
open PySem PySem.Spec L2 Pk
theorem Pa {n u : Nat} {f : Nat → Nat} {v : Nat → Int} (inj : ∀ a b, a < n → b < n → f a = f b → a = b) : (au n fun l => if f l = u then v l else 0) = 0 ∨ ∃ l, l < n ∧ (au n fun l => if f l = u then v l else 0) = v l := by
 by_cases h : ∃ l, l < n ∧ f l = u
 · obtain ⟨l, hl, e⟩ := h
   exact .inr ⟨l, hl, by rw [iI hl fun k hk hne => if_neg fun z => hne (inj k l hk hl (z.trans e.symm)), if_pos e]⟩
 · exact .inl (il fun k hk => if_neg fun z => h ⟨k, hk, z⟩)
theorem aac {v : Int} (h0 : 0 ≤ v) (h : v.natAbs < 2 ^ 4000) : v < 2 ^ 4000 := by
 have : (v.natAbs : Int) < ((2 ^ 4000 : Nat) : Int) := by exact_mod_cast h
 rw [Int.natAbs_of_nonneg h0] at this
 exact_mod_cast this
def Ans (cols : List (List Int)) (strict : List Bool) (d : D) : Prop :=
 (∃ y, d = .tup [.str "weights", .tup (aV strict.length fun i => .int (y i))] ∧ vp strict.length cols.length (fun k i => (cols.getD k []).getD i 0) (fun i => if strict.getD i false then 1 else 0) y ∧ ∀ i, i < strict.length → y i < 2 ^ 4000) ∨
 ∃ x, d = .tup [.str "amounts", .tup (aV cols.length fun k => .int (x k))] ∧ Qw strict.length cols.length (fun k i => (cols.getD k []).getD i 0) (fun i => if strict.getD i false then 1 else 0) x ∧ ∀ k, k < cols.length → x k < 2 ^ 4000
section
variable {h : Hh} {T : Tab} {F : Mem} {U cols : List (List Int)} {strict : List Bool} {A : Nat} {ix : Nat → Nat} {s : Sy}
theorem aad (hsy : s = Jl U strict) (hs : s.Sm) (hc : cols.length ≤ 50) (u : Un cols cols.length U ix) (hl : ∀ c ∈ U, c.length = strict.length) (H : cU h (T.cl s.m s.n ++ ((A, .dc (U.map dI) (aV U.length fun l => nD (ix l))) :: F))) (o : On s T.tb)
 (hw : T.tb.T s.m s.n = 0 → ∀ l, l < s.n → 0 ≤ T.tb.T s.m l) {x3 x4 x6 x7 x9 x10 : Option D} :
 Wp (xK [some (.fl (cols.map bA)), some (.tup (strict.map .bl)), some (.ref A), x3, x4, some (.fl (U.map bA)), x6, x7, some (.ref T.t), x9, x10] h) (fun f fr h' => h' = h ∧ ∃ d, f = .rt d ∧ Ans cols strict d) dD := by
 have b50 : 100 ≤ big := by decide
 have hm := s.hm
 have hn := s.hn
 have hp0 := hs.hp
 have hq0 := hs.hq
 have sp : s.p = strict.length := by rw [hsy]; rfl
 have sq : s.q = U.length := by rw [hsy]; rfl
 have sst : s.st = fun i => if strict.getD i false then 1 else 0 := by rw [hsy]; rfl
 have scol : s.col = fun l i => (U.getD l []).getD i 0 := by rw [hsy]; rfl
 obtain ⟨fg, fo, fb, fd⟩ := rZ H
 have gm := T5 H
 have em := Qz H (i := s.m) (Nat.le_refl _)
 have b1 : fj (.int 1) = some (.int (-1)) := rfl
 have sml := (o.small hs).1
 obtain ⟨CL, hCL⟩ : ∃ x, x = cols.map bA := ⟨_, rfl⟩
 obtain ⟨SL, hSL⟩ : ∃ x, x = strict.map D.bl := ⟨_, rfl⟩
 obtain ⟨UL, hUL⟩ : ∃ x, x = U.map bA := ⟨_, rfl⟩
 have lCL : CL.length = cols.length := by rw [hCL, akW]
 have lSL : SL.length = strict.length := by rw [hSL, akW]
 have lUL : UL.length = U.length := by rw [hUL, akW]
 rw [← hCL, ← hSL, ← hUL]
 by_cases c : T.tb.T s.m s.n = 0
 · have d1 : decide (T.tb.T s.m s.n = 0) = true := decide_eq_true c
   have W := o.weights hs.hs c (hw c)
   have f1 : fnOf Im h (.ref T.t) = some jx := MT H
   have lc := pK (vs := [3]) (g := xG) (t := xH) (e := xJ) (F := fun (i : Nat) => D.int (0 + (i : Int))) (G := fun i => .int (T.tb.price s.m s.n (s.n + i)))
    (fr := [some (.fl CL), some (.tup SL), some (.ref A), none, x4, some (.fl UL), x6, x7, some (.ref T.t), some (.int (1 + (U.length : Int))), x10]) (h := h) (xs := akS s.p) fun i _ => by
     have e1 := YC H o.lab.oi (s.n + i)
     have e2 : ((s.n + i : Nat) : Int) = 1 + (U.length : Int) + (0 + (i : Int)) := by omega
     rw [e2] at e1
     simp only [↓dN, ↓Ys, ↓bf, akP, akQ, aC, ↓Yt, ↓cX, dF, ↓Yu, ↓fU, ↓Bc, ↓aQ, akT, akR, aA, dW, bH, f1, aK, ↓cG, ↓bK, akU, aW, pO, ↓bQ, akV, Nat.zero_add, lO, dX, akZ, e1, ↓cJ, bj, bB, and_self]
   have ern : fV 0 strict.length = (akS s.p).map fun (i : Nat) => D.int (0 + (i : Int)) := by rw [sp]; rfl
   rw [← ern] at lc
   have lrn : (fV 0 strict.length).length ≤ 100000 := by
    unfold fV
    rw [akW, ak1]
    omega
   have sm1 : z7 (strict.length : Int) = true := by
    unfold z7
    rw [decide_eq_true (by omega), decide_eq_true (by omega)]
    rfl
   have bd : ∀ i, 0 ≤ T.tb.price s.m s.n (s.n + i) ∧ T.tb.price s.m s.n (s.n + i) < 2 ^ 4000 := fun i => by
    refine ⟨W.nn i, aac (W.nn i) ?_⟩
    rcases Pa (u := s.n + i) (v := fun l => T.tb.T s.m l) o.lab.oi with e | ⟨l, hl, e⟩
    · show (au s.n _).natAbs < _
      rw [e]
      exact Nat.two_pow_pos _
    · show (au s.n _).natAbs < _
      rw [e]
      exact sml _ _ (Nat.le_refl _) (by omega)
   obtain ⟨g, e3, g1, g2⟩ := Ht (h := h) (l := (akS s.p).map fun i => T.tb.price s.m s.n (s.n + i)) (fun v hv => by
    obtain ⟨i, hi, rfl⟩ := List.mem_map.mp hv
    exact bd i) (by rw [akW, ak1]; omega)
   rw [alc, alc] at e3
   have e4 : ((akS s.p).map fun i => D.int (T.tb.price s.m s.n (s.n + i))) = (akS s.p).map (D.int ∘ fun i => T.tb.price s.m s.n (s.n + i)) := rfl
   have fin : Ans cols strict (.tup [.str "weights", .tup ((akS s.p).map ((fun v => D.int (v / g)) ∘ fun i => T.tb.price s.m s.n (s.n + i)))]) := by
    refine .inl ⟨fun i => T.tb.price s.m s.n (s.n + i) / g, by rw [sp]; rfl, ?_, fun i _ => Int.lt_of_le_of_lt (Int.ediv_le_self _ (bd i).1) (bd i).2⟩
    have W2 : vp strict.length cols.length (fun k i => (cols.getD k []).getD i 0) (fun i => if strict.getD i false then 1 else 0) (fun i => T.tb.price s.m s.n (s.n + i)) := by
     refine ⟨fun i _ => W.nn i, ?_, fun k hk => ?_⟩
     · obtain ⟨i, h1, h2, h3⟩ := W.one
       rw [sst] at h2
       exact ⟨i, by omega, h2, h3⟩
     · have hm := u.al k hk
       obtain ⟨l, hl, e⟩ := List.getElem_of_mem hm
       have := W.le l (by rw [sq]; exact hl)
       rw [scol, sp] at this
       have e5 : U.getD l [] = cols.getD k [] := by rw [ak0, akX hl, e]; rfl
       show au strict.length (fun i => (cols.getD k []).getD i 0 * _) ≤ 0
       rw [← e5]
       exact this
    exact W2.div g1 fun i hi => g2 _ (List.mem_map.mpr ⟨i, List.mem_range.mpr (by omega), rfl⟩)
   rw [e4] at lc
   generalize hz : fV 0 strict.length = RG at *
   generalize (akS s.p).map (D.int ∘ fun i => T.tb.price s.m s.n (s.n + i)) = PL at *
   generalize (akS s.p).map ((fun v => D.int (v / g)) ∘ fun i => T.tb.price s.m s.n (s.n + i)) = PG at *
   simp only [↓Qu, ↓cR, ↓gh, ↓bK, ↓cD, ↓cY, akT, akR, aA, fg, aK, ↓cP, b1, Int.reduceNeg, gm, em, oA, d1, dF, ↓dB, akP, akQ, v4, lUL, pO, aC, cA, ↓lD, ↓KJ, ↓cG, ↓fU, ↓gG, ↓qd, ↓oX, Aa, akU, Bv, lSL, sm1, ↓reduceIte, Int.toNat_natCast, hz, dU, lrn, bj, bB, lc, ↓cJ, ↓bQ, akV, Nat.zero_add, m7, dX, akZ, e3, Nat.reduceAdd, Nat.reduceLeDiff, ZK, Vf, true_and]
   exact ⟨_, rfl, fin⟩
 · have d1 : decide (T.tb.T s.m s.n = 0) = false := decide_eq_false c
   have Am := o.amounts hs.hs c
   have f1 : fnOf Df h (.ref T.t) = some ig := MT H
   obtain ⟨x, hx⟩ : ∃ x : Nat → Int, x = fun l => T.tb.amt s.m s.n (l + 1) := ⟨_, rfl⟩
   rw [← hx] at Am
   have cd : h[A]? = some (.dc (U.map dI) (aV U.length fun l => nD (ix l))) := H.right.get (i := 0) rfl
   have er : yr h (.fl [.int 0]) (.int (cols.length : Int)) = some (.nl (aV cols.length fun k => .int (pC ix x 0 k))) := by
    rw [Xk, if_pos ⟨by omega, by omega, by decide⟩]
    congr 2
    rw [Int.toNat_natCast]
    refine List.ext_getElem (by rw [cZ]; simp) fun i h1 h2 => ?_
    have := tG (n := cols.length) (fun k => D.int (pC ix x 0 k)) (i := i) (by rw [cZ] at h2; exact h2)
    rw [akX h2] at this
    rw [Option.some.inj this]
    have hm := alm h1
    obtain ⟨l, hl, hi⟩ := List.mem_flatten.mp hm
    rw [List.eq_of_mem_replicate hl] at hi
    exact List.mem_singleton.mp hi
   have ee : eG 0 UL = (akS U.length).map fun (k : Nat) => D.tup [.int (k : Int), bA (U.getD k [])] := by
    rw [hUL, yO bA [] U]
    exact uP _ _
   have lp : ∀ x3 x4 : Option D, Wp (ou (dH 2 (aU (aR 3) (aU (aR 4) dJ))) u6 (eG 0 UL) [some (.fl CL), some (.tup SL), some (.ref A), x3, x4, some (.fl UL), x6, x7, some (.ref T.t), x9, some (.nl (aV cols.length fun k => .int (pC ix x 0 k)))] h)
    (fun f fr h' => f = .nx ∧ h' = h ∧ ∃ x3 x4, fr = [some (.fl CL), some (.tup SL), some (.ref A), x3, x4, some (.fl UL), x6, x7, some (.ref T.t), x9, some (.nl (aV cols.length fun k => .int (pC ix x U.length k)))]) dD := fun x3 x4 => by
    rw [ee]
    refine yN (fun l fr h' => h' = h ∧ ∃ x3 x4, fr = [some (.fl CL), some (.tup SL), some (.ref A), x3, x4, some (.fl UL), x6, x7, some (.ref T.t), x9, some (.nl (aV cols.length fun k => .int (pC ix x l k)))]) ⟨rfl, _, _, rfl⟩ ?_ ?_
    · rintro l fr h' hl2 ⟨rfl, x3, x4, rfl⟩
      have e1 := Wg H o.lab.bi (l + 1)
      have e2 : ((l + 1 : Nat) : Int) = 1 + (l : Int) := by omega
      rw [e2] at e1
      have ex : T.tb.amt s.m s.n (l + 1) = x l := by rw [hx]
      rw [ex] at e1
      have gu : U[l]? = some (U.getD l []) := by rw [ak0, akX hl2]; rfl
      have cl := hl (U.getD l []) (ald gu)
      have dg := adq (d := nD (ix l)) cd u.nd gu (tG _ hl2) (by omega)
      have sF := Hr (n := cols.length) (q := ix l) (fun k => .int (pC ix x l k)) (.int (x l)) (u.lt l hl2)
      have em2 : (aV cols.length fun i => if i = ix l then D.int (x l) else .int (pC ix x l i)) = aV cols.length fun k => .int (pC ix x (l + 1) k) := mD fun k _ => by
       rw [abH u.inj hl2 k]
       split <;> rfl
      rw [em2] at sF
      have dg : zE h' (.ref A) (bA (U.getD l [])) = some (.int (ix l : Int)) := dg
      have ow : (bA (U.getD l [])).own = false := KY
      generalize bA (U.getD l []) = CK at *
      generalize (aV cols.length fun k => D.int (pC ix x l k)) = M0 at *
      generalize (aV cols.length fun k => D.int (pC ix x (l + 1) k)) = M1 at *
      simp only [↓cW, akU, akV, Nat.zero_add, Nat.reduceAdd, ↓cH, ↓bf, akP, akQ, aC, ↓cV, ↓V7, ↓yz, ↓fU, ↓Bc, ↓aQ, akT, akR, aA, dW, bH, f1, aK, ↓cG, ↓bK, ↓cP, aW, pO, ↓bQ, lO, dX, akZ, e1, ↓cJ, ↓abg, ow, dg, ↓rG, sF, d9, true_and]
      exact ⟨_, _, rfl⟩
    · rintro fr h' ⟨rfl, x3, x4, rfl⟩
      exact ⟨rfl, rfl, x3, x4, rfl⟩
   have bd : ∀ k, 0 ≤ pC ix x U.length k ∧ pC ix x U.length k < 2 ^ 4000 := fun k => by
    have nn : 0 ≤ pC ix x U.length k := wC fun l _ => by
     split
     · exact Am.nn l
     · exact Int.le_refl _
    refine ⟨nn, aac nn ?_⟩
    rcases Pa (u := k) (v := x) u.inj with e | ⟨l, hl, e⟩
    · show (au U.length _).natAbs < _
      rw [e]
      exact Nat.two_pow_pos _
    · show (au U.length _).natAbs < _
      rw [e, hx]
      rcases Pa (u := l + 1) (v := fun i => T.tb.T i s.n) o.lab.bi with e | ⟨i, hi, e⟩
      · show (au s.m _).natAbs < _
        rw [e]
        exact Nat.two_pow_pos _
      · show (au s.m _).natAbs < _
        rw [e]
        exact sml _ _ (by omega) (Nat.le_refl _)
   obtain ⟨g, e3, g1, g2⟩ := Ht (h := h) (l := (akS cols.length).map fun k => pC ix x U.length k) (fun v hv => by
    obtain ⟨k, hk, rfl⟩ := List.mem_map.mp hv
    exact bd k) (by rw [akW, ak1]; omega)
   rw [alc, alc] at e3
   have e4 : (aV cols.length fun k => D.int (pC ix x U.length k)) = (akS cols.length).map (D.int ∘ fun k => pC ix x U.length k) := rfl
   have fin : Ans cols strict (.tup [.str "amounts", .tup ((akS cols.length).map ((fun v => D.int (v / g)) ∘ fun k => pC ix x U.length k))]) := by
    refine .inr ⟨fun k => pC ix x U.length k / g, rfl, ?_, fun k _ => Int.lt_of_le_of_lt (Int.ediv_le_self _ (bd k).1) (bd k).2⟩
    have A2 : Qw strict.length cols.length (fun k i => (cols.getD k []).getD i 0) (fun i => if strict.getD i false then 1 else 0) (pC ix x U.length) := by
     refine ae6 (col := s.col) u.inj u.lt (fun a i ha hi => ?_) Am.nn (fun i hi => ?_) (fun i hi e => ?_) ?_
     · rw [scol]
       show (cols.getD (ix a) []).getD i 0 = _
       rw [u.at_ a ha]
     · rw [← sq]
       exact Am.le i (by omega)
     · rw [← sq]
       refine Am.lt i (by omega) ?_
       rw [sst]
       exact e
     · have := Am.few
       rw [sq, sp] at this
       exact this
    exact A2.div g1 fun k hk => g2 _ (List.mem_map.mpr ⟨k, List.mem_range.mpr hk, rfl⟩)
   rw [e4] at lp
   generalize (aV cols.length fun k => D.int (pC ix x 0 k)) = M0 at *
   generalize (akS cols.length).map (D.int ∘ fun k => pC ix x U.length k) = PL at *
   generalize (akS cols.length).map ((fun v => D.int (v / g)) ∘ fun k => pC ix x U.length k) = PG at *
   obtain ⟨B, hB⟩ : ∃ B, B = u6 := ⟨_, rfl⟩
   have k10 : Dz = (aD (gq (qb (aa 5)) (dH 2 (aU (aR 3) (aU (aR 4) dJ))) B) (cO (rA [(mC (.str "amounts")), (bG (bW 1 0 nM (bh []) (ak [(aa 10)]) (ak [])))]))) := by rw [hB]; rfl
   rw [← hB] at lp
   generalize hEU : eG 0 UL = EU at *
   simp only [↓Qu, ↓cR, ↓gh, ↓bK, ↓cD, ↓cY, akT, akR, aA, fg, aK, ↓cP, b1, Int.reduceNeg, gm, em, oA, d1, bH, ↓cX, cA, ↓Yv, ↓dB, ↓fU, ↓qD, ↓cG, ↓bQ, akU, akV, Nat.zero_add, dU, Nat.reduceLeDiff, akP, akQ, v4, lCL, m7, er, aC, k10, ↓rF, ↓yu, ↓aQ, qF, KQ, hEU, true_and]
   refine (lp _ _).mono ?_
   rintro f fr h' ⟨rfl, rfl, x3, x4, rfl⟩
   simp only [cA, ↓lD, ↓KJ, ↓cG, ↓cP, ↓fU, ↓gG, ↓aQ, akT, akR, akP, akQ, akU, aA, rH, dF, m7, aC, ↓bQ, akV, Nat.zero_add, dX, akZ, e3, ↓cJ, Nat.reduceAdd, dU, Nat.reduceLeDiff, ZK, true_and]
   exact ⟨_, rfl, fin⟩
end
end L
namespace L
open PySem PySem.Spec L2 Pk
theorem VH {h : Hh} {n : Nat} (d : D) (hn : n < 1000) : yr h (.fl [d]) (.int (n : Int)) = some (.nl (aV n fun _ => d)) := by
 rw [Xk, if_pos ⟨by omega, by omega, by show 1 ≤ 100; decide⟩]
 congr 2
 rw [Int.toNat_natCast]
 refine List.ext_getElem (by rw [cZ]; simp) fun i h1 h2 => ?_
 have := tG (n := n) (fun _ => d) (i := i) (by rw [cZ] at h2; exact h2)
 rw [akX h2] at this
 rw [Option.some.inj this]
 have hm := alm h1
 obtain ⟨l, hl, hi⟩ := List.mem_flatten.mp hm
 rw [List.eq_of_mem_replicate hl] at hi
 exact List.mem_singleton.mp hi
section
variable {h : Hh} {F : Mem} {U cols : List (List Int)} {strict : List Bool} {ix : Nat → Nat}
theorem Un.mem (u : Un cols cols.length U ix) : ∀ c ∈ U, c ∈ cols := fun c hc => by
 obtain ⟨l, hl, rfl⟩ := List.getElem_of_mem hc
 have e := u.at_ l hl
 have hi := u.lt l hl
 rw [ak0, ak0, akX hl, akX hi] at e
 have e : cols[ix l] = U[l] := e
 rw [← e]
 exact alm hi
theorem Un.len (u : Un cols cols.length U ix) : U.length ≤ cols.length := by
 have h1 := Cv (l := (akS U.length).map ix) (l' := akS cols.length) (List.pairwise_map.mpr (List.Pairwise.imp_of_mem (fun ha hb hne e => hne (u.inj _ _ (List.mem_range.mp ha) (List.mem_range.mp hb) e)) List.nodup_range)) fun a ha => by
  obtain ⟨l, hl, rfl⟩ := List.mem_map.mp ha
  exact List.mem_range.mpr (u.lt l (List.mem_range.mp hl))
 rw [akW, ak1, ak1] at h1
 exact h1
theorem afR (u : Un cols cols.length U ix) (hp : 1 ≤ strict.length) (hp2 : strict.length ≤ 8) (hc : cols.length ≤ 20) (hb : ∀ c ∈ cols, ∀ v ∈ c, v.natAbs ≤ 2 ^ 200) (one : ∃ i, i < strict.length ∧ strict.getD i false = true) : (Jl U strict).Sm := by
 refine ⟨hp2, Nat.le_trans u.len hc, fun i hi => ?_, ?_, fun l i hl hi => ?_⟩
 · show (if strict.getD i false then (1 : Int) else 0) = 0 ∨ (if strict.getD i false then (1 : Int) else 0) = 1
   split
   · exact .inr rfl
   · exact .inl rfl
 · obtain ⟨i, hi, e⟩ := one
   exact ⟨i, hi, by show (if strict.getD i false then (1 : Int) else 0) = 1; rw [e]; rfl⟩
 · show ((U.getD l []).getD i 0).natAbs ≤ _
   have hl : l < U.length := hl
   have e : U.getD l [] = U[l] := by rw [ak0, akX hl]; rfl
   rw [e]
   have hm := u.mem _ (alm hl)
   rw [ak0]
   by_cases g : i < U[l].length
   · rw [akX g]
     exact hb _ hm _ (alm g)
   · rw [alq (by omega)]
     exact Nat.zero_le _
theorem YF (H : cU h F) (hp : 1 ≤ strict.length) (hp2 : strict.length ≤ 8) (hc : cols.length ≤ 20) (hl : ∀ c ∈ cols, c.length = strict.length) (hb : ∀ c ∈ cols, ∀ v ∈ c, v.natAbs ≤ 2 ^ 200) (one : ∃ i, i < strict.length ∧ strict.getD i false = true) :
 ∃ h' d, wj [.fl (cols.map bA), .tup (strict.map .bl)] h = .ok d [] h' ∧ cU h' F ∧ Ans cols strict d := by
 have b50 : 100 ≤ big := by decide
 have H0 := H.app (.dc [] [])
 obtain ⟨A, hA⟩ : ∃ A, A = h.length := ⟨_, rfl⟩
 obtain ⟨h0, hh0⟩ : ∃ x, x = h ++ [D.dc [] []] := ⟨_, rfl⟩
 rw [← hA, ← hh0] at H0
 have w1 := Wh (ST := .tup (strict.map .bl)) (cols := cols) (A := A) H0 (by omega) (fun c hc => by have := hl c hc; omega) (x3 := none) (x4 := none) (x5 := none) (x6 := none) (x7 := none) (x8 := none) (x9 := none) (x10 := none)
 have main : Wp (wj [.fl (cols.map bA), .tup (strict.map .bl)] h) (fun d fr h' => fr = [] ∧ cU h' F ∧ Ans cols strict d) dD := by
  have hh0' := hh0.symm
  have hA' := hA.symm
  obtain ⟨B1, hB1⟩ : ∃ B, B = wZ := ⟨_, rfl⟩
  have k1 : Ir = (aD (gq (qb (aa 0)) (dH 2 (aU (aR 3) (aU (aR 4) dJ))) B1) Ar) := by rw [hB1]; rfl
  rw [← hB1] at w1
  have step1 : ∀ (CL SL : List D) (EC : List D), CL = cols.map bA → SL = strict.map D.bl → eG 0 CL = EC →
   Wp (ou (dH 2 (aU (aR 3) (aU (aR 4) dJ))) B1 EC [some (.fl CL), some (.tup SL), some (.ref A), none, none, none, none, none, none, none, none] h0)
    (fun f fr h' => f = .nx ∧ ∃ U ix x3 x4, fr = [some (.fl CL), some (.tup SL), some (.ref A), x3, x4, none, none, none, none, none, none] ∧ Un cols cols.length U ix ∧ cU h' ((A, .dc (U.map dI) (aV U.length fun l => nD (ix l))) :: F)) dD →
   Wp (wj [.fl CL, .tup SL] h) (fun d fr h' => fr = [] ∧ cU h' F ∧ Ans cols strict d) dD := fun CL SL EC hCL hSL hEC w1 => by
   simp only [↓abC, ↓gH, startF, akY, ak2, akU, akV, Nat.zero_add, Nat.reduceAdd, Nat.reduceSub, ale, ala, alf, alh, aC, ↓adi, ↓cR, ↓dB, ↓adf, hA', akP, akQ, cA, k1, hh0', ↓rF, ↓yu, ↓aQ, akR, aA, qF, bH, KQ, aK, hEC]
   refine w1.mono ?_
   rintro f fr h1 ⟨rfl, U, ix, x3, x4, rfl, u, H1⟩
   have hs := afR u hp hp2 hc hb one
   have lU := u.len
   have hlU : ∀ c ∈ U, c.length = strict.length := fun c hc => hl c (u.mem c hc)
   have cd : h1[A]? = some (.dc (U.map dI) (aV U.length fun l => nD (ix l))) := H1.get (i := 0) rfl
   have dk := afQ cd
   obtain ⟨s, hsy⟩ : ∃ s, s = Jl U strict := ⟨_, rfl⟩
   rw [← hsy] at hs
   have hm := s.hm
   have hn := s.hn
   have hN := s.hN
   have sp : s.p = strict.length := by rw [hsy]; rfl
   have sq : s.q = U.length := by rw [hsy]; rfl
   have w2 := fun x3 x4 x7 x8 x9 x10 => aab (h := h1) (CL := CL) (A := A) hp (by omega) (by omega) hlU (x3 := x3) (x4 := x4) (x7 := x7) (x8 := x8) (x9 := x9) (x10 := x10)
   rw [← hSL, ← hsy] at w2
   have lSL : SL.length = strict.length := by rw [hSL, akW]
   have lUL : (U.map bA).length = U.length := akW ..
   obtain ⟨G, hG⟩ : ∃ G : Nat → Int, G = fun j => if j = 0 then 1 else 0 := ⟨_, rfl⟩
   obtain ⟨h2, T, ei, eT, eTb, H2⟩ := Z9 (m := s.m) (n := s.n) H1 s.t G (by omega) (by omega) rfl (fun i _ => rfl) (fun l hl => if_pos hl) s.rhs_m (fun j hj => by
    show s.T s.m j = _
    unfold Sy.T
    rw [if_neg (by omega), if_neg (by omega), hG]
    dsimp only
    split <;> rfl)
   have r1 := VH (h := h1) (n := U.length) (.int 1) (by omega)
   have r2 := VH (h := h1) (n := strict.length) (.int 0) (by omega)
   have r3 := VH (h := h1) (n := U.length) (.int 0) (by omega)
   have a1 : du h1 (.fl [.int 0]) (.fl (aV U.length fun _ => .int 1)) = some (.nl (aV s.n fun j => .int (s.T s.p j))) := by
    rw [v5, alg, cZ, if_pos (by omega), hn, sq, O9]
    congr 2
    show _ :: _ = _ :: _
    have e0 : s.T s.p 0 = 0 := by
     unfold Sy.T
     rw [if_neg (by omega), if_pos rfl, if_pos rfl]
    rw [e0]
    refine congrArg (D.int 0 :: ·) (mD fun j _ => ?_)
    unfold Sy.T
    rw [if_neg (by omega), if_pos rfl, if_neg (by omega)]
   have a2 : du h1 (.fl (aV strict.length fun _ => .int 0)) (.fl [.int 1]) = some (.nl (aV s.m fun i => .int (s.t.T i s.n))) := by
    rw [v5, alg, cZ, if_pos (by omega), hm, vR]
    have e1 : s.t.T s.p s.n = 1 := s.rhs_p
    rw [e1, sp]
    congr 2
    refine congrArg (· ++ [D.int 1]) (mD fun i hi => ?_)
    have e2 : s.t.T i s.n = 0 := s.rhs_lt (by omega)
    rw [e2]
   have a3 : du h1 (.fl [.int 1]) (.fl (aV U.length fun _ => .int 0)) = some (.nl (aV s.n fun j => .int (G j))) := by
    rw [v5, alg, cZ, if_pos (by omega), hn, sq, O9, hG]
    congr 2
   have er : (aV strict.length (xP s)) ++ [.fl (aV s.n fun j => .int (s.T s.p j))] = aV s.m fun i => .fl (aV s.n fun j => .int (s.t.T i j)) := by
    rw [hm]
    show _ = aV (s.p + 1) (xP s)
    rw [vR s.p (xP s), sp]
    rfl
   have lR : (aV strict.length (xP s)).length < 100000 := by rw [cZ]; omega
   have eT' := eT.symm
   rw [eT'] at ei
   have ends := fun h' (T' : Tab) x3 x4 x6 x7 x9 x10 H' o' hw => aad (h := h') (T := T') (F := F) (A := A) (ix := ix) hsy hs (by omega) u hlU H' o' hw (x3 := x3) (x4 := x4) (x6 := x6) (x7 := x7) (x9 := x9) (x10 := x10)
   rw [← hCL, ← hSL] at ends
   obtain ⟨WH, hWH⟩ : ∃ x, x = jr (qZ (aq fX (aq aP (aq aP (aJ (cC di) (aN 8)) (aJ (fun _ => fj) (mC (.int 1)))) (aJ (fun _ => fj) (mC (.int 1)))) (mC (.int 0))) (aJ D.tru (mZ 0 0 wg (bh []) (aa 8) (ak []) (ak [])))) qM 2147483648 := ⟨_, rfl⟩
   have k7 : Io = aD WH xK := by rw [hWH]; rfl
   have wh := fun x0 x1 x2 x3 x4 x5 x6 x7 x9 x10 => QC (s := s) (F := ((A, .dc (U.map dI) (aV U.length fun l => nD (ix l))) :: F)) hs (x0 := x0) (x1 := x1) (x2 := x2) (x3 := x3) (x4 := x4) (x5 := x5) (x6 := x6) (x7 := x7) (x9 := x9) (x10 := x10) 2147483648 0 h2 T H2 (by rw [eTb]; exact s.on) (fun _ => by rw [eTb]; exact Way.zero) (Nat.zero_le _) (by
    have : s.N ≤ 30 := by have := hs.hp; have := hs.hq; omega
    have := Nat.pow_le_pow_right (n := 2) (by decide) this
    omega)
   rw [← hWH] at wh
   obtain ⟨B5, hB5⟩ : ∃ B, B = xF := ⟨_, rfl⟩
   have k4 : Ip = (aD (gq (qb (aa 1)) (dH 2 (aU (aR 3) (aU (aR 7) dJ))) B5) Ao) := by rw [hB5]; rfl
   rw [← hB5] at w2
   generalize hES : eG 0 SL = ES at *
   generalize U.map bA = UL at *
   simp only [cA, ↓Yz, ↓cR, ↓dB, ↓abh, ↓aQ, akT, akR, akP, akQ, aA, dW, bH, dk, aK, aC, ↓Yy, ↓qD, ↓bQ, akV, dU, Nat.reduceLeDiff, k4, ↓rF, ↓yu, vZ, Xj, hES, true_and]
   refine (w2 _ _ _ _ _ _).mono ?_
   rintro f fr h' ⟨rfl, rfl, x3, x4, x7, rfl⟩
   generalize (aV strict.length (xP s)) = RL at *
   generalize (aV U.length fun _ => D.int 1) = L1 at *
   generalize (aV strict.length fun _ => D.int 0) = L2 at *
   generalize (aV U.length fun _ => D.int 0) = L3 at *
   generalize (aV s.n fun j => D.int (s.T s.p j)) = ROW at *
   generalize (aV s.m fun i => D.int (s.t.T i s.n)) = LIM at *
   generalize (aV s.n fun j => D.int (G j)) = GN at *
   generalize (aV s.m fun i => D.fl (aV s.n fun j => .int (s.t.T i j))) = RWS at *
   simp only [cA, ↓Yx, ↓cR, ↓rE, ↓yw, ↓rG, akT, akR, akP, akQ, aA, uI, aK, aC, ↓fU, ↓bK, ↓qD, ↓cG, ↓cP, ↓bQ, akU, akV, Nat.zero_add, dU, Nat.reduceLeDiff, ↓cD, ↓cY, v4, lUL, m7, r1, a1, v7, lR, ↓reduceIte, er, ↓Yw, ↓dB, ↓abe, ↓aQ, rH, dF, Bv, lSL, r2, a2, r3, a3, Nat.reduceAdd, eT', dX, akZ, ei, ↓cJ, k7, true_and]
   refine (wh _ _ _ _ _ _ _ _ _ _).mono ?_
   rintro f fr h3 ⟨rfl, rfl, T', eT2, H3, o', hw⟩
   rw [← eT2]
   simp only [cA]
   refine (ends h3 T' _ _ _ _ _ _ H3 o' hw).mono ?_
   rintro f fr h4 ⟨rfl, d, rfl, an⟩
   simp only [lN, true_and]
   exact ⟨(H3.right).right (A := [_]), an⟩
  exact step1 _ _ _ rfl rfl rfl w1
 obtain ⟨d, fr, h', e, rfl, H', an⟩ := main.out
 exact ⟨h', d, e, H', an⟩
end
end L
namespace L
open PySem PySem.Spec L2 Pk
theorem Dj (h : Hh) (l : List D) : tO qH h (.tup l) (.ty "tuple") = some (.bl true) := by kernel_rfl
theorem Wi (h : Hh) (v : Int) : tO qH h (.int v) (.ty "int") = some (.bl true) := by kernel_rfl
theorem VJ (h : Hh) (v : Int) : tO qH h (.int v) (.ty "bool") = some (.bl false) := by kernel_rfl
theorem QF (h : Hh) (v : Int) : lY [.int v] h = .ok (.bl true) [] h := by
 apply Wp.eq
 have i1 := Wi h v
 have i2 := VJ h v
 simp only [↓Lh, ↓gH, startF, akY, ak2, akU, akV, Nat.zero_add, Nat.reduceSub, ala, akZ, aC, ↓Nb, ↓lD, ↓ac0, ↓bK, ↓aQ, akR, akQ, aA, aW, bH, ↓cP, i1, aK, afN, dF, ↓acZ, i2, Bool.not_false, lN, and_self]
theorem SM (f : Nat → Int) : ∀ n, ((akS n).map f).sum = au n f
 | 0 => rfl
 | n + 1 => by
   rw [List.range_succ, alj, List.sum_append, SM f n]
   show _ + (f n + 0) = au n f + f n
   omega
theorem sum_mk {h : Hh} (n : Nat) (f : Nat → Int) : vD h (.nl (aV n fun k => .int (f k))) = some (.int (au n f)) := by
 have e : (aV n fun k => D.int (f k)) = ((akS n).map f).map D.int := by
  unfold aV
  rw [alc]
  rfl
 rw [e, aeY, SM]
theorem qN (n : Nat) : fV 0 n = (akS n).map fun (i : Nat) => D.int (0 + (i : Int)) := rfl
theorem Bg {n : Nat} (h : n ≤ 100000) : (fV 0 n).length ≤ 100000 := by
 unfold fV
 rw [akW, ak1]
 exact h
theorem xQ {n : Nat} (h : n ≤ 100000) : z7 (n : Int) = true := by
 unfold z7
 rw [decide_eq_true (by omega), decide_eq_true (by omega)]
 rfl
theorem nil_eq (h : Hh) : fX h (.fl []) (.nl []) = some true := Xi (l := []) (m := [])
theorem adt {h : Hh} {l : List Int} (hl : l ≠ []) : fX h (.fl (l.map .int)) (.nl []) = some false := by
 have := Xi (h := h) (l := l) (m := [])
 rw [decide_eq_false hl] at this
 exact this
section
variable {h : Hh} {cols : List (List Int)} {strict : List Bool} {x : Nat → Int}
theorem aae {c : List Int} {i : Nat} (hi : i < c.length) : aP h (bA c) (.int (i : Int)) = some (.int (c.getD i 0)) := by
 unfold bA
 rw [Xm, ju, ak5, ak0, akX hi]
 rfl
theorem Tf (hp : strict.length ≤ 8) (hc : cols.length ≤ 20) (hl : ∀ c ∈ cols, c.length = strict.length) (hb : ∀ c ∈ cols, ∀ v ∈ c, v.natAbs ≤ 2 ^ 200)
 (A : Qw strict.length cols.length (fun k i => (cols.getD k []).getD i 0) (fun i => if strict.getD i false then 1 else 0) x) (bd : ∀ k, k < cols.length → x k < 2 ^ 4000) :
 fW [.tup [.str "amounts", .tup (aV cols.length fun k => .int (x k))], .fl (cols.map bA), .tup (strict.map .bl)] h = .ok (.bl true) [] h := by
 obtain ⟨NX, hNX⟩ : ∃ X, X = aV cols.length fun k => D.int (x k) := ⟨_, rfl⟩
 obtain ⟨SL, hSL⟩ : ∃ X, X = strict.map D.bl := ⟨_, rfl⟩
 obtain ⟨CL, hCL⟩ : ∃ X, X = cols.map bA := ⟨_, rfl⟩
 have lCL : CL.length = cols.length := by rw [hCL, akW]
 have lNX : NX.length = cols.length := by rw [hNX, cZ]
 have lSL : SL.length = strict.length := by rw [hSL, akW]
 have xN : ∀ k, k < cols.length → NX[k]? = some (.int (x k)) := fun k hk => by rw [hNX]; exact tG _ hk
 have xC : ∀ k, k < cols.length → CL[k]? = some (bA (cols.getD k [])) := fun k hk => by
  rw [hCL, ak5, ak0, akX hk]
  rfl
 have kl : ∀ k, k < cols.length → (cols.getD k []).length = strict.length := fun k hk => by
  rw [ak0, akX hk]
  exact hl _ (alm hk)
 have kb : ∀ k i, k < cols.length → ((cols.getD k []).getD i 0).natAbs < 2 ^ 4000 := fun k i hk => by
  have h2 : 2 ^ 200 < 2 ^ 4000 := Nat.pow_lt_pow_right (by decide) (by decide)
  rw [ak0 (l := cols), akX hk]
  show (cols[k].getD i 0).natAbs < _
  rw [ak0]
  by_cases g : i < cols[k].length
  · rw [akX g]
    exact Nat.lt_of_le_of_lt (hb _ (alm hk) _ (alm g)) h2
  · rw [alq (by omega)]
    exact Nat.two_pow_pos _
 have xb : ∀ k, k < cols.length → (x k).natAbs < 2 ^ 4000 := fun k hk => by
  have h1 := A.nn k hk
  have h2 := bd k hk
  have : ((x k).natAbs : Int) < ((2 ^ 4000 : Nat) : Int) := by
   rw [Int.natAbs_of_nonneg h1]
   exact_mod_cast h2
  exact_mod_cast this
 obtain ⟨FD, hFD⟩ : ∃ X, X = D.tup [.str "amounts", .tup NX] := ⟨_, rfl⟩
 have s1 : Il "amounts" = true := by decide +kernel
 have ca : fX h (.str "amounts") (.str "amounts") = some true := by rw [G3 s1 s1]; rfl
 have i1 := Dj h [.str "amounts", .tup NX]
 have i2 := Dj h NX
 have rl := Bg (n := cols.length) (by omega)
 have rs := xQ (n := cols.length) (by omega)
 have lc1 := Oi (vs := [9]) (g := iV) (t := iW) (e := oZ) (F := fun (i : Nat) => D.int (0 + (i : Int)))
  (fr := [some FD, some (.fl CL), some (.tup SL), some (.str "amounts"), some (.tup NX), none, none, none, none, none, none]) (h := h) (xs := akS cols.length) fun k hk => by
   have hk := List.mem_range.mp hk
   have e1 := xN k hk
   have e2 := QF h (x k)
   have d1 : decide (x k < 0) = false := decide_eq_false (by have := A.nn k hk; omega)
   simp only [↓dN, ↓wk, ↓bf, Int.zero_add, akP, akQ, aC, ↓wu, ↓ux, ↓KH, ↓cD, ↓gG, ↓cG, ↓eY, akT, akR, akU, aA, ↓aQ, aW, bH, lQ, ju, e1, aK, ↓bQ, akV, Nat.zero_add, dX, akZ, e2, ↓cJ, qG, Bool.not_true, ↓bK, ↓cP, dZ, d1, bj, bB, and_self]
 rw [← qN] at lc1
 have lc2 := uN (vs := [9]) (g := iY) (t := iZ) (e := jc) (F := fun (i : Nat) => D.int (0 + (i : Int))) (G := fun (i : Nat) => D.int (0 + (i : Int))) (p := fun k => decide (0 < x k))
  (fr := [some FD, some (.fl CL), some (.tup SL), some (.str "amounts"), some (.tup NX), none, none, none, none, none, none]) (h := h) (xs := akS cols.length) fun k hk => by
   have hk := List.mem_range.mp hk
   have e1 := xN k hk
   by_cases c : 0 < x k
   · have d1 : decide (0 < x k) = true := decide_eq_true c
     simp only [↓dN, ↓wy, ↓bf, Int.zero_add, akP, akQ, aC, ↓wz, ↓bK, ↓eY, akT, akR, aA, ↓aQ, aW, bH, lQ, ju, e1, aK, ↓cP, dZ, d1, dF, ↓G7, bj, bB, ↓reduceIte, and_self]
   · have d1 : decide (0 < x k) = false := decide_eq_false c
     simp only [↓dN, ↓wy, ↓bf, Int.zero_add, akP, akQ, aC, ↓wz, ↓bK, ↓eY, akT, akR, aA, ↓aQ, aW, bH, lQ, ju, e1, aK, ↓cP, dZ, d1, bj, bB, Bool.false_eq_true, ↓reduceIte, and_self]
 rw [← qN] at lc2
 have few := A.few
 obtain ⟨US, hUS⟩ : ∃ X, X = ((akS cols.length).filter fun k => decide (0 < x k)).map fun (i : Nat) => D.int (0 + (i : Int)) := ⟨_, rfl⟩
 have lUS : US.length ≤ strict.length := by rw [hUS, akW]; exact few
 rw [← hUS] at lc2
 have ee : eG 0 SL = (akS strict.length).map fun (k : Nat) => D.tup [.int (k : Int), .bl (strict.getD k false)] := by
  rw [hSL, yO D.bl false strict]
  exact uP _ _
 have d2 : decide ((US.length : Int) > (strict.length : Int)) = false := decide_eq_false (by omega)
 have d2' : decide ((strict.length : Int) < (US.length : Int)) = false := decide_eq_false (by omega)
 obtain ⟨B, hB⟩ : ∃ B, B = j9 := ⟨_, rfl⟩
 have lp : ∀ u : D, Wp (ou (dH 2 (aU (aR 6) (aU (aR 7) dJ))) B (eG 0 SL) [some FD, some (.fl CL), some (.tup SL), some (.str "amounts"), some (.tup NX), some u, none, none, none, none, none] h)
  (fun f fr h' => f = .nx ∧ h' = h) dD := fun u => by
  rw [ee]
  refine yN (fun l fr h' => h' = h ∧ ∃ x6 x7 x8, fr = [some FD, some (.fl CL), some (.tup SL), some (.str "amounts"), some (.tup NX), some u, x6, x7, x8, none, none]) ⟨rfl, _, _, _, rfl⟩ ?_ ?_
  · rintro i fr h' hi ⟨rfl, x6, x7, x8, rfl⟩
    have lc3 := pK (vs := [9]) (g := je) (t := jf) (e := jh) (F := fun (i : Nat) => D.int (0 + (i : Int))) (G := fun k => .int ((cols.getD k []).getD i 0 * x k))
     (fr := [some FD, some (.fl CL), some (.tup SL), some (.str "amounts"), some (.tup NX), some u, some (.int (i : Int)), some (.bl (strict.getD i false)), x8, none, none]) (h := h') (xs := akS cols.length) fun k hk => by
      have hk := List.mem_range.mp hk
      have e1 := xN k hk
      have e2 := xC k hk
      have e3 := aae (h := h') (c := cols.getD k []) (i := i) (by rw [kl k hk]; exact hi)
      have m1 : uz ((cols.getD k []).getD i 0) (x k) = true := Bf (kb k i hk) (xb k hk)
      generalize bA (cols.getD k []) = CK at *
      simp only [↓dN, ↓G8, ↓bf, Int.zero_add, akP, akQ, aC, ↓G9, ↓cX, dF, ↓Hf, ↓bK, ↓eY, akT, akR, aA, ↓aQ, aW, bH, Vh, ju, e2, aK, e3, lQ, e1, mK, m1, bj, bB, and_self]
    rw [← qN] at lc3
    have sm := sum_mk (h := h') cols.length fun k => (cols.getD k []).getD i 0 * x k
    have ge := A.ge i hi
    have gt := A.gt i hi
    generalize (au cols.length fun k => (cols.getD k []).getD i 0 * x k) = TOT at *
    have d3 : decide (TOT < 0) = false := decide_eq_false (by omega)
    obtain ⟨SX, hSX⟩ : ∃ X, X = aV cols.length fun k => D.int ((cols.getD k []).getD i 0 * x k) := ⟨_, rfl⟩
    rw [← hSX] at sm
    have lc3 : iT [9] je jf jh (fV 0 cols.length) [some FD, some (.fl CL), some (.tup SL), some (.str "amounts"), some (.tup NX), some u, some (.int (i : Int)), some (.bl (strict.getD i false)), x8, none, none] h' = .ok SX [some FD, some (.fl CL), some (.tup SL), some (.str "amounts"), some (.tup NX), some u, some (.int (i : Int)), some (.bl (strict.getD i false)), x8, none, none] h' := by
     rw [hSX]
     exact lc3
    generalize hRG : fV 0 cols.length = RG at *
    by_cases c : strict.getD i false = true
    · have gt := gt (by show (if strict.getD i false then (1 : Int) else 0) = 1; rw [c]; rfl)
      have d4 : decide (TOT = 0) = false := decide_eq_false (by omega)
      rw [c] at lc3 ⊢
      rw [hB]
      simp only [↓cW, akU, akV, Nat.zero_add, Nat.reduceAdd, ↓cH, ↓bf, akP, akQ, aC, ↓cV, ↓vm, ↓cR, ↓dB, ↓cD, ↓qd, ↓oX, ↓cY, akT, akR, Aa, aA, v4, lCL, aK, rs, ↓reduceIte, Int.toNat_natCast, hRG, dU, rl, bj, bB, lc3, ↓cJ, sm, cA, ↓gh, ↓ux, ↓bK, ↓aQ, aW, bH, ↓cP, dZ, d3, ↓mJ, qG, dF, oA, d4, ↓cX, d9, true_and]
      exact ⟨_, _, _, rfl⟩
    · have c : strict.getD i false = false := by cases z : strict.getD i false <;> simp_all
      rw [c] at lc3 ⊢
      rw [hB]
      simp only [↓cW, akU, akV, Nat.zero_add, Nat.reduceAdd, ↓cH, ↓bf, akP, akQ, aC, ↓cV, ↓vm, ↓cR, ↓dB, ↓cD, ↓qd, ↓oX, ↓cY, akT, akR, Aa, aA, v4, lCL, aK, rs, ↓reduceIte, Int.toNat_natCast, hRG, dU, rl, bj, bB, lc3, ↓cJ, sm, cA, ↓gh, ↓ux, ↓bK, ↓aQ, aW, bH, ↓cP, dZ, d3, ↓mJ, qG, ↓cX, d9, true_and]
      exact ⟨_, _, _, rfl⟩
  · rintro fr h' ⟨rfl, _⟩
    exact ⟨rfl, rfl⟩
 rw [← hNX, ← hSL, ← hFD, ← hCL]
 have k3 : lM = (aD (fu (aq fX (aa 3) (mC (.str "amounts")))
  (aD (bu 5 (fM [9] (dO (aJ cI (aN 4))) iY iZ jc))
  (aD (fu (uA (aq zY (aJ cI (aN 4)) (aJ cI (aN 1))) (aq zf (aJ cI (aN 5)) (aJ cI (aN 2))))
  (cO (mC (.bl false)))
  (M.ret .nx))
  (aD (gq (qb (aa 2)) (dH 2 (aU (aR 6) (aU (aR 7) dJ))) B)
  (cO (mC (.bl true))))))
  (M.ret .nx))
  lL) := by rw [hB]; rfl
 have ne := nil_eq h
 have i1 : tO qH h FD (.ty "tuple") = some (.bl true) := by rw [hFD]; exact i1
 have lF : cI h FD = some (.int 2) := by rw [hFD]; rfl
 have f1 : aP h FD (.int 1) = some (.tup NX) := by rw [hFD]; rfl
 have ow : FD.own = false := by rw [hFD]; exact vZ
 have tgF : ∀ (x0 : Option D) (U : Unit → Fr → Hh → Prop), Wp (dH 2 (aU (aR 3) (aU (aR 4) dJ)) FD [x0, some (.fl CL), some (.tup SL), none, none, none, none, none, none, none, none] h) U dD = U () [x0, some (.fl CL), some (.tup SL), some (.str "amounts"), some (.tup NX), none, none, none, none, none, none] h := fun x0 U => by
  rw [hFD]
  simp only [↓cW, akU, akV, Nat.zero_add, Nat.reduceAdd, ↓cH, ↓bf, akP, akQ, aC, ↓cV, true_and]
 have cl1 : fX h (.int (cols.length : Int)) (.int (cols.length : Int)) = some true := by
  rw [oA]
  exact congrArg some (decide_eq_true rfl)
 clear hFD hNX hSL hCL
 generalize hES : eG 0 SL = ES at *
 generalize hRG : fV 0 cols.length = RG at *
 apply Wp.eq
 have c22 : decide ((2 : Int) = 2) = true := rfl
 simp only [↓yc, ↓gH, startF, akY, ak2, akU, akV, Nat.zero_add, Nat.reduceAdd, Nat.reduceSub, ale, ala, alf, alh, aC, ↓zK, ↓cR, ↓gh, ↓ux, ↓KH, ↓cD, ↓bK, ↓aQ, akR, akQ, aA, ow, bH, ↓cP, i1, aK, qG, Bool.not_true, ↓cY, lF, Vi, oA, decide_true, Option.map_some, ↓eY, f1, i2, ↓cX, cA, ↓wB, ↓Vg, tgF, ↓wA, ↓fU, ↓qd, ↓oX, akT, Aa, Bv, lNX, rs, ↓reduceIte, Int.toNat_natCast, hRG, dU, rl, bj, bB, akP, lc1, ↓cJ, ↓qD, ↓bQ, Nat.reduceLeDiff, m7, ne, k3, Mv, ca, dF, ↓dB, lc2, v4, lCL, Xf, lSL, dZ, d2, ↓rF, ↓yu, vZ, Xj, hES, true_and]
 refine (lp _).mono ?_
 rintro f fr h' ⟨rfl, rfl⟩
 simp only [cA, ↓lD, ↓cP, Vf, lN, and_self]
end
end L
namespace L
open PySem PySem.Spec L2 Pk
section
variable {h : Hh} {cols : List (List Int)} {strict : List Bool} {y : Nat → Int}
theorem Th (hp : strict.length ≤ 8) (hc : cols.length ≤ 20) (hl : ∀ c ∈ cols, c.length = strict.length) (hb : ∀ c ∈ cols, ∀ v ∈ c, v.natAbs ≤ 2 ^ 200)
 (A : vp strict.length cols.length (fun k i => (cols.getD k []).getD i 0) (fun i => if strict.getD i false then 1 else 0) y) (bd : ∀ i, i < strict.length → y i < 2 ^ 4000) :
 fW [.tup [.str "weights", .tup (aV strict.length fun i => .int (y i))], .fl (cols.map bA), .tup (strict.map .bl)] h = .ok (.bl true) [] h := by
 obtain ⟨NX, hNX⟩ : ∃ X, X = aV strict.length fun k => D.int (y k) := ⟨_, rfl⟩
 obtain ⟨SL, hSL⟩ : ∃ X, X = strict.map D.bl := ⟨_, rfl⟩
 obtain ⟨CL, hCL⟩ : ∃ X, X = cols.map bA := ⟨_, rfl⟩
 have lCL : CL.length = cols.length := by rw [hCL, akW]
 have lNX : NX.length = strict.length := by rw [hNX, cZ]
 have lSL : SL.length = strict.length := by rw [hSL, akW]
 have xN : ∀ k, k < strict.length → NX[k]? = some (.int (y k)) := fun k hk => by rw [hNX]; exact tG _ hk
 have xS : ∀ k, k < strict.length → SL[k]? = some (.bl (strict.getD k false)) := fun k hk => by
  rw [hSL, ak5, ak0, akX hk]
  rfl
 have kb : ∀ c ∈ cols, ∀ i, (c.getD i 0).natAbs < 2 ^ 4000 := fun c hc i => by
  have h2 : 2 ^ 200 < 2 ^ 4000 := Nat.pow_lt_pow_right (by decide) (by decide)
  rw [ak0]
  by_cases g : i < c.length
  · rw [akX g]
    exact Nat.lt_of_le_of_lt (hb _ hc _ (alm g)) h2
  · rw [alq (by omega)]
    exact Nat.two_pow_pos _
 have xb : ∀ k, k < strict.length → (y k).natAbs < 2 ^ 4000 := fun k hk => by
  have h1 := A.nn k hk
  have h2 := bd k hk
  have : ((y k).natAbs : Int) < ((2 ^ 4000 : Nat) : Int) := by
   rw [Int.natAbs_of_nonneg h1]
   exact_mod_cast h2
  exact_mod_cast this
 obtain ⟨FD, hFD⟩ : ∃ X, X = D.tup [.str "weights", .tup NX] := ⟨_, rfl⟩
 have s1 : Il "amounts" = true := by decide +kernel
 have s2 : Il "weights" = true := by decide +kernel
 have ca : fX h (.str "weights") (.str "amounts") = some false := by
  rw [G3 s2 s1]
  exact congrArg some (decide_eq_false (by decide))
 have cb : fX h (.str "weights") (.str "weights") = some true := by rw [G3 s2 s2]; rfl
 have i1 := Dj h [.str "weights", .tup NX]
 have i2 := Dj h NX
 have rl := Bg (n := strict.length) (by omega)
 have rs := xQ (n := strict.length) (by omega)
 have lc1 := Oi (vs := [9]) (g := iV) (t := iW) (e := oZ) (F := fun (i : Nat) => D.int (0 + (i : Int)))
  (fr := [some FD, some (.fl CL), some (.tup SL), some (.str "weights"), some (.tup NX), none, none, none, none, none, none]) (h := h) (xs := akS strict.length) fun k hk => by
   have hk := List.mem_range.mp hk
   have e1 := xN k hk
   have e2 := QF h (y k)
   have d1 : decide (y k < 0) = false := decide_eq_false (by have := A.nn k hk; omega)
   simp only [↓dN, ↓wk, ↓bf, Int.zero_add, akP, akQ, aC, ↓wu, ↓ux, ↓KH, ↓cD, ↓gG, ↓cG, ↓eY, akT, akR, akU, aA, ↓aQ, aW, bH, lQ, ju, e1, aK, ↓bQ, akV, Nat.zero_add, dX, akZ, e2, ↓cJ, qG, Bool.not_true, ↓bK, ↓cP, dZ, d1, bj, bB, and_self]
 rw [← qN] at lc1
 have lc2 := uN (vs := [9]) (g := lE) (t := lG) (e := lH) (F := fun (i : Nat) => D.int (0 + (i : Int))) (G := fun (i : Nat) => D.int (0 + (i : Int))) (p := fun k => strict.getD k false && decide (0 < y k))
  (fr := [some FD, some (.fl CL), some (.tup SL), some (.str "weights"), some (.tup NX), none, none, none, none, none, none]) (h := h) (xs := akS strict.length) fun k hk => by
   have hk := List.mem_range.mp hk
   have e1 := xN k hk
   have e3 := xS k hk
   cases c : strict.getD k false with
   | true =>
     rw [c] at e3
     by_cases c : 0 < y k
     · have d1 : decide (0 < y k) = true := decide_eq_true c
       simp only [↓dN, ↓rW, ↓bf, Int.zero_add, akP, akQ, aC, ↓rY, ↓mJ, ↓cD, ↓eY, akT, akR, aA, ↓aQ, aW, bH, lQ, ju, e3, aK, qG, dF, ↓bK, e1, ↓cP, dZ, d1, ↓Hg, bj, bB, Bool.and_true, ↓reduceIte, and_self]
     · have d1 : decide (0 < y k) = false := decide_eq_false c
       simp only [↓dN, ↓rW, ↓bf, Int.zero_add, akP, akQ, aC, ↓rY, ↓mJ, ↓cD, ↓eY, akT, akR, aA, ↓aQ, aW, bH, lQ, ju, e3, aK, qG, dF, ↓bK, e1, ↓cP, dZ, d1, bj, bB, Bool.and_false, Bool.false_eq_true, ↓reduceIte, and_self]
   | false =>
     rw [c] at e3
     simp only [↓dN, ↓rW, ↓bf, Int.zero_add, akP, akQ, aC, ↓rY, ↓mJ, ↓cD, ↓eY, akT, akR, aA, ↓aQ, aW, bH, lQ, ju, e3, aK, qG, bj, bB, Bool.false_and, Bool.false_eq_true, ↓reduceIte, and_self]
 rw [← qN] at lc2
 obtain ⟨US, hUS⟩ : ∃ X, X = ((akS strict.length).filter fun k => strict.getD k false && decide (0 < y k)).map fun (i : Nat) => D.int (0 + (i : Int)) := ⟨_, rfl⟩
 have nU : fX h (.fl US) (.nl []) = some false := by
  have e : US = (((akS strict.length).filter fun k => strict.getD k false && decide (0 < y k)).map fun (i : Nat) => (0 + (i : Int))).map D.int := by
   rw [hUS, alc]
   rfl
  rw [e]
  refine adt fun z => ?_
  obtain ⟨i, hi, e1, e2⟩ := A.one
  have e1 : (if strict.getD i false then (1 : Int) else 0) = 1 := e1
  have hs : strict.getD i false = true := by
   cases c : strict.getD i false with
   | true => rfl
   | false => rw [c] at e1; cases e1
  have hm : (0 + (i : Int)) ∈ (((akS strict.length).filter fun k => strict.getD k false && decide (0 < y k)).map fun (i : Nat) => (0 + (i : Int))) := List.mem_map.mpr ⟨i, List.mem_filter.mpr ⟨List.mem_range.mpr hi, by rw [hs, decide_eq_true e2]; rfl⟩, rfl⟩
  rw [z] at hm
  exact absurd hm alo
 rw [← hUS] at lc2
 have lc3 := Oi (F := bA) (vs := [10]) (g := lJ) (t := lK) (e := rQ) (fr := [some FD, some (.fl CL), some (.tup SL), some (.str "weights"), some (.tup NX), none, none, none, none, none, none]) (h := h) (xs := cols) fun c hcm => by
  have le : au strict.length (fun i => c.getD i 0 * y i) ≤ 0 := by
   obtain ⟨k, hk, e⟩ := List.getElem_of_mem hcm
   have := A.le k hk
   have e2 : cols.getD k [] = c := by rw [ak0, akX hk]; exact e
   rw [e2] at this
   exact this
  have d3 : decide (0 < au strict.length fun i => c.getD i 0 * y i) = false := decide_eq_false (by omega)
  have sm := sum_mk (h := h) strict.length fun k => c.getD k 0 * y k
  have ow : (bA c).own = false := KY
  have lc4 := pK (vs := [9]) (g := ji) (t := jk) (e := jm) (F := fun (i : Nat) => D.int (0 + (i : Int))) (G := fun k => .int (c.getD k 0 * y k))
   (fr := [some FD, some (.fl CL), some (.tup SL), some (.str "weights"), some (.tup NX), none, none, none, none, none, some (bA c)]) (h := h) (xs := akS strict.length) fun k hk => by
    have hk := List.mem_range.mp hk
    have e1 := xN k hk
    have e3 := aae (h := h) (c := c) (i := k) (by rw [hl c hcm]; exact hk)
    have m1 : uz (c.getD k 0) (y k) = true := Bf (kb c hcm k) (xb k hk)
    generalize bA c = CK at *
    simp only [↓dN, ↓Hi, ↓bf, Int.zero_add, akP, akQ, aC, ↓Hj, ↓cX, dF, ↓Hk, ↓bK, ↓eY, akT, akR, aA, ↓aQ, aW, bH, e3, aK, lQ, ju, e1, mK, m1, bj, bB, and_self]
  rw [← qN] at lc4
  have lc5 : iT [9] ji jk jm (fV 0 strict.length) [some FD, some (.fl CL), some (.tup SL), some (.str "weights"), some (.tup NX), none, none, none, none, none, some (bA c)] h = .ok (aV strict.length fun k => D.int (c.getD k 0 * y k)) [some FD, some (.fl CL), some (.tup SL), some (.str "weights"), some (.tup NX), none, none, none, none, none, some (bA c)] h := lc4
  clear lc4
  generalize (aV strict.length fun k => D.int (c.getD k 0 * y k)) = SX at sm lc5
  generalize (au strict.length fun k => c.getD k 0 * y k) = TOT at *
  generalize bA c = CK at *
  generalize hRG : fV 0 strict.length = RG at *
  simp only [↓dN, ↓Hl, ↓bf, akP, akQ, aC, ↓Hm, ↓bK, ↓cD, ↓qd, ↓oX, ↓cY, akT, akR, Aa, aA, Bv, lSL, aK, rs, ↓reduceIte, Int.toNat_natCast, hRG, dU, rl, bj, bB, lc5, ↓cJ, sm, ↓cP, dZ, d3, bH, and_self]
 rw [← hNX, ← hSL, ← hFD, ← hCL]
 have ne := nil_eq h
 have i1 : tO qH h FD (.ty "tuple") = some (.bl true) := by rw [hFD]; exact i1
 have lF : cI h FD = some (.int 2) := by rw [hFD]; rfl
 have f1 : aP h FD (.int 1) = some (.tup NX) := by rw [hFD]; rfl
 have ow : FD.own = false := by rw [hFD]; exact vZ
 have tgF : ∀ (x0 : Option D) (U : Unit → Fr → Hh → Prop), Wp (dH 2 (aU (aR 3) (aU (aR 4) dJ)) FD [x0, some (.fl CL), some (.tup SL), none, none, none, none, none, none, none, none] h) U dD = U () [x0, some (.fl CL), some (.tup SL), some (.str "weights"), some (.tup NX), none, none, none, none, none, none] h := fun x0 U => by
  rw [hFD]
  simp only [↓cW, akU, akV, Nat.zero_add, Nat.reduceAdd, ↓cH, ↓bf, akP, akQ, aC, ↓cV, true_and]
 have lcc : CL.length ≤ 100000 := by omega
 rw [← hCL] at lc3
 clear hFD hNX hSL hUS
 generalize hRG : fV 0 strict.length = RG at *
 apply Wp.eq
 have c22 : decide ((2 : Int) = 2) = true := rfl
 simp only [↓yc, ↓gH, startF, akY, ak2, akU, akV, Nat.zero_add, Nat.reduceAdd, Nat.reduceSub, ale, ala, alf, alh, aC, ↓zK, ↓cR, ↓gh, ↓ux, ↓KH, ↓cD, ↓bK, ↓aQ, akR, akQ, aA, ow, bH, ↓cP, i1, aK, qG, Bool.not_true, ↓cY, lF, Vi, oA, decide_true, Option.map_some, ↓eY, f1, i2, ↓cX, cA, ↓wB, ↓Vg, tgF, ↓wA, ↓fU, ↓qd, ↓oX, akT, Aa, Bv, lNX, rs, ↓reduceIte, Int.toNat_natCast, hRG, dU, rl, bj, bB, akP, lc1, ↓cJ, ↓qD, ↓bQ, Nat.reduceLeDiff, m7, ne, ↓Hq, Mv, ca, ↓Ho, cb, lSL, ↓Hn, lc2, nU, ↓lD, ↓yR, qF, uH, lcc, lc3, lN, and_self]
theorem abQ {d : D} (hp : strict.length ≤ 8) (hc : cols.length ≤ 20) (hl : ∀ c ∈ cols, c.length = strict.length) (hb : ∀ c ∈ cols, ∀ v ∈ c, v.natAbs ≤ 2 ^ 200) (A : Ans cols strict d) :
 fW [d, .fl (cols.map bA), .tup (strict.map .bl)] h = .ok (.bl true) [] h := by
 rcases A with ⟨y, rfl, W, bd⟩ | ⟨x, rfl, A, bd⟩
 · exact Th hp hc hl hb W bd
 · exact Tf hp hc hl hb A bd
end
end L
namespace L
open PySem PySem.Spec L2 Pk
section
variable {F : Mem} {n : Nat} {α : Type} {vs : List Nat} {g : D → M Unit} {t : M Bool} {e : M D} {fr : Fr} {Fd : α → D} {P : D → Prop}
theorem M3 (turn : ∀ (h : Hh) (C : Int), d8 F h n C → C ≤ 95000 → ∀ a : α, ∃ d h', fL vs g t e (Fd a) fr h = .ok (some d) fr h' ∧ d8 F h' n (C + 1) ∧ P d) :
 ∀ (xs : List α) (h : Hh) (C : Int), d8 F h n C → C + (xs.length : Int) ≤ 95000 → ∃ ds h', iT vs g t e (xs.map Fd) fr h = .ok ds fr h' ∧ ds.length = xs.length ∧ (∀ d ∈ ds, P d) ∧ d8 F h' n (C + (xs.length : Int))
 | [], h, C, S, _ => ⟨[], h, MF, rfl, fun d hd => absurd hd alo, S.up (by simp)⟩
 | a :: xs, h, C, S, hC => by
   rw [akU] at hC
   obtain ⟨d, h1, e1, S1, p1⟩ := turn h C S (by omega) a
   obtain ⟨ds, h2, e2, l2, p2, S2⟩ := M3 turn xs h1 (C + 1) S1 (by omega)
   refine ⟨d :: ds, h2, ?_, by rw [akU, akU, l2], fun x hx => ?_, S2.up (by rw [akU]; omega)⟩
   · rw [akY]
     unfold iT
     rw [M.bind_ok e1, M.bind_ok e2]
     rfl
   · rcases List.mem_cons.mp hx with rfl | hx
     · exact p1
     · exact p2 x hx
theorem VM : ∀ {ds : List D}, (∀ d ∈ ds, ∃ b, d = D.bl b) → ∃ bs : List Bool, ds = bs.map .bl
 | [], _ => ⟨[], rfl⟩
 | d :: ds, h => by
   obtain ⟨b, rfl⟩ := h d ak4
   obtain ⟨bs, rfl⟩ := VM (ds := ds) fun x hx => h x (alb _ hx)
   exact ⟨b :: bs, rfl⟩
end
section
variable {F : Mem} {n : Nat} {h : Hh} {C : Int}
theorem Wj {m : Nat} (S : d8 F h n C) (hC : C ≤ 90000) (hm : 1 ≤ m) (hm2 : m ≤ 8) : ∃ (bs : List Bool) (h' : Hh), qm [.ref n, .int (m : Int)] h = .ok (.tup (bs.map .bl)) [] h' ∧ d8 F h' n (C + 20) ∧ bs.length = m ∧ ∃ i, i < m ∧ bs.getD i false = true := by
 obtain ⟨ds, h1, e1, l1, p1, S1⟩ := M3 (F := F) (n := n) (vs := [3]) (g := pP) (t := pQ) (e := pU) (fr := [some (.ref n), some (.int (m : Int)), none, none]) (Fd := fun (i : Nat) => D.int (0 + (i : Int))) (P := fun d => ∃ b, d = D.bl b) (fun h C S hC a => by
  obtain ⟨r, h', e, S', r0, r1⟩ := vH (m := 2) S (by omega) (by decide) (by decide)
  refine ⟨.bl (decide (r = 1)), h', ?_, S', _, rfl⟩
  apply Wp.eq
  simp only [↓dN, ↓Ou, ↓bf, akP, akQ, aC, ↓Ov, ↓cX, dF, ↓Ow, ↓bK, ↓fU, ↓gG, ↓cG, ↓aQ, akR, akU, aA, dW, bH, ↓cP, ↓bQ, akV, Nat.zero_add, Nat.reduceAdd, dX, akZ, e, ↓cJ, lO, oA, Option.map_some, aK, bj, bB, and_self]) (akS m) h C S (by rw [ak1]; omega)
 rw [← qN] at e1
 rw [ak1] at l1 S1
 obtain ⟨bs, rfl⟩ := VM p1
 rw [akW] at l1
 obtain ⟨r, h2, e2, S2, r0, r1⟩ := vH (m := (m : Int)) S1 (by omega) (by omega) (by
  have : (8 : Int) < 2 ^ 200 := by decide
  omega)
 have hr : r = ((r.toNat : Nat) : Int) := by omega
 have rm : r.toNat < m := by omega
 rw [hr] at e2
 generalize r.toNat = k at *
 refine ⟨bs.set k true, h2, ?_, S2.up (by omega), by rw [ak8, l1], k, rm, ?_⟩
 · have sF : pG (.int (k : Int)) (.bl true) (bs.map .bl) = some ((bs.set k true).map .bl) := by
    unfold pG
    dsimp only
    have : ixN (bs.map D.bl).length (k : Int) = some k := by
     rw [akW, l1]
     unfold ixN
     rw [if_pos (by omega), if_pos (by omega)]
     congr 1
    rw [this, List.map_set]
    rfl
   have rs := xQ (n := m) (by omega)
   have rl := Bg (n := m) (by omega)
   apply Wp.eq
   generalize hRG : fV 0 m = RG at *
   generalize bs.map D.bl = B0 at *
   generalize (bs.set k true).map D.bl = B1 at *
   simp only [↓Ru, ↓gH, startF, akY, ak2, akU, akV, Nat.zero_add, Nat.reduceAdd, Nat.reduceSub, ale, ala, alf, alh, aC, ↓S9, ↓cR, ↓dB, ↓qd, ↓oX, ↓aQ, akT, akR, akP, akQ, Aa, aA, aW, Int.toNat_natCast, bH, rs, ↓reduceIte, hRG, aK, dU, rl, bj, bB, e1, ↓cJ, cA, ↓Ox, ↓yz, ↓cP, ↓fU, ↓gG, ↓cG, dW, ↓bQ, dX, akZ, e2, ↓rG, lO, sF, ↓lD, ↓cD, ↓cY, R6, Qn, Option.map_some, lN, and_self]
 · rw [ak0, ak9 (by omega)]
   rfl
theorem YG {M : Int} (S : d8 F h n C) (hC : C ≤ 95000) (hM : 0 ≤ M) (hM2 : M ≤ 10 ^ 30) : ∃ (v : Int) (h' : Hh), iK [.ref n, .int M] h = .ok (.int v) [] h' ∧ d8 F h' n (C + 1) ∧ v.natAbs ≤ M.natAbs := by
 have p200 : (2 : Int) * 10 ^ 30 + 1 < 2 ^ 200 := by decide
 obtain ⟨r, h', e, S', r0, r1⟩ := vH (m := 2 * M + 1) S (by omega) (by omega) (by omega)
 have m1 : uz 2 M = true := by
  have l1 : ((2 : Int)).natAbs.log2 < 200 := log2_lt (by decide) (by decide)
  have l2 : M.natAbs.log2 < 200 := log2_lt (by omega) (by decide)
  exact decide_eq_true (by omega)
 refine ⟨r - M, h', ?_, S', by omega⟩
 apply Wp.eq
 simp only [↓OJ, ↓gH, startF, akY, ak2, akU, akV, Nat.zero_add, Nat.reduceAdd, Nat.reduceSub, ala, akZ, aC, ↓Qq, ↓lD, ↓bK, ↓fU, ↓gG, ↓cG, ↓aQ, akR, akQ, aA, dW, bH, ↓cP, akT, akP, aW, mK, m1, pO, aK, ↓bQ, lO, dX, e, ↓cJ, yS, lN, and_self]
end
end L
namespace L
open PySem PySem.Spec L2 Pk
def bV (r : List Int) : D := .fl (r.map .int)
def tH (rows : List (List Int)) (k i : Nat) : Int := (rows.getD k []).getD i 0
def QG (strict : List Bool) (i : Nat) : Int := if strict.getD i false then 1 else 0
structure Rows (p : Nat) (rows : List (List Int)) : Prop where
 le : rows.length ≤ 12
 wd : ∀ r ∈ rows, r.length = p
 bd : ∀ r ∈ rows, ∀ v ∈ r, v.natAbs ≤ 2 ^ 100
theorem ints_of {W : Nat} : ∀ {ds : List D}, (∀ d ∈ ds, ∃ v : Int, d = .int v ∧ v.natAbs ≤ W) → ∃ l : List Int, ds = l.map .int ∧ ∀ v ∈ l, v.natAbs ≤ W
 | [], _ => ⟨[], rfl, fun v hv => absurd hv alo⟩
 | d :: ds, h => by
   obtain ⟨v, rfl, hv⟩ := h d ak4
   obtain ⟨l, rfl, hl⟩ := ints_of (ds := ds) fun x hx => h x (alb _ hx)
   exact ⟨v :: l, rfl, fun w hw => by
    rcases List.mem_cons.mp hw with rfl | hw
    · exact hv
    · exact hl w hw⟩
theorem getD_mem {α : Type} {l : List α} {k : Nat} (z : α) (h : k < l.length) : l.getD k z ∈ l := by
 rw [ak0, akX h]
 exact alm h
theorem Rz {h : Hh} {l : List Int} {i : Nat} (hi : i < l.length) : (l.map D.int)[i]? = some (.int (l.getD i 0)) := by
 rw [ak5, ak0, akX hi]
 rfl
section
variable {F : Mem} {n : Nat} {h : Hh} {C : Int} {strict : List Bool}
theorem entries_spec {g : D → M Unit} {t : M Bool} {e : M D} {vs : List Nat} {fr : Fr} {mo : Int} {p : Nat} (hM : 0 ≤ mo) (hM2 : mo ≤ 10 ^ 25) (S : d8 F h n C) (hC : C + p ≤ 80000)
 (turn : ∀ (a : Nat) (h h' : Hh) (v : Int), iK [.ref n, .int mo] h = .ok (.int v) [] h' → fL vs g t e (D.int (0 + (a : Int))) fr h = .ok (some (.int v)) fr h') :
 ∃ (l : List Int) (h' : Hh), iT vs g t e (fV 0 p) fr h = .ok (l.map .int) fr h' ∧ l.length = p ∧ (∀ v ∈ l, v.natAbs ≤ 10 ^ 25) ∧ d8 F h' n (C + p) := by
 obtain ⟨ds, h1, e1, l1, p1, S1⟩ := M3 (F := F) (n := n) (vs := vs) (g := g) (t := t) (e := e) (fr := fr) (Fd := fun (i : Nat) => D.int (0 + (i : Int))) (P := fun d => ∃ v : Int, d = .int v ∧ v.natAbs ≤ 10 ^ 25) (fun h C S hC a => by
  have big : (10 : Int) ^ 25 ≤ 10 ^ 30 := by decide
  obtain ⟨v, h', e1, S', hv⟩ := YG (M := mo) S (by omega) hM (by omega)
  exact ⟨.int v, h', turn a h h' v e1, S', v, rfl, by omega⟩) (akS p) h C S (by rw [ak1]; omega)
 rw [← qN] at e1
 rw [ak1] at l1 S1
 obtain ⟨l, rfl, hl⟩ := ints_of p1
 rw [akW] at l1
 exact ⟨l, h1, e1, l1, hl, S1⟩
theorem abR {many r : Nat} {mo : Int} {SL : List D} {b : M Fl} (hb : b = jP) (S : d8 F h n C) (hC : C ≤ 50000) (hm : many ≤ 8) (hM : 0 ≤ mo) (hM2 : mo ≤ 10 ^ 25) (hr : r ≤ 6) :
 Wp (ou (aR 5) b (fV 0 r) [some (.ref n), some (.int (many : Int)), some (.int mo), some (.tup SL), some (.nl []), none, none, none, none, none, none] h)
  (fun f fr h' => f = .nx ∧ ∃ (rows : List (List Int)) (x5 : Option D), fr = [some (.ref n), some (.int (many : Int)), some (.int mo), some (.tup SL), some (.nl (rows.map bV)), x5, none, none, none, none, none] ∧ rows.length = r ∧ (∀ r ∈ rows, r.length = many ∧ ∀ v ∈ r, v.natAbs ≤ 10 ^ 25) ∧ d8 F h' n (C + 60)) dD := by
 rw [qN]
 refine yN (fun k fr h' => ∃ (rows : List (List Int)) (x5 : Option D), fr = [some (.ref n), some (.int (many : Int)), some (.int mo), some (.tup SL), some (.nl (rows.map bV)), x5, none, none, none, none, none] ∧ rows.length = k ∧ (∀ r ∈ rows, r.length = many ∧ ∀ v ∈ r, v.natAbs ≤ 10 ^ 25) ∧ d8 F h' n (C + 10 * (k : Int))) ?_ ?_ ?_
 · exact ⟨[], none, rfl, rfl, fun r hr => absurd hr alo, S.up (by omega)⟩
 · rintro k fr h' hk ⟨rows, x5, rfl, hl, hrow, S'⟩
   obtain ⟨l, h2, e2, ll, lb, S2⟩ := entries_spec (g := jM) (t := jN) (e := jO) (vs := [7]) (p := many) (fr := [some (.ref n), some (.int (many : Int)), some (.int mo), some (.tup SL), some (.nl (rows.map bV)), some (.int (0 + (k : Int))), none, none, none, none, none]) hM hM2 S' (by omega) (fun a h h' v e1 => by
    apply Wp.eq
    generalize rows.map bV = RL at *
    simp only [↓dN, ↓Ea, ↓bf, akP, akQ, aC, ↓Eb, ↓cX, dF, ↓Ec, ↓fU, ↓gG, ↓cG, ↓aQ, akR, akU, aA, dW, bH, akT, aW, ↓bQ, akV, Nat.zero_add, Nat.reduceAdd, dX, akZ, e1, ↓cJ, bj, bB, lO, and_self])
   have rs := xQ (n := many) (by omega)
   have rl := Bg (n := many) (by omega)
   have ln : (rows.map bV).length < 100000 := by rw [akW]; omega
   have e3 : rows.map bV ++ [D.fl (l.map .int)] = (rows ++ [l]).map bV := by rw [alj]; rfl
   have fin : (rows ++ [l]).length = k + 1 ∧ (∀ r ∈ rows ++ [l], r.length = many ∧ ∀ v ∈ r, v.natAbs ≤ 10 ^ 25) ∧ d8 F h2 n (C + 10 * ((k + 1 : Nat) : Int)) := by
    refine ⟨by rw [ak3, hl]; rfl, fun r hr => ?_, S2.up (by omega)⟩
    rcases List.mem_append.mp hr with hr | hr
    · exact hrow r hr
    · rw [List.mem_singleton.mp hr]
      exact ⟨ll, lb⟩
   obtain ⟨f1, f2, f3⟩ := fin
   rw [hb]
   generalize rows.map bV = RL at *
   generalize l.map D.int = LI at *
   generalize hRG : fV 0 many = RG at *
   simp only [↓bf, akP, akQ, aC, ↓Ed, ↓rE, ↓yw, ↓rG, akT, akR, aA, uI, aK, ↓fU, ↓qd, ↓oX, ↓aQ, Aa, aW, Int.toNat_natCast, bH, rs, ↓reduceIte, hRG, dU, rl, bj, bB, e2, ↓cJ, m7, v7, ln, d9, true_and]
   exact ⟨rows ++ [l], _, by rw [← e3], f1, f2, f3⟩
 · rintro fr h' ⟨rows, x5, rfl, hl, hrow, S'⟩
   exact ⟨rfl, rows, x5, rfl, hl, hrow, S'.up (by omega)⟩
structure Last (strict : List Bool) (rows : List (List Int)) (k : Nat) (need : Nat → Int) (last : List Int) : Prop where
 len : last.length = k
 eq : ∀ i, i < k → last.getD i 0 = need i - au rows.length fun j => tH rows j i * (1 + (j : Int))
 nn : ∀ i, i < k → 0 ≤ need i
 sm : ∀ i, i < k → need i ≤ 5
 st : ∀ i, i < k → QG strict i = 1 → 0 < need i
theorem adu {many : Nat} {mo : Int} {b : M Fl} (hb : b = jQ) {rows : List (List Int)} (S : d8 F h n C) (hC : C ≤ 50000) (hm1 : 1 ≤ many) (hm : many ≤ 8) (hs : strict.length = many) (hr : rows.length ≤ 6) (hrow : ∀ r ∈ rows, r.length = many ∧ ∀ v ∈ r, v.natAbs ≤ 10 ^ 25) {x5 : Option D} :
 Wp (ou (aR 7) b (fV 0 many) [some (.ref n), some (.int (many : Int)), some (.int mo), some (.tup (strict.map .bl)), some (.nl (rows.map bV)), x5, some (.nl []), none, none, none, none] h)
  (fun f fr h' => f = .nx ∧ ∃ (last : List Int) (need : Nat → Int) (x7 x8 : Option D), fr = [some (.ref n), some (.int (many : Int)), some (.int mo), some (.tup (strict.map .bl)), some (.fl (rows.map bV)), x5, some (.nl (last.map .int)), x7, x8, none, none] ∧ Last strict rows many need last ∧ d8 F h' n (C + 16)) dD := by
 rw [qN]
 obtain ⟨SL, hSL⟩ : ∃ x, x = strict.map D.bl := ⟨_, rfl⟩
 rw [← hSL]
 refine yN (fun k fr h' => ∃ (last : List Int) (need : Nat → Int) (x7 x8 : Option D) (x4 : D), (if k = 0 then x4 = D.nl (rows.map bV) else x4 = .fl (rows.map bV)) ∧ fr = [some (.ref n), some (.int (many : Int)), some (.int mo), some (.tup SL), some x4, x5, some (.nl (last.map .int)), x7, x8, none, none] ∧ Last strict rows k need last ∧ d8 F h' n (C + 2 * (k : Int))) ?_ ?_ ?_
 · exact ⟨[], fun _ => 0, none, none, _, rfl, rfl, ⟨rfl, fun i hi => absurd hi (Nat.not_lt_zero i), fun i hi => absurd hi (Nat.not_lt_zero i), fun i hi => absurd hi (Nat.not_lt_zero i), fun i hi => absurd hi (Nat.not_lt_zero i)⟩, S.up (by omega)⟩
 · rintro k fr h' hk ⟨last, need, x7, x8, x4, h4, rfl, La, S'⟩
   obtain ⟨r1, h1, e1, S1, r10, r11⟩ := vH (m := 3) S' (by omega) (by decide) (by decide)
   obtain ⟨r2, h2, e2, S2, r20, r21⟩ := vH (m := 2) S1 (by omega) (by decide) (by decide)
   have xS : SL[k]? = some (.bl (strict.getD k false)) := by
    rw [hSL, ak5, ak0, akX (by omega)]
    rfl
   have m1 : uz r1 r2 = true := by
    have l1 : r1.natAbs.log2 < 200 := log2_lt (by omega) (by decide)
    have l2 : r2.natAbs.log2 < 200 := log2_lt (by omega) (by decide)
    exact decide_eq_true (by omega)
   have rr0 : 0 ≤ r1 * r2 := Int.mul_nonneg r10 r20
   have rr1 : r1 * r2 ≤ 2 * 1 := Int.mul_le_mul (by omega) (by omega) r20 (by decide)
   obtain ⟨nd, hnd⟩ : ∃ nd : Int, nd = (if strict.getD k false then 1 else 0) + r1 * r2 := ⟨_, rfl⟩
   obtain ⟨S0, hS0⟩ : ∃ S0 : Int, S0 = au rows.length fun j => tH rows j k * (1 + (j : Int)) := ⟨_, rfl⟩
   have ee : eG 0 (rows.map bV) = (akS rows.length).map fun (j : Nat) => D.tup [.int (j : Int), bV (rows.getD j [])] := by
    rw [yO bV [] rows]
    exact uP _ _
   have dw : ∀ j, j < rows.length → (rows.getD j []).length = many ∧ ∀ v ∈ rows.getD j [], v.natAbs ≤ 10 ^ 25 := fun j hj => hrow _ (getD_mem [] hj)
   have lc := pK (vs := [9, 10]) (g := fB) (t := fD) (e := fG) (F := fun (j : Nat) => D.tup [.int (j : Int), bV (rows.getD j [])]) (G := fun j => .int (tH rows j k * (1 + (j : Int))))
    (fr := [some (.ref n), some (.int (many : Int)), some (.int mo), some (.tup SL), some (.fl (rows.map bV)), x5, some (.nl (last.map .int)), some (.int (k : Int)), some (.int nd), none, none]) (h := h2) (xs := akS rows.length) fun j hj => by
     have hj := List.mem_range.mp hj
     obtain ⟨q1, q2⟩ := dw j hj
     have bi := Rz (h := h2) (l := rows.getD j []) (i := k) (by omega)
     have m2 : uz ((rows.getD j []).getD k 0) (1 + (j : Int)) = true := by
      have b1 := q2 _ (getD_mem (l := rows.getD j []) (k := k) 0 (by omega))
      have l1 : ((rows.getD j []).getD k 0).natAbs.log2 < 200 := log2_lt (Nat.lt_of_le_of_lt b1 (by decide)) (by decide)
      have l2 : (1 + (j : Int)).natAbs.log2 < 200 := log2_lt (Nat.lt_of_le_of_lt (show (1 + (j : Int)).natAbs ≤ 10 by omega) (by decide)) (by decide)
      exact decide_eq_true (by omega)
     have er : bV (rows.getD j []) = .fl ((rows.getD j []).map .int) := rfl
     show Wp (fL [9, 10] fB fD fG (D.tup [.int (j : Int), bV (rows.getD j [])]) _ h2) (fun o fr1 h1 => o = some (.int ((rows.getD j []).getD k 0 * (1 + (j : Int)))) ∧ fr1 = _ ∧ h1 = h2) dD
     rw [er]
     generalize (rows.getD j []).map D.int = RI at *
     generalize rows.map bV = RL at *
     generalize last.map D.int = LI at *
     simp only [↓dN, ↓Ef, ↓cW, akU, akV, Nat.zero_add, Nat.reduceAdd, ↓cH, ↓bf, akP, akQ, aC, ↓cV, ↓Eh, ↓cX, dF, ↓Ei, ↓bK, ↓eY, akT, akR, aA, ↓aQ, aW, bH, Vh, ju, bi, aK, ↓fU, ↓cP, pO, lO, mK, m2, bj, bB, and_self]
   have sm := sum_mk (h := h2) rows.length fun j => tH rows j k * (1 + (j : Int))
   rw [← hS0] at sm
   have lc : iT [9, 10] fB fD fG (eG 0 (rows.map bV)) [some (.ref n), some (.int (many : Int)), some (.int mo), some (.tup SL), some (.fl (rows.map bV)), x5, some (.nl (last.map .int)), some (.int (k : Int)), some (.int nd), none, none] h2 = .ok (aV rows.length fun j => .int (tH rows j k * (1 + (j : Int)))) [some (.ref n), some (.int (many : Int)), some (.int mo), some (.tup SL), some (.fl (rows.map bV)), x5, some (.nl (last.map .int)), some (.int (k : Int)), some (.int nd), none, none] h2 := by
    rw [ee]
    exact lc
   have ll : (eG 0 (rows.map bV)).length ≤ 100000 := by
    rw [ee, akW, ak1]
    omega
   have la : (last.map D.int).length < 100000 := by rw [akW, La.len]; omega
   have e3 : last.map D.int ++ [.int (nd - S0)] = (last ++ [nd - S0]).map .int := by rw [alj]; rfl
   have fin : Last strict rows (k + 1) (fun i => if i = k then nd else need i) (last ++ [nd - S0]) := by
    have gk : (last ++ [nd - S0]).getD k 0 = nd - S0 := by
     rw [ak0, ali (by rw [La.len]; exact Nat.le_refl _), La.len, Nat.sub_self]
     rfl
    have gl : ∀ i, i < k → (last ++ [nd - S0]).getD i 0 = last.getD i 0 := fun i hi => by
     rw [ak0, alk (by rw [La.len]; exact hi), ak0]
    refine ⟨by rw [ak3, La.len]; rfl, fun i hi => ?_, fun i hi => ?_, fun i hi => ?_, fun i hi z => ?_⟩
    · by_cases c : i = k
      · rw [c, gk]
        show _ = (if k = k then nd else need k) - _
        rw [if_pos rfl, hS0]
      · rw [gl i (by omega)]
        show _ = (if i = k then nd else need i) - _
        rw [if_neg c]
        exact La.eq i (by omega)
    · show 0 ≤ if i = k then nd else need i
      by_cases c : i = k
      · rw [if_pos c, hnd]
        split <;> omega
      · rw [if_neg c]
        exact La.nn i (by omega)
    · show (if i = k then nd else need i) ≤ 5
      by_cases c : i = k
      · rw [if_pos c, hnd]
        split <;> omega
      · rw [if_neg c]
        exact La.sm i (by omega)
    · show 0 < if i = k then nd else need i
      by_cases c : i = k
      · rw [c] at z
        have z : (if strict.getD k false then (1 : Int) else 0) = 1 := z
        rw [if_pos c, hnd, z]
        omega
      · rw [if_neg c]
        exact La.st i (by omega) z
   have S3 := S2.up (C' := C + 2 * ((k + 1 : Nat) : Int)) (by omega)
   have hnd' := hnd.symm
   generalize hEE : eG 0 (rows.map bV) = EE at *
   generalize (aV rows.length fun j => D.int (tH rows j k * (1 + (j : Int)))) = SX at *
   generalize rows.map bV = RL at *
   generalize last.map D.int = LI at *
   by_cases c : k = 0
   · rw [if_pos c] at h4
     subst h4
     rw [hb]
     simp only [↓bf, Int.zero_add, akP, akQ, aC, ↓vf, ↓cR, ↓dB, ↓bK, ↓cD, ↓eY, akT, akR, aA, ↓aQ, aW, bH, lQ, ju, xS, aK, Ik, ↓fU, ↓gG, ↓cG, akU, dW, ↓cP, ↓bQ, akV, Nat.zero_add, Nat.reduceAdd, dX, akZ, e1, ↓cJ, e2, lO, mK, m1, pO, hnd', cA, ↓rE, ↓yw, ↓rG, uI, ↓qd, ↓yu, rH, dF, m7, KQ, hEE, dU, ll, bj, bB, lc, sm, yS, v7, la, ↓reduceIte, d9, reduceCtorEq, true_and]
     exact ⟨last ++ [nd - S0], _, _, _, _, rfl, by rw [← e3], fin, S3⟩
   · rw [if_neg c] at h4
     subst h4
     rw [hb]
     simp only [↓bf, Int.zero_add, akP, akQ, aC, ↓vf, ↓cR, ↓dB, ↓bK, ↓cD, ↓eY, akT, akR, aA, ↓aQ, aW, bH, lQ, ju, xS, aK, Ik, ↓fU, ↓gG, ↓cG, akU, dW, ↓cP, ↓bQ, akV, Nat.zero_add, Nat.reduceAdd, dX, akZ, e1, ↓cJ, e2, lO, mK, m1, pO, hnd', cA, ↓rE, ↓yw, ↓rG, uI, ↓qd, ↓yu, qF, KQ, hEE, dU, ll, bj, bB, lc, sm, yS, v7, la, ↓reduceIte, d9, reduceCtorEq, true_and]
     exact ⟨last ++ [nd - S0], _, _, _, _, rfl, by rw [← e3], fin, S3⟩
 · rintro fr h' ⟨last, need, x7, x8, x4, h4, rfl, La, S'⟩
   rw [if_neg (by omega)] at h4
   subst h4
   exact ⟨rfl, last, need, x7, x8, rfl, La, S'.up (by omega)⟩
end
end L
namespace L
open PySem PySem.Spec L2 Pk
theorem SN : ∀ {ds : List D}, (∀ d ∈ ds, ∃ v : Int, d = .int v ∧ 0 ≤ v ∧ v ≤ 3) → ∃ l : List Int, ds = l.map .int ∧ ∀ v ∈ l, 0 ≤ v ∧ v ≤ 3
 | [], _ => ⟨[], rfl, fun v hv => absurd hv alo⟩
 | d :: ds, h => by
   obtain ⟨v, rfl, hv⟩ := h d ak4
   obtain ⟨l, rfl, hl⟩ := SN (ds := ds) fun x hx => h x (alb _ hx)
   exact ⟨v :: l, rfl, fun w hw => by
    rcases List.mem_cons.mp hw with rfl | hw
    · exact hv
    · exact hl w hw⟩
theorem SQ {l : List Int} {i : Nat} (v : Int) (hi : i < l.length) : pG (.int (i : Int)) (.int v) (l.map .int) = some ((l.set i v).map .int) := by
 unfold pG
 dsimp only
 have : ixN (l.map D.int).length (i : Int) = some i := by
  rw [akW]
  unfold ixN
  rw [if_pos (by omega), if_pos (by omega)]
  congr 1
 rw [this, List.map_set]
 rfl
theorem VN {l : List Int} {f i : Nat} (v : Int) (hf : f < l.length) : (l.set f v).getD i 0 = if i = f then v else l.getD i 0 := by
 rw [ak0, ak0]
 by_cases c : i = f
 · rw [if_pos c, c, ak9 hf]
   rfl
 · rw [if_neg c, ak7 fun z => c z.symm]
section
variable {F : Mem} {n : Nat} {h : Hh} {C : Int} {strict : List Bool}
structure Wts (many f : Nat) (W : List Int) : Prop where
 len : W.length = many
 hf : f < many
 one : W.getD f 0 = 1
 nn : ∀ v ∈ W, 0 ≤ v ∧ v ≤ 3
theorem adw {many r f : Nat} {mo : Int} {SL : List D} {W : List Int} {b : M Fl} (hb : b = jC) (w : Wts many f W) (S : d8 F h n C) (hC : C ≤ 50000) (hm : many ≤ 8) (hM : 0 ≤ mo) (hM2 : mo ≤ 10 ^ 25) (hr : r ≤ 11) :
 Wp (ou (aR 7) b (fV 0 r) [some (.ref n), some (.int (many : Int)), some (.int mo), some (.tup SL), some (.nl (W.map .int)), some (.int (f : Int)), some (.nl []), none, none, none, none] h)
  (fun f' fr h' => f' = .nx ∧ ∃ (rows : List (List Int)) (x7 x8 x9 : Option D), fr = [some (.ref n), some (.int (many : Int)), some (.int mo), some (.tup SL), some (.nl (W.map .int)), some (.int (f : Int)), some (.nl (rows.map bV)), x7, x8, x9, none] ∧ rows.length = r ∧ (∀ r ∈ rows, r.length = many ∧ (∀ v ∈ r, v.natAbs ≤ 2 ^ 100) ∧ au many (fun i => r.getD i 0 * W.getD i 0) ≤ 0) ∧ d8 F h' n (C + 200)) dD := by
 rw [qN]
 refine yN (fun k fr h' => ∃ (rows : List (List Int)) (x7 x8 x9 : Option D), fr = [some (.ref n), some (.int (many : Int)), some (.int mo), some (.tup SL), some (.nl (W.map .int)), some (.int (f : Int)), some (.nl (rows.map bV)), x7, x8, x9, none] ∧ rows.length = k ∧ (∀ r ∈ rows, r.length = many ∧ (∀ v ∈ r, v.natAbs ≤ 2 ^ 100) ∧ au many (fun i => r.getD i 0 * W.getD i 0) ≤ 0) ∧ d8 F h' n (C + 15 * (k : Int))) ?_ ?_ ?_
 · exact ⟨[], none, none, none, rfl, rfl, fun r hr => absurd hr alo, S.up (by omega)⟩
 · rintro k fr h' hk ⟨rows, x7, x8, x9, rfl, hl, hrow, S'⟩
   have lw := w.len
   have hf := w.hf
   obtain ⟨l, h2, e2, ll, lb, S2⟩ := entries_spec (g := jY) (t := jZ) (e := j5) (vs := [10]) (p := many) (fr := [some (.ref n), some (.int (many : Int)), some (.int mo), some (.tup SL), some (.nl (W.map .int)), some (.int (f : Int)), some (.nl (rows.map bV)), some (.int (0 + (k : Int))), x8, x9, none]) hM hM2 S' (by omega) (fun a h h' v e1 => by
    apply Wp.eq
    generalize rows.map bV = RL at *
    generalize W.map D.int = WL at *
    simp only [↓dN, ↓Es, ↓bf, akP, akQ, aC, ↓Et, ↓cX, dF, ↓Eu, ↓fU, ↓gG, ↓cG, ↓aQ, akR, akU, aA, dW, bH, akT, aW, ↓bQ, akV, Nat.zero_add, Nat.reduceAdd, dX, akZ, e1, ↓cJ, bj, bB, lO, and_self])
   obtain ⟨r1, h3, e3, S3, r10, r11⟩ := vH (m := 3) S2 (by omega) (by decide) (by decide)
   obtain ⟨r2, h4, e4, S4, r20, r21⟩ := vH (m := 2) S3 (by omega) (by decide) (by decide)
   have m1 : uz r1 r2 = true := by
    have l1 : r1.natAbs.log2 < 200 := log2_lt (by omega) (by decide)
    have l2 : r2.natAbs.log2 < 200 := log2_lt (by omega) (by decide)
    exact decide_eq_true (by omega)
   have rr0 : 0 ≤ r1 * r2 := Int.mul_nonneg r10 r20
   have rr1 : r1 * r2 ≤ 2 * 1 := Int.mul_le_mul (by omega) (by omega) r20 (by decide)
   have wi : ∀ i, i < many → (W.map D.int)[i]? = some (.int (W.getD i 0)) := fun i hi => Rz (h := h2) (by omega)
   have li : ∀ i, i < many → (l.map D.int)[i]? = some (.int (l.getD i 0)) := fun i hi => Rz (h := h2) (by omega)
   have lw3 : ∀ i, i < many → (W.getD i 0).natAbs ≤ 3 := fun i hi => by
    have := w.nn _ (getD_mem 0 (show i < W.length by omega))
    omega
   have lb2 : ∀ i, i < many → (l.getD i 0).natAbs ≤ 10 ^ 25 := fun i hi => lb _ (getD_mem 0 (by omega))
   have lc := pK (vs := [10]) (g := gJ) (t := gK) (e := gM) (F := fun (i : Nat) => D.int (0 + (i : Int))) (G := fun i => .int (W.getD i 0 * l.getD i 0))
    (fr := [some (.ref n), some (.int (many : Int)), some (.int mo), some (.tup SL), some (.nl (W.map .int)), some (.int (f : Int)), some (.nl (rows.map bV)), some (.int (0 + (k : Int))), some (.nl (l.map .int)), x9, none]) (h := h2) (xs := akS many) fun i hi => by
     have hi := List.mem_range.mp hi
     have q1 := wi i hi
     have q2 := li i hi
     have m2 : uz (W.getD i 0) (l.getD i 0) = true := by
      have l1 : (W.getD i 0).natAbs.log2 < 200 := log2_lt (Nat.lt_of_le_of_lt (lw3 i hi) (by decide)) (by decide)
      have l2 : (l.getD i 0).natAbs.log2 < 200 := log2_lt (Nat.lt_of_le_of_lt (lb2 i hi) (by decide)) (by decide)
      exact decide_eq_true (by omega)
     generalize rows.map bV = RL at *
     generalize W.map D.int = WL at *
     generalize l.map D.int = LI at *
     simp only [↓dN, ↓Ew, ↓bf, Int.zero_add, akP, akQ, aC, ↓Ey, ↓cX, dF, ↓Ez, ↓bK, ↓eY, akT, akR, aA, ↓aQ, aW, bH, Xg, ju, q1, aK, q2, mK, m2, bj, bB, and_self]
   rw [← qN] at lc
   have sm := sum_mk (h := h2) many fun i => W.getD i 0 * l.getD i 0
   obtain ⟨tot, htot⟩ : ∃ t : Int, t = au many fun i => W.getD i 0 * l.getD i 0 := ⟨_, rfl⟩
   rw [← htot] at sm
   have lc : iT [10] gJ gK gM (fV 0 many) [some (.ref n), some (.int (many : Int)), some (.int mo), some (.tup SL), some (.nl (W.map .int)), some (.int (f : Int)), some (.nl (rows.map bV)), some (.int (0 + (k : Int))), some (.nl (l.map .int)), x9, none] h2 = .ok (aV many fun i => .int (W.getD i 0 * l.getD i 0)) [some (.ref n), some (.int (many : Int)), some (.int mo), some (.tup SL), some (.nl (W.map .int)), some (.int (f : Int)), some (.nl (rows.map bV)), some (.int (0 + (k : Int))), some (.nl (l.map .int)), x9, none] h2 := lc
   have lf := li f hf
   have sF := SQ (l := l) (i := f) (l.getD f 0 - tot - r1 * r2) (by omega)
   have e5 : rows.map bV ++ [D.fl ((l.set f (l.getD f 0 - tot - r1 * r2)).map .int)] = (rows ++ [l.set f (l.getD f 0 - tot - r1 * r2)]).map bV := by rw [alj]; rfl
   have rs := xQ (n := many) (by omega)
   have rl := Bg (n := many) (by omega)
   have ln : (rows.map bV).length < 100000 := by rw [akW]; omega
   have tb : tot.natAbs ≤ many * (3 * 10 ^ 25) := by
    rw [htot]
    refine Jj fun i hi => ?_
    rw [Int.natAbs_mul]
    exact Nat.mul_le_mul (lw3 i hi) (lb2 i hi)
   have tb2 : tot.natAbs ≤ 8 * (3 * 10 ^ 25) := Nat.le_trans tb (Nat.mul_le_mul_right _ hm)
   have fin : (rows ++ [l.set f (l.getD f 0 - tot - r1 * r2)]).length = k + 1 ∧ (∀ r ∈ rows ++ [l.set f (l.getD f 0 - tot - r1 * r2)], r.length = many ∧ (∀ v ∈ r, v.natAbs ≤ 2 ^ 100) ∧ au many (fun i => r.getD i 0 * W.getD i 0) ≤ 0) ∧ d8 F h4 n (C + 15 * ((k + 1 : Nat) : Int)) := by
    refine ⟨by rw [ak3, hl]; rfl, fun r hr => ?_, S4.up (by omega)⟩
    rcases List.mem_append.mp hr with hr | hr
    · exact hrow r hr
    · rw [List.mem_singleton.mp hr]
      have b25 : 10 ^ 25 ≤ 2 ^ 100 := by decide
      have b26 : 10 ^ 25 + 8 * (3 * 10 ^ 25) + 2 ≤ 2 ^ 100 := by decide
      have lfb := lb2 f hf
      refine ⟨by rw [ak8, ll], fun v hv => ?_, ?_⟩
      · rcases List.mem_or_eq_of_mem_set hv with hv | hv
        · exact Nat.le_trans (lb v hv) b25
        · rw [hv]
          omega
      · have e : au many (fun i => (l.set f (l.getD f 0 - tot - r1 * r2)).getD i 0 * W.getD i 0) = au many (upd (fun i => W.getD i 0 * l.getD i 0) f (l.getD f 0 - tot - r1 * r2)) := bD fun i hi => by
         rw [VN _ (by omega)]
         unfold upd
         by_cases c : i = f
         · rw [if_pos c, if_pos c, c, w.one, Int.mul_one]
         · rw [if_neg c, if_neg c, Int.mul_comm]
        rw [e, Cu _ _ hf, ← htot]
        show tot - W.getD f 0 * l.getD f 0 + _ ≤ 0
        rw [w.one, Int.one_mul]
        omega
   obtain ⟨f1, f2, f3⟩ := fin
   rw [hb]
   generalize rows.map bV = RL at *
   generalize W.map D.int = WL at *
   generalize (l.set f (l.getD f 0 - tot - r1 * r2)).map D.int = NI at *
   generalize l.map D.int = LI at *
   generalize (aV many fun i => D.int (W.getD i 0 * l.getD i 0)) = SX at *
   generalize hRG : fV 0 many = RG at *
   simp only [↓bf, akP, akQ, aC, ↓Cz, ↓cR, ↓dB, ↓qd, ↓oX, ↓aQ, akT, akR, Aa, aA, aW, Int.toNat_natCast, bH, rs, ↓reduceIte, hRG, aK, dU, rl, bj, bB, e2, ↓cJ, cA, ↓cD, lc, sm, ↓yz, ↓bK, ↓eY, Xg, ju, lf, mK, yS, ↓fU, ↓gG, ↓cG, akU, dW, ↓cP, ↓bQ, akV, Nat.zero_add, Nat.reduceAdd, dX, akZ, e3, e4, lO, m1, ↓rG, sF, ↓rE, ↓yw, uI, rH, dF, m7, v7, ln, d9, true_and]
   exact ⟨_, _, _, _, by rw [← e5], f1, f2, f3⟩
 · rintro fr h' ⟨rows, x7, x8, x9, rfl, hl, hrow, S'⟩
   exact ⟨rfl, rows, x7, x8, x9, rfl, hl, hrow, S'.up (by omega)⟩
theorem Nh {many : Nat} {mo : Int} (S : d8 F h n C) (hC : C ≤ 40000) (hm : many ≤ 8) (hs : strict.length = many) (one : ∃ i, i < many ∧ strict.getD i false = true) (hM : 0 ≤ mo) (hM2 : mo ≤ 10 ^ 25) :
 ∃ (rows : List (List Int)) (y : Nat → Int) (h' : Hh), iy [.ref n, .int (many : Int), .int mo, .tup (strict.map .bl)] h = .ok (.nl (rows.map bV)) [] h' ∧ d8 F h' n (C + 300) ∧ Rows many rows ∧ vp many rows.length (tH rows) (QG strict) y := by
 obtain ⟨SL, hSL⟩ : ∃ x, x = strict.map D.bl := ⟨_, rfl⟩
 rw [← hSL]
 obtain ⟨ds, h1, e1, l1, p1, S1⟩ := M3 (F := F) (n := n) (vs := [10]) (g := jR) (t := jT) (e := jU) (fr := [some (.ref n), some (.int (many : Int)), some (.int mo), some (.tup SL), none, none, none, none, none, none, none]) (Fd := fun (i : Nat) => D.int (0 + (i : Int))) (P := fun d => ∃ v : Int, d = .int v ∧ 0 ≤ v ∧ v ≤ 3) (fun h C S hC a => by
  obtain ⟨r, h', e, S', r0, r1⟩ := vH (m := 4) S (by omega) (by decide) (by decide)
  refine ⟨.int r, h', ?_, S', r, rfl, r0, by omega⟩
  apply Wp.eq
  simp only [↓dN, ↓El, ↓bf, akP, akQ, aC, ↓En, ↓cX, dF, ↓Eo, ↓fU, ↓gG, ↓cG, ↓aQ, akR, akU, aA, dW, bH, ↓cP, ↓bQ, akV, Nat.zero_add, Nat.reduceAdd, dX, akZ, e, ↓cJ, bj, bB, lO, and_self]) (akS many) h C S (by rw [ak1]; omega)
 rw [← qN] at e1
 rw [ak1] at l1 S1
 obtain ⟨w0, rfl, hw0⟩ := SN p1
 rw [akW] at l1
 obtain ⟨i0, hi0, hi1⟩ := one
 have hmem : i0 ∈ (akS many).filter fun i => strict.getD i false := List.mem_filter.mpr ⟨List.mem_range.mpr hi0, hi1⟩
 obtain ⟨f, rest, hfr⟩ : ∃ f rest, ((akS many).filter fun i => strict.getD i false) = f :: rest := by
  cases e : (akS many).filter fun i => strict.getD i false with
  | nil => rw [e] at hmem; exact absurd hmem alo
  | cons f rest => exact ⟨f, rest, rfl⟩
 have hfm : f ∈ (akS many).filter fun i => strict.getD i false := by rw [hfr]; exact ak4
 obtain ⟨hf1, hf2⟩ := List.mem_filter.mp hfm
 have hf1 := List.mem_range.mp hf1
 have xS : ∀ k, k < many → SL[k]? = some (.bl (strict.getD k false)) := fun k hk => by
  rw [hSL, ak5, ak0, akX (by omega)]
  rfl
 have lc2 := uN (vs := [10]) (g := jV) (t := jW) (e := jX) (F := fun (i : Nat) => D.int (0 + (i : Int))) (G := fun (i : Nat) => D.int (0 + (i : Int))) (p := fun i => strict.getD i false)
  (fr := [some (.ref n), some (.int (many : Int)), some (.int mo), some (.tup SL), some (.nl (w0.map .int)), none, none, none, none, none, none]) (h := h1) (xs := akS many) fun i hi => by
   have hi := List.mem_range.mp hi
   have q := xS i hi
   generalize w0.map D.int = WL at *
   cases c : strict.getD i false with
   | true =>
     rw [c] at q
     simp only [↓dN, ↓vg, ↓bf, Int.zero_add, akP, akQ, aC, ↓vh, ↓cD, ↓eY, akT, akR, aA, ↓aQ, aW, bH, lQ, ju, q, aK, qG, dF, ↓Ep, bj, bB, ↓reduceIte, and_self]
   | false =>
     rw [c] at q
     simp only [↓dN, ↓vg, ↓bf, Int.zero_add, akP, akQ, aC, ↓vh, ↓cD, ↓eY, akT, akR, aA, ↓aQ, aW, bH, lQ, ju, q, aK, qG, bj, bB, Bool.false_eq_true, ↓reduceIte, and_self]
 rw [← qN, hfr, akY] at lc2
 have sF := SQ (l := w0) (i := f) 1 (by omega)
 have wts : Wts many f (w0.set f 1) := by
  refine ⟨by rw [ak8, l1], hf1, ?_, fun v hv => ?_⟩
  · rw [VN _ (by omega), if_pos rfl]
  · rcases List.mem_or_eq_of_mem_set hv with hv | hv
    · exact hw0 v hv
    · rw [hv]
      decide
 obtain ⟨r, h2, e2, S2, r0, r1⟩ := vH (m := 12) S1 (by omega) (by decide) (by decide)
 obtain ⟨rr, hrr⟩ : ∃ rr : Nat, (rr : Int) = r := ⟨r.toNat, by omega⟩
 rw [← hrr] at e2
 obtain ⟨B, hB⟩ : ∃ B, B = jC := ⟨_, rfl⟩
 have k4 : qU = (aD (gq (dO (bG (bW 2 0 bR (bh []) (ak [(aa 0), (mC (.int 12))]) (ak [])))) (aR 7) B) (cO (uh 6))) := by rw [hB]; rfl
 have lp := adw (r := rr) (SL := SL) (mo := mo) hB wts S2 (by omega) hm hM hM2 (by omega)
 have rs := xQ (n := many) (by omega)
 have rl := Bg (n := many) (by omega)
 have rs2 := xQ (n := rr) (by omega)
 have w : Wp (iy [.ref n, .int (many : Int), .int mo, .tup SL] h) (fun d fr h' => fr = [] ∧ ∃ rows : List (List Int), d = .nl (rows.map bV) ∧ rows.length = rr ∧ (∀ r ∈ rows, r.length = many ∧ (∀ v ∈ r, v.natAbs ≤ 2 ^ 100) ∧ au many (fun i => r.getD i 0 * (w0.set f 1).getD i 0) ≤ 0) ∧ d8 F h' n (C + (many : Int) + 1 + 200)) dD := by
  generalize (w0.set f 1).map D.int = W1 at *
  generalize w0.map D.int = WL at *
  generalize hRG : fV 0 many = RG at *
  generalize hRR : fV 0 rr = R2 at *
  generalize rest.map (fun (i : Nat) => D.int (0 + (i : Int))) = RST at *
  have gz : ∀ xs : List D, (D.int (0 + (f : Int)) :: xs)[0]? = some (.int (f : Int)) := fun xs => by rw [Int.zero_add]; rfl
  simp only [↓Jd, ↓gH, startF, akY, ak2, akU, akV, Nat.zero_add, Nat.reduceAdd, Nat.reduceSub, ale, ala, alf, alh, aC, ↓JH, ↓cR, ↓dB, ↓qd, ↓oX, ↓aQ, akT, akR, akP, akQ, Aa, aA, aW, Int.toNat_natCast, bH, rs, ↓reduceIte, hRG, aK, dU, rl, bj, bB, e1, ↓cJ, cA, ↓Fe, ↓bK, ↓fU, lc2, Int.zero_add, ↓cP, m7, Vh, aeP, ↓Fb, ↓yz, ↓rG, sF, ↓EY, ↓qD, ↓bQ, Nat.reduceLeDiff, k4, ↓rF, ↓gG, ↓cG, dW, dX, akZ, e2, lO, rs2, hRR, true_and]
  refine lp.mono ?_
  rintro f' fr h3 ⟨rfl, rows, x7, x8, x9, rfl, q1, q2, S3⟩
  obtain ⟨RD, hRD⟩ : ∃ x, x = rows.map bV := ⟨_, rfl⟩
  rw [← hRD]
  simp only [cA, ↓lD, ↓Q7, akT, akR, akP, akQ, aA, aC, lN, true_and]
  exact ⟨rows, by rw [hRD], q1, q2, S3⟩
 obtain ⟨d, fr, h3, e, rfl, rows, rfl, q1, q2, S3⟩ := w.out
 refine ⟨rows, fun i => (w0.set f 1).getD i 0, h3, e, S3.up (by omega), ⟨by omega, fun r hr => (q2 r hr).1, fun r hr => (q2 r hr).2.1⟩, ⟨fun i hi => (wts.nn _ (getD_mem 0 (by rw [wts.len]; exact hi))).1, ⟨f, hf1, ?_, ?_⟩, fun k hk => (q2 _ (getD_mem [] hk)).2.2⟩⟩
 · unfold QG
   rw [hf2]
   rfl
 · show 0 < (w0.set f 1).getD f 0
   rw [wts.one]
   decide
end
end L
namespace L
open PySem PySem.Spec L2 Pk
section
variable {F : Mem} {n : Nat} {h : Hh} {C : Int} {strict : List Bool}
theorem Xw {rows : List (List Int)} {last : List Int} {k i : Nat} : tH (rows ++ [last]) k i = if k < rows.length then tH rows k i else if k = rows.length then last.getD i 0 else 0 := by
 unfold tH
 rw [ak0 (l := rows ++ [last])]
 by_cases c : k < rows.length
 · rw [if_pos c, alk c, ak0 (l := rows)]
 · rw [if_neg c, ali (by omega)]
   by_cases c2 : k = rows.length
   · rw [if_pos c2, c2, Nat.sub_self]
     rfl
   · rw [if_neg c2, alq (by rw [alg]; omega)]
     rfl
theorem Nk {many : Nat} {mo : Int} (S : d8 F h n C) (hC : C ≤ 40000) (hm1 : 1 ≤ many) (hm : many ≤ 8) (hs : strict.length = many) (hM : 0 ≤ mo) (hM2 : mo ≤ 10 ^ 25) :
 ∃ (rows : List (List Int)) (x : Nat → Int) (h' : Hh), iw [.ref n, .int (many : Int), .int mo, .tup (strict.map .bl)] h = .ok (.nl (rows.map bV)) [] h' ∧ d8 F h' n (C + 300) ∧ Rows many rows ∧ FA many rows.length (tH rows) (QG strict) x := by
 obtain ⟨r, h1, e1, S1, r0, r1⟩ := vH (m := 7) S (by omega) (by decide) (by decide)
 obtain ⟨rr, hrr⟩ : ∃ rr : Nat, (rr : Int) = r := ⟨r.toNat, by omega⟩
 rw [← hrr] at e1
 obtain ⟨B4, hB4⟩ : ∃ B, B = jP := ⟨_, rfl⟩
 obtain ⟨B8, hB8⟩ : ∃ B, B = jQ := ⟨_, rfl⟩
 obtain ⟨K2, hK2⟩ : ∃ K, K = m9 := ⟨_, rfl⟩
 have k1 : qT = (aD (gq (dO (bG (bW 2 0 bR (bh []) (ak [(aa 0), (mC (.int 7))]) (ak [])))) (aR 5) B4) K2) := by rw [hB4, hK2]; rfl
 have k3 : qR = (aD (gq (dO (aa 1)) (aR 7) B8) (cO (aq du (aa 4) (bG (eU [(aa 6)]))))) := by rw [hB8]; rfl
 have lp1 := abR (r := rr) (SL := strict.map .bl) hB4 S1 (by omega) hm hM hM2 (by omega)
 have rs := xQ (n := many) (by omega)
 have rs2 := xQ (n := rr) (by omega)
 have w : Wp (iw [.ref n, .int (many : Int), .int mo, .tup (strict.map .bl)] h) (fun d fr h' => fr = [] ∧ ∃ (rows : List (List Int)) (last : List Int) (need : Nat → Int), d = .nl ((rows ++ [last]).map bV) ∧ rows.length ≤ 6 ∧ (∀ r ∈ rows, r.length = many ∧ ∀ v ∈ r, v.natAbs ≤ 10 ^ 25) ∧ Last strict rows many need last ∧ d8 F h' n (C + 1 + 60 + 16)) dD := by
  have lp2 := fun (rows : List (List Int)) (h : Hh) (S : d8 F h n (C + 1 + 60)) (hr : rows.length ≤ 6) (hrow : ∀ r ∈ rows, r.length = many ∧ ∀ v ∈ r, v.natAbs ≤ 10 ^ 25) (x5 : Option D) => adu (mo := mo) hB8 S (by omega) hm1 hm hs hr hrow (x5 := x5)
  generalize hRR : fV 0 rr = R2 at *
  generalize hRG : fV 0 many = RG at *
  generalize strict.map D.bl = SL at *
  simp only [↓Jc, ↓gH, startF, akY, ak2, akU, akV, Nat.zero_add, Nat.reduceAdd, Nat.reduceSub, ale, ala, alf, alh, aC, ↓JG, ↓cR, ↓dB, ↓qD, ↓bQ, dU, Nat.reduceLeDiff, akP, akQ, cA, k1, ↓rF, ↓oX, ↓fU, ↓gG, ↓cG, ↓aQ, akR, Aa, aA, dW, bH, ↓cP, dX, akZ, e1, ↓cJ, lO, rs2, ↓reduceIte, Int.toNat_natCast, hRR, aK, true_and]
  refine lp1.mono ?_
  rintro f fr h2 ⟨rfl, rows, x5, rfl, q1, q2, S2⟩
  have q3 : rows.length ≤ 6 := by omega
  have lp2 := lp2 rows h2 S2 q3 q2
  have b10 : 10 ≤ big := by decide
  have lr : (rows.map bV).length = rows.length := akW ..
  have ap : ∀ (hh : Hh) (last : List Int), du hh (.fl (rows.map bV)) (.fl [.fl (last.map .int)]) = some (.nl ((rows ++ [last]).map bV)) := fun hh last => by
   rw [v5, lr, alg, if_pos (show rows.length + 1 ≤ big by omega), alj]
   rfl
  generalize rows.map bV = RL at *
  rw [hK2]
  simp only [cA, ↓Ek, ↓cR, ↓dB, ↓qD, ↓bQ, akV, dU, Nat.reduceLeDiff, akP, akQ, aC, k3, ↓rF, ↓oX, ↓aQ, akT, akR, Aa, aA, aW, Int.toNat_natCast, bH, rs, ↓reduceIte, hRG, aK, true_and]
  refine (lp2 _).mono ?_
  rintro f fr h3 ⟨rfl, last, need, x7, x8, rfl, La, S3⟩
  have ap := ap h3 last
  generalize hLI : last.map D.int = LI at *
  generalize hRD : (rows ++ [last]).map bV = RD at *
  simp only [cA, ↓lD, ↓bK, ↓aQ, akT, akR, akP, akQ, aA, qF, bH, ↓fU, ↓qD, ↓cG, akU, rH, dF, m7, aC, ↓bQ, akV, Nat.zero_add, dU, Nat.reduceLeDiff, ap, aK, lN, true_and]
  exact ⟨rows, last, need, by rw [hRD], q3, q2, La, S3⟩
 obtain ⟨d, fr, h', e, rfl, rows, last, need, rfl, q1, q2, La, S'⟩ := w.out
 have lb : ∀ v ∈ last, v.natAbs ≤ 2 ^ 100 := fun v hv => by
  obtain ⟨i, hi, rfl⟩ := List.getElem_of_mem hv
  have e : last.getD i 0 = last[i] := by rw [ak0, akX hi]; rfl
  have im : i < many := by have := La.len; omega
  have e2 := La.eq i im
  have n0 := La.nn i im
  have n1 := La.sm i im
  have sb := Jj (n := rows.length) (f := fun j => tH rows j i * (1 + (j : Int))) (b := 10 ^ 25 * 7) fun j hj => by
   obtain ⟨w1, w2⟩ := q2 _ (getD_mem [] hj)
   rw [Int.natAbs_mul]
   refine Nat.mul_le_mul (w2 _ (getD_mem 0 (by omega))) (by omega)
  have sb2 : rows.length * (10 ^ 25 * 7) ≤ 6 * (10 ^ 25 * 7) := Nat.mul_le_mul_right _ q1
  have b : 5 + 6 * (10 ^ 25 * 7) ≤ 2 ^ 100 := by decide
  rw [← e]
  omega
 have b25 : 10 ^ 25 ≤ 2 ^ 100 := by decide
 refine ⟨rows ++ [last], fun k => if k = rows.length then 1 else 1 + (k : Int), h', e, S'.up (by omega), ⟨by rw [ak3, alg]; omega, fun r hr => ?_, fun r hr v hv => ?_⟩, ?_⟩
 · rcases List.mem_append.mp hr with hr | hr
   · exact (q2 r hr).1
   · rw [List.mem_singleton.mp hr]
     exact La.len
 · rcases List.mem_append.mp hr with hr | hr
   · exact Nat.le_trans ((q2 r hr).2 v hv) b25
   · rw [List.mem_singleton.mp hr] at hv
     exact lb v hv
 · rw [ak3, alg]
   refine FA.planted (need := need) (fun i hi => ?_) La.nn La.st
   rw [Xw, if_neg (Nat.lt_irrefl _), if_pos rfl, La.eq i hi, bD (f := fun k => tH (rows ++ [last]) k i * (1 + (k : Int))) (g := fun k => tH rows k i * (1 + (k : Int))) fun k hk => by rw [Xw, if_pos hk]]
end
def kh (rows : List (List Int)) : List (List Int) := (akS rows.length).map fun k => (rows.getD k []).map fun v => (1 + (k : Int)) * v
def uK (cut : Nat) (l : List (List Int)) : List (List Int) := l.drop cut ++ l.take cut
def Gi (l : List (List Int)) : List (List Int) := l.map List.reverse
section
variable {rows : List (List Int)} {p cut k i : Nat}
theorem vU : (kh rows).length = rows.length := by
 unfold kh
 rw [akW, ak1]
theorem aaf (f : Int → Int) (h0 : f 0 = 0) (l : List Int) (i : Nat) : (l.map f).getD i 0 = f (l.getD i 0) := by
 rw [ak0, ak0, ak5]
 cases l[i]? with
 | none => exact h0.symm
 | some v => rfl
theorem Xx (hk : k < rows.length) : tH (kh rows) k i = (1 + (k : Int)) * tH rows k i := by
 unfold tH
 have e : (kh rows).getD k [] = (rows.getD k []).map fun v => (1 + (k : Int)) * v := by
  unfold kh
  rw [ak0, ak5, List.getElem?_range hk]
  rfl
 rw [e, aaf _ (Int.mul_zero _)]
theorem Jm : (uK cut rows).length = rows.length := by
 unfold uK
 rw [ak3, List.length_drop, List.length_take]
 omega
theorem Xy (hc : cut ≤ rows.length) (hk : k < rows.length) : tH (uK cut rows) k i = tH rows (rot rows.length cut k) i := by
 unfold tH uK rot
 rw [ak0 (l := _ ++ _), ak0 (l := rows)]
 by_cases c : k < rows.length - cut
 · rw [if_pos c, alk (by rw [List.length_drop]; exact c), List.getElem?_drop]
 · rw [if_neg c, ali (by rw [List.length_drop]; omega), List.length_drop, List.getElem?_take_of_lt (by omega)]
theorem abS {l : List Int} (hl : l.length = p) (hi : i < p) : l.reverse.getD i 0 = l.getD (p - 1 - i) 0 := by
 rw [ak0, ak0, List.getElem?_reverse (by omega), hl]
theorem Xz (hk : k < rows.length) (hl : ∀ r ∈ rows, r.length = p) (hi : i < p) : tH (Gi rows) k i = tH rows k (p - 1 - i) := by
 unfold tH Gi
 have e : (rows.map List.reverse).getD k [] = (rows.getD k []).reverse := by
  rw [ak0, ak0, ak5, akX hk]
  rfl
 rw [e, abS (hl _ (getD_mem [] hk)) hi]
theorem aag {strict : List Bool} (hs : strict.length = p) (hi : i < p) : QG strict.reverse i = QG strict (p - 1 - i) := by
 unfold QG
 rw [ak0, ak0, List.getElem?_reverse (by omega), hs]
structure Jo (p : Nat) (cols : List (List Int)) : Prop where
 le : cols.length ≤ 20
 wd : ∀ c ∈ cols, c.length = p
 bd : ∀ c ∈ cols, ∀ v ∈ c, v.natAbs ≤ 2 ^ 200
theorem Rows.cols (R : Rows p rows) : Jo p rows := by
 have b : 2 ^ 100 ≤ 2 ^ 200 := by decide
 have := R.le
 exact ⟨by omega, R.wd, fun c hc v hv => Nat.le_trans (R.bd c hc v hv) b⟩
theorem Rows.mul (R : Rows p rows) : Jo p (kh rows) := by
 have := R.le
 refine ⟨by rw [vU]; omega, fun c hc => ?_, fun c hc v hv => ?_⟩
 · obtain ⟨k, hk, rfl⟩ := List.mem_map.mp hc
   rw [akW]
   exact R.wd _ (getD_mem [] (List.mem_range.mp hk))
 · obtain ⟨k, hk, rfl⟩ := List.mem_map.mp hc
   obtain ⟨u, hu, rfl⟩ := List.mem_map.mp hv
   have hk := List.mem_range.mp hk
   have b := R.bd _ (getD_mem [] hk) u hu
   rw [Int.natAbs_mul]
   have e : 20 * 2 ^ 100 ≤ 2 ^ 200 := by decide
   exact Nat.le_trans (Nat.mul_le_mul (show (1 + (k : Int)).natAbs ≤ 20 by omega) b) e
theorem Jo.rot (R : Jo p rows) : Jo p (uK cut rows) := by
 have m : ∀ c ∈ uK cut rows, c ∈ rows := fun c hc => by
  rcases List.mem_append.mp hc with hc | hc
  · exact List.mem_of_mem_drop hc
  · exact List.mem_of_mem_take hc
 exact ⟨by rw [Jm]; exact R.le, fun c hc => R.wd c (m c hc), fun c hc => R.bd c (m c hc)⟩
theorem Jo.rev (R : Jo p rows) : Jo p (Gi rows) := by
 refine ⟨by unfold Gi; rw [akW]; exact R.le, fun c hc => ?_, fun c hc v hv => ?_⟩
 · obtain ⟨u, hu, rfl⟩ := List.mem_map.mp hc
   rw [List.length_reverse]
   exact R.wd u hu
 · obtain ⟨u, hu, rfl⟩ := List.mem_map.mp hc
   exact R.bd u hu v (List.mem_reverse.mp hv)
def Kd (kd : Str) (cols : List (List Int)) (strict : List Bool) : Prop := (kd = "amounts" ∧ ∃ x, FA strict.length cols.length (tH cols) (QG strict) x) ∨ (kd = "weights" ∧ ∃ y, vp strict.length cols.length (tH cols) (QG strict) y)
theorem Kd.mul {kd : Str} {strict : List Bool} (K : Kd kd rows strict) : Kd kd (kh rows) strict := by
 rcases K with ⟨e, x, A⟩ | ⟨e, y, W⟩
 · refine .inl ⟨e, _, by rw [vU]; exact (A.scale (m := fun k => 1 + (k : Int)) fun k _ => by omega).congr (fun k i hk _ => Xx hk) fun _ _ => rfl⟩
 · refine .inr ⟨e, y, by rw [vU]; exact (W.scale (m := fun k => 1 + (k : Int)) fun k _ => by omega).congr (fun k i hk _ => Xx hk) fun _ _ => rfl⟩
theorem Kd.rot {kd : Str} {strict : List Bool} (K : Kd kd rows strict) (hc : cut ≤ rows.length) : Kd kd (uK cut rows) strict := by
 rcases K with ⟨e, x, A⟩ | ⟨e, y, W⟩
 · exact .inl ⟨e, _, by rw [Jm]; exact (A.rot hc).congr (fun k i hk _ => Xy hc hk) fun _ _ => rfl⟩
 · exact .inr ⟨e, y, by rw [Jm]; exact (W.rot hc).congr (fun k i hk _ => Xy hc hk) fun _ _ => rfl⟩
theorem Kd.rev {kd : Str} {strict : List Bool} (K : Kd kd rows strict) (hl : ∀ r ∈ rows, r.length = strict.length) : Kd kd (Gi rows) strict.reverse := by
 have e0 : (Gi rows).length = rows.length := akW ..
 rcases K with ⟨e, x, A⟩ | ⟨e, y, W⟩
 · refine .inl ⟨e, x, ?_⟩
   rw [e0, List.length_reverse]
   exact A.rev.congr (fun k i hk hi => Xz hk hl hi) fun i hi => aag rfl hi
 · refine .inr ⟨e, fun i => y (strict.length - 1 - i), ?_⟩
   rw [e0, List.length_reverse]
   exact W.rev.congr (fun k i hk hi => Xz hk hl hi) fun i hi => aag rfl hi
theorem Kd.ans {kd : Str} {strict : List Bool} {d : D} (K : Kd kd rows strict) (A : Ans rows strict d) : ∃ l, d = .tup [.str kd, .tup l] := by
 rcases K with ⟨rfl, x, K⟩ | ⟨rfl, y, K⟩
 · rcases A with ⟨y, rfl, W, _⟩ | ⟨x, rfl, _⟩
   · exact (K.no W).elim
   · exact ⟨_, rfl⟩
 · rcases A with ⟨y, rfl, _⟩ | ⟨x, rfl, A, _⟩
   · exact ⟨_, rfl⟩
   · exact (A.fa.no K).elim
end
end L
namespace L
open PySem PySem.Spec L2 Pk
theorem afS {kd : Str} {cols : List (List Int)} {strict : List Bool} (K : Kd kd cols strict) : Il kd = true := by
 rcases K with ⟨rfl, _⟩ | ⟨rfl, _⟩ <;> decide +kernel
section
variable {F : Mem} {n : Nat} {h : Hh} {C : Int}
theorem Gj {b : M Fl} (hb : b = zF) {cols : List (List Int)} {strict : List Bool} {kd : Str} (S : d8 F h n C) (hp : 1 ≤ strict.length) (hp2 : strict.length ≤ 8) (one : ∃ i, i < strict.length ∧ strict.getD i false = true) (cs : Jo strict.length cols) (K : Kd kd cols strict)
 {x0 x1 x2 x3 x4 x5 x7 x8 x9 x10 x11 x14 x15 x16 x17 : Option D} :
 Wp (b [x0, x1, x2, x3, x4, x5, some (.str kd), x7, x8, x9, x10, x11, some (.fl (cols.map bA)), some (.tup (strict.map .bl)), x14, x15, x16, x17] h)
  (fun f fr h' => f = .nx ∧ ∃ x14 : Option D, fr = [x0, x1, x2, x3, x4, x5, some (.str kd), x7, x8, x9, x10, x11, some (.fl (cols.map bA)), some (.tup (strict.map .bl)), x14, x15, x16, x17] ∧ d8 F h' n C) dD := by
 obtain ⟨a, b', c, H, s1, s2, s3, s4⟩ := S
 obtain ⟨h2, d, e1, H2, an⟩ := YF (strict := strict) (cols := cols) H hp hp2 cs.le cs.wd cs.bd one
 have S2 : d8 F h2 n C := ⟨a, b', c, H2, s1, s2, s3, s4⟩
 have e2 := abQ (h := h2) hp2 cs.le cs.wd cs.bd an
 obtain ⟨l, rfl⟩ := K.ans an
 have sk := afS K
 have ck : fX h2 (.str kd) (.str kd) = some true := by
  rw [G3 sk sk]
  exact congrArg some (decide_eq_true rfl)
 clear an K
 generalize cols.map bA = CL at *
 generalize strict.map D.bl = SL at *
 rw [hb]
 simp only [↓ZX, ↓cR, ↓dB, ↓gG, ↓cG, ↓fU, ↓cD, ↓cY, akT, akR, akU, aA, aa7, uH, Option.map_some, aK, ↓aQ, akP, akQ, vZ, bH, ↓bQ, akV, Nat.zero_add, Nat.reduceAdd, m7, dX, akZ, e1, ↓cJ, aC, cA, ↓gh, ↓ux, ↓KH, qF, e2, qG, Bool.not_true, ↓bK, ↓eY, ↓cP, lQ, aeP, Vi, ck, ↓cX, true_and]
 exact ⟨_, rfl, S2⟩
theorem adx (r : List Int) : Ag h (bV r) = some (bA r) := abf
theorem ady (c : List Int) : De h (bA c) = some (bA c.reverse) := by
 show some (D.tp (c.map .int).reverse) = some (D.tp (c.reverse.map .int))
 rw [List.map_reverse]
theorem Lp {k2 : M Fl} (hk2 : k2 = u9) {rows : List (List Int)} {strict : List Bool} {kd : Str} (S : d8 F h n C) (hC : C ≤ 90000) (hp : 1 ≤ strict.length) (hp2 : strict.length ≤ 8) (one : ∃ i, i < strict.length ∧ strict.getD i false = true) (R : Rows strict.length rows) (K : Kd kd rows strict)
 {x0 x1 x3 x4 x8 x9 x10 x11 x12 x13 x14 x15 x16 x17 : Option D} :
 Wp (k2 [x0, x1, some (.ref n), x3, x4, some (.tup (strict.map .bl)), some (.str kd), some (.nl (rows.map bV)), x8, x9, x10, x11, x12, x13, x14, x15, x16, x17] h)
  (fun f fr h' => f = .nx ∧ ∃ x7 x8 x9 x10 x11 x12 x13 x14 x15 x16 x17 : Option D, fr = [x0, x1, some (.ref n), x3, x4, some (.tup (strict.map .bl)), some (.str kd), x7, x8, x9, x10, x11, x12, x13, x14, x15, x16, x17] ∧ d8 F h' n (C + 1)) dD := by
 have b50 : 100 ≤ big := by decide
 have hle := R.le
 have ee : eG 0 (rows.map bV) = (akS rows.length).map fun (k : Nat) => D.tup [.int (k : Int), bV (rows.getD k [])] := by
  rw [yO bV [] rows]
  exact uP _ _
 have turn : ∀ (x8 x9 x17 : Option D), ∀ k ∈ akS rows.length, Wp (fL [15, 16] yG yH yI (D.tup [.int (k : Int), bV (rows.getD k [])]) [x0, x1, some (.ref n), x3, x4, some (.tup (strict.map .bl)), some (.str kd), some (.fl (rows.map bV)), x8, x9, x10, x11, x12, x13, x14, none, none, x17] h) (fun o fr1 h1 => o = some (bA ((rows.getD k []).map fun v => (1 + (k : Int)) * v)) ∧ fr1 = [x0, x1, some (.ref n), x3, x4, some (.tup (strict.map .bl)), some (.str kd), some (.fl (rows.map bV)), x8, x9, x10, x11, x12, x13, x14, none, none, none] ∧ h1 = h) dD := fun x8 x9 x17 k hk => by
  have hk := List.mem_range.mp hk
  have rb := R.bd _ (getD_mem [] hk)
  have rl : ((rows.getD k []).map D.int).length ≤ 100000 := by
   rw [akW, R.wd _ (getD_mem [] hk)]
   omega
  have lc : iT [17] BJ BK BP ((rows.getD k []).map .int) [x0, x1, some (.ref n), x3, x4, some (.tup (strict.map .bl)), some (.str kd), some (.fl (rows.map bV)), x8, x9, x10, x11, x12, x13, x14, some (.int (k : Int)), some (bV (rows.getD k [])), none] h = .ok ((rows.getD k []).map fun v => .int ((1 + (k : Int)) * v)) [x0, x1, some (.ref n), x3, x4, some (.tup (strict.map .bl)), some (.str kd), some (.fl (rows.map bV)), x8, x9, x10, x11, x12, x13, x14, some (.int (k : Int)), some (bV (rows.getD k [])), none] h := pK fun v hv => by
   have m1 : uz (1 + (k : Int)) v = true := by
    have l1 : (1 + (k : Int)).natAbs.log2 < 200 := log2_lt (Nat.lt_of_le_of_lt (show (1 + (k : Int)).natAbs ≤ 20 by omega) (by decide)) (by decide)
    have l2 : v.natAbs.log2 < 200 := log2_lt (Nat.lt_of_le_of_lt (rb v hv) (by decide)) (by decide)
    exact decide_eq_true (by omega)
   generalize bV (rows.getD k []) = RK at *
   generalize rows.map bV = RL at *
   generalize strict.map D.bl = SL at *
   simp only [↓dN, ↓abp, ↓bf, akP, akQ, aC, ↓abq, ↓cX, dF, ↓abr, ↓bK, ↓fU, ↓cP, ↓aQ, akT, akR, aA, aW, bH, pO, aK, lO, mK, m1, bj, bB, and_self]
  have tp : Ag h (.nl ((rows.getD k []).map fun v => .int ((1 + (k : Int)) * v))) = some (bA ((rows.getD k []).map fun v => (1 + (k : Int)) * v)) := by
   show some (D.tp _) = some (D.tp _)
   rw [alc]
   rfl
  have rd : bV (rows.getD k []) = .fl ((rows.getD k []).map .int) := rfl
  rw [rd] at lc ⊢
  generalize rows.map bV = RL at *
  generalize strict.map D.bl = SL at *
  generalize ((rows.getD k []).map fun v => D.int ((1 + (k : Int)) * v)) = MV at *
  generalize (rows.getD k []).map D.int = RI at *
  generalize bA ((rows.getD k []).map fun v => (1 + (k : Int)) * v) = CK at *
  simp only [↓dN, ↓abt, ↓cW, akU, akV, Nat.zero_add, Nat.reduceAdd, ↓cH, ↓bf, akP, akQ, aC, ↓cV, ↓abu, ↓cX, dF, ↓abv, ↓cD, ↓qd, ↓yR, ↓aQ, akT, akR, aA, qF, bH, uH, aK, dU, rl, bj, bB, lc, ↓cJ, tp, and_self]
 have lc1 : ∀ (x8 x9 x17 : Option D), ∃ y17 : Option D, iT [15, 16] yG yH yI (eG 0 (rows.map bV)) [x0, x1, some (.ref n), x3, x4, some (.tup (strict.map .bl)), some (.str kd), some (.fl (rows.map bV)), x8, x9, x10, x11, x12, x13, x14, none, none, x17] h = .ok ((kh rows).map bA) [x0, x1, some (.ref n), x3, x4, some (.tup (strict.map .bl)), some (.str kd), some (.fl (rows.map bV)), x8, x9, x10, x11, x12, x13, x14, none, none, y17] h := fun x8 x9 x17 => by
  rw [ee]
  have e0 : (kh rows).map bA = (akS rows.length).map fun k => bA ((rows.getD k []).map fun v => (1 + (k : Int)) * v) := by
   unfold kh
   rw [alc]
   rfl
  rw [e0]
  by_cases z : akS rows.length = []
  · rw [z]
    exact ⟨x17, MF⟩
  · exact ⟨none, aa9 z (turn x8 x9 x17) (turn x8 x9 none)⟩
 have el : (eG 0 (rows.map bV)).length ≤ 100000 := by
  rw [ee, akW, ak1]
  omega
 obtain ⟨r, h2, e2, S2, r0, r1⟩ := vH (m := (rows.length : Int) + 1) S (by omega) (by omega) (by
  have : (100 : Int) < 2 ^ 200 := by decide
  omega)
 obtain ⟨cut, hcut⟩ : ∃ cut : Nat, (cut : Int) = r := ⟨r.toNat, by omega⟩
 rw [← hcut] at e2
 have lm : ((kh rows).map bA).length = rows.length := by rw [akW, vU]
 have c1 : cutD ((kh rows).map bA) (some (cut : Int)) none = ((kh rows).drop cut).map bA := by
  rw [aeV (by omega), Int.toNat_natCast, List.map_drop]
 have c2 : cutD ((kh rows).map bA) none (some (cut : Int)) = ((kh rows).take cut).map bA := by
  rw [aeU (by omega), Int.toNat_natCast, List.map_take]
 have ap : du h2 (.fl (((kh rows).drop cut).map bA)) (.fl (((kh rows).take cut).map bA)) = some (.nl ((uK cut (kh rows)).map bA)) := by
  have e0 : (uK cut (kh rows)).map bA = ((kh rows).drop cut).map bA ++ ((kh rows).take cut).map bA := by
   unfold uK
   rw [alj]
  rw [e0, v5, akW, akW, List.length_drop, List.length_take, vU, if_pos (by omega)]
 have lc3 : ∀ (x8 x9 x15 x17 : Option D), iT [16] BR BV BW (rows.map bV) [x0, x1, some (.ref n), x3, x4, some (.tup (strict.map .bl)), some (.str kd), some (.fl (rows.map bV)), x8, x9, x10, x11, x12, x13, x14, x15, none, x17] h2 = .ok (rows.map bA) [x0, x1, some (.ref n), x3, x4, some (.tup (strict.map .bl)), some (.str kd), some (.fl (rows.map bV)), x8, x9, x10, x11, x12, x13, x14, x15, none, x17] h2 := fun x8 x9 x15 x17 => pK fun r hr => by
  have e := adx (h := h2) r
  generalize bV r = RD at *
  generalize bA r = CD at *
  generalize rows.map bV = RL at *
  generalize strict.map D.bl = SL at *
  simp only [↓dN, ↓abw, ↓bf, akP, akQ, aC, ↓abx, ↓cX, dF, ↓aby, ↓cD, ↓cY, akT, akR, aA, e, aK, bj, bB, and_self]
 have lc4 : ∀ (x7 x8 x9 x15 x17 : Option D), iT [16] BX BZ Ca ((uK cut (kh rows)).map bA) [x0, x1, some (.ref n), x3, x4, some (.tup (strict.map .bl)), some (.str kd), x7, x8, x9, x10, x11, x12, x13, x14, x15, none, x17] h2 = .ok ((Gi (uK cut (kh rows))).map bA) [x0, x1, some (.ref n), x3, x4, some (.tup (strict.map .bl)), some (.str kd), x7, x8, x9, x10, x11, x12, x13, x14, x15, none, x17] h2 := fun x7 x8 x9 x15 x17 => by
  have e0 : (Gi (uK cut (kh rows))).map bA = (uK cut (kh rows)).map fun c => bA c.reverse := by
   unfold Gi
   rw [alc]
   rfl
  rw [e0]
  refine pK fun c hc => ?_
  have e := ady (h := h2) c
  have ow : (bA c).own = false := KY
  generalize bA c = CD at *
  generalize bA c.reverse = CR at *
  generalize strict.map D.bl = SL at *
  simp only [↓dN, ↓abz, ↓bf, akP, akQ, aC, ↓abA, ↓cX, dF, ↓abB, ↓cD, ↓aQ, akT, akR, aA, ow, bH, e, aK, bj, bB, and_self]
 have l3 : (rows.map bV).length ≤ 100000 := by rw [akW]; omega
 have l4 : ((uK cut (kh rows)).map bA).length ≤ 100000 := by rw [akW, Jm, vU]; omega
 have rv : De h2 (.tup (strict.map .bl)) = some (.tup (strict.reverse.map .bl)) := by
  show some (D.tup (strict.map .bl).reverse) = some (D.tup (strict.reverse.map .bl))
  rw [List.map_reverse]
 obtain ⟨B, hB⟩ : ∃ B, B = zF := ⟨_, rfl⟩
 have hcl : cut ≤ (kh rows).length := by rw [vU]; omega
 have one' : ∃ i, i < strict.reverse.length ∧ strict.reverse.getD i false = true := by
  obtain ⟨i, hi, e⟩ := one
  refine ⟨strict.length - 1 - i, by rw [List.length_reverse]; omega, ?_⟩
  rw [ak0, List.getElem?_reverse (by omega), show strict.length - 1 - (strict.length - 1 - i) = i by omega, ← ak0]
  exact e
 have lrv : strict.reverse.length = strict.length := List.length_reverse
 have sp1 := fun (h : Hh) S (x7 x8 x9 x10 x11 x14 x15 x16 x17 : Option D) => Gj hB (F := F) (h := h) (n := n) (C := C + 1) S hp hp2 one R.cols K (x0 := x0) (x1 := x1) (x2 := some (.ref n)) (x3 := x3) (x4 := x4) (x5 := some (.tup (strict.map .bl))) (x7 := x7) (x8 := x8) (x9 := x9) (x10 := x10) (x11 := x11) (x14 := x14) (x15 := x15) (x16 := x16) (x17 := x17)
 have sp2 := fun (h : Hh) S (x7 x8 x9 x10 x11 x14 x15 x16 x17 : Option D) => Gj hB (F := F) (h := h) (n := n) (C := C + 1) S hp hp2 one (R.mul.rot (cut := cut)) (K.mul.rot hcl) (x0 := x0) (x1 := x1) (x2 := some (.ref n)) (x3 := x3) (x4 := x4) (x5 := some (.tup (strict.map .bl))) (x7 := x7) (x8 := x8) (x9 := x9) (x10 := x10) (x11 := x11) (x14 := x14) (x15 := x15) (x16 := x16) (x17 := x17)
 have sp3 := fun (h : Hh) S (x7 x8 x9 x10 x11 x14 x15 x16 x17 : Option D) => Gj hB (strict := strict.reverse) (F := F) (h := h) (n := n) (C := C + 1) S (by omega) (by omega) one' (by rw [lrv]; exact (R.mul.rot (cut := cut)).rev) ((K.mul.rot hcl).rev (R.mul.rot (cut := cut)).wd) (x0 := x0) (x1 := x1) (x2 := some (.ref n)) (x3 := x3) (x4 := x4) (x5 := some (.tup (strict.map .bl))) (x7 := x7) (x8 := x8) (x9 := x9) (x10 := x10) (x11 := x11) (x14 := x14) (x15 := x15) (x16 := x16) (x17 := x17)
 obtain ⟨y17, lc1⟩ := lc1 x8 x9 x17
 obtain ⟨K5, hK5⟩ : ∃ K5, K5 = (gq (rB (rA [(rA [(aa 10), (aa 5)]), (rA [(aa 8), (aa 5)]), (rA [(aa 11), (aJ De (aa 5))])])) (dH 2 (aU (aR 12) (aU (aR 13) dJ))) B) := ⟨_, rfl⟩
 have k5 : DG = (aD (CP [10, 11] (ak [(fM [16] (rB (aa 7)) BR BV BW), (fM [16] (rB (aa 8)) BX BZ Ca)])) K5) := by rw [hK5, hB]; rfl
 clear K R one one' ee
 generalize hEE : eG 0 (rows.map bV) = EE at *
 generalize (Gi (uK cut (kh rows))).map bA = L3 at *
 generalize (uK cut (kh rows)).map bA = L2 at *
 generalize ((kh rows).drop cut).map bA = LD at *
 generalize ((kh rows).take cut).map bA = LT at *
 generalize (kh rows).map bA = L1 at *
 generalize rows.map bA = L0 at *
 generalize rows.map bV = RL at *
 generalize strict.reverse.map D.bl = SR at *
 generalize strict.map D.bl = SL at *
 have fin : ∀ (x7 x9 x15 x16 x17 : Option D), Wp (K5 [x0, x1, some (.ref n), x3, x4, some (.tup SL), some (.str kd), x7, some (.fl L2), x9, some (.nl L0), some (.nl L3), x12, x13, x14, x15, x16, x17] h2)
  (fun f fr h' => f = .nx ∧ ∃ x7 x8 x9 x10 x11 x12 x13 x14 x15 x16 x17 : Option D, fr = [x0, x1, some (.ref n), x3, x4, some (.tup SL), some (.str kd), x7, x8, x9, x10, x11, x12, x13, x14, x15, x16, x17] ∧ d8 F h' n (C + 1)) dD := fun x7 x9 x15 x16 x17 => by
  rw [hK5]
  simp only [↓rF, ↓yR, ↓KJ, ↓cG, ↓aQ, akT, akR, akP, akQ, akU, aA, rH, dF, m7, aC, vZ, bH, ↓bQ, akV, Nat.zero_add, Nat.reduceAdd, dU, Nat.reduceLeDiff, qF, ↓cD, rv, aK, Mw, ↓Be, ↓cW, ↓cH, ↓bf, ↓cV, true_and]
  refine (sp1 h2 S2 _ _ _ _ _ _ _ _ _).mono ?_
  rintro f fr h3 ⟨rfl, x14, rfl, S3⟩
  simp only [d9, ↓Be, ↓cW, akU, akV, Nat.zero_add, Nat.reduceAdd, ↓cH, ↓bf, akP, akQ, aC, ↓cV, true_and]
  refine (sp2 h3 S3 _ _ _ _ _ _ _ _ _).mono ?_
  rintro f fr h4 ⟨rfl, x14, rfl, S4⟩
  simp only [d9, ↓Be, ↓cW, akU, akV, Nat.zero_add, Nat.reduceAdd, ↓cH, ↓bf, akP, akQ, aC, ↓cV, true_and]
  refine (sp3 h4 S4 _ _ _ _ _ _ _ _ _).mono ?_
  rintro f fr h5 ⟨rfl, x14, rfl, S5⟩
  simp only [d9, ↓Rb, true_and]
  exact ⟨_, _, _, _, _, _, _, _, _, _, _, rfl, S5⟩
 rw [hk2]
 simp only [↓Wb, ↓cR, ↓dB, ↓qd, ↓yu, ↓aQ, akT, akR, akP, akQ, aA, rH, dF, m7, aC, KQ, aK, hEE, dU, el, bj, bB, lc1, ↓cJ, cA, ↓V9, ↓gG, ↓cG, akU, dW, bH, ↓fU, ↓bK, ↓cD, ↓cY, Xf, lm, ↓cP, pO, ↓bQ, akV, Nat.zero_add, Nat.reduceAdd, lO, dX, akZ, e2, ↓V8, ↓eY, ↓ac1, ↓aeT, aW, ac8, ↓afL, ac9, c1, c2, ap, k5, ↓Q8, ↓yR, qF, uH, l3, lc3, l4, lc4, KN, Oh, Nat.reduceLeDiff, true_and]
 exact fin _ _ _ _ _
end
end L
namespace L
open PySem PySem.Spec L2 Pk
section
variable {F : Mem} {n : Nat} {h : Hh} {C : Int} {ns : List Int}
theorem aah {b : M Fl} (hb : b = zG) {strict : List Bool} {many : Nat} {mo : Int} {kd : Str} (hkd : kd = "amounts" ∨ kd = "weights") (S : d8 F h n C) (hC : C ≤ 20000) (hm1 : 1 ≤ many) (hm : many ≤ 8) (hs : strict.length = many) (one : ∃ i, i < many ∧ strict.getD i false = true) (hM : 0 ≤ mo) (hM2 : mo ≤ 10 ^ 25)
 {x0 x1 x7 x8 x9 x10 x11 x12 x13 x14 x15 x16 x17 : Option D} :
 Wp (b [x0, x1, some (.ref n), some (.int (many : Int)), some (.int mo), some (.tup (strict.map .bl)), some (.str kd), x7, x8, x9, x10, x11, x12, x13, x14, x15, x16, x17] h)
  (fun f fr h' => f = .nx ∧ ∃ x7 x8 x9 x10 x11 x12 x13 x14 x15 x16 x17 : Option D, fr = [x0, x1, some (.ref n), some (.int (many : Int)), some (.int mo), some (.tup (strict.map .bl)), some (.str kd), x7, x8, x9, x10, x11, x12, x13, x14, x15, x16, x17] ∧ d8 F h' n (C + 700)) dD := by
 obtain ⟨rows, x, h1, e1, S1, R1, A1⟩ := Nk (strict := strict) S (by omega) hm1 hm hs hM hM2
 obtain ⟨rows2, y, h2, e2, S2, R2, W2⟩ := Nh (strict := strict) S1 (by omega) hm hs one hM hM2
 subst hs
 obtain ⟨K2, hK2⟩ : ∃ K, K = u9 := ⟨_, rfl⟩
 have k1 : DK = (aD (fu (aq fX (aa 6) (mC (.str "weights")))
  (bu 7 (bW 4 0 iy (bh []) (ak [(aa 2), (aa 3), (aa 4), (aa 5)]) (ak [])))
  (M.ret .nx)) K2) := by rw [hK2]; rfl
 have s1 : Il "amounts" = true := by decide +kernel
 have s2 : Il "weights" = true := by decide +kernel
 rcases hkd with rfl | rfl
 · have ca : fX h1 (.str "amounts") (.str "weights") = some false := by
    rw [G3 s1 s2]
    exact congrArg some (decide_eq_false (by decide))
   have fin := Lp hK2 (kd := "amounts") S1 (by omega) hm1 hm one R1 (.inl ⟨rfl, x, A1⟩) (x0 := x0) (x1 := x1) (x3 := some (.int (strict.length : Int))) (x4 := some (.int mo)) (x8 := x8) (x9 := x9) (x10 := x10) (x11 := x11) (x12 := x12) (x13 := x13) (x14 := x14) (x15 := x15) (x16 := x16) (x17 := x17)
   generalize strict.map D.bl = SL at *
   generalize rows.map bV = RL at *
   rw [hb]
   simp only [↓R9, ↓cR, ↓dB, ↓gG, ↓cG, ↓aQ, akT, akR, akP, akQ, akU, aA, dW, bH, aW, vZ, ↓bQ, akV, Nat.zero_add, Nat.reduceAdd, dX, akZ, e1, ↓cJ, aC, cA, k1, ↓gh, ↓bK, Mv, ↓cP, ca, aK, ↓cX, true_and]
   refine fin.mono ?_
   rintro f fr h3 ⟨rfl, x7, x8, x9, x10, x11, x12, x13, x14, x15, x16, x17, rfl, S3⟩
   exact ⟨rfl, _, _, _, _, _, _, _, _, _, _, _, rfl, S3.up (by omega)⟩
 · have ca : fX h1 (.str "weights") (.str "weights") = some true := by rw [G3 s2 s2]; rfl
   have fin := Lp hK2 (kd := "weights") S2 (by omega) hm1 hm one R2 (.inr ⟨rfl, y, W2⟩) (x0 := x0) (x1 := x1) (x3 := some (.int (strict.length : Int))) (x4 := some (.int mo)) (x8 := x8) (x9 := x9) (x10 := x10) (x11 := x11) (x12 := x12) (x13 := x13) (x14 := x14) (x15 := x15) (x16 := x16) (x17 := x17)
   generalize strict.map D.bl = SL at *
   generalize rows.map bV = RL at *
   generalize rows2.map bV = RM at *
   rw [hb]
   simp only [↓R9, ↓cR, ↓dB, ↓gG, ↓cG, ↓aQ, akT, akR, akP, akQ, akU, aA, dW, bH, aW, vZ, ↓bQ, akV, Nat.zero_add, Nat.reduceAdd, dX, akZ, e1, ↓cJ, aC, cA, k1, ↓gh, ↓bK, Mv, ↓cP, ca, aK, dF, e2, true_and]
   refine fin.mono ?_
   rintro f fr h3 ⟨rfl, x7, x8, x9, x10, x11, x12, x13, x14, x15, x16, x17, rfl, S3⟩
   exact ⟨rfl, _, _, _, _, _, _, _, _, _, _, _, rfl, S3.up (by omega)⟩
def acd (ns : List Int) (f : Fl) (fr : Fr) : Prop := (f = .nx ∨ f = .ct) ∧ ∃ x1 ys, fr = some (.kl (ns.map .int)) :: x1 :: ys ∧ ys.length = 16
theorem afc {k : Nat} (hk : k ≤ 62) (h : Hh) (x2 x3 x4 x5 x6 x7 x8 x9 x10 x11 x12 x13 x14 x15 x16 x17 : Option D) {b23 : M Fl} (h23 : b23 = Dg) :
 Wp (b23 [some (.kl (ns.map .int)), some (.int (k : Int)), x2, x3, x4, x5, x6, x7, x8, x9, x10, x11, x12, x13, x14, x15, x16, x17] h) (fun f fr _ => acd ns f fr) dD := by
 obtain ⟨a, b, e1, b0, b1⟩ := Wf (h := h) (ns := ns) hk
 obtain ⟨n, hn⟩ : ∃ n, n = h.length := ⟨_, rfl⟩
 have S1 : d8 [] (h ++ [.nl [.int a, .int b, .int 0]]) n 0 := ⟨a, b, 0, by rw [hn]; exact (cU.nil h).app _, b0, b1, by decide, by decide⟩
 obtain ⟨h1, hh1⟩ : ∃ x, x = h ++ [D.nl [.int a, .int b, .int 0]] := ⟨_, rfl⟩
 rw [← hh1] at S1
 obtain ⟨r2, h2, e2, S2, r20, r21⟩ := vH (m := 6) S1 (by decide) (by decide) (by decide)
 obtain ⟨many, hmany⟩ : ∃ many : Nat, (many : Int) = 1 + r2 := ⟨(1 + r2).toNat, by omega⟩
 obtain ⟨d4, h4, dm, e4, S4⟩ := ofF (l := [.int 1, .int 2, .int 9, .int 1000000, .int 10000000000000000000000000]) S2 (by decide) (by decide) (by decide)
 obtain ⟨mo, hmo1, hmo2, rfl⟩ : ∃ mo : Int, 0 ≤ mo ∧ mo ≤ 10 ^ 25 ∧ d4 = .int mo := by
  simp only [List.mem_cons, alo, or_false] at dm
  rcases dm with rfl | rfl | rfl | rfl | rfl
  · exact ⟨1, by decide, by decide, rfl⟩
  · exact ⟨2, by decide, by decide, rfl⟩
  · exact ⟨9, by decide, by decide, rfl⟩
  · exact ⟨1000000, by decide, by decide, rfl⟩
  · exact ⟨10000000000000000000000000, by decide, by decide, rfl⟩
 obtain ⟨bs, h5, e5, S5, lb, one⟩ := Wj (m := many) S4 (by decide) (by omega) (by omega)
 obtain ⟨B, hB⟩ : ∃ B, B = zG := ⟨_, rfl⟩
 have k3 : DN = (aD (bu 5 (bW 2 0 qm (bh []) (ak [(aa 2), (aa 3)]) (ak [])))
  (gq (rB (rA [(mC (.str "amounts")), (mC (.str "weights"))])) (aR 6) B)) := by rw [hB]; rfl
 have sp := fun (kd : Str) hkd (C : Int) (h : Hh) S hC (x7 x8 x9 x10 x11 x12 x13 x14 x15 x16 x17 : Option D) => aah hB (F := []) (n := n) (kd := kd) (C := C) (h := h) hkd S hC (show 1 ≤ many by omega) (by omega) lb one hmo1 hmo2 (x0 := some (.kl (ns.map .int))) (x1 := some (.int (k : Int))) (x7 := x7) (x8 := x8) (x9 := x9) (x10 := x10) (x11 := x11) (x12 := x12) (x13 := x13) (x14 := x14) (x15 := x15) (x16 := x16) (x17 := x17)
 have p6 : Dm h2 (.int 10) (.int 6) = some (.int 1000000) := by kernel_rfl
 have p25 : Dm h2 (.int 10) (.int 25) = some (.int 10000000000000000000000000) := by kernel_rfl
 have hh1' := hh1.symm
 have hn' := hn.symm
 have hmany' := hmany.symm
 unfold acd
 generalize ns.map D.int = NS at *
 generalize bs.map D.bl = SL at *
 rw [h23]
 simp only [↓Z0, ↓cR, ↓dB, ↓Q9, ↓gG, ↓cG, ↓aQ, akR, akQ, akU, aA, aeN, bH, akT, akP, aW, ↓bQ, akV, Nat.zero_add, Nat.reduceAdd, dX, akZ, e1, ↓cJ, rH, hn', aC, cA, ↓We, ↓bK, ↓cP, ↓fU, dW, hh1', e2, lO, pO, hmany', aK, ↓Wc, ↓qD, p6, p25, dU, Nat.reduceLeDiff, m7, e4, k3, e5, ↓rF, ↓yR, ↓KJ, Mw, ↓Be, ↓bf, true_and]
 refine (sp "amounts" (.inl rfl) _ h5 S5 (by decide) _ _ _ _ _ _ _ _ _ _ _).mono ?_
 rintro f fr h6 ⟨rfl, y7, y8, y9, y10, y11, y12, y13, y14, y15, y16, y17, rfl, S6⟩
 simp only [d9, ↓Be, ↓bf, akP, akQ, aC]
 refine (sp "weights" (.inr rfl) _ h6 S6 (by decide) _ _ _ _ _ _ _ _ _ _ _).mono ?_
 rintro f fr h7 ⟨rfl, y7, y8, y9, y10, y11, y12, y13, y14, y15, y16, y17, rfl, S7⟩
 simp only [d9, ↓Rb, reduceCtorEq]
 exact ⟨.inl trivial, _, _, rfl, rfl⟩
theorem plain (ns : List Int) (hl : ns.length ≤ 63) : ∃ fr h, Yi [.kl (ns.map Pk.D.int)] [] = .ok (.bl true) fr h := by
 unfold Yi Yh
 refine ada (by decide) (by decide) (by decide) fun k xs h hk hx => ?_
 match xs, hx with
 | [x2, x3, x4, x5, x6, x7, x8, x9, x10, x11, x12, x13, x14, x15, x16, x17], _ => exact afc (by omega) h x2 x3 x4 x5 x6 x7 x8 x9 x10 x11 x12 x13 x14 x15 x16 x17 rfl
end
end L
namespace L
open PySem PySem.Spec PyProof.Rows L2
theorem facts {P : Program} {w : World} {K : PySem.W.Frag} {h : Heap} {mg : Str → Option Value} {f : Addr} (X : K.In h) (G : h.Ns mainGlobals mg) (hfa : mg ("law" : Str) = some (.ref f)) (c : bY K) :
 ∃ fd : FuncData, (∀ (s : Shared) (v : Value), BindsTo s fd ⟨[v], []⟩ [("_law_script", v)]) ∧ ∀ base : Heap, K.In base → base.Ns mainGlobals mg → FnOk P w K mg base (L2N.CX P w) 4 f fd ["_law_script"] (Pk.spF K (T K) 1 Yi) := by
 obtain ⟨fd, F⟩ := c.def_ (fn.length - 1) (d := abY) rfl
 have e := hfa.symm.trans (He.glo_ok X G (c.fact (fa.length - 1) (f := .he (.glo "law")) rfl))
 cases e
 have b := FunD.bindsA (ps := ["_law_script"]) F fun _ _ _ _ _ _ us hl => match us, hl with | [_], _ => rfl
 exact ⟨fd, fun s v => b s [v] rfl, fun base Y Gb => Pk.fn_sim F ad1 (abo c Y Gb)⟩
end L
open PySem PySem.W PySem.Calls PyProof.Rows
theorem PySem.Challenge.cw_countrestarts_k53_solutions_planted_holds : PySem.Challenge.rw_countrestarts_k53_solutions_planted.Holds := by
 w_on; o_law
 refine HandSHeadRun.head_any (r := OpenLaw.row PySem.Challenge.rw_countrestarts_k53_solutions_planted) (q := L.vw) (H := L.hk) (ob := L.ob) (M := 20000) (loose := L.names) (d := HandSHeadRun.topDef (OpenLaw.row PySem.Challenge.rw_countrestarts_k53_solutions_planted).prog 15) (kwd := []) L.ob_eq
  (by kernel_rfl) (fun s => by kernel_rfl) L.run (by kernel_rfl) (by kernel_rfl) (by kernel_rfl) (by rfl) (by first | assumption | decide +kernel) (by decide +kernel) ⟨rfl, rfl, rfl, rfl, rfl, by decide +kernel⟩ ?hw ?hc
 case hw => w_witness2
 case hc =>
  refine L2.walk_ofE (l := PySem.Challenge.rw_countrestarts_k53_solutions_planted) (n := 63) (k := 4) (x := "_law_script") (CX := L2.CX0) rfl (by decide) (by kernel_rfl) ⟨rfl, by decide, by decide⟩ ?F (fun _ _ _ _ z => z)
  intro w mg fa h Y G hmg0
  obtain ⟨K, KX, c⟩ := Y
  have hmg : mg ("law" : PySem.Str) = some (.ref fa) := by
   have e : (HandSHeadRun.topDef (OpenLaw.row PySem.Challenge.rw_countrestarts_k53_solutions_planted).prog 15).name = ("law" : PySem.Str) := by kernel_rfl
   rw [← e]
   exact hmg0
  obtain ⟨fd, hb, hF⟩ := L.facts (P := (PySem.Challenge.rw_countrestarts_k53_solutions_planted).prog) (w := w) KX G hmg c
  exact ⟨K, fd, _, KX, hb, fun H a ns hl _ hS => (let ⟨fr, h, e⟩ := L.plain ns hl; Pk.law_sp hS e), fun base Y Gb => Pk.fn_cx0 (hF base Y Gb)⟩
