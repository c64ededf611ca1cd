import PyProof.Rows.All
import Wide.All
import OpenK.AllK
import Wide.FinOn
import HandS.ForMost
import HandS.Wide
import HandS.Deep
import HandS.RaiseMore
import HandS.IsInst
import HandS.TupAny
import HandS.Zip
import HandS.Conv
import HandS.ExcValue
import HandS.ExcInit
import HandS.TupLen
import HandS.Ends
import HandS.Dict
import HandS.Iter
import HandS.Text
import HandS.SortInts
import HandS.More
import PyProof.Draws
import KE.GoesMore
import KE.KDictPairs
import PyProof.CollectStr
import PyProof.Rows.SortShellAny
import HandS.DictComp
import HandS.Style
import HandS.DictTup
import HandS.ListItems
import HandS.Finally
import KE.KDictCopyH
import HandS.Set
import HandS.SetTxt0
import HandS.SetFor
import HandS.Strs
import KE.KeyNested
import KE.KDictZip
import PyProof.ReprRoads
import KE.KDictList
import HandS.List
import HandS.TupSets
import HandS.SortRule
import HandS.ExcOwn
import HandS.ExcField
import HandS.TryOnly
import HandS.TryMany
import KE.KExcSuper
import KE.KSuper
import HandS.FStr
import HandS.FStrTup
import KE.KExcIs
import PySem.Challenge.RW_gridspread_k75_errors_by_hand
set_option Elab.async false
set_option linter.all false
set_option maxRecDepth 100000
set_option maxHeartbeats 4000000
namespace Fx
open PySem PySem.Spec PyProof.Rows L2
inductive Dt where
  | none
  | bool (q : Bool)
  | int (n : Int)
  | str (t : Str)
  | list (ds : List Dt)
  | tuple (ds : List Dt)
  | dict (es : List (Dt × Dt))
  | obj (c : Str) (ns : List Str) (ds : List Dt)
/-- data that can neither be shown nor compared -/
@[irreducible] def junk : PyData := PyData.dict [(PyData.none, PyData.int (2 ^ 1920))]
theorem junk_show : junk.showable = false := by
  unfold junk
  rw [PyData.showable, PyData.showableKv, PyData.showable, PyData.showable]
  rfl
theorem junk_lay : junk.canLay0 = false := by unfold junk; rw [PyData.canLay0]
theorem junk_has : junk.hasDict = true := by unfold junk; rw [PyData.hasDict]
theorem junk_depth : junk.depth = 1 := by unfold junk; simp [PyData.depth, PyData.depthKv]
namespace Dt
mutual
/-- as the library's data; a thing of a class is none of those that can be shown or compared there -/
def py : Dt → PyData
  | none => PyData.none
  | bool q => PyData.bool q
  | int n => PyData.int n
  | str t => PyData.str t
  | list ds => PyData.list (pys ds)
  | tuple ds => PyData.tuple (pys ds)
  | dict es => PyData.dict (pye es)
  | obj _ _ _ => junk
def pys : List Dt → List PyData
  | [] => []
  | d :: ds => py d :: pys ds
def pye : List (Dt × Dt) → List (PyData × PyData)
  | [] => []
  | e :: es => (py e.1, py e.2) :: pye es
end
mutual
def shown : Dt → Str
  | none => "None"
  | bool q => if q then "True" else "False"
  | int n => toString n
  | str t => reprText t
  | list ds => listText (shownAll ds)
  | tuple ds => tupleText (shownAll ds)
  | dict es => dictText (shownKv es)
  | obj _ _ _ => junk.shown
def shownAll : List Dt → List Str
  | [] => []
  | d :: ds => shown d :: shownAll ds
def shownKv : List (Dt × Dt) → List Str
  | [] => []
  | (a, b) :: es => (shown a ++ ": " ++ shown b) :: shownKv es
end
mutual
def showable : Dt → Bool
  | int n => decide (n.natAbs.log2 < 1920)
  | list ds => showableAll ds
  | tuple ds => showableAll ds
  | dict es => showableKv es
  | obj _ _ _ => false
  | none => true
  | bool _ => true
  | str _ => true
def showableAll : List Dt → Bool
  | [] => true
  | d :: ds => showable d && showableAll ds
def showableKv : List (Dt × Dt) → Bool
  | [] => true
  | (a, b) :: es => showable a && showable b && showableKv es
end
mutual
def hasDict : Dt → Bool
  | list ds => hasDictAll ds
  | tuple ds => hasDictAll ds
  | dict _ => true
  | obj _ _ _ => true
  | none => false
  | bool _ => false
  | int _ => false
  | str _ => false
def hasDictAll : List Dt → Bool
  | [] => false
  | d :: ds => hasDict d || hasDictAll ds
end
mutual
def canLay0 : Dt → Bool
  | str t => PyData.strOk t
  | list ds => canLayAll0 ds
  | tuple ds => canLayAll0 ds
  | dict _ => false
  | obj _ _ _ => false
  | none => true
  | bool _ => true
  | int _ => true
def canLayAll0 : List Dt → Bool
  | [] => true
  | d :: ds => canLay0 d && canLayAll0 ds
end
mutual
def depth : Dt → Nat
  | list ds => depthAll ds + 1
  | tuple ds => depthAll ds + 1
  | dict es => depthKv es + 1
  | obj _ _ _ => 1
  | none => 0
  | bool _ => 0
  | int _ => 0
  | str _ => 0
def depthAll : List Dt → Nat
  | [] => 0
  | d :: ds => max (depth d) (depthAll ds)
def depthKv : List (Dt × Dt) → Nat
  | [] => 0
  | (a, b) :: es => max (max (depth a) (depth b)) (depthKv es)
end
mutual
def eqv : Dt → Dt → Bool
  | none, none => true
  | bool p, bool q => p == q
  | bool p, int n => (if p then 1 else 0) == n
  | int n, bool q => n == (if q then 1 else 0)
  | int n, int m => n == m
  | str t, str u => t == u
  | list ds, list es => eqvAll ds es
  | tuple ds, tuple es => eqvAll ds es
  | none, bool _ | none, int _ | none, str _ | none, list _ | none, tuple _ | none, dict _ | none, obj _ _ _ => false
  | bool _, none | bool _, str _ | bool _, list _ | bool _, tuple _ | bool _, dict _ | bool _, obj _ _ _ => false
  | int _, none | int _, str _ | int _, list _ | int _, tuple _ | int _, dict _ | int _, obj _ _ _ => false
  | str _, none | str _, bool _ | str _, int _ | str _, list _ | str _, tuple _ | str _, dict _ | str _, obj _ _ _ => false
  | list _, none | list _, bool _ | list _, int _ | list _, str _ | list _, tuple _ | list _, dict _ | list _, obj _ _ _ => false
  | tuple _, none | tuple _, bool _ | tuple _, int _ | tuple _, str _ | tuple _, list _ | tuple _, dict _ | tuple _, obj _ _ _ => false
  | dict _, _ => false
  | obj _ _ _, _ => false
def eqvAll : List Dt → List Dt → Bool
  | [], [] => true
  | d :: ds, e :: es => eqv d e && eqvAll ds es
  | [], _ :: _ => false
  | _ :: _, [] => false
end
theorem pys_map : ∀ ds : List Dt, pys ds = ds.map py
  | [] => rfl
  | d :: ds => by rw [pys, pys_map ds]; rfl
theorem pye_map : ∀ ds : List (Dt × Dt), pye ds = ds.map fun e => (py e.1, py e.2)
  | [] => rfl
  | d :: ds => by rw [pye, pye_map ds]; rfl
mutual
theorem shown_py : ∀ d : Dt, d.shown = d.py.shown
  | none => by rw [shown, py, PyData.shown]
  | bool q => by rw [shown, py, PyData.shown]
  | int n => by rw [shown, py, PyData.shown]
  | str t => by rw [shown, py, PyData.shown]
  | list ds => by rw [shown, py, PyData.shown, shownAll_py ds]
  | tuple ds => by rw [shown, py, PyData.shown, shownAll_py ds]
  | dict ds => by rw [shown, py, PyData.shown, shownKv_py ds]
  | obj _ _ _ => by rw [shown, py]
theorem shownAll_py : ∀ ds : List Dt, shownAll ds = PyData.shownAll (pys ds)
  | [] => by rw [shownAll, pys, PyData.shownAll]
  | d :: ds => by rw [shownAll, pys, PyData.shownAll, shown_py d, shownAll_py ds]
theorem shownKv_py : ∀ ds : List (Dt × Dt), shownKv ds = PyData.shownKv (pye ds)
  | [] => by rw [shownKv, pye, PyData.shownKv]
  | (a, b) :: ds => by rw [shownKv, pye, PyData.shownKv, shown_py a, shown_py b, shownKv_py ds]
end
theorem obj_unshown (c : Str) (ns : List Str) (ds : List Dt) : (py (obj c ns ds)).showable = false := by
  rw [py, junk_show]
mutual
theorem showable_py : ∀ d : Dt, d.showable = d.py.showable
  | none => by rw [showable, py, PyData.showable]
  | bool q => by rw [showable, py, PyData.showable]
  | int n => by rw [showable, py, PyData.showable]
  | str t => by rw [showable, py, PyData.showable]
  | list ds => by rw [showable, py, PyData.showable, showableAll_py ds]
  | tuple ds => by rw [showable, py, PyData.showable, showableAll_py ds]
  | dict ds => by rw [showable, py, PyData.showable, showableKv_py ds]
  | obj c _ ds => by rw [showable, obj_unshown]
theorem showableAll_py : ∀ ds : List Dt, showableAll ds = PyData.showableAll (pys ds)
  | [] => by rw [showableAll, pys, PyData.showableAll]
  | d :: ds => by rw [showableAll, pys, PyData.showableAll, showable_py d, showableAll_py ds]
theorem showableKv_py : ∀ ds : List (Dt × Dt), showableKv ds = PyData.showableKv (pye ds)
  | [] => by rw [showableKv, pye, PyData.showableKv]
  | (a, b) :: ds => by rw [showableKv, pye, PyData.showableKv, showable_py a, showable_py b, showableKv_py ds]
end
mutual
theorem hasDict_py : ∀ d : Dt, d.hasDict = d.py.hasDict
  | none => by rw [hasDict, py, PyData.hasDict]
  | bool q => by rw [hasDict, py, PyData.hasDict]
  | int n => by rw [hasDict, py, PyData.hasDict]
  | str t => by rw [hasDict, py, PyData.hasDict]
  | list ds => by rw [hasDict, py, PyData.hasDict, hasDictAll_py ds]
  | tuple ds => by rw [hasDict, py, PyData.hasDict, hasDictAll_py ds]
  | dict ds => by rw [hasDict, py, PyData.hasDict]
  | obj c _ ds => by rw [hasDict, py, junk_has]
theorem hasDictAll_py : ∀ ds : List Dt, hasDictAll ds = PyData.hasDictAll (pys ds)
  | [] => by rw [hasDictAll, pys, PyData.hasDictAll]
  | d :: ds => by rw [hasDictAll, pys, PyData.hasDictAll, hasDict_py d, hasDictAll_py ds]
end
mutual
theorem canLay0_py : ∀ d : Dt, d.canLay0 = d.py.canLay0
  | none => by rw [canLay0, py, PyData.canLay0]
  | bool q => by rw [canLay0, py, PyData.canLay0]
  | int n => by rw [canLay0, py, PyData.canLay0]
  | str t => by rw [canLay0, py, PyData.canLay0]
  | list ds => by rw [canLay0, py, PyData.canLay0, canLayAll0_py ds]
  | tuple ds => by rw [canLay0, py, PyData.canLay0, canLayAll0_py ds]
  | dict ds => by rw [canLay0, py, PyData.canLay0]
  | obj c _ ds => by rw [canLay0, py, junk_lay]
theorem canLayAll0_py : ∀ ds : List Dt, canLayAll0 ds = PyData.canLayAll0 (pys ds)
  | [] => by rw [canLayAll0, pys, PyData.canLayAll0]
  | d :: ds => by rw [canLayAll0, pys, PyData.canLayAll0, canLay0_py d, canLayAll0_py ds]
end
mutual
theorem depth_py : ∀ d : Dt, d.depth = d.py.depth
  | none => by rw [depth, py, PyData.depth]
  | bool q => by rw [depth, py, PyData.depth]
  | int n => by rw [depth, py, PyData.depth]
  | str t => by rw [depth, py, PyData.depth]
  | list ds => by rw [depth, py, PyData.depth, depthAll_py ds]
  | tuple ds => by rw [depth, py, PyData.depth, depthAll_py ds]
  | dict ds => by rw [depth, py, PyData.depth, depthKv_py ds]
  | obj c _ ds => by rw [depth, py, junk_depth]
theorem depthAll_py : ∀ ds : List Dt, depthAll ds = PyData.depthAll (pys ds)
  | [] => by rw [depthAll, pys, PyData.depthAll]
  | d :: ds => by rw [depthAll, pys, PyData.depthAll, depth_py d, depthAll_py ds]
theorem depthKv_py : ∀ ds : List (Dt × Dt), depthKv ds = PyData.depthKv (pye ds)
  | [] => by rw [depthKv, pye, PyData.depthKv]
  | (a, b) :: ds => by rw [depthKv, pye, PyData.depthKv, depth_py a, depth_py b, depthKv_py ds]
end
mutual
theorem eqv_py : ∀ d e : Dt, d.canLay0 = true → e.canLay0 = true → eqv d e = PyData.eqv d.py e.py
  | dict _, _, h, _ => by cases h
  | obj _ _ _, _, h, _ => by cases h
  | none, dict _, _, h => by cases h
  | none, obj _ _ _, _, h => by cases h
  | bool _, dict _, _, h => by cases h
  | bool _, obj _ _ _, _, h => by cases h
  | int _, dict _, _, h => by cases h
  | int _, obj _ _ _, _, h => by cases h
  | str _, dict _, _, h => by cases h
  | str _, obj _ _ _, _, h => by cases h
  | list _, dict _, _, h => by cases h
  | list _, obj _ _ _, _, h => by cases h
  | tuple _, dict _, _, h => by cases h
  | tuple _, obj _ _ _, _, h => by cases h
  | list ds, list es, h, k => by rw [eqv, py, py, PyData.eqv, eqvAll_py ds es (by simpa [canLay0] using h) (by simpa [canLay0] using k)]
  | tuple ds, tuple es, h, k => by rw [eqv, py, py, PyData.eqv, eqvAll_py ds es (by simpa [canLay0] using h) (by simpa [canLay0] using k)]
  | none, none, _, _ => by simp [eqv, py, PyData.eqv]
  | none, bool _, _, _ => by simp [eqv, py, PyData.eqv]
  | none, int _, _, _ => by simp [eqv, py, PyData.eqv]
  | none, str _, _, _ => by simp [eqv, py, PyData.eqv]
  | none, list _, _, _ => by simp [eqv, py, PyData.eqv]
  | none, tuple _, _, _ => by simp [eqv, py, PyData.eqv]
  | bool _, none, _, _ => by simp [eqv, py, PyData.eqv]
  | bool _, bool _, _, _ => by simp [eqv, py, PyData.eqv]
  | bool _, int _, _, _ => by simp [eqv, py, PyData.eqv]
  | bool _, str _, _, _ => by simp [eqv, py, PyData.eqv]
  | bool _, list _, _, _ => by simp [eqv, py, PyData.eqv]
  | bool _, tuple _, _, _ => by simp [eqv, py, PyData.eqv]
  | int _, none, _, _ => by simp [eqv, py, PyData.eqv]
  | int _, bool _, _, _ => by simp [eqv, py, PyData.eqv]
  | int _, int _, _, _ => by simp [eqv, py, PyData.eqv]
  | int _, str _, _, _ => by simp [eqv, py, PyData.eqv]
  | int _, list _, _, _ => by simp [eqv, py, PyData.eqv]
  | int _, tuple _, _, _ => by simp [eqv, py, PyData.eqv]
  | str _, none, _, _ => by simp [eqv, py, PyData.eqv]
  | str _, bool _, _, _ => by simp [eqv, py, PyData.eqv]
  | str _, int _, _, _ => by simp [eqv, py, PyData.eqv]
  | str _, str _, _, _ => by simp [eqv, py, PyData.eqv]
  | str _, list _, _, _ => by simp [eqv, py, PyData.eqv]
  | str _, tuple _, _, _ => by simp [eqv, py, PyData.eqv]
  | list _, none, _, _ => by simp [eqv, py, PyData.eqv]
  | list _, bool _, _, _ => by simp [eqv, py, PyData.eqv]
  | list _, int _, _, _ => by simp [eqv, py, PyData.eqv]
  | list _, str _, _, _ => by simp [eqv, py, PyData.eqv]
  | list _, tuple _, _, _ => by simp [eqv, py, PyData.eqv]
  | tuple _, none, _, _ => by simp [eqv, py, PyData.eqv]
  | tuple _, bool _, _, _ => by simp [eqv, py, PyData.eqv]
  | tuple _, int _, _, _ => by simp [eqv, py, PyData.eqv]
  | tuple _, str _, _, _ => by simp [eqv, py, PyData.eqv]
  | tuple _, list _, _, _ => by simp [eqv, py, PyData.eqv]
theorem eqvAll_py : ∀ ds es : List Dt, canLayAll0 ds = true → canLayAll0 es = true → eqvAll ds es = PyData.eqvAll (pys ds) (pys es)
  | [], [], _, _ => by simp [eqvAll, pys, PyData.eqvAll]
  | [], _ :: _, _, _ => by simp [eqvAll, pys, PyData.eqvAll]
  | _ :: _, [], _, _ => by simp [eqvAll, pys, PyData.eqvAll]
  | d :: ds, e :: es, h, k => by
    have h' : d.canLay0 = true ∧ canLayAll0 ds = true := by simpa [canLayAll0] using h
    have k' : e.canLay0 = true ∧ canLayAll0 es = true := by simpa [canLayAll0] using k
    rw [eqvAll, pys, pys, PyData.eqvAll, eqv_py d e h'.1 k'.1, eqvAll_py ds es h'.2 k'.2]
end
end Dt
/-- it may be compared -/
def shapeD (d : Dt) : Bool := d.canLay0 && decide (d.depth ≤ 64)
theorem shape_py (d : Dt) : shapeD d = SeqAt.shaped d.py := by
  unfold shapeD SeqAt.shaped
  rw [Dt.canLay0_py, Dt.depth_py]
end Fx
namespace Fx
open PySem PySem.Spec PyProof.Rows L2
abbrev D := Dt
/-- what stands in a slot: frozen data; a container of one's own with frozen members; one whose members are containers of one's own, each another one -/
inductive Sl where
  | fz (d : D)
  | ow (d : D)
  | o2 (d : D)
def Sl.d : Sl → D
  | .fz d => d
  | .ow d => d
  | .o2 d => d
abbrev Rho := List (Option Sl)
abbrev M (α : Type) := Rho → Option (α × Rho)
def keyD : Key → D
  | .inl i => .int i
  | .inr x => .str x
def keysD (l : List Key) : D := .tuple (l.map keyD)
/-- a list that is read: tracked, or one of the module's own -/
def SqX (K : PySem.W.Frag) (G : Hp) (a : Addr) (xs : List V) : Prop :=
  Rd G a (.lst xs) ∨ ∃ (its : Array Value) (n : Nat), K.lookup a = some { cls := .type "list", data := .seq its n } ∧ its.size ≤ sizeLine ∧ Vals xs its.toList
theorem SqX.sql {K : PySem.W.Frag} {G : Hp} {a : Addr} {xs : List V} (h : SqX K G a xs) : SqL K G a xs := by
  rcases h with h | ⟨its, n, e, z, r⟩
  · exact .inl h
  · exact .inr ⟨_, its, n, e, rfl, rfl, rfl, z, r⟩
theorem SqX.of {K : PySem.W.Frag} {G : Hp} {a : Addr} {xs : List V} (h : G a = some (.lst xs)) : SqX K G a xs := .inl (.inl h)
/-- a pair of texts -/
def isPairS : D → Bool
  | .tuple [.str _, .str _] => true
  | _ => false
/-- pairs of texts, one or more: such a tuple's object is wholly known (dict(..) asks for that) -/
def tagT (ds : List D) : Bool := !ds.isEmpty && ds.all isPairS
/-- how a tuple stands -/
def TupG (G : Hp) (a : Addr) (xs : List V) (ds : List D) : Prop := (tagT ds = false ∧ G a = some (.tup xs)) ∨ (tagT ds = true ∧ ∃ ob : Obj, G a = some (.frz ob (.tup xs)) ∧ ob.dict = none)
theorem TupG.sqt {K : PySem.W.Frag} {G : Hp} {a : Addr} {xs : List V} {ds : List D} (h : TupG G a xs ds) : SqT K G a xs := by
  rcases h with ⟨_, h⟩ | ⟨_, ob, h, _⟩
  · exact .inl (.inl h)
  · exact .inl (.inr ⟨ob, h⟩)
theorem TupG.rd {G : Hp} {a : Addr} {xs : List V} {ds : List D} (h : TupG G a xs ds) : Rd G a (.tup xs) := by
  rcases h with ⟨_, h⟩ | ⟨_, ob, h, _⟩
  · exact .inl h
  · exact .inr ⟨ob, h⟩
theorem TupG.got {G : Hp} {a : Addr} {xs : List V} {ds : List D} (h : TupG G a xs ds) (n : tagT ds = false) : G a = some (.tup xs) := by
  rcases h with ⟨_, h⟩ | ⟨t, _⟩
  · exact h
  · rw [n] at t; cases t
theorem TupG.of {G : Hp} {a : Addr} {xs : List V} {ds : List D} (n : tagT ds = false) (h : G a = some (.tup xs)) : TupG G a xs ds := .inl ⟨n, h⟩
theorem tag_off {d : D} {ds : List D} (h : isPairS d = false) : tagT (d :: ds) = false := by
  unfold tagT
  rw [List.all_cons, h]
  rfl
theorem tag_keys : ∀ ks : List Key, tagT (ks.map keyD) = false
  | [] => rfl
  | .inl _ :: _ => tag_off rfl
  | .inr _ :: _ => tag_off rfl
/-- the first class of that name -/
def clsN (K : PySem.W.Frag) (c : Str) : Option Addr := (K.find? fun p => match p.2.data with
  | .cls cd => decide (cd.name = c)
  | _ => false).map fun p => p.1
/-- at a: an error of the class at C, its dict at dx -/
def ExF (C dx a : Addr) : HO := .ext fun h => ∃ (oe : Obj) (vs : Array Value), h.get? a = some oe ∧ Zc (.ref C) (some dx) oe ∧ oe.data = .fields vs
theorem exF_ok {P : Program} {w : World} {H : Hp} {h : Heap} {C dx a : Addr} {oe : Obj} {vs : Array Value} (e : h.get? a = some oe) (z : Zc (.ref C) (some dx) oe) (d : oe.data = .fields vs) : ObjOk P w H h a (ExF C dx a) :=
  ⟨⟨oe, vs, e, z, d⟩, ⟨oe, e⟩, fun _ _ ⟨o, v, q, r⟩ k => ⟨o, v, k o q, r⟩⟩
/-- what stands at a is of the class c, and holds xs by the names ns -/
inductive ObR (K : PySem.W.Frag) (G : Hp) (a : Addr) : Str → List Str → List V → Prop
  | exc {C : Addr} {c : Str} : clsN K c = some C → Rd G a (ExO (.ref C) a) → ObR K G a c [] []
  | exf {C dx : Addr} {c : Str} {fs : List (Str × V)} : clsN K c = some C → Rd G a (ExF C dx a) → Rd G dx (.xd fs) → ObR K G a c (fs.map fun p => p.1) (fs.map fun p => p.2)
  | ins {C dx : Addr} {c : Str} {fs : List (Str × V)} : clsN K c = some C → Rd G a (.ins C dx fs) → ObR K G a c (fs.map fun p => p.1) (fs.map fun p => p.2)
mutual
inductive Rp (K : PySem.W.Frag) (G : Hp) : V → D → Prop
  | non : Rp K G .non .none
  | bl (b : Bool) : Rp K G (.bl b) (.bool b)
  | int (i : Int) : Rp K G (.int i) (.int i)
  | str (x : Str) : Rp K G (.str x) (.str x)
  | lst {a : Addr} {xs : List V} {ds : List D} : SqX K G a xs → RpAll K G xs ds → Rp K G (.ref a) (.list ds)
  | tup {a : Addr} {xs : List V} {ds : List D} : TupG G a xs ds → RpAll K G xs ds → Rp K G (.ref a) (.tuple ds)
  | dK {a : Addr} {ks : List (Key × V)} {kvs : List (D × D)} : Rd G a (.dK ks) → kvs.map (·.1) = ks.map (fun p => keyD p.1) → RpAll K G (ks.map (·.2)) (kvs.map (·.2)) → Rp K G (.ref a) (.dict kvs)
  | dT {a : Addr} {ks : List (List Key × V)} {kvs : List (D × D)} : Rd G a (.dT ks) → kvs.map (·.1) = ks.map (fun p => keysD p.1) → RpAll K G (ks.map (·.2)) (kvs.map (·.2)) → Rp K G (.ref a) (.dict kvs)
  | ob {a : Addr} {c : Str} {ns : List Str} {xs : List V} {ds : List D} : ObR K G a c ns xs → RpAll K G xs ds → Rp K G (.ref a) (.obj c ns ds)
inductive RpAll (K : PySem.W.Frag) (G : Hp) : List V → List D → Prop
  | nil : RpAll K G [] []
  | cons {v : V} {vs : List V} {d : D} {ds : List D} : Rp K G v d → RpAll K G vs ds → RpAll K G (v :: vs) (d :: ds)
end
/-- what may be read stays to be read -/
structure RLe (G G' : Hp) : Prop where
  rd : ∀ a u, Rd G a u → (∀ o w, u ≠ .frz o w) → Rd G' a u
  tup : ∀ a xs, G a = some (.tup xs) → G' a = some (.tup xs)
  dom : ∀ a o, G a = some o → ∃ o', G' a = some o'
  frz : ∀ a o u, G a = some (.frz o u) → G' a = some (.frz o u)
theorem RLe.of {G G' : Hp} (h : Same G G') : RLe G G' := ⟨fun a u r _ => by
  rcases r with r | ⟨o, r⟩
  · exact .inl (h _ _ r)
  · exact .inr ⟨o, h _ _ r⟩, fun a xs e => h _ _ e, fun a o e => ⟨o, h _ _ e⟩, fun a o u e => h _ _ e⟩
theorem RLe.refl (G : Hp) : RLe G G := .of (.refl _)
theorem RLe.trans {G G1 G2 : Hp} (A : RLe G G1) (B : RLe G1 G2) : RLe G G2 := ⟨fun a u r n => B.rd a u (A.rd a u r n) n, fun a xs e => B.tup a xs (A.tup a xs e), fun a o e => let ⟨o', e'⟩ := A.dom a o e; B.dom a o' e', fun a o u e => B.frz a o u (A.frz a o u e)⟩
instance {G G' : Hp} : Coe (Same G G') (RLe G G') := ⟨RLe.of⟩
section
variable {K : PySem.W.Frag} {G G' : Hp}
theorem TupG.le {a : Addr} {xs : List V} {ds : List D} (e : RLe G G') (h : TupG G a xs ds) : TupG G' a xs ds := by
  rcases h with ⟨n, h⟩ | ⟨n, ob, h, z⟩
  · exact .inl ⟨n, e.tup _ _ h⟩
  · exact .inr ⟨n, ob, e.frz _ _ _ h, z⟩
theorem RLe.sql {a : Addr} {xs : List V} (e : RLe G G') (h : SqL K G a xs) : SqL K G' a xs := by
  rcases h with h | h
  · exact .inl (e.rd _ _ h fun _ _ => nofun)
  · exact .inr h
theorem RLe.sqx {a : Addr} {xs : List V} (e : RLe G G') (h : SqX K G a xs) : SqX K G' a xs := by
  rcases h with h | h
  · exact .inl (e.rd _ _ h fun _ _ => nofun)
  · exact .inr h
theorem RLe.sqt {a : Addr} {xs : List V} (e : RLe G G') (h : SqT K G a xs) : SqT K G' a xs := by
  rcases h with h | h
  · exact .inl (e.rd _ _ h fun _ _ => nofun)
  · exact .inr h
theorem ObR.le {a : Addr} {c : Str} {ns : List Str} {xs : List V} (e : RLe G G') (h : ObR K G a c ns xs) : ObR K G' a c ns xs := by
  cases h with
  | exc n h => exact .exc n (e.rd _ _ h fun o w q => by unfold ExO at q; cases q)
  | exf n h1 h2 => exact .exf n (e.rd _ _ h1 fun o w q => by unfold ExF at q; cases q) (e.rd _ _ h2 fun _ _ => nofun)
  | ins n h => exact .ins n (e.rd _ _ h fun _ _ => nofun)
mutual
theorem Rp.le (e : RLe G G') : ∀ {v : V} {d : D}, Rp K G v d → Rp K G' v d
  | _, _, .non => .non
  | _, _, .bl b => .bl b
  | _, _, .int b => .int b
  | _, _, .str b => .str b
  | _, _, .lst h t => .lst (e.sqx h) (RpAll.le e t)
  | _, _, .tup h t => .tup (h.le e) (RpAll.le e t)
  | _, _, .dK h k t => .dK (e.rd _ _ h fun _ _ => nofun) k (RpAll.le e t)
  | _, _, .dT h k t => .dT (e.rd _ _ h fun _ _ => nofun) k (RpAll.le e t)
  | _, _, .ob h t => .ob (h.le e) (RpAll.le e t)
theorem RpAll.le (e : RLe G G') : ∀ {vs : List V} {ds : List D}, RpAll K G vs ds → RpAll K G' vs ds
  | _, _, .nil => .nil
  | _, _, .cons h t => .cons (Rp.le e h) (RpAll.le e t)
end
theorem Rp.mono (e : RLe G G') {v : V} {d : D} (h : Rp K G v d) : Rp K G' v d := h.le e
theorem RpAll.mono (e : RLe G G') {v : List V} {d : List D} (h : RpAll K G v d) : RpAll K G' v d := h.le e
theorem RpAll.length : ∀ {vs : List V} {ds : List D}, RpAll K G vs ds → vs.length = ds.length
  | _, _, .nil => rfl
  | _, _, .cons _ t => by simp [RpAll.length t]
theorem RpAll.get : ∀ {vs : List V} {ds : List D} {i : Nat} {v : V}, RpAll K G vs ds → vs[i]? = some v → ∃ d, ds[i]? = some d ∧ Rp K G v d
  | _, _, _, _, .nil, e => by simp at e
  | _, _, 0, _, .cons r _, e => by simp at e; subst e; exact ⟨_, rfl, r⟩
  | _, _, i + 1, x, .cons _ t, e => by
    obtain ⟨u, h1, h2⟩ := RpAll.get (i := i) (v := x) t (by simpa using e)
    exact ⟨u, by simpa using h1, h2⟩
theorem RpAll.getD : ∀ {vs : List V} {ds : List D} {i : Nat} {d : D}, RpAll K G vs ds → ds[i]? = some d → ∃ v, vs[i]? = some v ∧ Rp K G v d
  | _, _, _, _, .nil, e => by simp at e
  | _, _, 0, _, .cons r _, e => by simp at e; subst e; exact ⟨_, rfl, r⟩
  | _, _, i + 1, x, .cons _ t, e => by
    obtain ⟨u, h1, h2⟩ := RpAll.getD (i := i) (d := x) t (by simpa using e)
    exact ⟨u, by simpa using h1, h2⟩
theorem RpAll.append : ∀ {vs ws : List V} {ds es : List D}, RpAll K G vs ds → RpAll K G ws es → RpAll K G (vs ++ ws) (ds ++ es)
  | _, _, _, _, .nil, s => s
  | _, _, _, _, .cons r t, s => .cons r (RpAll.append t s)
theorem RpAll.take : ∀ {vs : List V} {ds : List D} (n : Nat), RpAll K G vs ds → RpAll K G (vs.take n) (ds.take n)
  | _, _, 0, _ => .nil
  | _, _, _ + 1, .nil => .nil
  | _, _, n + 1, .cons r t => .cons r (RpAll.take n t)
theorem RpAll.drop : ∀ {vs : List V} {ds : List D} (n : Nat), RpAll K G vs ds → RpAll K G (vs.drop n) (ds.drop n)
  | _, _, 0, r => r
  | _, _, _ + 1, .nil => .nil
  | _, _, n + 1, .cons _ t => RpAll.drop n t
theorem RpAll.set {v : V} {d : D} (r : Rp K G v d) : ∀ {vs : List V} {ds : List D} (n : Nat), RpAll K G vs ds → RpAll K G (vs.set n v) (ds.set n d)
  | _, _, _, .nil => .nil
  | _, _, 0, .cons _ t => .cons r t
  | _, _, n + 1, .cons q t => .cons q (RpAll.set r n t)
theorem RpAll.one {v : V} {d : D} (r : Rp K G v d) : RpAll K G [v] [d] := .cons r .nil
theorem RpAll.ints : ∀ (ns : List Int), RpAll K G (ns.map V.int) (ns.map Dt.int)
  | [] => .nil
  | n :: ns => .cons (.int n) (RpAll.ints ns)
end
/-- at p, not frozen, stands the container d; its members are frozen -/
def Own (K : PySem.W.Frag) (G H : Hp) (p : Addr) : D → Prop
  | .list ds => ∃ xs, H p = some (.lst xs) ∧ RpAll K G xs ds
  | .dict kvs => (∃ ks, H p = some (.dK ks) ∧ kvs.map (·.1) = ks.map (fun q => keyD q.1) ∧ RpAll K G (ks.map (·.2)) (kvs.map (·.2))) ∨
      ∃ ks, H p = some (.dT ks) ∧ kvs.map (·.1) = ks.map (fun q => keysD q.1) ∧ RpAll K G (ks.map (·.2)) (kvs.map (·.2))
  | _ => False
section
variable {K : PySem.W.Frag} {G G' H H' : Hp} {p : Addr} {d : D}
theorem Own.there (h : Own K G H p d) : ∃ o, H p = some o := by
  cases d with
  | list ds => obtain ⟨xs, e, _⟩ := h; exact ⟨_, e⟩
  | dict kvs =>
    rcases h with ⟨ks, e, _⟩ | ⟨ks, e, _⟩
    · exact ⟨_, e⟩
    · exact ⟨_, e⟩
  | _ => exact h.elim
theorem Own.noTup0 {xs : List V} (h : Own K G H p d) (e : H p = some (.tup xs)) : False := by
  cases d with
  | list ds => obtain ⟨ys, q, _⟩ := h; rw [e] at q; cases q
  | dict kvs =>
    rcases h with ⟨ks, q, _⟩ | ⟨ks, q, _⟩
    · rw [e] at q; cases q
    · rw [e] at q; cases q
  | _ => exact h.elim
theorem Own.mono (e : RLe G G') (hp : ∀ o, H p = some o → H' p = some o) (h : Own K G H p d) : Own K G' H' p d := by
  cases d with
  | list ds => obtain ⟨xs, q, r⟩ := h; exact ⟨xs, hp _ q, r.mono e⟩
  | dict kvs =>
    rcases h with ⟨ks, q, k, r⟩ | ⟨ks, q, k, r⟩
    · exact .inl ⟨ks, hp _ q, k, r.mono e⟩
    · exact .inr ⟨ks, hp _ q, k, r.mono e⟩
  | _ => exact h.elim
/-- frozen: it is data -/
theorem Own.frz (e : RLe G G') (hp : ∀ o, H p = some o → G' p = some o) (h : Own K G H p d) : Rp K G' (.ref p) d := by
  cases d with
  | list ds => obtain ⟨xs, q, r⟩ := h; exact .lst (.of (hp _ q)) (r.mono e)
  | dict kvs =>
    rcases h with ⟨ks, q, k, r⟩ | ⟨ks, q, k, r⟩
    · exact .dK (.inl (hp _ q)) k (r.mono e)
    · exact .dT (.inl (hp _ q)) k (r.mono e)
  | _ => exact h.elim
end
/-- the values that a container holds -/
def memV : HO → List V
  | .lst xs => xs
  | .dK ks => ks.map (·.2)
  | .dT ks => ks.map (·.2)
  | _ => []
/-- a stands in the container at p -/
def inner (H : Hp) (p a : Addr) : Prop := ∃ o, H p = some o ∧ V.ref a ∈ memV o
/-- the addresses that are one's own by a slot -/
def Sl.In (H : Hp) (p : Addr) : Sl → Addr → Prop
  | .fz _, _ => False
  | .ow _, a => a = p
  | .o2 _, a => a = p ∨ inner H p a
inductive OwnAll (K : PySem.W.Frag) (G H : Hp) : List Addr → List D → Prop
  | nil : OwnAll K G H [] []
  | cons {p : Addr} {ps : List Addr} {d : D} {ds : List D} : Own K G H p d → OwnAll K G H ps ds → OwnAll K G H (p :: ps) (d :: ds)
/-- at p stands the container d; its members are containers that stand apart, their members frozen -/
def Own2 (K : PySem.W.Frag) (G H : Hp) (p : Addr) : D → Prop
  | .list ds => ∃ ps : List Addr, ps.Nodup ∧ p ∉ ps ∧ OwnAll K G H ps ds ∧ H p = some (.lst (ps.map V.ref))
  | .dict kvs => ∃ ps : List Addr, ps.Nodup ∧ p ∉ ps ∧ OwnAll K G H ps (kvs.map (·.2)) ∧ ((∃ ks, H p = some (.dK ks) ∧ kvs.map (·.1) = ks.map (fun q => keyD q.1) ∧ ks.map (·.2) = ps.map V.ref) ∨
      ∃ ks, H p = some (.dT ks) ∧ kvs.map (·.1) = ks.map (fun q => keysD q.1) ∧ ks.map (·.2) = ps.map V.ref)
  | _ => False
def Occ (K : PySem.W.Frag) (G H : Hp) (p : Addr) : Sl → Prop
  | .fz _ => False
  | .ow d => Own K G H p d
  | .o2 d => Own2 K G H p d
section
variable {K : PySem.W.Frag} {G G' H H' : Hp} {p : Addr} {d : D} {s : Sl}
theorem mem_ref {ps : List Addr} {a : Addr} : V.ref a ∈ ps.map V.ref ↔ a ∈ ps := by
  rw [List.mem_map]
  exact ⟨fun ⟨b, h, e⟩ => by cases e; exact h, fun h => ⟨a, h, rfl⟩⟩
/-- the members of an own container of own containers -/
theorem Own2.shape (h : Own2 K G H p d) : ∃ (ps : List Addr) (ds : List D) (o : HO), ps.Nodup ∧ p ∉ ps ∧ OwnAll K G H ps ds ∧ H p = some o ∧ memV o = ps.map V.ref ∧ (∀ xs, o ≠ .tup xs) := by
  cases d with
  | list ds => obtain ⟨ps, n, np, a, e⟩ := h; exact ⟨ps, ds, _, n, np, a, e, rfl, nofun⟩
  | dict kvs =>
    obtain ⟨ps, n, np, a, h | h⟩ := h
    · obtain ⟨ks, e, k, m⟩ := h; exact ⟨ps, _, _, n, np, a, e, m, nofun⟩
    · obtain ⟨ks, e, k, m⟩ := h; exact ⟨ps, _, _, n, np, a, e, m, nofun⟩
  | _ => exact h.elim
theorem Own2.inner_iff {ps : List Addr} {o : HO} (e : H p = some o) (m : memV o = ps.map V.ref) {a : Addr} : inner H p a ↔ a ∈ ps := by
  constructor
  · rintro ⟨o', e', m'⟩
    rw [e] at e'; cases e'
    rw [m] at m'; exact mem_ref.mp m'
  · exact fun h => ⟨o, e, by rw [m]; exact mem_ref.mpr h⟩
theorem OwnAll.mem : ∀ {ps : List Addr} {ds : List D}, OwnAll K G H ps ds → ∀ a ∈ ps, ∃ d, Own K G H a d
  | _, _, .cons h t, a, m => by
    rcases List.mem_cons.mp m with e | m
    · subst e; exact ⟨_, h⟩
    · exact OwnAll.mem t a m
theorem OwnAll.mono (e : RLe G G') : ∀ {ps : List Addr} {ds : List D}, (∀ a ∈ ps, ∀ o, H a = some o → H' a = some o) → OwnAll K G H ps ds → OwnAll K G' H' ps ds
  | _, _, _, .nil => .nil
  | _, _, k, .cons h t => .cons (h.mono e (k _ List.mem_cons_self)) (OwnAll.mono e (fun a m => k a (List.mem_cons_of_mem _ m)) t)
theorem OwnAll.frz (e : RLe G G') : ∀ {ps : List Addr} {ds : List D}, (∀ a ∈ ps, ∀ o, H a = some o → G' a = some o) → OwnAll K G H ps ds → RpAll K G' (ps.map V.ref) ds
  | _, _, _, .nil => .nil
  | _, _, k, .cons h t => .cons (h.frz e (k _ List.mem_cons_self)) (OwnAll.frz e (fun a m => k a (List.mem_cons_of_mem _ m)) t)
theorem OwnAll.length : ∀ {ps : List Addr} {ds : List D}, OwnAll K G H ps ds → ps.length = ds.length
  | _, _, .nil => rfl
  | _, _, .cons _ t => by simp [OwnAll.length t]
theorem Occ.inSelf (h : Occ K G H p s) : s.In H p p := by
  cases s with
  | fz d => exact h.elim
  | ow d => rfl
  | o2 d => exact .inl rfl
theorem Occ.there (h : Occ K G H p s) {a : Addr} (m : s.In H p a) : ∃ o, H a = some o ∧ ∀ xs, o ≠ .tup xs := by
  cases s with
  | fz d => exact h.elim
  | ow d =>
    cases (show a = p from m)
    obtain ⟨o, e⟩ := Own.there h
    exact ⟨o, e, fun xs z => by subst z; exact h.noTup0 e⟩
  | o2 d =>
    obtain ⟨ps, ds, o, n, np, al, e, me, nt⟩ := Own2.shape h
    rcases (show a = p ∨ inner H p a from m) with m | m
    · subst m; exact ⟨o, e, nt⟩
    · obtain ⟨d', q⟩ := al.mem a ((Own2.inner_iff e me).mp m)
      obtain ⟨o, e⟩ := q.there
      exact ⟨o, e, fun xs z => by subst z; exact q.noTup0 e⟩
theorem inner_eq (k : ∀ o, H p = some o → H' p = some o) (t : ∃ o, H p = some o) {a : Addr} : inner H' p a ↔ inner H p a := by
  obtain ⟨o, e⟩ := t
  have e' := k o e
  constructor
  · rintro ⟨o', q, m⟩
    rw [e'] at q; cases q
    exact ⟨o, e, m⟩
  · rintro ⟨o', q, m⟩
    rw [e] at q; cases q
    exact ⟨o, e', m⟩
theorem Sl.in_eq (k : ∀ o, H p = some o → H' p = some o) (t : ∃ o, H p = some o) {a : Addr} : s.In H' p a ↔ s.In H p a := by
  cases s with
  | fz d => exact Iff.rfl
  | ow d => exact Iff.rfl
  | o2 d => exact or_congr Iff.rfl (inner_eq k t)
theorem Occ.mono (e : RLe G G') (k : ∀ a, s.In H p a → ∀ o, H a = some o → H' a = some o) (h : Occ K G H p s) : Occ K G' H' p s := by
  cases s with
  | fz d => exact h
  | ow d => exact Own.mono e (k p rfl) h
  | o2 d =>
    have kp := k p (.inl rfl)
    cases d with
    | list ds =>
      obtain ⟨ps, n, np, al, q⟩ := h
      exact ⟨ps, n, np, al.mono e fun a m => k a (.inr ((Own2.inner_iff q rfl).mpr m)), kp _ q⟩
    | dict kvs =>
      obtain ⟨ps, n, np, al, q | q⟩ := h
      · obtain ⟨ks, q, k1, m1⟩ := q
        exact ⟨ps, n, np, al.mono e fun a m => k a (.inr ((Own2.inner_iff q m1).mpr m)), .inl ⟨ks, kp _ q, k1, m1⟩⟩
      · obtain ⟨ks, q, k1, m1⟩ := q
        exact ⟨ps, n, np, al.mono e fun a m => k a (.inr ((Own2.inner_iff q m1).mpr m)), .inr ⟨ks, kp _ q, k1, m1⟩⟩
    | _ => exact h.elim
/-- frozen, with all that stands in it -/
theorem Occ.frz (e : RLe G G') (k : ∀ a, s.In H p a → ∀ o, H a = some o → G' a = some o) (h : Occ K G H p s) : Rp K G' (.ref p) s.d := by
  cases s with
  | fz d => exact h.elim
  | ow d => exact Own.frz e (k p rfl) h
  | o2 d =>
    have kp := k p (.inl rfl)
    cases d with
    | list ds =>
      obtain ⟨ps, n, np, al, q⟩ := h
      exact .lst (.of (kp _ q)) (al.frz e fun a m => k a (.inr ((Own2.inner_iff q rfl).mpr m)))
    | dict kvs =>
      obtain ⟨ps, n, np, al, q | q⟩ := h
      · obtain ⟨ks, q, k1, m1⟩ := q
        have t := al.frz e fun a m => k a (.inr ((Own2.inner_iff q m1).mpr m))
        exact .dK (.inl (kp _ q)) k1 (by rw [m1]; exact t)
      · obtain ⟨ks, q, k1, m1⟩ := q
        have t := al.frz e fun a m => k a (.inr ((Own2.inner_iff q m1).mpr m))
        exact .dT (.inl (kp _ q)) k1 (by rw [m1]; exact t)
    | _ => exact h.elim
end
/-- the addresses that are one's own by some slot -/
def root (H : Hp) (σ : L2.St) (ρ : Rho) (a : Addr) : Prop := ∃ (i : Nat) (s : Sl) (p : Addr), σ[i]? = some (some (V.ref p)) ∧ ρ[i]? = some (some s) ∧ s.In H p a
structure EnvR (K : PySem.W.Frag) (G H : Hp) (σ : L2.St) (ρ : Rho) : Prop where
  sub : Same G H
  len : ρ.length = σ.length
  fz : ∀ (i : Nat) (d : D), ρ[i]? = some (some (Sl.fz d)) → ∃ v, σ[i]? = some (some v) ∧ Rp K G v d
  os : ∀ (i : Nat) (s : Sl), ρ[i]? = some (some s) → (∀ d, s ≠ .fz d) → ∃ p, σ[i]? = some (some (V.ref p)) ∧ (∀ a, s.In H p a → G a = none) ∧ Occ K G H p s
  apx : ∀ (i j : Nat) (s t : Sl) (p q a : Addr), ρ[i]? = some (some s) → ρ[j]? = some (some t) → σ[i]? = some (some (V.ref p)) → σ[j]? = some (some (V.ref q)) → s.In H p a → t.In H q a → i = j
theorem EnvR.ow {K : PySem.W.Frag} {G H : Hp} {σ : L2.St} {ρ : Rho} (E : EnvR K G H σ ρ) (i : Nat) (d : D) (h : ρ[i]? = some (some (Sl.ow d))) : ∃ p, σ[i]? = some (some (V.ref p)) ∧ G p = none ∧ Own K G H p d := by
  obtain ⟨p, e, g, o⟩ := E.os i _ h nofun
  exact ⟨p, e, g p rfl, o⟩
theorem EnvR.o2 {K : PySem.W.Frag} {G H : Hp} {σ : L2.St} {ρ : Rho} (E : EnvR K G H σ ρ) (i : Nat) (d : D) (h : ρ[i]? = some (some (Sl.o2 d))) : ∃ p, σ[i]? = some (some (V.ref p)) ∧ (∀ a, a = p ∨ inner H p a → G a = none) ∧ Own2 K G H p d :=
  E.os i _ h nofun
theorem EnvR.ap {K : PySem.W.Frag} {G H : Hp} {σ : L2.St} {ρ : Rho} (E : EnvR K G H σ ρ) (i j : Nat) (d e : D) (p : Addr) (h1 : ρ[i]? = some (some (Sl.ow d))) (h2 : ρ[j]? = some (some (Sl.ow e))) (h3 : σ[i]? = some (some (V.ref p))) (h4 : σ[j]? = some (some (V.ref p))) : i = j :=
  E.apx i j _ _ p p p h1 h2 h3 h4 rfl rfl
/-- free to be frozen: new, or a tuple -/
def Fr (H G' : Hp) (a : Addr) : Prop := H a = none ∨ ∃ xs, G' a = some (.tup xs)
theorem Fr.back {H H1 G' : Hp} {a : Addr} (z : Fr H1 G' a) (t : H1 a = none → H a = none) : Fr H G' a := z.imp_left t
theorem Fr.on {H G1 G2 : Hp} {a : Addr} (z : Fr H G1 a) (e : RLe G1 G2) : Fr H G2 a := z.imp_right fun ⟨xs, h⟩ => ⟨xs, e.tup _ _ h⟩
def IsDt (o : HO) : Prop := (∃ kvs, o = .dK kvs) ∨ ∃ kvs, o = .dT kvs
/-- as it was, or a frozen dict that is locked -/
def Kp (G' H' : Hp) (a : Addr) (o : HO) : Prop := H' a = some o ∨ ∃ od, H' a = some (.frz od o) ∧ IsDt o ∧ ∃ u, G' a = some u
theorem Kp.of {G' H' : Hp} {a : Addr} {o : HO} (h : H' a = some o) : Kp G' H' a o := .inl h
theorem Kp.at {G' H' : Hp} {a : Addr} {o : HO} (h : Kp G' H' a o) (n : G' a = none) : H' a = some o := by
  rcases h with h | ⟨od, _, _, u, hu⟩
  · exact h
  · rw [n] at hu; cases hu
theorem Kp.is {G' H' : Hp} {a : Addr} {o : HO} (h : Kp G' H' a o) (n : ¬ IsDt o) : H' a = some o := by
  rcases h with h | ⟨od, _, q, _⟩
  · exact h
  · exact (n q).elim
theorem Kp.lst {G' H' : Hp} {a : Addr} {xs : List V} (h : Kp G' H' a (.lst xs)) : H' a = some (.lst xs) := h.is fun q => by
  rcases q with ⟨_, q⟩ | ⟨_, q⟩ <;> cases q
theorem Kp.some {G' H' : Hp} {a : Addr} {o : HO} (h : Kp G' H' a o) : ∃ o', H' a = some o' := by
  rcases h with h | ⟨od, h, _⟩
  · exact ⟨_, h⟩
  · exact ⟨_, h⟩
theorem Kp.on {G1 G2 H' : Hp} {a : Addr} {o : HO} (h : Kp G1 H' a o) (e : RLe G1 G2) : Kp G2 H' a o := h.imp_right fun ⟨od, x, q, u, hu⟩ => ⟨od, x, q, e.dom _ _ hu⟩
theorem Kp.trans {G1 H1 G2 H2 : Hp} {a : Addr} {o : HO} (h : Kp G1 H1 a o) (e : RLe G1 G2) (k : ∀ o, H1 a = Option.some o → Kp G2 H2 a o) : Kp G2 H2 a o := by
  rcases h with h | ⟨od, h, q, u, hu⟩
  · exact k o h
  · rcases k _ h with h2 | ⟨od', _, q2, _⟩
    · exact .inr ⟨od, h2, q, e.dom _ _ hu⟩
    · rcases q2 with ⟨_, q2⟩ | ⟨_, q2⟩ <;> cases q2
/-- an owned container is not free to be frozen by a step -/
theorem noFr0 {H G' H' : Hp} {p : Addr} {u : HO} (hu : H p = some u) (nt : ∀ xs, u ≠ .tup xs) (keep : ∀ o, H p = some o → Kp G' H' p o) (sub : Same G' H') (z : Fr H G' p) : False := by
  rcases z with z | ⟨xs, z⟩
  · rw [hu] at z; cases z
  · have e := sub _ _ z
    rcases keep u hu with k | ⟨od, k, _⟩
    · rw [k] at e; cases e; exact nt _ rfl
    · rw [k] at e; cases e
/-- values alone: new objects, nothing changed -/
structure StepV (G H G' H' : Hp) : Prop where
  same : RLe G G'
  sub : Same G' H'
  new : ∀ a o, G' a = some o → (∃ u, G a = some u) ∨ Fr H G' a
  keep : ∀ a o, H a = some o → Kp G' H' a o
structure Stp (K : PySem.W.Frag) (σ : L2.St) (G H : Hp) (ρ : Rho) (G' H' : Hp) (ρ' : Rho) : Prop where
  env : EnvR K G' H' σ ρ'
  same : RLe G G'
  new : ∀ a o, G' a = some o → (∃ u, G a = some u) ∨ Fr H G' a ∨ root H σ ρ a
  keep : ∀ a o, H a = some o → ¬ root H σ ρ a → Kp G' H' a o
  roots : ∀ a, root H' σ ρ' a → root H σ ρ a
  there : ∀ a, H' a = none → H a = none
/-- the value that came: frozen data, or a new container of one's own -/
def ResV (K : PySem.W.Frag) (G' H H' : Hp) (v : V) : Sl → Prop
  | .fz d => Rp K G' v d
  | .ow d => ∃ p, v = .ref p ∧ H p = none ∧ G' p = none ∧ Own K G' H' p d
  | .o2 d => ∃ p, v = .ref p ∧ (∀ a, a = p ∨ inner H' p a → H a = none ∧ G' a = none) ∧ Own2 K G' H' p d
section
variable {K : PySem.W.Frag} {G H G' H' G1 H1 G2 H2 : Hp} {σ : L2.St} {ρ ρ' ρ1 ρ2 : Rho}
theorem EnvR.root_own (E : EnvR K G H σ ρ) {a : Addr} (r : root H σ ρ a) : G a = none ∧ ∃ o, H a = some o ∧ ∀ xs, o ≠ .tup xs := by
  obtain ⟨i, s, p, e1, e2, m⟩ := r
  have nf : ∀ d, s ≠ .fz d := fun d z => by subst z; exact m
  obtain ⟨p', q1, q2, q3⟩ := E.os i s e2 nf
  rw [e1] at q1
  cases q1
  exact ⟨q2 a m, q3.there m⟩
theorem EnvR.root_there (E : EnvR K G H σ ρ) {a : Addr} (r : root H σ ρ a) : ∃ o, H a = some o :=
  let ⟨_, o, h, _⟩ := E.root_own r
  ⟨o, h⟩
theorem StepV.free (S : StepV G H G' H') {a : Addr} (h : H' a = none) : H a = none := by
  cases z : H a with
  | none => rfl
  | some o =>
    obtain ⟨o', e⟩ := (S.keep a o z).some
    rw [h] at e; cases e
/-- what is one's own is let be by a step of values -/
theorem StepV.own (S : StepV G H G' H') {a : Addr} {o : HO} (g : G a = none) (e : H a = some o) (nt : ∀ xs, o ≠ .tup xs) : G' a = none ∧ H' a = some o := by
  have g' : G' a = none := by
    cases h : G' a with
    | none => rfl
    | some u =>
      rcases S.new a u h with ⟨u, z⟩ | z
      · rw [g] at z; cases z
      · exact (noFr0 e nt (fun o h => S.keep _ _ h) S.sub z).elim
  exact ⟨g', (S.keep a o e).at g'⟩
/-- own things that stand as they did -/
theorem EnvR.stays (E : EnvR K G H σ ρ) (e : RLe G G') (sub : Same G' H') (k : ∀ a, root H σ ρ a → G' a = none ∧ ∀ o, H a = some o → H' a = some o) : EnvR K G' H' σ ρ ∧ ∀ a, root H' σ ρ a ↔ root H σ ρ a := by
  have st : ∀ (i : Nat) (s : Sl) (p : Addr), ρ[i]? = some (some s) → σ[i]? = some (some (V.ref p)) → ∀ a, s.In H' p a ↔ s.In H p a := fun i s p h h' a => by
    cases s with
    | fz d => exact Iff.rfl
    | ow d => exact Iff.rfl
    | o2 d =>
      obtain ⟨q, e1, g, o⟩ := E.os i _ h nofun
      rw [h'] at e1
      cases e1
      obtain ⟨u, hu, _⟩ := o.there o.inSelf
      exact Sl.in_eq (s := .o2 d) (k p ⟨i, _, p, h', h, .inl rfl⟩).2 ⟨u, hu⟩
  refine ⟨⟨sub, E.len, fun i d h => ?_, fun i s h nf => ?_, fun i j s t p q a h1 h2 h3 h4 m1 m2 => E.apx i j s t p q a h1 h2 h3 h4 ((st i s p h1 h3 a).mp m1) ((st j t q h2 h4 a).mp m2)⟩, fun a => ⟨fun ⟨i, s, p, e1, e2, m⟩ => ⟨i, s, p, e1, e2, (st i s p e2 e1 a).mp m⟩, fun ⟨i, s, p, e1, e2, m⟩ => ⟨i, s, p, e1, e2, (st i s p e2 e1 a).mpr m⟩⟩⟩
  · obtain ⟨v, q, r⟩ := E.fz i d h
    exact ⟨v, q, r.mono e⟩
  · obtain ⟨p, q1, q2, q3⟩ := E.os i s h nf
    exact ⟨p, q1, fun a m => (k a ⟨i, s, p, q1, h, (st i s p h q1 a).mp m⟩).1, q3.mono e fun a m o hu => (k a ⟨i, s, p, q1, h, m⟩).2 o hu⟩
theorem EnvR.ext' (E : EnvR K G H σ ρ) (S : StepV G H G' H') : EnvR K G' H' σ ρ ∧ ∀ a, root H' σ ρ a ↔ root H σ ρ a :=
  E.stays S.same S.sub fun a r => by
    obtain ⟨g, o, e, nt⟩ := E.root_own r
    obtain ⟨g', e'⟩ := S.own g e nt
    exact ⟨g', fun u hu => by rw [e] at hu; cases hu; exact e'⟩
theorem EnvR.ext (E : EnvR K G H σ ρ) (S : StepV G H G' H') : EnvR K G' H' σ ρ := (E.ext' S).1
theorem Stp.refl (E : EnvR K G H σ ρ) : Stp K σ G H ρ G H ρ := ⟨E, .refl _, fun _ o h => .inl ⟨o, h⟩, fun _ _ h _ => .of h, fun _ h => h, fun _ h => h⟩
theorem Stp.ofV (E : EnvR K G H σ ρ) (S : StepV G H G' H') : Stp K σ G H ρ G' H' ρ :=
  ⟨E.ext S, S.same, fun a o h => (S.new a o h).elim .inl fun z => .inr (.inl z), fun a o h _ => S.keep _ _ h, fun a h => ((E.ext' S).2 a).mp h, fun a h => S.free h⟩
theorem Stp.trans (A : Stp K σ G H ρ G1 H1 ρ1) (E : EnvR K G H σ ρ) (B : Stp K σ G1 H1 ρ1 G2 H2 ρ2) : Stp K σ G H ρ G2 H2 ρ2 := by
  refine ⟨B.env, A.same.trans B.same, fun a o h => ?_, fun a o h n => ?_, fun a r => A.roots a (B.roots a r), fun a h => A.there a (B.there a h)⟩
  · rcases B.new a o h with ⟨u, z⟩ | z | z
    · rcases A.new a u z with z | z | z
      · exact .inl z
      · exact .inr (.inl (z.on B.same))
      · exact .inr (.inr z)
    · exact .inr (.inl (z.back (A.there a)))
    · exact .inr (.inr (A.roots a z))
  · exact (A.keep a o h n).trans B.same fun o h => B.keep a o h fun r => n (A.roots a r)
theorem Stp.ext (A : Stp K σ G H ρ G1 H1 ρ1) (E : EnvR K G H σ ρ) (B : StepV G1 H1 G2 H2) : Stp K σ G H ρ G2 H2 ρ1 := A.trans E (.ofV A.env B)
theorem ResV.back {v : V} {r : Sl} (h : ResV K G' H1 H' v r) (t : ∀ a, H1 a = none → H a = none) : ResV K G' H H' v r := by
  cases r with
  | fz d => exact h
  | ow d => obtain ⟨p, e, n, q⟩ := h; exact ⟨p, e, t _ n, q⟩
  | o2 d => obtain ⟨p, e, n, q⟩ := h; exact ⟨p, e, fun a m => ⟨t _ (n a m).1, (n a m).2⟩, q⟩
open Classical in
/-- the things of A frozen -/
noncomputable def frzG (G H : Hp) (A : Addr → Prop) : Hp := fun a => if A a then H a else G a
theorem frzG_in {A : Addr → Prop} {a : Addr} (m : A a) : frzG G H A a = H a := by unfold frzG; rw [if_pos m]
theorem frzG_out {A : Addr → Prop} {a : Addr} (m : ¬ A a) : frzG G H A a = G a := by unfold frzG; rw [if_neg m]
theorem frzG_same {A : Addr → Prop} (g : ∀ a, A a → G a = none) : Same G (frzG G H A) := fun b u e => by
  rw [frzG_out fun m => by rw [g b m] at e; cases e]; exact e
theorem frzG_sub {A : Addr → Prop} (sub : Same G H) : Same (frzG G H A) H := fun b u e => by
  by_cases m : A b
  · rw [frzG_in m] at e; exact e
  · rw [frzG_out m] at e; exact sub _ _ e
theorem ResV.own {v : V} {r : Sl} (h : ResV K G' H H' v r) (nf : ∀ d, r ≠ .fz d) : ∃ p, v = .ref p ∧ (∀ a, r.In H' p a → H a = none ∧ G' a = none) ∧ Occ K G' H' p r := by
  cases r with
  | fz d => exact (nf d rfl).elim
  | ow d => obtain ⟨p, e, n, g, q⟩ := h; exact ⟨p, e, fun a m => by cases (show a = p from m); exact ⟨n, g⟩, q⟩
  | o2 d => exact h
/-- frozen where it stands -/
theorem ResV.frz {v : V} {r : Sl} (h : ResV K G' H H' v r) (E : EnvR K G H σ ρ) (S : Stp K σ G H ρ G' H' ρ') : ∃ G'', Stp K σ G H ρ G'' H' ρ' ∧ Rp K G'' v r.d ∧ Same G' G'' := by
  by_cases hf : ∃ d, r = .fz d
  · obtain ⟨d, rfl⟩ := hf
    exact ⟨G', S, h, .refl _⟩
  · have nf : ∀ d, r ≠ .fz d := fun d e => hf ⟨d, e⟩
    obtain ⟨p, rfl, n, ow⟩ := h.own nf
    have sm : Same G' (frzG G' H' (r.In H' p)) := frzG_same fun a m => (n a m).2
    have nr : ∀ a, root H' σ ρ' a → ¬ r.In H' p a := fun a z m => by
      obtain ⟨u, hu⟩ := E.root_there (S.roots _ z)
      rw [(n a m).1] at hu; cases hu
    obtain ⟨E', _⟩ := S.env.stays sm (frzG_sub S.env.sub) fun a z => ⟨by rw [frzG_out (nr a z)]; exact (S.env.root_own z).1, fun _ e => e⟩
    refine ⟨frzG G' H' (r.In H' p), ⟨E', S.same.trans sm, fun a u e => ?_, fun a o h n => (S.keep a o h n).on sm, S.roots, S.there⟩, ow.frz sm fun a m o e => by rw [frzG_in m]; exact e, sm⟩
    by_cases hb : r.In H' p a
    · exact .inr (.inl (.inl (n a hb).1))
    · rw [frzG_out hb] at e
      rcases S.new a u e with z | z | z
      · exact .inl z
      · exact .inr (.inl (z.on sm))
      · exact .inr (.inr z)
/-- an owned slot frozen -/
theorem EnvR.freezeS (E : EnvR K G H σ ρ) {i : Nat} {s : Sl} (h : ρ[i]? = some (some s)) (nf : ∀ d, s ≠ .fz d) : ∃ p G', σ[i]? = some (some (V.ref p)) ∧ Stp K σ G H ρ G' H (ρ.set i (some (.fz s.d))) ∧ Rp K G' (.ref p) s.d := by
  obtain ⟨p, e1, g, ow⟩ := E.os i s h nf
  have sm : Same G (frzG G H (s.In H p)) := frzG_same g
  have hi : i < ρ.length := (List.getElem?_eq_some_iff.mp h).1
  have rp : Rp K (frzG G H (s.In H p)) (.ref p) s.d := ow.frz sm fun a m u e => by rw [frzG_in m]; exact e
  have back : ∀ (j : Nat) (t : Sl) (q a : Addr), (ρ.set i (some (.fz s.d)))[j]? = some (some t) → t.In H q a → j ≠ i ∧ ρ[j]? = some (some t) := fun j t q a w m => by
    by_cases hj : j = i
    · subst hj; rw [List.getElem?_set_self hi] at w; cases w; exact m.elim
    · rw [List.getElem?_set_ne (Ne.symm hj)] at w; exact ⟨hj, w⟩
  refine ⟨p, _, e1, ⟨⟨frzG_sub E.sub, by simpa using E.len, fun j e q => ?_, fun j t q nt => ?_, fun j k t u q q' a hj hk a1 a2 m1 m2 => ?_⟩, sm, fun a u e => ?_, fun a u e _ => .of e, fun a r => ?_, fun a e => e⟩, rp⟩
  · by_cases hj : j = i
    · subst hj
      rw [List.getElem?_set_self hi] at q
      cases q
      exact ⟨_, e1, rp⟩
    · rw [List.getElem?_set_ne (Ne.symm hj)] at q
      obtain ⟨v, q1, r⟩ := E.fz j e q
      exact ⟨v, q1, r.mono sm⟩
  · by_cases hj : j = i
    · subst hj; rw [List.getElem?_set_self hi] at q; cases q; exact (nt _ rfl).elim
    · rw [List.getElem?_set_ne (Ne.symm hj)] at q
      obtain ⟨x, q1, q2, q3⟩ := E.os j t q nt
      refine ⟨x, q1, fun a m => ?_, q3.mono sm fun a m o e => e⟩
      rw [frzG_out fun m' => hj (E.apx j i t s x p a q h q1 e1 m m')]
      exact q2 a m
  · exact E.apx j k t u q q' a (back j t q a hj m1).2 (back k u q' a hk m2).2 a1 a2 m1 m2
  · by_cases hb : s.In H p a
    · exact .inr (.inr ⟨i, s, p, e1, h, hb⟩)
    · rw [frzG_out hb] at e; exact .inl ⟨u, e⟩
  · obtain ⟨j, t, q, q1, q2, m⟩ := r
    exact ⟨j, t, q, q1, (back j t q a q2 m).2, m⟩
theorem EnvR.freeze (E : EnvR K G H σ ρ) {i : Nat} {d : D} (h : ρ[i]? = some (some (Sl.ow d))) : ∃ p G', σ[i]? = some (some (V.ref p)) ∧ Stp K σ G H ρ G' H (ρ.set i (some (.fz d))) ∧ Rp K G' (.ref p) d := E.freezeS h nofun
theorem EnvR.freeze2 (E : EnvR K G H σ ρ) {i : Nat} {d : D} (h : ρ[i]? = some (some (Sl.o2 d))) : ∃ p G', σ[i]? = some (some (V.ref p)) ∧ Stp K σ G H ρ G' H (ρ.set i (some (.fz d))) ∧ Rp K G' (.ref p) d := E.freezeS h nofun
/-- a new frozen object -/
theorem StepV.new1 {p : Addr} {o : HO} (sub : Same G H) (n : H p = none) : StepV G H (upd G p o) (upd H p o) := by
  have g : G p = none := sub.free n
  have sm : Same G (upd G p o) := fun b u e => by rw [upd_ne (ne_of_none e g)]; exact e
  refine ⟨sm, fun b u e => ?_, fun a u e => ?_, fun b u e => .of (by rw [upd_ne (ne_of_none e n)]; exact e)⟩
  · by_cases hb : b = p
    · subst hb; rw [upd_same] at e ⊢; exact e
    · rw [upd_ne hb] at e ⊢; exact sub _ _ e
  · by_cases hb : a = p
    · subst hb; exact .inr (.inl n)
    · rw [upd_ne hb] at e; exact .inl ⟨u, e⟩
/-- a new object of one's own -/
theorem StepV.new0 {p : Addr} {o : HO} (sub : Same G H) (n : H p = none) : StepV G H G (upd H p o) :=
  ⟨.refl _, fun b u e => by rw [upd_ne (ne_of_none (sub _ _ e) n)]; exact sub _ _ e, fun a u e => .inl ⟨u, e⟩, fun b u e => .of (by rw [upd_ne (ne_of_none e n)]; exact e)⟩
/-- a tuple that stands is taken among the frozen -/
theorem StepV.adopt {p : Addr} {xs : List V} (sub : Same G H) (h : H p = some (.tup xs)) : ∃ G', StepV G H G' H ∧ G' p = some (.tup xs) := by
  cases g : G p with
  | some o =>
    have := sub _ _ g
    rw [h] at this
    cases this
    exact ⟨G, ⟨.refl _, sub, fun a u e => .inl ⟨u, e⟩, fun b u e => .of e⟩, g⟩
  | none =>
    have sm : Same G (upd G p (.tup xs)) := fun b u e => by rw [upd_ne (ne_of_none e g)]; exact e
    refine ⟨upd G p (.tup xs), ⟨sm, fun b u e => ?_, fun a u e => ?_, fun b u e => .of e⟩, upd_same⟩
    · by_cases hb : b = p
      · subst hb; rw [upd_same] at e; rw [← e]; exact h
      · rw [upd_ne hb] at e; exact sub _ _ e
    · by_cases hb : a = p
      · subst hb; exact .inr (.inr ⟨xs, upd_same⟩)
      · rw [upd_ne hb] at e; exact .inl ⟨u, e⟩
theorem StepV.refl (sub : Same G H) : StepV G H G H := ⟨.refl _, sub, fun _ o e => .inl ⟨o, e⟩, fun _ _ e => .of e⟩
theorem StepV.trans (A : StepV G H G1 H1) (B : StepV G1 H1 G2 H2) : StepV G H G2 H2 := by
  refine ⟨A.same.trans B.same, B.sub, fun a o e => ?_, fun a o e => (A.keep a o e).trans B.same fun o h => B.keep a o h⟩
  rcases B.new a o e with ⟨u, z⟩ | z
  · rcases A.new a u z with z | z
    · exact .inl z
    · exact .inr (z.on B.same)
  · exact .inr (z.back A.free)
end
def tM (K : PySem.W.Frag) (m : M Sl) : TE := fun σ H Q => ∃ G ρ r ρ', EnvR K G H σ ρ ∧ m ρ = some (r, ρ') ∧ ∀ v H' G', Stp K σ G H ρ G' H' ρ' → ResV K G' H H' v r → Q v H'
def tMT (K : PySem.W.Frag) (m : M Bool) : TT := fun σ H Q => ∃ G ρ b ρ', EnvR K G H σ ρ ∧ m ρ = some (b, ρ') ∧ ∀ H' G', Stp K σ G H ρ G' H' ρ' → Q b H'
/-- arguments: frozen all -/
def tMA (K : PySem.W.Frag) (m : M (List D)) : TA := fun σ H Q => ∃ G ρ ds ρ', EnvR K G H σ ρ ∧ m ρ = some (ds, ρ') ∧ ∀ vs H' G', Stp K σ G H ρ G' H' ρ' → RpAll K G' vs ds → Q vs H'
theorem imE {X : Cx} {e : Expr} {t t' : TE} (h : PE X e t) (i : ∀ σ H Q, t' σ H Q → t σ H Q) : PE X e t' := ⟨fun pins s σ H Q I q => h.run pins s σ H Q I (i σ H Q q)⟩
theorem imT {X : Cx} {e : Expr} {t t' : TT} (h : PT X e t) (i : ∀ σ H Q, t' σ H Q → t σ H Q) : PT X e t' := ⟨fun pins s σ H Q I q => h.run pins s σ H Q I (i σ H Q q)⟩
theorem imW {X : Cx} {e : Expr} {t t' : TT} (h : PW X e t) (i : ∀ σ H Q, t' σ H Q → t σ H Q) : PW X e t' := ⟨fun w pins s σ H Q I q => h.run w pins s σ H Q I (i σ H Q q)⟩
theorem imA {X : Cx} {e : List Expr} {t t' : TA} (h : PA X e t) (i : ∀ σ H Q, t' σ H Q → t σ H Q) : PA X e t' := ⟨fun w pins s σ H Q I q => h.run w pins s σ H Q I (i σ H Q q)⟩
theorem imS {X : Cx} {e : Stmt} {t t' : TS} (h : PS X e t) (i : ∀ D σ H, t' D σ H → t D σ H) : PS X e t' := ⟨fun pins s σ H Q I q => h.run pins s σ H Q I (i Q σ H q)⟩
theorem imSs {X : Cx} {e : List Stmt} {t t' : TS} (h : PSs X e t) (i : ∀ D σ H, t' D σ H → t D σ H) : PSs X e t' := ⟨fun pins s σ H Q I q => h.run pins s σ H Q I (i Q σ H q)⟩
/-- judgements -/
abbrev FE (X : Cx) (e : Expr) (m : M Sl) : Prop := PE X e (tM X.K m)
abbrev FT (X : Cx) (e : Expr) (m : M Bool) : Prop := PT X e (tMT X.K m)
abbrev FW (X : Cx) (e : Expr) (m : M Bool) : Prop := PW X e (tMT X.K m)
abbrev FA (X : Cx) (es : List Expr) (m : M (List D)) : Prop := PA X es (tMA X.K m)
def r2D (K : PySem.W.Frag) (f : D → D → Option Sl) : R2 := fun x y H Q => ∃ G dx dy r, Same G H ∧ Rp K G x dx ∧ Rp K G y dy ∧ f dx dy = some r ∧ ∀ v H' G', StepV G H G' H' → ResV K G' H H' v r → Q v H'
def rLD (K : PySem.W.Frag) (f : List D → Option Sl) : List V → Hp → VK → Prop := fun xs H Q => ∃ G ds r, Same G H ∧ RpAll K G xs ds ∧ f ds = some r ∧ ∀ v H' G', StepV G H G' H' → ResV K G' H H' v r → Q v H'
def bindM {α β : Type} (m : M α) (f : α → M β) : M β := fun ρ => (m ρ).bind fun p => f p.1 p.2
def pureM {α : Type} (a : α) : M α := fun ρ => some (a, ρ)
def liftM {α : Type} (o : Option α) : M α := fun ρ => o.map fun a => (a, ρ)
theorem bindM_some {α β : Type} {m : M α} {f : α → M β} {ρ ρ' : Rho} {b : β} (h : bindM m f ρ = some (b, ρ')) : ∃ a ρ1, m ρ = some (a, ρ1) ∧ f a ρ1 = some (b, ρ') := by
  unfold bindM at h
  cases e : m ρ with
  | none => rw [e] at h; cases h
  | some p => rw [e] at h; exact ⟨p.1, p.2, rfl, h⟩
theorem liftM_some {α : Type} {o : Option α} {ρ ρ' : Rho} {b : α} (h : liftM o ρ = some (b, ρ')) : o = some b ∧ ρ' = ρ := by
  unfold liftM at h
  cases o with
  | none => cases h
  | some a => cases h; exact ⟨rfl, rfl⟩
theorem pureM_some {α : Type} {a b : α} {ρ ρ' : Rho} (h : pureM a ρ = some (b, ρ')) : b = a ∧ ρ' = ρ := by
  cases h; exact ⟨rfl, rfl⟩
def bin (f : D → D → Option Sl) (a b : M Sl) : M Sl := bindM a fun x => bindM b fun y => liftM (f x.d y.d)
def una (f : D → Option Sl) (a : M Sl) : M Sl := bindM a fun x => liftM (f x.d)
section
variable {X : Cx} {a b c : Expr} {ma mb mc : M Sl} {pos : Pos}
/-- two values, then a rule -/
theorem two {K : PySem.W.Frag} {f : D → D → Option Sl} {σ : L2.St} {H : Hp} {Q : VK} (h : tM K (bin f ma mb) σ H Q) : tOp (r2D K f) (tM K ma) (tM K mb) σ H Q := by
  obtain ⟨G, ρ, r, ρ', E, hm, q⟩ := h
  obtain ⟨x, ρ1, e1, h2⟩ := bindM_some hm
  obtain ⟨y, ρ2, e2, h3⟩ := bindM_some h2
  obtain ⟨e3, rfl⟩ := liftM_some h3
  refine ⟨G, ρ, x, ρ1, E, e1, fun v H1 G1 S1 r1 => ?_⟩
  obtain ⟨G1', S1', p1, _⟩ := r1.frz E S1
  refine ⟨G1', ρ1, y, ρ', S1'.env, e2, fun u H2 G2 S2 r2 => ?_⟩
  obtain ⟨G2', S2', p2, _⟩ := r2.frz S1'.env S2
  refine ⟨G2', x.d, y.d, r, S2'.env.sub, p1.mono S2'.same, p2, e3, fun z H3 G3 S3 r3 => ?_⟩
  have T := S1'.trans E S2'
  exact q z H3 G3 (T.ext E S3) (r3.back T.there)
theorem fe_op {op : Operator} {f : D → D → Option Sl} (ho : OpR X (binaryOp op) (r2D X.K f)) (ha : FE X a ma) (hb : FE X b mb) : FE X (.BinOp a op b pos) (bin f ma mb) := imE (pe_op ho ha hb) fun _ _ _ => two
theorem fe_cmp {op : CmpOp} {f : D → D → Option Sl} (ho : OpR X (compareOp op) (r2D X.K f)) (ha : FE X a ma) (hb : FE X b mb) (hm : behindInMarks op b = false) : FE X (.Compare a [op] [b] pos) (bin f ma mb) := imE (pe_cmpR ho ha hb hm) fun _ _ _ => two
def varM (i : Nat) : M Sl := fun ρ => match ρ[i]? with
  | some (some (.fz d)) => some (.fz d, ρ)
  | some (some (.ow d)) => some (.fz d, ρ.set i (some (.fz d)))
  | some (some (.o2 d)) => some (.fz d, ρ.set i (some (.fz d)))
  | _ => none
def cM (d : D) : M Sl := pureM (.fz d)
theorem fe_var (i : Nat) {x : Str} {pos : Pos} (hN : X.N[i]? = some x := by rfl) (hv : Vis X.env.scope x := by first | exact Or.inl rfl | exact Or.inr (Or.inl rfl) | exact Or.inr (Or.inr rfl)) (hd : (x == ("__debug__" : Str)) = false := by decide)
    (hcd : (x == ("__classdict__" : Str)) = false := by decide) : FE X (.Name x pos) (varM i) := imE (pe_var (i := i) hN hv hd hcd) fun σ H Q h => by
  obtain ⟨G, ρ, r, ρ', E, hm, q⟩ := h
  unfold varM at hm
  split at hm
  · cases hm
    rename_i d e
    obtain ⟨v, e1, r1⟩ := E.fz i d e
    exact ⟨v, e1, q v H G (.refl E) r1⟩
  · cases hm
    rename_i d e
    obtain ⟨p, G', e1, S, r1⟩ := E.freeze e
    exact ⟨_, e1, q _ H G' S r1⟩
  · cases hm
    rename_i d e
    obtain ⟨p, G', e1, S, r1⟩ := E.freeze2 e
    exact ⟨_, e1, q _ H G' S r1⟩
  · cases hm
theorem fe_const {e : Expr} {v : V} {d : D} (h : PE X e (tC v)) (r : ∀ G, Rp X.K G v d) : FE X e (cM d) := imE h fun σ H Q hq => by
  obtain ⟨G, ρ, r', ρ', E, hm, q⟩ := hq
  cases hm
  exact q v H G (.refl E) (r G)
theorem fe_int {i j pos} : FE X (.Constant (.int i) j pos) (cM (.int i)) := fe_const pe_int fun _ => .int i
theorem fe_bl {i j pos} : FE X (.Constant (.bool i) j pos) (cM (.bool i)) := fe_const pe_bl fun _ => .bl i
theorem fe_str {i j pos} : FE X (.Constant (.str i) j pos) (cM (.str i)) := fe_const pe_str fun _ => .str i
def nilM : M (List D) := pureM []
def consM (a : M Sl) (r : M (List D)) : M (List D) := bindM a fun x => bindM r fun xs => pureM (x.d :: xs)
theorem fa_nil : FA X [] nilM := imA pa_nil fun σ H Q h => by
  obtain ⟨G, ρ, r', ρ', E, hm, q⟩ := h
  cases hm
  exact q [] H G (.refl E) .nil
theorem fa_cons {es : List Expr} {mr : M (List D)} (ha : FE X a ma) (hr : FA X es mr) (hs : starEach (a :: es) X.env = (false, eval a X.env) :: starEach es X.env := by rfl) : FA X (a :: es) (consM ma mr) := imA (pa_cons ha hr hs) fun σ H Q h => by
  obtain ⟨G, ρ, r, ρ', E, hm, q⟩ := h
  obtain ⟨x, ρ1, e1, h2⟩ := bindM_some hm
  obtain ⟨y, ρ2, e2, h3⟩ := bindM_some h2
  obtain ⟨rfl, rfl⟩ := pureM_some h3
  refine ⟨G, ρ, x, ρ1, E, e1, fun v H1 G1 S1 r1 => ?_⟩
  obtain ⟨G1', S1', p1, _⟩ := r1.frz E S1
  exact ⟨G1', ρ1, y, ρ', S1'.env, e2, fun u H2 G2 S2 r2 => q _ H2 G2 (S1'.trans E S2) (.cons (p1.mono S2.same) r2)⟩
def tupM (m : M (List D)) : M Sl := bindM m fun xs => liftM (if xs.length ≤ sizeLine then some (.fz (.tuple xs)) else none)
def lstM (m : M (List D)) : M Sl := bindM m fun xs => liftM (if xs.length ≤ sizeLine then some (.ow (.list xs)) else none)
theorem ite_some {α : Type} {p : Prop} [Decidable p] {a b : α} (h : (if p then some a else none) = some b) : p ∧ b = a := by
  by_cases hp : p
  · rw [if_pos hp] at h; cases h; exact ⟨hp, rfl⟩
  · rw [if_neg hp] at h; cases h
/-- a tuple display, its object told wholly where that is asked for -/
theorem pe_tupW {es : List Expr} {t : TA} {x1} (h : PA X es t) : PE X (.Tuple es x1 pos) (fun σ H Q => t σ H fun xs H1 => xs.length ≤ sizeLine ∧ ∀ p, H1 p = none → Q (.ref p) (upd H1 p (.tup xs)) ∨ ∀ ob : Obj, ob.dict = none → Q (.ref p) (upd H1 p (.frz ob (.tup xs)))) := by
  constructor
  intro pins s σ H Q I hq
  apply wpAny_Tuple_spliced
  refine thn (h.run pos pins s σ H _ I hq) ?_
  rintro us s1 ⟨xs, H1, I1, rv, z, q⟩
  have len := rv.length
  refine ⟨by omega, ?_⟩
  have new : s1.heap.objs.size ≤ s1.heap.objs.size := Nat.le_refl _
  have hf : H1 s1.heap.objs.size = none := I1.hok.fresh new
  let ob : Obj := { cls := .type "tuple", data := .seq us.toArray }
  have got : (s1.heap.push ob).get? s1.heap.objs.size = some ob := Heap.get?_push_size _ rfl
  have old : ∀ b u, s1.heap.get? b = some u → (s1.heap.push ob).get? b = some u := fun b u e => Heap.get?_push_of_some _ e
  rcases q _ hf with q | q
  · exact ⟨.ref s1.heap.objs.size, _, I1.laid (t' := s1.toks) (o := .tup xs) old new ⟨z, us, rv, ob, got, rfl, _, rfl⟩, rfl, q⟩
  · exact ⟨.ref s1.heap.objs.size, _, I1.laid (t' := s1.toks) (o := .frz ob (.tup xs)) old new ⟨got, z, us, rv, ob, got, rfl, _, rfl⟩, rfl, q ob rfl⟩
/-- a new tuple, laid as its data ask -/
theorem tup_new {K : PySem.W.Frag} {G H : Hp} {p : Addr} {xs : List V} {ds : List D} (sub : Same G H) (hp : H p = none) (t : tagT ds = false) (r : RpAll K G xs ds) : ∃ G', StepV G H G' (upd H p (.tup xs)) ∧ Rp K G' (.ref p) (.tuple ds) := by
  have V := StepV.new1 (o := .tup xs) sub hp
  exact ⟨_, V, .tup (.of t upd_same) (r.mono V.same)⟩
theorem tup_newW {K : PySem.W.Frag} {G H : Hp} {p : Addr} {xs : List V} {ds : List D} {P : Hp → Prop} (sub : Same G H) (hp : H p = none) (r : RpAll K G xs ds) (q : ∀ G' H', StepV G H G' H' → Rp K G' (.ref p) (.tuple ds) → P H') : P (upd H p (.tup xs)) ∨ ∀ ob : Obj, ob.dict = none → P (upd H p (.frz ob (.tup xs))) := by
  cases t : tagT ds with
  | false =>
    obtain ⟨G', V, r'⟩ := tup_new sub hp t r
    exact .inl (q _ _ V r')
  | true =>
    refine .inr fun ob hz => ?_
    have V := StepV.new1 (o := .frz ob (.tup xs)) sub hp
    exact q _ _ V (.tup (.inr ⟨t, ob, upd_same, hz⟩) (r.mono V.same))
theorem fe_tup {es : List Expr} {m : M (List D)} {x1} (h : FA X es m) : FE X (.Tuple es x1 pos) (tupM m) := imE (pe_tupW h) fun σ H Q h => by
  obtain ⟨G, ρ, r, ρ', E, hm, q⟩ := h
  obtain ⟨xs, ρ1, e1, h2⟩ := bindM_some hm
  obtain ⟨e3, rfl⟩ := liftM_some h2
  obtain ⟨hz, rfl⟩ := ite_some e3
  refine ⟨G, ρ, xs, ρ', E, e1, fun vs H1 G1 S1 r1 => ⟨by rw [r1.length]; exact hz, fun p hp => ?_⟩⟩
  exact tup_newW (P := fun H' => Q (.ref p) H') S1.env.sub hp r1 fun G2 H2 V r2 => q _ _ _ (S1.ext E V) r2
theorem fe_lst {es : List Expr} {m : M (List D)} (h : FA X es m) : FE X (.List es pos) (lstM m) := imE (pe_lst h) fun σ H Q h => by
  obtain ⟨G, ρ, r, ρ', E, hm, q⟩ := h
  obtain ⟨xs, ρ1, e1, h2⟩ := bindM_some hm
  obtain ⟨e3, rfl⟩ := liftM_some h2
  obtain ⟨hz, rfl⟩ := ite_some e3
  refine ⟨G, ρ, xs, ρ', E, e1, fun vs H1 G1 S1 r1 => ⟨by rw [r1.length]; exact hz, fun p hp => ?_⟩⟩
  have V := StepV.new0 (o := .lst vs) S1.env.sub hp
  exact q _ _ _ (S1.ext E V) ⟨p, rfl, S1.there _ hp, S1.env.sub.free hp, vs, upd_same, r1⟩
def callM (f : List D → Option Sl) (m : M (List D)) : M Sl := bindM m fun xs => liftM (f xs)
theorem call_in {K : PySem.W.Frag} {f : List D → Option Sl} {m : M (List D)} {σ : L2.St} {H : Hp} {Q : VK} (h : tM K (callM f m) σ H Q) : tCB (rLD K f) (tMA K m) σ H Q := by
  obtain ⟨G, ρ, r, ρ', E, hm, q⟩ := h
  obtain ⟨xs, ρ1, e1, h2⟩ := bindM_some hm
  obtain ⟨e3, rfl⟩ := liftM_some h2
  refine ⟨G, ρ, xs, ρ', E, e1, fun vs H1 G1 S1 r1 => ?_⟩
  exact ⟨G1, xs, r, S1.env.sub, r1, e3, fun z H3 G3 S3 r3 => q z H3 G3 (S1.ext E S3) (r3.back S1.there)⟩
theorem fe_callB {x : Str} {p : Pos} {e : Expr} {es : List Expr} {id : String} {f : List D → Option Sl} {m : M (List D)} (hc : CallR X (.builtin id) (rLD X.K f)) (hg : Gl X x) (hm : X.mg x = none) (hv : bootBuiltins x = some (.builtin id)) (ha : FA X (e :: es) m) (hn : x ≠ "__name__" := by decide) (hdb : (x == ("__debug__" : Str)) = false := by decide)
    (he : starEach (e :: es) X.env = (false, eval e X.env) :: starEach es X.env := by rfl) (hpl : (backTo pos (starEach es X.env)).any (·.1) = false := by rfl) : FE X (.Call (.Name x p) (e :: es) [] pos) (callM f m) :=
  imE (pe_callB hc hg hm hv ha hn hdb he hpl) fun _ _ _ => call_in
theorem fe_callTy {x : Str} {p : Pos} {e : Expr} {es : List Expr} {T : String} {f : List D → Option Sl} {m : M (List D)} (hc : CallR X (.type T) (rLD X.K f)) (hg : Gl X x) (hm : X.mg x = none) (hv : bootBuiltins x = some (.type T)) (ha : FA X (e :: es) m) (hn : x ≠ "__name__" := by decide) (hdb : (x == ("__debug__" : Str)) = false := by decide)
    (he : starEach (e :: es) X.env = (false, eval e X.env) :: starEach es X.env := by rfl) (hpl : (backTo pos (starEach es X.env)).any (·.1) = false := by rfl) : FE X (.Call (.Name x p) (e :: es) [] pos) (callM f m) :=
  imE (pe_callTy hc hg hm hv ha hn hdb he hpl) fun _ _ _ => call_in
end
end Fx
namespace Fx
open PySem PySem.Spec PyProof.Rows L2
section
variable {X : Cx}
theorem opr_imp {f : Value → Value → Sem Value} {r r' : R2} (h : OpR X f r) (i : ∀ x y H Q, r' x y H Q → r x y H Q) : OpR X f r' := fun pins s σ H x y v u Q I rx ry q => h pins s σ H x y v u Q I rx ry (i _ _ _ _ q)
theorem callr_imp {f : Value} {r r' : List V → Hp → VK → Prop} (h : CallR X f r) (i : ∀ x H Q, r' x H Q → r x H Q) : CallR X f r' := fun pins s σ H x us Q I rx q => h pins s σ H x us Q I rx (i _ _ _ q)
def natLt (n m : Nat) : Bool := Nat.blt n m
def addD : D → D → Option Sl
  | .int i, .int j => some (.fz (.int (i + j)))
  | .str x, .str y => if x.length + y.length ≤ sizeLine then some (.fz (.str (x ++ y))) else none
  | .list xs, .list ys => if xs.length + ys.length ≤ sizeLine then some (.ow (.list (xs ++ ys))) else none
  | .tuple xs, .tuple ys => if xs.length + ys.length ≤ sizeLine ∧ tagT (xs ++ ys) = false then some (.fz (.tuple (xs ++ ys))) else none
  | _, _ => none
def subD : D → D → Option Sl
  | .int i, .int j => some (.fz (.int (i - j)))
  | _, _ => none
def mulD : D → D → Option Sl
  | .int i, .int j => if i.natAbs.log2 + j.natAbs.log2 < 1000000 then some (.fz (.int (i * j))) else none
  | _, _ => none
def fdivD : D → D → Option Sl
  | .int i, .int j => if 0 < j ∧ j.natAbs.log2 < 9000 then some (.fz (.int (i / j))) else none
  | _, _ => none
def modD : D → D → Option Sl
  | .int i, .int j => if 0 < j then some (.fz (.int (i % j))) else none
  | _, _ => none
def powD : D → D → Option Sl
  | .int i, .int j => if 0 ≤ j ∧ j ≤ 1000000 ∧ i.natAbs < 2 ^ 64 then some (.fz (.int (i ^ j.toNat))) else none
  | _, _ => none
def negD : D → Option Sl
  | .int i => some (.fz (.int (-i)))
  | _ => none
theorem rp_int {K : PySem.W.Frag} {G : Hp} {x : V} {i : Int} (h : Rp K G x (.int i)) : x = .int i := by cases h; rfl
theorem rp_str {K : PySem.W.Frag} {G : Hp} {x : V} {i : Str} (h : Rp K G x (.str i)) : x = .str i := by cases h; rfl
theorem rp_bl {K : PySem.W.Frag} {G : Hp} {x : V} {i : Bool} (h : Rp K G x (.bool i)) : x = .bl i := by cases h; rfl
theorem rp_non {K : PySem.W.Frag} {G : Hp} {x : V} (h : Rp K G x .none) : x = .non := by cases h; rfl
theorem rp_list {K : PySem.W.Frag} {G : Hp} {x : V} {ds : List D} (h : Rp K G x (.list ds)) : ∃ a xs, x = .ref a ∧ SqX K G a xs ∧ RpAll K G xs ds := by
  cases h with
  | lst s t => exact ⟨_, _, rfl, s, t⟩
theorem rp_tup {K : PySem.W.Frag} {G : Hp} {x : V} {ds : List D} (h : Rp K G x (.tuple ds)) : ∃ a xs, x = .ref a ∧ SqT K G a xs ∧ RpAll K G xs ds := by
  cases h with
  | tup s t => exact ⟨_, _, rfl, s.sqt, t⟩
theorem rp_tupG {K : PySem.W.Frag} {G : Hp} {x : V} {ds : List D} (h : Rp K G x (.tuple ds)) : ∃ a xs, x = .ref a ∧ TupG G a xs ds ∧ RpAll K G xs ds := by
  cases h with
  | tup s t => exact ⟨_, _, rfl, s, t⟩
theorem rp_tup' {K : PySem.W.Frag} {G : Hp} {x : V} {ds : List D} (h : Rp K G x (.tuple ds)) (n : tagT ds = false) : ∃ a xs, x = .ref a ∧ G a = some (.tup xs) ∧ RpAll K G xs ds := by
  cases h with
  | tup s t => exact ⟨_, _, rfl, s.got n, t⟩
theorem sqx_mono {K : PySem.W.Frag} {G H : Hp} {a : Addr} {xs : List V} (e : Same G H) (h : SqX K G a xs) : SqX K H a xs := (RLe.of e).sqx h
theorem sql_mono {K : PySem.W.Frag} {G H : Hp} {a : Addr} {xs : List V} (e : Same G H) (h : SqX K G a xs) : SqL K H a xs := ((RLe.of e).sqx h).sql
theorem sqt_mono {K : PySem.W.Frag} {G H : Hp} {a : Addr} {xs : List V} (e : Same G H) (h : SqT K G a xs) : SqT K H a xs := (RLe.of e).sqt h
theorem _root_.L2.Inv.listX {pins : List (Addr × Obj)} {σ : L2.St} {H : Hp} {s : Shared} {a : Addr} {xs : List V} (I : L2.Inv X pins σ H s) (h : SqX X.K H a xs) : ∃ (its : List Value) (n : Nat), Vals xs its ∧ s.heap.get? a = some { cls := .type "list", data := .seq its.toArray n } ∧ xs.length ≤ sizeLine := by
  rcases h with h | ⟨its, n, e, z, r⟩
  · obtain ⟨z, its, n, r, e⟩ := h.ok I.hok
    exact ⟨its, n, r, e, z⟩
  · refine ⟨its.toList, n, r, by simpa using I.kIn a _ e, ?_⟩
    have := r.length
    simp only [Array.length_toList] at this
    omega
/-- list + list, of any lists that are read -/
theorem op_catL : OpR X (binaryOp .Add) (fun x y H Q => ∃ l b xs zs, x = .ref l ∧ y = .ref b ∧ SqX X.K H l xs ∧ SqX X.K H b zs ∧ xs.length + zs.length ≤ sizeLine ∧ ∀ p, H p = none → Q (.ref p) (upd H p (.lst (xs ++ zs)))) := by
  intro pins s σ H x y v u Q I rx ry h
  obtain ⟨l, b, xs, zs, rfl, rfl, hH, hB, hz, q⟩ := h
  cases rx
  cases ry
  obtain ⟨its, n, r, e, z⟩ := I.listX hH
  obtain ⟨its2, n2, r2, e2, z2⟩ := I.listX hB
  have hl := r.length
  have hl2 := r2.length
  refine PySem.P.add_list e e2 ?_ (by rw [List.size_toArray, List.size_toArray]; omega)
  have ea : its.toArray ++ its2.toArray = (its ++ its2).toArray := by simp
  rw [ea]
  exact ⟨.ref _, _, I.lnew (t' := s.toks) (r.append r2) (by rw [List.length_append]; omega), rfl, q _ I.fresh⟩
theorem opr_addD : OpR X (binaryOp .Add) (r2D X.K addD) := by
  intro pins s σ H x y v u Q I rx ry h
  obtain ⟨G, dx, dy, r, sub, px, py, e, q⟩ := h
  unfold addD at e
  split at e
  · cases e
    cases rp_int px
    cases rp_int py
    exact op_add pins s σ H _ _ v u Q I rx ry ⟨_, _, rfl, rfl, q _ H G (.refl sub) (.int _)⟩
  · obtain ⟨hz, rfl⟩ := ite_some e
    cases rp_str px
    cases rp_str py
    exact op_add_str pins s σ H _ _ v u Q I rx ry ⟨_, _, rfl, rfl, hz, q _ H G (.refl sub) (.str _)⟩
  · obtain ⟨hz, rfl⟩ := ite_some e
    obtain ⟨a, xs, rfl, hx, ax⟩ := rp_list px
    obtain ⟨b, ys, rfl, hy, ay⟩ := rp_list py
    refine op_catL pins s σ H _ _ v u Q I rx ry ⟨_, _, _, _, rfl, rfl, sqx_mono sub hx, sqx_mono sub hy, by rw [ax.length, ay.length]; exact hz, fun p hp => ?_⟩
    exact q _ _ G (.new0 sub hp) ⟨p, rfl, hp, sub.free hp, _, upd_same, ax.append ay⟩
  · obtain ⟨⟨hz, ht⟩, rfl⟩ := ite_some e
    obtain ⟨a, xs, rfl, hx, ax⟩ := rp_tup px
    obtain ⟨b, ys, rfl, hy, ay⟩ := rp_tup py
    refine op_catA pins s σ H _ _ v u Q I rx ry ⟨_, _, _, _, rfl, rfl, sqt_mono sub hx, sqt_mono sub hy, by rw [ax.length, ay.length]; exact hz, fun z => ?_, fun _ z => ?_, fun _ _ p hp => ?_⟩
    · subst z
      cases ax
      exact q _ H G (.refl sub) py
    · subst z
      cases ay
      have : Rp X.K G (.ref a) (.tuple _) := px
      refine q _ H G (.refl sub) ?_
      show Rp X.K G _ (.tuple (_ ++ []))
      rw [List.append_nil]
      exact px
    · obtain ⟨G2, V, r2⟩ := tup_new sub hp ht (ax.append ay)
      exact q _ _ _ V r2
  · cases e
theorem opr_mulD : OpR X (binaryOp .Mult) (r2D X.K mulD) := by
  intro pins s σ H x y v u Q I rx ry h
  obtain ⟨G, dx, dy, r, sub, px, py, e, q⟩ := h
  unfold mulD at e
  split at e
  · obtain ⟨hz, rfl⟩ := ite_some e
    cases rp_int px
    cases rp_int py
    exact op_mulW pins s σ H _ _ v u Q I rx ry ⟨_, _, rfl, rfl, hz, q _ H G (.refl sub) (.int _)⟩
  · cases e
theorem opr_fdivD : OpR X (binaryOp .FloorDiv) (r2D X.K fdivD) := by
  intro pins s σ H x y v u Q I rx ry h
  obtain ⟨G, dx, dy, r, sub, px, py, e, q⟩ := h
  unfold fdivD at e
  split at e
  · obtain ⟨hz, rfl⟩ := ite_some e
    cases rp_int px
    cases rp_int py
    exact op_fdivW pins s σ H _ _ v u Q I rx ry ⟨_, _, rfl, rfl, hz, q _ H G (.refl sub) (.int _)⟩
  · cases e
theorem opr_modD : OpR X (binaryOp .Mod) (r2D X.K modD) := by
  intro pins s σ H x y v u Q I rx ry h
  obtain ⟨G, dx, dy, r, sub, px, py, e, q⟩ := h
  unfold modD at e
  split at e
  · obtain ⟨hz, rfl⟩ := ite_some e
    cases rp_int px
    cases rp_int py
    exact op_mod pins s σ H _ _ v u Q I rx ry ⟨_, _, rfl, rfl, hz, q _ H G (.refl sub) (.int _)⟩
  · cases e
theorem opr_powD : OpR X (binaryOp .Pow) (r2D X.K powD) := by
  intro pins s σ H x y v u Q I rx ry h
  obtain ⟨G, dx, dy, r, sub, px, py, e, q⟩ := h
  unfold powD at e
  split at e
  · obtain ⟨hz, rfl⟩ := ite_some e
    cases rp_int px
    cases rp_int py
    exact op_pow pins s σ H _ _ v u Q I rx ry ⟨_, _, rfl, rfl, hz, q _ H G (.refl sub) (.int _)⟩
  · cases e
end
end Fx
namespace Fx
open PySem PySem.Spec PyProof.Rows L2
section
variable {K : PySem.W.Frag} {G H : Hp}
mutual
theorem Rp.dp : ∀ {v : V} {d : D}, Rp K G v d → d.hasDict = false → Dp K G v d.py
  | _, _, .non, _ => by rw [Dt.py]; exact .non
  | _, _, .bl b, _ => by rw [Dt.py]; exact .bl b
  | _, _, .int b, _ => by rw [Dt.py]; exact .int b
  | _, _, .str b, _ => by rw [Dt.py]; exact .str b
  | _, _, .lst h t, e => by rw [Dt.py]; exact .lst h.sql (RpAll.dp t (by simpa only [Dt.hasDict] using e))
  | _, _, .tup h t, e => by rw [Dt.py]; exact .tup h.sqt (RpAll.dp t (by simpa only [Dt.hasDict] using e))
  | _, _, .dK _ _ _, e => by simp [Dt.hasDict] at e
  | _, _, .dT _ _ _, e => by simp [Dt.hasDict] at e
  | _, _, .ob _ _, e => by simp [Dt.hasDict] at e
theorem RpAll.dp : ∀ {vs : List V} {ds : List D}, RpAll K G vs ds → Dt.hasDictAll ds = false → DpAll K G vs (Dt.pys ds)
  | _, _, .nil, _ => by rw [Dt.pys]; exact .nil
  | _, _, .cons h t, e => by
    simp only [Dt.hasDictAll, Bool.or_eq_false_iff] at e
    rw [Dt.pys]
    exact .cons (Rp.dp h e.1) (RpAll.dp t e.2)
end
theorem shaped_nodict {d : D} (h : shapeD d = true) : d.hasDict = false := by
  rw [shape_py] at h
  unfold SeqAt.shaped at h
  simp only [Bool.and_eq_true] at h
  rw [Dt.hasDict_py]
  exact PyData.hasDict_of_canLay d.py h.1
theorem shape_lay {d : D} (h : shapeD d = true) : d.canLay0 = true := by
  unfold shapeD at h
  simp only [Bool.and_eq_true] at h
  exact h.1
theorem shape_eqv {d e : D} (h : shapeD d = true) (k : shapeD e = true) : Dt.eqv d e = PyData.eqv d.py e.py := Dt.eqv_py d e (shape_lay h) (shape_lay k)
end
section
variable {X : Cx}
def cmpI (p : Int → Int → Bool) : D → D → Option Sl
  | .int i, .int j => some (.fz (.bool (p i j)))
  | _, _ => none
abbrev ltD := cmpI fun i j => decide (i < j)
abbrev gtD := cmpI fun i j => decide (j < i)
abbrev geD := cmpI fun i j => decide (j ≤ i)
theorem opr_cmpI {f : Value → Value → Sem Value} {p : Int → Int → Bool} (h : OpR X f (rI0 fun i j => .bl (p i j))) : OpR X f (r2D X.K (cmpI p)) := by
  refine opr_imp h fun x y H Q hq => ?_
  obtain ⟨G, dx, dy, r, sub, px, py, e, q⟩ := hq
  unfold cmpI at e
  split at e
  · cases e
    exact ⟨_, _, rp_int px, rp_int py, q _ H G (.refl sub) (.bl _)⟩
  · cases e
theorem opr_ltD : OpR X (compareOp .Lt) (r2D X.K ltD) := opr_cmpI op_lt
theorem opr_gtD : OpR X (compareOp .Gt) (r2D X.K gtD) := opr_cmpI op_gt
theorem opr_geD : OpR X (compareOp .GtE) (r2D X.K geD) := opr_cmpI op_ge
/-- plain values that == tells apart at once -/
def scalD : D → D → Option Bool
  | .int i, .int j => some (i == j)
  | .str x, .str y => some (decide (x = y))
  | .bool a, .bool b => some (a == b)
  | .none, .none => some true
  | .none, .int _ => some false
  | .none, .bool _ => some false
  | .none, .str _ => some false
  | .int _, .none => some false
  | .bool _, .none => some false
  | .str _, .none => some false
  | .int _, .str _ => some false
  | .str _, .int _ => some false
  | .bool _, .str _ => some false
  | .str _, .bool _ => some false
  | _, _ => none
def eqB (d e : D) : Option Bool := match scalD d e with
  | some b => some b
  | none => if shapeD d = true ∧ shapeD e = true then some (Dt.eqv d e) else none
def eqD (d e : D) : Option Sl := (eqB d e).map fun b => .fz (.bool b)
def neD (d e : D) : Option Sl := (eqB d e).map fun b => .fz (.bool (!b))
theorem scal_of {G : Hp} {K : PySem.W.Frag} {x y : V} {d e : D} {b : Bool} (px : Rp K G x d) (py : Rp K G y e) (h : scalD d e = some b) : scal x y = true ∧ decide (x = y) = b := by
  unfold scalD at h
  split at h <;> first
    | (cases h; first
        | (cases rp_int px; cases rp_int py; exact ⟨rfl, by rw [dec_int]⟩)
        | (cases rp_str px; cases rp_str py; refine ⟨rfl, ?_⟩; rw [dec_str]; rfl)
        | (cases rp_bl px; cases rp_bl py; exact ⟨rfl, by rw [dec_bl]⟩)
        | (cases rp_non px; cases rp_non py; exact ⟨rfl, rfl⟩)
        | (cases px; cases py; exact ⟨rfl, rfl⟩)
        | (cases px; cases py; refine ⟨rfl, ?_⟩; simp))
    | cases h
theorem opr_eqD (hu : X.A.units + 64 < cLine) : OpR X (compareOp .Eq) (r2D X.K eqD) := by
  intro pins s σ H x y v u Q I rx ry h
  obtain ⟨G, dx, dy, r, sub, px, py, e, q⟩ := h
  unfold eqD at e
  obtain ⟨b, eb, rfl⟩ := Option.map_eq_some_iff.mp e
  unfold eqB at eb
  have q' := q (.bl b) H G (.refl sub) (.bl b)
  cases es : scalD dx dy with
  | some c =>
    rw [es] at eb
    cases eb
    obtain ⟨h1, h2⟩ := scal_of px py es
    exact op_eq pins s σ H _ _ v u Q I rx ry ⟨h1, by rw [h2]; exact q'⟩
  | none =>
    rw [es] at eb
    obtain ⟨⟨h1, h2⟩, rfl⟩ := ite_some eb
    exact op_eqD hu pins s σ H _ _ v u Q I rx ry ⟨dx.py, dy.py, (px.mono sub).dp (shaped_nodict h1), (py.mono sub).dp (shaped_nodict h2), by rw [← shape_py]; exact h1, by rw [← shape_py]; exact h2, by rw [← shape_eqv h1 h2]; exact q'⟩
theorem opr_neD (hu : X.A.units + 64 < cLine) : OpR X (compareOp .NotEq) (r2D X.K neD) := by
  intro pins s σ H x y v u Q I rx ry h
  obtain ⟨G, dx, dy, r, sub, px, py, e, q⟩ := h
  unfold neD at e
  obtain ⟨b, eb, rfl⟩ := Option.map_eq_some_iff.mp e
  unfold eqB at eb
  have q' := q (.bl (!b)) H G (.refl sub) (.bl (!b))
  cases es : scalD dx dy with
  | some c =>
    rw [es] at eb
    cases eb
    obtain ⟨h1, h2⟩ := scal_of px py es
    exact op_ne pins s σ H _ _ v u Q I rx ry ⟨h1, by rw [h2]; exact q'⟩
  | none =>
    rw [es] at eb
    obtain ⟨⟨h1, h2⟩, rfl⟩ := ite_some eb
    exact op_neD hu pins s σ H _ _ v u Q I rx ry ⟨dx.py, dy.py, (px.mono sub).dp (shaped_nodict h1), (py.mono sub).dp (shaped_nodict h2), by rw [← shape_py]; exact h1, by rw [← shape_py]; exact h2, by rw [← shape_eqv h1 h2]; exact q'⟩
/-- x in [..] -/
def flatD : D → Bool
  | .none => true | .bool _ => true | .int _ => true | .str _ => true | _ => false
def inB : D → D → Option Bool
  | d, .list ds => if shapeD d = true ∧ shapeD (.list ds) = true then some (ds.any fun z => Dt.eqv z d) else none
  | _, _ => none
variable {a b c : Expr} {ma mb mc : M Sl} {pos : Pos}
/-- a < b < c -/
def chainM (f g : D → D → Option Sl) (ma mb mc : M Sl) : M Sl := bindM ma fun x => bindM mb fun y => bindM (liftM (f x.d y.d)) fun k => match k with
  | .fz (.bool true) => bindM mc fun z => liftM (g y.d z.d)
  | .fz (.bool false) => pureM (.fz (.bool false))
  | _ => liftM none
def boolM (r : Sl) : M Bool := match r with
  | .fz (.bool b) => pureM b
  | _ => liftM none
def testM (m : M Sl) : M Bool := bindM m boolM
theorem boolM_some {r : Sl} {b : Bool} {ρ ρ' : Rho} (h : boolM r ρ = some (b, ρ')) : r = .fz (.bool b) ∧ ρ' = ρ := by
  unfold boolM at h
  split at h
  · obtain ⟨rfl, rfl⟩ := pureM_some h; exact ⟨rfl, rfl⟩
  · obtain ⟨h, _⟩ := liftM_some h; cases h
theorem test_in {K : PySem.W.Frag} {m : M Sl} {σ : L2.St} {H : Hp} {Q : Bool → Hp → Prop} (h : tMT K (testM m) σ H Q) : tM K m σ H fun x H1 => ∃ k, x = .bl k ∧ Q k H1 := by
  obtain ⟨G, ρ, b, ρ', E, hm, q⟩ := h
  obtain ⟨x, ρ1, e1, h2⟩ := bindM_some hm
  obtain ⟨rfl, rfl⟩ := boolM_some h2
  exact ⟨G, ρ, _, ρ', E, e1, fun v H1 G1 S1 r1 => ⟨b, rp_bl r1, q H1 G1 S1⟩⟩
theorem ft_val {e : Expr} {m : M Sl} (h : FE X e m) (he : ∀ whole, isTrue e X.env whole = (do let v ← whole; standAt e.pos; holding [v] (truthy v)) := by intro _; rfl) : FT X e (testM m) := imT (pt_val h he) fun _ _ _ => test_in
theorem ft_cmp {op : CmpOp} {f : D → D → Option Sl} (ho : OpR X (compareOp op) (r2D X.K f)) (ha : FE X a ma) (hb : FE X b mb) (hm : behindInMarks op b = false) : FT X (.Compare a [op] [b] pos) (testM (bin f ma mb)) := imT (pt_cmpR ho ha hb hm) fun σ H Q h => two (test_in h)
/-- not, and, or -/
def notM (m : M Bool) : M Bool := bindM m fun b => pureM (!b)
def andM (m n : M Bool) : M Bool := bindM m fun b => if b then n else pureM false
def orM (m n : M Bool) : M Bool := bindM m fun b => if b then pureM true else n
variable {na nb : M Bool} {rest : List Expr}
theorem ft_not (ha : FT X a na) : FT X (.UnaryOp .Not a pos) (notM na) := imT (pt_not ha) fun σ H Q h => by
  obtain ⟨G, ρ, r, ρ', E, hm, q⟩ := h
  obtain ⟨x, ρ1, e1, h2⟩ := bindM_some hm
  obtain ⟨rfl, rfl⟩ := pureM_some h2
  exact ⟨G, ρ, x, ρ', E, e1, fun H1 G1 S1 => q H1 G1 S1⟩
theorem or_in {K : PySem.W.Frag} {σ : L2.St} {H : Hp} {Q : Bool → Hp → Prop} (h : tMT K (orM na nb) σ H Q) : tMT K na σ H fun c H1 => if c = true then Q true H1 else tMT K nb σ H1 Q := by
  obtain ⟨G, ρ, r, ρ', E, hm, q⟩ := h
  obtain ⟨x, ρ1, e1, h2⟩ := bindM_some hm
  refine ⟨G, ρ, x, ρ1, E, e1, fun H1 G1 S1 => ?_⟩
  cases x with
  | false => exact ⟨G1, ρ1, r, ρ', S1.env, h2, fun H2 G2 S2 => q H2 G2 (S1.trans E S2)⟩
  | true =>
    obtain ⟨rfl, rfl⟩ := pureM_some h2
    exact q H1 G1 S1
theorem fw_or1 (ha : FT X a na) : FW X (.BoolOp .Or [a] pos) na := pw_or1 ha
theorem fw_or (ha : FT X a na) (hb : FW X (.BoolOp .Or (b :: rest) pos) nb) : FW X (.BoolOp .Or (a :: b :: rest) pos) (orM na nb) := imW (pw_or ha hb) fun _ _ _ => or_in
theorem ft_w {e : Expr} {n : M Bool} (h : FW X e n) : FT X e n := PW.pt h
/-- .. as values -/
def blM (m : M Bool) : M Sl := bindM m fun b => pureM (.fz (.bool b))
def andV (m n : M Sl) : M Sl := bindM m fun x => bindM (boolM x) fun c => if c then n else pureM (.fz (.bool false))
def orV (m n : M Sl) : M Sl := bindM m fun x => bindM (boolM x) fun c => if c then pureM (.fz (.bool true)) else n
def notV (m : M Sl) : M Sl := bindM m fun x => bindM (boolM x) fun c => pureM (.fz (.bool (!c)))
def ifM (t : M Bool) (m n : M Sl) : M Sl := bindM t fun b => if b then m else n
def lenD : List D → Option Sl
  | [.list ds] => some (.fz (.int ds.length))
  | [.tuple ds] => some (.fz (.int ds.length))
  | [.str x] => if x.length ≤ sizeLine then some (.fz (.int x.length)) else none
  | _ => none
theorem rp1 {K : PySem.W.Frag} {G : Hp} {xs : List V} {d : D} (h : RpAll K G xs [d]) : ∃ x, xs = [x] ∧ Rp K G x d := by
  cases h with
  | cons r t => cases t; exact ⟨_, rfl, r⟩
theorem cr_lenD : CallR X (.builtin "len") (rLD X.K lenD) := by
  refine callr_imp call_len fun xs H Q h => ?_
  obtain ⟨G, ds, r, sub, px, e, q⟩ := h
  unfold lenD at e
  split at e
  · cases e
    obtain ⟨x, rfl, p⟩ := rp1 px
    obtain ⟨a, ys, rfl, s, t⟩ := rp_list p
    exact ⟨_, ys.length, rfl, .inl ⟨ys, sql_mono sub s, rfl⟩, q _ H G (.refl sub) (by rw [t.length]; exact .int _)⟩
  · cases e
    obtain ⟨x, rfl, p⟩ := rp1 px
    obtain ⟨a, ys, rfl, s, t⟩ := rp_tup p
    exact ⟨_, ys.length, rfl, .inr ⟨ys, sqt_mono sub s, rfl⟩, q _ H G (.refl sub) (by rw [t.length]; exact .int _)⟩
  · obtain ⟨hz, rfl⟩ := ite_some e
    obtain ⟨x, rfl, p⟩ := rp1 px
    cases rp_str p
    exact ⟨_, _, rfl, ⟨hz, rfl⟩, q _ H G (.refl sub) (.int _)⟩
  · cases e
def intsOf : List D → Option (List Int)
  | [] => some []
  | .int b :: ds => (intsOf ds).map (b :: ·)
  | _ => none
def minD : List D → Option Sl
  | [.int i, .int j] => some (.fz (.int (if j < i then j else i)))
  | _ => none
def maxD : List D → Option Sl
  | [.int i, .int j] => some (.fz (.int (if j > i then j else i)))
  | _ => none
def toIntD : List D → Option Sl
  | [.int i] => some (.fz (.int i))
  | _ => none
theorem cr_intD : CallR X (.type "int") (rLD X.K toIntD) := by
  refine callr_imp call_int1 fun xs H Q h => ?_
  obtain ⟨G, ds, r, sub, px, e, q⟩ := h
  unfold toIntD at e
  split at e
  · cases e
    obtain ⟨x, rfl, p⟩ := rp1 px
    cases rp_int p
    exact .inl ⟨_, rfl, q _ H G (.refl sub) (.int _)⟩
  · cases e
def tupleD : List D → Option Sl
  | [.list ds] => some (.fz (.tuple ds))
  | [.tuple ds] => some (.fz (.tuple ds))
  | _ => none
def listD : List D → Option Sl
  | [.list ds] => some (.ow (.list ds))
  | [.tuple ds] => some (.ow (.list ds))
  | _ => none
theorem cr_listD : CallR X (.type "list") (rLD X.K listD) := by
  refine callr_imp call_list_of fun xs H Q h => ?_
  obtain ⟨G, ds, r, sub, px, e, q⟩ := h
  unfold listD at e
  split at e
  · cases e
    obtain ⟨x, rfl, p⟩ := rp1 px
    obtain ⟨a, ys, rfl, s, t⟩ := rp_list p
    exact ⟨_, ys, rfl, .inl (sql_mono sub s), fun l hl => q _ _ G (.new0 sub hl) ⟨l, rfl, hl, sub.free hl, ys, upd_same, t⟩⟩
  · cases e
    obtain ⟨x, rfl, p⟩ := rp1 px
    obtain ⟨a, ys, rfl, s, t⟩ := rp_tup p
    exact ⟨_, ys, rfl, .inr (sqt_mono sub s), fun l hl => q _ _ G (.new0 sub hl) ⟨l, rfl, hl, sub.free hl, ys, upd_same, t⟩⟩
  · cases e
/-- repr, where no repr is under way -/
def reprD : List D → Option Sl
  | [.int i] => if i.natAbs.log2 < 1920 then some (.fz (.str (toString i))) else none
  | [.list ds] => if (Dt.list ds).hasDict = false ∧ (Dt.list ds).showable = true ∧ (Dt.list ds).depth ≤ 60 ∧ (Dt.list ds).shown.length ≤ sizeLine then some (.fz (.str (Dt.list ds).shown)) else none
  | [.tuple ds] => if (Dt.tuple ds).hasDict = false ∧ (Dt.tuple ds).showable = true ∧ (Dt.tuple ds).depth ≤ 60 ∧ (Dt.tuple ds).shown.length ≤ sizeLine then some (.fz (.str (Dt.tuple ds).shown)) else none
  | _ => none
theorem repr_ref {pins : List (Addr × Obj)} {s : Shared} {σ : L2.St} {H G : Hp} {a : Addr} {d : D} {Q : VK} (I : L2.Inv X pins σ H s) (hg : X.A.guards = some []) (hu : X.A.units + 64 < cLine) (sub : Same G H) (p : Rp X.K G (.ref a) d)
    (h : d.hasDict = false ∧ d.showable = true ∧ d.depth ≤ 60 ∧ d.shown.length ≤ sizeLine) (q : Q (.str d.shown) H) : wpAny (model X.prog X.w) X.A (call (.builtin "repr") [.ref a]) (EP X pins σ Q) X.xe s := by
  obtain ⟨as, hr⟩ := Dp.reads I d.py (.ref a) (.ref a) ((p.mono sub).dp h.1) rfl
  rw [Dt.hasDict_py, Dt.showable_py, Dt.depth_py, Dt.shown_py] at h
  rw [Dt.shown_py] at q
  exact repr_of_reads' hr h.2.1 (fun z => by rw [h.1] at z; cases z) hg (by omega) (fun _ _ e => e) (fun h' u tk hk => ⟨.str d.py.shown, H, I.kept hk, ⟨u, rfl⟩, q⟩) h.2.2.2
theorem cr_reprD (hg : X.A.guards = some []) (hu : X.A.units + 64 < cLine) : CallR X (.builtin "repr") (rLD X.K reprD) := by
  intro pins s σ H xs us Q I rv h
  obtain ⟨G, ds, r, sub, px, e, q⟩ := h
  unfold reprD at e
  split at e
  · obtain ⟨hz, rfl⟩ := ite_some e
    obtain ⟨x, rfl, p⟩ := rp1 px
    cases rp_int p
    exact SkE.call_repr_int pins s σ H _ us Q I rv ⟨_, rfl, hz, q _ H G (.refl sub) (.str _)⟩
  · obtain ⟨hz, rfl⟩ := ite_some e
    obtain ⟨x, rfl, p⟩ := rp1 px
    obtain ⟨a, ys, rfl, _, _⟩ := rp_list p
    obtain ⟨u, rfl, ru⟩ := vals1 rv
    cases ru
    exact repr_ref I hg hu sub p hz (q _ H G (.refl sub) (.str _))
  · obtain ⟨hz, rfl⟩ := ite_some e
    obtain ⟨x, rfl, p⟩ := rp1 px
    obtain ⟨a, ys, rfl, _, _⟩ := rp_tup p
    obtain ⟨u, rfl, ru⟩ := vals1 rv
    cases ru
    exact repr_ref I hg hu sub p hz (q _ H G (.refl sub) (.str _))
  · cases e
def ixD : D → D → Option Sl
  | .list ds, .int i => (atI ds i).map .fz
  | .tuple ds, .int i => (atI ds i).map .fz
  | .str z, .int i => if z.length ≤ sizeLine then (atI z.cps.toList i).map fun c => .fz (.str ⟨#[c]⟩) else none
  | _, _ => none
theorem atI_rp {K : PySem.W.Frag} {G : Hp} {xs : List V} {ds : List D} {i : Int} {d : D} (t : RpAll K G xs ds) (h : atI ds i = some d) : ∃ v, atI xs i = some v ∧ Rp K G v d := by
  unfold atI at h ⊢
  rw [t.length]
  cases e : ixN ds.length i with
  | none => rw [e] at h; cases h
  | some j => rw [e] at h; exact t.getD h
theorem ix_values {K : PySem.W.Frag} {G H : Hp} {x y : V} {d e : D} {r : Sl} {Q : VK} (sub : Same G H) (px : Rp K G x d) (py : Rp K G y e) (h : ixD d e = some r) (q : ∀ v, ResV K G H H v r → Q v H) : rIx K x y H Q := by
  unfold ixD at h
  split at h
  · obtain ⟨z, hz, rfl⟩ := Option.map_eq_some_iff.mp h
    obtain ⟨a, xs, rfl, s, t⟩ := rp_list px
    cases rp_int py
    obtain ⟨v, h1, h2⟩ := atI_rp t hz
    exact .inl ⟨_, xs, _, v, rfl, rfl, sql_mono sub s, h1, q v h2⟩
  · obtain ⟨z, hz, rfl⟩ := Option.map_eq_some_iff.mp h
    obtain ⟨a, xs, rfl, s, t⟩ := rp_tup px
    cases rp_int py
    obtain ⟨v, h1, h2⟩ := atI_rp t hz
    exact .inr (.inl ⟨_, xs, _, v, rfl, rfl, sqt_mono sub s, h1, q v h2⟩)
  · split at h
    · obtain ⟨z, hz, rfl⟩ := Option.map_eq_some_iff.mp h
      cases rp_str px
      cases rp_int py
      exact .inr (.inr ⟨_, _, z, rfl, rfl, by assumption, hz, q _ (.str _)⟩)
    · cases h
  · cases h
theorem fe_ix (ha : FE X a ma) (hb : FE X b mb) (hs : PlainIx b := by exact fun _ _ => rfl) : FE X (.Subscript a b pos) (bin ixD ma mb) := imE (pe_ix ix_seq ha hb hs) fun σ H Q h => by
  obtain ⟨G, ρ, r, ρ', E, hm, q⟩ := h
  obtain ⟨x, ρ1, e1, h2⟩ := bindM_some hm
  obtain ⟨y, ρ2, e2, h3⟩ := bindM_some h2
  obtain ⟨e3, rfl⟩ := liftM_some h3
  refine ⟨G, ρ, x, ρ1, E, e1, fun v H1 G1 S1 r1 => ?_⟩
  obtain ⟨G1', S1', p1, _⟩ := r1.frz E S1
  refine ⟨G1', ρ1, y, ρ', S1'.env, e2, fun u H2 G2 S2 r2 => ?_⟩
  obtain ⟨G2', S2', p2, _⟩ := r2.frz S1'.env S2
  have T := S1'.trans E S2'
  exact ix_values S2'.env.sub (p1.mono S2'.same) p2 e3 fun z r3 => q z H2 G2' T (r3.back T.there)
def getM (i : Nat) : M D := fun ρ => match ρ[i]? with
  | some (some s) => some (s.d, ρ)
  | _ => none
/-- as getM, no container of containers of one's own -/
def getF (i : Nat) : M D := fun ρ => match ρ[i]? with
  | some (some (.fz d)) => some (d, ρ)
  | some (some (.ow d)) => some (d, ρ)
  | _ => none
theorem getF_some {i : Nat} {d : D} {ρ ρ' : Rho} (h : getF i ρ = some (d, ρ')) : ρ' = ρ ∧ ∃ s, ρ[i]? = some (some s) ∧ s.d = d ∧ ∀ e, s ≠ .o2 e := by
  unfold getF at h
  split at h
  · rename_i s e
    cases h
    exact ⟨rfl, _, e, rfl, nofun⟩
  · rename_i s e
    cases h
    exact ⟨rfl, _, e, rfl, nofun⟩
  · cases h
theorem getM_some {i : Nat} {d : D} {ρ ρ' : Rho} (h : getM i ρ = some (d, ρ')) : ρ' = ρ ∧ ∃ s, ρ[i]? = some (some s) ∧ s.d = d := by
  unfold getM at h
  split at h
  · rename_i s e
    cases h
    exact ⟨rfl, s, e, rfl⟩
  · cases h
/-- a name's item: a container of one's own stays one's own -/
def memD : D → D → Option D
  | .list ds, .int i => atI ds i
  | .tuple ds, .int i => atI ds i
  | _, _ => none
def ixVM (i : Nat) (mb : M Sl) : M Sl := bindM (getF i) fun _ => bindM mb fun y => bindM (getF i) fun d => liftM ((memD d y.d).map .fz)
theorem slot_v {K : PySem.W.Frag} {G H : Hp} {σ : L2.St} {ρ : Rho} {i : Nat} {s : Sl} (E : EnvR K G H σ ρ) (h : ρ[i]? = some (some s)) : ∃ v, σ[i]? = some (some v) := by
  cases s with
  | fz d => obtain ⟨v, e, _⟩ := E.fz i d h; exact ⟨v, e⟩
  | ow d => obtain ⟨v, e, _⟩ := E.ow i d h; exact ⟨_, e⟩
  | o2 d => obtain ⟨v, e, _⟩ := E.o2 i d h; exact ⟨_, e⟩
/-- the members of a slot's list, tuple -/
theorem slot_list {K : PySem.W.Frag} {G H : Hp} {σ : L2.St} {ρ : Rho} {i : Nat} {s : Sl} {v : V} {ds : List D} (n : ∀ e, s ≠ .o2 e) (E : EnvR K G H σ ρ) (h : ρ[i]? = some (some s)) (hv : σ[i]? = some (some v)) (hd : s.d = .list ds) : ∃ a xs, v = .ref a ∧ SqX K H a xs ∧ RpAll K G xs ds := by
  cases s with
  | o2 d => exact (n d rfl).elim
  | fz d =>
    cases (show d = .list ds from hd)
    obtain ⟨w, e, r⟩ := E.fz i _ h
    rw [hv] at e
    cases e
    obtain ⟨a, xs, rfl, s, t⟩ := rp_list r
    exact ⟨a, xs, rfl, sqx_mono E.sub s, t⟩
  | ow d =>
    cases (show d = .list ds from hd)
    obtain ⟨p, e, _, xs, hx, t⟩ := E.ow i _ h
    rw [hv] at e
    cases e
    exact ⟨p, xs, rfl, .of hx, t⟩
theorem slot_tup {K : PySem.W.Frag} {G H : Hp} {σ : L2.St} {ρ : Rho} {i : Nat} {s : Sl} {v : V} {ds : List D} (n : ∀ e, s ≠ .o2 e) (E : EnvR K G H σ ρ) (h : ρ[i]? = some (some s)) (hv : σ[i]? = some (some v)) (hd : s.d = .tuple ds) : ∃ a xs, v = .ref a ∧ SqT K H a xs ∧ RpAll K G xs ds := by
  cases s with
  | o2 d => exact (n d rfl).elim
  | fz d =>
    cases (show d = .tuple ds from hd)
    obtain ⟨w, e, r⟩ := E.fz i _ h
    rw [hv] at e
    cases e
    obtain ⟨a, xs, rfl, s, t⟩ := rp_tup r
    exact ⟨a, xs, rfl, sqt_mono E.sub s, t⟩
  | ow d =>
    cases (show d = .tuple ds from hd)
    obtain ⟨p, e, _, ow⟩ := E.ow i _ h
    exact ow.elim
theorem fe_ixV (i : Nat) {x : Str} {p : Pos} (hb : FE X b mb) (hN : X.N[i]? = some x := by rfl) (hv : Vis X.env.scope x := by first | exact Or.inl rfl | exact Or.inr (Or.inl rfl) | exact Or.inr (Or.inr rfl)) (hd : (x == ("__debug__" : Str)) = false := by decide)
    (hcd : (x == ("__classdict__" : Str)) = false := by decide) (hs : PlainIx b := by exact fun _ _ => rfl) : FE X (.Subscript (.Name x p) b pos) (ixVM i mb) := imE (pe_ix ix_seq (pe_var (i := i) hN hv hd hcd) hb hs) fun σ H Q h => by
  obtain ⟨G, ρ, r, ρ', E, hm, q⟩ := h
  obtain ⟨d0, ρ0, e0, h1⟩ := bindM_some hm
  obtain ⟨rfl, s0, es0, _, _⟩ := getF_some e0
  obtain ⟨y, ρ1, e1, h2⟩ := bindM_some h1
  obtain ⟨d, ρ2, e2, h3⟩ := bindM_some h2
  obtain ⟨rfl, s, es, rfl, no2⟩ := getF_some e2
  obtain ⟨e3, rfl⟩ := liftM_some h3
  obtain ⟨z, hz, rfl⟩ := Option.map_eq_some_iff.mp e3
  obtain ⟨v, ev⟩ := slot_v E es0
  refine ⟨v, ev, G, ρ0, y, ρ', E, e1, fun u H1 G1 S1 r1 => ?_⟩
  obtain ⟨G1', S1', p1, _⟩ := r1.frz E S1
  unfold memD at hz
  split at hz
  · rename_i ds i ed ei
    obtain ⟨a, xs, rfl, sq, t⟩ := slot_list no2 S1'.env es ev ed
    have p1' : Rp X.K G1' u (.int i) := by rw [← ei]; exact p1
    cases rp_int p1'
    obtain ⟨v, g1, g2⟩ := atI_rp t hz
    exact .inl ⟨_, xs, _, v, rfl, rfl, sq.sql, g1, q v H1 G1' S1' g2⟩
  · rename_i ds i ed ei
    obtain ⟨a, xs, rfl, sq, t⟩ := slot_tup no2 S1'.env es ev ed
    have p1' : Rp X.K G1' u (.int i) := by rw [← ei]; exact p1
    cases rp_int p1'
    obtain ⟨v, g1, g2⟩ := atI_rp t hz
    exact .inr (.inl ⟨_, xs, _, v, rfl, rfl, sq, g1, q v H1 G1' S1' g2⟩)
  · cases hz
def cutD (xs : List D) (lo hi : Option Int) : List D := (xs.drop (HT.sIx xs.length 0 lo)).take (HT.sIx xs.length xs.length hi - HT.sIx xs.length 0 lo)
def slD (d : D) (lo hi : Option Int) : Option Sl := match d with
  | .list ds => some (.ow (.list (cutD ds lo hi)))
  | .tuple ds => if tagT (cutD ds lo hi) = false then some (.fz (.tuple (cutD ds lo hi))) else none
  | _ => none
def tMO (K : PySem.W.Frag) (m : M (Option Int)) : TO := fun σ H Q => ∃ G ρ o ρ', EnvR K G H σ ρ ∧ m ρ = some (o, ρ') ∧ ∀ H' G', Stp K σ G H ρ G' H' ρ' → Q o H'
abbrev FO (X : Cx) (e : Option Expr) (m : M (Option Int)) : Prop := PO X e (tMO X.K m)
theorem imO {e : Option Expr} {t t' : TO} (h : PO X e t) (i : ∀ σ H Q, t' σ H Q → t σ H Q) : PO X e t' := ⟨fun pins s σ H Q I q => h.run pins s σ H Q I (i σ H Q q)⟩
theorem fo_none : FO X none (pureM none) := imO po_none fun σ H Q h => by
  obtain ⟨G, ρ, r, ρ', E, hm, q⟩ := h
  cases hm
  exact q H G (.refl E)
def partD : D → Option (Option Int)
  | .int i => some (some i)
  | _ => none
def partM (m : M Sl) : M (Option Int) := bindM m fun x => liftM (partD x.d)
theorem fo_some (h : FE X a ma) : FO X (some a) (partM ma) := imO (po_some h) fun σ H Q h => by
  obtain ⟨G, ρ, r, ρ', E, hm, q⟩ := h
  obtain ⟨x, ρ1, e1, h2⟩ := bindM_some hm
  refine ⟨G, ρ, x, ρ1, E, e1, fun v H1 G1 S1 r1 => ?_⟩
  obtain ⟨G1', S1', p1, _⟩ := r1.frz E S1
  obtain ⟨e2, rfl⟩ := liftM_some h2
  cases ei : x.d with
  | int i =>
    rw [ei] at p1 e2
    cases e2
    exact ⟨i, rp_int p1, q H1 G1' S1'⟩
  | _ => rw [ei] at e2; cases e2
theorem cut_rp {K : PySem.W.Frag} {G : Hp} {xs : List V} {ds : List D} {lo hi : Option Int} (t : RpAll K G xs ds) : RpAll K G (cutV xs lo hi) (cutD ds lo hi) := by
  unfold cutV cutD
  rw [t.length]
  exact (t.drop _).take _
theorem sl_any : SlR X (fun x lo hi H Q => rSlL X.K x lo hi H Q ∨ rSlA X.K x lo hi H Q) := sl_list.or sl_tupA
def sliceM (m : M Sl) (lo hi : M (Option Int)) : M Sl := bindM m fun x => bindM lo fun l => bindM hi fun h => liftM (slD x.d l h)
theorem fe_slice {lo hi : Option Expr} {ml mh : M (Option Int)} {p2 : Pos} (ha : FE X a ma) (hl : FO X lo ml) (hh : FO X hi mh) : FE X (.Subscript a (.Slice lo hi none p2) pos) (sliceM ma ml mh) := imE (pe_slice sl_any ha hl hh) fun σ H Q h => by
  obtain ⟨G, ρ, r, ρ', E, hm, q⟩ := h
  obtain ⟨x, ρ1, e1, h2⟩ := bindM_some hm
  obtain ⟨l, ρ2, e2, h3⟩ := bindM_some h2
  obtain ⟨k, ρ3, e3, h4⟩ := bindM_some h3
  obtain ⟨e4, rfl⟩ := liftM_some h4
  refine ⟨G, ρ, x, ρ1, E, e1, fun v H1 G1 S1 r1 => ?_⟩
  obtain ⟨G1', S1', p1, _⟩ := r1.frz E S1
  refine ⟨G1', ρ1, l, ρ2, S1'.env, e2, fun H2 G2 S2 => ⟨G2, ρ2, k, ρ', S2.env, e3, fun H3 G3 S3 => ?_⟩⟩
  have T := (S1'.trans E S2).trans E S3
  have p3 := (p1.mono S2.same).mono S3.same
  unfold slD at e4
  split at e4
  · rename_i ds ed
    cases e4
    rw [ed] at p3
    obtain ⟨a, xs, rfl, s, t⟩ := rp_list p3
    exact .inl ⟨a, xs, rfl, sql_mono T.env.sub s, fun p hp => q _ _ G3 (T.ext E (.new0 T.env.sub hp)) ⟨p, rfl, T.there _ hp, T.env.sub.free hp, _, upd_same, cut_rp t⟩⟩
  · rename_i ds ed
    obtain ⟨hn, rfl⟩ := ite_some e4
    rw [ed] at p3
    obtain ⟨a, xs, rfl, s, t⟩ := rp_tupG p3
    refine .inr ⟨a, xs, rfl, sqt_mono T.env.sub s.sqt, fun w => ?_, fun w p hp => ?_⟩
    · have ec : cutV xs l k = xs := by unfold cutV; rw [w.1, w.2]; simp
      have ed : cutD ds l k = ds := by unfold cutD; rw [← t.length, w.1, w.2, t.length]; simp
      refine q _ H3 G3 T ?_
      rw [ed]
      exact .tup s t
    · obtain ⟨G4, V, r4⟩ := tup_new T.env.sub hp hn (cut_rp t)
      exact q _ _ _ (T.ext E V) r4
  · cases e4
end
end Fx
namespace Fx
open PySem PySem.Spec PyProof.Rows L2
section
variable {X : Cx} {a b c : Expr} {ma mb mc : M Sl} {pos : Pos}
/-- the iterator gives the items its, whatever is made meanwhile -/
def ItOk (K : PySem.W.Frag) (J : It) (G : Hp) (its : List D) : Prop := ∀ i G1 H1, RLe G G1 → Same G1 H1 →
  (∀ d, its[i]? = some d → J.go i H1 ∧ ∀ x H', J.yld i H1 x H' → ∃ G', StepV G1 H1 G' H' ∧ Rp K G' x d) ∧ (i = its.length → J.stop i H1)
def tMI (K : PySem.W.Frag) (m : M (List D)) : TI := fun σ H R => ∃ G ρ its ρ', EnvR K G H σ ρ ∧ m ρ = some (its, ρ') ∧ ∀ J H' G', Stp K σ G H ρ G' H' ρ' → ItOk K J G' its → R J H'
abbrev FI (X : Cx) (tg iter : Expr) (m : M (List D)) : Prop := PI X tg iter (tMI X.K m)
theorem imI {tg iter : Expr} {t t' : TI} (h : PI X tg iter t) (i : ∀ σ H Q, t' σ H Q → t σ H Q) : PI X tg iter t' := ⟨fun pins s σ H Q I q => h.run pins s σ H Q I (i σ H Q q)⟩
theorem pi_or {tg iter : Expr} {t t' : TI} (h : PI X tg iter t) (h' : PI X tg iter t') : PI X tg iter (fun σ H R => t σ H R ∨ t' σ H R) := ⟨fun pins s σ H Q I q => q.elim (h.run pins s σ H Q I) (h'.run pins s σ H Q I)⟩
def seqD : D → Option (List D)
  | .list ds => some ds
  | .tuple ds => some ds
  | .str z => some (z.cps.toList.map fun c => .str ⟨#[c]⟩)
  | _ => none
def seqM (m : M Sl) : M (List D) := bindM m fun x => liftM (seqD x.d)
/-- range -/
def rangeD (lo hi : Int) : List D := (List.range (hi - lo).toNat).map fun (i : Nat) => .int (lo + i)
def rng1 : List D → Option (List D)
  | [.int j] => if -(2 ^ 62) ≤ j ∧ j < 2 ^ 62 then some (rangeD 0 j) else none
  | _ => none
def rng2 : List D → Option (List D)
  | [.int i, .int j] => if -(2 ^ 62) ≤ i ∧ i < 2 ^ 62 ∧ -(2 ^ 62) ≤ j ∧ j < 2 ^ 62 then some (rangeD i j) else none
  | _ => none
theorem itOk_range {K : PySem.W.Frag} {G : Hp} (lo hi : Int) : ItOk K (Itr lo (hi - lo).toNat) G (rangeD lo hi) := by
  intro i G1 H1 e1 e2
  have hl : (rangeD lo hi).length = (hi - lo).toNat := by unfold rangeD; rw [List.length_map, List.length_range]
  refine ⟨fun d hd => ?_, fun h => by rw [hl] at h; exact Nat.le_of_eq h.symm⟩
  have hlt : i < (hi - lo).toNat := by rw [← hl]; exact (List.getElem?_eq_some_iff.mp hd).1
  unfold rangeD at hd
  rw [List.getElem?_map, List.getElem?_range hlt] at hd
  cases hd
  refine ⟨hlt, fun x H' y => ?_⟩
  obtain ⟨rfl, rfl⟩ := y
  exact ⟨G1, .refl e2, .int _⟩
def rngM (f : List D → Option (List D)) (m : M (List D)) : M (List D) := bindM m fun xs => liftM (f xs)
theorem fi_range1 {tg : Expr} {p : Pos} {m : M (List D)} (hg : Gl X "range") (hm : X.mg "range" = none) (ha : FA X [a] m) (hs : starEach [a] X.env = [(false, eval a X.env)] := by rfl) : FI X tg (.Call (.Name "range" p) [a] [] pos) (rngM rng1 m) := imI (pi_range1 hg hm ha hs) fun σ H R h => by
  obtain ⟨G, ρ, its, ρ', E, hm, q⟩ := h
  obtain ⟨x, ρ1, e1, h2⟩ := bindM_some hm
  obtain ⟨e3, rfl⟩ := liftM_some h2
  refine ⟨G, ρ, x, ρ', E, e1, fun vs H1 G1 S1 r1 => ?_⟩
  unfold rng1 at e3
  split at e3
  · obtain ⟨hz, rfl⟩ := ite_some e3
    obtain ⟨v, rfl, p⟩ := rp1 r1
    cases rp_int p
    have := itOk_range (K := X.K) (G := G1) 0 ‹Int›
    rw [Int.sub_zero] at this
    exact ⟨_, rfl, hz.1, hz.2, q _ H1 G1 S1 this⟩
  · cases e3
/-- enumerate of a list -/
def enumFrom : Nat → List D → List D
  | _, [] => []
  | n, d :: ds => .tuple [.int n, d] :: enumFrom (n + 1) ds
theorem enumFrom_get : ∀ (ds : List D) (n i : Nat) (e : D), (enumFrom n ds)[i]? = some e → ∃ d, ds[i]? = some d ∧ e = .tuple [.int ((n + i : Nat) : Int), d]
  | [], n, i, e, h => by simp [enumFrom] at h
  | d :: ds, n, 0, e, h => by
    have h' : some (Dt.tuple [.int n, d]) = some e := h
    cases h'
    exact ⟨d, rfl, rfl⟩
  | d :: ds, n, i + 1, e, h => by
    obtain ⟨d', h1, h2⟩ := enumFrom_get ds (n + 1) i e h
    refine ⟨d', h1, ?_⟩
    rw [h2, show n + 1 + i = n + (i + 1) by omega]
theorem enumFrom_length : ∀ (ds : List D) (n : Nat), (enumFrom n ds).length = ds.length
  | [], _ => rfl
  | d :: ds, n => by unfold enumFrom; rw [List.length_cons, List.length_cons, enumFrom_length ds]
def enumD : List D → Option (List D)
  | [.list ds] => some (enumFrom 0 ds)
  | _ => none
theorem itOk_enum {K : PySem.W.Frag} {G : Hp} {p : Addr} {xs : List V} {ds : List D} (s : SqX K G p xs) (t : RpAll K G xs ds) : ItOk K (Ite K p) G (enumFrom 0 ds) := by
  intro i G1 H1 e1 e2
  have s1 : SqL K H1 p xs := sql_mono e2 (e1.sqx s)
  refine ⟨fun d hd => ?_, fun h => ⟨xs, s1, by rw [t.length, ← enumFrom_length ds 0]; exact Nat.le_of_eq h.symm⟩⟩
  obtain ⟨d', hd', rfl⟩ := enumFrom_get ds 0 i d hd
  obtain ⟨v, hv, r⟩ := t.getD hd'
  refine ⟨⟨xs, v, s1, hv⟩, fun x H' y => ?_⟩
  obtain ⟨T, z, rfl, nT, rfl, y⟩ := y
  have := y xs s1
  rw [hv] at this
  cases this
  have V := StepV.new1 (o := .tup [.int (i : Nat), v]) e2 nT
  refine ⟨_, V, .tup (.of (tag_off rfl) upd_same) (.cons ?_ (.one ((r.mono e1).mono V.same)))⟩
  rw [Nat.zero_add]
  exact .int _
theorem fi_enum {p tpos : Pos} {elts : List Expr} {kk : Nat} {m : M (List D)} (hg : Gl X "enumerate") (hm : X.mg "enumerate" = none) (ha : FA X [a] m) (hs : starEach [a] X.env = [(false, eval a X.env)] := by rfl) :
    FI X (.Tuple elts kk tpos) (.Call (.Name "enumerate" p) [a] [] pos) (rngM enumD m) := imI (pi_enum hg hm ha hs) fun σ H R h => by
  obtain ⟨G, ρ, its, ρ', E, hm, q⟩ := h
  obtain ⟨x, ρ1, e1, h2⟩ := bindM_some hm
  obtain ⟨e3, rfl⟩ := liftM_some h2
  refine ⟨G, ρ, x, ρ', E, e1, fun vs H1 G1 S1 r1 => ?_⟩
  unfold enumD at e3
  split at e3
  · cases e3
    obtain ⟨v, rfl, p1⟩ := rp1 r1
    obtain ⟨q1, xs, rfl, s, t⟩ := rp_list p1
    exact ⟨q1, xs, rfl, sql_mono S1.env.sub s, q _ H1 G1 S1 (itOk_enum s t)⟩
  · cases e3
structure TgS (K : PySem.W.Frag) (ts : List Nat) (G H : Hp) (σ : L2.St) (ρ : Rho) (σ' : L2.St) (ρ' : Rho) : Prop where
  env : EnvR K G H σ' ρ'
  roots : ∀ a, root H σ' ρ' a → root H σ ρ a
  len : σ'.length = σ.length
  off : ∀ i : Nat, i ∉ ts → σ'[i]? = σ[i]?
theorem TgS.refl {K : PySem.W.Frag} {G H : Hp} {σ : L2.St} {ρ : Rho} (E : EnvR K G H σ ρ) (ts : List Nat) : TgS K ts G H σ ρ σ ρ := ⟨E, fun _ h => h, rfl, fun _ _ => rfl⟩
theorem TgS.trans {K : PySem.W.Frag} {ts us : List Nat} {G H : Hp} {σ σ1 σ2 : L2.St} {ρ ρ1 ρ2 : Rho} (A : TgS K ts G H σ ρ σ1 ρ1) (B : TgS K us G H σ1 ρ1 σ2 ρ2) : TgS K (ts ++ us) G H σ ρ σ2 ρ2 :=
  ⟨B.env, fun a h => A.roots a (B.roots a h), B.len.trans A.len, fun i h => (B.off i fun z => h (List.mem_append_right _ z)).trans (A.off i fun z => h (List.mem_append_left _ z))⟩
/-- frozen data put into a slot -/
theorem EnvR.put {K : PySem.W.Frag} {G H : Hp} {σ : L2.St} {ρ : Rho} (E : EnvR K G H σ ρ) (i : Nat) {v : V} {d : D} (r : Rp K G v d) : TgS K [i] G H σ ρ (σ.set i (some v)) (ρ.set i (some (.fz d))) := by
  have ne : ∀ (j : Nat) (e : Sl), j ≠ i → (ρ.set i (some (.fz d)))[j]? = some (some e) → ρ[j]? = some (some e) := fun j e hj q => by rw [List.getElem?_set_ne (Ne.symm hj)] at q; exact q
  have at_i : ∀ (j : Nat) (e : Sl), j = i → (ρ.set i (some (.fz d)))[j]? = some (some e) → e = .fz d ∧ i < ρ.length := fun j e hj q => by
    subst hj
    have hi : j < ρ.length := by
      have := (List.getElem?_eq_some_iff.mp q).1
      simpa using this
    rw [List.getElem?_set_self hi] at q
    cases q
    exact ⟨rfl, hi⟩
  have own : ∀ (j : Nat) (s : Sl), (∀ e, s ≠ .fz e) → (ρ.set i (some (.fz d)))[j]? = some (some s) → j ≠ i ∧ ρ[j]? = some (some s) := fun j e nf q => by
    by_cases hj : j = i
    · exact (nf _ (at_i j _ hj q).1).elim
    · exact ⟨hj, ne j _ hj q⟩
  have nfz : ∀ {s : Sl} {q a : Addr}, s.In H q a → ∀ e, s ≠ .fz e := fun {s q a} m e z => by subst z; exact m
  have σne : ∀ j : Nat, j ≠ i → (σ.set i (some v))[j]? = σ[j]? := fun j hj => List.getElem?_set_ne (Ne.symm hj)
  refine ⟨⟨E.sub, by simpa using E.len, fun j e q => ?_, fun j e q nf => ?_, fun j k s t p p' a hj hk a1 a2 m1 m2 => ?_⟩, fun a ⟨j, s, p, q1, q2, m⟩ => ?_, by simp, fun j hj => σne j (by simpa using hj)⟩
  · by_cases hj : j = i
    · obtain ⟨z, hi⟩ := at_i j _ hj q
      cases z
      subst hj
      exact ⟨v, List.getElem?_set_self (by rw [← E.len]; exact hi), r⟩
    · rw [σne j hj]
      exact E.fz j e (ne j _ hj q)
  · obtain ⟨hj, q⟩ := own j e nf q
    rw [σne j hj]
    exact E.os j e q nf
  · obtain ⟨hj', hj⟩ := own j s (nfz m1) hj
    obtain ⟨hk', hk⟩ := own k t (nfz m2) hk
    rw [σne j hj'] at a1
    rw [σne k hk'] at a2
    exact E.apx j k s t p p' a hj hk a1 a2 m1 m2
  · obtain ⟨hj, q2⟩ := own j s (nfz m) q2
    rw [σne j hj] at q1
    exact ⟨j, s, p, q1, q2, m⟩
def tMG (K : PySem.W.Frag) (ts : List Nat) (g : D → M Unit) : TG := fun v σ H Q => ∃ G ρ d ρ', EnvR K G H σ ρ ∧ Rp K G v d ∧ g d ρ = some ((), ρ') ∧ ∀ σ', TgS K ts G H σ ρ σ' ρ' → Q σ' H
def tMGs (K : PySem.W.Frag) (ts : List Nat) (g : List D → M Unit) : TGs := fun v σ H Q => ∃ G ρ d ρ', EnvR K G H σ ρ ∧ RpAll K G v d ∧ g d ρ = some ((), ρ') ∧ ∀ σ', TgS K ts G H σ ρ σ' ρ' → Q σ' H
abbrev FG (X : Cx) (tg : Expr) (ts : List Nat) (g : D → M Unit) : Prop := PG X tg (tMG X.K ts g)
abbrev FGs (X : Cx) (tg : List Expr) (ts : List Nat) (g : List D → M Unit) : Prop := PGs X tg (tMGs X.K ts g)
theorem imG {tg : Expr} {t t' : TG} (h : PG X tg t) (i : ∀ v σ H Q, t' v σ H Q → t v σ H Q) : PG X tg t' := ⟨fun pins s σ H v u Q I r q => h.run pins s σ H v u Q I r (i v σ H Q q)⟩
theorem imGs {tg : List Expr} {t t' : TGs} (h : PGs X tg t) (i : ∀ v σ H Q, t' v σ H Q → t v σ H Q) : PGs X tg t' := ⟨fun pins s σ H v u Q I r q => h.run pins s σ H v u Q I r (i v σ H Q q)⟩
def putM (i : Nat) (d : D) : M Unit := fun ρ => some ((), ρ.set i (some (.fz d)))
theorem fg_name (i : Nat) {x : Str} (hN : X.N.Nodup) (hi : X.N[i]? = some x) (hx : Loc X.env.scope x) (hf : X.fn x = true ∨ X.env.scope.names.lookup x = some .local := by first | exact .inl rfl | exact .inr rfl | assumption) : FG X (.Name x pos) [i] (putM i) := imG (pg_name hN hi hx hf) fun v σ H Q h => by
  obtain ⟨G, ρ, d, ρ', E, r, hm, q⟩ := h
  cases hm
  exact q _ (E.put i r)
def gsNil : List D → M Unit
  | [] => pureM ()
  | _ => liftM none
def gsCons (g : D → M Unit) (gs : List D → M Unit) : List D → M Unit
  | d :: ds => bindM (g d) fun _ => gs ds
  | [] => liftM none
theorem fgs_nil : FGs X [] [] gsNil := imGs pgs_nil fun v σ H Q h => by
  obtain ⟨G, ρ, d, ρ', E, r, hm, q⟩ := h
  unfold gsNil at hm
  split at hm
  · cases r
    cases hm
    exact ⟨rfl, q σ (.refl E _)⟩
  · obtain ⟨hm, _⟩ := liftM_some hm
    cases hm
theorem fgs_cons {e : Expr} {es : List Expr} {ts us : List Nat} {g : D → M Unit} {gs : List D → M Unit} (h1 : FG X e ts g) (h2 : FGs X es us gs)
    (hs : (assignEach (e :: es) X.env).map (·.2) = assign e X.env :: (assignEach es X.env).map (·.2) := by rfl) : FGs X (e :: es) (ts ++ us) (gsCons g gs) := imGs (pgs_cons h1 h2 hs) fun v σ H Q h => by
  obtain ⟨G, ρ, d, ρ', E, r, hm, q⟩ := h
  unfold gsCons at hm
  split at hm
  · obtain ⟨_, ρ1, e1, h3⟩ := bindM_some hm
    cases r with
    | cons r1 r2 =>
      refine ⟨_, _, rfl, G, ρ, _, ρ1, E, r1, e1, fun σ1 T1 => ⟨G, ρ1, _, ρ', T1.env, r2, h3, fun σ2 T2 => q σ2 (T1.trans T2)⟩⟩
  · obtain ⟨hm, _⟩ := liftM_some hm
    cases hm
def tupG (n : Nat) (gs : List D → M Unit) : D → M Unit
  | .tuple ds => if ds.length = n then gs ds else liftM none
  | _ => liftM none
theorem fg_tup {es : List Expr} {k : Nat} {ts : List Nat} {gs : List D → M Unit} {n : Nat} (hc : X.calm = true) (h : FGs X es ts gs)
    (hn : (assignEach es X.env).length = n := by rfl) (hst : (assignEach es X.env).findIdx? (·.1) = none := by rfl) : FG X (.Tuple es k pos) ts (tupG n gs) := imG (pg_tup hc h hn hst) fun v σ H Q h => by
  obtain ⟨G, ρ, d, ρ', E, r, hm, q⟩ := h
  unfold tupG at hm
  split at hm
  · split at hm
    · obtain ⟨p, xs, rfl, s, t⟩ := rp_tup r
      exact ⟨p, xs, rfl, sqt_mono E.sub s, by rw [t.length]; assumption, G, ρ, _, ρ', E, t, hm, q⟩
    · obtain ⟨hm, _⟩ := liftM_some hm
      cases hm
  · obtain ⟨hm, _⟩ := liftM_some hm
    cases hm
def wipeR (ρ : Rho) : List Nat → Rho
  | [] => ρ
  | v :: vs => (wipeR ρ vs).set v none
def restR (ρ1 ρ : Rho) : List Nat → Rho
  | [] => ρ
  | v :: vs => (restR ρ1 ρ vs).set v (ρ1.getD v none)
theorem wipeR_len (ρ : Rho) : ∀ vs, (wipeR ρ vs).length = ρ.length
  | [] => rfl
  | v :: vs => by unfold wipeR; rw [List.length_set, wipeR_len ρ vs]
theorem restR_len (ρ1 ρ : Rho) : ∀ vs, (restR ρ1 ρ vs).length = ρ.length
  | [] => rfl
  | v :: vs => by unfold restR; rw [List.length_set, restR_len ρ1 ρ vs]
theorem wipeR_out (ρ : Rho) {i : Nat} : ∀ {vs : List Nat}, i ∉ vs → (wipeR ρ vs)[i]? = ρ[i]?
  | [], _ => rfl
  | v :: vs, h => by
    unfold wipeR
    rw [List.getElem?_set_ne (fun e => h (by rw [e]; exact List.mem_cons_self))]
    exact wipeR_out ρ fun z => h (List.mem_cons_of_mem _ z)
theorem wipeR_in (ρ : Rho) {i : Nat} {s : Sl} : ∀ {vs : List Nat}, i ∈ vs → (wipeR ρ vs)[i]? ≠ some (some s)
  | v :: vs, h => by
    unfold wipeR
    by_cases hv : v = i
    · subst hv
      by_cases hl : v < (wipeR ρ vs).length
      · rw [List.getElem?_set_self hl]; nofun
      · rw [List.getElem?_eq_none (by simpa using hl)]; nofun
    · rw [List.getElem?_set_ne hv]
      exact wipeR_in ρ ((List.mem_cons.mp h).resolve_left fun e => hv e.symm)
theorem restR_out (ρ1 ρ : Rho) {i : Nat} : ∀ {vs : List Nat}, i ∉ vs → (restR ρ1 ρ vs)[i]? = ρ[i]?
  | [], _ => rfl
  | v :: vs, h => by
    unfold restR
    rw [List.getElem?_set_ne (fun e => h (by rw [e]; exact List.mem_cons_self))]
    exact restR_out ρ1 ρ fun z => h (List.mem_cons_of_mem _ z)
theorem restR_in (ρ1 ρ : Rho) {i : Nat} {s : Sl} : ∀ {vs : List Nat}, i ∈ vs → (restR ρ1 ρ vs)[i]? = some (some s) → ρ1[i]? = some (some s)
  | v :: vs, h, e => by
    unfold restR at e
    by_cases hv : v = i
    · subst hv
      by_cases hl : v < (restR ρ1 ρ vs).length
      · rw [List.getElem?_set_self hl] at e
        have e' : ρ1.getD v none = some s := Option.some.inj e
        rw [List.getD_eq_getElem?_getD] at e'
        cases q : ρ1[v]? with
        | none => rw [q] at e'; cases e'
        | some o => rw [q] at e'; exact congrArg some e'
      · rw [List.getElem?_eq_none (by simpa using hl)] at e
        cases e
    · rw [List.getElem?_set_ne hv] at e
      exact restR_in ρ1 ρ ((List.mem_cons.mp h).resolve_left fun z => hv z.symm) e
theorem wipe_out' (σ : L2.St) {i : Nat} {vs : List Nat} (h : i ∉ vs) : (L2.wipe σ vs)[i]? = σ[i]? := L2.wipe_out h
theorem wipe_eq : ∀ {vs : List Nat} {σ σ' : L2.St}, σ'.length = σ.length → (∀ i : Nat, i ∉ vs → σ'[i]? = σ[i]?) → L2.wipe σ' vs = L2.wipe σ vs := by
  intro vs σ σ' hl h
  apply List.ext_getElem?
  intro i
  by_cases hi : i ∈ vs
  · have key : ∀ (τ : L2.St) (us : List Nat), i ∈ us → (L2.wipe τ us)[i]? = if i < τ.length then some none else none := by
      intro τ us
      induction us with
      | nil => intro z; cases z
      | cons v us ih =>
        intro z
        unfold L2.wipe
        by_cases hv : v = i
        · subst hv
          by_cases hl : v < τ.length
          · rw [List.getElem?_set_self (by rw [L2.wipe_length]; exact hl), if_pos hl]
          · rw [List.getElem?_eq_none (by rw [List.length_set, L2.wipe_length]; omega), if_neg hl]
        · rw [List.getElem?_set_ne hv]
          exact ih ((List.mem_cons.mp z).resolve_left fun e => hv e.symm)
    rw [key σ' vs hi, key σ vs hi, hl]
  · rw [wipe_out' σ' hi, wipe_out' σ hi]
    exact h i hi
def noOwn (ρ : Rho) (vs : List Nat) : Bool := vs.all fun i => match ρ[i]? with
  | some (some (.ow _)) => false
  | some (some (.o2 _)) => false
  | _ => true
theorem noOwn_at {ρ : Rho} {vs : List Nat} (h : noOwn ρ vs = true) {i : Nat} (hi : i ∈ vs) {s : Sl} (nf : ∀ d, s ≠ .fz d) (e : ρ[i]? = some (some s)) : False := by
  unfold noOwn at h
  have := List.all_eq_true.mp h i hi
  rw [e] at this
  cases s with
  | fz d => exact nf d rfl
  | ow d => cases this
  | o2 d => cases this
theorem EnvR.wipe {K : PySem.W.Frag} {G H : Hp} {σ : L2.St} {ρ : Rho} (E : EnvR K G H σ ρ) (vs : List Nat) : EnvR K G H (L2.wipe σ vs) (wipeR ρ vs) := by
  have key : ∀ (i : Nat) (s : Sl), (wipeR ρ vs)[i]? = some (some s) → i ∉ vs ∧ ρ[i]? = some (some s) := fun i s h => by
    by_cases hi : i ∈ vs
    · exact absurd h (wipeR_in ρ hi)
    · rw [wipeR_out ρ hi] at h; exact ⟨hi, h⟩
  refine ⟨E.sub, by rw [wipeR_len, L2.wipe_length]; exact E.len, fun i d h => ?_, fun i d h nf => ?_, fun i j s t p q a hi hj a1 a2 m1 m2 => ?_⟩
  · obtain ⟨hi, h⟩ := key i _ h
    rw [wipe_out' σ hi]
    exact E.fz i d h
  · obtain ⟨hi, h⟩ := key i _ h
    rw [wipe_out' σ hi]
    exact E.os i d h nf
  · obtain ⟨hi', hi⟩ := key i _ hi
    obtain ⟨hj', hj⟩ := key j _ hj
    rw [wipe_out' σ hi'] at a1
    rw [wipe_out' σ hj'] at a2
    exact E.apx i j s t p q a hi hj a1 a2 m1 m2
theorem root_wipe {H : Hp} {σ : L2.St} {ρ : Rho} {vs : List Nat} {a : Addr} (h : root H (L2.wipe σ vs) (wipeR ρ vs) a) : root H σ ρ a := by
  obtain ⟨i, s, p, e1, e2, m⟩ := h
  by_cases hi : i ∈ vs
  · exact absurd e2 (wipeR_in ρ hi)
  · rw [wipe_out' σ hi] at e1
    rw [wipeR_out ρ hi] at e2
    exact ⟨i, s, p, e1, e2, m⟩
theorem EnvR.updO' {K : PySem.W.Frag} {G H : Hp} {σ : L2.St} {ρ : Rho} (E : EnvR K G H σ ρ) {p : Addr} (o : HO) (g : G p = none) (nr : ¬ root H σ ρ p) : EnvR K G (upd H p o) σ ρ ∧ ∀ a, root (upd H p o) σ ρ a ↔ root H σ ρ a :=
  E.stays (.refl _) (fun b u e => by rw [upd_ne (ne_of_none e g)]; exact E.sub _ _ e) fun a r => ⟨(E.root_own r).1, fun o e => by rw [upd_ne fun z => nr (by rw [← z]; exact r)]; exact e⟩
theorem EnvR.updO {K : PySem.W.Frag} {G H : Hp} {σ : L2.St} {ρ : Rho} (E : EnvR K G H σ ρ) {p : Addr} (o : HO) (g : G p = none) (nr : ¬ root H σ ρ p) : EnvR K G (upd H p o) σ ρ := (E.updO' o g nr).1
/-- a turn's end: back to the wiped slots -/
theorem Stp.turn {K : PySem.W.Frag} {G H G' H' : Hp} {σ σ2 : L2.St} {ρ ρ2 ρ3 : Rho} {ts vs : List Nat} (T : TgS K ts G H (L2.wipe σ vs) ρ σ2 ρ2) (hts : ∀ i ∈ ts, i ∈ vs) (S : Stp K σ2 G H ρ2 G' H' ρ3) : Stp K (L2.wipe σ vs) G H ρ G' H' (wipeR ρ3 vs) ∧ L2.wipe σ2 vs = L2.wipe σ vs := by
  have ew : L2.wipe σ2 vs = L2.wipe σ vs := by
    have e1 := wipe_eq (vs := vs) (σ := L2.wipe σ vs) (σ' := σ2) T.len fun i hi => T.off i fun z => hi (hts i z)
    have e2 := wipe_eq (vs := vs) (σ := σ) (σ' := L2.wipe σ vs) (L2.wipe_length _ _) fun i hi => wipe_out' σ hi
    exact e1.trans e2
  have EW := S.env.wipe vs
  rw [ew] at EW
  refine ⟨⟨EW, S.same, fun a o h => ?_, fun a o h n => S.keep a o h fun r => n (T.roots a r), fun a r => ?_, S.there⟩, ew⟩
  · rcases S.new a o h with z | z | z
    · exact .inl z
    · exact .inr (.inl z)
    · exact .inr (.inr (T.roots a z))
  · rw [← ew] at r
    exact T.roots a (S.roots a (root_wipe r))
/-- .. and the object under way changed -/
theorem Stp.updO {K : PySem.W.Frag} {G H G' H' : Hp} {σ : L2.St} {ρ ρ' : Rho} (S : Stp K σ G H ρ G' H' ρ') {p : Addr} (o : HO) (n : H p = none) (g : G' p = none) (E : EnvR K G H σ ρ) : Stp K σ G H ρ G' (upd H' p o) ρ' := by
  have nr : ¬ root H' σ ρ' p := fun r => by
    obtain ⟨u, hu⟩ := E.root_there (S.roots _ r)
    rw [n] at hu; cases hu
  refine ⟨S.env.updO o g nr, S.same, S.new, fun a u e nr' => ?_, fun a r => S.roots a (((S.env.updO' o g nr).2 a).mp r), fun a e => ?_⟩
  · exact (S.keep a u e nr').imp (fun h => by rw [upd_ne (ne_of_none e n)]; exact h) fun ⟨od, h, q⟩ => ⟨od, by rw [upd_ne (ne_of_none e n)]; exact h, q⟩
  · by_cases ha : a = p
    · subst ha; exact n
    · rw [upd_ne ha] at e; exact S.there a e
/-- the loop's end: the slots given back -/
theorem Stp.rest {K : PySem.W.Frag} {G H G' H' : Hp} {σ : L2.St} {ρ ρ3 : Rho} {vs : List Nat} (E : EnvR K G H σ ρ) (S : Stp K (L2.wipe σ vs) G H (wipeR ρ vs) G' H' ρ3) (no : noOwn ρ vs = true) : Stp K σ G H ρ G' H' (restR ρ ρ3 vs) := by
  have key : ∀ (i : Nat) (s : Sl), (restR ρ ρ3 vs)[i]? = some (some s) → (i ∈ vs ∧ ρ[i]? = some (some s)) ∨ (i ∉ vs ∧ ρ3[i]? = some (some s)) := fun i s h => by
    by_cases hi : i ∈ vs
    · exact .inl ⟨hi, restR_in ρ ρ3 hi h⟩
    · rw [restR_out ρ ρ3 hi] at h; exact .inr ⟨hi, h⟩
  have own : ∀ (i : Nat) (s : Sl), (∀ d, s ≠ .fz d) → (restR ρ ρ3 vs)[i]? = some (some s) → i ∉ vs ∧ ρ3[i]? = some (some s) := fun i s nf h => by
    rcases key i _ h with ⟨hi, e⟩ | z
    · exact (noOwn_at no hi nf e).elim
    · exact z
  have nfz : ∀ {s : Sl} {q a : Addr}, s.In H' q a → ∀ e, s ≠ .fz e := fun {s q a} m e z => by subst z; exact m
  refine ⟨⟨S.env.sub, ?_, fun i d h => ?_, fun i d h nf => ?_, fun i j s t p q a hi hj a1 a2 m1 m2 => ?_⟩, S.same, fun a o h => ?_, fun a o h n => S.keep a o h fun r => n (root_wipe r), fun a ⟨i, s, p, e1, e2, m⟩ => ?_, S.there⟩
  · rw [restR_len]
    have := S.env.len
    rw [L2.wipe_length] at this
    exact this
  · rcases key i _ h with ⟨_, e⟩ | ⟨hi, e⟩
    · obtain ⟨v, q, r⟩ := E.fz i d e
      exact ⟨v, q, r.mono S.same⟩
    · have := S.env.fz i d e
      rw [wipe_out' σ hi] at this
      exact this
  · obtain ⟨hi, e⟩ := own i d nf h
    have := S.env.os i d e nf
    rw [wipe_out' σ hi] at this
    exact this
  · obtain ⟨hi', hi⟩ := own i s (nfz m1) hi
    obtain ⟨hj', hj⟩ := own j t (nfz m2) hj
    refine S.env.apx i j s t p q a hi hj ?_ ?_ m1 m2
    · rw [wipe_out' σ hi']; exact a1
    · rw [wipe_out' σ hj']; exact a2
  · rcases S.new a o h with z | z | z
    · exact .inl z
    · exact .inr (.inl z)
    · exact .inr (.inr (root_wipe z))
  · obtain ⟨hi, e⟩ := own i s (nfz m) e2
    exact root_wipe (S.roots a ⟨i, s, p, by rw [wipe_out' σ hi]; exact e1, e, m⟩)
def wipeM (vs : List Nat) : M Unit := fun ρ => some ((), wipeR ρ vs)
def lcLoop (g : D → M Unit) (t : M Bool) (e : M Sl) (vs : List Nat) : List D → M (List D)
  | [] => pureM []
  | x :: xs => bindM (g x) fun _ => bindM t fun b => if b then bindM e fun r => bindM (wipeM vs) fun _ => bindM (lcLoop g t e vs xs) fun rs => pureM (r.d :: rs)
      else bindM (wipeM vs) fun _ => lcLoop g t e vs xs
def lcM (mi : M (List D)) (g : D → M Unit) (t : M Bool) (e : M Sl) (vs : List Nat) : M Sl := bindM mi fun its => fun ρ =>
  if its.length ≤ sizeLine ∧ noOwn ρ vs = true then (lcLoop g t e vs its (wipeR ρ vs)).map fun p => (.ow (.list p.1), restR ρ p.2 vs) else none
def yesM : M Bool := pureM true
abbrev FTs (X : Cx) (ifs : List Expr) (m : M Bool) : Prop := PTs X ifs (tMT X.K m)
theorem fts_nil : FTs X [] yesM := ⟨fun pins s σ H Q I h => pts_nil.run pins s σ H Q I (by
  obtain ⟨G, ρ, r, ρ', E, hm, q⟩ := h
  cases hm
  exact q H G (.refl E))⟩
theorem lc_in {K : PySem.W.Frag} {mi : M (List D)} {g : D → M Unit} {t : M Bool} {e : M Sl} {ts vs : List Nat} (hts : ∀ i ∈ ts, i ∈ vs) {σ : L2.St} {H : Hp} {Q : VK} (h : tM K (lcM mi g t e vs) σ H Q) : tLc (tMI K mi) (tMG K ts g) (tMT K t) (tM K e) vs σ H Q := by
  obtain ⟨G, ρ, r, ρ', E, hm, q⟩ := h
  obtain ⟨its, ρ1, e1, h2⟩ := bindM_some hm
  by_cases hc : its.length ≤ sizeLine ∧ noOwn ρ1 vs = true
  · rw [if_pos hc] at h2
    obtain ⟨⟨rs, ρ3⟩, e2, h3⟩ := Option.map_eq_some_iff.mp h2
    obtain ⟨rfl, rfl⟩ := Prod.mk.inj h3
    refine ⟨G, ρ, its, ρ1, E, e1, fun J H1 G1 S1 hJ Dd hD => ?_⟩
    have EW : EnvR K G1 H1 (L2.wipe σ vs) (wipeR ρ1 vs) := S1.env.wipe vs
    have gD : G1 Dd = none := S1.env.sub.free hD
    refine ⟨fun i m Hc => m = its.length - i ∧ i ≤ its.length ∧ ∃ Gc ρc accV accD rs', Stp K (L2.wipe σ vs) G1 H1 (wipeR ρ1 vs) Gc Hc ρc ∧ lcLoop g t e vs (its.drop i) ρc = some (rs', ρ3) ∧ rs = accD ++ rs' ∧ accD.length ≤ i ∧
      Hc Dd = some (.lst accV) ∧ Gc Dd = none ∧ RpAll K Gc accV accD, ⟨its.length, by simp, Nat.zero_le _, G1, wipeR ρ1 vs, [], [], rs, (Stp.refl EW).updO _ hD gD EW, e2, rfl, Nat.le_refl _, upd_same, gD, .nil⟩, ?_⟩
    rintro i m Hc ⟨rfl, hi, Gc, ρc, accV, accD, rs', T, hl, hr, ha, hDc, gDc, ra⟩
    have noroot : ∀ a, root Hc (L2.wipe σ vs) ρc a → a ≠ Dd := fun a r z => by
      subst z
      obtain ⟨u, hu⟩ := EW.root_there (T.roots _ r)
      rw [hD] at hu; cases hu
    by_cases hlt : i < its.length
    · right
      have hx : its[i]? = some its[i] := List.getElem?_eq_getElem hlt
      obtain ⟨go, yl⟩ := (hJ i Gc Hc T.same T.env.sub).1 _ hx
      refine ⟨go, fun H' => ∃ m', m' < its.length - i ∧ (m' = its.length - (i + 1) ∧ i + 1 ≤ its.length ∧ ∃ Gc ρc accV accD rs', Stp K (L2.wipe σ vs) G1 H1 (wipeR ρ1 vs) Gc H' ρc ∧ lcLoop g t e vs (its.drop (i + 1)) ρc = some (rs', ρ3) ∧ rs = accD ++ rs' ∧ accD.length ≤ i + 1 ∧
        H' Dd = some (.lst accV) ∧ Gc Dd = none ∧ RpAll K Gc accV accD), fun H' z => z, fun x H' y => ?_⟩
      obtain ⟨G2, V2, rx⟩ := yl x H' y
      rw [List.drop_eq_getElem_cons hlt] at hl
      obtain ⟨_, ρt, et, hl2⟩ := bindM_some hl
      obtain ⟨b, ρ4, eb, hl3⟩ := bindM_some hl2
      have T2 := T.ext EW V2
      have g2 : G2 Dd = none := by
        cases z : G2 Dd with
        | none => rfl
        | some o =>
          rcases V2.new _ _ z with w | w | ⟨xs, w⟩
          · rw [gDc] at w; obtain ⟨_, w⟩ := w; cases w
          · rw [hDc] at w; cases w
          · have := V2.sub _ _ w
            rw [(V2.keep _ _ hDc).lst] at this; cases this
      refine ⟨G2, ρc, its[i], ρt, T2.env, rx, et, fun σ2 TG => ?_⟩
      have h2D : H' Dd = some (.lst accV) := (V2.keep _ _ hDc).lst
      refine ⟨(Stp.turn TG hts (.refl TG.env)).2, G2, ρt, b, ρ4, TG.env, eb, fun H3 G3 S3 => ?_⟩
      have nr2 : ¬ root H' σ2 ρt Dd := fun r => noroot _ (((T.env.ext' V2).2 _).mp (TG.roots _ r)) rfl
      have h3D : H3 Dd = some (.lst accV) := (S3.keep _ _ h2D nr2).lst
      have g3 : G3 Dd = none := by
        cases z : G3 Dd with
        | none => rfl
        | some o =>
          rcases S3.new _ _ z with w | (w | ⟨xs, w⟩) | w
          · rw [g2] at w; obtain ⟨_, w⟩ := w; cases w
          · rw [h2D] at w; cases w
          · have := S3.env.sub _ _ w
            rw [h3D] at this; cases this
          · exact (nr2 w).elim
      cases b with
      | false =>
        simp only [Bool.false_eq_true, if_false] at hl3 ⊢
        obtain ⟨_, ρ5, e5, hl4⟩ := bindM_some hl3
        cases e5
        have T3 := T2.trans EW (Stp.turn TG hts S3).1
        exact ⟨_, by omega, rfl, hlt, G3, _, accV, accD, rs', T3, hl4, hr, by omega, h3D, g3, (ra.mono V2.same).mono S3.same⟩
      | true =>
        simp only [if_true] at hl3 ⊢
        obtain ⟨r5, ρ5, e5, hl4⟩ := bindM_some hl3
        obtain ⟨_, ρ6, e6, hl5⟩ := bindM_some hl4
        cases e6
        obtain ⟨rs6, ρ7, e7, hl6⟩ := bindM_some hl5
        obtain ⟨rfl, rfl⟩ := pureM_some hl6
        refine ⟨G3, ρ4, r5, ρ5, S3.env, e5, fun v H4 G4 S4 r4 => ?_⟩
        have nr4 : ¬ root H3 σ2 ρ4 Dd := fun r => nr2 (S3.roots _ r)
        have h4D : H4 Dd = some (.lst accV) := (S4.keep _ _ h3D nr4).lst
        obtain ⟨G4', S4', p4, sm4⟩ := r4.frz S3.env S4
        have g4 : G4' Dd = none := by
          cases z : G4' Dd with
          | none => rfl
          | some o =>
            rcases S4'.new _ _ z with w | (w | ⟨xs, w⟩) | w
            · rw [g3] at w; obtain ⟨_, w⟩ := w; cases w
            · rw [h3D] at w; cases w
            · have := S4'.env.sub _ _ w
              rw [h4D] at this; cases this
            · exact (nr4 w).elim
        have T4 := T2.trans EW (Stp.turn TG hts (S3.trans TG.env S4')).1
        have hal : accV.length < sizeLine := by rw [ra.length]; omega
        refine ⟨accV, h4D, hal, _, by omega, rfl, hlt, G4', _, accV ++ [v], accD ++ [r5.d], rs6, T4.updO _ hD g4 EW, e7, by rw [hr, List.append_assoc]; rfl, by rw [List.length_append]; simp; omega, upd_same, g4, ?_⟩
        exact (((ra.mono V2.same).mono S3.same).mono S4'.same).append (.one p4)
    · left
      have hie : i = its.length := by omega
      subst hie
      refine ⟨(hJ _ Gc Hc T.same T.env.sub).2 rfl, ?_⟩
      rw [List.drop_length] at hl
      obtain ⟨rfl, rfl⟩ := pureM_some hl
      rw [List.append_nil] at hr
      subst hr
      exact q _ Hc Gc (S1.trans E (Stp.rest S1.env T hc.2)) ⟨Dd, rfl, S1.there _ hD, gDc, accV, hDc, ra⟩
  · rw [if_neg hc] at h2
    cases h2
theorem fe_lc {elt tg iter : Expr} {ifs : List Expr} {scope : Scope} {own : List (Str × Nat)} {mi : M (List D)} {ts : List Nat} {g : D → M Unit} {t : M Bool} {e : M Sl} (hc : X.calm = true) (hN : X.N.Nodup) (hi : FI X tg iter mi) (ok : BlkOk X.N X.env.scope scope own)
    (hg : ∀ (s : Shared) (H : Hp) (C : Addr) (cl : List (Str × Addr)) (fp : List Addr), FG (X.blk s H scope (compEnvC scope cl C X.env) fp) tg ts g) (ht : ∀ (s : Shared) (H : Hp) (C : Addr) (cl : List (Str × Addr)) (fp : List Addr), FTs (X.blk s H scope (compEnvC scope cl C X.env) fp) ifs t)
    (he : ∀ (s : Shared) (H : Hp) (C : Addr) (cl : List (Str × Addr)) (fp : List Addr), FE (X.blk s H scope (compEnvC scope cl C X.env) fp) elt e) {vs : List Nat} (hts : ∀ i ∈ ts, i ∈ vs := by decide) (hvs : own.map (·.2) = vs := by rfl) (hs : ∀ x, foldedSetIterable iter X.env x = pure x := by intro _; rfl) :
    FE X (.ListComp elt [⟨tg, iter, ifs, 0⟩] scope pos) (lcM mi g t e vs) := by
  subst hvs
  exact imE (pe_lc hc hN hi ok hg ht he hs) fun σ H Q h => lc_in hts h
end
end Fx
namespace Fx
open PySem PySem.Spec PyProof.Rows L2
/-- as Stp, the slots' values another list behind it -/
structure StpG (K : PySem.W.Frag) (σ : L2.St) (G H : Hp) (ρ : Rho) (σ' : L2.St) (G' H' : Hp) (ρ' : Rho) : Prop where
  env : EnvR K G' H' σ' ρ'
  same : RLe G G'
  new : ∀ a o, G' a = some o → (∃ u, G a = some u) ∨ Fr H G' a ∨ root H σ ρ a
  keep : ∀ a o, H a = some o → ¬ root H σ ρ a → Kp G' H' a o
  roots : ∀ a, root H' σ' ρ' a → root H σ ρ a
  there : ∀ a, H' a = none → H a = none
section
variable {K : PySem.W.Frag} {σ σ1 σ2 : L2.St} {G H G1 H1 G2 H2 : Hp} {ρ ρ1 ρ2 : Rho}
theorem Stp.g (S : Stp K σ G H ρ G1 H1 ρ1) : StpG K σ G H ρ σ G1 H1 ρ1 := ⟨S.env, S.same, S.new, S.keep, S.roots, S.there⟩
theorem StpG.s (S : StpG K σ G H ρ σ G1 H1 ρ1) : Stp K σ G H ρ G1 H1 ρ1 := ⟨S.env, S.same, S.new, S.keep, S.roots, S.there⟩
theorem StpG.trans (A : StpG K σ G H ρ σ1 G1 H1 ρ1) (B : StpG K σ1 G1 H1 ρ1 σ2 G2 H2 ρ2) : StpG K σ G H ρ σ2 G2 H2 ρ2 := by
  refine ⟨B.env, A.same.trans B.same, fun a o h => ?_, fun a o h n => ?_, fun a r => A.roots a (B.roots a r), fun a h => A.there a (B.there a h)⟩
  · rcases B.new a o h with ⟨u, z⟩ | z | z
    · rcases A.new a u z with z | z | z
      · exact .inl z
      · exact .inr (.inl (z.on B.same))
      · exact .inr (.inr z)
    · exact .inr (.inl (z.back (A.there a)))
    · exact .inr (.inr (A.roots a z))
  · exact (A.keep a o h n).trans B.same fun o h => B.keep a o h fun r => n (A.roots a r)
theorem TgS.g {ts : List Nat} (T : TgS K ts G H σ ρ σ1 ρ1) : StpG K σ G H ρ σ1 G H ρ1 := ⟨T.env, .refl _, fun _ o h => .inl ⟨o, h⟩, fun _ _ h _ => .of h, T.roots, fun _ h => h⟩
theorem StpG.ext (A : StpG K σ G H ρ σ1 G1 H1 ρ1) (V : StepV G1 H1 G2 H2) : StpG K σ G H ρ σ1 G2 H2 ρ1 := A.trans (Stp.ofV A.env V).g
theorem StpG.updO (S : StpG K σ G H ρ σ1 G1 H1 ρ1) {p : Addr} (o : HO) (n : H p = none) (g : G1 p = none) (E : EnvR K G H σ ρ) : StpG K σ G H ρ σ1 G1 (upd H1 p o) ρ1 := by
  have nr : ¬ root H1 σ1 ρ1 p := fun r => by
    obtain ⟨u, hu⟩ := E.root_there (S.roots _ r)
    rw [n] at hu; cases hu
  refine ⟨S.env.updO o g nr, S.same, S.new, fun a u e nr' => ?_, fun a r => S.roots a (((S.env.updO' o g nr).2 a).mp r), fun a e => ?_⟩
  · exact (S.keep a u e nr').imp (fun h => by rw [upd_ne (ne_of_none e n)]; exact h) fun ⟨od, h, q⟩ => ⟨od, by rw [upd_ne (ne_of_none e n)]; exact h, q⟩
  · by_cases ha : a = p
    · subst ha; exact n
    · rw [upd_ne ha] at e; exact S.there a e
/-- what is neither frozen nor one's own is let be -/
theorem StpG.apart (A : StpG K σ G H ρ σ1 G1 H1 ρ1) (E : EnvR K G H σ ρ) (B : StpG K σ1 G1 H1 ρ1 σ2 G2 H2 ρ2) {p : Addr} {o : HO} (n : H p = none) (h : H1 p = some o) (g : G1 p = none) (nt : (∀ xs, o ≠ .tup xs) ∧ ¬ IsDt o := by exact ⟨fun _ z => (by cases z), fun z => (by rcases z with ⟨_, z⟩ | ⟨_, z⟩ <;> cases z)⟩) : H2 p = some o ∧ G2 p = none := by
  have nr : ¬ root H1 σ1 ρ1 p := fun r => by
    obtain ⟨u, hu⟩ := E.root_there (A.roots _ r)
    rw [n] at hu; cases hu
  have k2 := (B.keep _ _ h nr).is nt.2
  refine ⟨k2, ?_⟩
  cases z : G2 p with
  | none => rfl
  | some o' =>
    rcases B.new _ _ z with w | (w | ⟨xs, w⟩) | w
    · rw [g] at w; obtain ⟨_, w⟩ := w; cases w
    · rw [h] at w; cases w
    · have := B.env.sub _ _ w
      rw [k2] at this
      exact (nt.1 xs (Option.some.inj this)).elim
    · exact (nr w).elim
end
def lc2Loop (g : D → M Unit) (t : M Bool) (mi1 : M (List D)) (g1 : D → M Unit) (t1 : M Bool) (e : M Sl) (vs vs1 : List Nat) : List D → M (List D)
  | [] => pureM []
  | x :: xs => bindM (g x) fun _ => bindM t fun b => if b then bindM mi1 fun its => bindM (wipeM vs1) fun _ => bindM (lcLoop g1 t1 e vs1 its) fun rs1 => bindM (wipeM vs) fun _ => bindM (lc2Loop g t mi1 g1 t1 e vs vs1 xs) fun rs => pureM (rs1 ++ rs)
      else bindM (wipeM vs) fun _ => lc2Loop g t mi1 g1 t1 e vs vs1 xs
def lc2M (mi : M (List D)) (g : D → M Unit) (t : M Bool) (mi1 : M (List D)) (g1 : D → M Unit) (t1 : M Bool) (e : M Sl) (vs vs1 : List Nat) : M Sl := bindM mi fun its => fun ρ =>
  if noOwn ρ vs = true then (lc2Loop g t mi1 g1 t1 e vs vs1 its (wipeR ρ vs)).bind fun p => if p.1.length ≤ sizeLine then some (.ow (.list p.1), restR ρ p.2 vs) else none else none
end Fx
namespace Fx
open PySem PySem.Spec PyProof.Rows L2
inductive Fl where
  | nx | bk | ct
  | rt (r : Sl)
structure StpH (K : PySem.W.Frag) (ws : List Nat) (σ : L2.St) (G H : Hp) (ρ : Rho) (σ' : L2.St) (G' H' : Hp) (ρ' : Rho) : Prop where
  env : EnvR K G' H' σ' ρ'
  same : RLe G G'
  new : ∀ a o, G' a = some o → (∃ u, G a = some u) ∨ Fr H G' a ∨ root H σ ρ a
  keep : ∀ a o, H a = some o → ¬ root H σ ρ a → Kp G' H' a o
  roots : ∀ a, root H' σ' ρ' a → root H σ ρ a ∨ H a = none
  there : ∀ a, H' a = none → H a = none
  len : σ'.length = σ.length
  off : ∀ i : Nat, i ∉ ws → σ'[i]? = σ[i]?
section
variable {K : PySem.W.Frag} {σ σ1 σ2 : L2.St} {G H G1 H1 G2 H2 : Hp} {ρ ρ1 ρ2 : Rho} {ws us ts : List Nat}
theorem StpH.trans (A : StpH K ws σ G H ρ σ1 G1 H1 ρ1) (E : EnvR K G H σ ρ) (B : StpH K us σ1 G1 H1 ρ1 σ2 G2 H2 ρ2) : StpH K (ws ++ us) σ G H ρ σ2 G2 H2 ρ2 := by
  refine ⟨B.env, A.same.trans B.same, fun a o h => ?_, fun a o h n => ?_, fun a r => ?_, fun a h => A.there a (B.there a h), B.len.trans A.len, fun i h => (B.off i fun z => h (List.mem_append_right _ z)).trans (A.off i fun z => h (List.mem_append_left _ z))⟩
  · rcases B.new a o h with ⟨u, z⟩ | z | z
    · rcases A.new a u z with z | z | z
      · exact .inl z
      · exact .inr (.inl (z.on B.same))
      · exact .inr (.inr z)
    · exact .inr (.inl (z.back (A.there a)))
    · rcases A.roots a z with z | z
      · exact .inr (.inr z)
      · exact .inr (.inl (.inl z))
  · refine (A.keep a o h n).trans B.same fun o h' => B.keep a o h' fun r => ?_
    rcases A.roots a r with z | z
    · exact n z
    · rw [h] at z; cases z
  · rcases B.roots a r with z | z
    · exact A.roots a z
    · exact .inr (A.there a z)
theorem StpH.mono (A : StpH K ws σ G H ρ σ1 G1 H1 ρ1) (h : ∀ i ∈ ws, i ∈ us) : StpH K us σ G H ρ σ1 G1 H1 ρ1 := ⟨A.env, A.same, A.new, A.keep, A.roots, A.there, A.len, fun i hi => A.off i fun z => hi (h i z)⟩
theorem Stp.h (S : Stp K σ G H ρ G1 H1 ρ1) : StpH K ws σ G H ρ σ G1 H1 ρ1 := ⟨S.env, S.same, S.new, S.keep, fun a r => .inl (S.roots a r), S.there, rfl, fun _ _ => rfl⟩
theorem TgS.h (T : TgS K ts G H σ ρ σ1 ρ1) : StpH K ts σ G H ρ σ1 G H ρ1 := ⟨T.env, .refl _, fun _ o h => .inl ⟨o, h⟩, fun _ _ h _ => .of h, fun a r => .inl (T.roots a r), fun _ h => h, T.len, T.off⟩
/-- a returned value: data, or a container of one's own that no slot holds -/
def ResS (K : PySem.W.Frag) (σ : L2.St) (ρ : Rho) (σ' : L2.St) (ρ' : Rho) (G' H H' : Hp) (v : V) : Sl → Prop
  | .fz d => Rp K G' v d
  | .ow d => ∃ p, v = .ref p ∧ (H p = none ∨ root H σ ρ p) ∧ ¬ root H' σ' ρ' p ∧ G' p = none ∧ Own K G' H' p d
  | .o2 d => ∃ p, v = .ref p ∧ (∀ a, a = p ∨ inner H' p a → (H a = none ∨ root H σ ρ a) ∧ ¬ root H' σ' ρ' a ∧ G' a = none) ∧ Own2 K G' H' p d
theorem ResV.res {v : V} {r : Sl} (h : ResV K G1 H H1 v r) (E : EnvR K G H σ ρ) (S : Stp K σ G H ρ G1 H1 ρ1) : ResS K σ ρ σ ρ1 G1 H H1 v r := by
  cases r with
  | fz d => exact h
  | ow d =>
    obtain ⟨p, e, n, q⟩ := h
    refine ⟨p, e, .inl n, fun r => ?_, q⟩
    obtain ⟨u, hu⟩ := E.root_there (S.roots _ r)
    rw [n] at hu; cases hu
  | o2 d =>
    obtain ⟨p, e, n, q⟩ := h
    refine ⟨p, e, fun a m => ⟨.inl (n a m).1, fun r => ?_, (n a m).2⟩, q⟩
    obtain ⟨u, hu⟩ := E.root_there (S.roots _ r)
    rw [(n a m).1] at hu; cases hu
theorem ResS.back {v : V} {r : Sl} {σ' : L2.St} {ρ' : Rho} (A : StpH K ws σ G H ρ σ1 G1 H1 ρ1) (h : ResS K σ1 ρ1 σ' ρ' G2 H1 H2 v r) : ResS K σ ρ σ' ρ' G2 H H2 v r := by
  cases r with
  | fz d => exact h
  | ow d =>
    obtain ⟨p, e, n, q⟩ := h
    refine ⟨p, e, ?_, q⟩
    rcases n with n | n
    · exact .inl (A.there _ n)
    · rcases A.roots _ n with z | z
      · exact .inr z
      · exact .inl z
  | o2 d =>
    obtain ⟨p, e, n, q⟩ := h
    refine ⟨p, e, fun a m => ⟨?_, (n a m).2⟩, q⟩
    rcases (n a m).1 with n | n
    · exact .inl (A.there _ n)
    · rcases A.roots _ n with z | z
      · exact .inr z
      · exact .inl z
/-- a slot forgotten -/
theorem EnvR.drop (E : EnvR K G H σ ρ) (i : Nat) : EnvR K G H σ (ρ.set i none) ∧ ∀ a, root H σ (ρ.set i none) a → root H σ ρ a ∧ ∃ (j : Nat) (t : Sl) (q : Addr), j ≠ i ∧ ρ[j]? = some (some t) ∧ σ[j]? = some (some (V.ref q)) ∧ t.In H q a := by
  have ne : ∀ (j : Nat) (e : Sl), (ρ.set i none)[j]? = some (some e) → j ≠ i ∧ ρ[j]? = some (some e) := fun j e q => by
    by_cases hj : j = i
    · subst hj
      have hi : j < ρ.length := by
        have := (List.getElem?_eq_some_iff.mp q).1
        simpa using this
      rw [List.getElem?_set_self hi] at q; cases q
    · rw [List.getElem?_set_ne (Ne.symm hj)] at q; exact ⟨hj, q⟩
  refine ⟨⟨E.sub, by simpa using E.len, fun j e q => E.fz j e (ne j _ q).2, fun j e q => E.os j e (ne j _ q).2, fun j k s t p q a hj hk => E.apx j k s t p q a (ne j _ hj).2 (ne k _ hk).2⟩, fun a ⟨j, t, q, q1, q2, m⟩ => ?_⟩
  obtain ⟨hj, q2⟩ := ne j _ q2
  exact ⟨⟨j, t, q, q1, q2, m⟩, j, t, q, hj, q2, q1, m⟩
/-- a value stored, as it came -/
theorem EnvR.store (E : EnvR K G H σ ρ) (S : Stp K σ G H ρ G1 H1 ρ1) (i : Nat) {v : V} {r : Sl} (h : ResV K G1 H H1 v r) : StpH K [i] σ G H ρ (σ.set i (some v)) G1 H1 (ρ1.set i (some r)) := by
  by_cases hf : ∃ d, r = .fz d
  · obtain ⟨d, rfl⟩ := hf
    have T := S.env.put i (show Rp K G1 v d from h)
    exact (S.h (ws := [])).trans E T.h
  · have nf : ∀ d, r ≠ .fz d := fun d e => hf ⟨d, e⟩
    obtain ⟨p, rfl, n, ow⟩ := h.own nf
    have nr : ∀ a, root H1 σ ρ1 a → r.In H1 p a → False := fun a z m => by
      obtain ⟨u, hu⟩ := E.root_there (S.roots _ z)
      rw [(n a m).1] at hu; cases hu
    have ne : ∀ (j : Nat) (e : Sl), j ≠ i → (ρ1.set i (some r))[j]? = some (some e) → ρ1[j]? = some (some e) := fun j e hj q => by rw [List.getElem?_set_ne (Ne.symm hj)] at q; exact q
    have at_i : ∀ (j : Nat) (e : Sl), j = i → (ρ1.set i (some r))[j]? = some (some e) → e = r ∧ i < ρ1.length := fun j e hj q => by
      subst hj
      have hi : j < ρ1.length := by
        have := (List.getElem?_eq_some_iff.mp q).1
        simpa using this
      rw [List.getElem?_set_self hi] at q
      cases q
      exact ⟨rfl, hi⟩
    have σne : ∀ j : Nat, j ≠ i → (σ.set i (some (V.ref p)))[j]? = σ[j]? := fun j hj => List.getElem?_set_ne (Ne.symm hj)
    have σi : i < ρ1.length → (σ.set i (some (V.ref p)))[i]? = some (some (V.ref p)) := fun hi => List.getElem?_set_self (by rw [← S.env.len]; exact hi)
    refine ⟨⟨S.env.sub, by simpa using S.env.len, fun j e q => ?_, fun j e q nt => ?_, fun j k s t x y a hj hk a1 a2 m1 m2 => ?_⟩, S.same, S.new, S.keep, fun a ⟨j, t, x, q1, q2, m⟩ => ?_, S.there, by simp, fun j hj => σne j (by simpa using hj)⟩
    · by_cases hj : j = i
      · exact (nf _ (at_i j _ hj q).1.symm).elim
      · rw [σne j hj]
        exact S.env.fz j e (ne j _ hj q)
    · by_cases hj : j = i
      · obtain ⟨z, hi⟩ := at_i j _ hj q
        subst z
        subst hj
        exact ⟨p, σi hi, fun a m => (n a m).2, ow⟩
      · rw [σne j hj]
        exact S.env.os j e (ne j _ hj q) nt
    · by_cases h1 : j = i
      · by_cases h2 : k = i
        · rw [h1, h2]
        · exfalso
          obtain ⟨z, hi⟩ := at_i j _ h1 hj
          subst h1
          rw [σi hi] at a1
          cases a1
          subst z
          rw [σne k h2] at a2
          exact nr a ⟨k, t, y, a2, ne k _ h2 hk, m2⟩ m1
      · by_cases h2 : k = i
        · exfalso
          obtain ⟨z, hi⟩ := at_i k _ h2 hk
          subst h2
          rw [σi hi] at a2
          cases a2
          subst z
          rw [σne j h1] at a1
          exact nr a ⟨j, s, x, a1, ne j _ h1 hj, m1⟩ m2
        · rw [σne j h1] at a1
          rw [σne k h2] at a2
          exact S.env.apx j k s t x y a (ne j _ h1 hj) (ne k _ h2 hk) a1 a2 m1 m2
    · by_cases hj : j = i
      · obtain ⟨z, hi⟩ := at_i j _ hj q2
        subst hj
        rw [σi hi] at q1
        cases q1
        subst z
        exact .inr (n a m).1
      · rw [σne j hj] at q1
        exact .inl (S.roots a ⟨j, t, x, q1, ne j _ hj q2, m⟩)
end
def tMS (K : PySem.W.Frag) (ws : List Nat) (m : M Fl) : TS := fun D σ H => ∃ G ρ fl ρ', EnvR K G H σ ρ ∧ m ρ = some (fl, ρ') ∧ match fl with
  | .nx => ∀ σ' H' G', StpH K ws σ G H ρ σ' G' H' ρ' → D.nx σ' H'
  | .bk => ∀ σ' H' G', StpH K ws σ G H ρ σ' G' H' ρ' → D.bk σ' H'
  | .ct => ∀ σ' H' G', StpH K ws σ G H ρ σ' G' H' ρ' → D.ct σ' H'
  | .rt r => ∀ v σ' H' G', StpH K ws σ G H ρ σ' G' H' ρ' → ResS K σ ρ σ' ρ' G' H H' v r → D.rt v H'
abbrev FS (X : Cx) (st : Stmt) (ws : List Nat) (m : M Fl) : Prop := PS X st (tMS X.K ws m)
abbrev FSs (X : Cx) (st : List Stmt) (ws : List Nat) (m : M Fl) : Prop := PSs X st (tMS X.K ws m)
def seqS (m n : M Fl) : M Fl := bindM m fun fl => match fl with
  | .nx => n
  | fl => pureM fl
section
variable {X : Cx} {st : Stmt} {rest : List Stmt} {ws us : List Nat} {m n : M Fl} {pos : Pos} {e : Expr} {me : M Sl}
theorem seqS_some {ρ ρ' : Rho} {fl : Fl} (h : seqS m n ρ = some (fl, ρ')) : (∃ ρ1, m ρ = some (.nx, ρ1) ∧ n ρ1 = some (fl, ρ')) ∨ (m ρ = some (fl, ρ') ∧ fl ≠ .nx) := by
  obtain ⟨f, ρ1, e1, h2⟩ := bindM_some h
  cases f with
  | nx => exact .inl ⟨ρ1, e1, h2⟩
  | _ =>
    obtain ⟨rfl, rfl⟩ := pureM_some h2
    exact .inr ⟨e1, nofun⟩
theorem fss_nil : FSs X [] [] (pureM .nx) := imSs pss_nil fun D σ H h => by
  obtain ⟨G, ρ, fl, ρ', E, hm, q⟩ := h
  cases hm
  exact q σ H G (Stp.refl E).h
theorem seq_in {K : PySem.W.Frag} {D : Ends} {σ : L2.St} {H : Hp} (h : tMS K (ws ++ us) (seqS m n) D σ H) : tSeq (tMS K ws m) (tMS K us n) D σ H := by
  obtain ⟨G, ρ, fl, ρ', E, hm, q⟩ := h
  have wl : ∀ i ∈ ws, i ∈ ws ++ us := fun i hi => List.mem_append_left _ hi
  rcases seqS_some hm with ⟨ρ1, e1, e2⟩ | ⟨e1, ne⟩
  · refine ⟨G, ρ, .nx, ρ1, E, e1, fun σ1 H1 G1 S1 => ⟨G1, ρ1, fl, ρ', S1.env, e2, ?_⟩⟩
    cases fl with
    | nx => exact fun σ2 H2 G2 S2 => q σ2 H2 G2 (S1.trans E S2)
    | bk => exact fun σ2 H2 G2 S2 => q σ2 H2 G2 (S1.trans E S2)
    | ct => exact fun σ2 H2 G2 S2 => q σ2 H2 G2 (S1.trans E S2)
    | rt r => exact fun v σ2 H2 G2 S2 rv => q v σ2 H2 G2 (S1.trans E S2) (rv.back S1)
  · refine ⟨G, ρ, fl, ρ', E, e1, ?_⟩
    cases fl with
    | nx => exact absurd rfl ne
    | bk => exact fun σ2 H2 G2 S2 => q σ2 H2 G2 (S2.mono wl)
    | ct => exact fun σ2 H2 G2 S2 => q σ2 H2 G2 (S2.mono wl)
    | rt r => exact fun v σ2 H2 G2 S2 rv => q v σ2 H2 G2 (S2.mono wl) rv
theorem fss_cons (h1 : FS X st ws m) (h2 : FSs X rest us n) : FSs X (st :: rest) (ws ++ us) (seqS m n) := imSs (pss_cons h1 h2) fun _ _ _ => seq_in
theorem fss_one (h1 : FS X st ws m) : FSs X [st] ws m := pss_one h1
def dropS (m : M Sl) : M Fl := bindM m fun _ => pureM .nx
def retS (m : M Sl) : M Fl := bindM m fun r => pureM (.rt r)
theorem fs_ret (he : FE X e me) : FS X (.Return (some e) pos) [] (retS me) := imS (ps_ret he) fun D σ H h => by
  obtain ⟨G, ρ, fl, ρ', E, hm, q⟩ := h
  obtain ⟨r, ρ1, e1, h2⟩ := bindM_some hm
  cases h2
  exact ⟨G, ρ, r, _, E, e1, fun v H1 G1 S1 r1 => q v σ H1 G1 S1.h (r1.res E S1)⟩
/-- a name returned: a container of one's own stays one -/
def retV (i : Nat) : M Fl := fun ρ => match ρ[i]? with
  | some (some s) => some (.rt s, ρ.set i none)
  | _ => none
theorem fs_retV (i : Nat) {x : Str} {p : Pos} (hN : X.N[i]? = some x := by rfl) (hv : Vis X.env.scope x := by first | exact Or.inl rfl | exact Or.inr (Or.inl rfl) | exact Or.inr (Or.inr rfl)) (hd : (x == ("__debug__" : Str)) = false := by decide)
    (hcd : (x == ("__classdict__" : Str)) = false := by decide) : FS X (.Return (some (.Name x p)) pos) [] (retV i) := imS (ps_ret (pe_var (i := i) hN hv hd hcd)) fun D σ H h => by
  obtain ⟨G, ρ, fl, ρ', E, hm, q⟩ := h
  unfold retV at hm
  split at hm
  · rename_i s es
    cases hm
    obtain ⟨E', rt'⟩ := E.drop i
    have T : StpH X.K [] σ G H ρ σ G H (ρ.set i none) := ⟨E', .refl _, fun _ o h => .inl ⟨o, h⟩, fun _ _ h _ => .of h, fun a r => .inl (rt' a r).1, fun _ h => h, rfl, fun _ _ => rfl⟩
    cases s with
    | fz d =>
      obtain ⟨v, ev, rv⟩ := E.fz i d es
      exact ⟨v, ev, q v σ H G T rv⟩
    | ow d =>
      obtain ⟨p, ev, g, ow⟩ := E.ow i d es
      refine ⟨_, ev, q _ σ H G T ⟨p, rfl, .inr ⟨i, _, p, ev, es, rfl⟩, fun r => ?_, g, ow⟩⟩
      obtain ⟨_, j, t, x, hj, e1, e2, m⟩ := rt' p r
      exact hj (E.apx j i t _ x p p e1 es e2 ev m rfl)
    | o2 d =>
      obtain ⟨p, ev, g, ow⟩ := E.o2 i d es
      refine ⟨_, ev, q _ σ H G T ⟨p, rfl, fun a ma => ⟨.inr ⟨i, _, p, ev, es, ma⟩, fun r => ?_, g a ma⟩, ow⟩⟩
      obtain ⟨_, j, t, x, hj, e1, e2, m⟩ := rt' a r
      exact hj (E.apx j i t _ x p a e1 es e2 ev m ma)
  · cases hm
/-- x = e -/
def setS (i : Nat) (m : M Sl) : M Fl := bindM m fun r => fun ρ => some (.nx, ρ.set i (some r))
theorem set_in {K : PySem.W.Frag} {i : Nat} {D : Ends} {σ : L2.St} {H : Hp} (h : tMS K [i] (setS i me) D σ H) : tAsg (tM K me) (gName i) D σ H := by
  obtain ⟨G, ρ, fl, ρ', E, hm, q⟩ := h
  obtain ⟨r, ρ1, e1, h2⟩ := bindM_some hm
  cases h2
  exact ⟨G, ρ, r, ρ1, E, e1, fun v H1 G1 S1 r1 => q _ H1 G1 (E.store S1 i r1)⟩
theorem fs_set (i : Nat) {x : Str} {pos' : Pos} (he : FE X e me) (hN : X.N.Nodup) (hi : X.N[i]? = some x) (hx : Loc X.env.scope x) (hs : swapsWith e (some (.Name x pos')) pos.line X.env = pure false := by rfl) (hf : X.fn x = true ∨ X.env.scope.names.lookup x = some .local := by first | exact .inl rfl | exact .inr rfl | assumption) :
    FS X (.Assign [.Name x pos'] e pos) [i] (setS i me) := imS (ps_set hN hi hx he hs hf) fun _ _ _ => set_in
/-- targets = e -/
def asgS (g : D → M Unit) (m : M Sl) : M Fl := bindM m fun r => bindM (g r.d) fun _ => pureM .nx
/-- x, y = e, f -/
def parS (i j : Nat) (m : M (List D)) : M Fl := bindM m fun ds => match ds with
  | [d, e] => fun ρ => some (.nx, (ρ.set i (some (.fz d))).set j (some (.fz e)))
  | _ => liftM none
/-- if -/
def ifS (t : M Bool) (m n : M Fl) : M Fl := bindM t fun b => if b then m else n
theorem fs_if {c : Expr} {a b : List Stmt} {t : M Bool} (hc : FT X c t) (ha : FSs X a ws m) (hb : FSs X b us n) : FS X (.If c a b pos) (ws ++ us) (ifS t m n) := imS (ps_if hc ha hb) fun D σ H h => by
  obtain ⟨G, ρ, fl, ρ', E, hm, q⟩ := h
  obtain ⟨k, ρ1, e1, h2⟩ := bindM_some hm
  have wl : ∀ i ∈ ([] : List Nat) ++ ws, i ∈ ws ++ us := fun i hi => List.mem_append_left _ hi
  have wr : ∀ i ∈ ([] : List Nat) ++ us, i ∈ ws ++ us := fun i hi => List.mem_append_right _ hi
  refine ⟨G, ρ, k, ρ1, E, e1, fun H1 G1 S1 => ?_⟩
  have T : StpH X.K [] σ G H ρ σ G1 H1 ρ1 := S1.h
  cases k with
  | true =>
    simp only [if_true] at h2 ⊢
    refine ⟨G1, ρ1, fl, ρ', S1.env, h2, ?_⟩
    cases fl with
    | nx => exact fun σ2 H2 G2 S2 => q σ2 H2 G2 ((T.trans E S2).mono wl)
    | bk => exact fun σ2 H2 G2 S2 => q σ2 H2 G2 ((T.trans E S2).mono wl)
    | ct => exact fun σ2 H2 G2 S2 => q σ2 H2 G2 ((T.trans E S2).mono wl)
    | rt r => exact fun v σ2 H2 G2 S2 rv => q v σ2 H2 G2 ((T.trans E S2).mono wl) (rv.back T)
  | false =>
    simp only [Bool.false_eq_true, if_false] at h2 ⊢
    refine ⟨G1, ρ1, fl, ρ', S1.env, h2, ?_⟩
    cases fl with
    | nx => exact fun σ2 H2 G2 S2 => q σ2 H2 G2 ((T.trans E S2).mono wr)
    | bk => exact fun σ2 H2 G2 S2 => q σ2 H2 G2 ((T.trans E S2).mono wr)
    | ct => exact fun σ2 H2 G2 S2 => q σ2 H2 G2 ((T.trans E S2).mono wr)
    | rt r => exact fun v σ2 H2 G2 S2 rv => q v σ2 H2 G2 ((T.trans E S2).mono wr) (rv.back T)
/-- for -/
def forLoop (g : D → M Unit) (m : M Fl) : List D → M Fl
  | [] => pureM .nx
  | x :: xs => bindM (g x) fun _ => bindM m fun fl => match fl with
    | .nx => forLoop g m xs
    | .ct => forLoop g m xs
    | .bk => pureM .nx
    | .rt r => pureM (.rt r)
def forS (mi : M (List D)) (g : D → M Unit) (m : M Fl) : M Fl := bindM mi fun its => forLoop g m its
theorem for_in {K : PySem.W.Frag} {mi : M (List D)} {g : D → M Unit} {ts : List Nat} {D : Ends} {σ : L2.St} {H : Hp} (h : tMS K (ts ++ ws) (forS mi g m) D σ H) : tFor (tMI K mi) (tMG K ts g) (tMS K ws m) D σ H := by
  obtain ⟨G, ρ, fl, ρ', E, hm, q⟩ := h
  obtain ⟨its, ρ1, e1, h2⟩ := bindM_some hm
  refine ⟨G, ρ, its, ρ1, E, e1, fun J H1 G1 S1 hJ => ?_⟩
  have T0 : StpH K (ts ++ ws) σ G H ρ σ G1 H1 ρ1 := S1.h
  refine ⟨fun i m' σc Hc => m' = its.length - i ∧ i ≤ its.length ∧ ∃ Gc ρc, StpH K (ts ++ ws) σ G H ρ σc Gc Hc ρc ∧ RLe G1 Gc ∧ forLoop g m (its.drop i) ρc = some (fl, ρ'), ⟨its.length, by simp, Nat.zero_le _, G1, ρ1, T0, .refl _, h2⟩, ?_⟩
  rintro i _ σc Hc ⟨rfl, hi, Gc, ρc, T, sG, hl⟩
  by_cases hlt : i < its.length
  · right
    have hx : its[i]? = some its[i] := List.getElem?_eq_getElem hlt
    obtain ⟨go, yl⟩ := (hJ i Gc Hc sG T.env.sub).1 _ hx
    refine ⟨go, fun σ' H' => ∃ m', m' < its.length - i ∧ (m' = its.length - (i + 1) ∧ i + 1 ≤ its.length ∧ ∃ Gc ρc, StpH K (ts ++ ws) σ G H ρ σ' Gc H' ρc ∧ RLe G1 Gc ∧ forLoop g m (its.drop (i + 1)) ρc = some (fl, ρ')), fun σ' H' z => z, fun x H' y => ?_⟩
    obtain ⟨G2, V2, rx⟩ := yl x H' y
    rw [List.drop_eq_getElem_cons hlt] at hl
    obtain ⟨_, ρt, et, hl2⟩ := bindM_some hl
    obtain ⟨f, ρ4, ef, hl3⟩ := bindM_some hl2
    have B2 : StpH K (ts ++ ws) σc Gc Hc ρc σc G2 H' ρc := (Stp.ofV T.env V2).h
    refine ⟨G2, ρc, its[i], ρt, B2.env, rx, et, fun σ2 TG => ⟨G2, ρt, f, ρ4, TG.env, ef, ?_⟩⟩
    have back : ∀ {σ3 G3 H3 ρ3}, StpH K ws σ2 G2 H' ρt σ3 G3 H3 ρ3 → StpH K (ts ++ ws) σ G H ρ σ3 G3 H3 ρ3 := fun {σ3 G3 H3 ρ3} S => by
      have S' : StpH K (ts ++ ws) σc Gc Hc ρc σ3 G3 H3 ρ3 := by
        have z := B2.trans T.env (TG.h.trans B2.env S)
        exact z.mono fun i hi => by
          simp only [List.mem_append] at hi ⊢
          rcases hi with (h | h) | h | h <;> simp [h]
      exact (T.trans E S').mono fun i hi => by
        simp only [List.mem_append] at hi ⊢
        rcases hi with (h | h) | h | h <;> simp [h]
    have sm : ∀ {σ3 G3 H3 ρ3}, StpH K ws σ2 G2 H' ρt σ3 G3 H3 ρ3 → RLe G1 G3 := fun S => (sG.trans V2.same).trans S.same
    cases f with
    | nx => exact fun σ3 H3 G3 S => ⟨_, by omega, rfl, hlt, G3, ρ4, back S, sm S, hl3⟩
    | ct => exact fun σ3 H3 G3 S => ⟨_, by omega, rfl, hlt, G3, ρ4, back S, sm S, hl3⟩
    | bk =>
      obtain ⟨rfl, rfl⟩ := pureM_some hl3
      exact fun σ3 H3 G3 S => q σ3 H3 G3 (back S)
    | rt r =>
      obtain ⟨rfl, rfl⟩ := pureM_some hl3
      refine fun v σ3 H3 G3 S rv => q v σ3 H3 G3 (back S) ?_
      have T2 : StpH K ((ts ++ ws) ++ ((ts ++ ws) ++ ts)) σ G H ρ σ2 G2 H' ρt := T.trans E (B2.trans T.env TG.h)
      exact rv.back T2
  · left
    have hie : i = its.length := by omega
    subst hie
    rw [List.drop_length] at hl
    obtain ⟨rfl, rfl⟩ := pureM_some hl
    exact ⟨(hJ _ Gc Hc sG T.env.sub).2 rfl, q σc Hc Gc T⟩
theorem fs_for {tg iter : Expr} {body : List Stmt} {mi : M (List D)} {g : D → M Unit} {ts : List Nat} (hp : PassesOwn (model X.prog X.w) X.A X.env X.xe) (hc : X.calm = true) (hi : FI X tg iter mi) (hg : FG X tg ts g) (hb : FSs X body ws m)
    (hs : ∀ x, foldedSetIterable iter X.env x = pure x := by intro _; rfl) : FS X (.For tg iter body [] pos) (ts ++ ws) (forS mi g m) := imS (ps_for hp hc hi hg hb hs) fun _ _ _ => for_in
end
end Fx
namespace Fx
open PySem PySem.Spec PyProof.Rows L2
structure FnG (P : Program) (w : World) (K : PySem.W.Frag) (mg : Str → Option Value) (base : Heap) (CX : CXT) (k : Nat) (f : Addr) (fd : FuncData) (ps : List Str) (sp : Sp) : Prop where
  len : ∀ vs H Q E, sp vs H Q E → vs.length = ps.length
  run : ∀ (A : Around) (outer : List Env) (s : Shared) (H : Hp) (args : Args) (us : List Value) (vs : List V) (Q : VK) (E : XK), Room k A → A.guards = some [] → Env0 P w K mg base A outer s H →
    BindsTo s fd args (ps.zip us) → Vals vs us → sp vs H Q E → codeAny (model P w) A (.call (.ref f) args) (CR CX outer P w H s Q E) s
section
variable {P : Program} {w : World} {K : PySem.W.Frag} {mg : Str → Option Value} {base : Heap} {CX : CXT}
theorem FnG.mono {j k : Nat} {f : Addr} {fd : FuncData} {ps : List Str} {sp : Sp} (F : FnG P w K mg base CX j f fd ps sp) (h : j ≤ k) : FnG P w K mg base CX k f fd ps sp :=
  ⟨F.len, fun A o s H args us vs Q E hr => F.run A o s H args us vs Q E (hr.mono h)⟩
theorem FnG.of_body {x qual : Str} {st : Stmt} {f : Addr} {fd : FuncData} {N ps : List Str} {k : Nat} {sp : Sp} (F : Fun K x qual st f fd) (S : FnScope N ps (defScope st)) (len : ∀ vs H Q E, sp vs H Q E → vs.length = ps.length)
    (hbody : ∀ (cdv : Value) (A : Around) (outer : List Env) (s : Shared) (H : Hp) (vs : List V) (Q : VK) (E : XK), Room k (A.deeper (envOfC qual (defScope st) s.heap.objs.size f cdv)) → A.guards = some [] → sp vs H Q E →
      ∃ t, PSs (cxOf CX P w K mg base N qual (defScope st) f cdv A outer s H E) (defBody st) t ∧ t { nx := fun _ H' => Q .non H', rt := Q } (L2.start N vs) H) : FnG P w K mg base CX (k + 1) f fd ps sp := by
  obtain ⟨oc, od, kV, doc, pm, an, cdv, ct, osl, rfl, lk, hcd⟩ := F.ex
  refine ⟨len, fun A outer s H args us vs Q E room hg env0 hb rel hsp => ?_⟩
  have hl := len _ _ _ _ hsp
  have inK : K.In s.heap := env0.mod.kin.keeps fun b o e => (env0.bs b o e).1
  have nolim : s.heap.NoLimit := env0.mod.nolimit.keeps fun b o e => (env0.bs b o e).1
  refine codeAny_call_function room.depth (inK _ _ lk) rfl S.co S.gen rfl (PySem.W.codeRec_of inK hcd) (hb _ _ _ _ ?_)
  refine wpAny_newFunctionEnv_cells S.kind (fun ⟨n, v⟩ hy => ?_) fun env he s1 x => ?_
  · rcases S.par n (List.of_mem_zip hy).1 with q | q
    · exact .inl q
    · exact .inr ⟨q, PySem.W.cellsFrom_some _ _ _ (.inl q)⟩
  · subst he
    refine ⟨nolim.keeps x.toInCall.keep, codeAny_func ?_⟩
    obtain ⟨t, ht, hq⟩ := hbody cdv A outer s H vs Q E (room.deeper _) hg hsp
    have I := inv_start (CX := CX) (cd := cdv) (E := E) S room.hd env0 hl rel x
    refine wpAny_mono (ht.run [] s1 (L2.start N vs) H _ I hq) (fun fl s' hs => ?_) fun e s' hs => hs
    cases fl with
    | ret u => obtain ⟨v, _, H', J, rv, q⟩ := hs; exact ⟨v, H', J.os, J.bare, J.base, J.hok, rv, q⟩
    | next => obtain ⟨_, H', J, q⟩ := hs; exact ⟨V.non, H', J.os, J.bare, J.base, J.hok, rfl, q⟩
    | brk => obtain ⟨_, _, _, q⟩ := hs; exact q.elim
    | cont => obtain ⟨_, _, _, q⟩ := hs; exact q.elim
end
section
variable {X : Cx} {CX : CXT} {k : Nat} {f : Addr} {fd : FuncData} {ps : List Str} {sp : Sp} {E : XK} {x : Str} {p pos : Pos} {e : Expr} {es : List Expr} {t : TA}
theorem run_g {pins : List (Addr × Obj)} {σ : L2.St} {H : Hp} {s : Shared} {Q : VK} {us : List Value} {vs : List V} (F : FnG X.prog X.w X.K X.mg X.base CX k f fd ps sp) (hr : Room k X.A) (hgd : X.A.guards = some []) (hb : Binds X.K fd ps []) (hx : Passes CX X E)
    (I : L2.Inv X pins σ H s) (r : Vals vs us) (h : sp vs H Q E) : wpAny (model X.prog X.w) X.A (call (.ref f) us) (EP X pins σ Q) X.xe s := by
  have hl : us.length = ps.length := by rw [← r.length]; exact F.len _ _ _ _ h
  have hb' := hb s us I.kIn (by rw [List.append_nil]; exact hl)
  rw [List.append_nil] at hb'
  refine wpAny_call (codeAny_mono (F.run X.A X.stack s H ⟨us, []⟩ us vs Q E hr hgd I.env0 hb' r h) fun res s' hq => ?_)
  match res, hq with
  | .error er, hq => exact hx pins σ H s er s' I hq
  | .ok (.ret u), hq => exact I.after hq
theorem pe_callG (F : FnG X.prog X.w X.K X.mg X.base CX k f fd ps sp) (hr : Room k X.A) (hgd : X.A.guards = some []) (hg : Gl X x) (hm : X.mg x = some (.ref f)) (hk : PySem.W.keepIn X.K (.ref f) = true) (hb : Binds X.K fd ps []) (hx : Passes CX X E)
    (ha : PA X (e :: es) t) (hdb : (x == ("__debug__" : Str)) = false := by decide) (he : starEach (e :: es) X.env = (false, eval e X.env) :: starEach es X.env := by rfl) (hpl : (backTo pos (starEach es X.env)).any (·.1) = false := by rfl) :
    PE X (.Call (.Name x p) (e :: es) [] pos) (tCall sp [] E t) := by
  refine ⟨fun pins s σ H Q I h => wpAny_Call_Name_kw (ld_glob I hg hm ?_ hdb)⟩
  refine PySem.W.callWith_K (h₀ := X.base) I.ok.mod.kin hk (thn (ha.run pos pins s σ H _ I h) fun us s1 hs => ?_) he hpl
  obtain ⟨vs, H1, I1, r, q⟩ := hs
  rw [List.append_nil] at q
  exact ⟨I1.kIn, run_g F hr hgd hb hx I1 r q⟩
end
def spF (K : PySem.W.Frag) (F : List D → Option Sl) : Sp := fun vs H Q _ => rLD K F vs H Q
def startR (N : List Str) (ds : List D) : Rho := ds.map (fun d => some (.fz d)) ++ List.replicate (N.length - ds.length) none
def outD : Option (Fl × Rho) → Option Sl
  | some (.rt r, _) => some r
  | some (.nx, _) => some (.fz .none)
  | _ => none
/-- the def's body m, with np parameters -/
def runF (np : Nat) (N : List Str) (m : M Fl) (ds : List D) : Option Sl := if ds.length = np then outD (m (startR N ds)) else none
theorem start_env {K : PySem.W.Frag} {G H : Hp} {N : List Str} {vs : List V} {ds : List D} (sub : Same G H) (r : RpAll K G vs ds) : EnvR K G H (L2.start N vs) (startR N ds) ∧ ∀ a, ¬ root H (L2.start N vs) (startR N ds) a := by
  have hl := r.length
  have no : ∀ (i : Nat) (s : Sl), (∀ d, s ≠ .fz d) → (startR N ds)[i]? ≠ some (some s) := fun i d nf h => by
    unfold startR at h
    rw [List.getElem?_append] at h
    split at h
    · rw [List.getElem?_map] at h
      cases q : ds[i]? with
      | none => rw [q] at h; cases h
      | some o => rw [q] at h; cases h; exact nf _ rfl
    · rw [List.getElem?_replicate] at h
      split at h <;> cases h
  have nfz : ∀ {s : Sl} {q a : Addr}, s.In H q a → ∀ e, s ≠ .fz e := fun {s q a} m e z => by subst z; exact m
  refine ⟨⟨sub, by simp [L2.start, startR, hl], fun i d h => ?_, fun i d h nf => (no i d nf h).elim, fun i j s t p q a h _ _ _ m _ => (no i s (nfz m) h).elim⟩, fun a ⟨i, s, p, _, h, m⟩ => no i s (nfz m) h⟩
  unfold startR at h
  rw [List.getElem?_append] at h
  split at h
  · rename_i hlt
    rw [List.getElem?_map] at h
    cases q : ds[i]? with
    | none => rw [q] at h; cases h
    | some o =>
      rw [q] at h
      cases h
      obtain ⟨v, ev, rv⟩ := r.getD q
      refine ⟨v, ?_, rv⟩
      unfold L2.start
      rw [List.getElem?_append_left (by rw [List.length_map, hl]; simpa using hlt), List.getElem?_map, ev]
      rfl
  · rw [List.getElem?_replicate] at h
    split at h <;> cases h
theorem StpH.v {K : PySem.W.Frag} {ws : List Nat} {σ σ' : L2.St} {G H G' H' : Hp} {ρ ρ' : Rho} (S : StpH K ws σ G H ρ σ' G' H' ρ') (n : ∀ a, ¬ root H σ ρ a) : StepV G H G' H' :=
  ⟨S.same, S.env.sub, fun a o h => (S.new a o h).elim .inl fun z => z.elim .inr fun r => (n a r).elim, fun a o h => S.keep a o h (n a)⟩
section
variable {P : Program} {w : World} {K : PySem.W.Frag} {mg : Str → Option Value} {base : Heap}
abbrev CxF (P : Program) (w : World) (K : PySem.W.Frag) (mg : Str → Option Value) (base : Heap) (N : List Str) (qual : Str) (st : Stmt) (f : Addr) (cdv : Value) (A : Around) (outer : List Env) (s : Shared) (H : Hp) (E : XK) : Cx := (cxOf CX0 P w K mg base N qual (defScope st) f cdv A outer s H E).nox
abbrev FnF (P : Program) (w : World) (K : PySem.W.Frag) (mg : Str → Option Value) (base : Heap) (k : Nat) (f : Addr) (fd : FuncData) (ps : List Str) (F : List D → Option Sl) : Prop := FnG P w K mg base CX0 k f fd ps (spF K F)
theorem fn_ok {x qual : Str} {st : Stmt} {f : Addr} {fd : FuncData} {N ps : List Str} {k : Nat} {ws : List Nat} {m : M Fl} (F : Fun K x qual st f fd) (S : FnScope N ps (defScope st))
    (hbody : ∀ (cdv : Value) (A : Around) (outer : List Env) (s : Shared) (H : Hp) (E : XK), Room k (A.deeper (envOfC qual (defScope st) s.heap.objs.size f cdv)) → A.guards = some [] → FSs (CxF P w K mg base N qual st f cdv A outer s H E) (defBody st) ws m) :
    FnF P w K mg base (k + 1) f fd ps (runF ps.length N m) := by
  refine FnG.of_body F S (fun vs H Q E h => ?_) fun cdv A outer s H vs Q E hr hgd h => ?_
  · obtain ⟨G, ds, r, sub, rp, e, q⟩ := h
    unfold runF at e
    split at e
    · rw [rp.length]; assumption
    · cases e
  · refine ⟨_, (hbody cdv A outer s H E hr hgd).nox, ?_⟩
    obtain ⟨G, ds, r, sub, rp, e, q⟩ := h
    unfold runF at e
    split at e
    · obtain ⟨E0, nr⟩ := start_env (N := N) sub rp
      cases em : m (startR N ds) with
      | none => rw [em] at e; cases e
      | some o =>
        obtain ⟨fl, ρ'⟩ := o
        rw [em] at e
        refine ⟨G, _, fl, ρ', E0, em, ?_⟩
        cases fl with
        | nx => cases e; exact fun σ' H' G' S' => q _ H' G' (S'.v nr) .non
        | bk => cases e
        | ct => cases e
        | rt r' =>
          cases e
          refine fun v σ' H' G' S' rv => q v H' G' (S'.v nr) ?_
          cases r with
          | fz d => exact rv
          | ow d =>
            obtain ⟨p, e1, n, _, q1⟩ := rv
            exact ⟨p, e1, n.resolve_right (nr p), q1⟩
          | o2 d =>
            obtain ⟨p, e1, n, q1⟩ := rv
            exact ⟨p, e1, fun a m => ⟨(n a m).1.resolve_right (nr a), (n a m).2.2⟩, q1⟩
    · cases e
end
section
variable {X : Cx} {k : Nat} {f : Addr} {fd : FuncData} {ps : List Str} {x : Str} {p pos : Pos} {e : Expr} {es : List Expr} {F : List D → Option Sl} {m : M (List D)}
theorem fe_call (Fn : FnF X.prog X.w X.K X.mg X.base k f fd ps F) (hr : Room k X.A) (hgd : X.A.guards = some []) (hg : Gl X x) (hm : X.mg x = some (.ref f)) (hk : PySem.W.keepIn X.K (.ref f) = true) (hb : Binds X.K fd ps [])
    (ha : FA X (e :: es) m) (hdb : (x == ("__debug__" : Str)) = false := by decide) (he : starEach (e :: es) X.env = (false, eval e X.env) :: starEach es X.env := by rfl) (hpl : (backTo pos (starEach es X.env)).any (·.1) = false := by rfl) :
    FE X (.Call (.Name x p) (e :: es) [] pos) (callM F m) := imE (pe_callG Fn hr hgd hg hm hk hb pass0 ha hdb he hpl) fun σ H Q h => by
  have h2 := call_in h
  unfold tCall
  simp only [List.append_nil]
  exact h2
end
section
variable {X : Cx} {pos : Pos} {a b : Expr} {ma mb : M Sl}
def ownM (i : Nat) : M D := fun ρ => match ρ[i]? with
  | some (some (.ow d)) => some (d, ρ)
  | _ => none
theorem ownM_some {i : Nat} {d : D} {ρ ρ' : Rho} (h : ownM i ρ = some (d, ρ')) : ρ' = ρ ∧ ρ[i]? = some (some (Sl.ow d)) := by
  unfold ownM at h
  split at h
  · rename_i s e
    cases h
    exact ⟨rfl, e⟩
  · cases h
def putO (i : Nat) (d : D) : M Unit := fun ρ => some ((), ρ.set i (some (.ow d)))
/-- the container in slot i has changed, with all that is one's own by it; the other slots' things stand -/
theorem EnvR.chgS {K : PySem.W.Frag} {G H G' H' : Hp} {σ : L2.St} {ρ : Rho} (E : EnvR K G H σ ρ) {i : Nat} {s s' : Sl} {p : Addr} (h : ρ[i]? = some (some s)) (hp : σ[i]? = some (some (V.ref p))) (ps : s.In H p p) (e : RLe G G') (sub : Same G' H')
    (k : ∀ a, root H σ ρ a → ¬ s.In H p a → G' a = none ∧ ∀ o, H a = some o → H' a = some o) (g' : ∀ a, s'.In H' p a → G' a = none) (ap : ∀ a, s'.In H' p a → s.In H p a ∨ H a = none) (ow : Occ K G' H' p s') :
    EnvR K G' H' σ (ρ.set i (some s')) ∧ ∀ a, root H' σ (ρ.set i (some s')) a → (∃ (j : Nat) (t : Sl) (q : Addr), j ≠ i ∧ ρ[j]? = some (some t) ∧ σ[j]? = some (some (V.ref q)) ∧ t.In H q a) ∨ s'.In H' p a := by
  have hi : i < ρ.length := (List.getElem?_eq_some_iff.mp h).1
  have back : ∀ (j : Nat) (t : Sl), j ≠ i → (ρ.set i (some s'))[j]? = some (some t) → ρ[j]? = some (some t) := fun j e hj q => by rw [List.getElem?_set_ne (Ne.symm hj)] at q; exact q
  have at_i : ∀ (j : Nat) (t : Sl), j = i → (ρ.set i (some s'))[j]? = some (some t) → t = s' := fun j t hj q => by
    subst hj; rw [List.getElem?_set_self hi] at q; cases q; rfl
  have nfz : ∀ {s : Sl} {H : Hp} {q a : Addr}, s.In H q a → ∀ e, s ≠ .fz e := fun {s H q a} m e z => by subst z; exact m
  have st : ∀ (j : Nat) (t : Sl) (q : Addr), j ≠ i → ρ[j]? = some (some t) → σ[j]? = some (some (V.ref q)) → (∀ d, t ≠ .fz d) → (∀ a, t.In H' q a ↔ t.In H q a) ∧ ∀ a, t.In H q a → G' a = none ∧ ∀ o, H a = some o → H' a = some o := fun j t q hj e1 e2 nf => by
    obtain ⟨q', x1, x2, x3⟩ := E.os j t e1 nf
    rw [e2] at x1
    cases x1
    have kk : ∀ a, t.In H q a → G' a = none ∧ ∀ o, H a = some o → H' a = some o := fun a m => k a ⟨j, t, q, e2, e1, m⟩ fun m' => hj (E.apx j i t s q p a e1 h e2 hp m m')
    obtain ⟨u, hu, _⟩ := x3.there x3.inSelf
    exact ⟨fun a => Sl.in_eq (kk q x3.inSelf).2 ⟨u, hu⟩, kk⟩
  have nfs' : ∀ d, s' ≠ .fz d := fun d z => by subst z; exact ow
  refine ⟨⟨sub, by simpa using E.len, fun j d q => ?_, fun j t q nf => ?_, fun j l t u x y a hj hl a1 a2 m1 m2 => ?_⟩, fun a ⟨j, t, q, q1, q2, m⟩ => ?_⟩
  · by_cases hj : j = i
    · exact (nfs' d (at_i j _ hj q).symm).elim
    · obtain ⟨v, w1, w2⟩ := E.fz j d (back j _ hj q)
      exact ⟨v, w1, w2.mono e⟩
  · by_cases hj : j = i
    · cases at_i j _ hj q
      subst hj
      exact ⟨p, hp, g', ow⟩
    · obtain ⟨x, q1, q2, q3⟩ := E.os j t (back j _ hj q) nf
      obtain ⟨s1, s2⟩ := st j t x hj (back j _ hj q) q1 nf
      exact ⟨x, q1, fun a m => (s2 a ((s1 a).mp m)).1, q3.mono e fun a m => (s2 a m).2⟩
  · by_cases h1 : j = i
    · by_cases h2 : l = i
      · rw [h1, h2]
      · exfalso
        cases at_i j _ h1 hj
        subst h1
        rw [hp] at a1
        cases a1
        have hl := back l _ h2 hl
        have m2 := ((st l u y h2 hl a2 (nfz m2)).1 a).mp m2
        rcases ap a m1 with z | z
        · exact h2 (E.apx l j u s y p a hl h a2 hp m2 z)
        · obtain ⟨w, hw⟩ := E.root_there ⟨l, u, y, a2, hl, m2⟩
          rw [z] at hw; cases hw
    · have hj' := back j _ h1 hj
      have m1' := ((st j t x h1 hj' a1 (nfz m1)).1 a).mp m1
      by_cases h2 : l = i
      · exfalso
        cases at_i l _ h2 hl
        subst h2
        rw [hp] at a2
        cases a2
        rcases ap a m2 with z | z
        · exact h1 (E.apx j l t s x p a hj' h a1 hp m1' z)
        · obtain ⟨w, hw⟩ := E.root_there ⟨j, t, x, a1, hj', m1'⟩
          rw [z] at hw; cases hw
      · have hl' := back l _ h2 hl
        have m2' := ((st l u y h2 hl' a2 (nfz m2)).1 a).mp m2
        exact E.apx j l t u x y a hj' hl' a1 a2 m1' m2'
  · by_cases hj : j = i
    · cases at_i j _ hj q2
      subst hj
      rw [hp] at q1
      cases q1
      exact .inr m
    · have q2 := back j _ hj q2
      exact .inl ⟨j, t, q, hj, q2, q1, ((st j t q hj q2 q1 (nfz m)).1 a).mp m⟩
/-- the container in slot i has changed to what d tells -/
theorem EnvR.chg {K : PySem.W.Frag} {G H : Hp} {σ : L2.St} {ρ : Rho} (E : EnvR K G H σ ρ) {i : Nat} {d d' : D} {p : Addr} {o : HO} (h : ρ[i]? = some (some (Sl.ow d))) (hp : σ[i]? = some (some (V.ref p))) (ow : Own K G (upd H p o) p d') : Stp K σ G H ρ G (upd H p o) (ρ.set i (some (.ow d'))) := by
  obtain ⟨p', q1, g, ow0⟩ := E.ow i d h
  rw [hp] at q1
  cases q1
  have rp : root H σ ρ p := ⟨i, _, p, hp, h, rfl⟩
  have sub : Same G (upd H p o) := fun b u e => by rw [upd_ne (ne_of_none e g)]; exact E.sub _ _ e
  obtain ⟨E', R⟩ := E.chgS (s' := .ow d') h hp rfl (.refl _) sub (fun a r n => ⟨(E.root_own r).1, fun o' e => by rw [upd_ne n]; exact e⟩) (fun a m => by cases (show a = p from m); exact g) (fun a m => .inl m) ow
  refine ⟨E', .refl _, fun _ o e => .inl ⟨o, e⟩, fun a u e n => ?_, fun a r => ?_, fun a e => ?_⟩
  · exact .of (by rw [upd_ne fun z => n (by rw [z]; exact rp)]; exact e)
  · rcases R a r with ⟨j, t, q, _, e1, e2, m⟩ | m
    · exact ⟨j, t, q, e2, e1, m⟩
    · cases (show a = p from m); exact rp
  · by_cases ha : a = p
    · subst ha; rw [upd_same] at e; cases e
    · rw [upd_ne ha] at e; exact e
def ownL (i : Nat) : M (List D) := fun ρ => match ρ[i]? with
  | some (some (.ow (.list ds))) => some (ds, ρ)
  | _ => none
theorem ownL_some {i : Nat} {d : List D} {ρ ρ' : Rho} (h : ownL i ρ = some (d, ρ')) : ρ' = ρ ∧ ρ[i]? = some (some (Sl.ow (.list d))) := by
  unfold ownL at h
  split at h
  · rename_i s e
    cases h
    exact ⟨rfl, e⟩
  · cases h
/-- x.append(e) -/
def appendM (i : Nat) (m : M Sl) : M Sl := bindM (ownL i) fun _ => bindM m fun r => bindM (ownL i) fun ds => if ds.length < sizeLine then bindM (putO i (.list (ds ++ [r.d]))) fun _ => pureM (.fz .none) else liftM none
/-- x[k] = e, x a list of one's own -/
def setLS (i : Nat) (mk me : M Sl) : M Fl := bindM me fun r => bindM (ownL i) fun _ => bindM mk fun k => bindM (ownL i) fun ds => match k.d with
  | .int j => (match ixN ds.length j with
    | some n => bindM (putO i (.list (ds.set n r.d))) fun _ => pureM .nx
    | none => liftM none)
  | _ => liftM none
theorem fs_setL (i : Nat) {x : Str} {px tpos : Pos} (he : FE X b mb) (hk : FE X a ma) (hN : X.N[i]? = some x := by rfl) (hv : Vis X.env.scope x := by first | exact Or.inl rfl | exact Or.inr (Or.inl rfl) | exact Or.inr (Or.inr rfl)) (hd : (x == ("__debug__" : Str)) = false := by decide)
    (hcd : (x == ("__classdict__" : Str)) = false := by decide)
    (ha : ∀ v, assign (.Subscript (.Name x px) a tpos) X.env v = (do
      let ov ← holding [v] (eval (.Name x px) X.env)
      let iv ← holding [v, ov] (eval a X.env)
      standAt tpos
      holding [v, ov, iv] (setItem ov iv v)
      release [v, ov, iv] []) := by intro _; rfl)
    (hs : swapsWithSole [.Subscript (.Name x px) a tpos] b pos.line X.env = pure false := by rfl) (hw : swappedStores [.Subscript (.Name x px) a tpos] b X.env = pure none := by rfl)
    (h1 : (assignEach [.Subscript (.Name x px) a tpos] X.env).map (·.2) = [assign (.Subscript (.Name x px) a tpos) X.env] := by rfl) :
    FS X (.Assign [.Subscript (.Name x px) a tpos] b pos) [] (setLS i ma mb) := imS (ps_asg he (pg_sub (pe_var (i := i) hN hv hd hcd) hk set_list ha) hs hw h1) fun D σ H h => by
  obtain ⟨G, ρ, fl, ρ', E, hm, q⟩ := h
  obtain ⟨r, ρ1, e1, h1⟩ := bindM_some hm
  obtain ⟨d0, ρ2, e2, h2⟩ := bindM_some h1
  obtain ⟨rfl, s0⟩ := ownL_some e2
  obtain ⟨k, ρ3, e3, h3⟩ := bindM_some h2
  obtain ⟨ds, ρ4, e4, h4⟩ := bindM_some h3
  obtain ⟨rfl, s1⟩ := ownL_some e4
  refine ⟨G, ρ, r, ρ2, E, e1, fun u H1 G1 S1 r1 => ?_⟩
  obtain ⟨G1', S1', p1, _⟩ := r1.frz E S1
  obtain ⟨p, ep, _, _⟩ := S1'.env.ow i _ s0
  refine ⟨_, ep, G1', ρ2, k, ρ4, S1'.env, e3, fun v H2 G2 S2 r2 => ?_⟩
  obtain ⟨G2', S2', p2, _⟩ := r2.frz S1'.env S2
  obtain ⟨p', ep', g, xs, hx, rx⟩ := S2'.env.ow i _ s1
  rw [ep] at ep'
  cases ep'
  cases ek : k.d with
  | int j =>
    rw [ek] at h4 p2
    simp only at h4
    cases en : ixN ds.length j with
    | none =>
      rw [en] at h4
      obtain ⟨h4, _⟩ := liftM_some h4
      cases h4
    | some n =>
      rw [en] at h4
      obtain ⟨_, ρ5, e5, h5⟩ := bindM_some h4
      cases e5
      obtain ⟨rfl, rfl⟩ := pureM_some h5
      refine ⟨p, xs, j, n, rfl, rp_int p2, hx, by rw [rx.length]; exact en, ?_⟩
      have C := S2'.env.chg (o := .lst (xs.set n u)) (d' := .list (ds.set n r.d)) s1 ep ⟨_, upd_same, rx.set (p1.mono S2'.same) n⟩
      exact q _ _ G2' (((S1'.trans E S2').trans E C).h)
  | _ =>
    rw [ek] at h4
    obtain ⟨h4, _⟩ := liftM_some h4
    cases h4
end
def spM (K : PySem.W.Frag) (F : D → List D → Option (Sl × D)) : Sp := fun vs H Q _ => ∃ G p d0 vs' ds r d1, vs = .ref p :: vs' ∧ Same G H ∧ G p = none ∧ Own K G H p d0 ∧ RpAll K G vs' ds ∧ F d0 ds = some (r, d1) ∧
  ∀ v H' G', RLe G G' → Same G' H' → (∀ a o, G' a = some o → (∃ u, G a = some u) ∨ Fr H G' a) → (∀ a o, H a = some o → a ≠ p → Kp G' H' a o) → (∀ a, H' a = none → H a = none) → G' p = none → Own K G' H' p d1 →
    Rp K G' v r.d → Q v H'
abbrev FnM (P : Program) (w : World) (K : PySem.W.Frag) (mg : Str → Option Value) (base : Heap) (k : Nat) (f : Addr) (fd : FuncData) (ps : List Str) (F : D → List D → Option (Sl × D)) : Prop := FnG P w K mg base CX0 k f fd ps (spM K F)
def startM (N : List Str) (d0 : D) (ds : List D) : Rho := some (.ow d0) :: startR (N.drop 1) ds
def outM : Option (Fl × Rho) → Option (Sl × D)
  | some (.rt (.fz d), some (.ow d1) :: _) => some (.fz d, d1)
  | some (.nx, some (.ow d1) :: _) => some (.fz .none, d1)
  | _ => none
def runM (np : Nat) (N : List Str) (m : M Fl) (d0 : D) (ds : List D) : Option (Sl × D) := if ds.length + 1 = np then outM (m (startM N d0 ds)) else none
section
variable {P : Program} {w : World} {K : PySem.W.Frag} {mg : Str → Option Value} {base : Heap}
theorem startM_env {G H : Hp} {n : Str} {N : List Str} {p : Addr} {d0 : D} {vs : List V} {ds : List D} (sub : Same G H) (g : G p = none) (ow : Own K G H p d0) (r : RpAll K G vs ds) :
    EnvR K G H (L2.start (n :: N) (.ref p :: vs)) (startM (n :: N) d0 ds) ∧ ∀ a, root H (L2.start (n :: N) (.ref p :: vs)) (startM (n :: N) d0 ds) a → a = p := by
  obtain ⟨E, nr⟩ := start_env (N := N) sub r
  have es : L2.start (n :: N) (.ref p :: vs) = some (.ref p) :: L2.start N vs := by simp [L2.start]
  have er : startM (n :: N) d0 ds = some (.ow d0) :: startR N ds := rfl
  have no : ∀ (i : Nat) (s : Sl), (∀ d, s ≠ .fz d) → (startR N ds)[i]? ≠ some (some s) := fun i s nf h => by
    obtain ⟨q, q1, _, q3⟩ := E.os i s h nf
    exact nr q ⟨i, s, q, q1, h, q3.inSelf⟩
  rw [es, er]
  have nfz : ∀ {s : Sl} {q a : Addr}, s.In H q a → ∀ e, s ≠ .fz e := fun {s q a} m e z => by subst z; exact m
  have own0 : ∀ (i : Nat) (s : Sl), (∀ d, s ≠ .fz d) → (some (Sl.ow d0) :: startR N ds : Rho)[i]? = some (some s) → i = 0 ∧ s = .ow d0 := fun i d nf h => by
    cases i with
    | zero => cases h; exact ⟨rfl, rfl⟩
    | succ i => exact (no i d nf h).elim
  refine ⟨⟨sub, by simp [E.len], fun i d h => ?_, fun i s h nf => ?_, fun i j s t x y a h h' _ _ m m' => by rw [(own0 i s (nfz m) h).1, (own0 j t (nfz m') h').1]⟩, fun a ⟨i, s, q, h1, h2, m⟩ => ?_⟩
  · cases i with
    | zero => cases h
    | succ i => exact E.fz i d h
  · obtain ⟨rfl, rfl⟩ := own0 i s nf h
    exact ⟨p, rfl, fun a m => by cases (show a = p from m); exact g, ow⟩
  · obtain ⟨rfl, rfl⟩ := own0 i s (nfz m) h2
    cases h1
    exact m
theorem fnM_ok {x qual n : Str} {st : Stmt} {f : Addr} {fd : FuncData} {N ps : List Str} {k : Nat} {ws : List Nat} {m : M Fl} (F : Fun K x qual st f fd) (S : FnScope (n :: N) ps (defScope st))
    (hbody : ∀ (cdv : Value) (A : Around) (outer : List Env) (s : Shared) (H : Hp) (E : XK), Room k (A.deeper (envOfC qual (defScope st) s.heap.objs.size f cdv)) → A.guards = some [] → FSs (CxF P w K mg base (n :: N) qual st f cdv A outer s H E) (defBody st) ws m) (h0 : 0 ∉ ws := by decide) :
    FnM P w K mg base (k + 1) f fd ps (runM ps.length (n :: N) m) := by
  refine FnG.of_body F S (fun vs H Q E h => ?_) fun cdv A outer s H vs Q E hr hgd h => ?_
  · obtain ⟨G, p, d0, vs', ds, r, d1, rfl, sub, g, ow, rp, e, q⟩ := h
    unfold runM at e
    split at e
    · rw [List.length_cons, rp.length]; assumption
    · cases e
  · refine ⟨_, (hbody cdv A outer s H E hr hgd).nox, ?_⟩
    obtain ⟨G, p, d0, vs', ds, r, d1, rfl, sub, g, ow, rp, e, q⟩ := h
    unfold runM at e
    split at e
    · obtain ⟨E0, nr⟩ := startM_env (n := n) (N := N) sub g ow rp
      have hs0 : (L2.start (n :: N) (.ref p :: vs'))[0]? = some (some (V.ref p)) := by simp [L2.start]
      obtain ⟨o0, ho0⟩ := ow.there
      have fin : ∀ {σ' H' G' ρ'} {d1' : D}, StpH K ws (L2.start (n :: N) (.ref p :: vs')) G H (startM (n :: N) d0 ds) σ' G' H' (some (Sl.ow d1') :: ρ') → ∀ v (rr : Sl), Rp K G' v rr.d → (∀ v H' G', RLe G G' → Same G' H' → (∀ a o, G' a = some o → (∃ u, G a = some u) ∨ Fr H G' a) → (∀ a o, H a = some o → a ≠ p → Kp G' H' a o) → (∀ a, H' a = none → H a = none) → G' p = none → Own K G' H' p d1' →
          Rp K G' v rr.d → Q v H') → Q v H' := fun {σ' H' G' ρ' d1'} S' v rr rv q => by
        have e0 : σ'[0]? = some (some (V.ref p)) := (S'.off 0 h0).trans hs0
        obtain ⟨p', q1, q2, q3⟩ := S'.env.ow 0 d1' rfl
        rw [e0] at q1
        cases q1
        refine q v H' G' S'.same S'.env.sub (fun a o h => ?_) (fun a o h ne => S'.keep a o h fun r => ne (nr a r)) S'.there q2 q3 rv
        rcases S'.new a o h with z | z | z
        · exact .inl z
        · exact .inr z
        · rw [nr a z, q2] at h; cases h
      cases em : m (startM (n :: N) d0 ds) with
      | none => rw [em] at e; cases e
      | some o =>
        obtain ⟨fl, ρ'⟩ := o
        rw [em] at e
        refine ⟨G, _, fl, ρ', E0, em, ?_⟩
        unfold outM at e
        split at e
        · rename_i he
          cases he
          cases e
          exact fun v σ' H' G' S' rv => fin S' v (.fz _) rv q
        · rename_i he
          cases he
          cases e
          exact fun σ' H' G' S' => fin S' .non (.fz .none) .non q
        · cases e
    · cases e
end
/-- behind a call that changed one container: the caller's slots -/
theorem EnvR.behind {K : PySem.W.Frag} {G H G2 H2 : Hp} {σ : L2.St} {ρ : Rho} {i : Nat} {d d1 : D} {a : Addr} (E : EnvR K G H σ ρ) (s1 : ρ[i]? = some (some (Sl.ow d))) (ep : σ[i]? = some (some (V.ref a))) (sm : RLe G G2) (sub : Same G2 H2) (new : ∀ a o, G2 a = some o → (∃ u, G a = some u) ∨ Fr H G2 a)
    (keep : ∀ b o, H b = some o → b ≠ a → Kp G2 H2 b o) (there : ∀ a, H2 a = none → H a = none) (g2 : G2 a = none) (ow2 : Own K G2 H2 a d1) : Stp K σ G H ρ G2 H2 (ρ.set i (some (.ow d1))) := by
  have rp : root H σ ρ a := ⟨i, _, a, ep, s1, rfl⟩
  obtain ⟨E', R⟩ := E.chgS (s' := .ow d1) s1 ep rfl sm sub (fun z r n => by
    obtain ⟨g, o, e, nt⟩ := E.root_own r
    have hz : z ≠ a := n
    have gz : G2 z = none := by
      cases h : G2 z with
      | none => rfl
      | some u =>
        rcases new z u h with ⟨u, t⟩ | t
        · rw [g] at t; cases t
        · exact (noFr0 e nt (fun o h => keep z o h hz) sub t).elim
    exact ⟨gz, fun o' e' => (keep z o' e' hz).at gz⟩) (fun z m => by cases (show z = a from m); exact g2) (fun z m => .inl m) ow2
  refine ⟨E', sm, fun b o h => (new b o h).elim .inl fun z => .inr (.inl z), fun b o h n => keep b o h fun z => n (by rw [z]; exact rp), fun b r => ?_, there⟩
  rcases R b r with ⟨j, t, q, _, e1, e2, m⟩ | m
  · exact ⟨j, t, q, e2, e1, m⟩
  · cases (show b = a from m); exact rp
section
variable {X : Cx} {k : Nat} {f : Addr} {fd : FuncData} {ps : List Str} {x y : Str} {p pos : Pos} {es : List Expr} {F : D → List D → Option (Sl × D)} {m : M (List D)}
/-- f(y, ..), y changed by it -/
def callRM (i : Nat) (F : D → List D → Option (Sl × D)) (m : M (List D)) : M Sl := bindM (ownM i) fun _ => bindM m fun ds => bindM (ownM i) fun d0 => bindM (liftM (F d0 ds)) fun r => bindM (putO i r.2) fun _ => pureM (.fz r.1.d)
theorem fe_callR (i : Nat) (Fn : FnM X.prog X.w X.K X.mg X.base k f fd ps F) (hr : Room k X.A) (hgd : X.A.guards = some []) (hg : Gl X x) (hm : X.mg x = some (.ref f)) (hk : PySem.W.keepIn X.K (.ref f) = true) (hb : Binds X.K fd ps [])
    {py : Pos} (ha : FA X es m) (hN : X.N[i]? = some y := by rfl) (hv : Vis X.env.scope y := by first | exact Or.inl rfl | exact Or.inr (Or.inl rfl) | exact Or.inr (Or.inr rfl)) (hyd : (y == ("__debug__" : Str)) = false := by decide) (hyc : (y == ("__classdict__" : Str)) = false := by decide)
    (hdb : (x == ("__debug__" : Str)) = false := by decide) (he : starEach (.Name y py :: es) X.env = (false, eval (.Name y py) X.env) :: starEach es X.env := by rfl) (hpl : (backTo pos (starEach es X.env)).any (·.1) = false := by rfl) :
    FE X (.Call (.Name x p) (.Name y py :: es) [] pos) (callRM i F m) := imE (pe_callG Fn hr hgd hg hm hk hb pass0 (pa_cons (pe_var (i := i) hN hv hyd hyc) ha he) hdb he hpl) fun σ H Q h => by
  obtain ⟨G, ρ, r, ρ', E, hm, q⟩ := h
  obtain ⟨d0, ρ0, e0, h1⟩ := bindM_some hm
  obtain ⟨rfl, s0⟩ := ownM_some e0
  obtain ⟨ds, ρ1, e1, h2⟩ := bindM_some h1
  obtain ⟨d, ρ2, e2, h3⟩ := bindM_some h2
  obtain ⟨rfl, s1⟩ := ownM_some e2
  obtain ⟨⟨r', d1⟩, ρ3, e3, h4⟩ := bindM_some h3
  obtain ⟨e3b, rfl⟩ := liftM_some e3
  obtain ⟨_, ρ4, e4, h5⟩ := bindM_some h4
  cases e4
  obtain ⟨rfl, rfl⟩ := pureM_some h5
  obtain ⟨a, ep, _, _⟩ := E.ow i _ s0
  unfold tCall tCons
  refine ⟨_, ep, G, ρ0, ds, _, E, e1, fun vs H1 G1 S1 r1 => ?_⟩
  obtain ⟨a', ep', g, ow⟩ := S1.env.ow i _ s1
  rw [ep] at ep'
  cases ep'
  refine ⟨G1, a, d, vs, ds, r', d1, by simp, S1.env.sub, g, ow, r1, e3b, fun v H2 G2 sm sub new keep there g2 ow2 rv => ?_⟩
  exact q v H2 G2 (S1.trans E (S1.env.behind s1 ep sm sub new keep there g2 ow2)) rv
end
end Fx
namespace Fx
open PySem PySem.Spec PyProof.Rows L2
/-- the law's call, from its function on data: H tracks the script alone, or nothing -/
theorem law_fx {P : Program} {w : World} {K : PySem.W.Frag} {mg mb : Str → Option Value} {k : Nat} {fa a : Addr} {fd : FuncData} {x : Str} {F : List D → Option Sl} {s₁ : Shared} {vs : List Value} {ns : List Int}
    (KX : K.In s₁.heap) (hns : s₁.heap.Ns mainGlobals mg) (hb : s₁.heap.Ns builtinsNs mb) (hbb : ∀ x : Str, x ≠ "__name__" → mb x = bootBuiltins x) (hlim : s₁.heap.NoLimit) (hg : s₁.gens = #[])
    (ha : s₁.heap.get? a = some { cls := .type "list", data := .seq vs.toArray }) (hi : IntsAre vs ns) (hl : ns.length ≤ sizeLine) (hr : Room k callerA)
    (Fn : ∀ base : Heap, K.In base → base.Ns mainGlobals mg → FnF P w K mg base k fa fd [x] F) (hbind : ∀ (s : Shared) (u : Value), BindsTo s fd ⟨[u], []⟩ [(x, u)])
    (hF : F [.list (ns.map Dt.int)] = some (.fz (.bool true))) :
    codeAny (model P w) callerA (.call (.ref fa) ⟨[.ref a], []⟩) (fun r s' => r = .ok (.ret (.bool true)) ∧ OldK s₁.heap s'.heap ∧ s'.os = s₁.os ∧ AllBare s'.gens) s₁ := by
  have rv := vals_ints hi
  have lenV := hi.length
  have core : ∀ H : Hp, Only H → SqX K H a (ns.map V.int) → HOk P w H s₁.heap → (∀ b u, H b = some u → b = a) → (∀ u, H a = some u → K.lookup a = none) →
      codeAny (model P w) callerA (.call (.ref fa) ⟨[.ref a], []⟩) (fun r s' => r = .ok (.ret (.bool true)) ∧ OldK s₁.heap s'.heap ∧ s'.os = s₁.os ∧ AllBare s'.gens) s₁ := by
    intro H hO hS hok hA hK
    have dictFree : ∀ {b : Addr} {o : Obj} {es : Array DictEntry} {ep : Nat}, s₁.heap.get? b = some o → o.data = .dict es ep → H b = none := fun {b o es ep} e d => by
      cases q : H b with
      | none => rfl
      | some u =>
        obtain rfl := hA b u q
        rw [ha] at e
        cases e
        exact absurd d nofun
    have nsK : ∀ {b : Addr} {m : Str → Option Value}, s₁.heap.Ns b m → (hidT s₁.heap H).Ns b m := fun {b m} h => by
      obtain ⟨o, es, ep, e, d, r⟩ := h
      exact ⟨o, es, ep, hidT_get e (dictFree e d), d, r⟩
    have inB : K.In (hidT s₁.heap H) := fun b o e => hidT_get (KX b o e) (by
      cases q : H b with
      | none => rfl
      | some u =>
        obtain rfl := hA b u q
        rw [hK u q] at e
        cases e)
    have hM : Mod K mg (hidT s₁.heap H) := ⟨inB, nsK hns, ⟨mb, nsK hb, hbb⟩, by obtain ⟨mc, h1, h2⟩ := hlim; exact ⟨mc, nsK h1, h2⟩⟩
    have e0 : Env0 P w K mg (hidT s₁.heap H) callerA [] s₁ H := ⟨rfl, hM, fun b o e => of_hidT e, Nat.le_of_eq (hidT_size _ _), trivial, fun b hb => (nomatch (show b ∈ ([] : List Addr) from hb)), hok, .of_eq hg⟩
    have hsp : spF K F [.ref a] H (fun v _ => v = .bl true) (fun _ _ _ => False) := ⟨H, _, _, .refl _, .one (.lst hS (RpAll.ints ns)), hF, fun v H' G' _ r => rp_bl r⟩
    refine codeAny_mono ((Fn _ inB (nsK hns)).run callerA [] s₁ H ⟨[.ref a], []⟩ [.ref a] [.ref a] _ _ hr rfl e0 (hbind s₁ (.ref a)) (.cons rfl .nil) hsp) fun r s' h => ?_
    match r, h with
    | .error e, h => exact h.elim
    | .ok (.ret u), h =>
      obtain ⟨v, H', os, bare, un, hok', r', q⟩ := h
      obtain rfl : v = .bl true := q
      obtain rfl : u = Value.bool true := r'
      refine ⟨rfl, OldK.of_keep fun b o e => ?_, os, bare⟩
      rcases hO b with z | ⟨ob, xs, z⟩
      · exact un.keep b o e z (fun h => nomatch (show b ∈ ([] : List Addr) from h)) (fun h => nomatch h)
      · obtain ⟨e1, _⟩ := hok b _ z
        obtain ⟨e2, _⟩ := hok' b _ (un.frzs b ob _ z)
        rw [e] at e1
        cases e1
        exact e2
  cases hk : K.lookup a with
  | some o =>
    have e := KX a o hk
    rw [ha] at e
    cases e
    refine core (fun _ => none) (fun _ => .inl rfl) (.inr ⟨vs.toArray, _, hk, by rw [List.size_toArray, lenV]; exact hl, by simpa using rv⟩) (fun b u z => nomatch z) (fun b u z => nomatch z) fun u z => nomatch z
  | none =>
    have at_a : ∀ b u, (if b = a then some (HO.frz { cls := .type "list", data := .seq vs.toArray } (.lst (ns.map V.int))) else none) = some u → b = a ∧ u = .frz { cls := .type "list", data := .seq vs.toArray } (.lst (ns.map V.int)) := fun b u z => by
      split at z
      · cases z; exact ⟨by assumption, rfl⟩
      · cases z
    refine core (fun b => if b = a then some (.frz { cls := .type "list", data := .seq vs.toArray } (.lst (ns.map V.int))) else none) (fun b => ?_) (.inl (.inr ⟨_, if_pos rfl⟩)) (fun b u z => ?_) (fun b u z => (at_a b u z).1) fun u _ => hk
    · by_cases h : b = a
      · exact .inr ⟨_, _, if_pos h⟩
      · exact .inl (if_neg h)
    · obtain ⟨rfl, rfl⟩ := at_a b u z
      exact ⟨ha, by rw [List.length_map]; exact hl, vs, _, rv, ha⟩
/-- what k_head leaves, from the law's function on data -/
theorem walk_fx {l : PySem.W.OpenLaw} {n k : Nat} {q : Program} {loose : List Str} {XP : (Str → Option Value) → Heap → Prop} {YP : World → Heap → Prop} {d : DefRec} {K : Params → PySem.W.Frag} {x : Str} {F : List D → Option Sl}
    (hn : l.most = some n) (hn2 : n ≤ sizeLine) (hdf : d.params.defaults = []) (hr : Room k callerA) (hY : ∀ (w : World) (h : Heap), YP w h → (K w.params).In h)
    (Fn : ∀ (w : World) (mg : Str → Option Value) (fa : Addr) (h : Heap), (K w.params).In h → h.Ns mainGlobals mg → mg d.name = some (.ref fa) →
      ∃ fd : FuncData, (∀ (s : Shared) (u : Value), BindsTo s fd ⟨[u], []⟩ [(x, u)]) ∧ ∀ base : Heap, (K w.params).In base → base.Ns mainGlobals mg → FnF l.prog w (K w.params) mg base k fa fd [x] F)
    (hF : ∀ ns : List Int, ns.length ≤ n → F [.list (ns.map Dt.int)] = some (.fz (.bool true))) : PySem.W.WalkO q loose XP YP l.row.toRowW d [] (fun f vs => PySem.call f vs) := by
  refine Att.attach_call hn hdf fun w s₀ s₁ mg mb fa o pm cd doc a vs ns G Y ho hd hcd hmg hobj hints hlen hg => ?_
  have KX := hY w _ Y
  obtain ⟨fd, hb, h⟩ := Fn w mg fa _ KX G.T.g hmg
  exact law_fx KX G.T.g G.T.b G.T.builtins G.T.nolimit hg hobj hints (Nat.le_trans hlen hn2) hr h hb (hF ns hlen)
end Fx
namespace Fx
open PySem PySem.Spec PyProof.Rows L2
section
variable {X : Cx} {a b c d e : Expr} {ma mb mc md me : M Sl} {pos : Pos} {st : Stmt}
def retF (m : M Sl) : M Fl := bindM m fun r => pureM (.rt (.fz r.d))
/-- a < b < c < d, as a test -/
def chain3M (f g h : D → D → Option Sl) (ma mb mc md : M Sl) : M Sl := bindM ma fun x => bindM mb fun y => bindM (liftM (f x.d y.d)) fun k => bindM (boolM k) fun k => if k then bindM mc fun z => bindM (liftM (g y.d z.d)) fun l => bindM (boolM l) fun l => if l then bindM md fun w => liftM (h z.d w.d) else pureM (.fz (.bool false))
  else pureM (.fz (.bool false))
end
end Fx
namespace Fx
open PySem PySem.Spec PyProof.Rows L2
/-- a proposition whose run and whose continuation stay as they are under simp: only the state is looked into -/
abbrev TgH {α : Type} (m : M α) (Φ : α → Rho → Prop) : Type := Unit
abbrev TgO {α : Type} (Φ : α → Prop) : Type := Unit
def Ho {α : Type} (m : M α) (ρ : Rho) (Φ : α → Rho → Prop) (_t : TgH m Φ := ()) : Prop := ∃ a ρ', m ρ = some (a, ρ') ∧ Φ a ρ'
def Oo {α : Type} (o : Option α) (Φ : α → Prop) (_t : TgO Φ := ()) : Prop := ∃ a, o = some a ∧ Φ a
def H0 {α : Type} (m : M α) (ρ : Rho) (Φ : α → Rho → Prop) : Prop := ∃ a ρ', m ρ = some (a, ρ') ∧ Φ a ρ'
def O0 {α : Type} (o : Option α) (Φ : α → Prop) : Prop := ∃ a, o = some a ∧ Φ a
theorem o0_some {α : Type} {a : α} {Φ : α → Prop} : O0 (some a) Φ = Φ a := by
  unfold O0; exact propext ⟨fun ⟨_, h, p⟩ => Option.some.inj h ▸ p, fun h => ⟨a, rfl, h⟩⟩
theorem o0_none {α : Type} {Φ : α → Prop} : O0 none Φ = False := by
  unfold O0; exact propext ⟨fun ⟨_, h, _⟩ => (by cases h), False.elim⟩
theorem o0_map {α β : Type} {o : Option α} {f : α → β} {Φ : β → Prop} : O0 (o.map f) Φ = O0 o fun a => Φ (f a) := by
  cases o with
  | none => simp only [Option.map_none, o0_none]
  | some a => simp only [Option.map_some, o0_some]
theorem o0_bind {α β : Type} {o : Option α} {f : α → Option β} {Φ : β → Prop} : O0 (o.bind f) Φ = O0 o fun a => O0 (f a) Φ := by
  cases o with
  | none => simp only [Option.bind_none, o0_none]
  | some a => simp only [Option.bind_some, o0_some]
theorem o0_if {α : Type} {p : Prop} [Decidable p] {o : Option α} {Φ : α → Prop} : O0 (if p then o else none) Φ = (p ∧ O0 o Φ) := by
  by_cases h : p
  · rw [if_pos h]; exact propext ⟨fun x => ⟨h, x⟩, And.right⟩
  · rw [if_neg h, o0_none]; exact propext ⟨False.elim, fun x => h x.1⟩
theorem h0_oo {α : Type} {m : M α} {ρ : Rho} {Φ : α → Rho → Prop} : H0 m ρ Φ = O0 (m ρ) fun p => Φ p.1 p.2 := by
  unfold H0 O0
  exact propext ⟨fun ⟨a, r, h, p⟩ => ⟨(a, r), h, p⟩, fun ⟨(a, r), h, p⟩ => ⟨a, r, h, p⟩⟩
variable {α β : Type} {ρ : Rho}
theorem h0_bindM {m : M α} {f : α → M β} {Φ : β → Rho → Prop} : H0 (bindM m f) ρ Φ = H0 m ρ fun a ρ1 => H0 (f a) ρ1 Φ := by
  simp only [h0_oo]; exact o0_bind
theorem h0_pureM {a : α} {Φ : α → Rho → Prop} : H0 (pureM a) ρ Φ = Φ a ρ := by rw [h0_oo]; exact o0_some
theorem h0_liftM {o : Option α} {Φ : α → Rho → Prop} : H0 (liftM o) ρ Φ = O0 o fun a => Φ a ρ := by rw [h0_oo]; exact o0_map
theorem h0_cM {d : D} {Φ : Sl → Rho → Prop} : H0 (cM d) ρ Φ = Φ (.fz d) ρ := h0_pureM
theorem h0_bin {f : D → D → Option Sl} {a b : M Sl} {Φ : Sl → Rho → Prop} : H0 (bin f a b) ρ Φ = H0 a ρ fun x ρ1 => H0 b ρ1 fun y ρ2 => O0 (f x.d y.d) fun r => Φ r ρ2 := by
  unfold bin; simp only [h0_bindM, h0_liftM]
theorem h0_una {f : D → Option Sl} {a : M Sl} {Φ : Sl → Rho → Prop} : H0 (una f a) ρ Φ = H0 a ρ fun x ρ1 => O0 (f x.d) fun r => Φ r ρ1 := by
  unfold una; simp only [h0_bindM, h0_liftM]
def varP (i : Nat) (ρ : Rho) (Φ : Sl → Rho → Prop) : Option (Option Sl) → Prop
  | some (some (.fz d)) => Φ (.fz d) ρ
  | some (some (.ow d)) => Φ (.fz d) (ρ.set i (some (.fz d)))
  | some (some (.o2 d)) => Φ (.fz d) (ρ.set i (some (.fz d)))
  | _ => False
theorem h0_varM {i : Nat} {Φ : Sl → Rho → Prop} : H0 (varM i) ρ Φ = varP i ρ Φ ρ[i]? := by
  rw [h0_oo]; unfold varM
  rcases ρ[i]? with _ | _ | (d | d | d)
  · exact o0_none
  · exact o0_none
  · exact o0_some
  · exact o0_some
  · exact o0_some
theorem varP_o2 {i : Nat} {d : D} {Φ : Sl → Rho → Prop} : varP i ρ Φ (some (some (.o2 d))) = Φ (.fz d) (ρ.set i (some (.fz d))) := rfl
theorem varP_fz {i : Nat} {d : D} {Φ : Sl → Rho → Prop} : varP i ρ Φ (some (some (.fz d))) = Φ (.fz d) ρ := rfl
theorem varP_ow {i : Nat} {d : D} {Φ : Sl → Rho → Prop} : varP i ρ Φ (some (some (.ow d))) = Φ (.fz d) (ρ.set i (some (.fz d))) := rfl
def getP (Φ : D → Prop) : Option (Option Sl) → Prop
  | some (some s) => Φ s.d
  | _ => False
theorem h0_getM {i : Nat} {Φ : D → Rho → Prop} : H0 (getM i) ρ Φ = getP (fun d => Φ d ρ) ρ[i]? := by
  rw [h0_oo]; unfold getM
  rcases ρ[i]? with _ | _ | s
  · exact o0_none
  · exact o0_none
  · exact o0_some
def getFP (Φ : D → Prop) : Option (Option Sl) → Prop
  | some (some (.fz d)) => Φ d
  | some (some (.ow d)) => Φ d
  | _ => False
theorem h0_getF {i : Nat} {Φ : D → Rho → Prop} : H0 (getF i) ρ Φ = getFP (fun d => Φ d ρ) ρ[i]? := by
  rw [h0_oo]; unfold getF
  rcases ρ[i]? with _ | _ | (d | d | d)
  · exact o0_none
  · exact o0_none
  · exact o0_some
  · exact o0_some
  · exact o0_none
theorem getFP_fz {d : D} {Φ : D → Prop} : getFP Φ (some (some (.fz d))) = Φ d := rfl
theorem getFP_ow {d : D} {Φ : D → Prop} : getFP Φ (some (some (.ow d))) = Φ d := rfl
theorem getP_some {s : Sl} {Φ : D → Prop} : getP Φ (some (some s)) = Φ s.d := rfl
theorem h0_nilM {Φ : List D → Rho → Prop} : H0 nilM ρ Φ = Φ [] ρ := h0_pureM
theorem h0_consM {a : M Sl} {r : M (List D)} {Φ : List D → Rho → Prop} : H0 (consM a r) ρ Φ = H0 a ρ fun x ρ1 => H0 r ρ1 fun xs ρ2 => Φ (x.d :: xs) ρ2 := by
  unfold consM; simp only [h0_bindM, h0_pureM]
theorem h0_tupM {m : M (List D)} {Φ : Sl → Rho → Prop} : H0 (tupM m) ρ Φ = H0 m ρ fun xs ρ1 => xs.length ≤ sizeLine ∧ Φ (.fz (.tuple xs)) ρ1 := by
  unfold tupM; simp only [h0_bindM, h0_liftM, o0_if, o0_some]
theorem h0_lstM {m : M (List D)} {Φ : Sl → Rho → Prop} : H0 (lstM m) ρ Φ = H0 m ρ fun xs ρ1 => xs.length ≤ sizeLine ∧ Φ (.ow (.list xs)) ρ1 := by
  unfold lstM; simp only [h0_bindM, h0_liftM, o0_if, o0_some]
theorem h0_callM {f : List D → Option Sl} {m : M (List D)} {Φ : Sl → Rho → Prop} : H0 (callM f m) ρ Φ = H0 m ρ fun xs ρ1 => O0 (f xs) fun r => Φ r ρ1 := by
  unfold callM; simp only [h0_bindM, h0_liftM]
def blP (Φ : Bool → Prop) : Sl → Prop
  | .fz (.bool b) => Φ b
  | _ => False
theorem h0_boolM {r : Sl} {Φ : Bool → Rho → Prop} : H0 (boolM r) ρ Φ = blP (fun b => Φ b ρ) r := by
  unfold boolM
  rcases r with d | d | d
  · cases d <;> first | exact h0_pureM | (rw [h0_liftM]; exact o0_none)
  · rw [h0_liftM]; exact o0_none
  · rw [h0_liftM]; exact o0_none
theorem blP_b {b : Bool} {Φ : Bool → Prop} : blP Φ (.fz (.bool b)) = Φ b := rfl
theorem h0_testM {m : M Sl} {Φ : Bool → Rho → Prop} : H0 (testM m) ρ Φ = H0 m ρ fun r ρ1 => blP (fun b => Φ b ρ1) r := by
  unfold testM; simp only [h0_bindM, h0_boolM]
theorem h0_notM {m : M Bool} {Φ : Bool → Rho → Prop} : H0 (notM m) ρ Φ = H0 m ρ fun b ρ1 => Φ (!b) ρ1 := by
  unfold notM; simp only [h0_bindM, h0_pureM]
theorem h0_ite {p : Prop} [Decidable p] {m n : M α} {Φ : α → Rho → Prop} : H0 (if p then m else n) ρ Φ = if p then H0 m ρ Φ else H0 n ρ Φ := by
  by_cases h : p
  · simp only [if_pos h]
  · simp only [if_neg h]
theorem h0_andM {m n : M Bool} {Φ : Bool → Rho → Prop} : H0 (andM m n) ρ Φ = H0 m ρ fun b ρ1 => if b then H0 n ρ1 Φ else Φ false ρ1 := by
  unfold andM; simp only [h0_bindM, h0_pureM, h0_ite]
theorem h0_orM {m n : M Bool} {Φ : Bool → Rho → Prop} : H0 (orM m n) ρ Φ = H0 m ρ fun b ρ1 => if b then Φ true ρ1 else H0 n ρ1 Φ := by
  unfold orM; simp only [h0_bindM, h0_pureM, h0_ite]
theorem h0_blM {m : M Bool} {Φ : Sl → Rho → Prop} : H0 (blM m) ρ Φ = H0 m ρ fun b ρ1 => Φ (.fz (.bool b)) ρ1 := by
  unfold blM; simp only [h0_bindM, h0_pureM]
theorem h0_andV {m n : M Sl} {Φ : Sl → Rho → Prop} : H0 (andV m n) ρ Φ = H0 m ρ fun x ρ1 => blP (fun b => if b then H0 n ρ1 Φ else Φ (.fz (.bool false)) ρ1) x := by
  unfold andV; simp only [h0_bindM, h0_pureM, h0_ite, h0_boolM]
theorem h0_orV {m n : M Sl} {Φ : Sl → Rho → Prop} : H0 (orV m n) ρ Φ = H0 m ρ fun x ρ1 => blP (fun b => if b then Φ (.fz (.bool true)) ρ1 else H0 n ρ1 Φ) x := by
  unfold orV; simp only [h0_bindM, h0_pureM, h0_ite, h0_boolM]
theorem h0_notV {m : M Sl} {Φ : Sl → Rho → Prop} : H0 (notV m) ρ Φ = H0 m ρ fun x ρ1 => blP (fun b => Φ (.fz (.bool (!b))) ρ1) x := by
  unfold notV; simp only [h0_bindM, h0_pureM, h0_ite, h0_boolM]
theorem h0_ifM {t : M Bool} {m n : M Sl} {Φ : Sl → Rho → Prop} : H0 (ifM t m n) ρ Φ = H0 t ρ fun b ρ1 => if b then H0 m ρ1 Φ else H0 n ρ1 Φ := by
  unfold ifM; simp only [h0_bindM, h0_ite]
theorem h0_chainM {f g : D → D → Option Sl} {ma mb mc : M Sl} {Φ : Sl → Rho → Prop} : H0 (chainM f g ma mb mc) ρ Φ = H0 ma ρ fun x ρ1 => H0 mb ρ1 fun y ρ2 => O0 (f x.d y.d) fun k => blP (fun b => if b then H0 mc ρ2 fun z ρ3 => O0 (g y.d z.d) fun r => Φ r ρ3 else Φ (.fz (.bool false)) ρ2) k := by
  unfold chainM; simp only [h0_bindM, h0_liftM]
  congr; funext x ρ1; congr; funext y ρ2; congr; funext k
  rcases k with d | d | d
  · cases d with
    | bool b => cases b <;> simp [blP, h0_bindM, h0_liftM, h0_pureM]
    | _ => simp [blP, h0_liftM, o0_none]
  · simp [blP, h0_liftM, o0_none]
  · simp [blP, h0_liftM, o0_none]
theorem h0_chain3M {f g h : D → D → Option Sl} {ma mb mc md : M Sl} {Φ : Sl → Rho → Prop} : H0 (chain3M f g h ma mb mc md) ρ Φ = H0 ma ρ fun x ρ1 => H0 mb ρ1 fun y ρ2 => O0 (f x.d y.d) fun k => blP (fun b => if b then H0 mc ρ2 fun z ρ3 => O0 (g y.d z.d) fun k => blP (fun b => if b then H0 md ρ3 fun w ρ4 => O0 (h z.d w.d) fun r => Φ r ρ4 else Φ (.fz (.bool false)) ρ3) k else Φ (.fz (.bool false)) ρ2) k := by
  unfold chain3M; simp only [h0_bindM, h0_liftM, h0_boolM, h0_ite, h0_pureM]
theorem h0_ixVM {i : Nat} {mb : M Sl} {Φ : Sl → Rho → Prop} : H0 (ixVM i mb) ρ Φ = getFP (fun _ => H0 mb ρ fun y ρ1 => getFP (fun d => O0 (memD d y.d) fun r => Φ (.fz r) ρ1) ρ1[i]?) ρ[i]? := by
  unfold ixVM; simp only [h0_bindM, h0_liftM, h0_getF, o0_map]
theorem h0_partM {m : M Sl} {Φ : Option Int → Rho → Prop} : H0 (partM m) ρ Φ = H0 m ρ fun x ρ1 => O0 (partD x.d) fun r => Φ r ρ1 := by
  unfold partM; simp only [h0_bindM, h0_liftM]
theorem h0_sliceM {m : M Sl} {lo hi : M (Option Int)} {Φ : Sl → Rho → Prop} : H0 (sliceM m lo hi) ρ Φ = H0 m ρ fun x ρ1 => H0 lo ρ1 fun l ρ2 => H0 hi ρ2 fun h ρ3 => O0 (slD x.d l h) fun r => Φ r ρ3 := by
  unfold sliceM; simp only [h0_bindM, h0_liftM]
theorem h0_seqM {m : M Sl} {Φ : List D → Rho → Prop} : H0 (seqM m) ρ Φ = H0 m ρ fun x ρ1 => O0 (seqD x.d) fun r => Φ r ρ1 := by
  unfold seqM; simp only [h0_bindM, h0_liftM]
theorem h0_rngM {f : List D → Option (List D)} {m : M (List D)} {Φ : List D → Rho → Prop} : H0 (rngM f m) ρ Φ = H0 m ρ fun x ρ1 => O0 (f x) fun r => Φ r ρ1 := by
  unfold rngM; simp only [h0_bindM, h0_liftM]
theorem h0_putM {i : Nat} {d : D} {Φ : Unit → Rho → Prop} : H0 (putM i d) ρ Φ = Φ () (ρ.set i (some (.fz d))) := by
  rw [h0_oo]; exact o0_some
theorem h0_putO {i : Nat} {d : D} {Φ : Unit → Rho → Prop} : H0 (putO i d) ρ Φ = Φ () (ρ.set i (some (.ow d))) := by
  rw [h0_oo]; exact o0_some
theorem h0_gsNil {Φ : Unit → Rho → Prop} : H0 (gsNil []) ρ Φ = Φ () ρ := h0_pureM
theorem h0_gsCons {g : D → M Unit} {gs : List D → M Unit} {d : D} {ds : List D} {Φ : Unit → Rho → Prop} : H0 (gsCons g gs (d :: ds)) ρ Φ = H0 (g d) ρ fun _ ρ1 => H0 (gs ds) ρ1 Φ := by
  show H0 (bindM (g d) fun _ => gs ds) ρ Φ = _
  exact h0_bindM
theorem h0_tupG {n : Nat} {gs : List D → M Unit} {ds : List D} {Φ : Unit → Rho → Prop} : H0 (tupG n gs (.tuple ds)) ρ Φ = if ds.length = n then H0 (gs ds) ρ Φ else False := by
  show H0 (if ds.length = n then gs ds else liftM none) ρ Φ = _
  rw [h0_ite, h0_liftM, o0_none]
theorem h0_yesM {Φ : Bool → Rho → Prop} : H0 yesM ρ Φ = Φ true ρ := h0_pureM
theorem h0_wipeM {vs : List Nat} {Φ : Unit → Rho → Prop} : H0 (wipeM vs) ρ Φ = Φ () (wipeR ρ vs) := by rw [h0_oo]; exact o0_some
def flP (P : Prop) (Φ : Fl → Prop) : Fl → Prop
  | .nx => P
  | f => Φ f
theorem flP_nx {P : Prop} {Φ : Fl → Prop} : flP P Φ .nx = P := rfl
theorem flP_bk {P : Prop} {Φ : Fl → Prop} : flP P Φ .bk = Φ .bk := rfl
theorem flP_ct {P : Prop} {Φ : Fl → Prop} : flP P Φ .ct = Φ .ct := rfl
theorem flP_rt {P : Prop} {Φ : Fl → Prop} {r : Sl} : flP P Φ (.rt r) = Φ (.rt r) := rfl
theorem h0_seqS {m n : M Fl} {Φ : Fl → Rho → Prop} : H0 (seqS m n) ρ Φ = H0 m ρ fun f ρ1 => flP (H0 n ρ1 Φ) (fun f => Φ f ρ1) f := by
  unfold seqS; simp only [h0_bindM]
  congr; funext f ρ1
  cases f <;> simp only [flP, h0_pureM]
theorem h0_dropS {m : M Sl} {Φ : Fl → Rho → Prop} : H0 (dropS m) ρ Φ = H0 m ρ fun _ ρ1 => Φ .nx ρ1 := by
  unfold dropS; simp only [h0_bindM, h0_pureM]
theorem h0_retS {m : M Sl} {Φ : Fl → Rho → Prop} : H0 (retS m) ρ Φ = H0 m ρ fun r ρ1 => Φ (.rt r) ρ1 := by
  unfold retS; simp only [h0_bindM, h0_pureM]
theorem h0_retF {m : M Sl} {Φ : Fl → Rho → Prop} : H0 (retF m) ρ Φ = H0 m ρ fun r ρ1 => Φ (.rt (.fz r.d)) ρ1 := by
  unfold retF; simp only [h0_bindM, h0_pureM]
def retP (Φ : Sl → Prop) : Option (Option Sl) → Prop
  | some (some s) => Φ s
  | _ => False
theorem retP_some {s : Sl} {Φ : Sl → Prop} : retP Φ (some (some s)) = Φ s := rfl
theorem h0_retV {i : Nat} {Φ : Fl → Rho → Prop} : H0 (retV i) ρ Φ = retP (fun s => Φ (.rt s) (ρ.set i none)) ρ[i]? := by
  rw [h0_oo]; unfold retV
  rcases ρ[i]? with _ | _ | s
  · exact o0_none
  · exact o0_none
  · exact o0_some
theorem h0_setS {i : Nat} {m : M Sl} {Φ : Fl → Rho → Prop} : H0 (setS i m) ρ Φ = H0 m ρ fun r ρ1 => Φ .nx (ρ1.set i (some r)) := by
  unfold setS; rw [h0_bindM]
  congr; funext r ρ1
  rw [h0_oo]; exact o0_some
theorem h0_asgS {g : D → M Unit} {m : M Sl} {Φ : Fl → Rho → Prop} : H0 (asgS g m) ρ Φ = H0 m ρ fun r ρ1 => H0 (g r.d) ρ1 fun _ ρ2 => Φ .nx ρ2 := by
  unfold asgS; simp only [h0_bindM, h0_pureM]
def parP (i j : Nat) (Φ : Rho → Prop) (ρ : Rho) : List D → Prop
  | [d, e] => Φ ((ρ.set i (some (.fz d))).set j (some (.fz e)))
  | _ => False
theorem parP_2 {i j : Nat} {Φ : Rho → Prop} {d e : D} : parP i j Φ ρ [d, e] = Φ ((ρ.set i (some (.fz d))).set j (some (.fz e))) := rfl
theorem h0_parS {i j : Nat} {m : M (List D)} {Φ : Fl → Rho → Prop} : H0 (parS i j m) ρ Φ = H0 m ρ fun ds ρ1 => parP i j (fun ρ2 => Φ .nx ρ2) ρ1 ds := by
  unfold parS; rw [h0_bindM]
  congr; funext ds ρ1
  rcases ds with _ | ⟨d, _ | ⟨e, _ | ⟨_, _⟩⟩⟩ <;> simp only [parP, h0_oo, liftM, Option.map_none, o0_none, o0_some]
theorem h0_ifS {t : M Bool} {m n : M Fl} {Φ : Fl → Rho → Prop} : H0 (ifS t m n) ρ Φ = H0 t ρ fun b ρ1 => if b then H0 m ρ1 Φ else H0 n ρ1 Φ := by
  unfold ifS; simp only [h0_bindM, h0_ite]
def ownP (Φ : D → Prop) : Option (Option Sl) → Prop
  | some (some (.ow d)) => Φ d
  | _ => False
theorem ownP_some {d : D} {Φ : D → Prop} : ownP Φ (some (some (.ow d))) = Φ d := rfl
theorem h0_ownM {i : Nat} {Φ : D → Rho → Prop} : H0 (ownM i) ρ Φ = ownP (fun d => Φ d ρ) ρ[i]? := by
  rw [h0_oo]; unfold ownM
  rcases ρ[i]? with _ | _ | (d | d | d)
  · exact o0_none
  · exact o0_none
  · exact o0_none
  · exact o0_some
  · exact o0_none
def ownLP (Φ : List D → Prop) : Option (Option Sl) → Prop
  | some (some (.ow (.list ds))) => Φ ds
  | _ => False
theorem ownLP_some {ds : List D} {Φ : List D → Prop} : ownLP Φ (some (some (.ow (.list ds)))) = Φ ds := rfl
theorem h0_ownL {i : Nat} {Φ : List D → Rho → Prop} : H0 (ownL i) ρ Φ = ownLP (fun d => Φ d ρ) ρ[i]? := by
  rw [h0_oo]; unfold ownL
  rcases ρ[i]? with _ | _ | (d | d | d)
  · exact o0_none
  · exact o0_none
  · exact o0_none
  · cases d <;> first | exact o0_some | exact o0_none
  · exact o0_none
theorem h0_appendM {i : Nat} {m : M Sl} {Φ : Sl → Rho → Prop} : H0 (appendM i m) ρ Φ = ownLP (fun _ => H0 m ρ fun r ρ1 => ownLP (fun ds => if ds.length < sizeLine then Φ (.fz .none) (ρ1.set i (some (.ow (.list (ds ++ [r.d]))))) else False) ρ1[i]?) ρ[i]? := by
  unfold appendM; simp only [h0_bindM, h0_ownL, h0_ite, h0_putO, h0_pureM, h0_liftM, o0_none]
def setKP (i : Nat) (Φ : Rho → Prop) (ρ : Rho) (r : D) (ds : List D) : D → Prop
  | .int j => Oo (ixN ds.length j) fun n => Φ (ρ.set i (some (.ow (.list (ds.set n r)))))
  | _ => False
theorem setKP_int {i : Nat} {Φ : Rho → Prop} {r : D} {ds : List D} {j : Int} : setKP i Φ ρ r ds (.int j) = Oo (ixN ds.length j) fun n => Φ (ρ.set i (some (.ow (.list (ds.set n r))))) := rfl
theorem h0_setLS {i : Nat} {mk me : M Sl} {Φ : Fl → Rho → Prop} : H0 (setLS i mk me) ρ Φ = H0 me ρ fun r ρ1 => ownLP (fun _ => H0 mk ρ1 fun k ρ2 => ownLP (fun ds => setKP i (fun ρ3 => Φ .nx ρ3) ρ2 r.d ds k.d) ρ2[i]?) ρ1[i]? := by
  unfold setLS; simp only [h0_bindM, h0_ownL]
  congr; funext r ρ1; congr; funext _; congr; funext k ρ2; congr; funext ds
  generalize k.d = kd
  cases kd with
  | int j =>
    simp only [setKP]
    rcases ixN ds.length j with _ | n
    · show _ = O0 none _; simp only [h0_liftM, o0_none]
    · show _ = O0 (some n) _; simp only [h0_bindM, h0_putO, h0_pureM, o0_some]
  | _ => simp only [setKP, h0_liftM, o0_none]
theorem h0_callRM {i : Nat} {F : D → List D → Option (Sl × D)} {m : M (List D)} {Φ : Sl → Rho → Prop} : H0 (callRM i F m) ρ Φ = ownP (fun _ => H0 m ρ fun ds ρ1 => ownP (fun d0 => O0 (F d0 ds) fun r => Φ (.fz r.1.d) (ρ1.set i (some (.ow r.2)))) ρ1[i]?) ρ[i]? := by
  unfold callRM; simp only [h0_bindM, h0_ownM, h0_liftM, h0_putO, h0_pureM]
theorem h0_forS {mi : M (List D)} {g : D → M Unit} {m : M Fl} {Φ : Fl → Rho → Prop} : H0 (forS mi g m) ρ Φ = H0 mi ρ fun its ρ1 => H0 (forLoop g m its) ρ1 Φ := h0_bindM
theorem h0_for_nil {g : D → M Unit} {m : M Fl} {Φ : Fl → Rho → Prop} : H0 (forLoop g m []) ρ Φ = Φ .nx ρ := h0_pureM
def loP (P : Prop) (Φ : Fl → Prop) : Fl → Prop
  | .nx => P
  | .ct => P
  | .bk => Φ .nx
  | .rt r => Φ (.rt r)
theorem loP_nx {P : Prop} {Φ : Fl → Prop} : loP P Φ .nx = P := rfl
theorem loP_ct {P : Prop} {Φ : Fl → Prop} : loP P Φ .ct = P := rfl
theorem loP_bk {P : Prop} {Φ : Fl → Prop} : loP P Φ .bk = Φ .nx := rfl
theorem loP_rt {P : Prop} {Φ : Fl → Prop} {r : Sl} : loP P Φ (.rt r) = Φ (.rt r) := rfl
theorem h0_for_cons {g : D → M Unit} {m : M Fl} {x : D} {xs : List D} {Φ : Fl → Rho → Prop} : H0 (forLoop g m (x :: xs)) ρ Φ = H0 (g x) ρ fun _ ρ1 => H0 m ρ1 fun f ρ2 => loP (H0 (forLoop g m xs) ρ2 Φ) (fun f => Φ f ρ2) f := by
  show H0 (bindM _ _) ρ Φ = _
  simp only [h0_bindM]
  congr; funext _ ρ1; congr; funext f ρ2
  cases f <;> simp only [loP, h0_pureM]
theorem h0_lcM {mi : M (List D)} {g : D → M Unit} {t : M Bool} {e : M Sl} {vs : List Nat} {Φ : Sl → Rho → Prop} : H0 (lcM mi g t e vs) ρ Φ = H0 mi ρ fun its ρ1 => (its.length ≤ sizeLine ∧ noOwn ρ1 vs = true) ∧ H0 (lcLoop g t e vs its) (wipeR ρ1 vs) fun rs ρ2 => Φ (.ow (.list rs)) (restR ρ1 ρ2 vs) := by
  unfold lcM; rw [h0_bindM]
  congr; funext its ρ1
  rw [h0_oo, o0_if, o0_map, h0_oo]
theorem h0_lc2M {mi : M (List D)} {g : D → M Unit} {t : M Bool} {mi1 : M (List D)} {g1 : D → M Unit} {t1 : M Bool} {e : M Sl} {vs vs1 : List Nat} {Φ : Sl → Rho → Prop} : H0 (lc2M mi g t mi1 g1 t1 e vs vs1) ρ Φ =
    H0 mi ρ fun its ρ1 => noOwn ρ1 vs = true ∧ H0 (lc2Loop g t mi1 g1 t1 e vs vs1 its) (wipeR ρ1 vs) fun rs ρ2 => rs.length ≤ sizeLine ∧ Φ (.ow (.list rs)) (restR ρ1 ρ2 vs) := by
  unfold lc2M; rw [h0_bindM]
  congr; funext its ρ1
  rw [h0_oo, o0_if, o0_bind, h0_oo]
  simp only [o0_if, o0_some]
theorem oo_some {α : Type} {a : α} {Φ : α → Prop} : Oo (some a) Φ = Φ a := o0_some
theorem oo_none {α : Type} {Φ : α → Prop} : Oo none Φ = False := o0_none
theorem oo_map {α β : Type} {o : Option α} {f : α → β} {Φ : β → Prop} : Oo (o.map f) Φ = Oo o fun a => Φ (f a) := o0_map
theorem oo_bind {α β : Type} {o : Option α} {f : α → Option β} {Φ : β → Prop} : Oo (o.bind f) Φ = Oo o fun a => Oo (f a) Φ := o0_bind
theorem oo_if {α : Type} {p : Prop} [Decidable p] {o : Option α} {Φ : α → Prop} : Oo (if p then o else none) Φ = (p ∧ Oo o Φ) := o0_if
theorem oo_mono {α : Type} {o : Option α} {Φ Ψ : α → Prop} (h : Oo o Φ) (i : ∀ a, Φ a → Ψ a) : Oo o Ψ := let ⟨a, e, p⟩ := h; ⟨a, e, i a p⟩
theorem ho_mono {α : Type} {m : M α} {ρ : Rho} {Φ Ψ : α → Rho → Prop} (h : Ho m ρ Φ) (i : ∀ a ρ', Φ a ρ' → Ψ a ρ') : Ho m ρ Ψ := let ⟨a, ρ', e, p⟩ := h; ⟨a, ρ', e, i a ρ' p⟩
theorem ho_bindM {m : M α} {f : α → M β} {Φ : β → Rho → Prop} : Ho (bindM m f) ρ Φ = Ho m ρ fun a ρ1 => Ho (f a) ρ1 Φ := h0_bindM
theorem ho_pureM {a : α} {Φ : α → Rho → Prop} : Ho (pureM a) ρ Φ = Φ a ρ := h0_pureM
theorem ho_liftM {o : Option α} {Φ : α → Rho → Prop} : Ho (liftM o) ρ Φ = Oo o fun a => Φ a ρ := h0_liftM
theorem ho_cM {d : D} {Φ : Sl → Rho → Prop} : Ho (cM d) ρ Φ = Φ (.fz d) ρ := h0_cM
theorem ho_bin {f : D → D → Option Sl} {a b : M Sl} {Φ : Sl → Rho → Prop} : Ho (bin f a b) ρ Φ = Ho a ρ fun x ρ1 => Ho b ρ1 fun y ρ2 => Oo (f x.d y.d) fun r => Φ r ρ2 := h0_bin
theorem ho_una {f : D → Option Sl} {a : M Sl} {Φ : Sl → Rho → Prop} : Ho (una f a) ρ Φ = Ho a ρ fun x ρ1 => Oo (f x.d) fun r => Φ r ρ1 := h0_una
theorem ho_varM {i : Nat} {Φ : Sl → Rho → Prop} : Ho (varM i) ρ Φ = varP i ρ Φ ρ[i]? := h0_varM
theorem ho_getF {i : Nat} {Φ : D → Rho → Prop} : Ho (getF i) ρ Φ = getFP (fun d => Φ d ρ) ρ[i]? := h0_getF
theorem ho_getM {i : Nat} {Φ : D → Rho → Prop} : Ho (getM i) ρ Φ = getP (fun d => Φ d ρ) ρ[i]? := h0_getM
theorem ho_nilM {Φ : List D → Rho → Prop} : Ho nilM ρ Φ = Φ [] ρ := h0_nilM
theorem ho_consM {a : M Sl} {r : M (List D)} {Φ : List D → Rho → Prop} : Ho (consM a r) ρ Φ = Ho a ρ fun x ρ1 => Ho r ρ1 fun xs ρ2 => Φ (x.d :: xs) ρ2 := h0_consM
theorem ho_tupM {m : M (List D)} {Φ : Sl → Rho → Prop} : Ho (tupM m) ρ Φ = Ho m ρ fun xs ρ1 => xs.length ≤ sizeLine ∧ Φ (.fz (.tuple xs)) ρ1 := h0_tupM
theorem ho_lstM {m : M (List D)} {Φ : Sl → Rho → Prop} : Ho (lstM m) ρ Φ = Ho m ρ fun xs ρ1 => xs.length ≤ sizeLine ∧ Φ (.ow (.list xs)) ρ1 := h0_lstM
theorem ho_callM {f : List D → Option Sl} {m : M (List D)} {Φ : Sl → Rho → Prop} : Ho (callM f m) ρ Φ = Ho m ρ fun xs ρ1 => Oo (f xs) fun r => Φ r ρ1 := h0_callM
theorem ho_boolM {r : Sl} {Φ : Bool → Rho → Prop} : Ho (boolM r) ρ Φ = blP (fun b => Φ b ρ) r := h0_boolM
theorem ho_testM {m : M Sl} {Φ : Bool → Rho → Prop} : Ho (testM m) ρ Φ = Ho m ρ fun r ρ1 => blP (fun b => Φ b ρ1) r := h0_testM
theorem ho_notM {m : M Bool} {Φ : Bool → Rho → Prop} : Ho (notM m) ρ Φ = Ho m ρ fun b ρ1 => Φ (!b) ρ1 := h0_notM
theorem ho_ite {p : Prop} [Decidable p] {m n : M α} {Φ : α → Rho → Prop} : Ho (if p then m else n) ρ Φ = if p then Ho m ρ Φ else Ho n ρ Φ := h0_ite
theorem ho_andM {m n : M Bool} {Φ : Bool → Rho → Prop} : Ho (andM m n) ρ Φ = Ho m ρ fun b ρ1 => if b then Ho n ρ1 Φ else Φ false ρ1 := h0_andM
theorem ho_orM {m n : M Bool} {Φ : Bool → Rho → Prop} : Ho (orM m n) ρ Φ = Ho m ρ fun b ρ1 => if b then Φ true ρ1 else Ho n ρ1 Φ := h0_orM
theorem ho_blM {m : M Bool} {Φ : Sl → Rho → Prop} : Ho (blM m) ρ Φ = Ho m ρ fun b ρ1 => Φ (.fz (.bool b)) ρ1 := h0_blM
theorem ho_andV {m n : M Sl} {Φ : Sl → Rho → Prop} : Ho (andV m n) ρ Φ = Ho m ρ fun x ρ1 => blP (fun b => if b then Ho n ρ1 Φ else Φ (.fz (.bool false)) ρ1) x := h0_andV
theorem ho_orV {m n : M Sl} {Φ : Sl → Rho → Prop} : Ho (orV m n) ρ Φ = Ho m ρ fun x ρ1 => blP (fun b => if b then Φ (.fz (.bool true)) ρ1 else Ho n ρ1 Φ) x := h0_orV
theorem ho_notV {m : M Sl} {Φ : Sl → Rho → Prop} : Ho (notV m) ρ Φ = Ho m ρ fun x ρ1 => blP (fun b => Φ (.fz (.bool (!b))) ρ1) x := h0_notV
theorem ho_ifM {t : M Bool} {m n : M Sl} {Φ : Sl → Rho → Prop} : Ho (ifM t m n) ρ Φ = Ho t ρ fun b ρ1 => if b then Ho m ρ1 Φ else Ho n ρ1 Φ := h0_ifM
theorem ho_chainM {f g : D → D → Option Sl} {ma mb mc : M Sl} {Φ : Sl → Rho → Prop} : Ho (chainM f g ma mb mc) ρ Φ = Ho ma ρ fun x ρ1 => Ho mb ρ1 fun y ρ2 => Oo (f x.d y.d) fun k => blP (fun b => if b then Ho mc ρ2 fun z ρ3 => Oo (g y.d z.d) fun r => Φ r ρ3 else Φ (.fz (.bool false)) ρ2) k := h0_chainM
theorem ho_chain3M {f g h : D → D → Option Sl} {ma mb mc md : M Sl} {Φ : Sl → Rho → Prop} : Ho (chain3M f g h ma mb mc md) ρ Φ = Ho ma ρ fun x ρ1 => Ho mb ρ1 fun y ρ2 => Oo (f x.d y.d) fun k => blP (fun b => if b then Ho mc ρ2 fun z ρ3 => Oo (g y.d z.d) fun k => blP (fun b => if b then Ho md ρ3 fun w ρ4 => Oo (h z.d w.d) fun r => Φ r ρ4 else Φ (.fz (.bool false)) ρ3) k else Φ (.fz (.bool false)) ρ2) k := h0_chain3M
theorem ho_ixVM {i : Nat} {mb : M Sl} {Φ : Sl → Rho → Prop} : Ho (ixVM i mb) ρ Φ = getFP (fun _ => Ho mb ρ fun y ρ1 => getFP (fun d => Oo (memD d y.d) fun r => Φ (.fz r) ρ1) ρ1[i]?) ρ[i]? := h0_ixVM
theorem ho_partM {m : M Sl} {Φ : Option Int → Rho → Prop} : Ho (partM m) ρ Φ = Ho m ρ fun x ρ1 => Oo (partD x.d) fun r => Φ r ρ1 := h0_partM
theorem ho_sliceM {m : M Sl} {lo hi : M (Option Int)} {Φ : Sl → Rho → Prop} : Ho (sliceM m lo hi) ρ Φ = Ho m ρ fun x ρ1 => Ho lo ρ1 fun l ρ2 => Ho hi ρ2 fun h ρ3 => Oo (slD x.d l h) fun r => Φ r ρ3 := h0_sliceM
theorem ho_seqM {m : M Sl} {Φ : List D → Rho → Prop} : Ho (seqM m) ρ Φ = Ho m ρ fun x ρ1 => Oo (seqD x.d) fun r => Φ r ρ1 := h0_seqM
theorem ho_rngM {f : List D → Option (List D)} {m : M (List D)} {Φ : List D → Rho → Prop} : Ho (rngM f m) ρ Φ = Ho m ρ fun x ρ1 => Oo (f x) fun r => Φ r ρ1 := h0_rngM
theorem ho_putM {i : Nat} {d : D} {Φ : Unit → Rho → Prop} : Ho (putM i d) ρ Φ = Φ () (ρ.set i (some (.fz d))) := h0_putM
theorem ho_putO {i : Nat} {d : D} {Φ : Unit → Rho → Prop} : Ho (putO i d) ρ Φ = Φ () (ρ.set i (some (.ow d))) := h0_putO
theorem ho_gsNil {Φ : Unit → Rho → Prop} : Ho (gsNil []) ρ Φ = Φ () ρ := h0_gsNil
theorem ho_gsCons {g : D → M Unit} {gs : List D → M Unit} {d : D} {ds : List D} {Φ : Unit → Rho → Prop} : Ho (gsCons g gs (d :: ds)) ρ Φ = Ho (g d) ρ fun _ ρ1 => Ho (gs ds) ρ1 Φ := h0_gsCons
theorem ho_tupG {n : Nat} {gs : List D → M Unit} {ds : List D} {Φ : Unit → Rho → Prop} : Ho (tupG n gs (.tuple ds)) ρ Φ = if ds.length = n then Ho (gs ds) ρ Φ else False := h0_tupG
theorem ho_yesM {Φ : Bool → Rho → Prop} : Ho yesM ρ Φ = Φ true ρ := h0_yesM
theorem ho_wipeM {vs : List Nat} {Φ : Unit → Rho → Prop} : Ho (wipeM vs) ρ Φ = Φ () (wipeR ρ vs) := h0_wipeM
theorem ho_seqS {m n : M Fl} {Φ : Fl → Rho → Prop} : Ho (seqS m n) ρ Φ = Ho m ρ fun f ρ1 => flP (Ho n ρ1 Φ) (fun f => Φ f ρ1) f := h0_seqS
theorem ho_dropS {m : M Sl} {Φ : Fl → Rho → Prop} : Ho (dropS m) ρ Φ = Ho m ρ fun _ ρ1 => Φ .nx ρ1 := h0_dropS
theorem ho_retS {m : M Sl} {Φ : Fl → Rho → Prop} : Ho (retS m) ρ Φ = Ho m ρ fun r ρ1 => Φ (.rt r) ρ1 := h0_retS
theorem ho_retF {m : M Sl} {Φ : Fl → Rho → Prop} : Ho (retF m) ρ Φ = Ho m ρ fun r ρ1 => Φ (.rt (.fz r.d)) ρ1 := h0_retF
theorem ho_retV {i : Nat} {Φ : Fl → Rho → Prop} : Ho (retV i) ρ Φ = retP (fun s => Φ (.rt s) (ρ.set i none)) ρ[i]? := h0_retV
theorem ho_setS {i : Nat} {m : M Sl} {Φ : Fl → Rho → Prop} : Ho (setS i m) ρ Φ = Ho m ρ fun r ρ1 => Φ .nx (ρ1.set i (some r)) := h0_setS
theorem ho_asgS {g : D → M Unit} {m : M Sl} {Φ : Fl → Rho → Prop} : Ho (asgS g m) ρ Φ = Ho m ρ fun r ρ1 => Ho (g r.d) ρ1 fun _ ρ2 => Φ .nx ρ2 := h0_asgS
theorem ho_parS {i j : Nat} {m : M (List D)} {Φ : Fl → Rho → Prop} : Ho (parS i j m) ρ Φ = Ho m ρ fun ds ρ1 => parP i j (fun ρ2 => Φ .nx ρ2) ρ1 ds := h0_parS
theorem ho_ifS {t : M Bool} {m n : M Fl} {Φ : Fl → Rho → Prop} : Ho (ifS t m n) ρ Φ = Ho t ρ fun b ρ1 => if b then Ho m ρ1 Φ else Ho n ρ1 Φ := h0_ifS
theorem ho_ownM {i : Nat} {Φ : D → Rho → Prop} : Ho (ownM i) ρ Φ = ownP (fun d => Φ d ρ) ρ[i]? := h0_ownM
theorem ho_ownL {i : Nat} {Φ : List D → Rho → Prop} : Ho (ownL i) ρ Φ = ownLP (fun d => Φ d ρ) ρ[i]? := h0_ownL
theorem ho_appendM {i : Nat} {m : M Sl} {Φ : Sl → Rho → Prop} : Ho (appendM i m) ρ Φ = ownLP (fun _ => Ho m ρ fun r ρ1 => ownLP (fun ds => if ds.length < sizeLine then Φ (.fz .none) (ρ1.set i (some (.ow (.list (ds ++ [r.d]))))) else False) ρ1[i]?) ρ[i]? := h0_appendM
theorem ho_setLS {i : Nat} {mk me : M Sl} {Φ : Fl → Rho → Prop} : Ho (setLS i mk me) ρ Φ = Ho me ρ fun r ρ1 => ownLP (fun _ => Ho mk ρ1 fun k ρ2 => ownLP (fun ds => setKP i (fun ρ3 => Φ .nx ρ3) ρ2 r.d ds k.d) ρ2[i]?) ρ1[i]? := h0_setLS
theorem ho_callRM {i : Nat} {F : D → List D → Option (Sl × D)} {m : M (List D)} {Φ : Sl → Rho → Prop} : Ho (callRM i F m) ρ Φ = ownP (fun _ => Ho m ρ fun ds ρ1 => ownP (fun d0 => Oo (F d0 ds) fun r => Φ (.fz r.1.d) (ρ1.set i (some (.ow r.2)))) ρ1[i]?) ρ[i]? := h0_callRM
theorem ho_forS {mi : M (List D)} {g : D → M Unit} {m : M Fl} {Φ : Fl → Rho → Prop} : Ho (forS mi g m) ρ Φ = Ho mi ρ fun its ρ1 => Ho (forLoop g m its) ρ1 Φ := h0_forS
theorem ho_for_nil {g : D → M Unit} {m : M Fl} {Φ : Fl → Rho → Prop} : Ho (forLoop g m []) ρ Φ = Φ .nx ρ := h0_for_nil
theorem ho_for_cons {g : D → M Unit} {m : M Fl} {x : D} {xs : List D} {Φ : Fl → Rho → Prop} : Ho (forLoop g m (x :: xs)) ρ Φ = Ho (g x) ρ fun _ ρ1 => Ho m ρ1 fun f ρ2 => loP (Ho (forLoop g m xs) ρ2 Φ) (fun f => Φ f ρ2) f := h0_for_cons
theorem ho_for_all {g : D → M Unit} {m : M Fl} (I : Nat → Rho → Prop) (Φ : Fl → Rho → Prop) : ∀ (its : List D) (k : Nat) (ρ : Rho), I k ρ →
    (∀ j x ρ1, its[j]? = some x → I (k + j) ρ1 → Ho (g x) ρ1 fun _ ρ2 => Ho m ρ2 fun f ρ3 => f = .nx ∧ I (k + j + 1) ρ3) →
    (∀ ρ1, I (k + its.length) ρ1 → Φ .nx ρ1) → Ho (forLoop g m its) ρ Φ
  | [], k, ρ, i, _, q => by rw [ho_for_nil]; exact q ρ i
  | x :: xs, k, ρ, i, st, q => by
    rw [ho_for_cons]
    refine ho_mono (st 0 x ρ rfl i) fun _ ρ1 h => ho_mono h fun f ρ2 h => ?_
    obtain ⟨rfl, h⟩ := h
    rw [loP_nx]
    refine ho_for_all I Φ xs (k + 1) ρ2 h (fun j x ρ1 e i => ?_) (fun ρ1 i => q ρ1 ?_)
    · have := st (j + 1) x ρ1 e (by rw [show k + (j + 1) = k + 1 + j by omega]; exact i)
      rw [show k + (j + 1) = k + 1 + j by omega] at this
      exact this
    · rw [List.length_cons, show k + (xs.length + 1) = k + 1 + xs.length by omega]; exact i
theorem ho_lcM {mi : M (List D)} {g : D → M Unit} {t : M Bool} {e : M Sl} {vs : List Nat} {Φ : Sl → Rho → Prop} : Ho (lcM mi g t e vs) ρ Φ = Ho mi ρ fun its ρ1 => (its.length ≤ sizeLine ∧ noOwn ρ1 vs = true) ∧ Ho (lcLoop g t e vs its) (wipeR ρ1 vs) fun rs ρ2 => Φ (.ow (.list rs)) (restR ρ1 ρ2 vs) := h0_lcM
theorem ho_lc2M {mi : M (List D)} {g : D → M Unit} {t : M Bool} {mi1 : M (List D)} {g1 : D → M Unit} {t1 : M Bool} {e : M Sl} {vs vs1 : List Nat} {Φ : Sl → Rho → Prop} : Ho (lc2M mi g t mi1 g1 t1 e vs vs1) ρ Φ =
    Ho mi ρ fun its ρ1 => noOwn ρ1 vs = true ∧ Ho (lc2Loop g t mi1 g1 t1 e vs vs1 its) (wipeR ρ1 vs) fun rs ρ2 => rs.length ≤ sizeLine ∧ Φ (.ow (.list rs)) (restR ρ1 ρ2 vs) := h0_lc2M
def rtP (Φ : Sl → Prop) : Fl → Prop
  | .rt r => Φ r
  | .nx => Φ (.fz .none)
  | _ => False
theorem rtP_rt {Φ : Sl → Prop} {r : Sl} : rtP Φ (.rt r) = Φ r := rfl
theorem rtP_nx {Φ : Sl → Prop} : rtP Φ .nx = Φ (.fz .none) := rfl
theorem oo_runF {np : Nat} {N : List Str} {m : M Fl} {ds : List D} {Φ : Sl → Prop} (hl : ds.length = np) (h : Ho m (startR N ds) fun f _ => rtP Φ f) : Oo (runF np N m ds) Φ := by
  obtain ⟨f, ρ, e, hf⟩ := h
  unfold runF; rw [if_pos hl, e]
  cases f with
  | rt r => exact ⟨r, rfl, hf⟩
  | nx => exact ⟨_, rfl, hf⟩
  | _ => exact hf.elim
def rmP (Φ : Sl × D → Prop) : Fl → Option (Option Sl) → Prop
  | .rt (.fz d), some (some (.ow d1)) => Φ (.fz d, d1)
  | .nx, some (some (.ow d1)) => Φ (.fz .none, d1)
  | _, _ => False
theorem rmP_rt {Φ : Sl × D → Prop} {d d1 : D} : rmP Φ (.rt (.fz d)) (some (some (.ow d1))) = Φ (.fz d, d1) := rfl
theorem rmP_nx {Φ : Sl × D → Prop} {d1 : D} : rmP Φ .nx (some (some (.ow d1))) = Φ (.fz .none, d1) := rfl
theorem oo_runM {np : Nat} {N : List Str} {m : M Fl} {d0 : D} {ds : List D} {Φ : Sl × D → Prop} (hl : ds.length + 1 = np) (h : Ho m (startM N d0 ds) fun f ρ => rmP Φ f ρ[0]?) : Oo (runM np N m d0 ds) Φ := by
  obtain ⟨f, ρ, e, hf⟩ := h
  unfold runM; rw [if_pos hl, e]
  rcases ρ with _ | ⟨_ | (a | a | a), ρ⟩
  · cases f with
    | rt r => cases r <;> exact hf.elim
    | _ => exact hf.elim
  · cases f with
    | rt r => cases r <;> exact hf.elim
    | _ => exact hf.elim
  · cases f with
    | rt r => cases r <;> exact hf.elim
    | _ => exact hf.elim
  · cases f with
    | rt r =>
      cases r with
      | fz d => exact ⟨_, rfl, hf⟩
      | ow d => exact hf.elim
      | o2 d => exact hf.elim
    | nx => exact ⟨_, rfl, hf⟩
    | _ => exact hf.elim
  · cases f with
    | rt r => cases r <;> exact hf.elim
    | _ => exact hf.elim
theorem sl_fz {d : D} : (Sl.fz d).d = d := rfl
theorem sl_ow {d : D} : (Sl.ow d).d = d := rfl
theorem sl_o2 {d : D} : (Sl.o2 d).d = d := rfl
section
variable {i j : Int} {Φ : Sl → Prop}
theorem o_add : Oo (addD (.int i) (.int j)) Φ = Φ (.fz (.int (i + j))) := oo_some
theorem o_addT {xs ys : List D} : Oo (addD (.tuple xs) (.tuple ys)) Φ = ((xs.length + ys.length ≤ sizeLine ∧ tagT (xs ++ ys) = false) ∧ Φ (.fz (.tuple (xs ++ ys)))) := by
  show Oo (if _ then _ else _) Φ = _
  rw [oo_if, oo_some]
theorem o_addL {xs ys : List D} : Oo (addD (.list xs) (.list ys)) Φ = (xs.length + ys.length ≤ sizeLine ∧ Φ (.ow (.list (xs ++ ys)))) := by
  show Oo (if _ then _ else _) Φ = _
  rw [oo_if, oo_some]
theorem o_addS {xs ys : Str} : Oo (addD (.str xs) (.str ys)) Φ = (xs.length + ys.length ≤ sizeLine ∧ Φ (.fz (.str (xs ++ ys)))) := by
  show Oo (if _ then _ else _) Φ = _
  rw [oo_if, oo_some]
theorem o_sub : Oo (subD (.int i) (.int j)) Φ = Φ (.fz (.int (i - j))) := oo_some
theorem o_mul : Oo (mulD (.int i) (.int j)) Φ = (i.natAbs.log2 + j.natAbs.log2 < 1000000 ∧ Φ (.fz (.int (i * j)))) := by
  show Oo (if _ then _ else _) Φ = _
  rw [oo_if, oo_some]
theorem o_fdiv : Oo (fdivD (.int i) (.int j)) Φ = ((0 < j ∧ j.natAbs.log2 < 9000) ∧ Φ (.fz (.int (i / j)))) := by
  show Oo (if _ then _ else _) Φ = _
  rw [oo_if, oo_some]
theorem o_mod : Oo (modD (.int i) (.int j)) Φ = (0 < j ∧ Φ (.fz (.int (i % j)))) := by
  show Oo (if _ then _ else _) Φ = _
  rw [oo_if, oo_some]
theorem o_pow : Oo (powD (.int i) (.int j)) Φ = ((0 ≤ j ∧ j ≤ 1000000 ∧ i.natAbs < 2 ^ 64) ∧ Φ (.fz (.int (i ^ j.toNat)))) := by
  show Oo (if _ then _ else _) Φ = _
  rw [oo_if, oo_some]
theorem o_neg : Oo (negD (.int i)) Φ = Φ (.fz (.int (-i))) := oo_some
theorem o_cmp {p : Int → Int → Bool} : Oo (cmpI p (.int i) (.int j)) Φ = Φ (.fz (.bool (p i j))) := oo_some
theorem o_eq : Oo (eqD (.int i) (.int j)) Φ = Φ (.fz (.bool (i == j))) := oo_some
theorem o_ne : Oo (neD (.int i) (.int j)) Φ = Φ (.fz (.bool (!(i == j)))) := oo_some
theorem o_eqS {x y : Str} : Oo (eqD (.str x) (.str y)) Φ = Φ (.fz (.bool (decide (x = y)))) := oo_some
theorem o_neS {x y : Str} : Oo (neD (.str x) (.str y)) Φ = Φ (.fz (.bool (!decide (x = y)))) := oo_some
theorem o_lenL {ds : List D} : Oo (lenD [.list ds]) Φ = Φ (.fz (.int ds.length)) := oo_some
theorem o_lenT {ds : List D} : Oo (lenD [.tuple ds]) Φ = Φ (.fz (.int ds.length)) := oo_some
theorem o_min : Oo (minD [.int i, .int j]) Φ = Φ (.fz (.int (if j < i then j else i))) := oo_some
theorem o_max : Oo (maxD [.int i, .int j]) Φ = Φ (.fz (.int (if j > i then j else i))) := oo_some
theorem o_toInt : Oo (toIntD [.int i]) Φ = Φ (.fz (.int i)) := oo_some
theorem o_tupL {ds : List D} : Oo (tupleD [.list ds]) Φ = Φ (.fz (.tuple ds)) := oo_some
theorem o_tupT {ds : List D} : Oo (tupleD [.tuple ds]) Φ = Φ (.fz (.tuple ds)) := oo_some
theorem o_lstL {ds : List D} : Oo (listD [.list ds]) Φ = Φ (.ow (.list ds)) := oo_some
theorem o_lstT {ds : List D} : Oo (listD [.tuple ds]) Φ = Φ (.ow (.list ds)) := oo_some
theorem o_seqL {ds : List D} {Φ : List D → Prop} : Oo (seqD (.list ds)) Φ = Φ ds := oo_some
theorem o_seqT {ds : List D} {Φ : List D → Prop} : Oo (seqD (.tuple ds)) Φ = Φ ds := oo_some
theorem o_part {Φ : Option Int → Prop} : Oo (partD (.int i)) Φ = Φ (some i) := oo_some
theorem o_slL {ds : List D} {lo hi : Option Int} : Oo (slD (.list ds) lo hi) Φ = Φ (.ow (.list (cutD ds lo hi))) := oo_some
theorem o_slT {ds : List D} {lo hi : Option Int} : Oo (slD (.tuple ds) lo hi) Φ = (tagT (cutD ds lo hi) = false ∧ Φ (.fz (.tuple (cutD ds lo hi)))) := by
  show Oo (if _ then _ else _) Φ = _
  rw [oo_if, oo_some]
theorem o_memL {ds : List D} {Φ : D → Prop} : Oo (memD (.list ds) (.int i)) Φ = Oo (atI ds i) Φ := rfl
theorem o_memT {ds : List D} {Φ : D → Prop} : Oo (memD (.tuple ds) (.int i)) Φ = Oo (atI ds i) Φ := rfl
theorem o_ixL {ds : List D} : Oo (ixD (.list ds) (.int i)) Φ = Oo (atI ds i) fun d => Φ (.fz d) := oo_map
theorem o_ixT {ds : List D} : Oo (ixD (.tuple ds) (.int i)) Φ = Oo (atI ds i) fun d => Φ (.fz d) := oo_map
theorem o_rng1 {Φ : List D → Prop} : Oo (rng1 [.int j]) Φ = ((-(2 ^ 62) ≤ j ∧ j < 2 ^ 62) ∧ Φ (rangeD 0 j)) := by
  show Oo (if _ then _ else _) Φ = _
  rw [oo_if, oo_some]
theorem o_rng2 {Φ : List D → Prop} : Oo (rng2 [.int i, .int j]) Φ = ((-(2 ^ 62) ≤ i ∧ i < 2 ^ 62 ∧ -(2 ^ 62) ≤ j ∧ j < 2 ^ 62) ∧ Φ (rangeD i j)) := by
  show Oo (if _ then _ else _) Φ = _
  rw [oo_if, oo_some]
theorem o_enum {ds : List D} {Φ : List D → Prop} : Oo (enumD [.list ds]) Φ = Φ (enumFrom 0 ds) := oo_some
end
theorem atI_nat {α : Type} {xs : List α} {k : Nat} (h : k < xs.length) : atI xs (k : Int) = xs[k]? := by
  unfold atI ixN
  rw [if_pos (by omega), if_pos (by omega)]
  simp
theorem atI_of {α : Type} {xs : List α} {i : Int} (h0 : 0 ≤ i) (h : i < xs.length) : ∃ x, atI xs i = some x ∧ xs[i.toNat]? = some x := by
  have e : i = (i.toNat : Int) := (Int.toNat_of_nonneg h0).symm
  have l : i.toNat < xs.length := by omega
  refine ⟨xs[i.toNat], ?_, List.getElem?_eq_getElem l⟩
  have h := atI_nat (xs := xs) l
  rw [← e, List.getElem?_eq_getElem l] at h
  exact h
theorem oo_atI {α : Type} {xs : List α} {i : Int} {Φ : α → Prop} (h0 : 0 ≤ i) (h : i < xs.length) (q : ∀ x, xs[i.toNat]? = some x → Φ x) : Oo (atI xs i) Φ := by
  obtain ⟨x, e, m⟩ := atI_of h0 h
  exact ⟨x, e, q x m⟩
theorem oo_ixN {n : Nat} {i : Int} {Φ : Nat → Prop} (h0 : 0 ≤ i) (h : i < n) (q : Φ i.toNat) : Oo (ixN n i) Φ := by
  refine ⟨i.toNat, ?_, q⟩
  unfold ixN; rw [if_pos h0, if_pos h]
mutual
def wid : D → Nat
  | .none => 4 | .bool _ => 5 | .int i => i.natAbs.log2 + 2 | .str x => 10 * x.length + 2
  | .list xs => widAll xs + 2
  | .tuple xs => widAll xs + 3
  | .dict _ => 0
  | .obj _ _ _ => 0
def widAll : List D → Nat
  | [] => 0
  | x :: xs => wid x + 2 + widAll xs
end
mutual
/-- strings of letters of at most 8 hex digits -/
def strsOk : D → Bool
  | .str x => x.cps.toList.all fun c => decide (c < 16 ^ 8)
  | .list xs => strsOkAll xs
  | .tuple xs => strsOkAll xs
  | .dict _ => false
  | .obj _ _ _ => false
  | _ => true
def strsOkAll : List D → Bool
  | [] => true
  | x :: xs => strsOk x && strsOkAll xs
end
def sumLen : List Str → Nat
  | [] => 0
  | t :: ts => t.length + 2 + sumLen ts
theorem textFrom_le : ∀ (ts : List Str) (k : Nat) (acc : Str), (textFrom k acc ts).length ≤ acc.length + sumLen ts
  | [], k, acc => Nat.le_refl _
  | t :: ts, k, acc => by
    show (textFrom (k + 1) (acc ++ (if k > 0 then ", " else "" : String) ++ t) ts).length ≤ acc.length + (t.length + 2 + sumLen ts)
    refine Nat.le_trans (textFrom_le ts (k + 1) _) ?_
    rw [Str.length_append, Str.length_append]
    have : (Str.ofString (if k > 0 then ", " else "" : String)).length ≤ 2 := by split <;> decide +kernel
    omega
theorem join_le : ∀ (ts : List Str), (Str.join ", " ts).length ≤ sumLen ts
  | [] => Nat.le_refl _
  | [x] => by show x.length ≤ x.length + 2 + 0; omega
  | x :: y :: ts => by
    show (x ++ (", " : Str) ++ Str.join ", " (y :: ts)).length ≤ x.length + 2 + sumLen (y :: ts)
    have h := join_le (y :: ts)
    rw [Str.length_append, Str.length_append]
    have : ((", " : Str)).length = 2 := by decide +kernel
    omega
theorem int_len (i : Int) : (Str.ofString (toString i)).length ≤ i.natAbs.log2 + 2 := by
  have h := int_text_length_le (a := i) (k := i.natAbs.log2 + 1) (by omega) (by omega)
  have e : (Str.ofString (toString i)).length = (toString i).length := by
    rw [Str.ofString_eq_toList]
    show ((toString i).toList.map Char.toNat).toArray.size = _
    rw [List.size_toArray, List.length_map, String.length_toList]
  omega
mutual
theorem shown_len : ∀ d : D, strsOk d = true → d.hasDict = false → d.shown.length ≤ wid d
  | .none, _, _ => by show ((("None" : String) : Str)).length ≤ 4; decide +kernel
  | .bool b, _, _ => by cases b <;> (show _ ≤ 5) <;> decide +kernel
  | .int i, _, _ => by rw [Dt.shown]; exact int_len i
  | .str x, h, _ => by
    rw [Dt.shown, wid]
    rw [strsOk, List.all_eq_true] at h
    exact StrLaws.reprText_len x fun c hc => of_decide_eq_true (h c hc)
  | .list xs, h, hd => by
    rw [Dt.shown, wid, listText, Str.length_append]
    have a := textFrom_le (Dt.shownAll xs) 0 "["
    have b := shownAll_len xs (by rw [strsOk] at h; exact h) (by rw [Dt.hasDict] at hd; exact hd)
    have c : (("[" : Str)).length = 1 := by decide +kernel
    have d : (("]" : Str)).length = 1 := by decide +kernel
    omega
  | .tuple xs, h, hd => by
    rw [Dt.shown, wid, tupleText, Str.length_append, Str.length_append]
    have a := join_le (Dt.shownAll xs)
    have b := shownAll_len xs (by rw [strsOk] at h; exact h) (by rw [Dt.hasDict] at hd; exact hd)
    have c : (("(" : Str)).length = 1 := by decide +kernel
    have d : (Str.ofString (if (Dt.shownAll xs).length == 1 then ",)" else ")" : String)).length ≤ 2 := by split <;> decide +kernel
    omega
  | .dict _, h, _ => by rw [strsOk] at h; exact nomatch h
  | .obj _ _ _, h, _ => by rw [strsOk] at h; exact nomatch h
theorem shownAll_len : ∀ ds : List D, strsOkAll ds = true → Dt.hasDictAll ds = false → sumLen (Dt.shownAll ds) ≤ widAll ds
  | [], _, _ => Nat.le_refl _
  | d :: ds, h, hd => by
    rw [strsOkAll, Bool.and_eq_true] at h
    rw [Dt.hasDictAll, Bool.or_eq_false_iff] at hd
    rw [Dt.shownAll, sumLen, widAll]
    have := shown_len d h.1 hd.1
    have := shownAll_len ds h.2 hd.2
    omega
end
end Fx
namespace Fx
open PySem PySem.Spec PyProof.Rows L2
section
variable {X : Cx}
def peekM (f : List D → Option Sl) (i : Nat) : M Sl := bindM (getM i) fun d => bindM (liftM (f [d])) fun r => if flatD r.d then pureM (.fz r.d) else liftM none
theorem EnvR.peek {K : PySem.W.Frag} {G H : Hp} {σ : L2.St} {ρ : Rho} (E : EnvR K G H σ ρ) {i : Nat} {s : Sl} (h : ρ[i]? = some (some s)) : ∃ v G', σ[i]? = some (some v) ∧ Same G' H ∧ Rp K G' v s.d := by
  cases s with
  | fz d =>
    obtain ⟨v, e1, r1⟩ := E.fz i d h
    exact ⟨v, G, e1, E.sub, r1⟩
  | ow d =>
    obtain ⟨p, G', e1, S, r1⟩ := E.freeze h
    exact ⟨_, G', e1, S.env.sub, r1⟩
  | o2 d =>
    obtain ⟨p, G', e1, S, r1⟩ := E.freeze2 h
    exact ⟨_, G', e1, S.env.sub, r1⟩
theorem rp_flat {K : PySem.W.Frag} {G G' : Hp} {v : V} {d : D} (h : Rp K G v d) (f : flatD d = true) : Rp K G' v d := by
  cases h with
  | non => exact .non
  | bl b => exact .bl b
  | int i => exact .int i
  | str x => exact .str x
  | _ => simp [flatD] at f
/-- a builtin that only looks, and tells something flat -/
def rLF (K : PySem.W.Frag) (f : List D → Option Sl) : List V → Hp → VK → Prop := fun xs H Q => ∃ G ds r, Same G H ∧ RpAll K G xs ds ∧ f ds = some r ∧ ∀ v, Rp K G v r.d → Q v H
theorem cr_lenF : CallR X (.builtin "len") (rLF X.K lenD) := by
  refine callr_imp call_len fun xs H Q h => ?_
  obtain ⟨G, ds, r, sub, px, e, q⟩ := h
  unfold lenD at e
  split at e
  · cases e
    obtain ⟨x, rfl, p⟩ := rp1 px
    obtain ⟨a, ys, rfl, s, t⟩ := rp_list p
    exact ⟨_, ys.length, rfl, .inl ⟨ys, sql_mono sub s, rfl⟩, q _ (by rw [t.length]; exact .int _)⟩
  · cases e
    obtain ⟨x, rfl, p⟩ := rp1 px
    obtain ⟨a, ys, rfl, s, t⟩ := rp_tup p
    exact ⟨_, ys.length, rfl, .inr ⟨ys, sqt_mono sub s, rfl⟩, q _ (by rw [t.length]; exact .int _)⟩
  · obtain ⟨hz, rfl⟩ := ite_some e
    obtain ⟨x, rfl, p⟩ := rp1 px
    cases rp_str p
    exact ⟨_, _, rfl, ⟨hz, rfl⟩, q _ (.int _)⟩
  · cases e
theorem peek_in {K : PySem.W.Frag} {f : List D → Option Sl} {i : Nat} {σ : L2.St} {H : Hp} {Q : VK} (h : tM K (peekM f i) σ H Q) : tCB (rLF K f) (tCons (tVar i) tNil) σ H Q := by
  obtain ⟨G, ρ, r, ρ', E, hm, q⟩ := h
  obtain ⟨d, ρ1, e1, h2⟩ := bindM_some hm
  obtain ⟨rfl, s, es, rfl⟩ := getM_some e1
  obtain ⟨r0, ρ2, e3, h4⟩ := bindM_some h2
  obtain ⟨e5, rfl⟩ := liftM_some e3
  obtain ⟨v, G1, ev, s2, rp⟩ := E.peek es
  have hf : flatD r0.d = true := by
    by_cases hf : flatD r0.d = true
    · exact hf
    · rw [if_neg hf] at h4; cases h4
  rw [if_pos hf] at h4
  obtain ⟨rfl, rfl⟩ := pureM_some h4
  refine ⟨v, ev, ?_⟩
  exact ⟨G1, [s.d], r0, s2, .one rp, e5, fun z r3 => q z H G (.refl E) (rp_flat r3 hf)⟩
theorem fe_callBP (i : Nat) {x y : Str} {p q : Pos} {id : String} {f : List D → Option Sl} (hc : CallR X (.builtin id) (rLF X.K f)) (hg : Gl X x) (hm : X.mg x = none) (hv : bootBuiltins x = some (.builtin id)) (hN : X.N[i]? = some y := by rfl)
    (hvis : Vis X.env.scope y := by first | exact Or.inl rfl | exact Or.inr (Or.inl rfl) | exact Or.inr (Or.inr rfl)) (hn : x ≠ "__name__" := by decide) (hdb : (x == ("__debug__" : Str)) = false := by decide)
    (hd : (y == ("__debug__" : Str)) = false := by decide) (hcd : (y == ("__classdict__" : Str)) = false := by decide)
    (he : starEach (Expr.Name y q :: []) X.env = (false, eval (.Name y q) X.env) :: starEach [] X.env := by rfl) (hpl : (backTo pos (starEach [Expr.Name y q] X.env)).any (·.1) = false := by rfl) : FE X (.Call (.Name x p) [.Name y q] [] pos) (peekM f i) :=
  imE (pe_callB hc hg hm hv (pa_cons (pe_var (i := i) hN hvis hd hcd) pa_nil he) hn hdb he hpl) fun _ _ _ => peek_in
end
theorem h0_peekM {ρ : Rho} {f : List D → Option Sl} {i : Nat} {Φ : Sl → Rho → Prop} : H0 (peekM f i) ρ Φ = getP (fun d => O0 (f [d]) fun r => if flatD r.d = true then Φ (.fz r.d) ρ else False) ρ[i]? := by
  unfold peekM; simp only [h0_bindM, h0_getM, h0_liftM, h0_ite, h0_pureM, o0_none]
theorem ho_peekM {ρ : Rho} {f : List D → Option Sl} {i : Nat} {Φ : Sl → Rho → Prop} : Ho (peekM f i) ρ Φ = getP (fun d => Oo (f [d]) fun r => if flatD r.d = true then Φ (.fz r.d) ρ else False) ρ[i]? := h0_peekM
theorem fl_int {i : Int} : flatD (.int i) = true := rfl
theorem fl_str {i : Str} : flatD (.str i) = true := rfl
theorem fl_bool {i : Bool} : flatD (.bool i) = true := rfl
end Fx
namespace Fx
open PySem PySem.Spec PyProof.Rows L2
end Fx
namespace Fx
open PySem PySem.Spec PyProof.Rows L2
def scalK : D → Option Key
  | .int i => some (.inl i)
  | .str x => some (.inr x)
  | _ => none
def scalsK : List D → Option (List Key)
  | [] => some []
  | d :: ds => match scalK d, scalsK ds with
    | some k, some ks => some (k :: ks)
    | _, _ => none
/-- one level of key: a number, a text, or a tuple of these -/
inductive KK where
  | s (k : Key)
  | t (ks : List Key)
deriving DecidableEq
def keyOf : D → Option KK
  | .int i => some (.s (.inl i))
  | .str x => some (.s (.inr x))
  | .tuple ds => (scalsK ds).map .t
  | _ => none
def kkD : KK → D
  | .s k => keyD k
  | .t ks => keysD ks
def sameKd : KK → KK → Bool
  | .s _, .s _ => true
  | .t _, .t _ => true
  | _, _ => false
theorem scalK_keyD (k : Key) : scalK (keyD k) = some k := by cases k <;> rfl
theorem scalsK_keysD : ∀ ks : List Key, scalsK (ks.map keyD) = some ks
  | [] => rfl
  | k :: ks => by rw [List.map_cons, scalsK, scalK_keyD, scalsK_keysD ks]
theorem keyOf_kkD (k : KK) : keyOf (kkD k) = some k := by
  cases k with
  | s k => cases k <;> rfl
  | t ks => show (scalsK (ks.map keyD)).map KK.t = _; rw [scalsK_keysD]; rfl
theorem scalK_some {d : D} {k : Key} (h : scalK d = some k) : d = keyD k := by
  cases d <;> first | (cases h; rfl) | cases h
theorem scalsK_some : ∀ {ds : List D} {ks : List Key}, scalsK ds = some ks → ds = ks.map keyD
  | [], ks, h => by cases h; rfl
  | d :: ds, ks, h => by
    rw [scalsK] at h
    cases h1 : scalK d with
    | none => rw [h1] at h; cases h
    | some k =>
      cases h2 : scalsK ds with
      | none => rw [h1, h2] at h; cases h
      | some ks' =>
        rw [h1, h2] at h
        cases h
        rw [scalK_some h1, scalsK_some h2]; rfl
theorem keyOf_some {d : D} {k : KK} (h : keyOf d = some k) : d = kkD k := by
  cases d with
  | int i => cases h; rfl
  | str x => cases h; rfl
  | tuple ds =>
    obtain ⟨ks, h1, rfl⟩ := Option.map_eq_some_iff.mp h
    rw [scalsK_some h1]; rfl
  | _ => cases h
/-- what stands at the key -/
def dGet : List (D × D) → KK → Option D
  | [], _ => none
  | (a, v) :: r, k => if keyOf a = some k then some v else dGet r k
/-- a dict that may be asked for the key -/
def askable (kvs : List (D × D)) (k : KK) : Bool := match kvs with
  | [] => true
  | (a, _) :: _ => match keyOf a with
    | some k' => sameKd k' k
    | none => false
def dPut (kvs : List (D × D)) (k : KK) (v : D) : List (D × D) :=
  if (dGet kvs k).isSome then kvs.map (fun p => if keyOf p.1 = some k then (p.1, v) else p) else kvs ++ [(kkD k, v)]
section
variable {K : PySem.W.Frag} {G H : Hp}
theorem rp_scal {v : V} {k : Key} (h : Rp K G v (keyD k)) : v = kV k := by
  cases k with
  | inl i => exact rp_int h
  | inr x => exact rp_str h
theorem rp_scals : ∀ {vs : List V} {ks : List Key}, RpAll K G vs (ks.map keyD) → vs = ks.map kV
  | _, [], .nil => rfl
  | _, k :: ks, .cons h t => by rw [rp_scal h, rp_scals t]; rfl
theorem rp_keys {v : V} {ks : List Key} (h : Rp K G v (keysD ks)) : ∃ b, v = .ref b ∧ G b = some (.tup (ks.map kV)) := by
  obtain ⟨a, xs, rfl, e, t⟩ := rp_tup' h (tag_keys ks)
  rw [rp_scals t] at e
  exact ⟨a, rfl, e⟩
theorem rp_kV (k : Key) : Rp K G (kV k) (keyD k) := by cases k with
  | inl i => exact .int i
  | inr x => exact .str x
theorem rp_kVs : ∀ ks : List Key, RpAll K G (ks.map kV) (ks.map keyD)
  | [] => .nil
  | k :: ks => .cons (rp_kV k) (rp_kVs ks)
/-- the tables' lookups -/
theorem get_K : ∀ {ks : List (Key × V)} {kvs : List (D × D)} (k : Key), kvs.map (·.1) = ks.map (fun p => keyD p.1) → RpAll K G (ks.map (·.2)) (kvs.map (·.2)) →
    (dGet kvs (.s k) = none ∧ valV ks k = none) ∨ ∃ d v, dGet kvs (.s k) = some d ∧ valV ks k = some v ∧ Rp K G v d
  | [], [], k, _, _ => .inl ⟨rfl, rfl⟩
  | p :: ks, q :: kvs, k, e, r => by
    rw [List.map_cons, List.map_cons] at e
    obtain ⟨e1, e2⟩ := List.cons.inj e
    rw [List.map_cons, List.map_cons] at r
    cases r with
    | cons r1 r2 =>
      have hk : keyOf q.1 = some (.s p.1) := by rw [e1]; exact keyOf_kkD (.s p.1)
      by_cases h : p.1 = k
      · refine .inr ⟨q.2, p.2, ?_, valV_pos h, r1⟩
        show (if keyOf q.1 = some (.s k) then some q.2 else _) = _
        rw [if_pos (by rw [hk, h])]
      · have hn : ¬ keyOf q.1 = some (.s k) := fun z => by rw [hk] at z; cases z; exact h rfl
        have e3 : dGet (q :: kvs) (.s k) = dGet kvs (.s k) := if_neg hn
        rw [e3, valV_neg h]
        exact get_K k e2 r2
  | [], _ :: _, _, e, _ => by simp at e
  | _ :: _, [], _, e, _ => by simp at e
theorem get_T : ∀ {ks : List (List Key × V)} {kvs : List (D × D)} (k : List Key), kvs.map (·.1) = ks.map (fun p => keysD p.1) → RpAll K G (ks.map (·.2)) (kvs.map (·.2)) →
    (dGet kvs (.t k) = none ∧ valV ks k = none) ∨ ∃ d v, dGet kvs (.t k) = some d ∧ valV ks k = some v ∧ Rp K G v d
  | [], [], k, _, _ => .inl ⟨rfl, rfl⟩
  | p :: ks, q :: kvs, k, e, r => by
    rw [List.map_cons, List.map_cons] at e
    obtain ⟨e1, e2⟩ := List.cons.inj e
    rw [List.map_cons, List.map_cons] at r
    cases r with
    | cons r1 r2 =>
      have hk : keyOf q.1 = some (.t p.1) := by rw [e1]; exact keyOf_kkD (.t p.1)
      by_cases h : p.1 = k
      · refine .inr ⟨q.2, p.2, ?_, valV_pos h, r1⟩
        show (if keyOf q.1 = some (.t k) then some q.2 else _) = _
        rw [if_pos (by rw [hk, h])]
      · have hn : ¬ keyOf q.1 = some (.t k) := fun z => by rw [hk] at z; cases z; exact h rfl
        have e3 : dGet (q :: kvs) (.t k) = dGet kvs (.t k) := if_neg hn
        rw [e3, valV_neg h]
        exact get_T k e2 r2
  | [], _ :: _, _, e, _ => by simp at e
  | _ :: _, [], _, e, _ => by simp at e
theorem put_K {ks : List (Key × V)} {kvs : List (D × D)} {k : Key} {v : V} {d : D} (e : kvs.map (·.1) = ks.map (fun p => keyD p.1)) (r : RpAll K G (ks.map (·.2)) (kvs.map (·.2))) (rv : Rp K G v d) :
    (dPut kvs (.s k) d).map (·.1) = (putK ks k v).map (fun p => keyD p.1) ∧ RpAll K G ((putK ks k v).map (·.2)) ((dPut kvs (.s k) d).map (·.2)) := by
  have iff : (dGet kvs (.s k)).isSome = (ks.any fun kv => decide (kv.1 = k)) := by
    rw [valV_any]
    rcases get_K k e r with ⟨h1, h2⟩ | ⟨_, _, h1, h2, _⟩ <;> rw [h1, h2] <;> rfl
  unfold dPut putK
  rw [iff]
  by_cases h : (ks.any fun kv => decide (kv.1 = k)) = true
  · rw [if_pos h, if_pos h]
    clear iff h
    induction ks generalizing kvs with
    | nil =>
      cases kvs with
      | nil => exact ⟨rfl, .nil⟩
      | cons _ _ => simp at e
    | cons p ks ih =>
      cases kvs with
      | nil => simp at e
      | cons q kvs =>
        rw [List.map_cons, List.map_cons] at e
        obtain ⟨e1, e2⟩ := List.cons.inj e
        rw [List.map_cons, List.map_cons] at r
        cases r with
        | cons r1 r2 =>
          obtain ⟨i1, i2⟩ := ih e2 r2
          have hk : keyOf q.1 = some (.s p.1) := by rw [e1]; exact keyOf_kkD (.s p.1)
          by_cases h : p.1 = k
          · have hq : keyOf q.1 = some (.s k) := by rw [hk, h]
            simp only [List.map_cons, if_pos h, if_pos hq]
            exact ⟨by rw [e1, i1], .cons rv i2⟩
          · have hn : ¬ keyOf q.1 = some (.s k) := fun z => by rw [hk] at z; cases z; exact h rfl
            simp only [List.map_cons, if_neg h, if_neg hn]
            exact ⟨by rw [e1, i1], .cons r1 i2⟩
  · rw [if_neg h, if_neg h, List.map_append, List.map_append, List.map_append, List.map_append, e]
    exact ⟨rfl, r.append (.one rv)⟩
theorem put_T {ks : List (List Key × V)} {kvs : List (D × D)} {k : List Key} {v : V} {d : D} (e : kvs.map (·.1) = ks.map (fun p => keysD p.1)) (r : RpAll K G (ks.map (·.2)) (kvs.map (·.2))) (rv : Rp K G v d) :
    (dPut kvs (.t k) d).map (·.1) = (putK ks k v).map (fun p => keysD p.1) ∧ RpAll K G ((putK ks k v).map (·.2)) ((dPut kvs (.t k) d).map (·.2)) := by
  have iff : (dGet kvs (.t k)).isSome = (ks.any fun kv => decide (kv.1 = k)) := by
    rw [valV_any]
    rcases get_T k e r with ⟨h1, h2⟩ | ⟨_, _, h1, h2, _⟩ <;> rw [h1, h2] <;> rfl
  unfold dPut putK
  rw [iff]
  by_cases h : (ks.any fun kv => decide (kv.1 = k)) = true
  · rw [if_pos h, if_pos h]
    clear iff h
    induction ks generalizing kvs with
    | nil =>
      cases kvs with
      | nil => exact ⟨rfl, .nil⟩
      | cons _ _ => simp at e
    | cons p ks ih =>
      cases kvs with
      | nil => simp at e
      | cons q kvs =>
        rw [List.map_cons, List.map_cons] at e
        obtain ⟨e1, e2⟩ := List.cons.inj e
        rw [List.map_cons, List.map_cons] at r
        cases r with
        | cons r1 r2 =>
          obtain ⟨i1, i2⟩ := ih e2 r2
          have hk : keyOf q.1 = some (.t p.1) := by rw [e1]; exact keyOf_kkD (.t p.1)
          by_cases h : p.1 = k
          · have hq : keyOf q.1 = some (.t k) := by rw [hk, h]
            simp only [List.map_cons, if_pos h, if_pos hq]
            exact ⟨by rw [e1, i1], .cons rv i2⟩
          · have hn : ¬ keyOf q.1 = some (.t k) := fun z => by rw [hk] at z; cases z; exact h rfl
            simp only [List.map_cons, if_neg h, if_neg hn]
            exact ⟨by rw [e1, i1], .cons r1 i2⟩
  · rw [if_neg h, if_neg h, List.map_append, List.map_append, List.map_append, List.map_append, e]
    exact ⟨rfl, r.append (.one rv)⟩
/-- the two forms of a dict that stands -/
theorem rp_dict {v : V} {kvs : List (D × D)} (h : Rp K G v (.dict kvs)) : ∃ a, v = .ref a ∧ ((∃ ks : List (Key × V), Rd G a (.dK ks) ∧ kvs.map (·.1) = ks.map (fun p => keyD p.1) ∧ RpAll K G (ks.map (·.2)) (kvs.map (·.2))) ∨
    ∃ ks : List (List Key × V), Rd G a (.dT ks) ∧ kvs.map (·.1) = ks.map (fun p => keysD p.1) ∧ RpAll K G (ks.map (·.2)) (kvs.map (·.2))) := by
  cases h with
  | dK r e t => exact ⟨_, rfl, .inl ⟨_, r, e, t⟩⟩
  | dT r e t => exact ⟨_, rfl, .inr ⟨_, r, e, t⟩⟩
theorem rd_mono (e : Same G H) {a : Addr} {u : HO} (h : Rd G a u) : Rd H a u := by
  rcases h with h | ⟨o, h⟩
  · exact .inl (e _ _ h)
  · exact .inr ⟨o, e _ _ h⟩
/-- what the dict at a holds at y; an empty one holds nothing, whatever the key -/
def DGet' (H : Hp) (a : Addr) (y : V) (r : Option V) : Prop := DGet H a y r ∨ (Rd H a (.dK []) ∧ r = none ∧ ∃ (b : Addr) (k : List Key), y = .ref b ∧ H b = some (.tup (k.map kV))) ∨ (Rd H a (.dT []) ∧ r = none ∧ ∃ k : Key, y = kV k)
theorem dget_of (sub : Same G H) {x y : V} {kvs : List (D × D)} {dk : D} {k : KK} (px : Rp K G x (.dict kvs)) (py : Rp K G y dk) (hk : keyOf dk = some k) (ha : askable kvs k = true) :
    ∃ a, x = .ref a ∧ ((dGet kvs k = none ∧ DGet' H a y none) ∨ ∃ d v, dGet kvs k = some d ∧ DGet H a y (some v) ∧ Rp K G v d) := by
  obtain ⟨a, rfl, h⟩ := rp_dict px
  refine ⟨a, rfl, ?_⟩
  rw [keyOf_some hk] at py
  cases k with
  | s k =>
    have ey := rp_scal py
    rcases h with ⟨ks, r, e, t⟩ | ⟨ks, r, e, t⟩
    · rcases get_K k e t with ⟨h1, h2⟩ | ⟨d, v, h1, h2, rv⟩
      · exact .inl ⟨h1, .inl (.inl ⟨ks, k, rd_mono sub r, ey, h2.symm⟩)⟩
      · exact .inr ⟨d, v, h1, .inl ⟨ks, k, rd_mono sub r, ey, h2.symm⟩, rv⟩
    · cases kvs with
      | nil =>
        cases ks with
        | cons _ _ => simp at e
        | nil => exact .inl ⟨rfl, .inr (.inr ⟨rd_mono sub r, rfl, k, ey⟩)⟩
      | cons q kvs =>
        cases ks with
        | nil => simp at e
        | cons p ks =>
          rw [List.map_cons, List.map_cons] at e
          have e1 := (List.cons.inj e).1
          have hq : keyOf q.1 = some (.t p.1) := by rw [e1]; exact keyOf_kkD (.t p.1)
          obtain ⟨q1, q2⟩ := q
          simp only [askable] at ha
          rw [hq] at ha
          cases ha
  | t k =>
    obtain ⟨b, ey, eb⟩ := rp_keys py
    rcases h with ⟨ks, r, e, t⟩ | ⟨ks, r, e, t⟩
    · cases kvs with
      | nil =>
        cases ks with
        | cons _ _ => simp at e
        | nil => exact .inl ⟨rfl, .inr (.inl ⟨rd_mono sub r, rfl, b, k, ey, sub _ _ eb⟩)⟩
      | cons q kvs =>
        cases ks with
        | nil => simp at e
        | cons p ks =>
          rw [List.map_cons, List.map_cons] at e
          have e1 := (List.cons.inj e).1
          have hq : keyOf q.1 = some (.s p.1) := by rw [e1]; exact keyOf_kkD (.s p.1)
          obtain ⟨q1, q2⟩ := q
          simp only [askable] at ha
          rw [hq] at ha
          cases ha
    · rcases get_T k e t with ⟨h1, h2⟩ | ⟨d, v, h1, h2, rv⟩
      · exact .inl ⟨h1, .inl (.inr ⟨ks, k, b, rd_mono sub r, ey, sub _ _ eb, h2.symm⟩)⟩
      · exact .inr ⟨d, v, h1, .inr ⟨ks, k, b, rd_mono sub r, ey, sub _ _ eb, h2.symm⟩, rv⟩
end
section
variable {X : Cx} {pins : List (Addr × Obj)} {σ : L2.St} {H : Hp} {s : Shared} {a : Addr} {y v : V} {u r : Value} {o : Option V} {A : Around} {E : Value → Shared → Prop}
theorem vac_T {P : Program} {w : World} {h : Heap} {vs : List (Key × Value)} (r : KV ([] : List (Key × V)) vs) (d : h.DictOf (mixKind P w) a vs) : h.DictOfH (tupleKind (mixKind P w)) a [] := by
  cases r
  obtain ⟨ob, es, ep, h1, h2, h3, _, h5, _⟩ := d
  have : es.toList = [] := by
    generalize es.toList = l at h5
    cases h5
    rfl
  exact ⟨ob, es, ep, h1, h2, h3, this, fun x hx => (nomatch hx), List.nodup_nil⟩
theorem vac_K {P : Program} {w : World} {h : Heap} {H : Hp} {xs : List (List Key × Addr × Value)} (r : KT H ([] : List (List Key × V)) xs) (d : h.DictOfH (tupleKind (mixKind P w)) a xs) : h.DictOf (mixKind P w) a [] := by
  cases r
  obtain ⟨ob, es, ep, h1, h2, h3, h4, _, _⟩ := d
  have e4 : es.toList = [] := h4
  refine ⟨ob, es, ep, h1, h2, h3, ?_, by rw [e4]; exact .nil, List.nodup_nil⟩
  have es0 : es = #[] := by
    have := congrArg List.toArray e4
    simpa using this
  subst es0
  intro e he
  simp at he
/-- an empty dict of one's own is made one of the other kind -/
theorem swap_T (I : Inv X pins σ H s) (e : H a = some (.dK [])) : Inv X pins σ (upd H a (.dT [])) s := by
  obtain ⟨z, hd, vs, rel, dd⟩ := dk_rd I.hok (.inl e)
  have dd' := vac_T rel dd
  obtain ⟨ob, es, ep, h1, _⟩ := id dd'
  refine I.write (x := a) (e := a) (t' := s.toks) (h' := s.heap) (by rw [e]; trivial) (.inl rfl) (fun b v _ q => q) ⟨ob, h1⟩ ?_
  obtain ⟨ob', es', ep', k1, k2, k3, k4, _, k6⟩ := dd'
  exact ⟨Nat.zero_le _, hd, [], .nil, ob', es', ep', k1, k2, k3, k4, k6⟩
theorem swap_K (I : Inv X pins σ H s) (e : H a = some (.dT [])) : Inv X pins σ (upd H a (.dK [])) s := by
  obtain ⟨z, hd, xs, rel, dd⟩ := dt_rd I.hok (.inl e)
  have dd' := vac_K rel dd
  obtain ⟨ob, es, ep, h1, _⟩ := id dd'
  exact I.write (x := a) (e := a) (t' := s.toks) (h' := s.heap) (by rw [e]; trivial) (.inl rfl) (fun b v _ q => q) ⟨ob, h1⟩ ⟨Nat.zero_le _, hd, [], .nil, dd'⟩
/-- a[y] = v on a dict of one's own, whichever kind an empty one is held for -/
def DPut' (H : Hp) (a : Addr) (y v : V) (H' : Hp) : Prop := DPut H a y v H' ∨
  (H a = some (.dK []) ∧ ∃ (b : Addr) (k : List Key), y = .ref b ∧ H b = some (.tup (k.map kV)) ∧ H' = upd H a (.dT [(k, v)])) ∨ (H a = some (.dT []) ∧ ∃ k : Key, y = kV k ∧ H' = upd H a (.dK [(k, v)]))
theorem upd_upd {H : Hp} {a : Addr} {u v : HO} : upd (upd H a u) a v = upd H a v := by
  funext b
  by_cases h : b = a
  · subst h; rw [upd_same, upd_same]
  · rw [upd_ne h, upd_ne h, upd_ne h]
theorem set_any {H' : Hp} {Q : Unit → Shared → Prop} (hu : A.units + 1 < cLine) (I : Inv X pins σ H s) (g : DPut' H a y v H') (ry : RelV y u) (rv : RelV v r) (h : ∀ s', Inv X pins σ H' s' → Q () s') :
    wpAny (model X.prog X.w) A (setItem (.ref a) u r) Q E s := by
  rcases g with g | ⟨e, b, k, rfl, eb, rfl⟩ | ⟨e, k, rfl, rfl⟩
  · exact d_setItem hu I g ry rv h
  · have ne : b ≠ a := fun z => by rw [z, e] at eb; cases eb
    have I1 := swap_T I e
    refine d_setItem hu I1 (DPut.t (k := k) upd_same (by rw [upd_ne ne]; exact eb) (by decide)) ry rv fun s' I' => h s' ?_
    rw [upd_upd] at I'
    exact I'
  · have I1 := swap_K I e
    refine d_setItem hu I1 (DPut.k (k := k) upd_same (by decide)) ry rv fun s' I' => h s' ?_
    rw [upd_upd] at I'
    exact I'
end
end Fx
namespace Fx
open PySem PySem.Spec PyProof.Rows L2
section
variable {X : Cx} {a b : Expr} {ma mb : M Sl} {pos : Pos}
def ixA (d e : D) : Option Sl := match d with
  | .dict kvs => match keyOf e with
    | some k => if askable kvs k then (dGet kvs k).map .fz else none
    | none => none
  | _ => ixD d e
theorem pe_or {e : Expr} {t t' : TE} (h : PE X e t) (h' : PE X e t') : PE X e (fun σ H Q => t σ H Q ∨ t' σ H Q) := ⟨fun pins s σ H Q I q => q.elim (h.run pins s σ H Q I) (h'.run pins s σ H Q I)⟩
theorem bin_run {f : D → D → Option Sl} {ρ ρ1 ρ2 : Rho} {x y r : Sl} (e1 : ma ρ = some (x, ρ1)) (e2 : mb ρ1 = some (y, ρ2)) (e3 : f x.d y.d = some r) : bin f ma mb ρ = some (r, ρ2) := by
  simp [bin, bindM, liftM, e1, e2, e3]
theorem fe_ixA (hu : X.A.units + 1 < cLine) (ha : FE X a ma) (hb : FE X b mb) (hs : PlainIx b := by exact fun _ _ => rfl) : FE X (.Subscript a b pos) (bin ixA ma mb) := imE (pe_or (fe_ix ha hb hs) (pe_dget hu ha hb hs)) fun σ H Q h => by
  obtain ⟨G, ρ, r, ρ', E, hm, q⟩ := h
  obtain ⟨x, ρ1, e1, h2⟩ := bindM_some hm
  obtain ⟨y, ρ2, e2, h3⟩ := bindM_some h2
  obtain ⟨e3, rfl⟩ := liftM_some h3
  cases ed : x.d with
  | dict kvs =>
    rw [ed] at e3
    simp only [ixA] at e3
    split at e3
    · rename_i k hk
      split at e3
      · rename_i hak
        obtain ⟨d, hd, rfl⟩ := Option.map_eq_some_iff.mp e3
        refine .inr ⟨G, ρ, x, ρ1, E, e1, fun v H1 G1 S1 r1 => ?_⟩
        obtain ⟨G1', S1', p1, _⟩ := r1.frz E S1
        refine ⟨G1', ρ1, y, ρ', S1'.env, e2, fun u H2 G2 S2 r2 => ?_⟩
        obtain ⟨G2', S2', p2, _⟩ := r2.frz S1'.env S2
        have T := S1'.trans E S2'
        have p1' := p1.mono S2'.same
        rw [ed] at p1'
        obtain ⟨p, rfl, g⟩ := dget_of S2'.env.sub p1' p2 hk hak
        rcases g with ⟨g1, _⟩ | ⟨d', w, g1, g2, g3⟩
        · rw [g1] at hd; cases hd
        · rw [g1] at hd; cases hd
          exact ⟨p, w, rfl, g2, q w H2 G2' T g3⟩
      · cases e3
    · cases e3
  | _ =>
    rw [ed] at e3
    exact .inl ⟨G, ρ, r, ρ', E, bin_run e1 e2 (by rw [ed]; exact e3), q⟩
/-- a name's item -/
def memA (d e : D) : Option D := match d with
  | .dict kvs => match keyOf e with
    | some k => if askable kvs k then dGet kvs k else none
    | none => none
  | _ => memD d e
theorem memA_eq {d e : D} (h : ∀ kvs, d ≠ .dict kvs) : memA d e = memD d e := by
  cases d <;> first | rfl | exact absurd rfl (h _)
def ixVA (i : Nat) (mb : M Sl) : M Sl := bindM (getF i) fun _ => bindM mb fun y => bindM (getF i) fun d => liftM ((memA d y.d).map .fz)
theorem slot_dict {K : PySem.W.Frag} {G H : Hp} {σ : L2.St} {ρ : Rho} {i : Nat} {s : Sl} {v : V} {kvs : List (D × D)} (n : ∀ e, s ≠ .o2 e) (E : EnvR K G H σ ρ) (h : ρ[i]? = some (some s)) (hv : σ[i]? = some (some v)) (hd : s.d = .dict kvs) {y : V} {dk : D} {k : KK} (py : Rp K G y dk) (hk : keyOf dk = some k) (ha : askable kvs k = true) :
    ∃ a, v = .ref a ∧ ((dGet kvs k = none ∧ DGet' H a y none) ∨ ∃ d w, dGet kvs k = some d ∧ DGet H a y (some w) ∧ Rp K G w d) := by
  cases s with
  | o2 d => exact (n d rfl).elim
  | fz d =>
    obtain ⟨v', e, r⟩ := E.fz i d h
    rw [hv] at e
    cases e
    rw [show d = .dict kvs from hd] at r
    exact dget_of E.sub r py hk ha
  | ow d =>
    obtain ⟨p, e, g, o⟩ := E.ow i d h
    rw [hv] at e
    cases e
    rw [show d = .dict kvs from hd] at o
    refine ⟨p, rfl, ?_⟩
    have sm : ∀ u, H p = some u → Same G (upd G p u) := fun u _ b w e => by rw [upd_ne (ne_of_none e g)]; exact e
    have sb : ∀ u, H p = some u → Same (upd G p u) H := fun u hu b w e => by
      by_cases hb : b = p
      · subst hb; rw [upd_same] at e; cases e; exact hu
      · rw [upd_ne hb] at e; exact E.sub _ _ e
    obtain ⟨u, hu⟩ := o.there
    have rr : Rp K (upd G p u) (.ref p) (.dict kvs) := o.frz (sm u hu) fun w hw => by rw [hu] at hw; cases hw; exact upd_same
    obtain ⟨a, ea, g⟩ := dget_of (sb u hu) rr (py.mono (sm u hu)) hk ha
    cases ea
    rcases g with g | ⟨d', w, g1, g2, _⟩
    · exact .inl g
    · refine .inr ⟨d', w, g1, g2, ?_⟩
      -- the member itself is frozen already
      rcases o with ⟨ks, q, e1, t⟩ | ⟨ks, q, e1, t⟩
      · rcases g2 with ⟨ks', k', q', ey, l⟩ | ⟨ks', k', b', q', _, _, _⟩
        · rcases q' with q' | ⟨_, q'⟩
          · rw [q] at q'
            cases q'
            have hk' : k = .s k' := by
              subst ey
              have := py
              cases k' with
              | inl n =>
                have e2 : dk = .int n := by cases py; rfl
                rw [e2] at hk; cases hk; rfl
              | inr n =>
                have e2 : dk = .str n := by cases py; rfl
                rw [e2] at hk; cases hk; rfl
            subst hk'
            rcases get_K k' e1 t with ⟨z1, _⟩ | ⟨d2, w2, z1, z2, z3⟩
            · rw [z1] at g1; cases g1
            · rw [z1] at g1; cases g1
              rw [z2] at l; cases l
              exact z3
          · rw [q] at q'; cases q'
        · rcases q' with q' | ⟨_, q'⟩ <;> (rw [q] at q'; cases q')
      · rcases g2 with ⟨ks', k', q', _, _⟩ | ⟨ks', k', b', q', ey, eb, l⟩
        · rcases q' with q' | ⟨_, q'⟩ <;> (rw [q] at q'; cases q')
        · rcases q' with q' | ⟨_, q'⟩
          · rw [q] at q'
            cases q'
            cases k with
            | s k0 =>
              rw [keyOf_some hk] at py
              have := rp_scal py
              rw [ey] at this
              cases k0 <;> cases this
            | t k0 =>
              rw [keyOf_some hk] at py
              obtain ⟨b2, ey2, eb2⟩ := rp_keys py
              rw [ey] at ey2
              cases ey2
              have := E.sub _ _ eb2
              rw [eb] at this
              have e3 := HO.tup.inj (Option.some.inj this)
              have hk' := kVs_inj e3
              subst hk'
              rcases get_T k' e1 t with ⟨z1, _⟩ | ⟨d2, w2, z1, z2, z3⟩
              · rw [z1] at g1; cases g1
              · rw [z1] at g1; cases g1
                rw [z2] at l; cases l
                exact z3
          · rw [q] at q'; cases q'
theorem fe_ixVA (i : Nat) {x : Str} {p : Pos} (hu : X.A.units + 1 < cLine) (hb : FE X b mb) (hN : X.N[i]? = some x := by rfl) (hv : Vis X.env.scope x := by first | exact Or.inl rfl | exact Or.inr (Or.inl rfl) | exact Or.inr (Or.inr rfl)) (hd : (x == ("__debug__" : Str)) = false := by decide)
    (hcd : (x == ("__classdict__" : Str)) = false := by decide) (hs : PlainIx b := by exact fun _ _ => rfl) : FE X (.Subscript (.Name x p) b pos) (ixVA i mb) := imE (pe_or (fe_ixV i hb hN hv hd hcd hs) (pe_dget hu (pe_var (i := i) hN hv hd hcd) hb hs)) fun σ H Q h => by
  obtain ⟨G, ρ, r, ρ', E, hm, q⟩ := h
  obtain ⟨d0, ρ0, e0, h1⟩ := bindM_some hm
  obtain ⟨rfl, s0, es0, rfl, _⟩ := getF_some e0
  obtain ⟨y, ρ1, e1, h2⟩ := bindM_some h1
  obtain ⟨d, ρ2, e2, h3⟩ := bindM_some h2
  obtain ⟨rfl, s, es, rfl, no2⟩ := getF_some e2
  obtain ⟨e3, rfl⟩ := liftM_some h3
  obtain ⟨z, hz, rfl⟩ := Option.map_eq_some_iff.mp e3
  cases ed : s.d with
  | dict kvs =>
    rw [ed] at hz
    simp only [memA] at hz
    split at hz
    · rename_i k hk
      split at hz
      · rename_i hak
        obtain ⟨v, ev⟩ := slot_v E es0
        refine .inr ⟨v, ev, G, ρ0, y, ρ', E, e1, fun u H1 G1 S1 r1 => ?_⟩
        obtain ⟨G1', S1', p1, _⟩ := r1.frz E S1
        obtain ⟨p, rfl, g⟩ := slot_dict no2 S1'.env es ev ed p1 hk hak
        rcases g with ⟨g1, _⟩ | ⟨d', w, g1, g2, g3⟩
        · rw [g1] at hz; cases hz
        · rw [g1] at hz; cases hz
          exact ⟨p, w, rfl, g2, q w H1 G1' S1' g3⟩
      · cases hz
    · cases hz
  | _ =>
    rw [memA_eq (by rw [ed]; intro _ h; cases h)] at hz
    refine .inl ⟨G, ρ0, .fz z, ρ', E, ?_, q⟩
    unfold ixVM
    simp only [bindM, e0, e1, e2, liftM, Option.bind_some]
    rw [hz]
    rfl
end
end Fx
namespace Fx
open PySem PySem.Spec PyProof.Rows L2
section
variable {X : Cx} {a b : Expr} {ma mb : M Sl} {pos : Pos}
def seqA (d : D) : Option (List D) := match d with
  | .dict kvs => some (kvs.map (·.1))
  | _ => seqD d
def seqAM (m : M Sl) : M (List D) := bindM m fun x => liftM (seqA x.d)
def storeD (d k v : D) : Option D := match d with
  | .list ds => (match k with
    | .int j => (ixN ds.length j).map fun n => .list (ds.set n v)
    | _ => none)
  | .dict kvs => (match keyOf k with
    | some kk => if askable kvs kk = true ∧ kvs.length < sizeLine then some (.dict (dPut kvs kk v)) else none
    | none => none)
  | _ => none
def sameCon : D → D → Bool
  | .list _, .list _ => true
  | .dict _, .dict _ => true
  | _, _ => false
def setAS (i : Nat) (mk me : M Sl) : M Fl := bindM me fun r => bindM (ownM i) fun d0 => bindM mk fun k => bindM (ownM i) fun d => bindM (liftM (if sameCon d0 d = true then storeD d k.d r.d else none)) fun d' => bindM (putO i d') fun _ => pureM .nx
def sPutA (td ty tv : TE) : TS := fun D σ H => tv σ H fun v H1 => td σ H1 fun x H2 => ty σ H2 fun y H3 => ∃ p H4, x = .ref p ∧ DPut' H3 p y v H4 ∧ D.nx σ H4
theorem ps_putA {o i value : Expr} {pos' : Pos} {td ty tv : TE} (hu : X.A.units + 1 < cLine) (ho : PE X o td) (hi : PE X i ty) (hv : PE X value tv) (hs : swapsWith value (some (.Subscript o i pos')) pos.line X.env = pure false) :
    PS X (.Assign [.Subscript o i pos'] value pos) (sPutA td ty tv) := by
  constructor
  intro pins s σ H Dn I w
  apply wpAny_Assign_Subscript
  · refine thn (hv.run pins s σ H _ I w) ?_
    rintro r s1 ⟨v, H1, I1, rv, w1⟩
    refine thn (ho.run pins s1 σ H1 _ I1 w1) ?_
    rintro u s2 ⟨x, H2, I2, rx, w2⟩
    refine thn (hi.run pins s2 σ H2 _ I2 w2) ?_
    rintro iv s3 ⟨y, H3, I3, ry, p, H4, ex, g, w3⟩
    subst ex
    cases (show u = Value.ref p from rx)
    exact set_any hu I3 g ry rv fun s4 I4 => ⟨σ, H4, I4, w3⟩
  · exact hs
theorem ps_or {e : Stmt} {t t' : TS} (h : PS X e t) (h' : PS X e t') : PS X e (fun D σ H => t D σ H ∨ t' D σ H) := ⟨fun pins s σ H D I q => q.elim (h.run pins s σ H D I) (h'.run pins s σ H D I)⟩
/-- a dict of one's own with one thing put in -/
theorem own_put {K : PySem.W.Frag} {G H : Hp} {p : Addr} {kvs : List (D × D)} {k : KK} {y v : V} {dk d : D} (sub : Same G H) (ow : Own K G H p (.dict kvs)) (py : Rp K G y dk) (hk : keyOf dk = some k) (ha : askable kvs k = true) (hl : kvs.length < sizeLine) (rv : Rp K G v d) :
    ∃ o, DPut' H p y v (upd H p o) ∧ Own K G (upd H p o) p (.dict (dPut kvs k d)) := by
  rw [keyOf_some hk] at py
  have len : ∀ {κ : Type} {f : κ → D} {ks : List (κ × V)}, kvs.map (·.1) = ks.map (fun q => f q.1) → ks.length < sizeLine := fun e => by
    have := congrArg List.length e
    rw [List.length_map, List.length_map] at this
    omega
  cases k with
  | s k =>
    have ey := rp_scal py
    rcases ow with ⟨ks, e, e1, t⟩ | ⟨ks, e, e1, t⟩
    · obtain ⟨z1, z2⟩ := put_K (k := k) e1 t rv
      exact ⟨_, .inl (.inl ⟨ks, k, e, ey, len e1, rfl⟩), .inl ⟨_, upd_same, z1, z2⟩⟩
    · cases ks with
      | nil =>
        cases kvs with
        | nil => exact ⟨_, .inr (.inr ⟨e, k, ey, rfl⟩), .inl ⟨_, upd_same, rfl, .cons rv .nil⟩⟩
        | cons _ _ => simp at e1
      | cons q ks =>
        cases kvs with
        | nil => simp at e1
        | cons q' kvs =>
          rw [List.map_cons, List.map_cons] at e1
          have hq : keyOf q'.1 = some (.t q.1) := by rw [(List.cons.inj e1).1]; exact keyOf_kkD (.t q.1)
          obtain ⟨q1, q2⟩ := q'
          simp only [askable] at ha
          rw [hq] at ha
          cases ha
  | t k =>
    obtain ⟨b, ey, eb⟩ := rp_keys py
    rcases ow with ⟨ks, e, e1, t⟩ | ⟨ks, e, e1, t⟩
    · cases ks with
      | nil =>
        cases kvs with
        | nil => exact ⟨_, .inr (.inl ⟨e, b, k, ey, sub _ _ eb, rfl⟩), .inr ⟨_, upd_same, rfl, .cons rv .nil⟩⟩
        | cons _ _ => simp at e1
      | cons q ks =>
        cases kvs with
        | nil => simp at e1
        | cons q' kvs =>
          rw [List.map_cons, List.map_cons] at e1
          have hq : keyOf q'.1 = some (.s q.1) := by rw [(List.cons.inj e1).1]; exact keyOf_kkD (.s q.1)
          obtain ⟨q1, q2⟩ := q'
          simp only [askable] at ha
          rw [hq] at ha
          cases ha
    · obtain ⟨z1, z2⟩ := put_T (k := k) e1 t rv
      exact ⟨_, .inl (.inr ⟨ks, k, b, e, ey, sub _ _ eb, len e1, rfl⟩), .inr ⟨_, upd_same, z1, z2⟩⟩
theorem fs_setA (i : Nat) {x : Str} {px tpos : Pos} (hu : X.A.units + 1 < cLine) (he : FE X b mb) (hk : FE X a ma) (hN : X.N[i]? = some x := by rfl) (hv : Vis X.env.scope x := by first | exact Or.inl rfl | exact Or.inr (Or.inl rfl) | exact Or.inr (Or.inr rfl)) (hd : (x == ("__debug__" : Str)) = false := by decide)
    (hcd : (x == ("__classdict__" : Str)) = false := by decide)
    (ha : ∀ v, assign (.Subscript (.Name x px) a tpos) X.env v = (do
      let ov ← holding [v] (eval (.Name x px) X.env)
      let iv ← holding [v, ov] (eval a X.env)
      standAt tpos
      holding [v, ov, iv] (setItem ov iv v)
      release [v, ov, iv] []) := by intro _; rfl)
    (hs : swapsWithSole [.Subscript (.Name x px) a tpos] b pos.line X.env = pure false := by rfl) (hw : swappedStores [.Subscript (.Name x px) a tpos] b X.env = pure none := by rfl)
    (h1 : (assignEach [.Subscript (.Name x px) a tpos] X.env).map (·.2) = [assign (.Subscript (.Name x px) a tpos) X.env] := by rfl) (hs2 : swapsWith b (some (.Subscript (.Name x px) a tpos)) pos.line X.env = pure false := by rfl) :
    FS X (.Assign [.Subscript (.Name x px) a tpos] b pos) [] (setAS i ma mb) := imS (ps_or (fs_setL i he hk hN hv hd hcd ha hs hw h1) (ps_putA hu (pe_var (i := i) hN hv hd hcd) hk he hs2)) fun D σ H h => by
  obtain ⟨G, ρ, fl, ρ', E, hm, q⟩ := h
  obtain ⟨r, ρ1, e1, h1⟩ := bindM_some hm
  obtain ⟨d0, ρ2, e2, h2⟩ := bindM_some h1
  obtain ⟨rfl, s0⟩ := ownM_some e2
  obtain ⟨k, ρ3, e3, h3⟩ := bindM_some h2
  obtain ⟨d1, ρ4, e4, h4⟩ := bindM_some h3
  obtain ⟨rfl, s1⟩ := ownM_some e4
  obtain ⟨d2, ρ5, e5, h5⟩ := bindM_some h4
  obtain ⟨e5b, rfl⟩ := liftM_some e5
  clear e5
  by_cases hcon : sameCon d0 d1 = true
  case neg => rw [if_neg hcon] at e5b; cases e5b
  rw [if_pos hcon] at e5b
  cases d1 with
  | dict kvs =>
    simp only [storeD] at e5b
    split at e5b
    · rename_i kk hkk
      obtain ⟨⟨hak, hl⟩, rfl⟩ := ite_some e5b
      obtain ⟨_, ρ6, e6, h6⟩ := bindM_some h5
      cases e6
      obtain ⟨rfl, rfl⟩ := pureM_some h6
      refine .inr ⟨G, ρ, r, ρ2, E, e1, fun u H1 G1 S1 r1 => ?_⟩
      obtain ⟨G1', S1', p1, _⟩ := r1.frz E S1
      obtain ⟨p, ep, _, _⟩ := S1'.env.ow i _ s0
      refine ⟨_, ep, G1', ρ2, k, ρ5, S1'.env, e3, fun v H2 G2 S2 r2 => ?_⟩
      obtain ⟨G2', S2', p2, _⟩ := r2.frz S1'.env S2
      obtain ⟨p', ep', g, ow⟩ := S2'.env.ow i _ s1
      rw [ep] at ep'
      cases ep'
      obtain ⟨o, hp, ow'⟩ := own_put S2'.env.sub ow p2 hkk hak hl (p1.mono S2'.same)
      refine ⟨p, _, rfl, hp, ?_⟩
      have C := S2'.env.chg (o := o) s1 ep ow'
      exact q _ _ G2' (((S1'.trans E S2').trans E C).h)
    · cases e5b
  | list ds =>
    refine .inl ⟨G, ρ, fl, ρ', E, ?_, q⟩
    have o2 : ownL i ρ5 = some (ds, ρ5) := by unfold ownL; rw [s1]
    cases d0 with
    | list ds0 =>
      have o1 : ownL i ρ2 = some (ds0, ρ2) := by unfold ownL; rw [s0]
      cases ek : k.d with
      | int j =>
        rw [ek] at e5b
        obtain ⟨n, hn, rfl⟩ := Option.map_eq_some_iff.mp e5b
        simp only [setLS, bindM, e1, o1, e3, o2, Option.bind_some, ek, hn]
        exact h5
      | _ => rw [ek] at e5b; cases e5b
    | _ => cases hcon
  | _ => cases e5b
end
end Fx
namespace Fx
open PySem PySem.Spec PyProof.Rows L2
section
variable {K : PySem.W.Frag} {σ σ1 σ2 : L2.St} {G H G1 H1 G2 H2 : Hp} {ρ ρ1 ρ2 : Rho} {ws us ts : List Nat}
/-- what came and is one's own outlives a further step -/
theorem ResV.apart {v : V} {r : Sl} (h : ResV K G1 H H1 v r) (E : EnvR K G H σ ρ) (S : Stp K σ G H ρ G1 H1 ρ1) (B : Stp K σ G1 H1 ρ1 G2 H2 ρ2) : ResV K G2 H H2 v r := by
  have key : ∀ (p : Addr) (s : Sl), (∀ a, s.In H1 p a → H a = none ∧ G1 a = none) → Occ K G1 H1 p s → (∀ a, s.In H1 p a → G2 a = none ∧ ∀ o, H1 a = some o → H2 a = some o) := fun p s n ow a m => by
    have nr : ¬ root H1 σ ρ1 a := fun r => by
      obtain ⟨u, hu⟩ := E.root_there (S.roots _ r)
      rw [(n a m).1] at hu; cases hu
    obtain ⟨o, e, nt⟩ := ow.there m
    have g2 : G2 a = none := by
      cases z : G2 a with
      | none => rfl
      | some o' =>
        rcases B.new a o' z with ⟨u, w⟩ | w | w
        · rw [(n a m).2] at w; cases w
        · exact (noFr0 e nt (fun o h => B.keep a o h nr) B.env.sub w).elim
        · exact (nr w).elim
    exact ⟨g2, fun o h => (B.keep a o h nr).at g2⟩
  cases r with
  | fz d => exact Rp.mono B.same h
  | ow d =>
    obtain ⟨p, rfl, n, g, ow⟩ := h
    have kk := key p (.ow d) (fun a m => by cases (show a = p from m); exact ⟨n, g⟩) ow
    exact ⟨p, rfl, n, (kk p rfl).1, ow.mono B.same (kk p rfl).2⟩
  | o2 d =>
    obtain ⟨p, rfl, n, ow⟩ := h
    have kk := key p (.o2 d) n ow
    obtain ⟨u, hu, _⟩ := Occ.there (s := .o2 d) ow (.inl rfl)
    have ie : ∀ a, (a = p ∨ inner H2 p a) ↔ (a = p ∨ inner H1 p a) := fun a => Sl.in_eq (s := .o2 d) (kk p (.inl rfl)).2 ⟨u, hu⟩
    exact ⟨p, rfl, fun a m => ⟨(n a ((ie a).mp m)).1, (kk a ((ie a).mp m)).1⟩, Occ.mono (s := .o2 d) B.same (fun a m => (kk a m).2) ow⟩
/-- a value stored that is neither among the slots' own nor frozen -/
theorem StpH.store (B : StpH K ws σ G H ρ σ1 G1 H1 ρ1) (i : Nat) {v : V} {r : Sl} (h : ResV K G1 H H1 v r) (nr : ∀ p a, v = .ref p → r.In H1 p a → ¬ root H1 σ1 ρ1 a) : StpH K (ws ++ [i]) σ G H ρ (σ1.set i (some v)) G1 H1 (ρ1.set i (some r)) := by
  by_cases hf : ∃ d, r = .fz d
  · obtain ⟨d, rfl⟩ := hf
    exact ⟨(B.env.put i (show Rp K G1 v d from h)).env, B.same, B.new, B.keep, fun a r => B.roots a ((B.env.put i (show Rp K G1 v d from h)).roots a r), B.there, by simpa using B.len, fun j hj => by
      rw [List.getElem?_set_ne (fun z => hj (by simp [z]))]
      exact B.off j fun z => hj (by simp [z])⟩
  · have nf : ∀ d, r ≠ .fz d := fun d e => hf ⟨d, e⟩
    obtain ⟨p, rfl, n, ow⟩ := h.own nf
    have nr : ∀ a, root H1 σ1 ρ1 a → r.In H1 p a → False := fun a z m => nr p a rfl m z
    have ne : ∀ (j : Nat) (e : Sl), j ≠ i → (ρ1.set i (some r))[j]? = some (some e) → ρ1[j]? = some (some e) := fun j e hj q => by rw [List.getElem?_set_ne (Ne.symm hj)] at q; exact q
    have at_i : ∀ (j : Nat) (e : Sl), j = i → (ρ1.set i (some r))[j]? = some (some e) → e = r ∧ i < ρ1.length := fun j e hj q => by
      subst hj
      have hi : j < ρ1.length := by
        have := (List.getElem?_eq_some_iff.mp q).1
        simpa using this
      rw [List.getElem?_set_self hi] at q
      cases q
      exact ⟨rfl, hi⟩
    have σne : ∀ j : Nat, j ≠ i → (σ1.set i (some (V.ref p)))[j]? = σ1[j]? := fun j hj => List.getElem?_set_ne (Ne.symm hj)
    have σi : i < ρ1.length → (σ1.set i (some (V.ref p)))[i]? = some (some (V.ref p)) := fun hi => List.getElem?_set_self (by rw [← B.env.len]; exact hi)
    refine ⟨⟨B.env.sub, by simpa using B.env.len, fun j e q => ?_, fun j e q nt => ?_, fun j k s t x y a hj hk a1 a2 m1 m2 => ?_⟩, B.same, B.new, B.keep, fun a ⟨j, t, x, q1, q2, m⟩ => ?_, B.there, by simpa using B.len, fun j hj => ?_⟩
    · by_cases hj : j = i
      · exact (nf _ (at_i j _ hj q).1.symm).elim
      · rw [σne j hj]
        exact B.env.fz j e (ne j _ hj q)
    · by_cases hj : j = i
      · obtain ⟨z, hi⟩ := at_i j _ hj q
        subst z
        subst hj
        exact ⟨p, σi hi, fun a m => (n a m).2, ow⟩
      · rw [σne j hj]
        exact B.env.os j e (ne j _ hj q) nt
    · by_cases h1 : j = i
      · by_cases h2 : k = i
        · rw [h1, h2]
        · exfalso
          obtain ⟨z, hi⟩ := at_i j _ h1 hj
          subst h1
          rw [σi hi] at a1
          cases a1
          subst z
          rw [σne k h2] at a2
          exact nr a ⟨k, t, y, a2, ne k _ h2 hk, m2⟩ m1
      · by_cases h2 : k = i
        · exfalso
          obtain ⟨z, hi⟩ := at_i k _ h2 hk
          subst h2
          rw [σi hi] at a2
          cases a2
          subst z
          rw [σne j h1] at a1
          exact nr a ⟨j, s, x, a1, ne j _ h1 hj, m1⟩ m2
        · rw [σne j h1] at a1
          rw [σne k h2] at a2
          exact B.env.apx j k s t x y a (ne j _ h1 hj) (ne k _ h2 hk) a1 a2 m1 m2
    · by_cases hj : j = i
      · obtain ⟨z, hi⟩ := at_i j _ hj q2
        subst hj
        rw [σi hi] at q1
        cases q1
        subst z
        exact .inr (n a m).1
      · rw [σne j hj] at q1
        exact B.roots a ⟨j, t, x, q1, ne j _ hj q2, m⟩
    · rw [σne j fun z => hj (by simp [z])]
      exact B.off j fun z => hj (by simp [z])
end
section
variable {X : Cx} {a b : Expr} {ma mb : M Sl} {pos : Pos}
/-- x, y = e, f: what is new stays one's own -/
def parO (i j : Nat) (ma mb : M Sl) : M Fl := bindM ma fun r => bindM mb fun s => fun ρ => some (.nx, (ρ.set i (some r)).set j (some s))
theorem fs_parO {i j : Nat} {x y : Str} {px py pt : Pos} {kt k2 pt2} (hc : X.calm = true) (hN : X.N.Nodup) (hi : X.N[i]? = some x) (hj : X.N[j]? = some y) (hij : i ≠ j)
    (hx : X.env.scope.names.lookup x = some .local) (hy : X.env.scope.names.lookup y = some .local) (ha : FE X a ma) (hb : FE X b mb)
    (hw : swappedStores [.Tuple [.Name x px, .Name y py] kt pt] (.Tuple [a, b] k2 pt2) X.env = pure (some [x, y])) (he : starEach [a, b] X.env = (false, eval a X.env) :: starEach [b] X.env := by rfl) (he2 : starEach [b] X.env = (false, eval b X.env) :: starEach [] X.env := by rfl)
    (hs : swapsWithSole [.Tuple [.Name x px, .Name y py] kt pt] (.Tuple [a, b] k2 pt2) pos.line X.env = pure false := by rfl) :
    FS X (.Assign [.Tuple [.Name x px, .Name y py] kt pt] (.Tuple [a, b] k2 pt2) pos) ([i] ++ [j]) (parO i j ma mb) := imS (ps_par hc hN hi hj hij hx hy (pa_cons ha (pa_cons hb pa_nil he2) he) hw hs) fun D σ H h => by
  obtain ⟨G, ρ, fl, ρ', E, hm, q⟩ := h
  obtain ⟨r1, ρ1, e1, h2⟩ := bindM_some hm
  obtain ⟨r2, ρ2, e2, h3⟩ := bindM_some h2
  cases h3
  refine ⟨G, ρ, r1, ρ1, E, e1, fun v1 H1 G1 S1 v1r => ⟨G1, ρ1, r2, ρ2, S1.env, e2, fun v2 H2 G2 S2 v2r => ⟨v1, v2, rfl, ?_⟩⟩⟩
  have T := S1.trans E S2
  have B1 := E.store T i (v1r.apart E S1 S2)
  refine q _ H2 G2 (B1.store j (v2r.back S1.there) fun p a hp ma rt => ?_)
  subst hp
  have nf2 : ∀ d, r2 ≠ .fz d := fun d z => by subst z; exact ma
  obtain ⟨p', ep, n2, _⟩ := v2r.own nf2
  cases ep
  have n2 := (n2 a ma).1
  obtain ⟨k, t, x, q1, q2, m⟩ := rt
  by_cases hk : k = i
  · subst hk
    have hi' : k < ρ2.length := by
      have := (List.getElem?_eq_some_iff.mp q2).1
      simpa using this
    rw [List.getElem?_set_self hi'] at q2
    cases q2
    rw [List.getElem?_set_self (by rw [← T.env.len]; exact hi')] at q1
    cases q1
    have nf1 : ∀ d, r1 ≠ .fz d := fun d z => by subst z; exact m
    obtain ⟨p1, e1', n1, ow1⟩ := (v1r.apart E S1 S2).own nf1
    cases e1'
    obtain ⟨p0, e0', n0, ow0⟩ := v1r.own nf1
    cases e0'
    -- the first one's things stand since H1
    obtain ⟨u, hu, _⟩ := ow0.there ow0.inSelf
    have ks : ∀ b, r1.In H1 x b → ∀ o, H1 b = some o → H2 b = some o := fun b mb o hb => by
      have nr : ¬ root H1 σ ρ1 b := fun r => by
        obtain ⟨u, hu⟩ := E.root_there (S1.roots _ r)
        rw [(n0 b mb).1] at hu; cases hu
      have k := S2.keep b o hb nr
      refine k.at ?_
      cases z : G2 b with
      | none => rfl
      | some o' =>
        obtain ⟨o2, h2, nt⟩ := ow0.there mb
        rcases S2.new b o' z with ⟨u, w⟩ | w | w
        · rw [(n0 b mb).2] at w; cases w
        · exact (noFr0 h2 nt (fun o h => S2.keep b o h nr) S2.env.sub w).elim
        · exact (nr w).elim
    have m' := (Sl.in_eq (s := r1) (ks x ow0.inSelf) ⟨u, hu⟩ (a := a)).mp m
    obtain ⟨u2, hu2, _⟩ := ow0.there m'
    rw [hu2] at n2; cases n2
  · rw [List.getElem?_set_ne (Ne.symm hk)] at q1 q2
    obtain ⟨u, hu⟩ := S1.env.root_there (S2.roots _ ⟨k, t, x, q1, q2, m⟩)
    rw [hu] at n2; cases n2
/-- {} -/
def dnewM : M Sl := pureM (.ow (.dict []))
/-- len, of dicts too -/
def lenA : List D → Option Sl
  | [.dict kvs] => some (.fz (.int kvs.length))
  | xs => lenD xs
theorem lenA_dict {Q : VK} {pins : List (Addr × Obj)} {σ : L2.St} {s : Shared} {G H : Hp} {v : V} {u : Value} {kvs : List (D × D)} (I : L2.Inv X pins σ H s) (sub : Same G H) (p : Rp X.K G v (.dict kvs)) (rv : RelV v u) (q : Q (.int (kvs.length : Nat)) H) :
    wpAny (model X.prog X.w) X.A (call (.builtin "len") [u]) (EP X pins σ Q) X.xe s := by
  obtain ⟨a, rfl, h⟩ := rp_dict p
  cases (show u = Value.ref a from rv)
  rcases h with ⟨ks, r, e, _⟩ | ⟨ks, r, e, _⟩
  · have el : kvs.length = ks.length := by simpa using congrArg List.length e
    rw [el] at q
    exact d_len I (rd_mono sub r) fun t s' I' => ⟨.int _, H, I', ⟨t, rfl⟩, q⟩
  · have el : kvs.length = ks.length := by simpa using congrArg List.length e
    obtain ⟨z, hd, ys, rel, dd⟩ := dt_rd I.hok (rd_mono sub r)
    have l2 : ks.length = ys.length := Paired.length rel
    refine PySem.call_len_dictH hd dd (by rw [← l2]; rw [sizeLine_eq] at z; omega) ?_
    rw [← l2, ← el]
    exact ⟨.int _, H, I.tok _, ⟨_, rfl⟩, q⟩
theorem cr_lenA : CallR X (.builtin "len") (rLD X.K lenA) := by
  intro pins s σ H xs us Q I rv h
  obtain ⟨G, ds, r, sub, px, e, q⟩ := h
  unfold lenA at e
  split at e
  · cases e
    obtain ⟨x, rfl, p⟩ := rp1 px
    obtain ⟨u, rfl, ru⟩ := vals1 rv
    exact lenA_dict I sub p ru (q _ H G (.refl sub) (.int _))
  · exact cr_lenD pins s σ H xs us Q I rv ⟨G, _, r, sub, px, e, q⟩
theorem cr_lenAF : CallR X (.builtin "len") (rLF X.K lenA) := by
  intro pins s σ H xs us Q I rv h
  obtain ⟨G, ds, r, sub, px, e, q⟩ := h
  unfold lenA at e
  split at e
  · cases e
    obtain ⟨x, rfl, p⟩ := rp1 px
    obtain ⟨u, rfl, ru⟩ := vals1 rv
    exact lenA_dict I sub p ru (q _ (.int _))
  · exact cr_lenF pins s σ H xs us Q I rv ⟨G, _, r, sub, px, e, q⟩
end
end Fx
namespace Fx
open PySem PySem.Spec PyProof.Rows L2
section
variable {X : Cx} {a b : Expr} {ma mb : M Sl} {pos : Pos}
theorem RpAll.eraseIdx {K : PySem.W.Frag} {G : Hp} : ∀ {xs : List V} {ds : List D} (n : Nat), RpAll K G xs ds → RpAll K G (xs.eraseIdx n) (ds.eraseIdx n)
  | _, _, n, .nil => by simp only [List.eraseIdx_nil]; exact .nil
  | _, _, 0, .cons h t => t
  | _, _, n + 1, .cons h t => .cons h (t.eraseIdx n)
/-- x.pop(k) -/
def popD (ds : List D) (k : D) : Option (D × List D) := match k with
  | .int j => if ds.length ≤ sizeLine then (ixN ds.length j).bind fun n => (ds[n]?).map fun d => (d, ds.eraseIdx n) else none
  | _ => none
def popM (i : Nat) (m : M Sl) : M Sl := bindM (ownL i) fun _ => bindM m fun k => bindM (ownL i) fun ds => bindM (liftM (popD ds k.d)) fun r => bindM (putO i (.list r.2)) fun _ => pureM (.fz r.1)
/-- x.clear() of a list -/
def clearM (i : Nat) : M Sl := bindM (ownL i) fun _ => bindM (putO i (.list [])) fun _ => pureM (.fz .none)
def strsOf : List D → Option (List Str)
  | [] => some []
  | .str x :: ds => (strsOf ds).map (x :: ·)
  | _ => none
/-- s.join(x) -/
def joinD : D → D → Option Sl
  | .str z, .list ds => (strsOf ds).bind fun ys => if (ys.map (·.length)).sum + ys.length * z.length ≤ 16777216 then some (.fz (.str (Txt.join z ys))) else none
  | .str z, .tuple ds => (strsOf ds).bind fun ys => if (ys.map (·.length)).sum + ys.length * z.length ≤ 16777216 then some (.fz (.str (Txt.join z ys))) else none
  | _, _ => none
/-- s.count(x) -/
def countD : D → D → Option Sl
  | .str x, .str y => some (.fz (.int (Txt.count x y)))
  | _, _ => none
end
end Fx
namespace Fx
open PySem PySem.Spec PyProof.Rows L2
def insG {α : Type} (lt : α → α → Bool) (x : α) : List α → List α
  | [] => [x]
  | y :: ys => if lt y x then y :: insG lt x ys else x :: y :: ys
def sortG {α : Type} (lt : α → α → Bool) : List α → List α
  | [] => []
  | x :: xs => insG lt x (sortG lt xs)
def ltI (a b : Int) : Bool := decide (a < b)
def ltS (a b : Str) : Bool := ltCps a.cps.toList b.cps.toList
def sortedD : List D → Option Sl
  | [.list ds] => (match intsOf ds with
    | some ns => some (.ow (.list ((sortG ltI ns).map .int)))
    | none => (match strsOf ds with
      | some ss => if ss.length < 64 then some (.ow (.list ((sortG ltS ss).map .str))) else none
      | none => none))
  | _ => none
section
variable {X : Cx} {a b : Expr} {ma mb : M Sl} {pos : Pos}
def maxL : List Int → Option Int
  | [] => none
  | x :: xs => some (xs.foldl (fun m y => if y > m then y else m) x)
def minL : List Int → Option Int
  | [] => none
  | x :: xs => some (xs.foldl (fun m y => if y < m then y else m) x)
def maxA : List D → Option Sl
  | [.list ds] => (intsOf ds).bind fun ns => (maxL ns).map fun m => .fz (.int m)
  | xs => maxD xs
def minA : List D → Option Sl
  | [.list ds] => (intsOf ds).bind fun ns => (minL ns).map fun m => .fz (.int m)
  | xs => minD xs
end
end Fx
namespace Fx
open PySem PySem.Spec PyProof.Rows L2
section
variable {X : Cx} {a b : Expr} {ma mb : M Sl} {pos : Pos}
theorem RpAll.flat {K : PySem.W.Frag} {G : Hp} {xs : List V} {ds : List D} (h : RpAll K G xs ds) : ∀ n : Nat, RpAll K G (List.replicate n xs).flatten (List.replicate n ds).flatten
  | 0 => .nil
  | n + 1 => by
    rw [List.replicate_succ, List.replicate_succ, List.flatten_cons, List.flatten_cons]
    exact h.append (h.flat n)
def mulA (d e : D) : Option Sl := match d, e with
  | .list ds, .int k => if -(2 ^ 63) ≤ k ∧ k < 2 ^ 63 ∧ ds.length * k.toNat ≤ sizeLine then some (.ow (.list (List.replicate k.toNat ds).flatten)) else none
  | d, e => mulD d e
theorem flat_its (its : List Value) (k : Nat) : List.foldl (fun x1 x2 => x1 ++ x2) #[] (List.replicate (if its.toArray.isEmpty = true then 0 else k) its.toArray) = (List.replicate k its).flatten.toArray := by
  have all : ∀ m : Nat, List.foldl (fun x1 x2 => x1 ++ x2) #[] (List.replicate m its.toArray) = (List.replicate m its).flatten.toArray := by
    intro m
    have z := foldl_rep its m []
    rwa [List.nil_append] at z
  rw [all]
  cases its with
  | nil => simp
  | cons y ys => simp
/-- any list that is read, some times -/
theorem op_repX : OpR X (binaryOp .Mult) (fun x y H Q => ∃ l k xs, x = .ref l ∧ y = .int k ∧ SqX X.K H l xs ∧ (-(2 ^ 63) ≤ k ∧ k < 2 ^ 63 ∧ xs.length * k.toNat ≤ sizeLine) ∧ ∀ p, H p = none → Q (.ref p) (upd H p (.lst (List.replicate k.toNat xs).flatten))) := by
  intro pins s σ H x y v u Q I rx ry w
  obtain ⟨l, k, xs, rfl, rfl, sq, ⟨k0, k1, kz⟩, q⟩ := w
  cases rx
  obtain ⟨t, rfl⟩ := ry
  obtain ⟨its, n, r, at_l, _⟩ := I.listX sq
  have size_eq := r.length
  have small : its.toArray.size * k.toNat ≤ sizeLine := by rw [List.size_toArray, ← size_eq]; exact kz
  have cap : ¬ its.toArray.size * k.toNat > (2 ^ 63 - 1) / 8 := by
    have line : (sizeLine : Nat) ≤ (2 ^ 63 - 1) / 8 := by decide
    omega
  have fits : ¬ (!Builtin.List.listFitsIndex k) = true := by rw [fitsIndex_both k0 k1]; simp
  have long : ¬ Builtin.List.listTooLong (its.toArray.size * k.toNat) = true := by rw [notLongL small]; simp
  have ty : ∀ s' : Shared, s'.TypeIs (.int k t) "int" := fun s' => typeIs_int s' k t
  have mul := AutoListH.list___mul___list_int_3 l its.toArray n k t fits cap long
  refine wpAny_binaryOp_repeat_ref (T := "list") (U := "int") (by decide) ⟨_, at_l, rfl⟩ ty noFill_list_mul F.fills_int_mul F.slot_int_rmul repeat_list F.slot_int_index.lookup ?_
  refine call_meets F.slot_int_rmul (ty s) F.entry_int_rmul (F.args_int_rmul_2 _ _) (int___rmul___int_list k t l its.toArray n) ?_
  refine ⟨at_l, rfl, ⟨_, at_l, rfl⟩, call_meets F.slot_list_mul ⟨_, at_l, rfl⟩ F.entry_list_mul (F.args_list_mul_2 _ _) mul ⟨at_l, ?_⟩⟩
  rw [flat_its]
  refine ⟨.ref _, _, I.lnew (t' := s.toks) (r.rep k.toNat) ?_, rfl, q _ I.fresh⟩
  rw [PyProof.Rows.lm_len_rep_flat, Nat.mul_comm]
  exact kz
theorem opr_mulA : OpR X (binaryOp .Mult) (r2D X.K mulA) := by
  intro pins s σ H x y v u Q I rx ry h
  obtain ⟨G, dx, dy, r, sub, px, py, e, q⟩ := h
  unfold mulA at e
  split at e
  · rename_i ds k
    obtain ⟨hz, rfl⟩ := ite_some e
    obtain ⟨p, xs, rfl, sq, t⟩ := rp_list px
    cases rp_int py
    exact op_repX pins s σ H _ _ v u Q I rx ry ⟨p, k, xs, rfl, rfl, (RLe.of sub).sqx sq, by rw [t.length]; exact hz, fun l hl => q _ _ G (.new0 sub hl) ⟨l, rfl, hl, sub.free hl, _, upd_same, t.flat _⟩⟩
  · exact opr_mulD pins s σ H x y v u Q I rx ry ⟨G, _, _, r, sub, px, py, e, q⟩
def listA : List D → Option Sl
  | [.str z] => if z.cps.size ≤ sizeLine then some (.ow (.list (z.cps.toList.map fun c => .str ⟨#[c]⟩))) else none
  | [.dict kvs] => some (.ow (.list (kvs.map (·.1))))
  | xs => listD xs
theorem rp_signs {K : PySem.W.Frag} {G : Hp} : ∀ cs : List Nat, RpAll K G (cs.map fun c => V.str ⟨#[c]⟩) (cs.map fun c => Dt.str ⟨#[c]⟩)
  | [] => .nil
  | c :: cs => .cons (.str _) (rp_signs cs)
/-- many tuples that stand, taken among the frozen -/
theorem adopt_all {K : PySem.W.Frag} : ∀ {kvs : List (List Key × V)} {bs : List Addr} {G H : Hp}, Same G H → IsKeys H kvs bs → ∃ G', StepV G H G' H ∧ RpAll K G' (bs.map V.ref) (kvs.map fun p => keysD p.1)
  | [], [], G, H, sub, .nil => ⟨G, .refl sub, .nil⟩
  | p :: kvs, q :: bs, G, H, sub, .cons h t => by
    obtain ⟨G1, V1, g1⟩ := StepV.adopt sub h
    obtain ⟨G2, V2, r⟩ := adopt_all (K := K) V1.sub t
    exact ⟨G2, V1.trans V2, .cons (.tup (.of (tag_keys _) (V2.same.tup _ _ g1)) (rp_kVs _)) r⟩
theorem cr_listA (hc : X.calm = true) : CallR X (.type "list") (rLD X.K listA) := by
  intro pins s σ H xs us Q I rv h
  obtain ⟨G, ds, r, sub, px, e, q⟩ := h
  unfold listA at e
  split at e
  · rename_i z
    obtain ⟨hz, rfl⟩ := ite_some e
    obtain ⟨x, rfl, p⟩ := rp1 px
    cases rp_str p
    obtain ⟨u, rfl, t, rfl⟩ := vals1 rv
    refine call_list_str (I.ok.hd hc) z t (fun h' tk acc c' hk hS hacc => ?_) hz
    have hv : Vals (z.cps.toList.map fun c => V.str ⟨#[c]⟩) acc.toList := by
      refine vals_of_at (by rw [List.length_map, Array.length_toList, Array.length_toList, hacc.1]) fun j w y h1 h2 => ?_
      obtain ⟨c, t', hc', rfl⟩ := hacc.2 j y (by rw [← Array.getElem?_toList]; exact h2)
      rw [List.getElem?_map, Array.getElem?_toList, hc'] at h1
      cases h1
      exact ⟨t', rfl⟩
    have hn := I.hok.fresh (Nat.le_refl s.heap.objs.size)
    refine ⟨.ref _, _, I.laid (t' := tk) hk (Nat.le_refl _) (show ObjOk X.prog X.w _ _ _ (.lst (z.cps.toList.map fun c => V.str ⟨#[c]⟩)) from ⟨by rw [List.length_map, Array.length_toList]; exact hz, acc.toList, c', hv, by rw [Array.toArray_toList]; exact hS⟩), rfl, ?_⟩
    exact q _ _ G (.new0 sub hn) ⟨_, rfl, hn, sub.free hn, _, upd_same, rp_signs _⟩
  · rename_i kvs
    cases e
    obtain ⟨x, rfl, p⟩ := rp1 px
    obtain ⟨a, rfl, h⟩ := rp_dict p
    rcases h with ⟨ks, rd, e1, t⟩ | ⟨ks, rd, e1, t⟩
    · refine call_listD hc pins s σ H _ us Q I rv ⟨a, ks, rfl, rd_mono sub rd, fun l hl => q _ _ G (.new0 sub hl) ⟨l, rfl, hl, sub.free hl, _, upd_same, ?_⟩⟩
      rw [e1]
      clear e1 t rd
      induction ks with
      | nil => exact .nil
      | cons k ks ih => exact .cons (rp_kV _) ih
    · refine call_list_dT hc pins s σ H _ us Q I rv ⟨a, ks, rfl, rd_mono sub rd, fun l bs hl hb => ?_⟩
      obtain ⟨G2, V2, rb⟩ := adopt_all (K := X.K) sub hb
      have V3 := StepV.new0 (o := .lst (bs.map V.ref)) V2.sub hl
      exact q _ _ G2 (V2.trans V3) ⟨l, rfl, hl, V2.sub.free hl, _, upd_same, by rw [e1]; exact rb⟩
  · exact cr_listD pins s σ H xs us Q I rv ⟨G, _, r, sub, px, e, q⟩
end
end Fx
namespace FxZ
open PySem
open PySem.Sem (wp)
/-- one thing that is walked -/
structure Lane where
  it : Addr
  fp : List Addr
  n : Nat
  P : Nat → Value → Prop
  St : Nat → Heap → Prop
abbrev Lane.Ok (prog : Program) (w : World) (A : Around) (l : Lane) : Prop := Draws prog w A l.it l.fp l.n l.P l.St
abbrev ZipAt (h : Heap) (z TI TO : Addr) (st : Bool) (f0 : Value) : Prop :=
  h.get? z = some { cls := .type "zip", dict := none, data := .fields #[f0, .bool false, .bool st, .ref TI, .ref TO], slots := #[] }
abbrev TupAt (h : Heap) (T : Addr) (xs : List Value) : Prop := h.get? T = some { cls := .type "tuple", data := .seq xs.toArray }
end FxZ
namespace FxZ
open PySem
open PySem.Sem (wp)
end FxZ
namespace FxZ
open PySem PySem.Spec PyProof.Rows L2
/-- what is walked -/
inductive Src where
  | lst (a : Addr)
  | tup (a : Addr)
  | str (x : Str) (t : Tok)
def Src.v : Src → Value
  | .lst a => .ref a
  | .tup a => .ref a
  | .str x t => .str x t
/-- its iterator, new -/
def Src.ob : Src → Obj
  | .lst a => { cls := .type "list_iterator", data := .fields #[.ref a, .int 0 0] }
  | .tup a => { cls := .type "tuple_iterator", data := .fields #[.ref a, .int 0 0] }
  | .str x t => { cls := .type (strIterType x), data := .fields #[.str x t, .int 0 0] }
/-- what it holds -/
def Src.has (K : PySem.W.Frag) (H : Hp) (xs : List V) : Src → Prop
  | .lst a => SqL K H a xs
  | .tup a => SqT K H a xs
  | .str x _ => xs = x.cps.toList.map fun c => .str ⟨#[c]⟩
/-- it may be begun -/
def Src.there (h : Heap) : Src → Prop
  | .lst a => ∃ its, h.IsList a its
  | .tup a => ∃ its, h.IsTuple a its
  | .str _ _ => True
theorem Src.free (c : Src) : c.ob.isFreed = false := by cases c <;> rfl
end FxZ
namespace FxZ
open PySem PySem.Spec PyProof.Rows L2
theorem Src.inj {X : Cx} {pins : List (Addr × Obj)} {σ : L2.St} {H : Hp} {s : Shared} (I : L2.Inv X pins σ H s) {c : Src} {xs ys : List V} (h : c.has X.K H xs) (h' : c.has X.K H ys) : xs = ys := by
  cases c with
  | lst a => exact I.list_inj h h'
  | tup a => exact I.tuple_inj h h'
  | str x t => exact (show xs = _ from h).trans (show ys = _ from h').symm
end FxZ
namespace FxZ
open PySem PySem.Spec PyProof.Rows L2
end FxZ
namespace Fx
open PySem PySem.Spec PyProof.Rows L2 FxZ
/-- what is walked, and what it holds as data, frozen -/
inductive SrcD (K : PySem.W.Frag) (G : Hp) : Src → List D → Prop
  | lst {a : Addr} {xs : List V} {l : List D} : SqX K G a xs → RpAll K G xs l → SrcD K G (.lst a) l
  | tup {a : Addr} {xs : List V} {l : List D} : Rd G a (.tup xs) → RpAll K G xs l → SrcD K G (.tup a) l
  | str (x : Str) (t : Tok) : SrcD K G (.str x t) (x.cps.toList.map fun c => .str ⟨#[c]⟩)
theorem SrcD.mono {K : PySem.W.Frag} {G G' : Hp} (e : RLe G G') {c : Src} {l : List D} (h : SrcD K G c l) : SrcD K G' c l := by
  cases h with
  | lst s t => exact .lst (e.sqx s) (t.mono e)
  | tup s t => exact .tup (e.rd _ _ s fun _ _ => nofun) (t.mono e)
  | str x t => exact .str x t
theorem SrcD.has {K : PySem.W.Frag} {G H : Hp} (e : Same G H) {c : Src} {l : List D} (h : SrcD K G c l) : ∃ xs, c.has K H xs ∧ RpAll K G xs l := by
  cases h with
  | lst s t => exact ⟨_, sql_mono e s, t⟩
  | tup s t => exact ⟨_, sqt_mono e (.inl s), t⟩
  | str x t =>
    refine ⟨_, rfl, ?_⟩
    generalize x.cps.toList = cs
    induction cs with
    | nil => exact .nil
    | cons c cs ih => exact .cons (.str _) ih
end Fx
namespace Fx
open PySem PySem.Spec PyProof.Rows L2 FxZ
end Fx
namespace Fx
open PySem PySem.Spec PyProof.Rows L2
theorem hu1 {k : Nat} {A : Around} (r : Room k A) : A.units + 1 < cLine := by have := r.units; omega
variable {ρ : Rho}
theorem h0_ixVA {i : Nat} {mb : M Sl} {Φ : Sl → Rho → Prop} : H0 (ixVA i mb) ρ Φ = getFP (fun _ => H0 mb ρ fun y ρ1 => getFP (fun d => O0 (memA d y.d) fun r => Φ (.fz r) ρ1) ρ1[i]?) ρ[i]? := by
  unfold ixVA; simp only [h0_bindM, h0_liftM, h0_getF, o0_map]
theorem ho_ixVA {i : Nat} {mb : M Sl} {Φ : Sl → Rho → Prop} : Ho (ixVA i mb) ρ Φ = getFP (fun _ => Ho mb ρ fun y ρ1 => getFP (fun d => Oo (memA d y.d) fun r => Φ (.fz r) ρ1) ρ1[i]?) ρ[i]? := h0_ixVA
theorem h0_seqAM {m : M Sl} {Φ : List D → Rho → Prop} : H0 (seqAM m) ρ Φ = H0 m ρ fun x ρ1 => O0 (seqA x.d) fun r => Φ r ρ1 := by
  unfold seqAM; simp only [h0_bindM, h0_liftM]
theorem ho_seqAM {m : M Sl} {Φ : List D → Rho → Prop} : Ho (seqAM m) ρ Φ = Ho m ρ fun x ρ1 => Oo (seqA x.d) fun r => Φ r ρ1 := h0_seqAM
theorem h0_parO {i j : Nat} {ma mb : M Sl} {Φ : Fl → Rho → Prop} : H0 (parO i j ma mb) ρ Φ = H0 ma ρ fun r ρ1 => H0 mb ρ1 fun s ρ2 => Φ .nx ((ρ2.set i (some r)).set j (some s)) := by
  unfold parO; rw [h0_bindM]
  congr; funext r ρ1
  rw [h0_bindM]
  congr; funext s ρ2
  rw [h0_oo]; exact o0_some
theorem ho_parO {i j : Nat} {ma mb : M Sl} {Φ : Fl → Rho → Prop} : Ho (parO i j ma mb) ρ Φ = Ho ma ρ fun r ρ1 => Ho mb ρ1 fun s ρ2 => Φ .nx ((ρ2.set i (some r)).set j (some s)) := h0_parO
theorem ho_dnewM {Φ : Sl → Rho → Prop} : Ho dnewM ρ Φ = Φ (.ow (.dict [])) ρ := ho_pureM
theorem h0_setAS {i : Nat} {mk me : M Sl} {Φ : Fl → Rho → Prop} : H0 (setAS i mk me) ρ Φ = H0 me ρ fun r ρ1 => ownP (fun d0 => H0 mk ρ1 fun k ρ2 => ownP (fun d => O0 (if sameCon d0 d = true then storeD d k.d r.d else none) fun d' => Φ .nx (ρ2.set i (some (.ow d')))) ρ2[i]?) ρ1[i]? := by
  unfold setAS; simp only [h0_bindM, h0_ownM, h0_liftM, h0_putO, h0_pureM]
theorem ho_setAS {i : Nat} {mk me : M Sl} {Φ : Fl → Rho → Prop} : Ho (setAS i mk me) ρ Φ = Ho me ρ fun r ρ1 => ownP (fun d0 => Ho mk ρ1 fun k ρ2 => ownP (fun d => Oo (if sameCon d0 d = true then storeD d k.d r.d else none) fun d' => Φ .nx (ρ2.set i (some (.ow d')))) ρ2[i]?) ρ1[i]? := h0_setAS
theorem h0_popM {i : Nat} {m : M Sl} {Φ : Sl → Rho → Prop} : H0 (popM i m) ρ Φ = ownLP (fun _ => H0 m ρ fun k ρ1 => ownLP (fun ds => O0 (popD ds k.d) fun r => Φ (.fz r.1) (ρ1.set i (some (.ow (.list r.2))))) ρ1[i]?) ρ[i]? := by
  unfold popM; simp only [h0_bindM, h0_ownL, h0_liftM, h0_putO, h0_pureM]
theorem ho_popM {i : Nat} {m : M Sl} {Φ : Sl → Rho → Prop} : Ho (popM i m) ρ Φ = ownLP (fun _ => Ho m ρ fun k ρ1 => ownLP (fun ds => Oo (popD ds k.d) fun r => Φ (.fz r.1) (ρ1.set i (some (.ow (.list r.2))))) ρ1[i]?) ρ[i]? := h0_popM
theorem h0_clearM {i : Nat} {Φ : Sl → Rho → Prop} : H0 (clearM i) ρ Φ = ownLP (fun _ => Φ (.fz .none) (ρ.set i (some (.ow (.list []))))) ρ[i]? := by
  unfold clearM; simp only [h0_bindM, h0_ownL, h0_putO, h0_pureM]
theorem ho_clearM {i : Nat} {Φ : Sl → Rho → Prop} : Ho (clearM i) ρ Φ = ownLP (fun _ => Φ (.fz .none) (ρ.set i (some (.ow (.list []))))) ρ[i]? := h0_clearM
section
variable {i j : Int} {Φ : Sl → Prop}
theorem o_mulA : Oo (mulA (.int i) (.int j)) Φ = (i.natAbs.log2 + j.natAbs.log2 < 1000000 ∧ Φ (.fz (.int (i * j)))) := o_mul
theorem o_lenAL {ds : List D} : Oo (lenA [.list ds]) Φ = Φ (.fz (.int ds.length)) := oo_some
theorem o_lenAT {ds : List D} : Oo (lenA [.tuple ds]) Φ = Φ (.fz (.int ds.length)) := oo_some
theorem o_lenAD {ds : List (D × D)} : Oo (lenA [.dict ds]) Φ = Φ (.fz (.int ds.length)) := oo_some
theorem o_minA : Oo (minA [.int i, .int j]) Φ = Φ (.fz (.int (if j < i then j else i))) := oo_some
theorem o_maxA : Oo (maxA [.int i, .int j]) Φ = Φ (.fz (.int (if j > i then j else i))) := oo_some
theorem o_listAL {ds : List D} : Oo (listA [.list ds]) Φ = Φ (.ow (.list ds)) := oo_some
theorem o_listAT {ds : List D} : Oo (listA [.tuple ds]) Φ = Φ (.ow (.list ds)) := oo_some
theorem o_listAD {ds : List (D × D)} : Oo (listA [.dict ds]) Φ = Φ (.ow (.list (ds.map (·.1)))) := oo_some
theorem o_seqAL {ds : List D} {Φ : List D → Prop} : Oo (seqA (.list ds)) Φ = Φ ds := oo_some
theorem o_seqAT {ds : List D} {Φ : List D → Prop} : Oo (seqA (.tuple ds)) Φ = Φ ds := oo_some
theorem o_seqAD {ds : List (D × D)} {Φ : List D → Prop} : Oo (seqA (.dict ds)) Φ = Φ (ds.map (·.1)) := oo_some
theorem o_seqAS {x : Str} {Φ : List D → Prop} : Oo (seqA (.str x)) Φ = Φ (x.cps.toList.map fun c => .str ⟨#[c]⟩) := oo_some
theorem o_memAL {ds : List D} {Φ : D → Prop} : Oo (memA (.list ds) (.int i)) Φ = Oo (atI ds i) Φ := rfl
theorem o_memAT {ds : List D} {Φ : D → Prop} : Oo (memA (.tuple ds) (.int i)) Φ = Oo (atI ds i) Φ := rfl
theorem o_ixAL {ds : List D} : Oo (ixA (.list ds) (.int i)) Φ = Oo (atI ds i) fun d => Φ (.fz d) := oo_map
theorem o_ixAT {ds : List D} : Oo (ixA (.tuple ds) (.int i)) Φ = Oo (atI ds i) fun d => Φ (.fz d) := oo_map
end
end Fx
namespace Fx
open PySem PySem.Spec PyProof.Rows L2
section
variable {X : Cx}
/-- the pairs of a list, as they stand -/
inductive PairsT (G : Hp) : List V → List (List Key × V) → List (List Key × Addr × V) → Prop
  | nil : PairsT G [] [] []
  | cons {b kb : Addr} {k : List Key} {y : V} {vs : List V} {kvs : List (List Key × V)} {kas : List (List Key × Addr × V)} : G b = some (.tup [.ref kb, y]) → G kb = some (.tup (k.map kV)) → PairsT G vs kvs kas → PairsT G (.ref b :: vs) ((k, y) :: kvs) ((k, kb, y) :: kas)
end
end Fx
namespace Fx
open PySem PySem.Spec PyProof.Rows L2
def pairOf : D → Option (KK × D)
  | .tuple [a, v] => if tagT [a, v] = false then (keyOf a).map fun k => (k, v) else none
  | _ => none
def pairsOf : List D → Option (List (KK × D))
  | [] => some []
  | d :: ds => match pairOf d, pairsOf ds with
    | some p, some ps => some (p :: ps)
    | _, _ => none
def putAll : List (D × D) → List (KK × D) → List (D × D)
  | acc, [] => acc
  | acc, p :: r => putAll (dPut acc p.1 p.2) r
def isS : KK × D → Bool
  | (.s _, _) => true
  | _ => false
def isT : KK × D → Bool
  | (.t _, _) => true
  | _ => false
/-- dict of a list of pairs, or of a dict -/
def dictPD : List D → Option Sl
  | [.list ds] => (pairsOf ds).bind fun ps => if ps.all isS || ps.all isT then some (.ow (.dict (putAll [] ps))) else none
  | _ => none
section
variable {X : Cx}
theorem PairsT.mono {G H : Hp} (sub : Same G H) : ∀ {vs : List V} {kvs : List (List Key × V)} {kas : List (List Key × Addr × V)}, PairsT G vs kvs kas → PairsT H vs kvs kas
  | _, _, _, .nil => .nil
  | _, _, _, .cons h1 h2 t => .cons (sub _ _ h1) (sub _ _ h2) (t.mono sub)
end
end Fx
namespace Fx
open PySem PySem.Spec PyProof.Rows L2
variable {Φ : Sl → Prop}
theorem o_dictPL {ds : List D} : Oo (dictPD [.list ds]) Φ = Oo (pairsOf ds) fun ps => if ps.all isS || ps.all isT then Φ (.ow (.dict (putAll [] ps))) else False := by
  show Oo ((pairsOf ds).bind _) Φ = _
  rw [oo_bind]
  congr 1; funext ps
  split
  · exact oo_some
  · exact oo_none
end Fx
namespace Fx
open PySem PySem.Spec PyProof.Rows L2
/-- the first r slots are owned still -/
def ownedOf : Nat → Rho → Option (List D)
  | 0, _ => some []
  | n + 1, some (.ow d) :: ρ => (ownedOf n ρ).map fun l => d :: l
  | _, _ => none
/-- the slots is, all owned -/
def ownsM : List Nat → M (List D)
  | [] => pureM []
  | i :: is => bindM (ownM i) fun d => bindM (ownsM is) fun ds => pureM (d :: ds)
def putsO : List Nat → List D → Rho → Rho
  | i :: is, d :: ds, ρ => putsO is ds (ρ.set i (some (.ow d)))
  | _, _, ρ => ρ
section
variable {X : Cx} {k : Nat} {f : Addr} {fd : FuncData} {ps : List Str} {x : Str} {p pos : Pos} {es : List Expr} {F : List D → List D → Option (Sl × List D)} {m : M (List D)}
/-- f(y, z, .., ..), y, z, .. changed by it -/
def callNM (is : List Nat) (F : List D → List D → Option (Sl × List D)) (m : M (List D)) : M Sl := bindM (ownsM is) fun _ => bindM m fun ds => bindM (ownsM is) fun l => bindM (liftM (F l ds)) fun r => fun ρ => if r.2.length = is.length ∧ is.Nodup then some (r.1, putsO is r.2 ρ) else none
end
end Fx
namespace Fx
open PySem PySem.Spec PyProof.Rows L2
section
variable {X : Cx}
def reprA : List D → Option Sl
  | [.str x] => if (reprText x).length ≤ sizeLine then some (.fz (.str (reprText x))) else none
  | [.bool b] => some (.fz (.str (if b = true then ("True" : Str) else ("False" : Str))))
  | [.none] => some (.fz (.str ("None" : Str)))
  | xs => reprD xs
theorem cr_reprA (hg : X.A.guards = some []) (hu : X.A.units + 64 < cLine) : CallR X (.builtin "repr") (rLD X.K reprA) := by
  intro pins s σ H xs us Q I rv h
  obtain ⟨G, ds, r, sub, px, e, q⟩ := h
  unfold reprA at e
  split at e
  · obtain ⟨hz, rfl⟩ := ite_some e
    obtain ⟨x, rfl, p⟩ := rp1 px
    cases rp_str p
    obtain ⟨u, rfl, t, rfl⟩ := vals1 rv
    exact PySem.P.repr_of_str ⟨.str _, H, I.tok _, ⟨_, rfl⟩, q _ H G (.refl sub) (.str _)⟩ hz
  · cases e
    obtain ⟨x, rfl, p⟩ := rp1 px
    cases rp_bl p
    obtain ⟨u, rfl, ru⟩ := vals1 rv
    cases ru
    exact PySem.P.repr_of_bool ⟨.str _, H, I.tok _, ⟨_, rfl⟩, q _ H G (.refl sub) (.str _)⟩
  · cases e
    obtain ⟨x, rfl, p⟩ := rp1 px
    cases rp_non p
    obtain ⟨u, rfl, ru⟩ := vals1 rv
    cases ru
    exact PySem.P.repr_of_none ⟨.str _, H, I.tok _, ⟨_, rfl⟩, q _ H G (.refl sub) (.str _)⟩
  · exact cr_reprD hg hu pins s σ H xs us Q I rv ⟨G, _, r, sub, px, e, q⟩
end
theorem reprA_int {i : Int} : reprA [.int i] = reprD [.int i] := rfl
theorem reprA_list {ds : List D} : reprA [.list ds] = reprD [.list ds] := rfl
theorem reprA_tup {ds : List D} : reprA [.tuple ds] = reprD [.tuple ds] := rfl
end Fx
namespace Fx
open PySem PySem.Spec PyProof.Rows L2
variable {ρ : Rho}
theorem h0_ownsNil {Φ : List D → Rho → Prop} : H0 (ownsM []) ρ Φ = Φ [] ρ := h0_pureM
theorem h0_ownsCons {i : Nat} {is : List Nat} {Φ : List D → Rho → Prop} : H0 (ownsM (i :: is)) ρ Φ = ownP (fun d => H0 (ownsM is) ρ fun ds ρ1 => Φ (d :: ds) ρ1) ρ[i]? := by
  show H0 (bindM _ _) ρ Φ = _
  simp only [h0_bindM, h0_ownM, h0_pureM]
theorem ho_ownsNil {Φ : List D → Rho → Prop} : Ho (ownsM []) ρ Φ = Φ [] ρ := h0_ownsNil
theorem ho_ownsCons {i : Nat} {is : List Nat} {Φ : List D → Rho → Prop} : Ho (ownsM (i :: is)) ρ Φ = ownP (fun d => Ho (ownsM is) ρ fun ds ρ1 => Φ (d :: ds) ρ1) ρ[i]? := h0_ownsCons
theorem h0_callNM {is : List Nat} {F : List D → List D → Option (Sl × List D)} {m : M (List D)} {Φ : Sl → Rho → Prop} : H0 (callNM is F m) ρ Φ = H0 (ownsM is) ρ fun _ ρ0 => H0 m ρ0 fun ds ρ1 => H0 (ownsM is) ρ1 fun l ρ2 => O0 (F l ds) fun r => (r.2.length = is.length ∧ is.Nodup) ∧ Φ r.1 (putsO is r.2 ρ2) := by
  unfold callNM; simp only [h0_bindM, h0_liftM]
  congr; funext _ ρ0; congr; funext ds ρ1; congr; funext l ρ2; congr; funext r
  rw [h0_oo, o0_if, o0_some]
theorem ho_callNM {is : List Nat} {F : List D → List D → Option (Sl × List D)} {m : M (List D)} {Φ : Sl → Rho → Prop} : Ho (callNM is F m) ρ Φ = Ho (ownsM is) ρ fun _ ρ0 => Ho m ρ0 fun ds ρ1 => Ho (ownsM is) ρ1 fun l ρ2 => Oo (F l ds) fun r => (r.2.length = is.length ∧ is.Nodup) ∧ Φ r.1 (putsO is r.2 ρ2) := h0_callNM
def rnP (r : Nat) (Φ : Sl × List D → Prop) (ρ : Rho) : Fl → Prop
  | .rt d => Oo (ownedOf r ρ) fun l => Φ (d, l)
  | .nx => Oo (ownedOf r ρ) fun l => Φ (.fz .none, l)
  | _ => False
theorem rnP_rt {r : Nat} {Φ : Sl × List D → Prop} {d : Sl} : rnP r Φ ρ (.rt d) = Oo (ownedOf r ρ) fun l => Φ (d, l) := rfl
theorem rnP_nx {r : Nat} {Φ : Sl × List D → Prop} : rnP r Φ ρ .nx = Oo (ownedOf r ρ) fun l => Φ (.fz .none, l) := rfl
end Fx
namespace Fx
open PySem PySem.Spec PyProof.Rows L2
section
variable {kvs kvt : List (D × D)} {ds es : List D} {v : D} {x : Str} {i j : Int} {k : D}
theorem o_sameL : (sameCon (.list ds) (.list es) = true) = True := eq_true rfl
theorem o_sameD : (sameCon (.dict kvs) (.dict kvt) = true) = True := eq_true rfl
theorem o_storeL {Φ : D → Prop} : Oo (storeD (.list ds) (.int j) v) Φ = Oo (ixN ds.length j) fun n => Φ (.list (ds.set n v)) := oo_map
variable {Φ : Sl → Prop}
theorem o_listAS : Oo (listA [.str x]) Φ = (x.cps.size ≤ sizeLine ∧ Φ (.ow (.list (x.cps.toList.map fun c => .str ⟨#[c]⟩)))) := by
  show Oo (if _ then _ else _) Φ = _
  rw [oo_if, oo_some]
theorem o_lenAS : Oo (lenA [.str x]) Φ = (x.length ≤ sizeLine ∧ Φ (.fz (.int x.length))) := by
  show Oo (if _ then _ else _) Φ = _
  rw [oo_if, oo_some]
theorem o_countS {y : Str} : Oo (countD (.str x) (.str y)) Φ = Φ (.fz (.int (Txt.count x y))) := oo_some
theorem o_mulL : Oo (mulA (.list ds) (.int j)) Φ = ((-(2 ^ 63) ≤ j ∧ j < 2 ^ 63 ∧ ds.length * j.toNat ≤ sizeLine) ∧ Φ (.ow (.list (List.replicate j.toNat ds).flatten))) := by
  show Oo (if _ then _ else _) Φ = _
  rw [oo_if, oo_some]
theorem o_reprI : Oo (reprA [.int i]) Φ = (i.natAbs.log2 < 1920 ∧ Φ (.fz (.str (toString i)))) := by
  show Oo (if _ then _ else _) Φ = _
  rw [oo_if, oo_some]
theorem o_reprS : Oo (reprA [.str x]) Φ = ((reprText x).length ≤ sizeLine ∧ Φ (.fz (.str (reprText x)))) := by
  show Oo (if _ then _ else _) Φ = _
  rw [oo_if, oo_some]
theorem o_joinL {z : Str} : Oo (joinD (.str z) (.list ds)) Φ = Oo (strsOf ds) fun ys => (ys.map (·.length)).sum + ys.length * z.length ≤ 16777216 ∧ Φ (.fz (.str (Txt.join z ys))) := by
  show Oo ((strsOf ds).bind _) Φ = _
  rw [oo_bind]
  congr 1; funext ys
  rw [oo_if, oo_some]
theorem o_popL {Φ : D × List D → Prop} : Oo (popD ds (.int j)) Φ = (ds.length ≤ sizeLine ∧ Oo (ixN ds.length j) fun n => Oo ds[n]? fun d => Φ (d, ds.eraseIdx n)) := by
  show Oo (if _ then _ else _) Φ = _
  rw [oo_if, oo_bind]
  congr 2; funext n
  exact oo_map
theorem o_maxL : Oo (maxA [.list ds]) Φ = Oo (intsOf ds) fun ns => Oo (maxL ns) fun m => Φ (.fz (.int m)) := by
  show Oo ((intsOf ds).bind _) Φ = _
  rw [oo_bind]
  congr 1; funext n
  exact oo_map
end
end Fx
namespace Fx
open PySem PySem.Spec PyProof.Rows L2
/-- the left side a name -/
def cmpLM (f : D → D → Option Sl) (i : Nat) (mb : M Sl) : M Sl := bindM (getM i) fun _ => bindM mb fun y => bindM (getM i) fun d => bindM (liftM (f d y.d)) fun r => if flatD r.d then pureM (.fz r.d) else liftM none
/-- the right side a name -/
def cmpRM (f : D → D → Option Sl) (ma : M Sl) (i : Nat) : M Sl := bindM ma fun x => bindM (getM i) fun d => bindM (liftM (f x.d d)) fun r => if flatD r.d then pureM (.fz r.d) else liftM none
variable {ρ : Rho}
theorem h0_cmpLM {f : D → D → Option Sl} {i : Nat} {mb : M Sl} {Φ : Sl → Rho → Prop} : H0 (cmpLM f i mb) ρ Φ = getP (fun _ => H0 mb ρ fun y ρ1 => getP (fun d => O0 (f d y.d) fun r => if flatD r.d = true then Φ (.fz r.d) ρ1 else False) ρ1[i]?) ρ[i]? := by
  unfold cmpLM; simp only [h0_bindM, h0_getM, h0_liftM, h0_ite, h0_pureM, o0_none]
theorem ho_cmpLM {f : D → D → Option Sl} {i : Nat} {mb : M Sl} {Φ : Sl → Rho → Prop} : Ho (cmpLM f i mb) ρ Φ = getP (fun _ => Ho mb ρ fun y ρ1 => getP (fun d => Oo (f d y.d) fun r => if flatD r.d = true then Φ (.fz r.d) ρ1 else False) ρ1[i]?) ρ[i]? := h0_cmpLM
theorem h0_cmpRM {f : D → D → Option Sl} {i : Nat} {ma : M Sl} {Φ : Sl → Rho → Prop} : H0 (cmpRM f ma i) ρ Φ = H0 ma ρ fun x ρ1 => getP (fun d => O0 (f x.d d) fun r => if flatD r.d = true then Φ (.fz r.d) ρ1 else False) ρ1[i]? := by
  unfold cmpRM; simp only [h0_bindM, h0_getM, h0_liftM, h0_ite, h0_pureM, o0_none]
theorem ho_cmpRM {f : D → D → Option Sl} {i : Nat} {ma : M Sl} {Φ : Sl → Rho → Prop} : Ho (cmpRM f ma i) ρ Φ = Ho ma ρ fun x ρ1 => getP (fun d => Oo (f x.d d) fun r => if flatD r.d = true then Φ (.fz r.d) ρ1 else False) ρ1[i]? := h0_cmpRM
end Fx
namespace FxZ
open PySem PySem.Spec PyProof.Rows L2
open AutoSeq1 (wpAny_loadPart')
theorem meets_enum_newT (l : Addr) (items : Array Value) (dct : Option Addr) (n : Nat) (sl : Array (Option Value)) :
    Meets (Builtin.«enumerate.__new__» ⟨[.type "enumerate", .ref l], []⟩) (fun _ R s => s.heap.get? l = some { cls := .type "tuple", dict := dct, data := .seq items n, slots := sl } ∧
      R (.ok (.ret (.ref (s.heap.push { cls := .type "tuple_iterator", data := .fields #[.ref l, .int 0 0] }).objs.size)))
        { s with heap := (s.heap.push { cls := .type "tuple_iterator", data := .fields #[.ref l, .int 0 0] }).push { cls := .type "enumerate", data := .fields #[.none, .bool false, .ref s.heap.objs.size, rawInt 0, .none, .none] } }) :=
  .of_wp fun prog w A R s h => by
    obtain ⟨hp, g, d, tk, os⟩ := s; obtain ⟨hl, h⟩ := h
    have hsub := sub_enumerate
    have hL : Heap.IsTuple (Shared.heap ⟨hp, g, d, tk, os⟩) l items := ⟨_, hl, rfl, n, rfl⟩
    wp_walk using wpAny_loadPart' hl
    refine wpAny_stack_any fun st => wpAny_pure ?_
    split
    · rename_i c _ _ _ _ _
      cases (c == Value.type "enumerate")
      · wp_walk using wpAny_loadPart' hl, wpAny_pyIter_tuple hL
        exact ⟨_, rfl, h⟩
      · wp_walk using wpAny_loadPart' hl, wpAny_pyIter_tuple hL
        exact ⟨_, rfl, h⟩
    · wp_walk using wpAny_loadPart' hl, wpAny_pyIter_tuple hL
      exact ⟨_, rfl, h⟩
section
variable {prog : Program} {w : World} {A : Around} {E : Value → Shared → Prop} {s : Shared}
theorem call_enum_tuple {l : Addr} {items : Array Value} {Q : Value → Shared → Prop} (hL : s.heap.IsTuple l items)
    (h : ∀ h', IsEnum h' (s.heap.objs.size + 1) s.heap.objs.size 0 .none → h'.IsTupleIter s.heap.objs.size l 0 → h'.objs.size = s.heap.objs.size + 2 →
      (∀ b o, s.heap.get? b = some o → h'.get? b = some o) → Q (.ref (s.heap.objs.size + 1)) { s with heap := h' }) :
    wpAny (model prog w) A (call (.type "enumerate") [.ref l]) Q E s := by
  obtain ⟨⟨c, dct, dt, sl⟩, hl, hc, n, hd⟩ := hL
  replace hc : c = .type "tuple" := hc
  replace hd : dt = .seq items n := hd
  subst hc hd
  refine callType_new F.called_enumerate (by decide) (F.typeCall_enumerate_1 _) (F.newCall_enumerate_1 _) (fun obj => F.args_object_init_2 obj _) F.entry_enumerate_new
    (meets_enum_newT l items dct n sl) ⟨hl, ?_⟩
  have hz : (s.heap.push { cls := .type "tuple_iterator", data := .fields #[.ref l, .int 0 0] }).objs.size = s.heap.objs.size + 1 := Heap.size_push ..
  show _ ∧ _
  rw [hz]
  have he : IsEnum ((s.heap.push { cls := .type "tuple_iterator", data := .fields #[.ref l, .int 0 0] }).push
      { cls := .type "enumerate", data := .fields #[.none, .bool false, .ref s.heap.objs.size, rawInt 0, .none, .none] }) (s.heap.objs.size + 1) s.heap.objs.size 0 .none := by
    have := Heap.get?_push_size (s.heap.push { cls := .type "tuple_iterator", data := .fields #[.ref l, .int 0 0] })
      (o := { cls := .type "enumerate", data := .fields #[.none, .bool false, .ref s.heap.objs.size, rawInt 0, .none, .none] }) rfl
    rw [hz] at this; exact this
  refine ⟨⟨_, he, rfl⟩, h _ he ⟨_, Heap.get?_push_of_some _ (Heap.get?_push_size _ rfl), rfl, rfl⟩ (by rw [Heap.size_push, hz]) fun b o x => Heap.get?_push_of_some _ (Heap.get?_push_of_some _ x)⟩
theorem enumT_end {e it l : Addr} {i : Nat} {items : Array Value} {old : Value} {Q : Option Value → Shared → Prop} (hh : A.in1.handled = none)
    (he : IsEnum s.heap e it i old) (hit : s.heap.IsTupleIter it l i) (hl : s.heap.IsTuple l items) (hx : items[i]? = none)
    (hQ : ∀ h', Heap.ExtBut it s.heap h' → Q none { s with heap := h' }) : wpAny (model prog w) A (pyNext (.ref e)) Q E s := by
  have hT : s.TypeIs (.ref e) "enumerate" := ⟨_, he, rfl⟩
  unfold pyNext
  refine wpAny_bind (wpAny_attempt (wpAny_callSpecial?_slot (name := Str.ofString "__next__") hT F.slot_enumerate_next
    (wpAny_call_entry F.slot_enumerate_next hT F.entry_enumerate_next ?_ (F.args_enumerate_next_1 _))))
  show wpAny _ _ (field (.ref e) 2 >>= _) _ _ _
  refine wpAny_bind (wpAny_field he rfl (x := .ref it) rfl ?_)
  refine wpAny_bind (wpAny_nextOf_tuple_end hh hit hl hx fun h' x he' hx' => ?_)
  obtain ⟨o, ho, hc⟩ := hx'
  refine wpAny_bind (wpAny_isInstance (T := "StopIteration") (b := true) ⟨o, ho, hc⟩ isSubtype_stop ?_)
  exact wpAny_pure (hQ _ he')
end
/-- the tuple at a as it stands at each turn, each item in a new pair -/
def IteT (K : PySem.W.Frag) (a : Addr) : It :=
  ⟨fun i H => ∃ (xs : List V) (x : V), SqT K H a xs ∧ xs[i]? = some x, fun i H v H' => ∃ T x, v = .ref T ∧ H T = none ∧ H' = upd H T (.tup [.int (i : Nat), x]) ∧ ∀ xs, SqT K H a xs → xs[i]? = some x, fun i H => ∃ xs : List V, SqT K H a xs ∧ xs.length ≤ i⟩
theorem isTuple {h : Heap} {a : Addr} {its : Array Value} (x : IsTup h a its) : h.IsTuple a its := by
  obtain ⟨o, e, c, n, d⟩ := x
  exact ⟨o, e, c, n, d⟩
theorem turn_enumT {P : Program} {w : World} {K : PySem.W.Frag} {elts : List Expr} {kk : Nat} {tpos : Pos} (a e it : Addr) (hae : a ≠ e) (hai : a ≠ it) :
    Turn P w K (.Tuple elts kk tpos) (IteT K a) [e, it] e (fun i h => (∃ old, IsEnum h e it ((i : Nat) : Int) old) ∧ h.IsTupleIter it a i ∧ e ≠ it) where
  mem := by simp
  obj := fun i h st b hb => by
    obtain ⟨⟨old, he⟩, ⟨o, ho, hc, hd⟩, _⟩ := st
    have e' : b = e ∨ b = it := by simpa using hb
    rcases e' with z | z
    · rw [z]; exact ⟨_, he, fun v q => nomatch q⟩
    · rw [z]; exact ⟨o, ho, fun v q => by rw [hd] at q; cases q⟩
  keep := fun i h h' st k => let ⟨⟨old, he⟩, hi, hne⟩ := st; ⟨⟨old, k e (by simp) _ he⟩, hi.at fun o q => k it (by simp) o q, hne⟩
  item := by
    intro X hP hw hK hc i pins s σ H E I hf st hg
    subst hP hw hK
    obtain ⟨⟨old, he⟩, hit, hne⟩ := st
    obtain ⟨xs, x, hq, hx⟩ := hg
    obtain ⟨its, rv, p, hz⟩ := I.tuple hq
    obtain ⟨u, hu, ru⟩ := rv.get hx
    have hel : e < s.heap.objs.size := Heap.lt_size he
    have hil : it < s.heap.objs.size := by obtain ⟨_, q, _⟩ := hit; exact Heap.lt_size q
    have hlt : i < its.toArray.size := by simpa using (List.getElem?_eq_some_iff.mp hu).1
    have D := Draws.tuple (prog := X.prog) (w := X.w) (A := X.A.in1) (by exact I.ok.hd hc) it a hai its.toArray
    refine wpAny_pyNext_enum_itemD D he ⟨hit, isTuple p⟩ hlt hne (by simp [hne, Ne.symm hae]) fun x' h' tk hx' ho hst' hT hsz hk => ?_
    have ex : x' = u := by
      have z : its[i]? = some x' := by simpa using hx'
      rw [hu] at z; exact (Option.some.inj z).symm
    subst ex
    refine ⟨_, rfl, wpAny_letOwnedTupleGo_enum (s := { s with heap := h', toks := tk + 1 }) ho fun h'' he' sb => ?_⟩
    have hT2 : h''.get? s.heap.objs.size = some { cls := .type "tuple", data := .seq #[.int i tk, x'] } := (sb.2 _ (Nat.ne_of_gt hel)).trans hT
    have new : ObjOk X.prog X.w (upd H s.heap.objs.size (.tup [.int (i : Nat), x])) h'' s.heap.objs.size (.tup [.int (i : Nat), x]) :=
      ⟨by show 2 ≤ sizeLine; decide, [.int i tk, x'], .cons ⟨_, rfl⟩ (.cons ru .nil), ⟨_, hT2, rfl, _, rfl⟩⟩
    have I1 : Inv X pins σ (upd H s.heap.objs.size (.tup [.int (i : Nat), x])) { s with heap := h'', toks := tk + 1 } :=
      I.turnedNew (ch := [e, it]) (fun b ob hb q => (sb.2 b (fun z => hb (by simp [z]))).trans (hk b ob (fun z => hb (by simp [z])) (fun z => hb (by simp [z])) q)) hf (Nat.le_refl _) new
    refine ⟨.ref s.heap.objs.size, _, I1, rfl, ⟨_, x, rfl, I.hok.fresh (Nat.le_refl _), rfl, fun ys hy => by rw [I.tuple_inj hy hq]; exact hx⟩, ⟨⟨x', ?_⟩, hst'.1.at fun o q => (sb.2 it (Ne.symm hne)).trans q, hne⟩, fun b hb => ?_⟩
    · have e1 : ((i + 1 : Nat) : Int) = (i : Int) + 1 := by omega
      rw [e1]; exact he'
    · have hb' : b < s.heap.objs.size := by
        have e' : b = e ∨ b = it := by simpa using hb
        rcases e' with z | z
        · rw [z]; exact hel
        · rw [z]; exact hil
      rw [upd_ne (Nat.ne_of_lt hb')]
      exact (hf b hb).1
  done := by
    intro X hP hw hK hc i pins s σ H E I hf st hg
    subst hP hw hK
    obtain ⟨⟨old, he⟩, hit, hne⟩ := st
    obtain ⟨xs, hq, hx⟩ := hg
    obtain ⟨its, rv, p, hz⟩ := I.tuple hq
    obtain ⟨f0, f1, f2, f3, f4, f5⟩ := hf it (by simp)
    have hl := rv.length
    refine enumT_end (I.ok.hd hc) he hit (isTuple p) (by simp; omega) fun h' eb => ⟨rfl, I.turned (t' := s.toks) (fun b o hb q => eb b o hb q) f0 f1 f3 f4 f5⟩
  self := fun A i s Q E st h => let ⟨⟨_, he⟩, _⟩ := st; wpAny_pyIter_enum he h
def iEnumT (K : PySem.W.Frag) (ta : TA) : TI := fun σ H R => ta σ H fun vs H1 => ∃ a xs, vs = [.ref a] ∧ SqT K H1 a xs ∧ R (IteT K a) H1
theorem pi_enumT {X : Cx} {e : Expr} {ta : TA} {p pos tpos : Pos} {elts : List Expr} {kk : Nat} (hg : Gl X "enumerate") (hm : X.mg "enumerate" = none) (ha : PA X [e] ta) (hs : starEach [e] X.env = [(false, eval e X.env)] := by rfl) :
    PI X (.Tuple elts kk tpos) (.Call (.Name "enumerate" p) [e] [] pos) (iEnumT X.K ta) := by
  refine ⟨fun pins s σ H R I h => ?_⟩
  refine Call_ (ld_blt I hg hm boot_enumerate (PyProof.Rows.callWith_type1 (thn (ha.run pos pins s σ H _ I h) fun us s1 ⟨vs, H1, I1, r1, q1⟩ => ?_) hs rfl))
  obtain ⟨a, xs, ex, hq, q⟩ := q1
  subst ex
  cases r1 with
  | cons r rr =>
    cases rr
    cases r
    obtain ⟨its, rv, p', hz⟩ := I1.tuple hq
    have hlt : a < s1.heap.objs.size := by obtain ⟨o, e, _⟩ := p'; exact Heap.lt_size e
    refine call_enum_tuple (isTuple p') fun h' he hit hsz hk => wpAny_pyIter_enum he ?_
    have I2 : Inv X pins σ H1 { s1 with heap := h' } := I1.kept (t' := s1.toks) hk
    refine ⟨s1.heap.objs.size + 1, [s1.heap.objs.size + 1, s1.heap.objs.size], _, _, H1, rfl, I2, turn_enumT a (s1.heap.objs.size + 1) s1.heap.objs.size (Nat.ne_of_lt (Nat.lt_succ_of_lt hlt)) (Nat.ne_of_lt hlt), ⟨⟨.none, he⟩, hit, Nat.succ_ne_self _⟩, fun b hb => ?_, q⟩
    have e' : b = s1.heap.objs.size + 1 ∨ b = s1.heap.objs.size := by simpa using hb
    have hle : s1.heap.objs.size ≤ b := by
      rcases e' with z | z
      · rw [z]; exact Nat.le_add_right _ _
      · rw [z]; exact Nat.le_refl _
    exact I1.fpOk hle (I1.hok.fresh hle)
end FxZ
namespace Fx
open PySem PySem.Spec PyProof.Rows L2 FxZ
theorem itOk_enumT {K : PySem.W.Frag} {G : Hp} {p : Addr} {xs : List V} {ds : List D} (s : SqT K G p xs) (t : RpAll K G xs ds) : ItOk K (IteT K p) G (enumFrom 0 ds) := by
  intro i G1 H1 e1 e2
  have s1 : SqT K H1 p xs := sqt_mono e2 (e1.sqt s)
  refine ⟨fun d hd => ?_, fun h => ⟨xs, s1, by rw [t.length, ← enumFrom_length ds 0]; exact Nat.le_of_eq h.symm⟩⟩
  obtain ⟨d', hd', rfl⟩ := enumFrom_get ds 0 i d hd
  obtain ⟨v, hv, r⟩ := t.getD hd'
  refine ⟨⟨xs, v, s1, hv⟩, fun x H' y => ?_⟩
  obtain ⟨T, z, rfl, nT, rfl, y⟩ := y
  have := y xs s1
  rw [hv] at this
  cases this
  have V := StepV.new1 (o := .tup [.int (i : Nat), v]) e2 nT
  refine ⟨_, V, .tup (.of (tag_off rfl) upd_same) (.cons ?_ (.one ((r.mono e1).mono V.same)))⟩
  rw [Nat.zero_add]
  exact .int _
def enumA : List D → Option (List D)
  | [.tuple ds] => some (enumFrom 0 ds)
  | xs => enumD xs
theorem fi_enumA {X : Cx} {a : Expr} {pos : Pos} {p tpos : Pos} {elts : List Expr} {kk : Nat} {m : M (List D)} (hg : Gl X "enumerate") (hm : X.mg "enumerate" = none) (ha : FA X [a] m) (hs : starEach [a] X.env = [(false, eval a X.env)] := by rfl) :
    FI X (.Tuple elts kk tpos) (.Call (.Name "enumerate" p) [a] [] pos) (rngM enumA m) := imI (pi_or (fi_enum hg hm ha hs) (pi_enumT hg hm ha hs)) fun σ H R h => by
  obtain ⟨G, ρ, its, ρ', E, hm, q⟩ := h
  obtain ⟨x, ρ1, e1, h2⟩ := bindM_some hm
  obtain ⟨e3, rfl⟩ := liftM_some h2
  unfold enumA at e3
  split at e3
  · cases e3
    refine .inr ⟨G, ρ, _, _, E, e1, fun vs H1 G1 S1 r1 => ?_⟩
    obtain ⟨v, rfl, p1⟩ := rp1 r1
    obtain ⟨q1, xs, rfl, s, t⟩ := rp_tup p1
    exact ⟨q1, xs, rfl, sqt_mono S1.env.sub s, q _ H1 G1 S1 (itOk_enumT s t)⟩
  · refine .inl ⟨G, ρ, its, _, E, ?_, q⟩
    unfold rngM
    simp only [bindM, e1, liftM, Option.bind_some, e3, Option.map_some]
variable {Φ : List D → Prop} {ds : List D}
theorem o_enumAT : Oo (enumA [.tuple ds]) Φ = Φ (enumFrom 0 ds) := oo_some
theorem o_enumAL : Oo (enumA [.list ds]) Φ = Φ (enumFrom 0 ds) := oo_some
end Fx
namespace Fx
open PySem PySem.Spec PyProof.Rows L2
section
variable {X : Cx}
def sortedA : List D → Option Sl
  | [.str z] => if z.cps.size ≤ sizeLine then some (.ow (.list ((sortG ltS (z.cps.toList.map fun c => (⟨#[c]⟩ : Str))).map .str))) else none
  | [.dict kvs] => (strsOf (kvs.map (·.1))).bind fun ss => if kvs ≠ [] ∧ ss.length < 64 then some (.ow (.list ((sortG ltS ss).map .str))) else none
  | [.list ds] => (match intsOf ds with
    | some ns => some (.ow (.list ((sortG ltI ns).map .int)))
    | none => (strsOf ds).map fun ss => .ow (.list ((sortG ltS ss).map .str)))
  | xs => sortedD xs
end
variable {Φ : Sl → Prop} {ds : List D} {x : Str}
theorem o_sortedS : Oo (sortedA [.str x]) Φ = (x.cps.size ≤ sizeLine ∧ Φ (.ow (.list ((sortG ltS (x.cps.toList.map fun c => (⟨#[c]⟩ : Str))).map .str)))) := by
  show Oo (if _ then _ else _) Φ = _
  rw [oo_if, oo_some]
end Fx
namespace Fx
open PySem PySem.Spec PyProof.Rows L2
def argsP : List (M Sl × M Sl) → M (List D)
  | [] => nilM
  | (a, b) :: r => consM a (consM b (argsP r))
def pairD : List D → Option (List (KK × D))
  | [] => some []
  | [_] => none
  | k :: v :: r => match keyOf k, pairD r with
    | some kk, some l => some ((kk, v) :: l)
    | _, _ => none
def fillD : List (D × D) → List (KK × D) → Option (List (D × D))
  | acc, [] => some acc
  | acc, (k, v) :: r => if askable acc k = true ∧ acc.length < sizeLine then fillD (dPut acc k v) r else none
def dispD (ds : List D) : Option Sl := (pairD ds).bind fun ps => (fillD [] ps).map fun kvs => .ow (.dict kvs)
def dispM (ms : List (M Sl × M Sl)) : M Sl := bindM (argsP ms) fun ds => liftM (dispD ds)
end Fx
namespace Fx
open PySem PySem.Spec PyProof.Rows L2
end Fx
namespace Fx
open PySem PySem.Spec PyProof.Rows L2
abbrev Acc := List (D × D)
/-- a loop that carries a dict -/
def gLoop (g : D → M Unit) (t : M Bool) (rest : Acc → M Acc) (vs : List Nat) : List D → Acc → M Acc
  | [], acc => pureM acc
  | x :: xs, acc => bindM (g x) fun _ => bindM t fun b => if b then bindM (rest acc) fun acc2 => bindM (wipeM vs) fun _ => gLoop g t rest vs xs acc2 else bindM (wipeM vs) fun _ => gLoop g t rest vs xs acc
def put1 (acc : Acc) (k v : D) : Option Acc := match keyOf k with
  | some kk => if askable acc kk = true ∧ acc.length < sizeLine then some (dPut acc kk v) else none
  | none => none
def putRM (mk mv : M Sl) (acc : Acc) : M Acc := bindM mk fun k => bindM mv fun v => liftM (put1 acc k.d v.d)
def inRM (mi1 : M (List D)) (g1 : D → M Unit) (t1 : M Bool) (rest1 : Acc → M Acc) (vs1 : List Nat) (acc : Acc) : M Acc := bindM mi1 fun its => bindM (wipeM vs1) fun _ => gLoop g1 t1 rest1 vs1 its acc
def dcM (mi : M (List D)) (g : D → M Unit) (t : M Bool) (rest : Acc → M Acc) (vs : List Nat) : M Sl := bindM mi fun its => fun ρ =>
  if noOwn ρ vs = true then (gLoop g t rest vs its [] (wipeR ρ vs)).map fun p => (.ow (.dict p.1), restR ρ p.2 vs) else none
section
variable {K : PySem.W.Frag} {σ σ1 σ2 σb : L2.St} {G H G1 H1 G2 H2 Gb Hb : Hp} {ρ ρ1 ρ2 ρb : Rho} {p : Addr} {acc : Acc}
/-- the dict that grows at p, unknown at the base -/
structure AtD (K : PySem.W.Frag) (p : Addr) (σb : L2.St) (Gb Hb : Hp) (ρb : Rho) (σ : L2.St) (G H : Hp) (ρ : Rho) (acc : Acc) : Prop where
  base : EnvR K Gb Hb σb ρb
  none : Hb p = Option.none
  T : StpG K σb Gb Hb ρb σ G H ρ
  g : G p = Option.none
  own : Own K G H p (.dict acc)
theorem AtD.put (A : AtD K p σb Gb Hb ρb σ G H ρ acc) {y z : V} {kd d : D} {kk : KK} (hy : Rp K G y kd) (hk : keyOf kd = some kk) (hz : Rp K G z d) (ha : askable acc kk = true) (hl : acc.length < sizeLine) :
    ∃ o, DPut' H p y z (upd H p o) ∧ AtD K p σb Gb Hb ρb σ G (upd H p o) ρ (dPut acc kk d) := by
  obtain ⟨o, h1, h2⟩ := own_put A.T.env.sub A.own hy hk ha hl hz
  exact ⟨o, h1, A.base, A.none, A.T.updO o A.none A.g A.base, A.g, h2⟩
end
end Fx
namespace Fx
open PySem PySem.Spec PyProof.Rows L2
end Fx
namespace Fx
open PySem PySem.Spec PyProof.Rows L2
end Fx
namespace Fx
open PySem PySem.Spec PyProof.Rows L2
section
variable {K : PySem.W.Frag} {σ σ1 σb : L2.St} {G H G1 H1 Gb Hb : Hp} {ρ ρ1 ρb : Rho} {p q : Addr} {o : HO}
/-- the object at p, unknown at the base, stands as it was put -/
structure AtO (K : PySem.W.Frag) (p : Addr) (σb : L2.St) (Gb Hb : Hp) (ρb : Rho) (σ : L2.St) (G H : Hp) (ρ : Rho) (o : HO) : Prop where
  base : EnvR K Gb Hb σb ρb
  none : Hb p = Option.none
  T : StpG K σb Gb Hb ρb σ G H ρ
  g : G p = Option.none
  at' : H p = some o
  nt : ∀ xs, o ≠ .tup xs
theorem AtO.put (A : AtO K p σb Gb Hb ρb σ G H ρ o) (o2 : HO) (nt : ∀ xs, o2 ≠ .tup xs := by intro _ h; cases h) : AtO K p σb Gb Hb ρb σ G (upd H p o2) ρ o2 :=
  ⟨A.base, A.none, A.T.updO o2 A.none A.g A.base, A.g, upd_same, nt⟩
theorem AtO.ne (A : AtO K p σb Gb Hb ρb σ G H ρ o) {b : Addr} {u : HO} (h : Rd G b u) : p ≠ b := fun z => by
  subst z
  rcases h with h | ⟨_, h⟩ <;> rw [A.g] at h <;> cases h
end
/-- the pairs of a dict whose keys are numbers or texts -/
def scalsP : List (D × D) → Option (List (Key × D))
  | [] => some []
  | (k, v) :: r => match scalK k, scalsP r with
    | some kk, some l => some ((kk, v) :: l)
    | _, _ => none
def mergeD (acc : List (D × D)) (ps : List (Key × D)) : List (D × D) := putAll acc (ps.map fun p => (.s p.1, p.2))
def star1D (a k v : D) : Option Sl := match a, scalK k with
  | .dict kvs, some kk => (scalsP kvs).bind fun ps => if kvs.length < sizeLine then some (.ow (.dict (dPut (mergeD [] ps) (.s kk) v))) else none
  | _, _ => none
def star1M (ma mk mv : M Sl) : M Sl := bindM ma fun a => bindM (argsP [(mk, mv)]) fun kv => liftM (match kv with
  | [k, v] => star1D a.d k v
  | _ => none)
end Fx
namespace Fx
open PySem PySem.Spec PyProof.Rows L2
end Fx
namespace Fx
open PySem PySem.Spec PyProof.Rows L2
def stepD : D → Option Int → Option Sl
  | .list ds, some d => if d = 1 then some (.ow (.list ds)) else if d = -1 then some (.ow (.list ds.reverse)) else none
  | _, _ => none
def stepM (m : M Sl) (mp : M (Option Int)) : M Sl := bindM m fun x => bindM mp fun o => liftM (stepD x.d o)
theorem h0_stepM {ρ : Rho} {m : M Sl} {mp : M (Option Int)} {Φ : Sl → Rho → Prop} : H0 (stepM m mp) ρ Φ = H0 m ρ fun x ρ1 => H0 mp ρ1 fun o ρ2 => O0 (stepD x.d o) fun r => Φ r ρ2 := by
  unfold stepM; simp only [h0_bindM, h0_liftM]
theorem ho_stepM {ρ : Rho} {m : M Sl} {mp : M (Option Int)} {Φ : Sl → Rho → Prop} : Ho (stepM m mp) ρ Φ = Ho m ρ fun x ρ1 => Ho mp ρ1 fun o ρ2 => Oo (stepD x.d o) fun r => Φ r ρ2 := h0_stepM
end Fx
namespace Fx
open PySem PySem.Spec PyProof.Rows L2
def itemsD : D → Option Sl
  | .dict kvs => if kvs.all (fun p => !tagT [p.1, p.2]) = true then some (.ow (.list (kvs.map fun p => .tuple [p.1, p.2]))) else none
  | _ => none
end Fx
namespace Fx
open PySem PySem.Spec PyProof.Rows L2
def toIntA : List D → Option Sl
  | [.bool b] => some (.fz (.int (if b then 1 else 0)))
  | xs => toIntD xs
theorem cr_intA {X : Cx} : CallR X (.type "int") (rLD X.K toIntA) := by
  intro pins s σ H xs us Q I rv h
  obtain ⟨G, ds, r, sub, px, e, q⟩ := h
  unfold toIntA at e
  split at e
  · rename_i b
    cases e
    obtain ⟨x, rfl, p⟩ := rp1 px
    cases p
    exact call_int1 pins s σ H _ us Q I rv (.inr ⟨b, rfl, q _ _ G (.refl sub) (.int _)⟩)
  · exact cr_intD pins s σ H xs us Q I rv ⟨G, _, r, sub, px, e, q⟩
theorem o_toIntA {Φ : Sl → Prop} {i : Int} : Oo (toIntA [.int i]) Φ = Φ (.fz (.int i)) := oo_some
theorem o_toIntB {Φ : Sl → Prop} {b : Bool} : Oo (toIntA [.bool b]) Φ = Φ (.fz (.int (if b then 1 else 0))) := oo_some
def countA : D → D → Option Sl
  | .list ds, d => if shapeD (.list ds) = true ∧ shapeD d = true then some (.fz (.int ((ds.countP fun z => Dt.eqv z d : Nat) : Int))) else none
  | x, y => countD x y
theorem o_countAS {Φ : Sl → Prop} {x y : Str} : Oo (countA (.str x) (.str y)) Φ = Φ (.fz (.int (Txt.count x y))) := oo_some
end Fx
namespace Fx
open PySem PySem.Spec PyProof.Rows L2
end Fx
namespace Fx
open PySem PySem.Spec PyProof.Rows L2
def emptyD : D → Option D
  | .list _ => some (.list [])
  | .dict _ => some (.dict [])
  | _ => none
def clearA (i : Nat) : M Sl := bindM (ownM i) fun d => bindM (liftM (emptyD d)) fun d2 => bindM (putO i d2) fun _ => pureM (.fz .none)
end Fx
namespace Fx
open PySem PySem.Spec PyProof.Rows L2
/-- equal, entry by entry; values that are neither numbers, texts, truth values nor None are not looked at -/
def eqFold (b : List (D × D)) : List (D × D) → Option Bool
  | [] => some true
  | p :: r => (eqFold b r).bind fun c => (keyOf p.1).bind fun k => if askable b k = true then (match dGet b k with
      | none => some false
      | some w => if flatD p.2 = true ∧ flatD w = true then some (Dt.eqv p.2 w && c) else none) else none
def eqDict (a b : List (D × D)) : Option Bool := if a.length = b.length then eqFold b a else some false
def eqAB (x y : D) : Option Bool := match x, y with
  | .dict a, .dict b => eqDict a b
  | _, _ => eqB x y
def eqA (x y : D) : Option Sl := (eqAB x y).map fun b => .fz (.bool b)
def neA (x y : D) : Option Sl := (eqAB x y).map fun b => .fz (.bool (!b))
/-- sorted, of an empty dict too -/
def sortedB : List D → Option Sl
  | [.dict []] => some (.ow (.list []))
  | xs => sortedA xs
end Fx
namespace Fx
open PySem PySem.Spec PyProof.Rows L2
end Fx
namespace Fx
open PySem PySem.Spec PyProof.Rows L2
end Fx
namespace Fx
open PySem PySem.Spec PyProof.Rows PyProof.V L2
end Fx
namespace Fx
open PySem PySem.Spec PyProof.Rows PyProof.V L2
end Fx
namespace Fx
open PySem PySem.Spec PyProof.Rows L2
/-- a set's entry's text -/
def txOf (e : Int × Value) : Str := match e.2 with
  | .str k _ => k
  | _ => ⟨#[]⟩
def GoodT (w : World) (e : Int × Value) : Prop := ∃ k u, e.2 = Value.str k u ∧ e.1 = hashStr w k
/-- the payload of a set of texts, l its members in some order -/
structure TabT (w : World) (es : Array (Int × Value)) (t : SetTable) (l : List Str) : Prop where
  good : ∀ e ∈ es.toList, GoodT w e
  perm : (es.toList.map txOf).Perm l
  nd : l.Nodup
  small : es.size < scanBound
  fit : t.fits es.size = true
  ris : Ris t.place.toList
  led : w.params.followText "set-order" = true ∨ t.led = true
def SetT (w : World) (h : Heap) (a : Addr) (l : List Str) : Prop := ∃ o es ep t, h.get? a = some o ∧ o.ExactSet ∧ o.data = .set es ep t ∧ TabT w es t l
section
variable {P : Program} {w : World} {A : Around} {E : Value → Shared → Prop} {s : Shared} {a : Addr} {l : List Str}
theorem TabT.size {es : Array (Int × Value)} {t : SetTable} (T : TabT w es t l) : es.size = l.length := by
  rw [← T.perm.length_eq, List.length_map, Array.length_toList]
end
end Fx
namespace Fx
open PySem PySem.Spec PyProof.Rows L2
theorem SetT.at {w : World} {h h' : Heap} {a : Addr} {l : List Str} (S : SetT w h a l) (k : ∀ o, h.get? a = some o → h'.get? a = some o) : SetT w h' a l := by
  obtain ⟨o, es, ep, t, ho, r⟩ := S
  exact ⟨o, es, ep, t, k o ho, r⟩
end Fx
namespace Fx
open PySem PySem.Spec PyProof.Rows L2
end Fx
namespace Fx
open PySem PySem.Spec PyProof.Rows L2
end Fx
namespace Fx
open PySem PySem.Spec PyProof.Rows L2
end Fx
namespace Fx
open PySem PySem.Spec PyProof.Rows L2
def parS3 (i j l : Nat) (m : M (List D)) : M Fl := bindM m fun ds => match ds with
  | [c, d, e] => fun ρ => some (.nx, ((ρ.set i (some (.fz c))).set j (some (.fz d))).set l (some (.fz e)))
  | _ => liftM none
end Fx
namespace Fx
open PySem PySem.Spec PyProof.Rows L2
variable {α β : Type} {ρ : Rho}
theorem h0_argsNil {Φ : List D → Rho → Prop} : H0 (argsP []) ρ Φ = Φ [] ρ := h0_nilM
theorem ho_argsNil {Φ : List D → Rho → Prop} : Ho (argsP []) ρ Φ = Φ [] ρ := ho_nilM
theorem h0_argsCons {a b : M Sl} {r : List (M Sl × M Sl)} {Φ : List D → Rho → Prop} : H0 (argsP ((a, b) :: r)) ρ Φ = H0 a ρ fun x ρ1 => H0 b ρ1 fun y ρ2 => H0 (argsP r) ρ2 fun xs ρ3 => Φ (x.d :: y.d :: xs) ρ3 := by
  show H0 (consM a (consM b (argsP r))) ρ Φ = _
  simp only [h0_consM]
theorem ho_argsCons {a b : M Sl} {r : List (M Sl × M Sl)} {Φ : List D → Rho → Prop} : Ho (argsP ((a, b) :: r)) ρ Φ = Ho a ρ fun x ρ1 => Ho b ρ1 fun y ρ2 => Ho (argsP r) ρ2 fun xs ρ3 => Φ (x.d :: y.d :: xs) ρ3 := h0_argsCons
theorem h0_dispM {ms : List (M Sl × M Sl)} {Φ : Sl → Rho → Prop} : H0 (dispM ms) ρ Φ = H0 (argsP ms) ρ fun ds ρ1 => O0 (dispD ds) fun r => Φ r ρ1 := by
  unfold dispM; simp only [h0_bindM, h0_liftM]
theorem ho_dispM {ms : List (M Sl × M Sl)} {Φ : Sl → Rho → Prop} : Ho (dispM ms) ρ Φ = Ho (argsP ms) ρ fun ds ρ1 => Oo (dispD ds) fun r => Φ r ρ1 := h0_dispM
theorem h0_star1M {ma mk mv : M Sl} {Φ : Sl → Rho → Prop} : H0 (star1M ma mk mv) ρ Φ = H0 ma ρ fun a ρ1 => H0 mk ρ1 fun k ρ2 => H0 mv ρ2 fun v ρ3 => O0 (star1D a.d k.d v.d) fun r => Φ r ρ3 := by
  unfold star1M; simp only [h0_bindM, h0_liftM, h0_argsCons, h0_argsNil]
theorem ho_star1M {ma mk mv : M Sl} {Φ : Sl → Rho → Prop} : Ho (star1M ma mk mv) ρ Φ = Ho ma ρ fun a ρ1 => Ho mk ρ1 fun k ρ2 => Ho mv ρ2 fun v ρ3 => Oo (star1D a.d k.d v.d) fun r => Φ r ρ3 := h0_star1M
theorem h0_putRM {mk mv : M Sl} {acc : Acc} {Φ : Acc → Rho → Prop} : H0 (putRM mk mv acc) ρ Φ = H0 mk ρ fun k ρ1 => H0 mv ρ1 fun v ρ2 => O0 (put1 acc k.d v.d) fun r => Φ r ρ2 := by
  unfold putRM; simp only [h0_bindM, h0_liftM]
theorem ho_putRM {mk mv : M Sl} {acc : Acc} {Φ : Acc → Rho → Prop} : Ho (putRM mk mv acc) ρ Φ = Ho mk ρ fun k ρ1 => Ho mv ρ1 fun v ρ2 => Oo (put1 acc k.d v.d) fun r => Φ r ρ2 := h0_putRM
theorem h0_inRM {mi1 : M (List D)} {g1 : D → M Unit} {t1 : M Bool} {rest1 : Acc → M Acc} {vs1 : List Nat} {acc : Acc} {Φ : Acc → Rho → Prop} : H0 (inRM mi1 g1 t1 rest1 vs1 acc) ρ Φ = H0 mi1 ρ fun its ρ1 => H0 (gLoop g1 t1 rest1 vs1 its acc) (wipeR ρ1 vs1) Φ := by
  unfold inRM; simp only [h0_bindM, h0_wipeM]
theorem ho_inRM {mi1 : M (List D)} {g1 : D → M Unit} {t1 : M Bool} {rest1 : Acc → M Acc} {vs1 : List Nat} {acc : Acc} {Φ : Acc → Rho → Prop} : Ho (inRM mi1 g1 t1 rest1 vs1 acc) ρ Φ = Ho mi1 ρ fun its ρ1 => Ho (gLoop g1 t1 rest1 vs1 its acc) (wipeR ρ1 vs1) Φ := h0_inRM
theorem h0_dcM {mi : M (List D)} {g : D → M Unit} {t : M Bool} {rest : Acc → M Acc} {vs : List Nat} {Φ : Sl → Rho → Prop} : H0 (dcM mi g t rest vs) ρ Φ = H0 mi ρ fun its ρ1 => noOwn ρ1 vs = true ∧ H0 (gLoop g t rest vs its []) (wipeR ρ1 vs) fun acc ρ2 => Φ (.ow (.dict acc)) (restR ρ1 ρ2 vs) := by
  unfold dcM; rw [h0_bindM]
  congr; funext its ρ1
  simp only [h0_oo]
  rw [o0_if, o0_map]
theorem ho_dcM {mi : M (List D)} {g : D → M Unit} {t : M Bool} {rest : Acc → M Acc} {vs : List Nat} {Φ : Sl → Rho → Prop} : Ho (dcM mi g t rest vs) ρ Φ = Ho mi ρ fun its ρ1 => noOwn ρ1 vs = true ∧ Ho (gLoop g t rest vs its []) (wipeR ρ1 vs) fun acc ρ2 => Φ (.ow (.dict acc)) (restR ρ1 ρ2 vs) := h0_dcM
theorem ho_clearA {i : Nat} {Φ : Sl → Rho → Prop} : Ho (clearA i) ρ Φ = ownP (fun d => Oo (emptyD d) fun d2 => Φ (.fz .none) (ρ.set i (some (.ow d2)))) ρ[i]? := by
  show H0 (clearA i) ρ Φ = _
  unfold clearA; simp only [h0_bindM, h0_ownM, h0_liftM, h0_putO, h0_pureM]
  rfl
theorem o_emptyL {ds : List D} {Φ : D → Prop} : Oo (emptyD (.list ds)) Φ = Φ (.list []) := oo_some
theorem o_emptyK {ds : List (D × D)} {Φ : D → Prop} : Oo (emptyD (.dict ds)) Φ = Φ (.dict []) := oo_some
theorem o_items {ds : List (D × D)} {Φ : Sl → Prop} : Oo (itemsD (.dict ds)) Φ = (ds.all (fun p => !tagT [p.1, p.2]) = true ∧ Φ (.ow (.list (ds.map fun p => .tuple [p.1, p.2])))) := by
  show Oo (if _ then _ else _) Φ = _
  rw [oo_if, oo_some]
def parP3 (i j l : Nat) (Φ : Rho → Prop) (ρ : Rho) : List D → Prop
  | [c, d, e] => Φ (((ρ.set i (some (.fz c))).set j (some (.fz d))).set l (some (.fz e)))
  | _ => False
theorem parP3_3 {i j l : Nat} {Φ : Rho → Prop} {c d e : D} : parP3 i j l Φ ρ [c, d, e] = Φ (((ρ.set i (some (.fz c))).set j (some (.fz d))).set l (some (.fz e))) := rfl
theorem h0_parS3 {i j l : Nat} {m : M (List D)} {Φ : Fl → Rho → Prop} : H0 (parS3 i j l m) ρ Φ = H0 m ρ fun ds ρ1 => parP3 i j l (fun ρ2 => Φ .nx ρ2) ρ1 ds := by
  unfold parS3; rw [h0_bindM]
  congr; funext ds ρ1
  rcases ds with _ | ⟨c, _ | ⟨d, _ | ⟨e, _ | ⟨_, _⟩⟩⟩⟩ <;> simp only [parP3, h0_oo, liftM, Option.map_none, o0_none, o0_some]
theorem ho_parS3 {i j l : Nat} {m : M (List D)} {Φ : Fl → Rho → Prop} : Ho (parS3 i j l m) ρ Φ = Ho m ρ fun ds ρ1 => parP3 i j l (fun ρ2 => Φ .nx ρ2) ρ1 ds := h0_parS3
theorem o_step1 {ds : List D} {Φ : Sl → Prop} : Oo (stepD (.list ds) (some 1)) Φ = Φ (.ow (.list ds)) := oo_some
theorem o_stepN {ds : List D} {Φ : Sl → Prop} : Oo (stepD (.list ds) (some (-1))) Φ = Φ (.ow (.list ds.reverse)) := oo_some
theorem o_eqAI {i j : Int} {Φ : Sl → Prop} : Oo (eqA (.int i) (.int j)) Φ = Φ (.fz (.bool (i == j))) := oo_some
theorem o_neAI {i j : Int} {Φ : Sl → Prop} : Oo (neA (.int i) (.int j)) Φ = Φ (.fz (.bool (!(i == j)))) := oo_some
theorem o_sortedBL {ds : List D} {Φ : Sl → Prop} : Oo (sortedB [.list ds]) Φ = Oo (sortedA [.list ds]) Φ := rfl
theorem o_sortedBS {x : Str} {Φ : Sl → Prop} : Oo (sortedB [.str x]) Φ = Oo (sortedA [.str x]) Φ := rfl
theorem o_sortedB0 {Φ : Sl → Prop} : Oo (sortedB [.dict []]) Φ = Φ (.ow (.list [])) := oo_some
theorem o_sortedBD {p : D × D} {ds : List (D × D)} {Φ : Sl → Prop} : Oo (sortedB [.dict (p :: ds)]) Φ = Oo (sortedA [.dict (p :: ds)]) Φ := rfl
theorem o_countAS2 {x y : Str} {Φ : Sl → Prop} : Oo (countA (.str x) (.str y)) Φ = Φ (.fz (.int (Txt.count x y))) := oo_some
end Fx
namespace Fx
open PySem PySem.Spec PyProof.Rows L2
def hoP := And.intro (@ho_bindM) (And.intro (@ho_pureM) (And.intro (@ho_liftM) (And.intro (@ho_cM) (And.intro (@ho_bin) (And.intro (@ho_una) (And.intro (@ho_varM) (And.intro (@ho_getF) (And.intro (@ho_getM) (And.intro (@ho_nilM) (And.intro (@ho_consM) (And.intro (@ho_tupM) (And.intro (@ho_lstM) (And.intro (@ho_callM) (And.intro (@ho_boolM) (And.intro (@ho_testM) (And.intro (@ho_notM) (And.intro (@ho_ite) (And.intro (@ho_andM) (And.intro (@ho_orM) (And.intro (@ho_blM) (And.intro (@ho_andV) (And.intro (@ho_orV) (And.intro (@ho_notV) (And.intro (@ho_ifM) (And.intro (@ho_chainM) (And.intro (@ho_chain3M) (And.intro (@ho_ixVM) (And.intro (@ho_partM) (And.intro (@ho_sliceM) (And.intro (@ho_seqM) (And.intro (@ho_rngM) (And.intro (@ho_putM) (And.intro (@ho_putO) (And.intro (@ho_gsNil) (And.intro (@ho_gsCons) (And.intro (@ho_tupG) (And.intro (@ho_yesM) (And.intro (@ho_wipeM) (And.intro (@ho_seqS) (And.intro (@ho_dropS) (And.intro (@ho_retS) (And.intro (@ho_retF) (And.intro (@ho_retV) (And.intro (@ho_setS) (And.intro (@ho_asgS) (And.intro (@ho_parS) (And.intro (@ho_ifS) (And.intro (@ho_ownM) (And.intro (@ho_ownL) (And.intro (@ho_appendM) (And.intro (@ho_setLS) (And.intro (@ho_callRM) (And.intro (@ho_forS) (And.intro (@ho_lcM) (And.intro (@ho_lc2M) (And.intro (@ho_peekM) (And.intro (@ho_ixVA) (And.intro (@ho_seqAM) (And.intro (@ho_parO) (And.intro (@ho_dnewM) (And.intro (@ho_setAS) (And.intro (@ho_popM) (And.intro (@ho_clearM) (And.intro (@ho_ownsNil) (And.intro (@ho_ownsCons) (And.intro (@ho_callNM) (And.intro (@ho_cmpLM) (And.intro (@ho_cmpRM) (And.intro (@ho_stepM) (And.intro (@ho_argsNil) (And.intro (@ho_argsCons) (And.intro (@ho_dispM) (And.intro (@ho_star1M) (And.intro (@ho_putRM) (And.intro (@ho_inRM) (And.intro (@ho_dcM) (And.intro (@ho_clearA) (@ho_parS3))))))))))))))))))))))))))))))))))))))))))))))))))))))))))))))))))))))))))))))
def oP := And.intro (@oo_some) (And.intro (@oo_none) (And.intro (@oo_map) (And.intro (@oo_bind) (And.intro (@oo_if) (And.intro (@o_add) (And.intro (@o_addT) (And.intro (@o_addL) (And.intro (@o_addS) (And.intro (@o_sub) (And.intro (@o_mul) (And.intro (@o_fdiv) (And.intro (@o_mod) (And.intro (@o_pow) (And.intro (@o_neg) (And.intro (@o_cmp) (And.intro (@o_eq) (And.intro (@o_ne) (And.intro (@o_eqS) (And.intro (@o_neS) (And.intro (@o_lenL) (And.intro (@o_lenT) (And.intro (@o_min) (And.intro (@o_max) (And.intro (@o_toInt) (And.intro (@o_tupL) (And.intro (@o_tupT) (And.intro (@o_lstL) (And.intro (@o_lstT) (And.intro (@o_seqL) (And.intro (@o_seqT) (And.intro (@o_part) (And.intro (@o_slL) (And.intro (@o_slT) (And.intro (@o_ixL) (And.intro (@o_ixT) (And.intro (@o_rng1) (And.intro (@o_rng2) (And.intro (@o_enum) (And.intro (@o_mulA) (And.intro (@o_lenAL) (And.intro (@o_lenAT) (And.intro (@o_lenAD) (And.intro (@o_minA) (And.intro (@o_maxA) (And.intro (@o_listAL) (And.intro (@o_listAT) (And.intro (@o_listAD) (And.intro (@o_seqAL) (And.intro (@o_seqAT) (And.intro (@o_seqAD) (And.intro (@o_seqAS) (And.intro (@o_ixAL) (And.intro (@o_ixAT) (And.intro (@o_dictPL) (And.intro (@o_sameL) (And.intro (@o_sameD) (And.intro (@o_storeL) (And.intro (@o_listAS) (And.intro (@o_lenAS) (And.intro (@o_countS) (And.intro (@o_mulL) (And.intro (@o_reprI) (And.intro (@o_reprS) (And.intro (@o_joinL) (And.intro (@o_popL) (And.intro (@o_maxL) (And.intro (@o_enumAT) (And.intro (@o_enumAL) (And.intro (@o_sortedS) (And.intro (@o_toIntA) (And.intro (@o_toIntB) (And.intro (@o_countAS) (And.intro (@o_emptyL) (And.intro (@o_emptyK) (And.intro (@o_items) (And.intro (@o_step1) (And.intro (@o_stepN) (And.intro (@o_eqAI) (And.intro (@o_neAI) (And.intro (@o_sortedB0) (@o_countAS2)))))))))))))))))))))))))))))))))))))))))))))))))))))))))))))))))))))))))))))))))
end Fx
namespace Fx
open PySem PySem.Spec PyProof.Rows L2
theorem putK_new {κ : Type} [DecidableEq κ] {f : κ → D} {mk : κ → KK} (hmk : ∀ a b, mk a = mk b → a = b) (hf : ∀ a, keyOf (f a) = some (mk a)) : ∀ {ks : List (κ × V)} {kvs : List (D × D)} {k : κ}, kvs.map (·.1) = ks.map (fun q => f q.1) → dGet kvs (mk k) = none → ∀ v, putK ks k v = ks ++ [(k, v)] := by
  intro ks kvs k e h v
  have go : ∀ {ks : List (κ × V)} {kvs : List (D × D)}, kvs.map (·.1) = ks.map (fun q => f q.1) → dGet kvs (mk k) = none → (ks.any fun kv => decide (kv.1 = k)) = false := by
    intro ks
    induction ks with
    | nil => intro kvs _ _; rfl
    | cons p ks ih =>
      intro kvs e h
      cases kvs with
      | nil => simp at e
      | cons q kvs =>
        rw [List.map_cons, List.map_cons] at e
        obtain ⟨e1, e2⟩ := List.cons.inj e
        have hk : keyOf q.1 = some (mk p.1) := by rw [e1]; exact hf _
        have h' : (if keyOf q.1 = some (mk k) then some q.2 else dGet kvs (mk k)) = none := h
        by_cases z : keyOf q.1 = some (mk k)
        · rw [if_pos z] at h'; cases h'
        · rw [if_neg z] at h'
          rw [List.any_cons, ih e2 h', Bool.or_false]
          exact decide_eq_false fun w => z (by rw [hk, w])
  unfold putK
  rw [go e h]
  rfl
theorem dPut_new {kvs : List (D × D)} {k : KK} {d : D} (h : dGet kvs k = none) : dPut kvs k d = kvs ++ [(kkD k, d)] := by
  unfold dPut
  rw [h]
  rfl
section
variable {K : PySem.W.Frag} {σ σ1 σ2 σb : L2.St} {G H G1 H1 G2 H2 Gb Hb : Hp} {ρ ρ1 ρ2 ρb : Rho} {p q : Addr} {acc : Acc}
theorem OwnAll.snoc : ∀ {ps : List Addr} {ds : List D} {q : Addr} {d : D}, OwnAll K G H ps ds → Own K G H q d → OwnAll K G H (ps ++ [q]) (ds ++ [d])
  | _, _, _, _, .nil, h => .cons h .nil
  | _, _, _, _, .cons a t, h => .cons a (OwnAll.snoc t h)
/-- a dict of one's own containers with one more -/
theorem own2_put {y : V} {dk d : D} {k : KK} (sub : Same G H) (ow : Own2 K G H p (.dict acc)) (py : Rp K G y dk) (hk : keyOf dk = some k) (ha : askable acc k = true) (hn : dGet acc k = none) (hl : acc.length < sizeLine) (hq : Own K G H q d) (hp : q ≠ p) (hi : ¬ inner H p q) :
    ∃ o, DPut' H p y (.ref q) (upd H p o) ∧ Own2 K G (upd H p o) p (.dict (dPut acc k d)) ∧ ∀ a, inner (upd H p o) p a → a = q ∨ inner H p a := by
  rw [keyOf_some hk] at py
  rw [dPut_new hn]
  have len : ∀ {κ : Type} {f : κ → D} {ks : List (κ × V)}, acc.map (·.1) = ks.map (fun q => f q.1) → ks.length < sizeLine := fun e => by
    have := congrArg List.length e
    rw [List.length_map, List.length_map] at this
    omega
  have mo : ∀ {ps : List Addr} (o : HO), p ∉ ps → OwnAll K G H ps (acc.map (·.2)) → OwnAll K G (upd H p o) (ps ++ [q]) ((acc ++ [(kkD k, d)]).map (·.2)) := fun o np al => by
    rw [List.map_append]
    refine OwnAll.snoc (al.mono (.refl _) fun a m u e => ?_) (hq.mono (.refl _) fun u e => ?_)
    · rw [upd_ne fun z => np (by rw [← z]; exact m)]; exact e
    · rw [upd_ne hp]; exact e
  have nd : ∀ {ps : List Addr} {o : HO}, ps.Nodup → H p = some o → memV o = ps.map V.ref → (ps ++ [q]).Nodup := fun n e m => by
    rw [List.nodup_append]
    refine ⟨n, by simp, fun a h b h' => ?_⟩
    rw [List.mem_singleton] at h'
    subst h'
    intro z
    subst z
    exact hi ⟨_, e, by rw [m]; exact mem_ref.mpr h⟩
  have np' : ∀ {ps : List Addr}, p ∉ ps → p ∉ ps ++ [q] := fun n h => by
    rcases List.mem_append.mp h with h | h
    · exact n h
    · rw [List.mem_singleton] at h; exact hp h.symm
  have km : ∀ {κ : Type} {f : κ → D} {ks : List (κ × V)} {c : κ}, acc.map (·.1) = ks.map (fun q => f q.1) → kkD k = f c → (acc ++ [(kkD k, d)]).map (·.1) = (ks ++ [(c, V.ref q)]).map (fun q => f q.1) := fun e e2 => by
    rw [List.map_append, List.map_append, e, List.map_cons, List.map_cons, e2]; rfl
  have vm : ∀ {κ : Type} {ks : List (κ × V)} {c : κ} {ps : List Addr}, ks.map (·.2) = ps.map V.ref → (ks ++ [(c, V.ref q)]).map (·.2) = (ps ++ [q]).map V.ref := fun e => by
    rw [List.map_append, List.map_append, e]; rfl
  have inn : ∀ {ps : List Addr} {o o' : HO}, H p = some o → memV o = ps.map V.ref → memV o' = (ps ++ [q]).map V.ref → ∀ a, inner (upd H p o') p a → a = q ∨ inner H p a := fun {ps o o'} e m m' a h => by
    obtain ⟨u, hu, mu⟩ := h
    rw [upd_same] at hu
    cases hu
    rw [m'] at mu
    rcases List.mem_append.mp (mem_ref.mp mu) with z | z
    · exact .inr ⟨o, e, by rw [m]; exact mem_ref.mpr z⟩
    · rw [List.mem_singleton] at z; exact .inl z
  obtain ⟨ps, n, np, al, ow⟩ := ow
  cases k with
  | s k =>
    have ey := rp_scal py
    rcases ow with ⟨ks, e, e1, t⟩ | ⟨ks, e, e1, t⟩
    · have pk := putK_new (f := keyD) (mk := KK.s) (fun _ _ z => by cases z; rfl) (fun a => keyOf_kkD (.s a)) e1 hn (.ref q)
      refine ⟨_, .inl (.inl ⟨ks, k, e, ey, len e1, rfl⟩), ⟨ps ++ [q], nd n e t, np' np, mo _ np al, .inl ⟨_, upd_same, by rw [pk]; exact km e1 rfl, by rw [pk]; exact vm t⟩⟩, inn e t (by rw [pk]; exact vm t)⟩
    · cases ks with
      | nil =>
        cases acc with
        | nil =>
          cases ps with
          | nil => exact ⟨_, .inr (.inr ⟨e, k, ey, rfl⟩), ⟨[q], by simp, np' np, mo _ np al, .inl ⟨_, upd_same, rfl, rfl⟩⟩, inn (ps := []) e rfl rfl⟩
          | cons _ _ => simp at t
        | cons _ _ => simp at e1
      | cons u ks =>
        cases acc with
        | nil => simp at e1
        | cons q' kvs =>
          rw [List.map_cons, List.map_cons] at e1
          have hq : keyOf q'.1 = some (.t u.1) := by rw [(List.cons.inj e1).1]; exact keyOf_kkD (.t u.1)
          obtain ⟨q1, q2⟩ := q'
          simp only [askable] at ha
          rw [hq] at ha
          cases ha
  | t k =>
    obtain ⟨b, ey, eb⟩ := rp_keys py
    rcases ow with ⟨ks, e, e1, t⟩ | ⟨ks, e, e1, t⟩
    · cases ks with
      | nil =>
        cases acc with
        | nil =>
          cases ps with
          | nil => exact ⟨_, .inr (.inl ⟨e, b, k, ey, sub _ _ eb, rfl⟩), ⟨[q], by simp, np' np, mo _ np al, .inr ⟨_, upd_same, rfl, rfl⟩⟩, inn (ps := []) e rfl rfl⟩
          | cons _ _ => simp at t
        | cons _ _ => simp at e1
      | cons u ks =>
        cases acc with
        | nil => simp at e1
        | cons q' kvs =>
          rw [List.map_cons, List.map_cons] at e1
          have hq : keyOf q'.1 = some (.s u.1) := by rw [(List.cons.inj e1).1]; exact keyOf_kkD (.s u.1)
          obtain ⟨q1, q2⟩ := q'
          simp only [askable] at ha
          rw [hq] at ha
          cases ha
    · have pk := putK_new (f := keysD) (mk := KK.t) (fun _ _ z => by cases z; rfl) (fun a => keyOf_kkD (.t a)) e1 hn (.ref q)
      refine ⟨_, .inl (.inr ⟨ks, k, b, e, ey, sub _ _ eb, len e1, rfl⟩), ⟨ps ++ [q], nd n e t, np' np, mo _ np al, .inr ⟨_, upd_same, by rw [pk]; exact km e1 rfl, by rw [pk]; exact vm t⟩⟩, inn e t (by rw [pk]; exact vm t)⟩
/-- the dict that grows at p, unknown at the base with all that stands in it -/
structure AtN (K : PySem.W.Frag) (p : Addr) (σb : L2.St) (Gb Hb : Hp) (ρb : Rho) (σ : L2.St) (G H : Hp) (ρ : Rho) (acc : Acc) : Prop where
  base : EnvR K Gb Hb σb ρb
  T : StpG K σb Gb Hb ρb σ G H ρ
  fr : ∀ a, a = p ∨ inner H p a → Hb a = none ∧ G a = none
  own : Own2 K G H p (.dict acc)
theorem AtN.put (A : AtN K p σb Gb Hb ρb σ G H ρ acc) {y : V} {kd d : D} {kk : KK} (hy : Rp K G y kd) (hk : keyOf kd = some kk) (ha : askable acc kk = true) (hn : dGet acc kk = none) (hl : acc.length < sizeLine) (hq : Own K G H q d) (hb : Hb q = none) (hg : G q = none) (hp : q ≠ p) (hi : ¬ inner H p q) :
    ∃ o, DPut' H p y (.ref q) (upd H p o) ∧ AtN K p σb Gb Hb ρb σ G (upd H p o) ρ (dPut acc kk d) := by
  obtain ⟨o, h1, h2, h3⟩ := own2_put A.T.env.sub A.own hy hk ha hn hl hq hp hi
  refine ⟨o, h1, A.base, A.T.updO o (A.fr p (.inl rfl)).1 (A.fr p (.inl rfl)).2 A.base, fun a m => ?_, h2⟩
  rcases m with m | m
  · exact A.fr a (.inl m)
  · rcases h3 a m with z | z
    · rw [z]; exact ⟨hb, hg⟩
    · exact A.fr a (.inr z)
end
def put2 (acc : Acc) (k v : D) : Option Acc := match keyOf k with
  | some kk => if askable acc kk = true ∧ dGet acc kk = none ∧ acc.length < sizeLine then some (dPut acc kk v) else none
  | none => none
def owD : Sl → Option D
  | .ow d => some d
  | _ => none
def putRO (mk mv : M Sl) (acc : Acc) : M Acc := bindM mk fun k => bindM mv fun v => liftM ((owD v).bind (put2 acc k.d))
def dcOM (mi : M (List D)) (g : D → M Unit) (t : M Bool) (rest : Acc → M Acc) (vs : List Nat) : M Sl := bindM mi fun its => fun ρ =>
  if noOwn ρ vs = true then (gLoop g t rest vs its [] (wipeR ρ vs)).map fun p => (.o2 (.dict p.1), restR ρ p.2 vs) else none
variable {ρ : Rho}
theorem h0_putRO {mk mv : M Sl} {acc : Acc} {Φ : Acc → Rho → Prop} : H0 (putRO mk mv acc) ρ Φ = H0 mk ρ fun k ρ1 => H0 mv ρ1 fun v ρ2 => O0 ((owD v).bind (put2 acc k.d)) fun r => Φ r ρ2 := by
  unfold putRO; simp only [h0_bindM, h0_liftM]
theorem ho_putRO {mk mv : M Sl} {acc : Acc} {Φ : Acc → Rho → Prop} : Ho (putRO mk mv acc) ρ Φ = Ho mk ρ fun k ρ1 => Ho mv ρ1 fun v ρ2 => Oo ((owD v).bind (put2 acc k.d)) fun r => Φ r ρ2 := h0_putRO
theorem h0_dcOM {mi : M (List D)} {g : D → M Unit} {t : M Bool} {rest : Acc → M Acc} {vs : List Nat} {Φ : Sl → Rho → Prop} : H0 (dcOM mi g t rest vs) ρ Φ = H0 mi ρ fun its ρ1 => noOwn ρ1 vs = true ∧ H0 (gLoop g t rest vs its []) (wipeR ρ1 vs) fun acc ρ2 => Φ (.o2 (.dict acc)) (restR ρ1 ρ2 vs) := by
  unfold dcOM; rw [h0_bindM]
  congr; funext its ρ1
  simp only [h0_oo]
  rw [o0_if, o0_map]
theorem ho_dcOM {mi : M (List D)} {g : D → M Unit} {t : M Bool} {rest : Acc → M Acc} {vs : List Nat} {Φ : Sl → Rho → Prop} : Ho (dcOM mi g t rest vs) ρ Φ = Ho mi ρ fun its ρ1 => noOwn ρ1 vs = true ∧ Ho (gLoop g t rest vs its []) (wipeR ρ1 vs) fun acc ρ2 => Φ (.o2 (.dict acc)) (restR ρ1 ρ2 vs) := h0_dcOM
end Fx
namespace Fx
open PySem PySem.Spec PyProof.Rows L2
/-- at q stands a dict with n entries -/
def LenAt (q : Addr) (n : Nat) (h : Heap) : Prop := (q == sysModules) = false ∧ ∃ (o : Obj) (es : Array DictEntry) (ep : Nat), h.get? q = some o ∧ o.ExactDict ∧ o.data = .dict es ep ∧ es.size = n
section
variable {prog : Program} {w : World} {A : Around} {E : Value → Shared → Prop} {s : Shared}
def nkK : Key → NestedKey
  | .inl i => .num i
  | .inr x => .text x
end
/-- facts of the heap that a walk may ask for -/
def NdH (H : Hp) : Prop := ∀ a, (∀ ks, H a = some (.dK ks) → (ks.map (·.1)).Nodup) ∧ ∀ ks, H a = some (.dT ks) → (ks.map (·.1)).Nodup
section
variable {X : Cx} {pins : List (Addr × Obj)} {σ : L2.St} {H : Hp} {s : Shared}
/-- what len may be asked of -/
def HasLen (H : Hp) (q : Addr) (n : Nat) : Prop := (∃ ks, H q = some (.dK ks) ∧ n = ks.length) ∨ (∃ ks, H q = some (.dT ks) ∧ n = ks.length) ∨ H q = some (.ext (LenAt q n)) ∧ n ≤ sizeLine
/-- a value that is a key by itself, or a tuple of such -/
def KeyVal (H : Hp) (y : V) (k : NestedKey) : Prop := (∃ c : Key, y = kV c ∧ k = nkK c) ∨ ∃ (b : Addr) (ks : List Key), y = .ref b ∧ H b = some (.tup (ks.map kV)) ∧ k = .tup (ks.map nkK)
end
end Fx
namespace Fx
open PySem PySem.Spec PyProof.Rows L2
abbrev ownS : Str := "own"
/-- the i-th key of a dict's content -/
def KeyAt (H : Hp) : HO → Nat → V → Prop
  | .dK ks, i, y => ∃ k v, ks[i]? = some (k, v) ∧ y = kV k
  | .dT ks, i, y => ∃ k v b, ks[i]? = some (k, v) ∧ y = .ref b ∧ H b = some (.tup (k.map kV))
  | _, _, _ => False
def Nd : HO → Prop
  | .dK ks => (ks.map (·.1)).Nodup
  | .dT ks => (ks.map (·.1)).Nodup
  | _ => True
theorem NdH.at {H : Hp} {a : Addr} {u : HO} (h : NdH H) (e : H a = some u) : Nd u := by
  cases u with
  | dK ks => exact (h a).1 ks e
  | dT ks => exact (h a).2 ks e
  | _ => trivial
theorem KeyAt.val {H : Hp} {u : HO} {i : Nat} {y : V} (h : KeyAt H u i y) : ∃ k, KeyVal H y k := by
  cases u with
  | dK ks => obtain ⟨k, v, _, rfl⟩ := h; exact ⟨_, .inl ⟨k, rfl, rfl⟩⟩
  | dT ks => obtain ⟨k, v, b, _, rfl, e⟩ := h; exact ⟨_, .inr ⟨b, k, rfl, e, rfl⟩⟩
  | _ => exact h.elim
theorem HasLen.put {H : Hp} {q D : Addr} {n : Nat} {o : HO} (h : HasLen H q n) (hD : H D = none) : HasLen (upd H D o) q n := by
  have ne : ∀ {w}, H q = some w → upd H D o q = some w := fun e => by rw [upd_ne (ne_of_none e hD)]; exact e
  rcases h with ⟨ks, e, z⟩ | ⟨ks, e, z⟩ | ⟨e, z⟩
  · exact .inl ⟨ks, ne e, z⟩
  · exact .inr (.inl ⟨ks, ne e, z⟩)
  · exact .inr (.inr ⟨ne e, z⟩)
/-- what an inner dict must be -/
def InD (H : Hp) (q : Addr) (n : Nat) : Prop := ∃ kvs : List (List Key × V), (H q = some (.dT kvs) ∨ H q = some (.dK []) ∧ kvs = []) ∧ (∀ kv ∈ kvs, kv.1.head? ≠ some (.inr ownS)) ∧ kvs.length < sizeLine ∧ n = kvs.length
theorem InD.len {H : Hp} {q : Addr} {n : Nat} (h : InD H q n) : HasLen H q n := by
  obtain ⟨kvs, e | ⟨e, rfl⟩, _, _, z⟩ := h
  · exact .inr (.inl ⟨kvs, e, z⟩)
  · exact .inl ⟨[], e, z⟩
theorem InD.there {H : Hp} {q : Addr} {n : Nat} (h : InD H q n) : ∃ o, H q = some o ∧ ∀ xs, o ≠ .tup xs := by
  obtain ⟨kvs, e | ⟨e, _⟩, _⟩ := h
  · exact ⟨_, e, nofun⟩
  · exact ⟨_, e, nofun⟩
end Fx
namespace Fx
open PySem PySem.Spec PyProof.Rows L2
def keyFree : D → Bool
  | .tuple (.str x :: _) => !decide (x = ownS)
  | .tuple _ => true
  | _ => false
def innerOk : D → Bool
  | .dict kvs => (kvs.all fun e => keyFree e.1) && natLt kvs.length sizeLine
  | _ => false
def apartOk : D → Bool
  | .dict kvs => (kvs.all fun e => innerOk e.2) && natLt kvs.length sizeLine
  | _ => false
theorem InD.on {H H' : Hp} {q : Addr} {n : Nat} (h : InD H q n) (e : H' q = H q) : InD H' q n := by
  obtain ⟨kvs, a, b, c, d⟩ := h
  exact ⟨kvs, by rw [e]; exact a, b, c, d⟩
def apartM (i : Nat) : M Sl := fun ρ => match ρ[i]? with
  | some (some (.o2 d)) => if apartOk d = true then some (.fz (.bool true), ρ.set i none) else none
  | _ => none
theorem h0_apartM {ρ : Rho} {i : Nat} {Φ : Sl → Rho → Prop} : H0 (apartM i) ρ Φ = ∃ d, ρ[i]? = some (some (.o2 d)) ∧ apartOk d = true ∧ Φ (.fz (.bool true)) (ρ.set i none) := by
  apply propext
  unfold apartM
  constructor
  · rintro ⟨r, ρ', h, p⟩
    simp only at h
    split at h
    · rename_i d e
      obtain ⟨ok, e2⟩ := ite_some h
      cases e2
      exact ⟨d, e, ok, p⟩
    · cases h
  · rintro ⟨d, e, ok, p⟩
    refine ⟨_, _, ?_, p⟩
    simp only [e]
    exact if_pos ok
theorem ho_apartM {ρ : Rho} {i : Nat} {Φ : Sl → Rho → Prop} : Ho (apartM i) ρ Φ = ∃ d, ρ[i]? = some (some (.o2 d)) ∧ apartOk d = true ∧ Φ (.fz (.bool true)) (ρ.set i none) := h0_apartM
end Fx
namespace Fx
open PySem PySem.Spec PyProof.Rows L2
def isBD : D → D → Option Sl
  | .bool a, .bool b => some (.fz (.bool (decide (a = b))))
  | _, _ => none
def notBD : D → D → Option Sl
  | .bool a, .bool b => some (.fz (.bool (!decide (a = b))))
  | _, _ => none
theorem o_isBD {a b : Bool} {Φ : Sl → Prop} : Oo (isBD (.bool a) (.bool b)) Φ = Φ (.fz (.bool (decide (a = b)))) := o0_some
theorem o_notBD {a b : Bool} {Φ : Sl → Prop} : Oo (notBD (.bool a) (.bool b)) Φ = Φ (.fz (.bool (!decide (a = b)))) := o0_some
end Fx
namespace Fx
open PySem PySem.Spec PyProof.Rows L2
end Fx
namespace FxZ
open PySem
open PySem.W (kdx_alive)
abbrev HeldAt (h : Heap) (z TI TO T : Addr) (f b : Bool) : Prop :=
  h.get? z = some { cls := .type "zip", dict := none, data := .fields #[rawInt T, .bool f, .bool b, .ref TI, .ref TO], slots := #[] }
end FxZ
namespace FxZ
open PySem
/-- a strict zip behind i turns; ex: cells that its kept tuple is not -/
def ZSt (ex : List Addr) (z TI TO : Addr) (L : List Lane) (i : Nat) (h : Heap) : Prop :=
  TupAt h TI (L.map fun l => .ref l.it) ∧ (∀ l ∈ L, l.St i h) ∧ ((ZipAt h z TI TO true .none ∧ ∃ old : List Value, old.length = L.length ∧ TupAt h TO old) ∨
    ∃ T f oT, HeldAt h z TI TO T f true ∧ h.get? T = some oT ∧ T ≠ z ∧ (∀ l ∈ L, T ≠ l.it) ∧ T ∉ ex)
section
variable {prog : Program} {w : World} {A : Around} {E : Value → Shared → Prop} {s : Shared}
theorem ZSt.keep {ex : List Addr} {z TI TO : Addr} {L : List Lane} {i : Nat} {h h' : Heap} (D : ∀ A : Around, A.handled = none → ∀ l ∈ L, l.Ok prog w A) (hh : A.handled = none) (st : ZSt ex z TI TO L i h) (k : ∀ b o, b ∉ ex → h.get? b = some o → h'.get? b = some o) (x1 : z ∉ ex) (x2 : TI ∉ ex) (x3 : TO ∉ ex) (x4 : ∀ l ∈ L, ∀ b ∈ l.fp, b ∉ ex) :
    ZSt ex z TI TO L i h' := by
  obtain ⟨a, b, c⟩ := st
  refine ⟨k _ _ x2 a, fun l hl => (D A hh l hl).frame _ _ _ (b l hl) fun c hc o e => k c o (x4 l hl c hc) e, ?_⟩
  rcases c with ⟨c1, old, c2, c3⟩ | ⟨T, f, oT, c1, c2, c3, c4, c5⟩
  · exact .inl ⟨k _ _ x1 c1, old, c2, k _ _ x3 c3⟩
  · exact .inr ⟨T, f, oT, k _ _ x1 c1, k _ _ c5 c2, c3, c4, c5⟩
end
end FxZ
namespace Fx
open PySem PySem.Spec PyProof.Rows L2 FxZ
end Fx
namespace Fx
open PySem PySem.Spec PyProof.Rows L2 FxZ
/-- a new container of one's own from some values -/
def owM (f : List D → Option D) (m : M (List D)) : M Sl := bindM m fun ds => liftM ((f ds).map Sl.ow)
end Fx
namespace FxZ
open PySem PySem.Spec PyProof.Rows L2
end FxZ
namespace Fx
open PySem PySem.Spec PyProof.Rows L2 FxZ
end Fx
namespace Fx
open PySem PySem.Spec PyProof.Rows L2
section
variable {X : Cx} {o e f : Expr} {apos cpos : Pos} {td ty tx : TE}
def terM (f : D → D → D → Option D) (a b c : M Sl) : M Sl := bindM a fun x => bindM b fun y => bindM c fun z => liftM ((f x.d y.d z.d).map .fz)
end
end Fx
namespace Fx
open PySem PySem.Spec PyProof.Rows L2
def tNx (K : PySem.W.Frag) (ws : List Nat) (m : M Fl) (Nx : L2.St → Hp → Prop) (σ : L2.St) (H : Hp) : Prop := ∃ G ρ ρ', EnvR K G H σ ρ ∧ m ρ = some (.nx, ρ') ∧ ∀ σ' H' G', StpH K ws σ G H ρ σ' G' H' ρ' → Nx σ' H'
theorem tNx.mono {K : PySem.W.Frag} {ws : List Nat} {m : M Fl} {A B : L2.St → Hp → Prop} {σ : L2.St} {H : Hp} (h : tNx K ws m A σ H) (i : ∀ σ H, A σ H → B σ H) : tNx K ws m B σ H := by
  obtain ⟨G, ρ, ρ', E, e, q⟩ := h
  exact ⟨G, ρ, ρ', E, e, fun σ' H' G' S => i _ _ (q σ' H' G' S)⟩
end Fx
namespace Fx
open PySem PySem.Spec PyProof.Rows L2
variable {ρ : Rho}
theorem h0_owM {f : List D → Option D} {m : M (List D)} {Φ : Sl → Rho → Prop} : H0 (owM f m) ρ Φ = H0 m ρ fun ds ρ1 => O0 (f ds) fun d => Φ (.ow d) ρ1 := by
  unfold owM; rw [h0_bindM]
  congr; funext ds ρ1
  rw [h0_liftM, o0_map]
theorem ho_owM {f : List D → Option D} {m : M (List D)} {Φ : Sl → Rho → Prop} : Ho (owM f m) ρ Φ = Ho m ρ fun ds ρ1 => Oo (f ds) fun d => Φ (.ow d) ρ1 := h0_owM
theorem h0_terM {f : D → D → D → Option D} {a b c : M Sl} {Φ : Sl → Rho → Prop} : H0 (terM f a b c) ρ Φ = H0 a ρ fun x ρ1 => H0 b ρ1 fun y ρ2 => H0 c ρ2 fun z ρ3 => O0 (f x.d y.d z.d) fun d => Φ (.fz d) ρ3 := by
  unfold terM; rw [h0_bindM]
  congr; funext x ρ1
  rw [h0_bindM]
  congr; funext y ρ2
  rw [h0_bindM]
  congr; funext z ρ3
  rw [h0_liftM, o0_map]
theorem ho_terM {f : D → D → D → Option D} {a b c : M Sl} {Φ : Sl → Rho → Prop} : Ho (terM f a b c) ρ Φ = Ho a ρ fun x ρ1 => Ho b ρ1 fun y ρ2 => Ho c ρ2 fun z ρ3 => Oo (f x.d y.d z.d) fun d => Φ (.fz d) ρ3 := h0_terM
end Fx
namespace Fx
open PySem PySem.Spec PyProof.Rows L2
def hoQ := And.intro (@ho_dcOM) (And.intro (@ho_putRO) (And.intro (@ho_apartM) (And.intro (@ho_owM) (@ho_terM))))
def vP := And.intro (@varP_o2) (And.intro (@varP_fz) (And.intro (@varP_ow) (And.intro (@getP_some) (And.intro (@blP_b) (And.intro (@flP_nx) (And.intro (@flP_bk) (And.intro (@flP_ct) (And.intro (@flP_rt) (And.intro (@retP_some) (And.intro (@parP_2) (And.intro (@ownP_some) (And.intro (@ownLP_some) (And.intro (@setKP_int) (And.intro (@loP_nx) (And.intro (@loP_ct) (And.intro (@loP_bk) (And.intro (@loP_rt) (And.intro (@rtP_rt) (And.intro (@rtP_nx) (And.intro (@rmP_rt) (And.intro (@rmP_nx) (And.intro (@sl_fz) (And.intro (@sl_ow) (And.intro (@sl_o2) (And.intro (@o_memL) (And.intro (@o_memT) (And.intro (@fl_int) (And.intro (@fl_str) (And.intro (@fl_bool) (And.intro (@o_memAL) (And.intro (@o_memAT) (And.intro (@reprA_int) (And.intro (@reprA_list) (And.intro (@reprA_tup) (And.intro (@rnP_rt) (And.intro (@rnP_nx) (And.intro (@parP3_3) (And.intro (@o_sortedBL) (And.intro (@o_sortedBS) (And.intro (@o_sortedBD) (And.intro (@o_isBD) (And.intro (@o_notBD) (And.intro (@getFP_fz) (@getFP_ow))))))))))))))))))))))))))))))))))))))))))))
def cP := And.intro (@List.getElem?_cons_zero.{0}) (And.intro (@List.getElem?_cons_succ.{0}) (And.intro (@List.set_cons_zero.{0}) (And.intro (@List.set_cons_succ.{0}) (And.intro (@List.length_cons.{0}) (And.intro (@List.length_nil.{0}) (And.intro (@decide_eq_true_eq) (And.intro (@true_and) (And.intro (@and_true) (And.intro (@Bool.not_true) (And.intro (@Bool.not_false) (And.intro (@Bool.false_eq_true) (And.intro (@decide_true) (And.intro (@decide_false) (And.intro (@and_self) (And.intro (@List.getD_cons_succ.{0}) (@List.getD_cons_zero.{0}))))))))))))))))
end Fx
namespace Fx
open PySem PySem.Spec PyProof.Rows L2
end Fx
namespace Fx
open PySem PySem.Spec PyProof.Rows L2
end Fx
namespace Fx
open PySem PySem.Spec PyProof.Rows L2
end Fx
namespace Fx
open PySem PySem.Spec PyProof.Rows PyProof.V L2
end Fx
namespace Fx
open PySem PySem.Spec PyProof.Rows PyProof.V L2
end Fx
namespace Fx
open PySem PySem.Spec PyProof.Rows L2
end Fx
namespace Fx
open PySem PySem.Spec PyProof.Rows L2
end Fx
namespace Fx
open PySem PySem.Spec PyProof.Rows L2
end Fx
namespace Fx
open PySem PySem.Spec PyProof.Rows L2
end Fx
namespace Fx
open PySem PySem.Spec PyProof.Rows L2
end Fx
namespace Fx
open PySem PySem.Spec PyProof.Rows L2
section
variable {P : Program} {w : World} {h : Heap} {a : Addr} {K : PySem.W.Frag} {G H : Hp}
def RRs (P : Program) (w : World) (h : Heap) (us : List Value) (ds : List PyData) : Prop :=
  ∃ as bs, ReadsAll h us ds as ∧ ReadAtMost h (PyData.depthAll ds) bs ∧ ReprAllK P w bs h (PyData.depthAll ds) us (PyData.shownAll ds)
structure RR (P : Program) (w : World) (h : Heap) (u : Value) (d : PyData) : Prop where
  rd : ∃ as bs, Reads h u d as ∧ ReadAtMost h d.depth bs ∧ ReprK P w bs h d.depth u d.shown
  by_ : ∀ a, u = .ref a → ∃ T idr, ShowsBy P w h a d T idr
theorem rrs_nil : RRs P w h [] [] :=
  ⟨[], [], .nil, fun b hb => (nomatch hb), by rw [PyData.shownAll]; exact .nil⟩
theorem rrs_cons {u : Value} {us : List Value} {d : PyData} {ds : List PyData} (x : RR P w h u d) (y : RRs P w h us ds) : RRs P w h (u :: us) (d :: ds) := by
  obtain ⟨as1, bs1, r1, m1, k1⟩ := x.rd
  obtain ⟨as2, bs2, r2, m2, k2⟩ := y
  have l1 : d.depth ≤ PyData.depthAll (d :: ds) := by rw [PyData.depthAll]; exact Nat.le_max_left _ _
  have l2 : PyData.depthAll ds ≤ PyData.depthAll (d :: ds) := by rw [PyData.depthAll]; exact Nat.le_max_right _ _
  refine ⟨as1 ++ as2, bs1 ++ bs2, .cons r1 r2, (m1.mono l1).append (m2.mono l2), ?_⟩
  rw [PyData.shownAll]
  exact .cons ((k1.more fun b hb => List.mem_append.mpr (.inl hb)).level_le l1) (k2.more_le (fun b hb => List.mem_append.mpr (.inr hb)) l2)
theorem rr_flat {v : V} {u : Value} {d : D} (p : Rp K G v d) (f : flatD d = true) (r : RelV v u) (hs : d.py.showable = true) (hz : d.py.shown.length ≤ sizeLine) : RR P w h u d.py := by
  cases d with
  | none =>
    cases rp_non p; cases r
    rw [Dt.py]
    exact ⟨⟨[], [], .none, fun b hb => (nomatch hb), by rw [PyData.shown]; exact ReprK.of_is ReprIs.none _ _ _⟩, fun a e => by cases e⟩
  | bool j =>
    cases rp_bl p; cases r
    rw [Dt.py]
    exact ⟨⟨[], [], .bool j, fun b hb => (nomatch hb), by rw [PyData.shown]; exact ReprK.of_is (ReprIs.bool j) _ _ _⟩, fun a e => by cases e⟩
  | int j =>
    cases rp_int p; obtain ⟨t, rfl⟩ := r
    rw [Dt.py] at hs hz ⊢
    exact ⟨⟨[], [], .int j t, fun b hb => (nomatch hb), by rw [PyData.shown]; exact ReprK.of_is (ReprIs.int t (by simpa [PyData.showable] using hs)) _ _ _⟩, fun a e => by cases e⟩
  | str j =>
    cases rp_str p; obtain ⟨t, rfl⟩ := r
    rw [Dt.py] at hs hz ⊢
    exact ⟨⟨[], [], .str j t, fun b hb => (nomatch hb), by rw [PyData.shown]; exact ReprK.of_is (ReprIs.str j t (by simpa only [PyData.shown] using hz)) _ _ _⟩, fun a e => by cases e⟩
  | _ => cases f
theorem rr_list {o : Obj} {its : List Value} {n : Nat} {ds : List PyData} (e1 : h.get? a = some o) (e2 : o.cls = .type "list") (e3 : o.data = .seq its.toArray n) (y : RRs P w h its ds) (hz : (PyData.list ds).shown.length ≤ sizeLine) : RR P w h (.ref a) (.list ds) := by
  obtain ⟨as, bs, r, m, k⟩ := y
  have rl : Reads h (.ref a) (.list ds) (a :: as) := .list e1 e2 e3 r
  have na : a ∉ bs := not_mem_of_deeper rl (by simp only [PyData.depth]; omega) m
  have hz' : (listText (PyData.shownAll ds)).length ≤ sizeLine := by simpa only [PyData.shown] using hz
  refine ⟨⟨_, a :: bs, rl, ReadAtMost.cons rl (by simp only [PyData.depth]; omega) m, ?_⟩, fun a' ea => ?_⟩
  · simp only [PyData.depth, PyData.shown]
    cases its with
    | nil =>
      cases r
      rw [PyData.shownAll, listText_nil]
      exact ReprK.listEmpty e1 e2 e3
    | cons x l => exact ReprK.list e1 e2 e3 na (by simpa using k.length_eq) fun i y e => k.item i y (by simpa using e)
  · cases ea
    refine ⟨_, _, F.slot_list_repr.toG, F.slot_list_str, F.slot_list_format, fun s k0 => ⟨o, k0 _ _ e1, e2⟩, fun A E s Q hg hu k0 q => ?_⟩
    rw [PyData.depth] at hu
    rw [PyData.shown] at q
    cases its with
    | nil =>
      cases r
      rw [PyData.shownAll, listText_nil] at q
      exact call_list_repr_empty ⟨o, k0 _ _ e1, e2⟩ (k0 _ _ e1) e3 (q s.heap _ _ fun _ _ e => e)
    | cons x l => exact call_list_reprK e1 e2 e3 na (by simpa using k.length_eq) (fun i y e => k.item i y (by simpa using e)) hg (fun b _ => Clear.nil b) hu k0 q hz'
theorem rr_tuple {o : Obj} {its : List Value} {n : Nat} {ds : List PyData} (e1 : h.get? a = some o) (e2 : o.cls = .type "tuple") (e3 : o.data = .seq its.toArray n) (y : RRs P w h its ds) (hz : (PyData.tuple ds).shown.length ≤ sizeLine) : RR P w h (.ref a) (.tuple ds) := by
  obtain ⟨as, bs, r, m, k⟩ := y
  have rl : Reads h (.ref a) (.tuple ds) as := .tuple e1 e2 e3 r
  have na : a ∉ bs := not_mem_of_deeper rl (by simp only [PyData.depth]; omega) m
  have hz' : (tupleText (PyData.shownAll ds)).length ≤ sizeLine := by simpa only [PyData.shown] using hz
  refine ⟨⟨_, a :: bs, rl, ReadAtMost.cons rl (by simp only [PyData.depth]; omega) m, ?_⟩, fun a' ea => ?_⟩
  · simp only [PyData.depth, PyData.shown]
    exact ReprK.tuple e1 e2 e3 na k
  · cases ea
    refine ⟨_, _, F.slot_tuple_repr, F.slot_tuple_str, F.slot_tuple_format, fun s k0 => ⟨o, k0 _ _ e1, e2⟩, fun A E s Q hg hu k0 q => ?_⟩
    rw [PyData.depth] at hu
    rw [PyData.shown] at q
    exact call_tuple_reprK e1 e2 e3 na k hg (fun b _ => Clear.nil b) hu k0 q hz'
theorem rr_dict {o : Obj} {es : Array DictEntry} {n : Nat} {kvs : List (PyData × PyData)} (e1 : h.get? a = some o) (e2 : o.cls = .type "dict") (e3 : o.data = .dict es n) (sy : (a == sysModules) = false) (x : RRs P w h (es.toList.map (·.key)) (kvs.map (·.1))) (y : RRs P w h (es.toList.map (·.val)) (kvs.map (·.2)))
    (hz : (PyData.dict kvs).shown.length ≤ sizeLine) : RR P w h (.ref a) (.dict kvs) := by
  obtain ⟨as1, bs1, r1, m1, k1⟩ := x
  obtain ⟨as2, bs2, r2, m2, k2⟩ := y
  have rl : Reads h (.ref a) (.dict kvs) (a :: as1 ++ as2) := .dict e1 e2 e3 r1 r2
  have l1 := PyData.depthAll_keys_le kvs
  have l2 := PyData.depthAll_vals_le kvs
  have m : ReadAtMost h (PyData.depthKv kvs) (bs1 ++ bs2) := (m1.mono l1).append (m2.mono l2)
  have na : a ∉ bs1 ++ bs2 := not_mem_of_deeper rl (by simp only [PyData.depth]; omega) m
  have hz' : (dictText (PyData.shownKv kvs)).length ≤ sizeLine := by simpa only [PyData.shown] using hz
  have ke := ReprEntriesK.of_two es.toList _ _ (k1.more_le (fun b hb => List.mem_append.mpr (.inl hb)) l1) (k2.more_le (fun b hb => List.mem_append.mpr (.inr hb)) l2)
  rw [← PyData.shownKv_eq] at ke
  refine ⟨⟨_, a :: (bs1 ++ bs2), rl, ReadAtMost.cons rl (by simp only [PyData.depth]; omega) m, ?_⟩, fun a' ea => ?_⟩
  · simp only [PyData.depth, PyData.shown]
    exact ReprK.dict e1 e2 e3 sy na ke
  · cases ea
    refine ⟨_, _, F.slot_dict_repr, F.slot_dict_str, F.slot_dict_format, fun s k0 => ⟨o, k0 _ _ e1, e2⟩, fun A E s Q hg hu k0 q => ?_⟩
    rw [PyData.depth] at hu
    rw [PyData.shown] at q
    exact call_dict_reprK e1 e2 e3 sy na ke hg (fun b _ => Clear.nil b) hu k0 q hz'
/-- keys that are ints or texts -/
theorem rr_key {k : Key} {u : Value} (e : (mixKind P w).is k u = true) (hs : (keyD k).py.showable = true) (hz : (keyD k).py.shown.length ≤ sizeLine) : RR P w h u (keyD k).py := by
  rcases keyIs_shape (show keyIs k u = true from e) with ⟨i, t, rfl, rfl⟩ | ⟨x, t, rfl, rfl⟩
  · exact rr_flat (K := []) (G := fun _ => none) (.int i) rfl ⟨t, rfl⟩ hs hz
  · exact rr_flat (K := []) (G := fun _ => none) (.str x) rfl ⟨t, rfl⟩ hs hz
theorem showAll_cons {d : PyData} {ds : List PyData} (h : PyData.showableAll (d :: ds) = true) : d.showable = true ∧ PyData.showableAll ds = true := by simpa [PyData.showableAll] using h
theorem sizeAll_cons {d : PyData} {ds : List PyData} (h : ∀ t ∈ PyData.shownAll (d :: ds), t.length ≤ sizeLine) : d.shown.length ≤ sizeLine ∧ ∀ t ∈ PyData.shownAll ds, t.length ≤ sizeLine := by
  rw [PyData.shownAll] at h
  exact ⟨h _ List.mem_cons_self, fun t ht => h t (List.mem_cons_of_mem _ ht)⟩
theorem rrs_keysK {es : List DictEntry} {ks : List (Key × V)} {vs : List (Key × Value)} {kvs : List PyData} (p : Pairs (mixKind P w) es vs) (k : KV ks vs) (e : kvs = ks.map fun p => (keyD p.1).py) (hs : PyData.showableAll kvs = true) (hz : ∀ t ∈ PyData.shownAll kvs, t.length ≤ sizeLine) :
    RRs P w h (es.map (·.key)) kvs ∧ Vals (ks.map (·.2)) (es.map (·.val)) := by
  induction p generalizing ks kvs with
  | nil => cases k; subst e; exact ⟨rrs_nil, .nil⟩
  | @cons en kv es vs h1 h2 h3 ih =>
    cases k with
    | @cons q _ qs _ g1 g2 =>
      subst e
      obtain ⟨s1, s2⟩ := showAll_cons hs
      obtain ⟨z1, z2⟩ := sizeAll_cons hz
      obtain ⟨i1, i2⟩ := ih g2 rfl s2 z2
      exact ⟨rrs_cons (rr_key (by rw [g1.1]; exact h1) s1 z1) i1, .cons (show L2.RelV q.2 en.val from by rw [h2]; exact g1.2) i2⟩
theorem rrs_mix {ks : List Key} {us : List Value} (p : ItemsAre (mixKind P w) ks us) (hs : PyData.showableAll (ks.map fun k => (keyD k).py) = true) (hz : ∀ t ∈ PyData.shownAll (ks.map fun k => (keyD k).py), t.length ≤ sizeLine) : RRs P w h us (ks.map fun k => (keyD k).py) := by
  induction p with
  | nil => exact rrs_nil
  | cons h1 h2 ih =>
    obtain ⟨s1, s2⟩ := showAll_cons hs
    obtain ⟨z1, z2⟩ := sizeAll_cons hz
    exact rrs_cons (rr_key h1 s1 z1) (ih s2 z2)
theorem rr_keyT {k : List Key} {c : Addr} (e : (tupleKind (mixKind P w)).is h k c) (hs : (keysD k).py.showable = true) (hz : (keysD k).py.shown.length ≤ sizeLine) : RR P w h (.ref c) (keysD k).py := by
  obtain ⟨o, its, n, e1, e2, e3, e4⟩ := e
  have ep : (keysD k).py = .tuple (k.map fun k => (keyD k).py) := by
    show (Dt.tuple (k.map keyD)).py = _
    rw [Dt.py, Dt.pys_map, List.map_map]
    rfl
  rw [ep] at hs hz ⊢
  refine rr_tuple (its := its.toList) e1 e2 e3 (rrs_mix e4 (by simpa [PyData.showable] using hs) fun t ht => ?_) hz
  exact Nat.le_trans (tupleText_mem_le ht) (by simpa only [PyData.shown] using hz)
theorem rrs_keysT {ks : List (List Key × V)} {xs : List (List Key × Addr × Value)} {kvs : List PyData} (k : KT H ks xs) (i : ∀ x ∈ xs, (tupleKind (mixKind P w)).is h x.1 x.2.1) (e : kvs = ks.map fun p => (keysD p.1).py) (hs : PyData.showableAll kvs = true) (hz : ∀ t ∈ PyData.shownAll kvs, t.length ≤ sizeLine) :
    RRs P w h ((xs.map (entryOfKey (tupleKind (mixKind P w)))).map (·.key)) kvs ∧ Vals (ks.map (·.2)) ((xs.map (entryOfKey (tupleKind (mixKind P w)))).map (·.val)) := by
  induction k generalizing kvs with
  | nil => subst e; exact ⟨rrs_nil, .nil⟩
  | @cons p q ps qs g t ih =>
    subst e
    obtain ⟨s1, s2⟩ := showAll_cons hs
    obtain ⟨z1, z2⟩ := sizeAll_cons hz
    obtain ⟨i1, i2⟩ := ih (fun x hx => i x (List.mem_cons_of_mem _ hx)) rfl s2 z2
    have := i q List.mem_cons_self
    rw [← g.1] at this
    exact ⟨rrs_cons (rr_keyT this s1 z1) i1, .cons g.2.2 i2⟩
end
section
variable {X : Cx} {pins : List (Addr × Obj)} {σ : L2.St} {H G : Hp} {s : Shared}
theorem pye_fst (kvs : List (D × D)) : (Dt.pye kvs).map (·.1) = (kvs.map (·.1)).map Dt.py := by
  rw [Dt.pye_map, List.map_map, List.map_map]; rfl
theorem pye_snd (kvs : List (D × D)) : (Dt.pye kvs).map (·.2) = Dt.pys (kvs.map (·.2)) := by
  rw [Dt.pye_map, Dt.pys_map, List.map_map, List.map_map]; rfl
mutual
theorem Rp.rr (I : L2.Inv X pins σ H s) (sub : Same G H) : ∀ {v : V} {d : D}, Rp X.K G v d → ∀ {u : Value}, RelV v u → d.py.showable = true → d.py.shown.length ≤ sizeLine → RR X.prog X.w s.heap u d.py
  | _, _, .non, _, r, hs, hz => rr_flat (K := X.K) (G := G) .non rfl r hs hz
  | _, _, .bl b, _, r, hs, hz => rr_flat (K := X.K) (G := G) (.bl b) rfl r hs hz
  | _, _, .int b, _, r, hs, hz => rr_flat (K := X.K) (G := G) (.int b) rfl r hs hz
  | _, _, .str b, _, r, hs, hz => rr_flat (K := X.K) (G := G) (.str b) rfl r hs hz
  | _, _, .lst q t, u, r, hs, hz => by
    cases r
    obtain ⟨its, rv, ⟨o, n, e1, e2, _, e3⟩, _⟩ := I.list (sql_mono sub q)
    rw [Dt.py] at hs hz ⊢
    exact rr_list e1 e2 e3 (RpAll.rr I sub t rv (by simpa [PyData.showable] using hs) fun x hx => Nat.le_trans (listText_mem_le hx) (by simpa only [PyData.shown] using hz)) hz
  | _, _, .tup q t, u, r, hs, hz => by
    cases r
    obtain ⟨its, rv, ⟨o, e1, e2, n, e3⟩, _⟩ := I.tuple (sqt_mono sub q.sqt)
    rw [Dt.py] at hs hz ⊢
    exact rr_tuple e1 e2 e3 (RpAll.rr I sub t rv (by simpa [PyData.showable] using hs) fun x hx => Nat.le_trans (tupleText_mem_le hx) (by simpa only [PyData.shown] using hz)) hz
  | _, _, .dK (kvs := kvs) q k t, u, r, hs, hz => by
    cases r
    obtain ⟨z, sy, vs, rel, o, es, ep, e1, e2, e3, e4, e5, _⟩ := dk_rd I.hok (rd_mono sub q)
    rw [Dt.py] at hs hz ⊢
    obtain ⟨s1, s2⟩ := PyData.showableKv_split (Dt.pye kvs) (by simpa [PyData.showable] using hs)
    have hz' : (dictText (PyData.shownKv (Dt.pye kvs))).length ≤ sizeLine := by simpa only [PyData.shown] using hz
    obtain ⟨g1, g2⟩ := rrs_keysK (h := s.heap) e5 rel (by rw [pye_fst, k, List.map_map]; rfl) s1 fun x hx => let ⟨y, hy, hl⟩ := PyData.shownKv_key_le (Dt.pye kvs) x hx; Nat.le_trans hl (Nat.le_trans (dictText_mem_le hy) hz')
    refine rr_dict e1 e2.1 e3 sy g1 ?_ hz
    rw [pye_snd] at s2 ⊢
    exact RpAll.rr I sub t g2 s2 fun x hx => let ⟨y, hy, hl⟩ := PyData.shownKv_val_le (Dt.pye kvs) x (by rw [pye_snd]; exact hx); Nat.le_trans hl (Nat.le_trans (dictText_mem_le hy) hz')
  | _, _, .dT (kvs := kvs) q k t, u, r, hs, hz => by
    cases r
    obtain ⟨z, sy, xs, rel, o, es, ep, e1, e2, e3, e4, e5, _⟩ := dt_rd I.hok (rd_mono sub q)
    rw [Dt.py] at hs hz ⊢
    obtain ⟨s1, s2⟩ := PyData.showableKv_split (Dt.pye kvs) (by simpa [PyData.showable] using hs)
    have hz' : (dictText (PyData.shownKv (Dt.pye kvs))).length ≤ sizeLine := by simpa only [PyData.shown] using hz
    obtain ⟨g1, g2⟩ := rrs_keysT (h := s.heap) rel e5 (by rw [pye_fst, k, List.map_map]; rfl) s1 fun x hx => let ⟨y, hy, hl⟩ := PyData.shownKv_key_le (Dt.pye kvs) x hx; Nat.le_trans hl (Nat.le_trans (dictText_mem_le hy) hz')
    rw [← e4] at g1 g2
    refine rr_dict e1 e2.1 e3 sy g1 ?_ hz
    rw [pye_snd] at s2 ⊢
    exact RpAll.rr I sub t g2 s2 fun x hx => let ⟨y, hy, hl⟩ := PyData.shownKv_val_le (Dt.pye kvs) x (by rw [pye_snd]; exact hx); Nat.le_trans hl (Nat.le_trans (dictText_mem_le hy) hz')
  | _, _, .ob (c := c) (ns := ns) (ds := ds) _ _, _, _, hs, _ => absurd hs (by rw [Dt.obj_unshown]; exact Bool.false_ne_true)
theorem RpAll.rr (I : L2.Inv X pins σ H s) (sub : Same G H) : ∀ {vs : List V} {ds : List D}, RpAll X.K G vs ds → ∀ {us : List Value}, Vals vs us → PyData.showableAll (Dt.pys ds) = true → (∀ t ∈ PyData.shownAll (Dt.pys ds), t.length ≤ sizeLine) → RRs X.prog X.w s.heap us (Dt.pys ds)
  | _, _, .nil, _, .nil, _, _ => by rw [Dt.pys]; exact rrs_nil
  | _, _, .cons p t, _, .cons r rs, hs, hz => by
    rw [Dt.pys] at hs hz ⊢
    exact rrs_cons (Rp.rr I sub p r (showAll_cons hs).1 (sizeAll_cons hz).1) (RpAll.rr I sub t rs (showAll_cons hs).2 (sizeAll_cons hz).2)
end
end
section
variable {X : Cx}
/-- repr of anything -/
def reprX : List D → Option Sl
  | [.list ds] => if (Dt.list ds).showable = true ∧ (Dt.list ds).depth ≤ 60 ∧ (Dt.list ds).shown.length ≤ sizeLine then some (.fz (.str (Dt.list ds).shown)) else none
  | [.tuple ds] => if (Dt.tuple ds).showable = true ∧ (Dt.tuple ds).depth ≤ 60 ∧ (Dt.tuple ds).shown.length ≤ sizeLine then some (.fz (.str (Dt.tuple ds).shown)) else none
  | [.dict ds] => if (Dt.dict ds).showable = true ∧ (Dt.dict ds).depth ≤ 60 ∧ (Dt.dict ds).shown.length ≤ sizeLine then some (.fz (.str (Dt.dict ds).shown)) else none
  | xs => reprA xs
theorem repr_refX {pins : List (Addr × Obj)} {s : Shared} {σ : L2.St} {H G : Hp} {a : Addr} {d : D} {Q : VK} (I : L2.Inv X pins σ H s) (hg : X.A.guards = some []) (hu : X.A.units + 64 < cLine) (sub : Same G H) (p : Rp X.K G (.ref a) d)
    (h : d.showable = true ∧ d.depth ≤ 60 ∧ d.shown.length ≤ sizeLine) (q : Q (.str d.shown) H) : wpAny (model X.prog X.w) X.A (call (.builtin "repr") [.ref a]) (EP X pins σ Q) X.xe s := by
  rw [Dt.showable_py, Dt.depth_py, Dt.shown_py] at h
  rw [Dt.shown_py] at q
  obtain ⟨T, idr, S⟩ := (Rp.rr I sub p (u := .ref a) rfl h.1 h.2.2).by_ a rfl
  refine call_repr_slot (by omega) (S.typeIs s fun _ _ e => e) S.slotRepr (S.call X.A.in1 X.xe s _ hg ?_ (fun _ _ e => e) fun h' u tk hk => ⟨_, _, rfl, .str d.py.shown, H, I.kept hk, ⟨u, rfl⟩, q⟩)
  show X.A.units + 1 + d.py.depth < cLine
  omega
theorem cr_reprX (hg : X.A.guards = some []) (hu : X.A.units + 64 < cLine) : CallR X (.builtin "repr") (rLD X.K reprX) := by
  intro pins s σ H xs us Q I rv h
  obtain ⟨G, ds, r, sub, px, e, q⟩ := h
  unfold reprX at e
  split at e
  · obtain ⟨hz, rfl⟩ := ite_some e
    obtain ⟨x, rfl, p⟩ := rp1 px
    obtain ⟨a, ys, rfl, _, _⟩ := rp_list p
    obtain ⟨u, rfl, ru⟩ := vals1 rv
    cases ru
    exact repr_refX I hg hu sub p hz (q _ H G (.refl sub) (.str _))
  · obtain ⟨hz, rfl⟩ := ite_some e
    obtain ⟨x, rfl, p⟩ := rp1 px
    obtain ⟨a, ys, rfl, _, _⟩ := rp_tup p
    obtain ⟨u, rfl, ru⟩ := vals1 rv
    cases ru
    exact repr_refX I hg hu sub p hz (q _ H G (.refl sub) (.str _))
  · obtain ⟨hz, rfl⟩ := ite_some e
    obtain ⟨x, rfl, p⟩ := rp1 px
    obtain ⟨u, rfl, ru⟩ := vals1 rv
    have : ∃ a, x = .ref a := by cases p <;> exact ⟨_, rfl⟩
    obtain ⟨a, rfl⟩ := this
    cases ru
    exact repr_refX I hg hu sub p hz (q _ H G (.refl sub) (.str _))
  · exact cr_reprA hg hu pins s σ H xs us Q I rv ⟨G, _, r, sub, px, e, q⟩
end
end Fx
namespace Fx
open PySem PySem.Spec PyProof.Rows L2
end Fx
namespace Fx
open PySem PySem.Spec PyProof.Rows L2
end Fx
namespace Fx
open PySem PySem.Spec PyProof.Rows L2 HT
end Fx
namespace Fx
open PySem PySem.Spec PyProof.Rows L2
section
variable {K : PySem.W.Frag} {G H H' : Hp}
theorem ownAll_len : ∀ {ps : List Addr} {ds : List D}, OwnAll K G H ps ds → ps.length = ds.length
  | _, _, .nil => rfl
  | _, _, .cons _ t => by rw [List.length_cons, List.length_cons, ownAll_len t]
end
section
variable {K : PySem.W.Frag} {σ σ1 σ2 σb : L2.St} {G H G1 H1 G2 H2 Gb Hb : Hp} {ρ ρ1 ρ2 ρb : Rho} {p q : Addr} {d : D}
structure AtQ (K : PySem.W.Frag) (p : Addr) (σb : L2.St) (Gb Hb : Hp) (ρb : Rho) (σ : L2.St) (G H : Hp) (ρ : Rho) (d : D) : Prop where
  base : EnvR K Gb Hb σb ρb
  T : StpG K σb Gb Hb ρb σ G H ρ
  fr : ∀ a, a = p ∨ inner H p a → Hb a = none ∧ G a = none
  own : Own2 K G H p d
theorem AtQ.push {acc : List D} (A : AtQ K p σb Gb Hb ρb σ G H ρ (.list acc)) (hq : Own K G H q d) (hb : Hb q = none) (hg : G q = none) (hp : q ≠ p) (hi : ¬ inner H p q) :
    ∃ xs, H p = some (.lst xs) ∧ xs.length = acc.length ∧ AtQ K p σb Gb Hb ρb σ G (upd H p (.lst (xs ++ [.ref q]))) ρ (.list (acc ++ [d])) := by
  obtain ⟨ps, nd, np, al, e⟩ := id A.own
  refine ⟨_, e, by rw [List.length_map, ownAll_len al], A.base, A.T.updO _ (A.fr p (.inl rfl)).1 (A.fr p (.inl rfl)).2 A.base, fun a m => ?_, ps ++ [q], ?_, ?_, ?_, ?_⟩
  · rcases m with m | ⟨u, hu, mu⟩
    · exact A.fr a (.inl m)
    · rw [upd_same] at hu
      cases hu
      rcases List.mem_append.mp (show V.ref a ∈ ps.map V.ref ++ [V.ref q] from mu) with z | z
      · exact A.fr a (.inr ⟨_, e, z⟩)
      · have : a = q := by simpa using z
        rw [this]; exact ⟨hb, hg⟩
  · rw [List.nodup_append]
    refine ⟨nd, by simp, fun a h b h' => ?_⟩
    rw [List.mem_singleton] at h'
    subst h'
    intro z
    subst z
    exact hi ⟨_, e, mem_ref.mpr h⟩
  · intro h
    rcases List.mem_append.mp h with h | h
    · exact np h
    · rw [List.mem_singleton] at h; exact hp h.symm
  · refine OwnAll.snoc (al.mono (.refl _) fun a m u h => ?_) (hq.mono (.refl _) fun u h => ?_)
    · rw [upd_ne fun z => np (by rw [← z]; exact m)]; exact h
    · rw [upd_ne hp]; exact h
  · rw [upd_same, List.map_append]; rfl
end
end Fx
namespace Fx
open PySem PySem.Spec PyProof.Rows L2
end Fx
namespace Fx
open PySem PySem.Spec PyProof.Rows L2
end Fx
namespace Fx
open PySem PySem.Spec PyProof.Rows L2
/-- a set's entry's text -/
def inOf (e : Int × Value) : Int := match e.2 with
  | .int k _ => k
  | _ => 0
def GoodI (w : World) (e : Int × Value) : Prop := ∃ k u, e.2 = Value.int k u ∧ e.1 = hashInt k
/-- the payload of a set of texts, l its members in some order -/
structure TabI (w : World) (es : Array (Int × Value)) (t : SetTable) (l : List Int) : Prop where
  good : ∀ e ∈ es.toList, GoodI w e
  perm : (es.toList.map inOf).Perm l
  nd : l.Nodup
  small : es.size < scanBound
  fit : t.fits es.size = true
  ris : Ris t.place.toList
  led : w.params.followText "set-order" = true ∨ t.led = true
def SetI (w : World) (h : Heap) (a : Addr) (l : List Int) : Prop := ∃ o es ep t, h.get? a = some o ∧ o.ExactSet ∧ o.data = .set es ep t ∧ TabI w es t l
section
variable {P : Program} {w : World} {A : Around} {E : Value → Shared → Prop} {s : Shared} {a : Addr} {l : List Int}
theorem TabI.size {es : Array (Int × Value)} {t : SetTable} (T : TabI w es t l) : es.size = l.length := by
  rw [← T.perm.length_eq, List.length_map, Array.length_toList]
end
theorem SetI.at {w : World} {h h' : Heap} {a : Addr} {l : List Int} (S : SetI w h a l) (k : ∀ o, h.get? a = some o → h'.get? a = some o) : SetI w h' a l := by
  obtain ⟨o, es, ep, t, ho, r⟩ := S
  exact ⟨o, es, ep, t, k o ho, r⟩
end Fx
namespace Fx
open PySem PySem.Spec PyProof.Rows L2
end Fx
namespace Fx
open PySem PySem.Spec PyProof.Rows L2
end Fx
namespace Fx
open PySem PySem.Spec PyProof.Rows L2
end Fx
namespace Fx
open PySem PySem.Spec PyProof.Rows L2
section
variable {prog : Program} {w : World} {A : Around} {E : Value → Shared → Prop} {s : Shared}
/-- v is a pair of a tuple of whole numbers and an object -/
def PairL (P : Program) (w : World) (h : Heap) (v : Value) (ns : List Int) : Prop := ∃ a kb vb, v = .ref a ∧ IsTup h a #[.ref kb, .ref vb] ∧ IsTupleKey (intKind P w) h ns kb
def keyL (h : Heap) (v : Value) : List Int := TS.intsOf h ((DT.seqAt0 h (DT.refOf (some v))).getD .none)
theorem PairL.key {h : Heap} {v : Value} {ns : List Int} (x : PairL prog w h v ns) : keyL h v = ns := by
  obtain ⟨a, kb, vb, rfl, h1, h2⟩ := x
  show TS.intsOf h ((DT.seqAt0 h a).getD .none) = ns
  rw [DT.seqAt0_of h1]
  exact (tupInts_of (P := prog) (w := w) h2).ints
theorem PairL.keeps {h h' : Heap} {v : Value} {ns : List Int} (x : PairL prog w h v ns) (k : ∀ b o, h.get? b = some o → o.cls = .type "tuple" → h'.get? b = some o) : PairL prog w h' v ns := by
  obtain ⟨a, kb, vb, e, ⟨o, ho, hc, r⟩, ⟨o2, it, n, ho2, hc2, r2⟩⟩ := x
  exact ⟨a, kb, vb, e, ⟨o, k _ _ ho hc, hc, r⟩, ⟨o2, it, n, k _ _ ho2 hc2, hc2, r2⟩⟩
end
end Fx
namespace Fx
open PySem PySem.Spec PyProof.Rows L2
end Fx
namespace Fx
open PySem PySem.Spec PyProof.Rows L2
end Fx
namespace Fx
open PySem PySem.Spec PyProof.Rows L2
end Fx
namespace Fx
open PySem PySem.Spec PyProof.Rows L2
end Fx
namespace Fx
open PySem PySem.Spec PyProof.Rows L2
end Fx
namespace Fx
open PySem PySem.Spec PyProof.Rows L2
end Fx
namespace Fx
open PySem PySem.Spec PyProof.Rows L2
/-- an exception as data: its class's name, its one field -/
structure Exc where
  cls : Str
  pay : Option (Str × D)
inductive Fy where
  | fl (f : Fl)
  | ex (x : Exc)
def PayR (K : PySem.W.Frag) (G H : Hp) (d : Option Addr) : Option (Str × D) → Prop
  | none => True
  | some (f, p) => ∃ (dd : Addr) (fs : List (Str × V)) (v : V), d = some dd ∧ H dd = some (.xd fs) ∧ fs.lookup f = some v ∧ Rp K G v p
def ExcR (K : PySem.W.Frag) (mg : Str → Option Value) (G H : Hp) (cls : Value) (d : Option Addr) (x : Exc) : Prop := ∃ C, mg x.cls = some (.ref C) ∧ cls = .ref C ∧ PayR K G H d x.pay
def EndY (K : PySem.W.Frag) (mg : Str → Option Value) (ws : List Nat) (W : WX) (D : Ends) (σ : L2.St) (G H : Hp) (ρ ρ' : Rho) : Fy → Prop
  | .fl .nx => ∀ σ' H' G', StpH K ws σ G H ρ σ' G' H' ρ' → D.nx σ' H'
  | .fl .bk => ∀ σ' H' G', StpH K ws σ G H ρ σ' G' H' ρ' → D.bk σ' H'
  | .fl .ct => ∀ σ' H' G', StpH K ws σ G H ρ σ' G' H' ρ' → D.ct σ' H'
  | .fl (.rt r) => ∀ v σ' H' G', StpH K ws σ G H ρ σ' G' H' ρ' → ResS K σ ρ σ' ρ' G' H H' v r → D.rt v H'
  | .ex x => ∀ cls d σ' H' G', StpH K ws σ G H ρ σ' G' H' ρ' → ExcR K mg G' H' cls d x → W cls d σ' H'
section
variable {K : PySem.W.Frag} {mg : Str → Option Value} {ws us vs : List Nat} {W : WX} {D : Ends} {σ σ1 : L2.St} {G H G1 H1 : Hp} {ρ ρ1 ρ' : Rho} {fy : Fy}
theorem EndY.after (q : EndY K mg vs W D σ G H ρ ρ' fy) (A : StpH K us σ G H ρ σ1 G1 H1 ρ1) (E : EnvR K G H σ ρ) (hv : ∀ i ∈ us ++ ws, i ∈ vs) : EndY K mg ws W D σ1 G1 H1 ρ1 ρ' fy := by
  match fy, q with
  | .fl .nx, q => exact fun σ2 H2 G2 S2 => q σ2 H2 G2 ((A.trans E S2).mono hv)
  | .fl .bk, q => exact fun σ2 H2 G2 S2 => q σ2 H2 G2 ((A.trans E S2).mono hv)
  | .fl .ct, q => exact fun σ2 H2 G2 S2 => q σ2 H2 G2 ((A.trans E S2).mono hv)
  | .fl (.rt r), q => exact fun v σ2 H2 G2 S2 rv => q v σ2 H2 G2 ((A.trans E S2).mono hv) (rv.back A)
  | .ex x, q => exact fun cls d σ2 H2 G2 S2 e => q cls d σ2 H2 G2 ((A.trans E S2).mono hv) e
end
end Fx
namespace Fx
open PySem PySem.Spec PyProof.Rows PySem.W PySem.Calls PySem.HandSPX
open L2 (Room)
def xiA (f : Str) (p1 p2 : Pos) : Arguments := { posonlyargs := [], args := [{ arg := "self", annotation := none, pos := p1 }, { arg := f, annotation := none, pos := p2 }], vararg := none, kwonlyargs := [], kw_defaults := [], kwarg := none, defaults := [] }
def xiB (f msg : Str) (p0 p1 p2 p3 p4 p5 p6 p7 p8 q1 q2 q3 q4 : Pos) : List Stmt :=
  [.Expr (.Call (.Attribute (.Call (.Name "super" p0) [] [] p1) "__init__" p2) [.JoinedStr [.Constant (.str msg) 0 p3, .FormattedValue (.Name f p4) (-1) none p5] p6] [] p7) p8, .Assign [.Attribute (.Name "self" q1) f q2] (.Name f q3) q4]
def xiS (f : Str) : Scope := { kind := .function, names := [(PySem.Str.ofString "self", .local), (f, .local), (PySem.Str.ofString "__class__", .free), (PySem.Str.ofString "super", .globalImplicit)], isGenerator := false, isCoroutine := false, more := [] }
abbrev veBases : List Value := [.type "ValueError", .type "Exception", .type "BaseException", .type "object"]
/-- of the field's name -/
structure FName (f : Str) : Prop where
  ls : (xiS f).names.lookup ("self" : Str) = some .local
  lf : (xiS f).names.lookup f = some .local
  lc : (xiS f).names.lookup ("__class__" : Str) = some .free
  lu : (xiS f).names.lookup ("super" : Str) = some .globalImplicit
  ne : f ≠ "self"
  nd : (f == ("__debug__" : Str)) = false
theorem fname_fault : FName "fault" := ⟨by decide, by decide, by decide, by decide, by decide, by decide⟩
theorem fname_side : FName "side" := ⟨by decide, by decide, by decide, by decide, by decide, by decide⟩
theorem fname_number : FName "number" := ⟨by decide, by decide, by decide, by decide, by decide, by decide⟩
theorem fname_name : FName "name" := ⟨by decide, by decide, by decide, by decide, by decide, by decide⟩
/-- what the written part says of such a class, at C, and of its __init__, at fI; its cell at cc, its code at cda -/
structure XTxt (P : Program) (K : Frag) (mg : Str → Option Value) (c f : Str) (C fI : Addr) : Prop where
  fn0 : FName f
  gC : mg c = some (.ref C)
  ms : mg "super" = none
  cls : ∃ nm q N bs bm sn sub ab col dd k0 k1 k2 k3 k5, K.lookup C = some (excClassObj nm q C N bs bm true sn sub ab col dd k0 k1 k2 k3 k5 "ValueError.__new__") ∧ refsVE bm = true
  ini : excInitIn K C veBases "ValueError.__new__" = true
  sa : findIn K (.ref C) "__setattr__" = some (some (.builtin "object.__setattr__"))
  noN : findIn K (.ref C) f = some none
  iC : findIn K (.ref C) "__init__" = some (some (.ref fI))
  tC : typeIn K (.ref fI) = some (.type "function")
  kC : keepIn K (.ref C) = true
  exC : subIn K (.ref C) (.type "BaseException") = some true
  veC : subIn K (.ref C) (.type "ValueError") = some true
  tyC : typeIn K (.ref C) = some (.type "type")
  mC : mroIn K C (.ref C) = some true
  sup : ks_superIn K C C "__init__" = some (some (.builtin "ValueError.__init__"))
  st : nsIn K cStatics "thirdparty.any" = some none
  top : (P.main.scope.names.lookup ("super" : Str)).isSome = false
  fn : ∃ (oc : Value) (od : Option Addr) (qual : Str) (doc pm : Value) (an : Option Addr) (ct : Value) (osl : Array (Option Value)) (p1 p2 a0 a1 a2 a3 a4 a5 a6 a7 a8 q1 q2 q3 q4 : Pos) (msg : Str) (cda cc : Addr),
    K.lookup fI = some ⟨oc, od, .func (ksFn "__init__" qual (xiA f p1 p2) (xiB f msg a0 a1 a2 a3 a4 a5 a6 a7 a8 q1 q2 q3 q4) (xiS f) .none .none doc pm an (.ref cda) ct cc), osl⟩ ∧ codeIn K (.ref cda) qual = true ∧ msg.length ≤ 100 ∧ (a2.endLine == a7.line) = true ∧
    (∀ (s : Shared) (u v : Value), BindsTo s (ksFn "__init__" qual (xiA f p1 p2) (xiB f msg a0 a1 a2 a3 a4 a5 a6 a7 a8 q1 q2 q3 q4) (xiS f) .none .none doc pm an (.ref cda) ct cc) ⟨[u, v], []⟩ [("self", u), (f, v)]) ∧
    (∃ (ccl : Value) (cdd : Option Addr) (vs : Array Value) (ccs : Array (Option Value)) (file : Str) (tf : Tok), K.lookup cda = some ⟨ccl, cdd, .fields vs, ccs⟩ ∧ vs[2]? = some (.str file tf) ∧ ((P.main.file : Str) == file) = true) ∧
    ∃ (cl : Value) (cld : Option Addr) (csl : Array (Option Value)), K.lookup cc = some ⟨cl, cld, .cell (some (.ref C)), csl⟩
/-- a made one -/
structure XMade (f : Str) (h h' : Heap) (e C d : Addr) (v : Value) : Prop where
  keep : ∀ b o, h.get? b = some o → h'.get? b = some o
  new : h.objs.size ≤ e
  obj : ∃ oe vs, h'.get? e = some oe ∧ oe.cls = .ref C ∧ oe.dict = some d ∧ oe.data = .fields vs ∧ vs[1]? = some .none
  dbig : h.objs.size ≤ d
  dne : d ≠ e
  ns : h'.Ns1 d (fun y => if y = f then some v else none)
/-- a value that an f-string takes: some text of at most n signs -/
def FmtV (P : Program) (w : World) (h : Heap) (v : Value) : Prop := ∀ (A : Around) (E : Value → Shared → Prop) (Q : Value → Shared → Prop) (s : Shared), A.units + 64 < cLine → (∀ b o, h.get? b = some o → s.heap.get? b = some o) →
  (∀ (m : Str) (u tk : Tok), m.length ≤ 100000 → Q (.str m u) { s with toks := tk }) → wpAny (model P w) A (formatField v Str.empty) Q E s
theorem methodCall_ln {M : Model} {A : Around} {E : Value → Shared → Prop} {s : Shared} {o : Expr} {name : Str} {apos pos : Pos} {env : Env} {ov : Value} {n : Nat} {args : List (Bool × Sem Value)} {kw : List (Option Str × Sem Value)} {Q : Value → Shared → Prop}
    (hform : methodCallForm n args kw = true) (hline : (apos.endLine == pos.line) = true)
    (h : wpAny M A (getMethod ov name (do return (← importBound o env).getD true)) (fun fx s2 => wpAny M A (callWith pos fx.1 fx.2 args kw) Q E s2) E s) : wpAny M A (methodCall o name apos pos env ov n args kw) Q E s := by
  have hpos : methodCallPos true o env apos pos = pure pos := by unfold methodCallPos; simp [hline]
  unfold methodCall
  rw [hform]
  refine wpAny_bind (wpAny_holding ?_)
  show wpAny M A (getMethod ov name (do return (← importBound o env).getD true)) _ E s
  exact wpAny_mono h (fun fx s2 h2 => wpAny_bind (wpAny_of_eq hpos h2)) fun _ _ z => z
section
variable {P : Program} {w : World} {A : Around} {R : Result → Shared → Prop} {K : Frag} {mg : Str → Option Value} {c f : Str} {C fI : Addr} {hp : Heap} {g : Array GenState} {d : Drawn} {t : Nat} {os : OsState}
theorem clsIn_of {nm q : Str} {C N : Addr} {bs bm : List Value} {hdct : Bool} {sn : List Str} {sub : List Value} {ab : Bool} {col : Option Bool} {dd : Option Addr} {k0 k1 k2 k3 k5 : Option Value} {newId : String}
    (hC : K.lookup C = some (excClassObj nm q C N bs bm hdct sn sub ab col dd k0 k1 k2 k3 k5 newId)) : clsIn K C = some { name := nm, bases := bs, mro := .ref C :: bm, ns := N, qualname := q, hasDict := hdct, slotNames := sn, subclasses := sub, abstract := ab, collection := col, hasDel := false } := by
  unfold clsIn; rw [hC] <;> rfl
theorem x_init {k : Nat} (T : XTxt P K mg c f C fI) {t0 x : Addr} {v : Value} {h : Heap} (X₀ : K.In hp) (hG : hp.Ns mainGlobals mg) {mb : Str → Option Value} (hB : hp.Ns builtinsNs mb) (hbb : ∀ x : Str, x ≠ "__name__" → mb x = bootBuiltins x) (hlim : hp.NoLimit)
    (kp : ∀ b o, hp.get? b = some o → h.get? b = some o) (hx : h.get? x = some (excO C t0)) (nx : hp.get? x = none) (hr : Room (k + 1) A) (fv : FmtV P w hp v) (hsz : hp.objs.size ≤ h.objs.size)
    (hq : ∀ h' tk dx, (∀ b o, hp.get? b = some o → h'.get? b = some o) → (∃ t1, h'.get? x = some { cls := .ref C, dict := some dx, data := .fields #[.ref t1, .none, .none, .none, .bool false, .none] }) → hp.objs.size ≤ dx → dx ≠ x →
      h'.Ns1 dx (fun y => if y = f then some v else none) → R (.ok (.ret .none)) ⟨h', g, d, tk, os⟩) :
    codeAny (model P w) A (.call (.ref fI) ⟨[.ref x, v], []⟩) R ⟨h, g, d, t, os⟩ := by
  obtain ⟨oc, od, qual, doc, pm, an, ct, osl, p1, p2, a0, a1, a2, a3, a4, a5, a6, a7, a8, q1, q2, q3, q4, msg, cda, cc, ho, hcd, hmsg, hln, hbind, ⟨ccl, cdd, vs, ccs, file, tf, hcode, hvs, hfile⟩, cl, cld, csl, hcell⟩ := T.fn
  obtain ⟨nm, q, N, bs, bm, sn, sub, ab, col, dd, k0, k1, k2, k3, k5, hC, hbm⟩ := T.cls
  have hcl := clsIn_of hC
  have X : K.In h := X₀.keeps kp
  have F0 := T.fn0
  refine ks_codeAny_call_defAt (binds := [(("self" : Str), .ref x), (f, v)]) hr.depth (X _ _ ho) rfl (hlim.keeps kp) (codeRec_of X hcd) rfl (hbind _ _ _) ?_ ?_ (fun h₁ hns hk₁ => ?_) rfl rfl rfl
  · intro y hy
    simp only [xiS, ksFn, fnX, List.mem_cons, List.not_mem_nil, or_false] at hy
    rcases hy with rfl | rfl | rfl | rfl <;> exact fun z => nomatch z
  · intro y hy
    simp only [List.mem_cons, List.not_mem_nil, or_false] at hy
    rcases hy with rfl | rfl
    · exact F0.ls
    · exact F0.lf
  · have k1' : ∀ b o, hp.get? b = some o → h₁.get? b = some o := fun b o e => hk₁ b o (kp b o e)
    have Fr1 : PyProof.Rows.Fr hp h.objs.size h₁ (fun y => [(("self" : Str), Value.ref x), (f, v)].reverse.lookup y) := ⟨hns, k1', hsz⟩
    have N1 : News hp h.objs.size h₁ [(x, excObj C t0 none .none)] := fun p hp' => by
      rcases List.mem_cons.mp hp' with rfl | z
      · exact ⟨hk₁ _ _ hx, Nat.ne_of_lt (Heap.lt_size hx), nx⟩
      · cases z
    have mself : (fun y => [(("self" : Str), Value.ref x), (f, v)].reverse.lookup y) ("self" : Str) = some (.ref x) := by
      have : (("self" : Str) == f) = false := by simpa using fun e => F0.ne e.symm
      simp [List.lookup, this]
    have mf : (fun y => [(("self" : Str), Value.ref x), (f, v)].reverse.lookup y) f = some v := by simp [List.lookup]
    have hD1 : h₁.get? C = some (excClassObj nm q C N bs bm true sn sub ab col dd k0 k1 k2 k3 k5 "ValueError.__new__") := k1' _ _ (X₀ _ _ hC)
    have X1 : K.In h₁ := X₀.keeps k1'
    refine ks_wpAt_execs_cons ?_
    refine ks_wpAt_Expr_any ?_
    rw [arm_eval_Call]
    refine PySem.wpAt_bind (ks_wpAt_mono (Q := fun ov s1 => wpAny _ _ (getMethod ov "__init__" _) (fun fx s2 => wpAny _ _ (callWith a7 fx.1 fx.2 _ _) _ _ s2) _ s1) ?_ (fun ov s1 h1 => PySem.wpAt_of_wpAny (wpAny_bind (wpAny_standAt (methodCall_ln rfl hln h1)))) fun _ _ z => z)
    refine ks_wpAt_super_base (env := ksEnv qual (xiS f) h.objs.size fI (.ref cda) cc) F0.lu F0.lc rfl rfl (X1 _ _ ho) rfl (ar := { arg := "self", annotation := none, pos := p1 }) rfl rfl (X1 _ _ hcode) rfl hvs hfile T.top ?_
    refine ks_loadName_global rfl F0.lu (loadGlobal_builtin (env := ksEnv qual (xiS f) h.objs.size fI (.ref cda) cc) (hG.keeps k1') T.ms (hB.keeps k1') ((hbb _ (by decide +kernel)).trans (by decide +kernel)) ⟨rfl, ?_⟩)
    refine wpAny_loadName_free rfl F0.lc rfl ⟨_, X1 _ _ hcell, rfl⟩ ?_
    refine wpAny_loadName_local rfl F0.ls hns mself ?_
    refine ks_wpAny_isType_cls hD1 rfl ⟨rfl, ?_⟩
    refine ks_wpAny_call_super hD1 rfl (hk₁ _ _ hx) rfl (fun c e => by cases e) (looks_mroIn X1 T.mC) (fun h2 e2 k2 => ?_)
    obtain ⟨Fr2, N2, l2⟩ := ks_newsPush (s := ⟨h₁, g, d, t + 2, os⟩) (o := ks_superObj C x C) Fr1 N1 rfl e2 k2
    have I2 : InstAt h2 x (excObj C t0 none .none) C none := InstAt.of_exc0 N2 (by simp)
    refine kxs_method kxs_ValueError Fr2 X₀ N2 (List.mem_cons_self) I2 T.st T.sup T.veC (by decide) (fun qm h3 Fr3 N3 l3 => ?_)
    refine kxs_callWith1 (i := "ValueError.__init__") (x := x) N3 List.mem_cons_self ?_
    show wpAny _ _ (spliced [(false, eval (.JoinedStr [.Constant (.str msg) 0 a3, .FormattedValue (.Name f a4) (-1) none a5] a6) (ksEnv qual (xiS f) h.objs.size fI (.ref cda) cc))]) _ _ _
    refine Calls.spliced_cons ?_
    refine wpAny_JoinedStr ?_
    show wpAny _ _ (eval (.Constant (.str msg) 0 a3) _) _ _ _
    refine wpAny_Constant_str ⟨msg, _, rfl, ?_, ?_⟩
    · show (Str.empty ++ msg).length ≤ sizeLine
      rw [strLen_append, sizeLine_eq]
      have : (Str.empty).length = 0 := rfl
      omega
    show wpAny _ _ (eval (.FormattedValue (.Name f a4) (-1) none a5) _) _ _ _
    refine wpAny_FormattedValue_plain ?_
    refine wpAny_Name (wpAny_loadName_local rfl F0.lf Fr3.ns mf ?_) F0.nd
    refine fv _ _ _ _ (by have := hr.un; show A.units + 3 + 64 < cLine; omega) Fr3.keep fun m u tk hm => ⟨m, u, rfl, ?_, ?_⟩
    · rw [strLen_append, strLen_append, sizeLine_eq]
      have : (Str.empty).length = 0 := rfl
      omega
    refine ⟨?_, ?_⟩
    · rw [strLen_append, strLen_append, sizeLine_eq]
      have : (Str.empty).length = 0 := rfl
      omega
    refine Calls.spliced_nil ⟨kxs_at N3 List.mem_cons_self, ?_⟩
    have ne2 : h₁.objs.size ≠ x := Nat.ne_of_gt (Heap.lt_size (hk₁ _ _ hx))
    have ne3 : qm ≠ x := Nat.ne_of_gt (l3 _ (by simp : (x, excObj C t0 none .none) ∈ _))
    refine kxs_call (B := "ValueError") (t := t0) (dv := none) (c2 := .none) Fr3 X₀ N3 PySem.F.excBase_ValueError T.ini List.mem_cons_self (.tail ne3 (.tail ne2 (.head fun p hp' => nomatch hp'))) (by show 1 ≤ sizeLine; rw [sizeLine_eq]; omega) fun t4 h4 Fr4 N4 l4 => ?_
    have hx4 : h4.get? x = some (excObj C t4 none .none) := N4.get (by simp)
    refine PySem.wpAt_of_wpAny ?_
    refine wpAny_execs_cons (plainObj_wpAny_Assign_Attribute ?_)
    refine wpAny_Name (wpAny_loadName_local rfl F0.lf Fr4.ns mf ?_) F0.nd
    refine wpAny_Name (wpAny_loadName_local rfl F0.ls Fr4.ns mself ?_) (by decide)
    refine set_plain (X₀.keeps Fr4.keep) (ox := excO C t4) (od := none) ⟨hx4, rfl, rfl, trivial⟩ T.sa ?_
    refine exc_osa (X₀.keeps Fr4.keep) hx4 hcl (show refsVE (.ref C :: bm) = true from hbm) rfl T.noN (fun h5 tk5 dx k5' dn dne hx5 hn5 => ?_)
    have z : h.objs.size < h4.objs.size := Fr4.ns.lt
    exact wpAny_execs_nil (hq h5 tk5 dx (fun b o e => k5' b o (fun z => by rw [z, nx] at e; cases e) (Fr4.keep b o e)) ⟨t4, hx5⟩ (Nat.le_trans hsz (Nat.le_trans (Nat.le_of_lt z) dn)) dne hn5)
theorem x_made {k : Nat} (T : XTxt P K mg c f C fI) {v : Value} (X : K.In hp) (hG : hp.Ns mainGlobals mg) {mb : Str → Option Value} (hB : hp.Ns builtinsNs mb) (hbb : ∀ x : Str, x ≠ "__name__" → mb x = bootBuiltins x) (hlim : hp.NoLimit) (hr : Room (k + 2) A) (fv : FmtV P w hp v)
    (hq : ∀ h' tk e dx, XMade f hp h' e C dx v → R (.ok (.ret (.ref e))) ⟨h', g, d, tk, os⟩) :
    codeAny (model P w) A (.call (.ref C) ⟨[v], []⟩) R ⟨hp, g, d, t, os⟩ := by
  obtain ⟨nm, q, N, bs, bm, sn, sub, ab, col, dd, k0, k1, k2, k3, k5, hC, hbm⟩ := T.cls
  have kk : ∀ b o, hp.get? b = some o → ((hp.push (kdv_tup [v])).push (excO C hp.objs.size)).get? b = some o := fun b o e => Heap.get?_push_of_some _ (Heap.get?_push_of_some _ e)
  have hget : ((hp.push (kdv_tup [v])).push (excO C hp.objs.size)).get? (hp.objs.size + 1) = some (excO C hp.objs.size) := by heap_get
  have hnx : hp.get? (hp.objs.size + 1) = none := by
    cases e : hp.get? (hp.objs.size + 1) with
    | none => rfl
    | some o => exact absurd (Nat.lt_of_succ_lt (Heap.lt_size e)) (Nat.lt_irrefl _)
  refine call_own PySem.F.excBase_ValueError (fun X => refsVE_contains X bm hbm) (X _ _ hC) (looks_findIn X T.iC) (fun self => bind_fn X self T.tC) (by show 1 ≤ sizeLine; rw [sizeLine_eq]; omega) ?_
  refine x_init T X hG hB hbb hlim kk hget hnx (hr.make C [v] []) fv (by rw [Heap.size_push, Heap.size_push]; omega) fun h' tk' dx k' ⟨t1, hx⟩ dn dne hns => ?_
  exact ⟨rfl, hq h' tk' (hp.objs.size + 1) dx ⟨k', Nat.le_succ _, ⟨_, _, hx, rfl, rfl, rfl, rfl⟩, dn, dne, hns⟩⟩
end
end Fx
namespace Fx
open PySem PySem.Spec PyProof.Rows L2
/-- what an f-string may show here -/
def fmtA : D → Option Str
  | .str y => if (reprText y).length ≤ 1000 then some (reprText y) else none
  | .int i => if i.natAbs.log2 < 1920 then some (toString i) else none
  | _ => none
def fmtD : D → Bool
  | .str y => decide (y.length ≤ 1000)
  | .int i => decide (i.natAbs.log2 < 1920)
  | .tuple [a, b] => match fmtA a, fmtA b with
    | some s, some t => decide ((tupleText [s, t]).length ≤ 1000)
    | _, _ => false
  | _ => false
theorem intText_len {i : Int} (h : i.natAbs.log2 < 1920) : (toString i : Str).length ≤ 100000 := by
  have q := int_text_length_le (by decide : 0 < 1920) h
  have e : (Str.ofString (toString i)).length = (toString i).length := PySem.ofString_length _
  rw [e]
  omega
theorem fmtA_is {P : Program} {w : World} {K : PySem.W.Frag} {G : Hp} {v : V} {d : D} {u : Value} {t : Str} (r : Rp K G v d) (rv : RelV v u) (h : fmtA d = some t) : ReprIs P w u t := by
  cases r with
  | str y =>
    obtain ⟨tk, rfl⟩ := rv
    simp only [fmtA] at h
    split at h
    · cases h; exact ReprIs.str _ _ (by rw [sizeLine_eq]; omega)
    · cases h
  | int i =>
    obtain ⟨tk, rfl⟩ := rv
    simp only [fmtA] at h
    split at h
    · cases h; exact ReprIs.int _ (by assumption)
    · cases h
  | _ => cases h
theorem fmtD_is {X : Cx} {pins : List (Addr × Obj)} {σ : L2.St} {G H : Hp} {s : Shared} (I : L2.Inv X pins σ H s) (sub : Same G H) {v : V} {d : D} {u : Value} (r : Rp X.K G v d) (rv : RelV v u) (h : fmtD d = true) : FmtV X.prog X.w s.heap u := by
  intro A E Q s1 hu kp hq
  cases r with
  | str y =>
    obtain ⟨tk, rfl⟩ := rv
    have hy : y.length ≤ 1000 := of_decide_eq_true h
    exact wpAny_formatField_str (hq y _ _ (by omega)) (hq y _ _ (by omega)) (by rw [sizeLine_eq]; omega)
  | int i =>
    obtain ⟨tk, rfl⟩ := rv
    have hi : i.natAbs.log2 < 1920 := of_decide_eq_true h
    exact wpAny_formatField_int hi (hq _ _ _ (intText_len hi))
  | @tup a vs ds ht rs =>
    obtain rfl : u = Value.ref a := rv
    cases rs with
    | nil => cases h
    | cons r1 rs1 =>
      cases rs1 with
      | nil => cases h
      | cons r2 rs2 =>
        cases rs2 with
        | cons _ _ => cases h
        | nil =>
          simp only [fmtD] at h
          split at h
          · rename_i o1 o2 t1 t2 e1 e2
            have hl : (tupleText [t1, t2]).length ≤ 1000 := of_decide_eq_true h
            obtain ⟨its, rvs, ⟨o, ho, hc, n, hd⟩, _⟩ := I.tuple (sqt_mono sub ht.sqt)
            cases rvs with
            | cons q1 qs =>
              cases qs with
              | cons q2 qn =>
                cases qn
                refine fmt_tuple (by omega) (kp _ _ ho) hc hd (ts := [t1, t2]) (.cons (fmtA_is r1 q1 e1) (.cons (fmtA_is r2 q2 e2) .nil)) (by rw [sizeLine_eq]; omega) fun m u tk hm => hq m u tk (by omega)
          · cases h
  | _ => cases h
section
variable {X : Cx} {C fI : Addr} {c f : Str} {p pos : Pos} {k : Nat} {a : Expr} {ma : M Sl}
theorem relO_one {v : V} {v' : Value} (r : RelV v v') (f y : Str) : RelO (List.lookup y [(f, v)]) (if y = f then some v' else none) := by
  by_cases hw : y = f
  · subst hw
    simp [List.lookup]
    exact r
  · have qw : (y == f) = false := by simpa using hw
    simp [List.lookup, qw, hw]
    trivial
end
end Fx
namespace Fx
open PySem PySem.Spec PyProof.Rows L2
abbrev SuT := Addr → Value → Option Addr → TS
abbrev Hds := List (Value × Option Nat × SuT)
/-- what a suite keeps -/
def SuOk (X : Cx) (b : List Stmt) (ts : SuT) : Prop := ∀ (a : Addr) (oe : Obj) (cls : Value) (d : Option Addr) (pn : List (Addr × Obj)), Zc cls d oe → (∃ vs, oe.data = .fields vs) → PSs (X.suite a ((a, oe) :: pn)) b (ts a cls d)
inductive HdNm (X : Cx) : List ExceptHandler → Hds → Prop
  | nil : HdNm X [] []
  | pl {x : Str} {c : Value} {ts : SuT} {b : Stmt} {bs : List Stmt} {p q : Pos} {hs : List ExceptHandler} {l : Hds} (nm : Names X x c) (su : SuOk X (b :: bs) ts) (r : HdNm X hs l) : HdNm X (.ExceptHandler (some (.Name x p)) none (b :: bs) q :: hs) ((c, none, ts) :: l)
  | nm {x n : Str} {i : Nat} {c : Value} {ts : SuT} {b : Stmt} {bs : List Stmt} {p q : Pos} {hs : List ExceptHandler} {l : Hds} (nm : Names X x c) (nd : X.N.Nodup) (ni : X.N[i]? = some n) (nl : X.env.kindOf n = some .local) (su : SuOk X (b :: bs) ts) (r : HdNm X hs l) :
      HdNm X (.ExceptHandler (some (.Name x p)) (some n) (b :: bs) q :: hs) ((c, some i, ts) :: l)
end Fx
namespace Fx
open PySem PySem.Spec PyProof.Rows L2
abbrev W0 : WX := fun _ _ _ _ => False
/-- what a suite does for a caught exception -/
def tSu (K : PySem.W.Frag) (mg : Str → Option Value) (i : Option Nat) (ws : List Nat) (g : Exc → M Fl) : SuT := fun a cls d D σ H =>
  ∃ G ρ x fl ρ', EnvR K G H σ ρ ∧ ExcR K mg G H cls d x ∧ (∀ j, i = some j → σ[j]? = some (some (.ref a))) ∧ g x ρ = some (fl, ρ') ∧ EndY K mg ws W0 D σ G H ρ ρ' (.fl fl)
abbrev SuY (X : Cx) (i : Option Nat) (b : List Stmt) (ws : List Nat) (g : Exc → M Fl) : Prop := SuOk X b (tSu X.K X.mg i ws g)
structure HdD where
  tab : List (Str × Bool)
  i : Option Nat
  g : Exc → M Fl
/-- which class the clause catches, and which it lets by -/
def TabOk (X : Cx) (c : Value) (tab : List (Str × Bool)) : Prop := ∀ x b, tab.lookup x = some b → ∃ C, X.mg x = some (.ref C) ∧ PySem.W.exmOne X.K (.ref C) c = some b
inductive HdY (X : Cx) (ws : List Nat) : List ExceptHandler → Hds → List HdD → Prop
  | nil : HdY X ws [] [] []
  | pl {x : Str} {c : Value} {b : Stmt} {bs : List Stmt} {us : List Nat} {g : Exc → M Fl} {tab : List (Str × Bool)} {p q : Pos} {hs : List ExceptHandler} {l : Hds} {ds : List HdD} (nm : Names X x c) (tb : TabOk X c tab) (su : SuY X none (b :: bs) us g)
      (hu : ∀ i ∈ us, i ∈ ws) (r : HdY X ws hs l ds) : HdY X ws (.ExceptHandler (some (.Name x p)) none (b :: bs) q :: hs) ((c, none, tSu X.K X.mg none us g) :: l) (⟨tab, none, g⟩ :: ds)
  | nm {x n : Str} {i : Nat} {c : Value} {b : Stmt} {bs : List Stmt} {us : List Nat} {g : Exc → M Fl} {tab : List (Str × Bool)} {p q : Pos} {hs : List ExceptHandler} {l : Hds} {ds : List HdD} (nm : Names X x c) (nd : X.N.Nodup) (ni : X.N[i]? = some n)
      (nl : X.env.kindOf n = some .local) (tb : TabOk X c tab) (su : SuY X (some i) (b :: bs) us g) (hu : ∀ i ∈ us, i ∈ ws) (hi : i ∈ ws) (r : HdY X ws hs l ds) :
      HdY X ws (.ExceptHandler (some (.Name x p)) (some n) (b :: bs) q :: hs) ((c, some i, tSu X.K X.mg (some i) us g) :: l) (⟨tab, some i, g⟩ :: ds)
section
variable {X : Cx} {ws : List Nat}
theorem HdY.ok {hs : List ExceptHandler} {l : Hds} {ds : List HdD} (h : HdY X ws hs l ds) : HdNm X hs l := by
  induction h with
  | nil => exact .nil
  | pl nm tb su hu r ih => exact .pl nm su ih
  | nm nm nd ni nl tb su hu hi r ih => exact .nm nm nd ni nl su ih
end
end Fx
namespace Fx
open PySem PySem.Spec PyProof.Rows L2
end Fx
namespace Fx
open PySem PySem.Spec PyProof.Rows L2
section
variable {K : PySem.W.Frag} {nm q : Str} {C N : Addr} {bs bm : List Value} {hd : Bool} {sn : List Str} {sub : List Value} {ab : Bool} {col : Option Bool} {dd : Option Addr} {k0 k1 k2 k3 k5 : Option Value} {newId : String}
theorem excInit_mk (xb : K.lookup C = some (excClassObj nm q C N bs bm hd sn sub ab col dd k0 k1 k2 k3 k5 newId)) {bmB : List Value} (h : PySem.W.excTail bmB bm = true) : PySem.W.excInitIn K C bmB newId = true := by
  unfold PySem.W.excInitIn
  rw [xb]
  simp [h]
theorem super_mk {nm2 q2 : Str} {S N2 : Addr} {bs2 bm2 : List Value} {hd2 : Bool} {sn2 : List Str} {sub2 : List Value} {ab2 : Bool} {col2 : Option Bool} {dd2 : Option Addr} {j0 j1 j2 j3 j5 : Option Value} {newId2 : String} {name : Str} {r : Option (Option Value)}
    (xb : K.lookup C = some (excClassObj nm q C N bs bm hd sn sub ab col dd k0 k1 k2 k3 k5 newId)) (xs : K.lookup S = some (excClassObj nm2 q2 S N2 bs2 bm2 hd2 sn2 sub2 ab2 col2 dd2 j0 j1 j2 j3 j5 newId2)) (e : bm = .ref S :: bm2) (f : PySem.W.findIn K (.ref S) name = r) : PySem.W.ks_superIn K C C name = r := by
  unfold PySem.W.ks_superIn
  rw [clsIn_of xb]
  subst e
  unfold PySem.W.findIn at f
  simp only [xs] at f
  simp only [Option.bind_some, List.dropWhile_cons, bne_self_eq_false, Bool.false_eq_true, if_false, List.drop_succ_cons, List.drop_zero]
  exact f
end
end Fx
namespace Fx
open PySem PySem.Spec PyProof.Rows L2
end Fx
namespace Fx
open PySem PySem.Spec PyProof.Rows PyProof.V L2
end Fx
namespace Fx
open PySem PySem.Spec PyProof.Rows L2
end Fx
namespace Fx
open PySem PySem.Spec PyProof.Rows L2
end Fx
namespace Fx
open PySem PySem.Spec PyProof.Rows L2
end Fx
namespace Fx
open PySem PySem.Spec PyProof.Rows L2
/-- C(e), C without an __init__ of its own -/
def excM (c : Str) (ma : M Sl) : M Sl := bindM ma fun _ => pureM (.fz (.obj c [] []))
/-- C(e), C with one field -/
def exfM (c f : Str) (ma : M Sl) : M Sl := bindM ma fun r => if fmtD r.d = true then pureM (.fz (.obj c [f] [r.d])) else liftM none
section
variable {X : Cx} {C fI : Addr} {c f : Str} {p pos : Pos} {k : Nat} {a : Expr} {ma : M Sl}
theorem fe_exc {bmB : List Value} {B newId initId : String} (F : ExcBaseFacts B newId initId bmB) (q : PySem.W.excIn X.K C bmB newId = true) (gC : X.mg c = some (.ref C)) (kC : PySem.W.keepIn X.K (.ref C) = true) (hn : clsN X.K c = some C) (hg : Gl X c) (he : FE X a ma)
    (hs : starEach [a] X.env = (false, eval a X.env) :: starEach [] X.env := by rfl) (hdb : (c == ("__debug__" : Str)) = false := by decide) : FE X (.Call (.Name c p) [a] [] pos) (excM c ma) :=
  imE (pe_exc1 F q gC kC hg he hs hdb) fun σ H Q h => by
    obtain ⟨G, ρ, r, ρ', E, hm, q⟩ := h
    obtain ⟨y, ρ1, e1, h2⟩ := bindM_some hm
    obtain ⟨rfl, rfl⟩ := pureM_some h2
    refine ⟨G, ρ, y, _, E, e1, fun v H1 G1 S1 r1 b hb => ?_⟩
    have V := StepV.new1 (o := ExO (.ref C) b) S1.env.sub hb
    exact q _ _ _ (S1.ext E V) (.ob (.exc hn (.of upd_same)) .nil)
theorem fe_exf (T : XTxt X.prog X.K X.mg c f C fI) (hn : clsN X.K c = some C) (hr : Room (k + 2) X.A) (ha : FE X a ma) (hg : Gl X c) (hdb : (c == ("__debug__" : Str)) = false := by decide)
    (he : starEach (a :: []) X.env = (false, eval a X.env) :: starEach [] X.env := by rfl) (hpl : (backTo pos (starEach [] X.env)).any (·.1) = false := by rfl) : FE X (.Call (.Name c p) [a] [] pos) (exfM c f ma) := by
  refine ⟨fun pins s σ H Q I h => ?_⟩
  obtain ⟨G, ρ, x, ρ', E, hm, q⟩ := h
  obtain ⟨r, ρ1, e1, h2⟩ := bindM_some hm
  split at h2
  · rename_i hf
    obtain ⟨rfl, rfl⟩ := pureM_some h2
    refine wpAny_Call_Name_kw (ld_glob I hg T.gC ?_ hdb)
    have ht : tMA X.K (consM ma nilM) σ H (fun vs H1 => ∃ v G1, vs = [v] ∧ Stp X.K σ G H ρ G1 H1 ρ' ∧ Rp X.K G1 v r.d) := by
      refine ⟨G, ρ, [r.d], ρ', E, ?_, fun vs H1 G1 S1 r1 => ?_⟩
      · unfold consM bindM
        rw [e1]
        rfl
      · cases r1 with
        | cons rv rn =>
          cases rn
          exact ⟨_, G1, rfl, S1, rv⟩
    refine PySem.W.callWith_K (h₀ := X.base) I.ok.mod.kin T.kC (thn ((fa_cons ha fa_nil he).run pos pins s σ H _ I ht) fun us s1 hh => ?_) he hpl
    obtain ⟨vs, H1, I1, r1, v, G1, ev, S1, rp⟩ := hh
    subst ev
    refine ⟨I1.kIn, ?_⟩
    cases r1 with
    | cons rv rn =>
      rename_i v' us'
      cases rn
      show wpAny _ _ (call (.ref C) [v']) _ _ _
      have hlim := I1.nolimit
      have fv := fmtD_is I1 S1.env.sub rp rv hf
      obtain ⟨mb, hB, hbb⟩ := I1.ok.mod.blt
      have kb := I1.bk
      obtain ⟨hp, g, dr, tk, os⟩ := s1
      refine wpAny_call (x_made T I1.kIn (I1.ok.mod.glob.keeps kb) (hB.keeps kb) hbb hlim hr fv fun h' tk' e d M => ?_)
      obtain ⟨oe, fvs, hoe, hc, hd, hdat, h1⟩ := M.obj
      have hns := M.ns
      obtain ⟨G', g1, g2⟩ := restrict h' fun b => decide (b ≠ e)
      have gk : ∀ b, b ≠ e → G'.get? b = h'.get? b := fun b hb => g1 b (decide_eq_true hb)
      have ge : G'.get? e = none := g2 e (by simp)
      have old : ∀ b o, hp.get? b = some o → G'.get? b = some o := fun b o q =>
        (gk b (Nat.ne_of_lt (Nat.lt_of_lt_of_le (Heap.lt_size q) M.new))).trans (M.keep b o q)
      have ob : ObjOk X.prog X.w (upd H1 d (.xd [(f, v)])) G' d (.xd [(f, v)]) := ⟨_, hns.at (fun o q => (gk d M.dne).trans q), fun y => relO_one rv f y⟩
      have J : L2.Inv X pins σ (upd H1 d (.xd [(f, v)])) ⟨G', g, dr, tk', os⟩ := I1.laid (t' := tk') old M.dbig ob
      have hdn : H1 d = none := I1.hok.fresh M.dbig
      have hen : upd H1 d (.xd [(f, v)]) e = none := by rw [upd_ne (Ne.symm M.dne)]; exact I1.hok.fresh M.new
      have J2 : L2.Inv X pins σ (upd (upd H1 d (.xd [(f, v)])) e (ExF C d e)) ⟨h', g, dr, tk', os⟩ := J.laidN (t' := tk') (fun b u z => by
        have hb : b ≠ e := fun w => by
          have z' : G'.get? b = some u := z
          rw [w, ge] at z'; cases z'
        exact (gk b hb).symm.trans z) ge hen (exF_ok hoe ⟨hc, hd⟩ hdat)
      have V1 := StepV.new1 (o := .xd [(f, v)]) S1.env.sub hdn
      have V2 := StepV.new1 (o := ExF C d e) V1.sub hen
      have W := (S1.ext E V1).ext E V2
      refine ⟨.ref e, _, J2, rfl, q _ _ _ W ?_⟩
      have r3 : Rp X.K (upd (upd G1 d (.xd [(f, v)])) e (ExF C d e)) v r.d := (rp.mono V1.same).mono V2.same
      exact .ob (.exf (dx := d) (fs := [(f, v)]) hn (.of upd_same) (.of (by rw [upd_ne M.dne]; exact upd_same))) (RpAll.one r3)
  · obtain ⟨h2, _⟩ := liftM_some h2
    cases h2
theorem zip_fst_snd {α β : Type} : ∀ fs : List (α × β), (fs.map fun p => p.1).zip (fs.map fun p => p.2) = fs
  | [] => rfl
  | _ :: fs => by rw [List.map_cons, List.map_cons, List.zip_cons_cons, zip_fst_snd fs]
theorem ob_at {pins : List (Addr × Obj)} {σ : L2.St} {G H : Hp} {s : Shared} {x : Addr} {ns : List Str} {xs : List V} (I : L2.Inv X pins σ H s) (sub : Same G H) (r : ObR X.K G x c ns xs) :
    ∃ (C : Addr) (ox : Obj) (od : Option Obj), clsN X.K c = some C ∧ PySem.W.InstAt s.heap x ox C od ∧ ∀ (n : Str) (v : V), (ns.zip xs).lookup n = some v → ∃ o u, od = some o ∧ PySem.W.lookIn n o = some (some u) ∧ RelV v u := by
  cases r with
  | exc hn h =>
    obtain ⟨⟨oe, vs, e, z, d, _⟩, _⟩ := (rd_mono sub h).ok I.hok
    refine ⟨_, oe, none, hn, ⟨e, z.1, by unfold PySem.W.notCls; rw [d] <;> rfl, by rw [z.2]; trivial⟩, fun n v h => by simp at h⟩
  | exf hn h1 h2 =>
    obtain ⟨⟨oe, vs, e, z, d⟩, _⟩ := (rd_mono sub h1).ok I.hok
    obtain ⟨mA, hns, hr⟩ := (rd_mono sub h2).ok I.hok
    obtain ⟨od, ho, hl⟩ := lookIn_ns hns
    refine ⟨_, oe, some od, hn, ⟨e, z.1, by unfold PySem.W.notCls; rw [d] <;> rfl, by rw [z.2]; exact ho⟩, fun n v h => ?_⟩
    rw [zip_fst_snd] at h
    obtain ⟨u, hu, ru⟩ := RelO.some_of (v := v) (o := mA n) (by rw [← h]; exact hr n)
    exact ⟨od, u, rfl, by rw [hl, hu], ru⟩
  | @ins C dx c fs hn h =>
    obtain ⟨_, _, _, e, mA, hns, hr, _⟩ := (rd_mono sub h).ok I.hok
    obtain ⟨od, ho, hl⟩ := lookIn_ns hns
    refine ⟨_, _, some od, hn, ⟨e, rfl, rfl, ho⟩, fun n v h => ?_⟩
    rw [zip_fst_snd] at h
    obtain ⟨u, hu, ru⟩ := RelO.some_of (v := v) (o := mA n) (by rw [← h]; exact hr n)
    exact ⟨od, u, rfl, by rw [hl, hu], ru⟩
structure IsXOk (K : PySem.W.Frag) (C : Addr) (cv : Value) (b : Bool) : Prop where
  cl : (PySem.W.clsIn K C).isSome = true
  ga : PySem.W.findIn K (.ref C) "__getattribute__" = some (some (.builtin "BaseException.__getattribute__"))
  gt : PySem.W.findIn K (.ref C) "__getattr__" = some none
  su : PySem.W.subIn K (.ref C) (.type "BaseException") = some true
  ha : PySem.W.findIn K (.ref C) "__class__" = some (some (.builtin "object.__class__"))
  hn : PySem.W.specialIn K (.builtin "object.__class__") "__get__" = some (some (.builtin "getset_descriptor.__get__"))
  ht : PySem.W.takesIn K (.builtin "object.__class__") = some true
  hm : PySem.W.mroIn K C (.type "object") = some true
  one : PySem.W.kitOne K (.ref C) cv = some b
def isXB (tab : Str → Option Bool) : D → Option Bool
  | .obj c _ _ => tab c
  | _ => none
abbrev isXM (tab : Str → Option Bool) (m : M Sl) : M Sl := una (fun d => (isXB tab d).map fun b => .fz (.bool b)) m
def rIsX (K : PySem.W.Frag) (tab : Str → Option Bool) (w : V) : List V → Hp → VK → Prop := fun xs H Q => ∃ x G d b, xs = [x, w] ∧ Same G H ∧ Rp K G x d ∧ isXB tab d = some b ∧ Q (.bl b) H
theorem cr_isX {tab : Str → Option Bool} {w : V} {cv : Value} (hw : ∀ u, RelV w u → u = cv) (hT : ∀ (c : Str) (b : Bool) (C : Addr), tab c = some b → clsN X.K c = some C → IsXOk X.K C cv b) : CallR X (.builtin "isinstance") (rIsX X.K tab w) := by
  intro pins s σ H xs us Q I rv h
  obtain ⟨x, G, d, b, rfl, sub, p, e, q⟩ := h
  obtain ⟨u1, u2, rfl, r1, r2⟩ := vals2 rv
  cases hw _ r2
  cases p with
  | @ob a c ns xs ds r t =>
    obtain ⟨C, ox, od, hn, J, _⟩ := ob_at I sub r
    have T := hT c b C e hn
    cases (show u1 = Value.ref a from r1)
    exact PySem.W.kia_one (PySem.W.kitx_exc T.cl T.ga T.gt T.su T.ha T.hn T.ht T.hm) I.kIn J T.one (fun z => nomatch z) fun tk => ⟨.bl b, H, I.tok tk, rfl, q⟩
  | _ => cases e
theorem fe_isX (tab : Str → Option Bool) {ew : Expr} {w : V} {cv : Value} (hw : ∀ u, RelV w u → u = cv) (hT : ∀ (c : Str) (b : Bool) (C : Addr), tab c = some b → clsN X.K c = some C → IsXOk X.K C cv b) (ha : FE X a ma) (hpe : PE X ew (tC w)) (hg : Gl X "isinstance") (hm : X.mg "isinstance" = none)
    (hv : bootBuiltins "isinstance" = some (.builtin "isinstance") := by decide +kernel) (h1 : starEach [a, ew] X.env = (false, eval a X.env) :: starEach [ew] X.env := by rfl) (h2 : starEach [ew] X.env = (false, eval ew X.env) :: starEach [] X.env := by rfl)
    (hpl : (backTo pos (starEach [ew] X.env)).any (·.1) = false := by rfl) : FE X (.Call (.Name "isinstance" p) [a, ew] [] pos) (isXM tab ma) :=
  imE (pe_callB (cr_isX hw hT) hg hm hv (pa_cons ha (pa_cons hpe pa_nil h2) h1) (he := h1) (hpl := hpl)) fun σ H Q h => by
    obtain ⟨G, ρ, r, ρ', E, hM, q⟩ := h
    obtain ⟨x, ρ1, e1, h2⟩ := bindM_some hM
    obtain ⟨e2, rfl⟩ := liftM_some h2
    obtain ⟨b, eb, rfl⟩ := Option.map_eq_some_iff.mp e2
    refine ⟨G, ρ, x, _, E, e1, fun v H1 G1 S1 r1 => ?_⟩
    obtain ⟨G2, S2, p2, _⟩ := r1.frz E S1
    exact ⟨v, G2, x.d, b, rfl, S2.env.sub, p2, eb, q _ _ _ S2 (.bl b)⟩
theorem look_all {K : PySem.W.Frag} {G : Hp} : ∀ {ns : List Str} {xs : List V} {ds : List D} {n : Str} {d : D}, RpAll K G xs ds → (ns.zip ds).lookup n = some d → ∃ v, (ns.zip xs).lookup n = some v ∧ Rp K G v d
  | [], _, _, _, _, _, h => by simp at h
  | _ :: _, _, _, _, _, .nil, h => by simp at h
  | m :: ns, _, _, n, d, .cons r t, h => by
    rw [List.zip_cons_cons, List.lookup_cons] at h
    rw [List.zip_cons_cons, List.lookup_cons]
    split at h
    · rename_i hb
      cases h
      exact ⟨_, by first | rfl | rw [hb], r⟩
    · rename_i hb
      obtain ⟨v, h1, h2⟩ := look_all t h
      exact ⟨v, by first | exact h1 | (rw [hb]; exact h1), h2⟩
def attrXD (cs : List Str) (n : Str) : D → Option Sl
  | .obj c ns ds => if c ∈ cs then ((ns.zip ds).lookup n).map .fz else none
  | _ => none
abbrev attrXM (cs : List Str) (n : Str) (m : M Sl) : M Sl := una (attrXD cs n) m
theorem fe_attrX (cs : List Str) {n : Str} (hT : ∀ (c : Str) (C : Addr), c ∈ cs → clsN X.K c = some C → XfC X.K C ∧ PySem.W.findIn X.K (.ref C) n = some none) (ha : FE X a ma) (hb : attributeBase a n X.env (eval a X.env) = eval a X.env := by rfl) : FE X (.Attribute a n pos) (attrXM cs n ma) := by
  refine ⟨fun pins s σ H Q I h => ?_⟩
  obtain ⟨G, ρ, r, ρ', E, hm, q⟩ := h
  obtain ⟨x, ρ1, e1, h2⟩ := bindM_some hm
  obtain ⟨e2, rfl⟩ := liftM_some h2
  refine attr_of hb (thn (ha.run pins s σ H (fun v H1 => ∃ G1, Stp X.K σ G H ρ G1 H1 ρ' ∧ Rp X.K G1 v x.d) I ⟨G, ρ, x, _, E, e1, fun v H1 G1 S1 r1 => ?_⟩) fun u s1 hh => ?_)
  · obtain ⟨G2, S2, p2, _⟩ := r1.frz E S1
    exact ⟨G2, S2, p2⟩
  · obtain ⟨v, H1, I1, rv, G1, S1, p1⟩ := hh
    unfold attrXD at e2
    split at e2
    · rename_i c ns ds ed
      rw [ed] at p1
      split at e2
      · rename_i hc
        obtain ⟨d, hd, rfl⟩ := Option.map_eq_some_iff.mp e2
        cases p1 with
        | @ob a' _ _ xs _ r t =>
          obtain ⟨w, hw, rw'⟩ := look_all t hd
          obtain ⟨C, ox, od, hn, J, hl⟩ := ob_at I1 S1.env.sub r
          obtain ⟨T, hno⟩ := hT c C hc hn
          obtain ⟨o, y, rfl, hy, ry⟩ := hl n w hw
          cases (show u = Value.ref a' from rv)
          exact HandSPX.exc_get I1.kIn J T.ga T.gg T.exC (PySem.W.findObj_own T.hdC hno rfl hy) (handed_of ry) ⟨w, H1, I1.tok _, ry, q _ _ _ S1 rw'⟩
      · cases e2
    · cases e2
end
end Fx
namespace Fx
open PySem PySem.Spec PyProof.Rows L2
def exB (K : PySem.W.Frag) (C : Addr) : Bool := (PySem.W.clsIn K C).isSome && xfB K C && decide (PySem.W.findIn K (.ref C) "__class__" = some (some (.builtin "object.__class__"))) &&
  decide (PySem.W.specialIn K (.builtin "object.__class__") "__get__" = some (some (.builtin "getset_descriptor.__get__"))) && decide (PySem.W.takesIn K (.builtin "object.__class__") = some true) && decide (PySem.W.mroIn K C (.type "object") = some true)
def exAllB (K : PySem.W.Frag) (names : List Str) : Bool := names.all fun c => match clsN K c with
  | some C => exB K C
  | none => true
def isAllB (K : PySem.W.Frag) (names : List Str) (cv : Value) (val : Str → Bool) : Bool := names.all fun c => match clsN K c with
  | some C => decide (PySem.W.kitOne K (.ref C) cv = some (val c))
  | none => true
def isTab (names : List Str) (val : Str → Bool) (c : Str) : Option Bool := if c ∈ names then some (val c) else none
/-- of the class x and no other -/
def valOf (x : Str) (c : Str) : Bool := decide (c = x)
def valAll (_ : Str) : Bool := true
theorem tab_ok {K : PySem.W.Frag} {names : List Str} {cv : Value} {val : Str → Bool} (h1 : exAllB K names = true) (h2 : isAllB K names cv val = true) : ∀ (c : Str) (b : Bool) (C : Addr), isTab names val c = some b → clsN K c = some C → IsXOk K C cv b := by
  intro c b C h hn
  unfold isTab at h
  obtain ⟨hm, rfl⟩ := ite_some h
  have a := List.all_eq_true.mp h1 c hm
  have d := List.all_eq_true.mp h2 c hm
  rw [hn] at a d
  unfold exB at a
  simp only [Bool.and_eq_true, decide_eq_true_eq] at a d
  obtain ⟨⟨⟨⟨⟨a1, a2⟩, a3⟩, a4⟩, a5⟩, a6⟩ := a
  have X := xfB_ok a2
  exact ⟨a1, X.ga, X.gg, X.exC, a3, a4, a5, a6, d⟩
theorem attr_ok {K : PySem.W.Frag} {c n : Str} {C : Addr} (hn : clsN K c = some C) (x : XfC K C) (f : PySem.W.findIn K (.ref C) n = some none) : ∀ (c' : Str) (C' : Addr), c' ∈ [c] → clsN K c' = some C' → XfC K C' ∧ PySem.W.findIn K (.ref C') n = some none := by
  intro c' C' hm h
  rw [List.mem_singleton] at hm
  subst hm
  rw [hn] at h
  cases h
  exact ⟨x, f⟩
theorem attr_ok2 {K : PySem.W.Frag} {c1 c2 n : Str} {C1 C2 : Addr} (n1 : clsN K c1 = some C1) (x1 : XfC K C1) (f1 : PySem.W.findIn K (.ref C1) n = some none) (n2 : clsN K c2 = some C2) (x2 : XfC K C2) (f2 : PySem.W.findIn K (.ref C2) n = some none) : ∀ (c' : Str) (C' : Addr), c' ∈ [c1, c2] → clsN K c' = some C' → XfC K C' ∧ PySem.W.findIn K (.ref C') n = some none := by
  intro c' C' hm h
  rcases List.mem_cons.mp hm with rfl | hm
  · exact attr_ok n1 x1 f1 _ _ List.mem_cons_self h
  · exact attr_ok n2 x2 f2 _ _ hm h
section
variable {X : Cx}
theorem pe_cls {x : Str} {C : Addr} {pos : Pos} (hg : Gl X x) (hm : X.mg x = some (.ref C)) (hd : (x == ("__debug__" : Str)) = false := by decide) : PE X (.Name x pos) (tC (V.ref C)) := pe_glob (v := V.ref C) hg hm rfl hd
theorem ref_rel {C : Addr} : ∀ u : Value, RelV (V.ref C) u → u = .ref C := fun _ h => h
theorem ty_rel {T : String} : ∀ u : Value, RelV (V.ty T) u → u = .type T := fun _ h => h
end
end Fx
namespace Lw
open PySem PySem.Spec PyProof.Rows L2 Fx
def exNames : List Str := ["Gone", "NoField", "NoForm", "NoGrid", "NoIndex", "NoKeeping", "NoKeepings", "NoKeeps", "NoLead", "NoLetters", "NoLine", "NoLines", "NoMatch", "NoMessage", "NoName", "NoNumber", "NoPlan", "NoPower", "NoProgram", "NoSizes", "NoSpread", "NoSpreads", "NoTable", "NoTables", "NoUndo", "NoWish", "NoWork", "NoWorker", "NotTree", "TooGreat", "Unfit"]
abbrev N__law_open : List Str := ["_law_script", "_law_cells", "_law_k", "_law_cell"]
def m__law_open : M Fl :=
    seqS (setS 1 (callM listA (consM (sliceM (varM 0) (pureM none) (partM (cM (.int 12)))) (nilM))))
    (seqS (forS (rngM enumA (consM (sliceM (varM 0) (partM (cM (.int 12))) (partM (cM (.int 63)))) (nilM))) (tupG 2 (gsCons (putM 2) (gsCons (putM 3) (gsNil)))) (setAS 1 (bin modD (callM toIntA (consM (varM 2) (nilM))) (cM (.int 12))) (bin addD (ixVA 1 (bin modD (callM toIntA (consM (varM 2) (nilM))) (cM (.int 12)))) (varM 3))))
    (retS (lstM (consM (varM 1) (consM (cM (.int 0)) (consM (cM (.int 0)) (nilM)))))))
def F__law_open : List D → Option Sl := runF 1 N__law_open m__law_open
abbrev N__law_spread : List Str := ["_law_cell", "_law_k", "_law_primes", "_law_one", "_law_two", "_law_three"]
def m__law_spread : M Fl :=
    seqS (ifS (testM (bin geD (varM 0) (bin powD (cM (.int 10)) (cM (.int 18))))) (retV 0) (pureM .nx))
    (seqS (setS 2 (lstM (consM (cM (.int 2147483629)) (consM (cM (.int 2147483587)) (consM (cM (.int 2147483579)) (consM (cM (.int 2147483563)) (consM (cM (.int 2147483549)) (consM (cM (.int 2147483543)) (consM (cM (.int 2147483497)) (consM (cM (.int 2147483489)) (nilM)))))))))))
    (seqS (setS 2 (bin addD (varM 2) (lstM (consM (cM (.int 2147483477)) (consM (cM (.int 2147483423)) (consM (cM (.int 2147483399)) (consM (cM (.int 2147483353)) (consM (cM (.int 2147483323)) (nilM)))))))))
    (seqS (setS 3 (bin mulA (bin modD (callM toIntA (consM (varM 0) (nilM))) (cM (.int 1000000007))) (bin addD (bin mulA (cM (.int 2)) (varM 1)) (cM (.int 69069)))))
    (seqS (setS 3 (bin modD (callM toIntA (consM (bin powD (bin addD (bin addD (varM 3) (bin mulA (varM 1) (cM (.int 40503)))) (cM (.int 977))) (cM (.int 3))) (nilM))) (ixVA 2 (bin modD (callM toIntA (consM (varM 1) (nilM))) (cM (.int 13))))))
    (seqS (setS 4 (bin modD (callM toIntA (consM (bin powD (bin addD (bin addD (bin mulA (varM 3) (bin addD (varM 1) (cM (.int 3)))) (bin modD (callM toIntA (consM (varM 0) (nilM))) (cM (.int 65537)))) (cM (.int 5))) (cM (.int 5))) (nilM))) (ixVA 2 (bin modD (callM toIntA (consM (bin addD (varM 1) (cM (.int 5))) (nilM))) (cM (.int 13))))))
    (seqS (setS 5 (bin modD (callM toIntA (consM (bin powD (bin addD (bin addD (varM 4) (bin modD (callM toIntA (consM (varM 3) (nilM))) (cM (.int 1009)))) (varM 1)) (cM (.int 3))) (nilM))) (ixVA 2 (bin modD (callM toIntA (consM (bin addD (varM 1) (cM (.int 7))) (nilM))) (cM (.int 13))))))
    (retS (bin addD (bin mulA (bin addD (bin mulA (varM 3) (cM (.int 2147483647))) (varM 4)) (cM (.int 2147483647))) (varM 5)))))))))
def F__law_spread : List D → Option Sl := runF 2 N__law_spread m__law_spread
abbrev N__law_take : List Str := ["_law_pen", "_law_many", "_law_found", "_law_k", "_law_cell"]
def m__law_take : M Fl :=
    seqS (ifS (testM (bin ltD (ixVA 0 (cM (.int 2))) (varM 1))) (seqS (setS 3 (ixVA 0 (cM (.int 1))))
    (seqS (setS 4 (cM (.int 0)))
    (seqS (ifS (testM (bin ltD (varM 3) (callM lenA (consM (ixVA 0 (cM (.int 0))) (nilM))))) (setS 4 (bin ixA (ixVA 0 (cM (.int 0))) (varM 3))) (ifS (testM (bin gtD (callM lenA (consM (ixVA 0 (cM (.int 0))) (nilM))) (cM (.int 0)))) (setS 4 (bin modD (callM toIntA (consM (bin ixA (ixVA 0 (cM (.int 0))) (bin modD (callM toIntA (consM (bin addD (bin mulA (varM 3) (cM (.int 5))) (cM (.int 3))) (nilM))) (callM lenA (consM (ixVA 0 (cM (.int 0))) (nilM))))) (nilM))) (bin addD (bin powD (cM (.int 10)) (cM (.int 17))) (varM 3)))) (pureM .nx)))
    (seqS (setAS 0 (cM (.int 1)) (bin addD (varM 3) (cM (.int 1))))
    (setAS 0 (cM (.int 2)) (callM F__law_spread (consM (varM 4) (consM (varM 3) (nilM))))))))) (pureM .nx))
    (seqS (setS 2 (bin modD (callM toIntA (consM (ixVA 0 (cM (.int 2))) (nilM))) (varM 1)))
    (seqS (setAS 0 (cM (.int 2)) (bin fdivD (ixVA 0 (cM (.int 2))) (varM 1)))
    (retS (varM 2))))
def F__law_take : D → List D → Option (Sl × D) := runM 2 N__law_take m__law_take
abbrev N__law_one_of : List Str := ["_law_pen", "_law_some"]
def m__law_one_of : M Fl :=
    retS (ixVA 1 (callRM 0 F__law_take (consM (peekM lenA 1) (nilM))))
def F__law_one_of : D → List D → Option (Sl × D) := runM 2 N__law_one_of m__law_one_of
abbrev N__law_words : List Str := ["_law_one", "_law_found"]
def m__law_words : M Fl :=
    seqS (setS 1 (lstM (consM (isXM (isTab exNames (valOf "NoGrid")) (varM 0)) (consM (isXM (isTab exNames (valOf "NoNumber")) (varM 0)) (consM (isXM (isTab exNames (valOf "NoLetters")) (varM 0)) (nilM))))))
    (seqS (setS 1 (bin addD (varM 1) (lstM (consM (isXM (isTab exNames (valOf "NoSizes")) (varM 0)) (consM (isXM (isTab exNames (valOf "NoKeeping")) (varM 0)) (consM (isXM (isTab exNames (valOf "NoKeepings")) (varM 0)) (nilM)))))))
    (seqS (setS 1 (bin addD (varM 1) (lstM (consM (isXM (isTab exNames (valOf "NoWorker")) (varM 0)) (consM (isXM (isTab exNames (valOf "NoIndex")) (varM 0)) (consM (isXM (isTab exNames (valOf "NoTable")) (varM 0)) (nilM)))))))
    (seqS (setS 1 (bin addD (varM 1) (lstM (consM (isXM (isTab exNames (valOf "NoTables")) (varM 0)) (consM (isXM (isTab exNames (valOf "NoSpread")) (varM 0)) (consM (isXM (isTab exNames (valOf "NoSpreads")) (varM 0)) (nilM)))))))
    (seqS (setS 1 (bin addD (varM 1) (lstM (consM (isXM (isTab exNames (valOf "NoForm")) (varM 0)) (consM (isXM (isTab exNames (valOf "NoProgram")) (varM 0)) (consM (isXM (isTab exNames (valOf "NoKeeps")) (varM 0)) (nilM)))))))
    (seqS (setS 1 (bin addD (varM 1) (lstM (consM (isXM (isTab exNames (valOf "NoPlan")) (varM 0)) (consM (isXM (isTab exNames (valOf "NoWish")) (varM 0)) (consM (isXM (isTab exNames (valOf "NoName")) (varM 0)) (nilM)))))))
    (seqS (setS 1 (bin addD (varM 1) (lstM (consM (isXM (isTab exNames (valOf "NoPower")) (varM 0)) (consM (isXM (isTab exNames (valOf "NoMatch")) (varM 0)) (consM (isXM (isTab exNames (valOf "NoField")) (varM 0)) (nilM)))))))
    (seqS (setS 1 (bin addD (varM 1) (lstM (consM (isXM (isTab exNames (valOf "NoUndo")) (varM 0)) (consM (isXM (isTab exNames (valOf "NoLines")) (varM 0)) (consM (isXM (isTab exNames (valOf "NoWork")) (varM 0)) (nilM)))))))
    (seqS (setS 1 (bin addD (varM 1) (lstM (consM (isXM (isTab exNames (valOf "TooGreat")) (varM 0)) (consM (isXM (isTab exNames (valOf "Unfit")) (varM 0)) (consM (isXM (isTab exNames (valOf "NoLead")) (varM 0)) (nilM)))))))
    (seqS (setS 1 (bin addD (varM 1) (lstM (consM (isXM (isTab exNames (valOf "NoLine")) (varM 0)) (consM (isXM (isTab exNames (valOf "NoMessage")) (varM 0)) (consM (isXM (isTab exNames (valOf "NotTree")) (varM 0)) (nilM)))))))
    (seqS (setS 1 (bin addD (varM 1) (lstM (consM (isXM (isTab exNames (valOf "Gone")) (varM 0)) (nilM)))))
    (retV 1)))))))))))
def F__law_words : List D → Option Sl := runF 1 N__law_words m__law_words
abbrev N_law : List Str := ["_law_script", "_law_pen", "_law_errors", "_law_told", "_law_text", "_law_number", "_law_fault", "_law_name", "_law_k", "_law_one", "_law_j"]
def m_law : M Fl :=
    seqS (setS 1 (callM F__law_open (consM (varM 0) (nilM))))
    (seqS (parO 4 5 (callRM 1 F__law_one_of (consM (lstM (consM (cM (.str "")) (consM (cM (.str "a")) (consM (cM (.str "no grid")) (nilM))))) (nilM))) (callRM 1 F__law_take (consM (cM (.int 1000)) (nilM))))
    (seqS (parO 6 7 (callRM 1 F__law_one_of (consM (lstM (consM (tupM (consM (cM (.str "mixed")) (consM (cM (.int 0)) (nilM)))) (consM (tupM (consM (cM (.str "lost")) (consM (cM (.str "a")) (nilM)))) (consM (tupM (consM (cM (.str "terms")) (consM (cM (.int 2)) (nilM)))) (nilM))))) (nilM))) (callRM 1 F__law_one_of (consM (lstM (consM (cM (.str "x")) (consM (cM (.str "longname")) (nilM)))) (nilM))))
    (seqS (setS 2 (lstM (consM (excM "NoGrid" (varM 4)) (consM (excM "NoNumber" (varM 4)) (consM (excM "NoLetters" (varM 4)) (consM (excM "NoSizes" (varM 4)) (consM (excM "NoKeeping" (varM 4)) (nilM))))))))
    (seqS (setS 2 (bin addD (varM 2) (lstM (consM (excM "NoKeepings" (varM 4)) (consM (excM "NoWorker" (varM 4)) (consM (excM "NoIndex" (varM 4)) (consM (excM "NoTable" (varM 4)) (consM (excM "NoTables" (varM 4)) (nilM)))))))))
    (seqS (setS 2 (bin addD (varM 2) (lstM (consM (excM "NoSpread" (varM 4)) (consM (excM "NoSpreads" (varM 4)) (consM (excM "NoForm" (varM 4)) (consM (excM "NoProgram" (varM 4)) (consM (excM "NoKeeps" (varM 4)) (nilM)))))))))
    (seqS (setS 2 (bin addD (varM 2) (lstM (consM (excM "NoPlan" (varM 4)) (consM (excM "NoWish" (varM 4)) (consM (excM "NoName" (varM 4)) (consM (excM "NoPower" (varM 4)) (consM (excM "NoMatch" (varM 4)) (nilM)))))))))
    (seqS (setS 2 (bin addD (varM 2) (lstM (consM (excM "NoField" (varM 4)) (consM (excM "NoUndo" (varM 4)) (consM (excM "NoLines" (varM 4)) (consM (excM "NoWork" (varM 4)) (consM (excM "TooGreat" (varM 4)) (nilM)))))))))
    (seqS (setS 2 (bin addD (varM 2) (lstM (consM (exfM "Unfit" "fault" (varM 6)) (consM (exfM "NoLead" "side" (varM 5)) (consM (exfM "NoLine" "number" (varM 5)) (consM (exfM "NoMessage" "number" (varM 5)) (consM (exfM "NotTree" "name" (varM 7)) (consM (exfM "Gone" "name" (varM 7)) (nilM))))))))))
    (seqS (forS (rngM enumA (consM (varM 2) (nilM))) (tupG 2 (gsCons (putM 8) (gsCons (putM 9) (gsNil)))) (seqS (ifS (testM (bin neD (callM F__law_words (consM (varM 9) (nilM))) (lcM (rngM rng1 (consM (cM (.int 31)) (nilM))) (putM 10) (yesM) (bin eqD (varM 10) (varM 8)) [10]))) (retS (cM (.bool false))) (pureM .nx))
    (ifS (orM (notM (testM (isXM (isTab exNames valAll) (varM 9)))) (notM (testM (isXM (isTab exNames valAll) (varM 9))))) (retS (cM (.bool false))) (pureM .nx))))
    (seqS (setS 3 (lstM (consM (attrXM ["Unfit"] "fault" (ixVA 2 (cM (.int 25)))) (consM (attrXM ["NoLead"] "side" (ixVA 2 (cM (.int 26)))) (consM (attrXM ["NoLine", "NoMessage"] "number" (ixVA 2 (cM (.int 27)))) (consM (attrXM ["NoLine", "NoMessage"] "number" (ixVA 2 (cM (.int 28)))) (nilM)))))))
    (retS (bin eqD (callM reprX (consM (bin addD (varM 3) (lstM (consM (attrXM ["Gone", "NotTree"] "name" (ixVA 2 (cM (.int 29)))) (consM (attrXM ["Gone", "NotTree"] "name" (ixVA 2 (cM (.int 30)))) (nilM))))) (nilM))) (callM reprX (consM (bin addD (bin addD (lstM (consM (varM 6) (nilM))) (bin mulA (lstM (consM (varM 5) (nilM))) (cM (.int 3)))) (bin mulA (lstM (consM (varM 7) (nilM))) (cM (.int 2)))) (nilM)))))))))))))))
def F_law : List D → Option Sl := runF 1 N_law m_law
end Lw
namespace Lw
open PySem PySem.Spec PyProof.Rows L2 Fx
theorem sz (n : Nat) (h : n ≤ 10000000) : n ≤ sizeLine := by unfold sizeLine; omega
abbrev tx (l : List Nat) : Str := ⟨l.toArray⟩
abbrev lD (l : List Nat) : D := .str (tx l)
theorem tx_len (l : List Nat) : (tx l).length = l.length := by simp [tx, Str.length]
theorem tx_toList (l : List Nat) : (tx l).cps.toList = l := by simp [tx]
structure RepOk (k b : Nat) (d : D) : Prop where
  s : strsOk d = true
  n : Dt.hasDict d = false
  w : Dt.showable d = true
  p : Dt.depth d ≤ k
  z : wid d ≤ b
structure RepAll (k b : Nat) (ds : List D) : Prop where
  s : strsOkAll ds = true
  n : Dt.hasDictAll ds = false
  w : Dt.showableAll ds = true
  p : Dt.depthAll ds ≤ k
  z : widAll ds ≤ b
theorem RepAll.nil {k b : Nat} : RepAll k b [] := ⟨rfl, rfl, rfl, by simp [Dt.depthAll], by simp [widAll]⟩
theorem RepAll.cons {k b c e : Nat} {d : D} {ds : List D} (h : RepOk k b d) (t : RepAll k c ds) (he : b + 2 + c ≤ e) : RepAll k e (d :: ds) := by
  refine ⟨?_, ?_, ?_, ?_, ?_⟩
  · rw [strsOkAll, h.s, t.s]; rfl
  · rw [Dt.hasDictAll, h.n, t.n]; rfl
  · rw [Dt.showableAll, h.w, t.w]; rfl
  · rw [Dt.depthAll]; have := h.p; have := t.p; omega
  · rw [widAll]; have := h.z; have := t.z; omega
theorem RepAll.of {k b : Nat} : ∀ {ds : List D}, (∀ d ∈ ds, RepOk k b d) → RepAll k ((b + 2) * ds.length) ds
  | [], _ => .nil
  | d :: ds, h => .cons (h d List.mem_cons_self) (RepAll.of fun e he => h e (List.mem_cons_of_mem _ he)) (by rw [List.length_cons, Nat.mul_add]; omega)
theorem RepOk.le {k l b c : Nat} {d : D} (h : RepOk k b d) (e : k ≤ l) (f : b ≤ c) : RepOk l c d := ⟨h.s, h.n, h.w, Nat.le_trans h.p e, Nat.le_trans h.z f⟩
theorem RepAll.le {k l b c : Nat} {d : List D} (h : RepAll k b d) (e : k ≤ l) (f : b ≤ c) : RepAll l c d := ⟨h.s, h.n, h.w, Nat.le_trans h.p e, Nat.le_trans h.z f⟩
theorem RepOk.int {i : Int} {b : Nat} (h : i.natAbs.log2 + 2 ≤ b) (hb : b ≤ 1900) : RepOk 0 b (.int i) := by
  refine ⟨rfl, rfl, ?_, by simp [Dt.depth], h⟩
  simp only [Dt.showable, decide_eq_true_eq]; omega
theorem RepOk.str {l : List Nat} {b : Nat} (h : ∀ c ∈ l, c < 16 ^ 8) (hb : 10 * l.length + 2 ≤ b) : RepOk 0 b (lD l) := by
  refine ⟨?_, rfl, rfl, by simp [Dt.depth], ?_⟩
  · show (tx l).cps.toList.all _ = true
    rw [tx_toList, List.all_eq_true]
    exact fun c hc => decide_eq_true (h c hc)
  · show 10 * (tx l).length + 2 ≤ b
    rw [tx_len]; exact hb
theorem RepAll.tup {k b c : Nat} {ds : List D} (h : RepAll k b ds) (hc : b + 3 ≤ c) : RepOk (k + 1) c (.tuple ds) := ⟨by rw [Fx.strsOk]; exact h.s, by rw [Dt.hasDict]; exact h.n, by rw [Dt.showable]; exact h.w, by rw [Dt.depth]; have := h.p; omega, by rw [wid]; have := h.z; omega⟩
theorem RepAll.lst {k b c : Nat} {ds : List D} (h : RepAll k b ds) (hc : b + 2 ≤ c) : RepOk (k + 1) c (.list ds) := ⟨by rw [Fx.strsOk]; exact h.s, by rw [Dt.hasDict]; exact h.n, by rw [Dt.showable]; exact h.w, by rw [Dt.depth]; have := h.p; omega, by rw [wid]; have := h.z; omega⟩
theorem log_lt {n k : Nat} (h : n < 2 ^ k) (hk : 0 < k) : n.log2 < k := by
  by_cases h0 : n = 0
  · subst h0; rw [Nat.log2_zero]; exact hk
  · exact (Nat.log2_lt h0).mpr h
theorem log2_le {n k : Nat} (h : n < 2 ^ (k + 1)) : n.log2 ≤ k := Nat.le_of_lt_succ (log_lt h (by omega))
theorem lg {a b : Int} (ha : a.natAbs < 2 ^ 200) (hb : b.natAbs < 2 ^ 200) : a.natAbs.log2 + b.natAbs.log2 < 1000000 := by
  have := log2_le (n := a.natAbs) (k := 200) (by omega)
  have := log2_le (n := b.natAbs) (k := 200) (by omega)
  omega
theorem mul_bd {a b A B : Int} (a0 : 0 ≤ a) (a1 : a ≤ A) (b0 : 0 ≤ b) (b1 : b ≤ B) : 0 ≤ a * b ∧ a * b ≤ A * B := ⟨Int.mul_nonneg a0 b0, Int.mul_le_mul a1 b1 b0 (by omega)⟩
theorem enumFrom_at : ∀ (ds : List D) (n j : Nat) (x : D), (enumFrom n ds)[j]? = some x → ∃ d, ds[j]? = some d ∧ x = .tuple [.int (n + j : Nat), d]
  | [], n, j, x, h => by simp [enumFrom] at h
  | d :: ds, n, 0, x, h => by
    have h : some (Dt.tuple [.int n, d]) = some x := h
    exact ⟨d, rfl, (Option.some.inj h).symm⟩
  | d :: ds, n, j + 1, x, h => by
    obtain ⟨e, h1, h2⟩ := enumFrom_at ds (n + 1) j x h
    exact ⟨e, h1, by rw [h2, show n + 1 + j = n + (j + 1) by omega]⟩
end Lw
namespace Lw
open PySem PySem.Spec PyProof.Rows L2 Fx
def primesL : List D := [.int 2147483629, .int 2147483587, .int 2147483579, .int 2147483563, .int 2147483549, .int 2147483543, .int 2147483497, .int 2147483489, .int 2147483477, .int 2147483423, .int 2147483399, .int 2147483353, .int 2147483323]
theorem primes_at {i : Int} {Φ : D → Prop} (h0 : 0 ≤ i) (h : i < 13) (q : ∀ p : Int, 0 < p → p < 2 ^ 31 → Φ (.int p)) : Oo (atI primesL i) Φ := by
  refine oo_atI h0 h fun x e => ?_
  have : i.toNat < 13 := by omega
  have key : ∀ k < 13, ∃ p : Int, primesL[k]? = some (.int p) ∧ 0 < p ∧ p < 2 ^ 31 := by
    intro k hk
    rcases k with _ | _ | _ | _ | _ | _ | _ | _ | _ | _ | _ | _ | _ | k
    all_goals first | exact ⟨_, rfl, by decide, by decide⟩ | omega
  obtain ⟨p, e', p0, p1⟩ := key _ this
  rw [e'] at e
  obtain rfl := Option.some.inj e
  exact q p p0 p1
theorem spread_ok (c at' : Int) (h0 : 0 ≤ at') (h1 : at' < 2 ^ 20) : Oo (F__law_spread [.int c, .int at']) fun s => ∃ r, s = .fz (.int r) := by
  refine oo_runF rfl ?_
  show Ho m__law_spread [some (.fz (.int c)), some (.fz (.int at')), none, none, none, none] _
  unfold m__law_spread
  simp only [↓hoP, ↓hoQ, oP, vP, cP, wipeR, restR, if_true, if_false, Nat.reduceAdd, Int.reduceToNat, Int.reducePow, Int.reduceAdd, Int.reduceSub, Int.reduceNeg, Int.reduceMul, Int.reduceDiv, Int.reduceMod, Int.reduceLT, Int.reduceLE, Nat.reduceLeDiff, Nat.reduceEqDiff, ↓reduceIte]
  refine ⟨by decide, ?_⟩
  by_cases hc : (1000000000000000000 : Int) ≤ c
  · simp only [↓hoP, ↓hoQ, oP, vP, cP, wipeR, restR, if_true, if_false, Nat.reduceAdd, Int.reduceToNat, Int.reducePow, Int.reduceAdd, Int.reduceSub, Int.reduceNeg, Int.reduceMul, Int.reduceDiv, Int.reduceMod, Int.reduceLT, Int.reduceLE, Nat.reduceLeDiff, Nat.reduceEqDiff, ↓reduceIte, hc]
    exact ⟨_, rfl⟩
  · simp only [↓hoP, ↓hoQ, oP, vP, cP, wipeR, restR, if_true, if_false, Nat.reduceAdd, Int.reduceToNat, Int.reducePow, Int.reduceAdd, Int.reduceSub, Int.reduceNeg, Int.reduceMul, Int.reduceDiv, Int.reduceMod, Int.reduceLT, Int.reduceLE, Nat.reduceLeDiff, Nat.reduceEqDiff, ↓reduceIte, hc]
    have b1 := mul_bd (a := c % 1000000007) (A := 2 ^ 30) (b := 2 * at' + 69069) (B := 2 ^ 22) (by omega) (by omega) (by omega) (by omega)
    refine ⟨by decide, by decide, by decide, lg (by omega) (by omega), lg (by omega) (by omega), lg (by omega) (by omega), by omega, primes_at (by omega) (by omega) fun p p0 p1 => ?_⟩
    simp only [↓hoP, ↓hoQ, oP, vP, cP, wipeR, restR, if_true, if_false, Nat.reduceAdd, Int.reduceToNat, Int.reducePow, Int.reduceAdd, Int.reduceSub, Int.reduceNeg, Int.reduceMul, Int.reduceDiv, Int.reduceMod, Int.reduceLT, Int.reduceLE, Nat.reduceLeDiff, Nat.reduceEqDiff, ↓reduceIte]
    generalize hx : (c % 1000000007 * (2 * at' + 69069) + at' * 40503 + 977) ^ 3 % p = x
    have hx0 : 0 ≤ x := hx ▸ Int.emod_nonneg _ (by omega)
    have hx1 : x < p := hx ▸ Int.emod_lt_of_pos _ p0
    have b2 := mul_bd (a := x) (A := 2 ^ 31) (b := at' + 3) (B := 2 ^ 21) (by omega) (by omega) (by omega) (by omega)
    refine ⟨p0, lg (by omega) (by omega), by omega, primes_at (by omega) (by omega) fun p p0 p1 => ?_⟩
    simp only [↓hoP, ↓hoQ, oP, vP, cP, wipeR, restR, if_true, if_false, Nat.reduceAdd, Int.reduceToNat, Int.reducePow, Int.reduceAdd, Int.reduceSub, Int.reduceNeg, Int.reduceMul, Int.reduceDiv, Int.reduceMod, Int.reduceLT, Int.reduceLE, Nat.reduceLeDiff, Nat.reduceEqDiff, ↓reduceIte]
    generalize hy : (x * (at' + 3) + c % 65537 + 5) ^ 5 % p = y
    have hy0 : 0 ≤ y := hy ▸ Int.emod_nonneg _ (by omega)
    have hy1 : y < p := hy ▸ Int.emod_lt_of_pos _ p0
    refine ⟨p0, by omega, primes_at (by omega) (by omega) fun p p0 p1 => ?_⟩
    simp only [↓hoP, ↓hoQ, oP, vP, cP, wipeR, restR, if_true, if_false, Nat.reduceAdd, Int.reduceToNat, Int.reducePow, Int.reduceAdd, Int.reduceSub, Int.reduceNeg, Int.reduceMul, Int.reduceDiv, Int.reduceMod, Int.reduceLT, Int.reduceLE, Nat.reduceLeDiff, Nat.reduceEqDiff, ↓reduceIte]
    generalize hz : (y + x % 1009 + at') ^ 3 % p = z
    have hz0 : 0 ≤ z := hz ▸ Int.emod_nonneg _ (by omega)
    have hz1 : z < p := hz ▸ Int.emod_lt_of_pos _ p0
    exact ⟨p0, lg (by omega) (by omega), lg (by omega) (by omega), _, rfl⟩
def PenOk (n : Nat) (d : D) : Prop := ∃ (cs : List Int) (at' rest : Int), d = .list [.list (cs.map Dt.int), .int at', .int rest] ∧ 0 ≤ at' ∧ at' ≤ n
theorem PenOk.le {n m : Nat} {d : D} (h : PenOk n d) (l : n ≤ m) : PenOk m d := by
  obtain ⟨cs, a, r, e, h0, h1⟩ := h
  exact ⟨cs, a, r, e, h0, by omega⟩
theorem map_int_at {cs : List Int} {k : Nat} {x : D} (h : (cs.map Dt.int)[k]? = some x) : ∃ i, x = .int i := by
  rw [List.getElem?_map] at h
  obtain ⟨i, _, e⟩ := Option.map_eq_some_iff.mp h
  exact ⟨i, e.symm⟩
theorem map_int_set {cs : List Int} {k : Nat} {i : Int} : (cs.map Dt.int).set k (.int i) = (cs.set k i).map Dt.int := by
  rw [List.map_set]
theorem take_ok {n : Nat} {d : D} {many : Int} {Φ : Sl × D → Prop} (hp : PenOk n d) (hn : n < 2 ^ 20) (hm : 0 < many) (hb : many.natAbs.log2 < 9000)
    (q : ∀ r d', 0 ≤ r → r < many → PenOk (n + 1) d' → Φ (.fz (.int r), d')) : Oo (F__law_take d [.int many]) Φ := by
  obtain ⟨cs, a, r, rfl, h0, h1⟩ := hp
  refine oo_runM rfl ?_
  show Ho m__law_take [some (.ow (.list [.list (cs.map Dt.int), .int a, .int r])), some (.fz (.int many)), none, none, none] _
  have e0 : ∀ (x y z : D), atI [x, y, z] 0 = some x := fun _ _ _ => rfl
  have e1 : ∀ (x y z : D), atI [x, y, z] 1 = some y := fun _ _ _ => rfl
  have e2 : ∀ (x y z : D), atI [x, y, z] 2 = some z := fun _ _ _ => rfl
  have n1 : ixN 3 1 = some 1 := rfl
  have n2 : ixN 3 2 = some 2 := rfl
  unfold m__law_take
  simp only [↓hoP, ↓hoQ, oP, vP, cP, wipeR, restR, if_true, if_false, Nat.reduceAdd, Int.reduceToNat, Int.reducePow, Int.reduceAdd, Int.reduceSub, Int.reduceNeg, Int.reduceMul, Int.reduceDiv, Int.reduceMod, Int.reduceLT, Int.reduceLE, Nat.reduceLeDiff, Nat.reduceEqDiff, ↓reduceIte, e0, e1, e2]
  by_cases hr : r < many
  · simp only [↓hoP, ↓hoQ, oP, vP, cP, wipeR, restR, if_true, if_false, Nat.reduceAdd, Int.reduceToNat, Int.reducePow, Int.reduceAdd, Int.reduceSub, Int.reduceNeg, Int.reduceMul, Int.reduceDiv, Int.reduceMod, Int.reduceLT, Int.reduceLE, Nat.reduceLeDiff, Nat.reduceEqDiff, ↓reduceIte, hr, e0, e1, e2]
    by_cases ha : a < (cs.map Dt.int).length
    · simp only [↓hoP, ↓hoQ, oP, vP, cP, wipeR, restR, if_true, if_false, Nat.reduceAdd, Int.reduceToNat, Int.reducePow, Int.reduceAdd, Int.reduceSub, Int.reduceNeg, Int.reduceMul, Int.reduceDiv, Int.reduceMod, Int.reduceLT, Int.reduceLE, Nat.reduceLeDiff, Nat.reduceEqDiff, ↓reduceIte, ha]
      refine oo_atI h0 ha fun x hx => ?_
      obtain ⟨c, rfl⟩ := map_int_at hx
      simp only [↓hoP, ↓hoQ, oP, vP, cP, wipeR, restR, if_true, if_false, Nat.reduceAdd, Int.reduceToNat, Int.reducePow, Int.reduceAdd, Int.reduceSub, Int.reduceNeg, Int.reduceMul, Int.reduceDiv, Int.reduceMod, Int.reduceLT, Int.reduceLE, Nat.reduceLeDiff, Nat.reduceEqDiff, ↓reduceIte, n1, n2]
      refine oo_mono (spread_ok _ a h0 (by omega)) fun s hs => ?_
      obtain ⟨r', rfl⟩ := hs
      simp only [↓hoP, ↓hoQ, oP, vP, cP, wipeR, restR, if_true, if_false, Nat.reduceAdd, Int.reduceToNat, Int.reducePow, Int.reduceAdd, Int.reduceSub, Int.reduceNeg, Int.reduceMul, Int.reduceDiv, Int.reduceMod, Int.reduceLT, Int.reduceLE, Nat.reduceLeDiff, Nat.reduceEqDiff, ↓reduceIte, e2, n2]
      exact ⟨hm, ⟨hm, hb⟩, q _ _ (Int.emod_nonneg _ (by omega)) (Int.emod_lt_of_pos _ hm) ⟨cs, a + 1, _, rfl, by omega, by omega⟩⟩
    · simp only [↓hoP, ↓hoQ, oP, vP, cP, wipeR, restR, if_true, if_false, Nat.reduceAdd, Int.reduceToNat, Int.reducePow, Int.reduceAdd, Int.reduceSub, Int.reduceNeg, Int.reduceMul, Int.reduceDiv, Int.reduceMod, Int.reduceLT, Int.reduceLE, Nat.reduceLeDiff, Nat.reduceEqDiff, ↓reduceIte, ha]
      by_cases hl : (0 : Int) < (cs.map Dt.int).length
      · simp only [↓hoP, ↓hoQ, oP, vP, cP, wipeR, restR, if_true, if_false, Nat.reduceAdd, Int.reduceToNat, Int.reducePow, Int.reduceAdd, Int.reduceSub, Int.reduceNeg, Int.reduceMul, Int.reduceDiv, Int.reduceMod, Int.reduceLT, Int.reduceLE, Nat.reduceLeDiff, Nat.reduceEqDiff, ↓reduceIte, hl]
        refine ⟨lg (by omega) (by omega), oo_atI (Int.emod_nonneg _ (by omega)) (Int.emod_lt_of_pos _ hl) fun x hx => ?_⟩
        obtain ⟨c, rfl⟩ := map_int_at hx
        simp only [↓hoP, ↓hoQ, oP, vP, cP, wipeR, restR, if_true, if_false, Nat.reduceAdd, Int.reduceToNat, Int.reducePow, Int.reduceAdd, Int.reduceSub, Int.reduceNeg, Int.reduceMul, Int.reduceDiv, Int.reduceMod, Int.reduceLT, Int.reduceLE, Nat.reduceLeDiff, Nat.reduceEqDiff, ↓reduceIte, n1, n2]
        refine ⟨by decide, by omega, ?_⟩
        refine oo_mono (spread_ok _ a h0 (by omega)) fun s hs => ?_
        obtain ⟨r', rfl⟩ := hs
        simp only [↓hoP, ↓hoQ, oP, vP, cP, wipeR, restR, if_true, if_false, Nat.reduceAdd, Int.reduceToNat, Int.reducePow, Int.reduceAdd, Int.reduceSub, Int.reduceNeg, Int.reduceMul, Int.reduceDiv, Int.reduceMod, Int.reduceLT, Int.reduceLE, Nat.reduceLeDiff, Nat.reduceEqDiff, ↓reduceIte, e2, n2]
        exact ⟨hm, ⟨hm, hb⟩, q _ _ (Int.emod_nonneg _ (by omega)) (Int.emod_lt_of_pos _ hm) ⟨cs, a + 1, _, rfl, by omega, by omega⟩⟩
      · simp only [↓hoP, ↓hoQ, oP, vP, cP, wipeR, restR, if_true, if_false, Nat.reduceAdd, Int.reduceToNat, Int.reducePow, Int.reduceAdd, Int.reduceSub, Int.reduceNeg, Int.reduceMul, Int.reduceDiv, Int.reduceMod, Int.reduceLT, Int.reduceLE, Nat.reduceLeDiff, Nat.reduceEqDiff, ↓reduceIte, hl, n1, n2]
        refine oo_mono (spread_ok _ a h0 (by omega)) fun s hs => ?_
        obtain ⟨r', rfl⟩ := hs
        simp only [↓hoP, ↓hoQ, oP, vP, cP, wipeR, restR, if_true, if_false, Nat.reduceAdd, Int.reduceToNat, Int.reducePow, Int.reduceAdd, Int.reduceSub, Int.reduceNeg, Int.reduceMul, Int.reduceDiv, Int.reduceMod, Int.reduceLT, Int.reduceLE, Nat.reduceLeDiff, Nat.reduceEqDiff, ↓reduceIte, e2, n2]
        exact ⟨hm, ⟨hm, hb⟩, q _ _ (Int.emod_nonneg _ (by omega)) (Int.emod_lt_of_pos _ hm) ⟨cs, a + 1, _, rfl, by omega, by omega⟩⟩
  · simp only [↓hoP, ↓hoQ, oP, vP, cP, wipeR, restR, if_true, if_false, Nat.reduceAdd, Int.reduceToNat, Int.reducePow, Int.reduceAdd, Int.reduceSub, Int.reduceNeg, Int.reduceMul, Int.reduceDiv, Int.reduceMod, Int.reduceLT, Int.reduceLE, Nat.reduceLeDiff, Nat.reduceEqDiff, ↓reduceIte, hr, e2, n2]
    exact ⟨hm, ⟨hm, hb⟩, q _ _ (Int.emod_nonneg _ (by omega)) (Int.emod_lt_of_pos _ hm) ⟨cs, a, _, rfl, by omega, by omega⟩⟩
theorem cut_map (ns : List Int) (lo hi : Option Int) : ∃ cs : List Int, Fx.cutD (ns.map Dt.int) lo hi = cs.map Dt.int := by
  unfold Fx.cutD
  rw [← List.map_drop, ← List.map_take]
  exact ⟨_, rfl⟩
theorem open_ok (ns : List Int) : Oo (F__law_open [.list (ns.map Dt.int)]) fun s => ∃ d, s = .ow d ∧ PenOk 0 d := by
  refine oo_runF rfl ?_
  show Ho m__law_open [some (.fz (.list (ns.map Dt.int))), none, none, none] _
  unfold m__law_open
  simp only [↓hoP, ↓hoQ, oP, vP, cP, wipeR, restR, if_true, if_false, Nat.reduceAdd, Int.reduceToNat, Int.reducePow, Int.reduceAdd, Int.reduceSub, Int.reduceNeg, Int.reduceMul, Int.reduceDiv, Int.reduceMod, Int.reduceLT, Int.reduceLE, Nat.reduceLeDiff, Nat.reduceEqDiff, ↓reduceIte]
  obtain ⟨cs, hcs⟩ := cut_map ns none (some 12)
  obtain ⟨ms, hms⟩ := cut_map ns (some 12) (some 63)
  have hl : (Fx.cutD (ns.map Dt.int) none (some 12)).length = min 12 ns.length := by
    simp [Fx.cutD, HT.sIx]
  have hk : ns.length ≤ 12 → Fx.cutD (ns.map Dt.int) (some 12) (some 63) = [] := by
    intro h
    simp [Fx.cutD, HT.sIx, Nat.min_eq_right h]
  rw [hcs] at hl ⊢
  rw [hms] at hk ⊢
  refine ho_for_all (fun _ ρ => ∃ cs : List Int, ∃ s2 s3, ρ = [some (.fz (.list (ns.map Dt.int))), some (.ow (.list (cs.map Dt.int))), s2, s3] ∧ (12 < ns.length → cs.length = 12)) _ _ 0 _ ⟨cs, none, none, rfl, fun h => by rw [List.length_map] at hl; omega⟩ ?_ ?_
  · rintro j x ρ1 hx ⟨cs, s2, s3, rfl, hc⟩
    obtain ⟨d, hd, rfl⟩ := enumFrom_at _ _ _ _ hx
    have hn : 12 < ns.length := by
      by_cases h : 12 < ns.length
      · exact h
      · rw [hk (by omega)] at hd; simp at hd
    obtain ⟨i, rfl⟩ := map_int_at hd
    have h12 : (cs.map Dt.int).length = 12 := by rw [List.length_map]; exact hc hn
    simp only [↓hoP, ↓hoQ, oP, vP, cP, wipeR, restR, if_true, if_false, Nat.reduceAdd, Int.reduceToNat, Int.reducePow, Int.reduceAdd, Int.reduceSub, Int.reduceNeg, Int.reduceMul, Int.reduceDiv, Int.reduceMod, Int.reduceLT, Int.reduceLE, Nat.reduceLeDiff, Nat.reduceEqDiff, ↓reduceIte]
    refine oo_atI (Int.emod_nonneg _ (by omega)) (by rw [h12]; exact Int.emod_lt_of_pos _ (by omega)) fun x hx => ?_
    obtain ⟨c, rfl⟩ := map_int_at hx
    simp only [↓hoP, ↓hoQ, oP, vP, cP, wipeR, restR, if_true, if_false, Nat.reduceAdd, Int.reduceToNat, Int.reducePow, Int.reduceAdd, Int.reduceSub, Int.reduceNeg, Int.reduceMul, Int.reduceDiv, Int.reduceMod, Int.reduceLT, Int.reduceLE, Nat.reduceLeDiff, Nat.reduceEqDiff, ↓reduceIte]
    refine oo_ixN (Int.emod_nonneg _ (by omega)) (by rw [h12]; exact Int.emod_lt_of_pos _ (by omega)) ?_
    simp only [↓hoP, ↓hoQ, oP, vP, cP, wipeR, restR, if_true, if_false, Nat.reduceAdd, Int.reduceToNat, Int.reducePow, Int.reduceAdd, Int.reduceSub, Int.reduceNeg, Int.reduceMul, Int.reduceDiv, Int.reduceMod, Int.reduceLT, Int.reduceLE, Nat.reduceLeDiff, Nat.reduceEqDiff, ↓reduceIte]
    rw [map_int_set]
    exact ⟨_, _, _, rfl, fun h => by rw [List.length_set]; exact hc h⟩
  · rintro ρ1 ⟨cs, s2, s3, rfl, hc⟩
    simp only [↓hoP, ↓hoQ, oP, vP, cP, wipeR, restR, if_true, if_false, Nat.reduceAdd, Int.reduceToNat, Int.reducePow, Int.reduceAdd, Int.reduceSub, Int.reduceNeg, Int.reduceMul, Int.reduceDiv, Int.reduceMod, Int.reduceLT, Int.reduceLE, Nat.reduceLeDiff, Nat.reduceEqDiff, ↓reduceIte]
    exact ⟨by decide, _, rfl, cs, 0, 0, rfl, by omega, by omega⟩
theorem pick_ok {n : Nat} {d : D} {ds : List D} {Φ : Sl × D → Prop} (hp : PenOk n d) (hn : n < 2 ^ 20) (h0 : 0 < ds.length) (hl : ds.length < 2 ^ 20)
    (q : ∀ k x d', k < ds.length → ds[k]? = some x → PenOk (n + 1) d' → Φ (.fz x, d')) : Oo (F__law_one_of d [.list ds]) Φ := by
  refine oo_runM rfl ?_
  show Ho m__law_one_of [some (.ow d), some (.fz (.list ds))] _
  unfold m__law_one_of
  simp only [↓hoP, ↓hoQ, oP, vP, cP, wipeR, restR, if_true, if_false, Nat.reduceAdd, Int.reduceToNat, Int.reducePow, Int.reduceAdd, Int.reduceSub, Int.reduceNeg, Int.reduceMul, Int.reduceDiv, Int.reduceMod, Int.reduceLT, Int.reduceLE, Nat.reduceLeDiff, Nat.reduceEqDiff, ↓reduceIte]
  refine take_ok hp hn (by omega) (Nat.lt_of_lt_of_le (log_lt (k := 20) (by omega) (by omega)) (by omega)) fun r d' r0 r1 pk => ?_
  simp only [↓hoP, ↓hoQ, oP, vP, cP, wipeR, restR, if_true, if_false, Nat.reduceAdd, Int.reduceToNat, Int.reducePow, Int.reduceAdd, Int.reduceSub, Int.reduceNeg, Int.reduceMul, Int.reduceDiv, Int.reduceMod, Int.reduceLT, Int.reduceLE, Nat.reduceLeDiff, Nat.reduceEqDiff, ↓reduceIte]
  refine oo_atI r0 r1 fun x hx => ?_
  exact q _ x d' (by omega) hx pk
end Lw
namespace Lw
open PySem PySem.Spec PyProof.Rows L2 Fx
/-- the law's errors, in its order -/
def nmL : List Str := ["NoGrid", "NoNumber", "NoLetters", "NoSizes", "NoKeeping", "NoKeepings", "NoWorker", "NoIndex", "NoTable", "NoTables", "NoSpread", "NoSpreads", "NoForm", "NoProgram", "NoKeeps", "NoPlan", "NoWish", "NoName", "NoPower", "NoMatch", "NoField", "NoUndo", "NoLines", "NoWork", "TooGreat", "Unfit", "NoLead", "NoLine", "NoMessage", "NotTree", "Gone"]
def bodyT : M Fl := (seqS (ifS (testM (bin neD (callM F__law_words (consM (varM 9) (nilM))) (lcM (rngM rng1 (consM (cM (.int 31)) (nilM))) (putM 10) (yesM) (bin eqD (varM 10) (varM 8)) [10]))) (retS (cM (.bool false))) (pureM .nx))
    (ifS (orM (notM (testM (isXM (isTab exNames valAll) (varM 9)))) (notM (testM (isXM (isTab exNames valAll) (varM 9))))) (retS (cM (.bool false))) (pureM .nx)))
theorem turn_ok (s0 s1 s2 s3 s4 s5 s6 s7 : Option Sl) (ns : List Str) (ds : List D) : ∀ (j : Nat) (c : Str), nmL[j]? = some c →
    bodyT [s0, s1, s2, s3, s4, s5, s6, s7, some (.fz (.int j)), some (.fz (.obj c ns ds)), none] = some (.nx, [s0, s1, s2, s3, s4, s5, s6, s7, some (.fz (.int j)), some (.fz (.obj c ns ds)), none]) := by
  intro j c h
  rcases j with _ | _ | _ | _ | _ | _ | _ | _ | _ | _ | _ | _ | _ | _ | _ | _ | _ | _ | _ | _ | _ | _ | _ | _ | _ | _ | _ | _ | _ | _ | _ | j
  · cases h; kernel_rfl
  · cases h; kernel_rfl
  · cases h; kernel_rfl
  · cases h; kernel_rfl
  · cases h; kernel_rfl
  · cases h; kernel_rfl
  · cases h; kernel_rfl
  · cases h; kernel_rfl
  · cases h; kernel_rfl
  · cases h; kernel_rfl
  · cases h; kernel_rfl
  · cases h; kernel_rfl
  · cases h; kernel_rfl
  · cases h; kernel_rfl
  · cases h; kernel_rfl
  · cases h; kernel_rfl
  · cases h; kernel_rfl
  · cases h; kernel_rfl
  · cases h; kernel_rfl
  · cases h; kernel_rfl
  · cases h; kernel_rfl
  · cases h; kernel_rfl
  · cases h; kernel_rfl
  · cases h; kernel_rfl
  · cases h; kernel_rfl
  · cases h; kernel_rfl
  · cases h; kernel_rfl
  · cases h; kernel_rfl
  · cases h; kernel_rfl
  · cases h; kernel_rfl
  · cases h; kernel_rfl
  · simp [nmL] at h
end Lw
namespace Lw
open PySem PySem.Spec PyProof.Rows L2 Fx
theorem h0_excM {c : Str} {ma : M Sl} {ρ : Rho} {Φ : Sl → Rho → Prop} : H0 (excM c ma) ρ Φ = H0 ma ρ fun _ ρ1 => Φ (.fz (.obj c [] [])) ρ1 := by
  unfold excM; simp only [h0_bindM, h0_pureM]
theorem ho_excM {c : Str} {ma : M Sl} {ρ : Rho} {Φ : Sl → Rho → Prop} : Ho (excM c ma) ρ Φ = Ho ma ρ fun _ ρ1 => Φ (.fz (.obj c [] [])) ρ1 := h0_excM
theorem h0_exfM {c f : Str} {ma : M Sl} {ρ : Rho} {Φ : Sl → Rho → Prop} : H0 (exfM c f ma) ρ Φ = H0 ma ρ fun r ρ1 => fmtD r.d = true ∧ Φ (.fz (.obj c [f] [r.d])) ρ1 := by
  unfold exfM; simp only [h0_bindM]
  congr 1; funext r ρ1
  by_cases h : fmtD r.d = true
  · rw [if_pos h, h0_pureM]; simp [h]
  · rw [if_neg h, h0_liftM, o0_none]; simp [h]
theorem ho_exfM {c f : Str} {ma : M Sl} {ρ : Rho} {Φ : Sl → Rho → Prop} : Ho (exfM c f ma) ρ Φ = Ho ma ρ fun r ρ1 => fmtD r.d = true ∧ Φ (.fz (.obj c [f] [r.d])) ρ1 := h0_exfM
def plainE : List D := [.obj "NoGrid" [] [], .obj "NoNumber" [] [], .obj "NoLetters" [] [], .obj "NoSizes" [] [], .obj "NoKeeping" [] [], .obj "NoKeepings" [] [], .obj "NoWorker" [] [], .obj "NoIndex" [] [], .obj "NoTable" [] [], .obj "NoTables" [] [], .obj "NoSpread" [] [], .obj "NoSpreads" [] [], .obj "NoForm" [] [], .obj "NoProgram" [] [], .obj "NoKeeps" [] [], .obj "NoPlan" [] [], .obj "NoWish" [] [], .obj "NoName" [] [], .obj "NoPower" [] [], .obj "NoMatch" [] [], .obj "NoField" [] [], .obj "NoUndo" [] [], .obj "NoLines" [] [], .obj "NoWork" [] [], .obj "TooGreat" [] []]
def errs (fD nmD : D) (n : Int) : List D := plainE ++ [.obj "Unfit" ["fault"] [fD], .obj "NoLead" ["side"] [.int n], .obj "NoLine" ["number"] [.int n], .obj "NoMessage" ["number"] [.int n], .obj "NotTree" ["name"] [nmD], .obj "Gone" ["name"] [nmD]]
theorem errs_at {fD nmD : D} {n : Int} {j : Nat} {d : D} (h : (errs fD nmD n)[j]? = some d) : ∃ c ns ds, d = .obj c ns ds ∧ nmL[j]? = some c := by
  rcases j with _ | _ | _ | _ | _ | _ | _ | _ | _ | _ | _ | _ | _ | _ | _ | _ | _ | _ | _ | _ | _ | _ | _ | _ | _ | _ | _ | _ | _ | _ | _ | j
  all_goals first
    | (cases h; exact ⟨_, _, _, rfl, rfl⟩)
    | (simp [errs, plainE] at h)
/-- what may be shown -/
structure Shw (d : D) : Prop where
  sh : d.showable = true
  dp : d.depth ≤ 1
  so : Fx.strsOk d = true
  nd : d.hasDict = false
  wd : Fx.wid d ≤ 3000
theorem shw_list : ∀ {ds : List D}, (∀ d ∈ ds, Shw d) → Dt.showableAll ds = true ∧ Dt.depthAll ds ≤ 1 ∧ Fx.strsOkAll ds = true ∧ Dt.hasDictAll ds = false ∧ Fx.widAll ds ≤ 4000 * ds.length
  | [], _ => ⟨rfl, Nat.zero_le _, rfl, rfl, Nat.zero_le _⟩
  | d :: ds, h => by
    have a := h d List.mem_cons_self
    obtain ⟨b1, b2, b3, b4, b5⟩ := shw_list fun e he => h e (List.mem_cons_of_mem _ he)
    refine ⟨by rw [Dt.showableAll, a.sh, b1]; rfl, by rw [Dt.depthAll]; exact Nat.max_le.mpr ⟨a.dp, b2⟩, by rw [Fx.strsOkAll, a.so, b3]; rfl, by rw [Dt.hasDictAll, a.nd, b4]; rfl, ?_⟩
    rw [Fx.widAll, List.length_cons]
    have := a.wd
    omega
theorem repr_ok {ds : List D} {Φ : Sl → Prop} (h : ∀ d ∈ ds, Shw d) (hl : ds.length ≤ 10) (q : Φ (.fz (.str (Dt.list ds).shown))) : Oo (reprX [.list ds]) Φ := by
  obtain ⟨b1, b2, b3, b4, b5⟩ := shw_list h
  refine ⟨_, if_pos ⟨by rw [Dt.showable]; exact b1, by rw [Dt.depth]; omega, ?_⟩, q⟩
  refine Nat.le_trans (shown_len _ (by rw [Fx.strsOk]; exact b3) (by rw [Dt.hasDict]; exact b4)) ?_
  rw [Fx.wid]
  exact sz _ (by omega)
theorem law_true : ∀ ns : List Int, ns.length ≤ 63 → F_law [.list (ns.map .int)] = some (.fz (.bool true)) := by
  intro ns _
  suffices h : Oo (F_law [.list (ns.map .int)]) fun s => s = .fz (.bool true) by
    obtain ⟨s, e, rfl⟩ := h
    exact e
  refine oo_runF rfl ?_
  show Ho m_law [some (.fz (.list (ns.map .int))), none, none, none, none, none, none, none, none, none, none] _
  unfold m_law
  simp only [↓hoP, ↓hoQ, oP, vP, cP, wipeR, restR, if_true, if_false, Nat.reduceAdd, Int.reduceToNat, Int.reducePow, Int.reduceAdd, Int.reduceSub, Int.reduceNeg, Int.reduceMul, Int.reduceDiv, Int.reduceMod, Int.reduceLT, Int.reduceLE, Nat.reduceLeDiff, Nat.reduceEqDiff, ↓reduceIte]
  refine oo_mono (open_ok ns) fun s hs => ?_
  obtain ⟨d0, rfl, pk0⟩ := hs
  simp only [↓hoP, ↓hoQ, oP, vP, cP, wipeR, restR, if_true, if_false, Nat.reduceAdd, Int.reduceToNat, Int.reducePow, Int.reduceAdd, Int.reduceSub, Int.reduceNeg, Int.reduceMul, Int.reduceDiv, Int.reduceMod, Int.reduceLT, Int.reduceLE, Nat.reduceLeDiff, Nat.reduceEqDiff, ↓reduceIte]
  repeat refine ⟨by decide, ?_⟩
  refine pick_ok pk0 (by omega) ?_ ?_ fun k1 x1 d1 hk1 h1 pk1 => ?_
  · decide
  · decide
  simp only [↓hoP, ↓hoQ, oP, vP, cP, wipeR, restR, if_true, if_false, Nat.reduceAdd, Int.reduceToNat, Int.reducePow, Int.reduceAdd, Int.reduceSub, Int.reduceNeg, Int.reduceMul, Int.reduceDiv, Int.reduceMod, Int.reduceLT, Int.reduceLE, Nat.reduceLeDiff, Nat.reduceEqDiff, ↓reduceIte]
  refine take_ok pk1 (by omega) (by omega) (by decide) fun n d2 n0 n1 pk2 => ?_
  simp only [↓hoP, ↓hoQ, oP, vP, cP, wipeR, restR, if_true, if_false, Nat.reduceAdd, Int.reduceToNat, Int.reducePow, Int.reduceAdd, Int.reduceSub, Int.reduceNeg, Int.reduceMul, Int.reduceDiv, Int.reduceMod, Int.reduceLT, Int.reduceLE, Nat.reduceLeDiff, Nat.reduceEqDiff, ↓reduceIte]
  repeat refine ⟨by decide, ?_⟩
  refine pick_ok pk2 (by omega) ?_ ?_ fun k3 x3 d3 hk3 h3 pk3 => ?_
  · decide
  · decide
  simp only [↓hoP, ↓hoQ, oP, vP, cP, wipeR, restR, if_true, if_false, Nat.reduceAdd, Int.reduceToNat, Int.reducePow, Int.reduceAdd, Int.reduceSub, Int.reduceNeg, Int.reduceMul, Int.reduceDiv, Int.reduceMod, Int.reduceLT, Int.reduceLE, Nat.reduceLeDiff, Nat.reduceEqDiff, ↓reduceIte]
  repeat refine ⟨by decide, ?_⟩
  refine pick_ok pk3 (by omega) ?_ ?_ fun k4 x4 d4 hk4 h4 pk4 => ?_
  · decide
  · decide
  have hF : fmtD x3 = true ∧ Shw x3 := by
    rcases k3 with _ | _ | _ | k3
    · cases h3; exact ⟨by decide +kernel, by decide +kernel, by decide +kernel, by decide +kernel, by decide +kernel, by decide +kernel⟩
    · cases h3; exact ⟨by decide +kernel, by decide +kernel, by decide +kernel, by decide +kernel, by decide +kernel, by decide +kernel⟩
    · cases h3; exact ⟨by decide +kernel, by decide +kernel, by decide +kernel, by decide +kernel, by decide +kernel, by decide +kernel⟩
    · simp at h3
  have hN : ∃ nm : Str, x4 = .str nm ∧ nm.length ≤ 8 ∧ Shw (.str nm) := by
    rcases k4 with _ | _ | k4
    · cases h4; exact ⟨_, rfl, by decide, by decide +kernel, by decide +kernel, by decide +kernel, by decide +kernel, by decide +kernel⟩
    · cases h4; exact ⟨_, rfl, by decide, by decide +kernel, by decide +kernel, by decide +kernel, by decide +kernel, by decide +kernel⟩
    · simp at h4
  obtain ⟨nm, rfl, hl, hS⟩ := hN
  have hI : Shw (.int n) := ⟨by rw [Dt.showable]; exact decide_eq_true (by have := log_lt (n := n.natAbs) (k := 20) (by omega) (by omega); omega), by rw [Dt.depth]; omega, rfl, rfl, by rw [Fx.wid]; have := log_lt (n := n.natAbs) (k := 20) (by omega) (by omega); omega⟩
  have hf : fmtD (.int n) = true := decide_eq_true (by have := log_lt (n := n.natAbs) (k := 20) (by omega) (by omega); omega)
  have hm : fmtD (.str nm) = true := decide_eq_true (by omega)
  have e25 : atI (errs x3 (.str nm) n) 25 = some (.obj "Unfit" ["fault"] [x3]) := rfl
  have e26 : atI (errs x3 (.str nm) n) 26 = some (.obj "NoLead" ["side"] [.int n]) := rfl
  have e27 : atI (errs x3 (.str nm) n) 27 = some (.obj "NoLine" ["number"] [.int n]) := rfl
  have e28 : atI (errs x3 (.str nm) n) 28 = some (.obj "NoMessage" ["number"] [.int n]) := rfl
  have e29 : atI (errs x3 (.str nm) n) 29 = some (.obj "NotTree" ["name"] [.str nm]) := rfl
  have e30 : atI (errs x3 (.str nm) n) 30 = some (.obj "Gone" ["name"] [.str nm]) := rfl
  have a25 : attrXD ["Unfit"] "fault" (.obj "Unfit" ["fault"] [x3]) = some (.fz x3) := rfl
  have a26 : attrXD ["NoLead"] "side" (.obj "NoLead" ["side"] [.int n]) = some (.fz (.int n)) := rfl
  have a27 : attrXD ["NoLine", "NoMessage"] "number" (.obj "NoLine" ["number"] [.int n]) = some (.fz (.int n)) := rfl
  have a28 : attrXD ["NoLine", "NoMessage"] "number" (.obj "NoMessage" ["number"] [.int n]) = some (.fz (.int n)) := rfl
  have a29 : attrXD ["Gone", "NotTree"] "name" (.obj "NotTree" ["name"] [.str nm]) = some (.fz (.str nm)) := rfl
  have a30 : attrXD ["Gone", "NotTree"] "name" (.obj "Gone" ["name"] [.str nm]) = some (.fz (.str nm)) := rfl
  simp only [↓hoP, ↓hoQ, oP, vP, cP, wipeR, restR, if_true, if_false, Nat.reduceAdd, Int.reduceToNat, Int.reducePow, Int.reduceAdd, Int.reduceSub, Int.reduceNeg, Int.reduceMul, Int.reduceDiv, Int.reduceMod, Int.reduceLT, Int.reduceLE, Nat.reduceLeDiff, Nat.reduceEqDiff, ↓reduceIte, ho_excM, ho_exfM]
  refine ⟨by decide, by decide, by decide, by decide, sz _ (by simp), by decide, sz _ (by simp), by decide, sz _ (by simp), hF.1, hf, hf, hf, hm, hm, by decide, sz _ (by simp), ?_⟩
  refine ho_for_all (fun _ ρ => ∃ s4 a8 a9, ρ = [some (.fz (.list (ns.map .int))), some (.ow d4), some (.fz (.list (errs x3 (.str nm) n))), none, s4, some (.fz (.int n)), some (.fz x3), some (.fz (.str nm)), a8, a9, none]) _ _ 0 _ ⟨_, none, none, rfl⟩ ?_ ?_
  · rintro j x ρ1 hx ⟨s4, a8, a9, rfl⟩
    obtain ⟨d, hd, rfl⟩ := enumFrom_at _ _ _ _ hx
    obtain ⟨c, ns', ds', rfl, hc⟩ := errs_at (fD := x3) (nmD := .str nm) (n := n) hd
    rw [Nat.zero_add]
    refine ⟨(), [some (.fz (.list (ns.map .int))), some (.ow d4), some (.fz (.list (errs x3 (.str nm) n))), none, s4, some (.fz (.int n)), some (.fz x3), some (.fz (.str nm)), some (.fz (.int j)), some (.fz (.obj c ns' ds')), none], rfl, ?_⟩
    exact ⟨_, _, turn_ok _ _ _ _ _ _ _ _ ns' ds' j c hc, rfl, _, _, _, rfl⟩
  · rintro ρ1 ⟨s4, a8, a9, rfl⟩
    simp only [↓hoP, ↓hoQ, oP, vP, cP, wipeR, restR, if_true, if_false, Nat.reduceAdd, Int.reduceToNat, Int.reducePow, Int.reduceAdd, Int.reduceSub, Int.reduceNeg, Int.reduceMul, Int.reduceDiv, Int.reduceMod, Int.reduceLT, Int.reduceLE, Nat.reduceLeDiff, Nat.reduceEqDiff, ↓reduceIte, e25, e26, e27, e28, e29, e30, a25, a26, a27, a28, a29, a30]
    have key : ∀ d ∈ [x3, .int n, .int n, .int n, .str nm, .str nm], Shw d := by
      intro d hd
      simp only [List.mem_cons, List.not_mem_nil, or_false] at hd
      rcases hd with rfl | rfl | rfl | rfl | rfl | rfl
      · exact hF.2
      all_goals first | exact hI | exact hS
    refine ⟨by decide, by decide, by decide, repr_ok (ds := [x3, .int n, .int n, .int n, .str nm, .str nm]) key (by simp) ?_⟩
    simp only [↓hoP, ↓hoQ, oP, vP, cP, wipeR, restR, if_true, if_false, Nat.reduceAdd, Int.reduceToNat, Int.reducePow, Int.reduceAdd, Int.reduceSub, Int.reduceNeg, Int.reduceMul, Int.reduceDiv, Int.reduceMod, Int.reduceLT, Int.reduceLE, Nat.reduceLeDiff, Nat.reduceEqDiff, ↓reduceIte]
    refine ⟨by decide, by decide, by decide, sz _ (by simp), by decide, by decide, sz _ (by simp), ?_⟩
    refine repr_ok (ds := [x3, .int n, .int n, .int n, .str nm, .str nm]) key (by simp) ?_
    refine ⟨.fz (.bool true), ?_, rfl⟩
    show eqD (.str _) (.str _) = _
    unfold eqD eqB scalD
    simp
end Lw
namespace Lw
open PySem PySem.Spec PyProof.Rows L2 Fx
def topS (i : Nat) : Stmt := PySem.Challenge.pw_gridspread_k75_errors_by_hand.main.body.getD i (.Pass ⟨0, 0, 0, 0⟩)
abbrev s__law_open : Stmt := topS 34
theorem sc__law_open : FnScope N__law_open ["_law_script"] (defScope s__law_open) := ⟨rfl, rfl, rfl, by decide +kernel, rfl, by decide +kernel, by decide +kernel⟩
abbrev s__law_spread : Stmt := topS 35
theorem sc__law_spread : FnScope N__law_spread ["_law_cell", "_law_k"] (defScope s__law_spread) := ⟨rfl, rfl, rfl, by decide +kernel, rfl, by decide +kernel, by decide +kernel⟩
abbrev s__law_take : Stmt := topS 36
theorem sc__law_take : FnScope N__law_take ["_law_pen", "_law_many"] (defScope s__law_take) := ⟨rfl, rfl, rfl, by decide +kernel, rfl, by decide +kernel, by decide +kernel⟩
abbrev s__law_one_of : Stmt := topS 37
theorem sc__law_one_of : FnScope N__law_one_of ["_law_pen", "_law_some"] (defScope s__law_one_of) := ⟨rfl, rfl, rfl, by decide +kernel, rfl, by decide +kernel, by decide +kernel⟩
abbrev s__law_words : Stmt := topS 38
theorem sc__law_words : FnScope N__law_words ["_law_one"] (defScope s__law_words) := ⟨rfl, rfl, rfl, by decide +kernel, rfl, by decide +kernel, by decide +kernel⟩
abbrev s_law : Stmt := topS 39
theorem sc_law : FnScope N_law ["_law_script"] (defScope s_law) := ⟨rfl, rfl, rfl, by decide +kernel, rfl, by decide +kernel, by decide +kernel⟩
set_option genInjectivity false in
set_option genSizeOf false in
/-- what the top has left -/
structure Top (P : Program) (K : PySem.W.Frag) (mg : Str → Option Value) where
  a__law_open : Addr
  d__law_open : FuncData
  F__law_open : Fun K "_law_open" "_law_open" s__law_open a__law_open d__law_open
  b__law_open : Binds K d__law_open ["_law_script"] []
  g__law_open : mg "_law_open" = some (.ref a__law_open)
  a__law_spread : Addr
  d__law_spread : FuncData
  F__law_spread : Fun K "_law_spread" "_law_spread" s__law_spread a__law_spread d__law_spread
  b__law_spread : Binds K d__law_spread ["_law_cell", "_law_k"] []
  g__law_spread : mg "_law_spread" = some (.ref a__law_spread)
  a__law_take : Addr
  d__law_take : FuncData
  F__law_take : Fun K "_law_take" "_law_take" s__law_take a__law_take d__law_take
  b__law_take : Binds K d__law_take ["_law_pen", "_law_many"] []
  g__law_take : mg "_law_take" = some (.ref a__law_take)
  a__law_one_of : Addr
  d__law_one_of : FuncData
  F__law_one_of : Fun K "_law_one_of" "_law_one_of" s__law_one_of a__law_one_of d__law_one_of
  b__law_one_of : Binds K d__law_one_of ["_law_pen", "_law_some"] []
  g__law_one_of : mg "_law_one_of" = some (.ref a__law_one_of)
  a__law_words : Addr
  d__law_words : FuncData
  F__law_words : Fun K "_law_words" "_law_words" s__law_words a__law_words d__law_words
  b__law_words : Binds K d__law_words ["_law_one"] []
  g__law_words : mg "_law_words" = some (.ref a__law_words)
  a_law : Addr
  d_law : FuncData
  F_law : Fun K "law" "law" s_law a_law d_law
  b_law : Binds K d_law ["_law_script"] []
  g_law : mg "law" = some (.ref a_law)
  n_ValueError : mg "ValueError" = none
  n_enumerate : mg "enumerate" = none
  n_int : mg "int" = none
  n_isinstance : mg "isinstance" = none
  n_len : mg "len" = none
  n_list : mg "list" = none
  n_range : mg "range" = none
  n_repr : mg "repr" = none
  C_Gone : Addr
  g_Gone : mg "Gone" = some (.ref C_Gone)
  I_Gone : Addr
  X_Gone : XTxt P K mg "Gone" "name" C_Gone I_Gone
  xf_Gone : XfC K C_Gone
  C_NoField : Addr
  g_NoField : mg "NoField" = some (.ref C_NoField)
  q_NoField : PySem.W.excIn K C_NoField veBases "ValueError.__new__" = true
  k_NoField : PySem.W.keepIn K (.ref C_NoField) = true
  s_NoField : PySem.W.subIn K (.ref C_NoField) (.type "BaseException") = some true
  t_NoField : PySem.W.typeIn K (.ref C_NoField) = some (.type "type")
  C_NoForm : Addr
  g_NoForm : mg "NoForm" = some (.ref C_NoForm)
  q_NoForm : PySem.W.excIn K C_NoForm veBases "ValueError.__new__" = true
  k_NoForm : PySem.W.keepIn K (.ref C_NoForm) = true
  s_NoForm : PySem.W.subIn K (.ref C_NoForm) (.type "BaseException") = some true
  t_NoForm : PySem.W.typeIn K (.ref C_NoForm) = some (.type "type")
  C_NoGrid : Addr
  g_NoGrid : mg "NoGrid" = some (.ref C_NoGrid)
  q_NoGrid : PySem.W.excIn K C_NoGrid veBases "ValueError.__new__" = true
  k_NoGrid : PySem.W.keepIn K (.ref C_NoGrid) = true
  s_NoGrid : PySem.W.subIn K (.ref C_NoGrid) (.type "BaseException") = some true
  t_NoGrid : PySem.W.typeIn K (.ref C_NoGrid) = some (.type "type")
  C_NoIndex : Addr
  g_NoIndex : mg "NoIndex" = some (.ref C_NoIndex)
  q_NoIndex : PySem.W.excIn K C_NoIndex veBases "ValueError.__new__" = true
  k_NoIndex : PySem.W.keepIn K (.ref C_NoIndex) = true
  s_NoIndex : PySem.W.subIn K (.ref C_NoIndex) (.type "BaseException") = some true
  t_NoIndex : PySem.W.typeIn K (.ref C_NoIndex) = some (.type "type")
  C_NoKeeping : Addr
  g_NoKeeping : mg "NoKeeping" = some (.ref C_NoKeeping)
  q_NoKeeping : PySem.W.excIn K C_NoKeeping veBases "ValueError.__new__" = true
  k_NoKeeping : PySem.W.keepIn K (.ref C_NoKeeping) = true
  s_NoKeeping : PySem.W.subIn K (.ref C_NoKeeping) (.type "BaseException") = some true
  t_NoKeeping : PySem.W.typeIn K (.ref C_NoKeeping) = some (.type "type")
  C_NoKeepings : Addr
  g_NoKeepings : mg "NoKeepings" = some (.ref C_NoKeepings)
  q_NoKeepings : PySem.W.excIn K C_NoKeepings veBases "ValueError.__new__" = true
  k_NoKeepings : PySem.W.keepIn K (.ref C_NoKeepings) = true
  s_NoKeepings : PySem.W.subIn K (.ref C_NoKeepings) (.type "BaseException") = some true
  t_NoKeepings : PySem.W.typeIn K (.ref C_NoKeepings) = some (.type "type")
  C_NoKeeps : Addr
  g_NoKeeps : mg "NoKeeps" = some (.ref C_NoKeeps)
  q_NoKeeps : PySem.W.excIn K C_NoKeeps veBases "ValueError.__new__" = true
  k_NoKeeps : PySem.W.keepIn K (.ref C_NoKeeps) = true
  s_NoKeeps : PySem.W.subIn K (.ref C_NoKeeps) (.type "BaseException") = some true
  t_NoKeeps : PySem.W.typeIn K (.ref C_NoKeeps) = some (.type "type")
  C_NoLead : Addr
  g_NoLead : mg "NoLead" = some (.ref C_NoLead)
  I_NoLead : Addr
  X_NoLead : XTxt P K mg "NoLead" "side" C_NoLead I_NoLead
  xf_NoLead : XfC K C_NoLead
  C_NoLetters : Addr
  g_NoLetters : mg "NoLetters" = some (.ref C_NoLetters)
  q_NoLetters : PySem.W.excIn K C_NoLetters veBases "ValueError.__new__" = true
  k_NoLetters : PySem.W.keepIn K (.ref C_NoLetters) = true
  s_NoLetters : PySem.W.subIn K (.ref C_NoLetters) (.type "BaseException") = some true
  t_NoLetters : PySem.W.typeIn K (.ref C_NoLetters) = some (.type "type")
  C_NoLine : Addr
  g_NoLine : mg "NoLine" = some (.ref C_NoLine)
  I_NoLine : Addr
  X_NoLine : XTxt P K mg "NoLine" "number" C_NoLine I_NoLine
  xf_NoLine : XfC K C_NoLine
  C_NoLines : Addr
  g_NoLines : mg "NoLines" = some (.ref C_NoLines)
  q_NoLines : PySem.W.excIn K C_NoLines veBases "ValueError.__new__" = true
  k_NoLines : PySem.W.keepIn K (.ref C_NoLines) = true
  s_NoLines : PySem.W.subIn K (.ref C_NoLines) (.type "BaseException") = some true
  t_NoLines : PySem.W.typeIn K (.ref C_NoLines) = some (.type "type")
  C_NoMatch : Addr
  g_NoMatch : mg "NoMatch" = some (.ref C_NoMatch)
  q_NoMatch : PySem.W.excIn K C_NoMatch veBases "ValueError.__new__" = true
  k_NoMatch : PySem.W.keepIn K (.ref C_NoMatch) = true
  s_NoMatch : PySem.W.subIn K (.ref C_NoMatch) (.type "BaseException") = some true
  t_NoMatch : PySem.W.typeIn K (.ref C_NoMatch) = some (.type "type")
  C_NoMessage : Addr
  g_NoMessage : mg "NoMessage" = some (.ref C_NoMessage)
  I_NoMessage : Addr
  X_NoMessage : XTxt P K mg "NoMessage" "number" C_NoMessage I_NoMessage
  xf_NoMessage : XfC K C_NoMessage
  C_NoName : Addr
  g_NoName : mg "NoName" = some (.ref C_NoName)
  q_NoName : PySem.W.excIn K C_NoName veBases "ValueError.__new__" = true
  k_NoName : PySem.W.keepIn K (.ref C_NoName) = true
  s_NoName : PySem.W.subIn K (.ref C_NoName) (.type "BaseException") = some true
  t_NoName : PySem.W.typeIn K (.ref C_NoName) = some (.type "type")
  C_NoNumber : Addr
  g_NoNumber : mg "NoNumber" = some (.ref C_NoNumber)
  q_NoNumber : PySem.W.excIn K C_NoNumber veBases "ValueError.__new__" = true
  k_NoNumber : PySem.W.keepIn K (.ref C_NoNumber) = true
  s_NoNumber : PySem.W.subIn K (.ref C_NoNumber) (.type "BaseException") = some true
  t_NoNumber : PySem.W.typeIn K (.ref C_NoNumber) = some (.type "type")
  C_NoPlan : Addr
  g_NoPlan : mg "NoPlan" = some (.ref C_NoPlan)
  q_NoPlan : PySem.W.excIn K C_NoPlan veBases "ValueError.__new__" = true
  k_NoPlan : PySem.W.keepIn K (.ref C_NoPlan) = true
  s_NoPlan : PySem.W.subIn K (.ref C_NoPlan) (.type "BaseException") = some true
  t_NoPlan : PySem.W.typeIn K (.ref C_NoPlan) = some (.type "type")
  C_NoPower : Addr
  g_NoPower : mg "NoPower" = some (.ref C_NoPower)
  q_NoPower : PySem.W.excIn K C_NoPower veBases "ValueError.__new__" = true
  k_NoPower : PySem.W.keepIn K (.ref C_NoPower) = true
  s_NoPower : PySem.W.subIn K (.ref C_NoPower) (.type "BaseException") = some true
  t_NoPower : PySem.W.typeIn K (.ref C_NoPower) = some (.type "type")
  C_NoProgram : Addr
  g_NoProgram : mg "NoProgram" = some (.ref C_NoProgram)
  q_NoProgram : PySem.W.excIn K C_NoProgram veBases "ValueError.__new__" = true
  k_NoProgram : PySem.W.keepIn K (.ref C_NoProgram) = true
  s_NoProgram : PySem.W.subIn K (.ref C_NoProgram) (.type "BaseException") = some true
  t_NoProgram : PySem.W.typeIn K (.ref C_NoProgram) = some (.type "type")
  C_NoSizes : Addr
  g_NoSizes : mg "NoSizes" = some (.ref C_NoSizes)
  q_NoSizes : PySem.W.excIn K C_NoSizes veBases "ValueError.__new__" = true
  k_NoSizes : PySem.W.keepIn K (.ref C_NoSizes) = true
  s_NoSizes : PySem.W.subIn K (.ref C_NoSizes) (.type "BaseException") = some true
  t_NoSizes : PySem.W.typeIn K (.ref C_NoSizes) = some (.type "type")
  C_NoSpread : Addr
  g_NoSpread : mg "NoSpread" = some (.ref C_NoSpread)
  q_NoSpread : PySem.W.excIn K C_NoSpread veBases "ValueError.__new__" = true
  k_NoSpread : PySem.W.keepIn K (.ref C_NoSpread) = true
  s_NoSpread : PySem.W.subIn K (.ref C_NoSpread) (.type "BaseException") = some true
  t_NoSpread : PySem.W.typeIn K (.ref C_NoSpread) = some (.type "type")
  C_NoSpreads : Addr
  g_NoSpreads : mg "NoSpreads" = some (.ref C_NoSpreads)
  q_NoSpreads : PySem.W.excIn K C_NoSpreads veBases "ValueError.__new__" = true
  k_NoSpreads : PySem.W.keepIn K (.ref C_NoSpreads) = true
  s_NoSpreads : PySem.W.subIn K (.ref C_NoSpreads) (.type "BaseException") = some true
  t_NoSpreads : PySem.W.typeIn K (.ref C_NoSpreads) = some (.type "type")
  C_NoTable : Addr
  g_NoTable : mg "NoTable" = some (.ref C_NoTable)
  q_NoTable : PySem.W.excIn K C_NoTable veBases "ValueError.__new__" = true
  k_NoTable : PySem.W.keepIn K (.ref C_NoTable) = true
  s_NoTable : PySem.W.subIn K (.ref C_NoTable) (.type "BaseException") = some true
  t_NoTable : PySem.W.typeIn K (.ref C_NoTable) = some (.type "type")
  C_NoTables : Addr
  g_NoTables : mg "NoTables" = some (.ref C_NoTables)
  q_NoTables : PySem.W.excIn K C_NoTables veBases "ValueError.__new__" = true
  k_NoTables : PySem.W.keepIn K (.ref C_NoTables) = true
  s_NoTables : PySem.W.subIn K (.ref C_NoTables) (.type "BaseException") = some true
  t_NoTables : PySem.W.typeIn K (.ref C_NoTables) = some (.type "type")
  C_NoUndo : Addr
  g_NoUndo : mg "NoUndo" = some (.ref C_NoUndo)
  q_NoUndo : PySem.W.excIn K C_NoUndo veBases "ValueError.__new__" = true
  k_NoUndo : PySem.W.keepIn K (.ref C_NoUndo) = true
  s_NoUndo : PySem.W.subIn K (.ref C_NoUndo) (.type "BaseException") = some true
  t_NoUndo : PySem.W.typeIn K (.ref C_NoUndo) = some (.type "type")
  C_NoWish : Addr
  g_NoWish : mg "NoWish" = some (.ref C_NoWish)
  q_NoWish : PySem.W.excIn K C_NoWish veBases "ValueError.__new__" = true
  k_NoWish : PySem.W.keepIn K (.ref C_NoWish) = true
  s_NoWish : PySem.W.subIn K (.ref C_NoWish) (.type "BaseException") = some true
  t_NoWish : PySem.W.typeIn K (.ref C_NoWish) = some (.type "type")
  C_NoWork : Addr
  g_NoWork : mg "NoWork" = some (.ref C_NoWork)
  q_NoWork : PySem.W.excIn K C_NoWork veBases "ValueError.__new__" = true
  k_NoWork : PySem.W.keepIn K (.ref C_NoWork) = true
  s_NoWork : PySem.W.subIn K (.ref C_NoWork) (.type "BaseException") = some true
  t_NoWork : PySem.W.typeIn K (.ref C_NoWork) = some (.type "type")
  C_NoWorker : Addr
  g_NoWorker : mg "NoWorker" = some (.ref C_NoWorker)
  q_NoWorker : PySem.W.excIn K C_NoWorker veBases "ValueError.__new__" = true
  k_NoWorker : PySem.W.keepIn K (.ref C_NoWorker) = true
  s_NoWorker : PySem.W.subIn K (.ref C_NoWorker) (.type "BaseException") = some true
  t_NoWorker : PySem.W.typeIn K (.ref C_NoWorker) = some (.type "type")
  C_NotTree : Addr
  g_NotTree : mg "NotTree" = some (.ref C_NotTree)
  I_NotTree : Addr
  X_NotTree : XTxt P K mg "NotTree" "name" C_NotTree I_NotTree
  xf_NotTree : XfC K C_NotTree
  C_SpreadError : Addr
  g_SpreadError : mg "SpreadError" = some (.ref C_SpreadError)
  q_SpreadError : PySem.W.excIn K C_SpreadError veBases "ValueError.__new__" = true
  k_SpreadError : PySem.W.keepIn K (.ref C_SpreadError) = true
  s_SpreadError : PySem.W.subIn K (.ref C_SpreadError) (.type "BaseException") = some true
  t_SpreadError : PySem.W.typeIn K (.ref C_SpreadError) = some (.type "type")
  C_TooGreat : Addr
  g_TooGreat : mg "TooGreat" = some (.ref C_TooGreat)
  q_TooGreat : PySem.W.excIn K C_TooGreat veBases "ValueError.__new__" = true
  k_TooGreat : PySem.W.keepIn K (.ref C_TooGreat) = true
  s_TooGreat : PySem.W.subIn K (.ref C_TooGreat) (.type "BaseException") = some true
  t_TooGreat : PySem.W.typeIn K (.ref C_TooGreat) = some (.type "type")
  C_Unfit : Addr
  g_Unfit : mg "Unfit" = some (.ref C_Unfit)
  I_Unfit : Addr
  X_Unfit : XTxt P K mg "Unfit" "fault" C_Unfit I_Unfit
  xf_Unfit : XfC K C_Unfit
  exAll : exAllB K exNames = true
  n_Gone : clsN K "Gone" = some C_Gone
  n_NoField : clsN K "NoField" = some C_NoField
  n_NoForm : clsN K "NoForm" = some C_NoForm
  n_NoGrid : clsN K "NoGrid" = some C_NoGrid
  n_NoIndex : clsN K "NoIndex" = some C_NoIndex
  n_NoKeeping : clsN K "NoKeeping" = some C_NoKeeping
  n_NoKeepings : clsN K "NoKeepings" = some C_NoKeepings
  n_NoKeeps : clsN K "NoKeeps" = some C_NoKeeps
  n_NoLead : clsN K "NoLead" = some C_NoLead
  n_NoLetters : clsN K "NoLetters" = some C_NoLetters
  n_NoLine : clsN K "NoLine" = some C_NoLine
  n_NoLines : clsN K "NoLines" = some C_NoLines
  n_NoMatch : clsN K "NoMatch" = some C_NoMatch
  n_NoMessage : clsN K "NoMessage" = some C_NoMessage
  n_NoName : clsN K "NoName" = some C_NoName
  n_NoNumber : clsN K "NoNumber" = some C_NoNumber
  n_NoPlan : clsN K "NoPlan" = some C_NoPlan
  n_NoPower : clsN K "NoPower" = some C_NoPower
  n_NoProgram : clsN K "NoProgram" = some C_NoProgram
  n_NoSizes : clsN K "NoSizes" = some C_NoSizes
  n_NoSpread : clsN K "NoSpread" = some C_NoSpread
  n_NoSpreads : clsN K "NoSpreads" = some C_NoSpreads
  n_NoTable : clsN K "NoTable" = some C_NoTable
  n_NoTables : clsN K "NoTables" = some C_NoTables
  n_NoUndo : clsN K "NoUndo" = some C_NoUndo
  n_NoWish : clsN K "NoWish" = some C_NoWish
  n_NoWork : clsN K "NoWork" = some C_NoWork
  n_NoWorker : clsN K "NoWorker" = some C_NoWorker
  n_NotTree : clsN K "NotTree" = some C_NotTree
  n_TooGreat : clsN K "TooGreat" = some C_TooGreat
  n_Unfit : clsN K "Unfit" = some C_Unfit
  i_Gone : isAllB K exNames (.ref C_Gone) (valOf "Gone") = true
  i_NoField : isAllB K exNames (.ref C_NoField) (valOf "NoField") = true
  i_NoForm : isAllB K exNames (.ref C_NoForm) (valOf "NoForm") = true
  i_NoGrid : isAllB K exNames (.ref C_NoGrid) (valOf "NoGrid") = true
  i_NoIndex : isAllB K exNames (.ref C_NoIndex) (valOf "NoIndex") = true
  i_NoKeeping : isAllB K exNames (.ref C_NoKeeping) (valOf "NoKeeping") = true
  i_NoKeepings : isAllB K exNames (.ref C_NoKeepings) (valOf "NoKeepings") = true
  i_NoKeeps : isAllB K exNames (.ref C_NoKeeps) (valOf "NoKeeps") = true
  i_NoLead : isAllB K exNames (.ref C_NoLead) (valOf "NoLead") = true
  i_NoLetters : isAllB K exNames (.ref C_NoLetters) (valOf "NoLetters") = true
  i_NoLine : isAllB K exNames (.ref C_NoLine) (valOf "NoLine") = true
  i_NoLines : isAllB K exNames (.ref C_NoLines) (valOf "NoLines") = true
  i_NoMatch : isAllB K exNames (.ref C_NoMatch) (valOf "NoMatch") = true
  i_NoMessage : isAllB K exNames (.ref C_NoMessage) (valOf "NoMessage") = true
  i_NoName : isAllB K exNames (.ref C_NoName) (valOf "NoName") = true
  i_NoNumber : isAllB K exNames (.ref C_NoNumber) (valOf "NoNumber") = true
  i_NoPlan : isAllB K exNames (.ref C_NoPlan) (valOf "NoPlan") = true
  i_NoPower : isAllB K exNames (.ref C_NoPower) (valOf "NoPower") = true
  i_NoProgram : isAllB K exNames (.ref C_NoProgram) (valOf "NoProgram") = true
  i_NoSizes : isAllB K exNames (.ref C_NoSizes) (valOf "NoSizes") = true
  i_NoSpread : isAllB K exNames (.ref C_NoSpread) (valOf "NoSpread") = true
  i_NoSpreads : isAllB K exNames (.ref C_NoSpreads) (valOf "NoSpreads") = true
  i_NoTable : isAllB K exNames (.ref C_NoTable) (valOf "NoTable") = true
  i_NoTables : isAllB K exNames (.ref C_NoTables) (valOf "NoTables") = true
  i_NoUndo : isAllB K exNames (.ref C_NoUndo) (valOf "NoUndo") = true
  i_NoWish : isAllB K exNames (.ref C_NoWish) (valOf "NoWish") = true
  i_NoWork : isAllB K exNames (.ref C_NoWork) (valOf "NoWork") = true
  i_NoWorker : isAllB K exNames (.ref C_NoWorker) (valOf "NoWorker") = true
  i_NotTree : isAllB K exNames (.ref C_NotTree) (valOf "NotTree") = true
  i_SpreadError : isAllB K exNames (.ref C_SpreadError) valAll = true
  i_TooGreat : isAllB K exNames (.ref C_TooGreat) (valOf "TooGreat") = true
  i_Unfit : isAllB K exNames (.ref C_Unfit) (valOf "Unfit") = true
  i_VE : isAllB K exNames (.type "ValueError") valAll = true
  af_Gone : PySem.W.findIn K (.ref C_Gone) "name" = some none
  af_NoLead : PySem.W.findIn K (.ref C_NoLead) "side" = some none
  af_NoLine : PySem.W.findIn K (.ref C_NoLine) "number" = some none
  af_NoMessage : PySem.W.findIn K (.ref C_NoMessage) "number" = some none
  af_NotTree : PySem.W.findIn K (.ref C_NotTree) "name" = some none
  af_Unfit : PySem.W.findIn K (.ref C_Unfit) "fault" = some none
section
variable {P : Program} {w : World} {K : PySem.W.Frag} {mg : Str → Option Value} {base : Heap}
theorem ok__law_open (T : Top P K mg) : FnF P w K mg base 1 T.a__law_open T.d__law_open ["_law_script"] F__law_open :=
  fn_ok (m := m__law_open) T.F__law_open sc__law_open fun cdv A outer s H E hr hgd =>
      fss_cons (fs_set 1 (fe_callTy (cr_listA (by rfl)) (by rfl) T.n_list (by decide +kernel) (fa_cons (fe_slice (fe_var 0) (fo_none) (fo_some (fe_int))) (fa_nil))) sc__law_open.nd rfl (Or.inl rfl))
      (fss_cons (fs_for PassesOwn.never rfl (fi_enumA (by rfl) T.n_enumerate (fa_cons (fe_slice (fe_var 0) (fo_some (fe_int)) (fo_some (fe_int))) (fa_nil))) (fg_tup rfl (fgs_cons (fg_name 2 sc__law_open.nd rfl (Or.inl rfl)) (fgs_cons (fg_name 3 sc__law_open.nd rfl (Or.inl rfl)) (fgs_nil)))) (fss_one (fs_setA 1 (hu1 hr) (fe_op opr_addD (fe_ixVA 1 (hu1 hr) (fe_op opr_modD (fe_callTy cr_intA (by rfl) T.n_int (by decide +kernel) (fa_cons (fe_var 2) (fa_nil))) (fe_int))) (fe_var 3)) (fe_op opr_modD (fe_callTy cr_intA (by rfl) T.n_int (by decide +kernel) (fa_cons (fe_var 2) (fa_nil))) (fe_int)))))
      (fss_one (fs_ret (fe_lst (fa_cons (fe_var 1) (fa_cons (fe_int) (fa_cons (fe_int) (fa_nil))))))))
theorem ok__law_spread (T : Top P K mg) : FnF P w K mg base 1 T.a__law_spread T.d__law_spread ["_law_cell", "_law_k"] F__law_spread :=
  fn_ok (m := m__law_spread) T.F__law_spread sc__law_spread fun cdv A outer s H E hr hgd =>
      fss_cons (fs_if (ft_cmp opr_geD (fe_var 0) (fe_op opr_powD (fe_int) (fe_int)) (nomark _)) (fss_one (fs_retV 0)) (fss_nil))
      (fss_cons (fs_set 2 (fe_lst (fa_cons (fe_int) (fa_cons (fe_int) (fa_cons (fe_int) (fa_cons (fe_int) (fa_cons (fe_int) (fa_cons (fe_int) (fa_cons (fe_int) (fa_cons (fe_int) (fa_nil)))))))))) sc__law_spread.nd rfl (Or.inl rfl))
      (fss_cons (fs_set 2 (fe_op opr_addD (fe_var 2) (fe_lst (fa_cons (fe_int) (fa_cons (fe_int) (fa_cons (fe_int) (fa_cons (fe_int) (fa_cons (fe_int) (fa_nil)))))))) sc__law_spread.nd rfl (Or.inl rfl))
      (fss_cons (fs_set 3 (fe_op opr_mulA (fe_op opr_modD (fe_callTy cr_intA (by rfl) T.n_int (by decide +kernel) (fa_cons (fe_var 0) (fa_nil))) (fe_int)) (fe_op opr_addD (fe_op opr_mulA (fe_int) (fe_var 1)) (fe_int))) sc__law_spread.nd rfl (Or.inl rfl))
      (fss_cons (fs_set 3 (fe_op opr_modD (fe_callTy cr_intA (by rfl) T.n_int (by decide +kernel) (fa_cons (fe_op opr_powD (fe_op opr_addD (fe_op opr_addD (fe_var 3) (fe_op opr_mulA (fe_var 1) (fe_int))) (fe_int)) (fe_int)) (fa_nil))) (fe_ixVA 2 (hu1 hr) (fe_op opr_modD (fe_callTy cr_intA (by rfl) T.n_int (by decide +kernel) (fa_cons (fe_var 1) (fa_nil))) (fe_int)))) sc__law_spread.nd rfl (Or.inl rfl))
      (fss_cons (fs_set 4 (fe_op opr_modD (fe_callTy cr_intA (by rfl) T.n_int (by decide +kernel) (fa_cons (fe_op opr_powD (fe_op opr_addD (fe_op opr_addD (fe_op opr_mulA (fe_var 3) (fe_op opr_addD (fe_var 1) (fe_int))) (fe_op opr_modD (fe_callTy cr_intA (by rfl) T.n_int (by decide +kernel) (fa_cons (fe_var 0) (fa_nil))) (fe_int))) (fe_int)) (fe_int)) (fa_nil))) (fe_ixVA 2 (hu1 hr) (fe_op opr_modD (fe_callTy cr_intA (by rfl) T.n_int (by decide +kernel) (fa_cons (fe_op opr_addD (fe_var 1) (fe_int)) (fa_nil))) (fe_int)))) sc__law_spread.nd rfl (Or.inl rfl))
      (fss_cons (fs_set 5 (fe_op opr_modD (fe_callTy cr_intA (by rfl) T.n_int (by decide +kernel) (fa_cons (fe_op opr_powD (fe_op opr_addD (fe_op opr_addD (fe_var 4) (fe_op opr_modD (fe_callTy cr_intA (by rfl) T.n_int (by decide +kernel) (fa_cons (fe_var 3) (fa_nil))) (fe_int))) (fe_var 1)) (fe_int)) (fa_nil))) (fe_ixVA 2 (hu1 hr) (fe_op opr_modD (fe_callTy cr_intA (by rfl) T.n_int (by decide +kernel) (fa_cons (fe_op opr_addD (fe_var 1) (fe_int)) (fa_nil))) (fe_int)))) sc__law_spread.nd rfl (Or.inl rfl))
      (fss_one (fs_ret (fe_op opr_addD (fe_op opr_mulA (fe_op opr_addD (fe_op opr_mulA (fe_var 3) (fe_int)) (fe_var 4)) (fe_int)) (fe_var 5))))))))))
theorem ok__law_take (T : Top P K mg) : FnM P w K mg base 2 T.a__law_take T.d__law_take ["_law_pen", "_law_many"] F__law_take :=
  fnM_ok (m := m__law_take) T.F__law_take sc__law_take fun cdv A outer s H E hr hgd =>
      fss_cons (fs_if (ft_cmp opr_ltD (fe_ixVA 0 (hu1 hr) (fe_int)) (fe_var 1) (nomark _)) (fss_cons (fs_set 3 (fe_ixVA 0 (hu1 hr) (fe_int)) sc__law_take.nd rfl (Or.inl rfl))
      (fss_cons (fs_set 4 (fe_int) sc__law_take.nd rfl (Or.inl rfl))
      (fss_cons (fs_if (ft_cmp opr_ltD (fe_var 3) (fe_callB cr_lenA (by rfl) T.n_len (by decide +kernel) (fa_cons (fe_ixVA 0 (hu1 hr) (fe_int)) (fa_nil))) (nomark _)) (fss_one (fs_set 4 (fe_ixA (hu1 hr) (fe_ixVA 0 (hu1 hr) (fe_int)) (fe_var 3)) sc__law_take.nd rfl (Or.inl rfl))) (fss_one (fs_if (ft_cmp opr_gtD (fe_callB cr_lenA (by rfl) T.n_len (by decide +kernel) (fa_cons (fe_ixVA 0 (hu1 hr) (fe_int)) (fa_nil))) (fe_int) (nomark _)) (fss_one (fs_set 4 (fe_op opr_modD (fe_callTy cr_intA (by rfl) T.n_int (by decide +kernel) (fa_cons (fe_ixA (hu1 hr) (fe_ixVA 0 (hu1 hr) (fe_int)) (fe_op opr_modD (fe_callTy cr_intA (by rfl) T.n_int (by decide +kernel) (fa_cons (fe_op opr_addD (fe_op opr_mulA (fe_var 3) (fe_int)) (fe_int)) (fa_nil))) (fe_callB cr_lenA (by rfl) T.n_len (by decide +kernel) (fa_cons (fe_ixVA 0 (hu1 hr) (fe_int)) (fa_nil))))) (fa_nil))) (fe_op opr_addD (fe_op opr_powD (fe_int) (fe_int)) (fe_var 3))) sc__law_take.nd rfl (Or.inl rfl))) (fss_nil))))
      (fss_cons (fs_setA 0 (hu1 hr) (fe_op opr_addD (fe_var 3) (fe_int)) (fe_int))
      (fss_one (fs_setA 0 (hu1 hr) (fe_call (ok__law_spread T) (hr.mono (by decide)) hgd (by rfl) T.g__law_spread T.F__law_spread.kp T.b__law_spread (fa_cons (fe_var 4) (fa_cons (fe_var 3) (fa_nil)))) (fe_int))))))) (fss_nil))
      (fss_cons (fs_set 2 (fe_op opr_modD (fe_callTy cr_intA (by rfl) T.n_int (by decide +kernel) (fa_cons (fe_ixVA 0 (hu1 hr) (fe_int)) (fa_nil))) (fe_var 1)) sc__law_take.nd rfl (Or.inl rfl))
      (fss_cons (fs_setA 0 (hu1 hr) (fe_op opr_fdivD (fe_ixVA 0 (hu1 hr) (fe_int)) (fe_var 1)) (fe_int))
      (fss_one (fs_ret (fe_var 2)))))
theorem ok__law_one_of (T : Top P K mg) : FnM P w K mg base 3 T.a__law_one_of T.d__law_one_of ["_law_pen", "_law_some"] F__law_one_of :=
  fnM_ok (m := m__law_one_of) T.F__law_one_of sc__law_one_of fun cdv A outer s H E hr hgd =>
      fss_one (fs_ret (fe_ixVA 1 (hu1 hr) (fe_callR 0 (ok__law_take T) (hr.mono (by decide)) hgd (by rfl) T.g__law_take T.F__law_take.kp T.b__law_take (fa_cons (fe_callBP 1 cr_lenAF (by rfl) T.n_len (by decide +kernel)) (fa_nil)))))
theorem ok__law_words (T : Top P K mg) : FnF P w K mg base 1 T.a__law_words T.d__law_words ["_law_one"] F__law_words :=
  fn_ok (m := m__law_words) T.F__law_words sc__law_words fun cdv A outer s H E hr hgd =>
      fss_cons (fs_set 1 (fe_lst (fa_cons (fe_isX (isTab exNames (valOf "NoGrid")) (w := V.ref T.C_NoGrid) (cv := .ref T.C_NoGrid) ref_rel (tab_ok T.exAll T.i_NoGrid) (fe_var 0) (pe_cls (by rfl) T.g_NoGrid) (by rfl) T.n_isinstance) (fa_cons (fe_isX (isTab exNames (valOf "NoNumber")) (w := V.ref T.C_NoNumber) (cv := .ref T.C_NoNumber) ref_rel (tab_ok T.exAll T.i_NoNumber) (fe_var 0) (pe_cls (by rfl) T.g_NoNumber) (by rfl) T.n_isinstance) (fa_cons (fe_isX (isTab exNames (valOf "NoLetters")) (w := V.ref T.C_NoLetters) (cv := .ref T.C_NoLetters) ref_rel (tab_ok T.exAll T.i_NoLetters) (fe_var 0) (pe_cls (by rfl) T.g_NoLetters) (by rfl) T.n_isinstance) (fa_nil))))) sc__law_words.nd rfl (Or.inl rfl))
      (fss_cons (fs_set 1 (fe_op opr_addD (fe_var 1) (fe_lst (fa_cons (fe_isX (isTab exNames (valOf "NoSizes")) (w := V.ref T.C_NoSizes) (cv := .ref T.C_NoSizes) ref_rel (tab_ok T.exAll T.i_NoSizes) (fe_var 0) (pe_cls (by rfl) T.g_NoSizes) (by rfl) T.n_isinstance) (fa_cons (fe_isX (isTab exNames (valOf "NoKeeping")) (w := V.ref T.C_NoKeeping) (cv := .ref T.C_NoKeeping) ref_rel (tab_ok T.exAll T.i_NoKeeping) (fe_var 0) (pe_cls (by rfl) T.g_NoKeeping) (by rfl) T.n_isinstance) (fa_cons (fe_isX (isTab exNames (valOf "NoKeepings")) (w := V.ref T.C_NoKeepings) (cv := .ref T.C_NoKeepings) ref_rel (tab_ok T.exAll T.i_NoKeepings) (fe_var 0) (pe_cls (by rfl) T.g_NoKeepings) (by rfl) T.n_isinstance) (fa_nil)))))) sc__law_words.nd rfl (Or.inl rfl))
      (fss_cons (fs_set 1 (fe_op opr_addD (fe_var 1) (fe_lst (fa_cons (fe_isX (isTab exNames (valOf "NoWorker")) (w := V.ref T.C_NoWorker) (cv := .ref T.C_NoWorker) ref_rel (tab_ok T.exAll T.i_NoWorker) (fe_var 0) (pe_cls (by rfl) T.g_NoWorker) (by rfl) T.n_isinstance) (fa_cons (fe_isX (isTab exNames (valOf "NoIndex")) (w := V.ref T.C_NoIndex) (cv := .ref T.C_NoIndex) ref_rel (tab_ok T.exAll T.i_NoIndex) (fe_var 0) (pe_cls (by rfl) T.g_NoIndex) (by rfl) T.n_isinstance) (fa_cons (fe_isX (isTab exNames (valOf "NoTable")) (w := V.ref T.C_NoTable) (cv := .ref T.C_NoTable) ref_rel (tab_ok T.exAll T.i_NoTable) (fe_var 0) (pe_cls (by rfl) T.g_NoTable) (by rfl) T.n_isinstance) (fa_nil)))))) sc__law_words.nd rfl (Or.inl rfl))
      (fss_cons (fs_set 1 (fe_op opr_addD (fe_var 1) (fe_lst (fa_cons (fe_isX (isTab exNames (valOf "NoTables")) (w := V.ref T.C_NoTables) (cv := .ref T.C_NoTables) ref_rel (tab_ok T.exAll T.i_NoTables) (fe_var 0) (pe_cls (by rfl) T.g_NoTables) (by rfl) T.n_isinstance) (fa_cons (fe_isX (isTab exNames (valOf "NoSpread")) (w := V.ref T.C_NoSpread) (cv := .ref T.C_NoSpread) ref_rel (tab_ok T.exAll T.i_NoSpread) (fe_var 0) (pe_cls (by rfl) T.g_NoSpread) (by rfl) T.n_isinstance) (fa_cons (fe_isX (isTab exNames (valOf "NoSpreads")) (w := V.ref T.C_NoSpreads) (cv := .ref T.C_NoSpreads) ref_rel (tab_ok T.exAll T.i_NoSpreads) (fe_var 0) (pe_cls (by rfl) T.g_NoSpreads) (by rfl) T.n_isinstance) (fa_nil)))))) sc__law_words.nd rfl (Or.inl rfl))
      (fss_cons (fs_set 1 (fe_op opr_addD (fe_var 1) (fe_lst (fa_cons (fe_isX (isTab exNames (valOf "NoForm")) (w := V.ref T.C_NoForm) (cv := .ref T.C_NoForm) ref_rel (tab_ok T.exAll T.i_NoForm) (fe_var 0) (pe_cls (by rfl) T.g_NoForm) (by rfl) T.n_isinstance) (fa_cons (fe_isX (isTab exNames (valOf "NoProgram")) (w := V.ref T.C_NoProgram) (cv := .ref T.C_NoProgram) ref_rel (tab_ok T.exAll T.i_NoProgram) (fe_var 0) (pe_cls (by rfl) T.g_NoProgram) (by rfl) T.n_isinstance) (fa_cons (fe_isX (isTab exNames (valOf "NoKeeps")) (w := V.ref T.C_NoKeeps) (cv := .ref T.C_NoKeeps) ref_rel (tab_ok T.exAll T.i_NoKeeps) (fe_var 0) (pe_cls (by rfl) T.g_NoKeeps) (by rfl) T.n_isinstance) (fa_nil)))))) sc__law_words.nd rfl (Or.inl rfl))
      (fss_cons (fs_set 1 (fe_op opr_addD (fe_var 1) (fe_lst (fa_cons (fe_isX (isTab exNames (valOf "NoPlan")) (w := V.ref T.C_NoPlan) (cv := .ref T.C_NoPlan) ref_rel (tab_ok T.exAll T.i_NoPlan) (fe_var 0) (pe_cls (by rfl) T.g_NoPlan) (by rfl) T.n_isinstance) (fa_cons (fe_isX (isTab exNames (valOf "NoWish")) (w := V.ref T.C_NoWish) (cv := .ref T.C_NoWish) ref_rel (tab_ok T.exAll T.i_NoWish) (fe_var 0) (pe_cls (by rfl) T.g_NoWish) (by rfl) T.n_isinstance) (fa_cons (fe_isX (isTab exNames (valOf "NoName")) (w := V.ref T.C_NoName) (cv := .ref T.C_NoName) ref_rel (tab_ok T.exAll T.i_NoName) (fe_var 0) (pe_cls (by rfl) T.g_NoName) (by rfl) T.n_isinstance) (fa_nil)))))) sc__law_words.nd rfl (Or.inl rfl))
      (fss_cons (fs_set 1 (fe_op opr_addD (fe_var 1) (fe_lst (fa_cons (fe_isX (isTab exNames (valOf "NoPower")) (w := V.ref T.C_NoPower) (cv := .ref T.C_NoPower) ref_rel (tab_ok T.exAll T.i_NoPower) (fe_var 0) (pe_cls (by rfl) T.g_NoPower) (by rfl) T.n_isinstance) (fa_cons (fe_isX (isTab exNames (valOf "NoMatch")) (w := V.ref T.C_NoMatch) (cv := .ref T.C_NoMatch) ref_rel (tab_ok T.exAll T.i_NoMatch) (fe_var 0) (pe_cls (by rfl) T.g_NoMatch) (by rfl) T.n_isinstance) (fa_cons (fe_isX (isTab exNames (valOf "NoField")) (w := V.ref T.C_NoField) (cv := .ref T.C_NoField) ref_rel (tab_ok T.exAll T.i_NoField) (fe_var 0) (pe_cls (by rfl) T.g_NoField) (by rfl) T.n_isinstance) (fa_nil)))))) sc__law_words.nd rfl (Or.inl rfl))
      (fss_cons (fs_set 1 (fe_op opr_addD (fe_var 1) (fe_lst (fa_cons (fe_isX (isTab exNames (valOf "NoUndo")) (w := V.ref T.C_NoUndo) (cv := .ref T.C_NoUndo) ref_rel (tab_ok T.exAll T.i_NoUndo) (fe_var 0) (pe_cls (by rfl) T.g_NoUndo) (by rfl) T.n_isinstance) (fa_cons (fe_isX (isTab exNames (valOf "NoLines")) (w := V.ref T.C_NoLines) (cv := .ref T.C_NoLines) ref_rel (tab_ok T.exAll T.i_NoLines) (fe_var 0) (pe_cls (by rfl) T.g_NoLines) (by rfl) T.n_isinstance) (fa_cons (fe_isX (isTab exNames (valOf "NoWork")) (w := V.ref T.C_NoWork) (cv := .ref T.C_NoWork) ref_rel (tab_ok T.exAll T.i_NoWork) (fe_var 0) (pe_cls (by rfl) T.g_NoWork) (by rfl) T.n_isinstance) (fa_nil)))))) sc__law_words.nd rfl (Or.inl rfl))
      (fss_cons (fs_set 1 (fe_op opr_addD (fe_var 1) (fe_lst (fa_cons (fe_isX (isTab exNames (valOf "TooGreat")) (w := V.ref T.C_TooGreat) (cv := .ref T.C_TooGreat) ref_rel (tab_ok T.exAll T.i_TooGreat) (fe_var 0) (pe_cls (by rfl) T.g_TooGreat) (by rfl) T.n_isinstance) (fa_cons (fe_isX (isTab exNames (valOf "Unfit")) (w := V.ref T.C_Unfit) (cv := .ref T.C_Unfit) ref_rel (tab_ok T.exAll T.i_Unfit) (fe_var 0) (pe_cls (by rfl) T.g_Unfit) (by rfl) T.n_isinstance) (fa_cons (fe_isX (isTab exNames (valOf "NoLead")) (w := V.ref T.C_NoLead) (cv := .ref T.C_NoLead) ref_rel (tab_ok T.exAll T.i_NoLead) (fe_var 0) (pe_cls (by rfl) T.g_NoLead) (by rfl) T.n_isinstance) (fa_nil)))))) sc__law_words.nd rfl (Or.inl rfl))
      (fss_cons (fs_set 1 (fe_op opr_addD (fe_var 1) (fe_lst (fa_cons (fe_isX (isTab exNames (valOf "NoLine")) (w := V.ref T.C_NoLine) (cv := .ref T.C_NoLine) ref_rel (tab_ok T.exAll T.i_NoLine) (fe_var 0) (pe_cls (by rfl) T.g_NoLine) (by rfl) T.n_isinstance) (fa_cons (fe_isX (isTab exNames (valOf "NoMessage")) (w := V.ref T.C_NoMessage) (cv := .ref T.C_NoMessage) ref_rel (tab_ok T.exAll T.i_NoMessage) (fe_var 0) (pe_cls (by rfl) T.g_NoMessage) (by rfl) T.n_isinstance) (fa_cons (fe_isX (isTab exNames (valOf "NotTree")) (w := V.ref T.C_NotTree) (cv := .ref T.C_NotTree) ref_rel (tab_ok T.exAll T.i_NotTree) (fe_var 0) (pe_cls (by rfl) T.g_NotTree) (by rfl) T.n_isinstance) (fa_nil)))))) sc__law_words.nd rfl (Or.inl rfl))
      (fss_cons (fs_set 1 (fe_op opr_addD (fe_var 1) (fe_lst (fa_cons (fe_isX (isTab exNames (valOf "Gone")) (w := V.ref T.C_Gone) (cv := .ref T.C_Gone) ref_rel (tab_ok T.exAll T.i_Gone) (fe_var 0) (pe_cls (by rfl) T.g_Gone) (by rfl) T.n_isinstance) (fa_nil)))) sc__law_words.nd rfl (Or.inl rfl))
      (fss_one (fs_retV 1))))))))))))
theorem ok_law (T : Top P K mg) : FnF P w K mg base 4 T.a_law T.d_law ["_law_script"] F_law :=
  fn_ok (m := m_law) T.F_law sc_law fun cdv A outer s H E hr hgd =>
      fss_cons (fs_set 1 (fe_call (ok__law_open T) (hr.mono (by decide)) hgd (by rfl) T.g__law_open T.F__law_open.kp T.b__law_open (fa_cons (fe_var 0) (fa_nil))) sc_law.nd rfl (Or.inl rfl))
      (fss_cons (fs_parO (i := 4) (j := 5) rfl sc_law.nd rfl rfl (by decide) rfl rfl (fe_callR 1 (ok__law_one_of T) (hr.mono (by decide)) hgd (by rfl) T.g__law_one_of T.F__law_one_of.kp T.b__law_one_of (fa_cons (fe_lst (fa_cons (fe_str) (fa_cons (fe_str) (fa_cons (fe_str) (fa_nil))))) (fa_nil))) (fe_callR 1 (ok__law_take T) (hr.mono (by decide)) hgd (by rfl) T.g__law_take T.F__law_take.kp T.b__law_take (fa_cons (fe_int) (fa_nil))) (by rfl))
      (fss_cons (fs_parO (i := 6) (j := 7) rfl sc_law.nd rfl rfl (by decide) rfl rfl (fe_callR 1 (ok__law_one_of T) (hr.mono (by decide)) hgd (by rfl) T.g__law_one_of T.F__law_one_of.kp T.b__law_one_of (fa_cons (fe_lst (fa_cons (fe_tup (fa_cons (fe_str) (fa_cons (fe_int) (fa_nil)))) (fa_cons (fe_tup (fa_cons (fe_str) (fa_cons (fe_str) (fa_nil)))) (fa_cons (fe_tup (fa_cons (fe_str) (fa_cons (fe_int) (fa_nil)))) (fa_nil))))) (fa_nil))) (fe_callR 1 (ok__law_one_of T) (hr.mono (by decide)) hgd (by rfl) T.g__law_one_of T.F__law_one_of.kp T.b__law_one_of (fa_cons (fe_lst (fa_cons (fe_str) (fa_cons (fe_str) (fa_nil)))) (fa_nil))) (by rfl))
      (fss_cons (fs_set 2 (fe_lst (fa_cons (fe_exc PySem.F.excBase_ValueError T.q_NoGrid T.g_NoGrid T.k_NoGrid T.n_NoGrid (by rfl) (fe_var 4)) (fa_cons (fe_exc PySem.F.excBase_ValueError T.q_NoNumber T.g_NoNumber T.k_NoNumber T.n_NoNumber (by rfl) (fe_var 4)) (fa_cons (fe_exc PySem.F.excBase_ValueError T.q_NoLetters T.g_NoLetters T.k_NoLetters T.n_NoLetters (by rfl) (fe_var 4)) (fa_cons (fe_exc PySem.F.excBase_ValueError T.q_NoSizes T.g_NoSizes T.k_NoSizes T.n_NoSizes (by rfl) (fe_var 4)) (fa_cons (fe_exc PySem.F.excBase_ValueError T.q_NoKeeping T.g_NoKeeping T.k_NoKeeping T.n_NoKeeping (by rfl) (fe_var 4)) (fa_nil))))))) sc_law.nd rfl (Or.inl rfl))
      (fss_cons (fs_set 2 (fe_op opr_addD (fe_var 2) (fe_lst (fa_cons (fe_exc PySem.F.excBase_ValueError T.q_NoKeepings T.g_NoKeepings T.k_NoKeepings T.n_NoKeepings (by rfl) (fe_var 4)) (fa_cons (fe_exc PySem.F.excBase_ValueError T.q_NoWorker T.g_NoWorker T.k_NoWorker T.n_NoWorker (by rfl) (fe_var 4)) (fa_cons (fe_exc PySem.F.excBase_ValueError T.q_NoIndex T.g_NoIndex T.k_NoIndex T.n_NoIndex (by rfl) (fe_var 4)) (fa_cons (fe_exc PySem.F.excBase_ValueError T.q_NoTable T.g_NoTable T.k_NoTable T.n_NoTable (by rfl) (fe_var 4)) (fa_cons (fe_exc PySem.F.excBase_ValueError T.q_NoTables T.g_NoTables T.k_NoTables T.n_NoTables (by rfl) (fe_var 4)) (fa_nil)))))))) sc_law.nd rfl (Or.inl rfl))
      (fss_cons (fs_set 2 (fe_op opr_addD (fe_var 2) (fe_lst (fa_cons (fe_exc PySem.F.excBase_ValueError T.q_NoSpread T.g_NoSpread T.k_NoSpread T.n_NoSpread (by rfl) (fe_var 4)) (fa_cons (fe_exc PySem.F.excBase_ValueError T.q_NoSpreads T.g_NoSpreads T.k_NoSpreads T.n_NoSpreads (by rfl) (fe_var 4)) (fa_cons (fe_exc PySem.F.excBase_ValueError T.q_NoForm T.g_NoForm T.k_NoForm T.n_NoForm (by rfl) (fe_var 4)) (fa_cons (fe_exc PySem.F.excBase_ValueError T.q_NoProgram T.g_NoProgram T.k_NoProgram T.n_NoProgram (by rfl) (fe_var 4)) (fa_cons (fe_exc PySem.F.excBase_ValueError T.q_NoKeeps T.g_NoKeeps T.k_NoKeeps T.n_NoKeeps (by rfl) (fe_var 4)) (fa_nil)))))))) sc_law.nd rfl (Or.inl rfl))
      (fss_cons (fs_set 2 (fe_op opr_addD (fe_var 2) (fe_lst (fa_cons (fe_exc PySem.F.excBase_ValueError T.q_NoPlan T.g_NoPlan T.k_NoPlan T.n_NoPlan (by rfl) (fe_var 4)) (fa_cons (fe_exc PySem.F.excBase_ValueError T.q_NoWish T.g_NoWish T.k_NoWish T.n_NoWish (by rfl) (fe_var 4)) (fa_cons (fe_exc PySem.F.excBase_ValueError T.q_NoName T.g_NoName T.k_NoName T.n_NoName (by rfl) (fe_var 4)) (fa_cons (fe_exc PySem.F.excBase_ValueError T.q_NoPower T.g_NoPower T.k_NoPower T.n_NoPower (by rfl) (fe_var 4)) (fa_cons (fe_exc PySem.F.excBase_ValueError T.q_NoMatch T.g_NoMatch T.k_NoMatch T.n_NoMatch (by rfl) (fe_var 4)) (fa_nil)))))))) sc_law.nd rfl (Or.inl rfl))
      (fss_cons (fs_set 2 (fe_op opr_addD (fe_var 2) (fe_lst (fa_cons (fe_exc PySem.F.excBase_ValueError T.q_NoField T.g_NoField T.k_NoField T.n_NoField (by rfl) (fe_var 4)) (fa_cons (fe_exc PySem.F.excBase_ValueError T.q_NoUndo T.g_NoUndo T.k_NoUndo T.n_NoUndo (by rfl) (fe_var 4)) (fa_cons (fe_exc PySem.F.excBase_ValueError T.q_NoLines T.g_NoLines T.k_NoLines T.n_NoLines (by rfl) (fe_var 4)) (fa_cons (fe_exc PySem.F.excBase_ValueError T.q_NoWork T.g_NoWork T.k_NoWork T.n_NoWork (by rfl) (fe_var 4)) (fa_cons (fe_exc PySem.F.excBase_ValueError T.q_TooGreat T.g_TooGreat T.k_TooGreat T.n_TooGreat (by rfl) (fe_var 4)) (fa_nil)))))))) sc_law.nd rfl (Or.inl rfl))
      (fss_cons (fs_set 2 (fe_op opr_addD (fe_var 2) (fe_lst (fa_cons (fe_exf (k := 0) T.X_Unfit T.n_Unfit (hr.mono (by decide)) (fe_var 6) (by rfl)) (fa_cons (fe_exf (k := 0) T.X_NoLead T.n_NoLead (hr.mono (by decide)) (fe_var 5) (by rfl)) (fa_cons (fe_exf (k := 0) T.X_NoLine T.n_NoLine (hr.mono (by decide)) (fe_var 5) (by rfl)) (fa_cons (fe_exf (k := 0) T.X_NoMessage T.n_NoMessage (hr.mono (by decide)) (fe_var 5) (by rfl)) (fa_cons (fe_exf (k := 0) T.X_NotTree T.n_NotTree (hr.mono (by decide)) (fe_var 7) (by rfl)) (fa_cons (fe_exf (k := 0) T.X_Gone T.n_Gone (hr.mono (by decide)) (fe_var 7) (by rfl)) (fa_nil))))))))) sc_law.nd rfl (Or.inl rfl))
      (fss_cons (fs_for PassesOwn.never rfl (fi_enumA (by rfl) T.n_enumerate (fa_cons (fe_var 2) (fa_nil))) (fg_tup rfl (fgs_cons (fg_name 8 sc_law.nd rfl (Or.inr rfl)) (fgs_cons (fg_name 9 sc_law.nd rfl (Or.inl rfl)) (fgs_nil)))) (fss_cons (fs_if (ft_cmp (opr_neD hr.units) (fe_call (ok__law_words T) (hr.mono (by decide)) hgd (by rfl) T.g__law_words T.F__law_words.kp T.b__law_words (fa_cons (fe_var 9) (fa_nil))) (fe_lc rfl sc_law.nd (fi_range1 (by rfl) T.n_range (fa_cons (fe_int) (fa_nil))) (blkOk_by (own := [("_law_j", 10)]) (N := N_law) (sc := defScope s_law) (by decide +kernel)) (fun _ _ _ _ _ => fg_name 10 sc_law.nd rfl (by first | exact Or.inl rfl | exact Or.inr rfl)) (fun _ _ _ _ _ => fts_nil) (fun _ _ _ _ _ => fe_cmp (opr_eqD hr.units) (fe_var 10) (fe_var 8) (nomark _))) (nomark _)) (fss_one (fs_ret (fe_bl))) (fss_nil))
      (fss_one (fs_if (ft_w (fw_or (ft_not (ft_val (fe_isX (isTab exNames valAll) (w := V.ref T.C_SpreadError) (cv := .ref T.C_SpreadError) ref_rel (tab_ok T.exAll T.i_SpreadError) (fe_var 9) (pe_cls (by rfl) T.g_SpreadError) (by rfl) T.n_isinstance))) (fw_or1 (ft_not (ft_val (fe_isX (isTab exNames valAll) (w := V.ty "ValueError") (cv := .type "ValueError") ty_rel (tab_ok T.exAll T.i_VE) (fe_var 9) (pe_bltn (v := .ty "ValueError") (by rfl) T.n_ValueError (by decide +kernel) rfl) (by rfl) T.n_isinstance)))))) (fss_one (fs_ret (fe_bl))) (fss_nil)))))
      (fss_cons (fs_set 3 (fe_lst (fa_cons (fe_attrX ["Unfit"] (attr_ok T.n_Unfit T.xf_Unfit T.af_Unfit) (fe_ixVA 2 (hu1 hr) (fe_int))) (fa_cons (fe_attrX ["NoLead"] (attr_ok T.n_NoLead T.xf_NoLead T.af_NoLead) (fe_ixVA 2 (hu1 hr) (fe_int))) (fa_cons (fe_attrX ["NoLine", "NoMessage"] (attr_ok2 T.n_NoLine T.xf_NoLine T.af_NoLine T.n_NoMessage T.xf_NoMessage T.af_NoMessage) (fe_ixVA 2 (hu1 hr) (fe_int))) (fa_cons (fe_attrX ["NoLine", "NoMessage"] (attr_ok2 T.n_NoLine T.xf_NoLine T.af_NoLine T.n_NoMessage T.xf_NoMessage T.af_NoMessage) (fe_ixVA 2 (hu1 hr) (fe_int))) (fa_nil)))))) sc_law.nd rfl (Or.inl rfl))
      (fss_one (fs_ret (fe_cmp (opr_eqD hr.units) (fe_callB (cr_reprX hgd hr.units) (by rfl) T.n_repr (by decide +kernel) (fa_cons (fe_op opr_addD (fe_var 3) (fe_lst (fa_cons (fe_attrX ["Gone", "NotTree"] (attr_ok2 T.n_Gone T.xf_Gone T.af_Gone T.n_NotTree T.xf_NotTree T.af_NotTree) (fe_ixVA 2 (hu1 hr) (fe_int))) (fa_cons (fe_attrX ["Gone", "NotTree"] (attr_ok2 T.n_Gone T.xf_Gone T.af_Gone T.n_NotTree T.xf_NotTree T.af_NotTree) (fe_ixVA 2 (hu1 hr) (fe_int))) (fa_nil))))) (fa_nil))) (fe_callB (cr_reprX hgd hr.units) (by rfl) T.n_repr (by decide +kernel) (fa_cons (fe_op opr_addD (fe_op opr_addD (fe_lst (fa_cons (fe_var 6) (fa_nil))) (fe_op opr_mulA (fe_lst (fa_cons (fe_var 5) (fa_nil))) (fe_int))) (fe_op opr_mulA (fe_lst (fa_cons (fe_var 7) (fa_nil))) (fe_int))) (fa_nil))) (nomark _))))))))))))))
end
/-- the facts, from the head -/
theorem all_mk {l : PySem.W.OpenLaw} {w : World} {K : PySem.W.Frag} {h : Heap} {mg : Str → Option Value} {fa : Addr} (X : K.In h) (G : h.Ns mainGlobals mg) (hfa : mg "law" = some (.ref fa))
    {x0 : Addr} {od0 an0 : Option Addr} {sl0 : Array (Option Value)} {oc0 kV0 dc0 pm0 cd0 ct0 : Value} (a0 : PySem.W.nsIn K mainGlobals "_law_open" = some (some (.ref x0))) (l0 : K.lookup x0 = some ⟨oc0, od0, .func (PySem.W.fnOf "_law_open" "_law_open" (defArgs s__law_open) (defBody s__law_open) (defScope s__law_open) .none kV0 dc0 pm0 an0 cd0 ct0), sl0⟩) (c0 : PySem.W.codeIn K cd0 "_law_open" = true) (k0 : PySem.W.keepIn K (.ref x0) = true)
    {x1 : Addr} {od1 an1 : Option Addr} {sl1 : Array (Option Value)} {oc1 kV1 dc1 pm1 cd1 ct1 : Value} (a1 : PySem.W.nsIn K mainGlobals "_law_spread" = some (some (.ref x1))) (l1 : K.lookup x1 = some ⟨oc1, od1, .func (PySem.W.fnOf "_law_spread" "_law_spread" (defArgs s__law_spread) (defBody s__law_spread) (defScope s__law_spread) .none kV1 dc1 pm1 an1 cd1 ct1), sl1⟩) (c1 : PySem.W.codeIn K cd1 "_law_spread" = true) (k1 : PySem.W.keepIn K (.ref x1) = true)
    {x2 : Addr} {od2 an2 : Option Addr} {sl2 : Array (Option Value)} {oc2 kV2 dc2 pm2 cd2 ct2 : Value} (a2 : PySem.W.nsIn K mainGlobals "_law_take" = some (some (.ref x2))) (l2 : K.lookup x2 = some ⟨oc2, od2, .func (PySem.W.fnOf "_law_take" "_law_take" (defArgs s__law_take) (defBody s__law_take) (defScope s__law_take) .none kV2 dc2 pm2 an2 cd2 ct2), sl2⟩) (c2 : PySem.W.codeIn K cd2 "_law_take" = true) (k2 : PySem.W.keepIn K (.ref x2) = true)
    {x3 : Addr} {od3 an3 : Option Addr} {sl3 : Array (Option Value)} {oc3 kV3 dc3 pm3 cd3 ct3 : Value} (a3 : PySem.W.nsIn K mainGlobals "_law_one_of" = some (some (.ref x3))) (l3 : K.lookup x3 = some ⟨oc3, od3, .func (PySem.W.fnOf "_law_one_of" "_law_one_of" (defArgs s__law_one_of) (defBody s__law_one_of) (defScope s__law_one_of) .none kV3 dc3 pm3 an3 cd3 ct3), sl3⟩) (c3 : PySem.W.codeIn K cd3 "_law_one_of" = true) (k3 : PySem.W.keepIn K (.ref x3) = true)
    {x4 : Addr} {od4 an4 : Option Addr} {sl4 : Array (Option Value)} {oc4 kV4 dc4 pm4 cd4 ct4 : Value} (a4 : PySem.W.nsIn K mainGlobals "_law_words" = some (some (.ref x4))) (l4 : K.lookup x4 = some ⟨oc4, od4, .func (PySem.W.fnOf "_law_words" "_law_words" (defArgs s__law_words) (defBody s__law_words) (defScope s__law_words) .none kV4 dc4 pm4 an4 cd4 ct4), sl4⟩) (c4 : PySem.W.codeIn K cd4 "_law_words" = true) (k4 : PySem.W.keepIn K (.ref x4) = true)
    {x5 : Addr} {od5 an5 : Option Addr} {sl5 : Array (Option Value)} {oc5 kV5 dc5 pm5 cd5 ct5 : Value} (a5 : PySem.W.nsIn K mainGlobals "law" = some (some (.ref x5))) (l5 : K.lookup x5 = some ⟨oc5, od5, .func (PySem.W.fnOf "law" "law" (defArgs s_law) (defBody s_law) (defScope s_law) .none kV5 dc5 pm5 an5 cd5 ct5), sl5⟩) (c5 : PySem.W.codeIn K cd5 "law" = true) (k5 : PySem.W.keepIn K (.ref x5) = true)
    (z0 : PySem.W.nsIn K mainGlobals "ValueError" = some none)
    (z1 : PySem.W.nsIn K mainGlobals "enumerate" = some none)
    (z2 : PySem.W.nsIn K mainGlobals "int" = some none)
    (z3 : PySem.W.nsIn K mainGlobals "isinstance" = some none)
    (z4 : PySem.W.nsIn K mainGlobals "len" = some none)
    (z5 : PySem.W.nsIn K mainGlobals "list" = some none)
    (z6 : PySem.W.nsIn K mainGlobals "range" = some none)
    (z7 : PySem.W.nsIn K mainGlobals "repr" = some none)
    {C0 I0 N0 cda0 cc0 : Addr} {nm0 qq0 fl0 : Str} {bs0 bm0 sub0 : List Value} {sn0 : List Str} {ab0 : Bool} {col0 : Option Bool} {dd0 xod0 xan0 cdd0 cld0 : Option Addr} {m00 m10 m20 m30 m50 : Option Value} {xoc0 xdc0 xpm0 xct0 ccl0 cl0 : Value} {osl0 ccs0 csl0 : Array (Option Value)} {vs0 : Array Value} {tf0 : Tok}
    (xa0 : PySem.W.nsIn K mainGlobals "Gone" = some (some (.ref C0)))
    (xz0 : PySem.W.nsIn K mainGlobals "super" = some none)
    (xb0 : K.lookup C0 = some (excClassObj nm0 qq0 C0 N0 bs0 bm0 true sn0 sub0 ab0 col0 dd0 m00 m10 m20 m30 m50 "ValueError.__new__"))
    (xc0 : PySem.HandSPX.refsVE bm0 = true)
    (xd0 : PySem.W.excTail veBases bm0 = true)
    (xe0 : PySem.W.findIn K (.ref C0) "__setattr__" = some (some (.builtin "object.__setattr__")))
    (xf0 : PySem.W.findIn K (.ref C0) "name" = some none)
    (xg0 : PySem.W.findIn K (.ref C0) "__init__" = some (some (.ref I0)))
    (xh0 : PySem.W.typeIn K (.ref I0) = some (.type "function"))
    (xi0 : PySem.W.keepIn K (.ref C0) = true)
    (xj0 : PySem.W.subIn K (.ref C0) (.type "BaseException") = some true)
    (xk0 : PySem.W.subIn K (.ref C0) (.type "ValueError") = some true)
    (xl0 : PySem.W.typeIn K (.ref C0) = some (.type "type"))
    (xm0 : PySem.W.mroIn K C0 (.ref C0) = some true)
    {S0 SN0 : Addr} {snm0 sqq0 : Str} {sbs0 sbm0 ssub0 : List Value} {ssn0 : List Str} {shd0 sab0 : Bool} {scol0 : Option Bool} {sdd0 : Option Addr} {n00 n10 n20 n30 n50 : Option Value} {sid0 : String}
    (xA0 : PySem.W.nsIn K mainGlobals "SpreadError" = some (some (.ref S0)))
    (xB0 : K.lookup S0 = some (excClassObj snm0 sqq0 S0 SN0 sbs0 sbm0 shd0 ssn0 ssub0 sab0 scol0 sdd0 n00 n10 n20 n30 n50 sid0))
    (xC0 : bm0 = .ref S0 :: sbm0)
    (xn0 : PySem.W.findIn K (.ref S0) "__init__" = some (some (.builtin "ValueError.__init__")))
    (xo0 : PySem.W.nsIn K cStatics "thirdparty.any" = some none)
    (xp0 : (l.prog.main.scope.names.lookup ("super" : Str)).isSome = false)
    (xq0 : K.lookup I0 = some ⟨xoc0, xod0, .func (PySem.W.ksFn "__init__" "Gone.__init__" (xiA "name" ⟨76, 17, 76, 21⟩ ⟨76, 23, 76, 27⟩) (xiB "name" "gone: " ⟨77, 8, 77, 13⟩ ⟨77, 8, 77, 15⟩ ⟨77, 8, 77, 24⟩ ⟨77, 27, 77, 33⟩ ⟨77, 34, 77, 38⟩ ⟨77, 33, 77, 39⟩ ⟨77, 25, 77, 40⟩ ⟨77, 8, 77, 41⟩ ⟨77, 8, 77, 41⟩ ⟨78, 8, 78, 12⟩ ⟨78, 8, 78, 17⟩ ⟨78, 20, 78, 24⟩ ⟨78, 8, 78, 24⟩) (xiS "name") .none .none xdc0 xpm0 xan0 (.ref cda0) xct0 cc0), osl0⟩)
    (xr0 : PySem.W.codeIn K (.ref cda0) "Gone.__init__" = true)
    (xs0 : K.lookup cda0 = some ⟨ccl0, cdd0, .fields vs0, ccs0⟩)
    (xt0 : vs0[2]? = some (.str fl0 tf0))
    (xu0 : ((l.prog.main.file : Str) == fl0) = true)
    (xv0 : K.lookup cc0 = some ⟨cl0, cld0, .cell (some (.ref C0)), csl0⟩)
    (xw0 : PySem.W.findIn K (.ref C0) "__getattribute__" = some (some (.builtin "BaseException.__getattribute__")))
    (xx0 : PySem.W.findIn K (.ref C0) "__getattr__" = some none)
    (xy0 : PySem.W.hasDictIn K C0 = true)
    {C1 : Addr}
    (xa1 : PySem.W.nsIn K mainGlobals "NoField" = some (some (.ref C1)))
    (xd1 : PySem.W.excIn K C1 veBases "ValueError.__new__" = true)
    (xi1 : PySem.W.keepIn K (.ref C1) = true)
    (xj1 : PySem.W.subIn K (.ref C1) (.type "BaseException") = some true)
    (xl1 : PySem.W.typeIn K (.ref C1) = some (.type "type"))
    {C2 : Addr}
    (xa2 : PySem.W.nsIn K mainGlobals "NoForm" = some (some (.ref C2)))
    (xd2 : PySem.W.excIn K C2 veBases "ValueError.__new__" = true)
    (xi2 : PySem.W.keepIn K (.ref C2) = true)
    (xj2 : PySem.W.subIn K (.ref C2) (.type "BaseException") = some true)
    (xl2 : PySem.W.typeIn K (.ref C2) = some (.type "type"))
    {C3 : Addr}
    (xa3 : PySem.W.nsIn K mainGlobals "NoGrid" = some (some (.ref C3)))
    (xd3 : PySem.W.excIn K C3 veBases "ValueError.__new__" = true)
    (xi3 : PySem.W.keepIn K (.ref C3) = true)
    (xj3 : PySem.W.subIn K (.ref C3) (.type "BaseException") = some true)
    (xl3 : PySem.W.typeIn K (.ref C3) = some (.type "type"))
    {C4 : Addr}
    (xa4 : PySem.W.nsIn K mainGlobals "NoIndex" = some (some (.ref C4)))
    (xd4 : PySem.W.excIn K C4 veBases "ValueError.__new__" = true)
    (xi4 : PySem.W.keepIn K (.ref C4) = true)
    (xj4 : PySem.W.subIn K (.ref C4) (.type "BaseException") = some true)
    (xl4 : PySem.W.typeIn K (.ref C4) = some (.type "type"))
    {C5 : Addr}
    (xa5 : PySem.W.nsIn K mainGlobals "NoKeeping" = some (some (.ref C5)))
    (xd5 : PySem.W.excIn K C5 veBases "ValueError.__new__" = true)
    (xi5 : PySem.W.keepIn K (.ref C5) = true)
    (xj5 : PySem.W.subIn K (.ref C5) (.type "BaseException") = some true)
    (xl5 : PySem.W.typeIn K (.ref C5) = some (.type "type"))
    {C6 : Addr}
    (xa6 : PySem.W.nsIn K mainGlobals "NoKeepings" = some (some (.ref C6)))
    (xd6 : PySem.W.excIn K C6 veBases "ValueError.__new__" = true)
    (xi6 : PySem.W.keepIn K (.ref C6) = true)
    (xj6 : PySem.W.subIn K (.ref C6) (.type "BaseException") = some true)
    (xl6 : PySem.W.typeIn K (.ref C6) = some (.type "type"))
    {C7 : Addr}
    (xa7 : PySem.W.nsIn K mainGlobals "NoKeeps" = some (some (.ref C7)))
    (xd7 : PySem.W.excIn K C7 veBases "ValueError.__new__" = true)
    (xi7 : PySem.W.keepIn K (.ref C7) = true)
    (xj7 : PySem.W.subIn K (.ref C7) (.type "BaseException") = some true)
    (xl7 : PySem.W.typeIn K (.ref C7) = some (.type "type"))
    {C8 I8 N8 cda8 cc8 : Addr} {nm8 qq8 fl8 : Str} {bs8 bm8 sub8 : List Value} {sn8 : List Str} {ab8 : Bool} {col8 : Option Bool} {dd8 xod8 xan8 cdd8 cld8 : Option Addr} {m08 m18 m28 m38 m58 : Option Value} {xoc8 xdc8 xpm8 xct8 ccl8 cl8 : Value} {osl8 ccs8 csl8 : Array (Option Value)} {vs8 : Array Value} {tf8 : Tok}
    (xa8 : PySem.W.nsIn K mainGlobals "NoLead" = some (some (.ref C8)))
    (xz8 : PySem.W.nsIn K mainGlobals "super" = some none)
    (xb8 : K.lookup C8 = some (excClassObj nm8 qq8 C8 N8 bs8 bm8 true sn8 sub8 ab8 col8 dd8 m08 m18 m28 m38 m58 "ValueError.__new__"))
    (xc8 : PySem.HandSPX.refsVE bm8 = true)
    (xd8 : PySem.W.excTail veBases bm8 = true)
    (xe8 : PySem.W.findIn K (.ref C8) "__setattr__" = some (some (.builtin "object.__setattr__")))
    (xf8 : PySem.W.findIn K (.ref C8) "side" = some none)
    (xg8 : PySem.W.findIn K (.ref C8) "__init__" = some (some (.ref I8)))
    (xh8 : PySem.W.typeIn K (.ref I8) = some (.type "function"))
    (xi8 : PySem.W.keepIn K (.ref C8) = true)
    (xj8 : PySem.W.subIn K (.ref C8) (.type "BaseException") = some true)
    (xk8 : PySem.W.subIn K (.ref C8) (.type "ValueError") = some true)
    (xl8 : PySem.W.typeIn K (.ref C8) = some (.type "type"))
    (xm8 : PySem.W.mroIn K C8 (.ref C8) = some true)
    {S8 SN8 : Addr} {snm8 sqq8 : Str} {sbs8 sbm8 ssub8 : List Value} {ssn8 : List Str} {shd8 sab8 : Bool} {scol8 : Option Bool} {sdd8 : Option Addr} {n08 n18 n28 n38 n58 : Option Value} {sid8 : String}
    (xA8 : PySem.W.nsIn K mainGlobals "SpreadError" = some (some (.ref S8)))
    (xB8 : K.lookup S8 = some (excClassObj snm8 sqq8 S8 SN8 sbs8 sbm8 shd8 ssn8 ssub8 sab8 scol8 sdd8 n08 n18 n28 n38 n58 sid8))
    (xC8 : bm8 = .ref S8 :: sbm8)
    (xn8 : PySem.W.findIn K (.ref S8) "__init__" = some (some (.builtin "ValueError.__init__")))
    (xo8 : PySem.W.nsIn K cStatics "thirdparty.any" = some none)
    (xp8 : (l.prog.main.scope.names.lookup ("super" : Str)).isSome = false)
    (xq8 : K.lookup I8 = some ⟨xoc8, xod8, .func (PySem.W.ksFn "__init__" "NoLead.__init__" (xiA "side" ⟨61, 17, 61, 21⟩ ⟨61, 23, 61, 27⟩) (xiB "side" "no lead: " ⟨62, 8, 62, 13⟩ ⟨62, 8, 62, 15⟩ ⟨62, 8, 62, 24⟩ ⟨62, 27, 62, 36⟩ ⟨62, 37, 62, 41⟩ ⟨62, 36, 62, 42⟩ ⟨62, 25, 62, 43⟩ ⟨62, 8, 62, 44⟩ ⟨62, 8, 62, 44⟩ ⟨63, 8, 63, 12⟩ ⟨63, 8, 63, 17⟩ ⟨63, 20, 63, 24⟩ ⟨63, 8, 63, 24⟩) (xiS "side") .none .none xdc8 xpm8 xan8 (.ref cda8) xct8 cc8), osl8⟩)
    (xr8 : PySem.W.codeIn K (.ref cda8) "NoLead.__init__" = true)
    (xs8 : K.lookup cda8 = some ⟨ccl8, cdd8, .fields vs8, ccs8⟩)
    (xt8 : vs8[2]? = some (.str fl8 tf8))
    (xu8 : ((l.prog.main.file : Str) == fl8) = true)
    (xv8 : K.lookup cc8 = some ⟨cl8, cld8, .cell (some (.ref C8)), csl8⟩)
    (xw8 : PySem.W.findIn K (.ref C8) "__getattribute__" = some (some (.builtin "BaseException.__getattribute__")))
    (xx8 : PySem.W.findIn K (.ref C8) "__getattr__" = some none)
    (xy8 : PySem.W.hasDictIn K C8 = true)
    {C9 : Addr}
    (xa9 : PySem.W.nsIn K mainGlobals "NoLetters" = some (some (.ref C9)))
    (xd9 : PySem.W.excIn K C9 veBases "ValueError.__new__" = true)
    (xi9 : PySem.W.keepIn K (.ref C9) = true)
    (xj9 : PySem.W.subIn K (.ref C9) (.type "BaseException") = some true)
    (xl9 : PySem.W.typeIn K (.ref C9) = some (.type "type"))
    {C10 I10 N10 cda10 cc10 : Addr} {nm10 qq10 fl10 : Str} {bs10 bm10 sub10 : List Value} {sn10 : List Str} {ab10 : Bool} {col10 : Option Bool} {dd10 xod10 xan10 cdd10 cld10 : Option Addr} {m010 m110 m210 m310 m510 : Option Value} {xoc10 xdc10 xpm10 xct10 ccl10 cl10 : Value} {osl10 ccs10 csl10 : Array (Option Value)} {vs10 : Array Value} {tf10 : Tok}
    (xa10 : PySem.W.nsIn K mainGlobals "NoLine" = some (some (.ref C10)))
    (xz10 : PySem.W.nsIn K mainGlobals "super" = some none)
    (xb10 : K.lookup C10 = some (excClassObj nm10 qq10 C10 N10 bs10 bm10 true sn10 sub10 ab10 col10 dd10 m010 m110 m210 m310 m510 "ValueError.__new__"))
    (xc10 : PySem.HandSPX.refsVE bm10 = true)
    (xd10 : PySem.W.excTail veBases bm10 = true)
    (xe10 : PySem.W.findIn K (.ref C10) "__setattr__" = some (some (.builtin "object.__setattr__")))
    (xf10 : PySem.W.findIn K (.ref C10) "number" = some none)
    (xg10 : PySem.W.findIn K (.ref C10) "__init__" = some (some (.ref I10)))
    (xh10 : PySem.W.typeIn K (.ref I10) = some (.type "function"))
    (xi10 : PySem.W.keepIn K (.ref C10) = true)
    (xj10 : PySem.W.subIn K (.ref C10) (.type "BaseException") = some true)
    (xk10 : PySem.W.subIn K (.ref C10) (.type "ValueError") = some true)
    (xl10 : PySem.W.typeIn K (.ref C10) = some (.type "type"))
    (xm10 : PySem.W.mroIn K C10 (.ref C10) = some true)
    {S10 SN10 : Addr} {snm10 sqq10 : Str} {sbs10 sbm10 ssub10 : List Value} {ssn10 : List Str} {shd10 sab10 : Bool} {scol10 : Option Bool} {sdd10 : Option Addr} {n010 n110 n210 n310 n510 : Option Value} {sid10 : String}
    (xA10 : PySem.W.nsIn K mainGlobals "SpreadError" = some (some (.ref S10)))
    (xB10 : K.lookup S10 = some (excClassObj snm10 sqq10 S10 SN10 sbs10 sbm10 shd10 ssn10 ssub10 sab10 scol10 sdd10 n010 n110 n210 n310 n510 sid10))
    (xC10 : bm10 = .ref S10 :: sbm10)
    (xn10 : PySem.W.findIn K (.ref S10) "__init__" = some (some (.builtin "ValueError.__init__")))
    (xo10 : PySem.W.nsIn K cStatics "thirdparty.any" = some none)
    (xp10 : (l.prog.main.scope.names.lookup ("super" : Str)).isSome = false)
    (xq10 : K.lookup I10 = some ⟨xoc10, xod10, .func (PySem.W.ksFn "__init__" "NoLine.__init__" (xiA "number" ⟨66, 17, 66, 21⟩ ⟨66, 23, 66, 29⟩) (xiB "number" "no line: " ⟨67, 8, 67, 13⟩ ⟨67, 8, 67, 15⟩ ⟨67, 8, 67, 24⟩ ⟨67, 27, 67, 36⟩ ⟨67, 37, 67, 43⟩ ⟨67, 36, 67, 44⟩ ⟨67, 25, 67, 45⟩ ⟨67, 8, 67, 46⟩ ⟨67, 8, 67, 46⟩ ⟨68, 8, 68, 12⟩ ⟨68, 8, 68, 19⟩ ⟨68, 22, 68, 28⟩ ⟨68, 8, 68, 28⟩) (xiS "number") .none .none xdc10 xpm10 xan10 (.ref cda10) xct10 cc10), osl10⟩)
    (xr10 : PySem.W.codeIn K (.ref cda10) "NoLine.__init__" = true)
    (xs10 : K.lookup cda10 = some ⟨ccl10, cdd10, .fields vs10, ccs10⟩)
    (xt10 : vs10[2]? = some (.str fl10 tf10))
    (xu10 : ((l.prog.main.file : Str) == fl10) = true)
    (xv10 : K.lookup cc10 = some ⟨cl10, cld10, .cell (some (.ref C10)), csl10⟩)
    (xw10 : PySem.W.findIn K (.ref C10) "__getattribute__" = some (some (.builtin "BaseException.__getattribute__")))
    (xx10 : PySem.W.findIn K (.ref C10) "__getattr__" = some none)
    (xy10 : PySem.W.hasDictIn K C10 = true)
    {C11 : Addr}
    (xa11 : PySem.W.nsIn K mainGlobals "NoLines" = some (some (.ref C11)))
    (xd11 : PySem.W.excIn K C11 veBases "ValueError.__new__" = true)
    (xi11 : PySem.W.keepIn K (.ref C11) = true)
    (xj11 : PySem.W.subIn K (.ref C11) (.type "BaseException") = some true)
    (xl11 : PySem.W.typeIn K (.ref C11) = some (.type "type"))
    {C12 : Addr}
    (xa12 : PySem.W.nsIn K mainGlobals "NoMatch" = some (some (.ref C12)))
    (xd12 : PySem.W.excIn K C12 veBases "ValueError.__new__" = true)
    (xi12 : PySem.W.keepIn K (.ref C12) = true)
    (xj12 : PySem.W.subIn K (.ref C12) (.type "BaseException") = some true)
    (xl12 : PySem.W.typeIn K (.ref C12) = some (.type "type"))
    {C13 I13 N13 cda13 cc13 : Addr} {nm13 qq13 fl13 : Str} {bs13 bm13 sub13 : List Value} {sn13 : List Str} {ab13 : Bool} {col13 : Option Bool} {dd13 xod13 xan13 cdd13 cld13 : Option Addr} {m013 m113 m213 m313 m513 : Option Value} {xoc13 xdc13 xpm13 xct13 ccl13 cl13 : Value} {osl13 ccs13 csl13 : Array (Option Value)} {vs13 : Array Value} {tf13 : Tok}
    (xa13 : PySem.W.nsIn K mainGlobals "NoMessage" = some (some (.ref C13)))
    (xz13 : PySem.W.nsIn K mainGlobals "super" = some none)
    (xb13 : K.lookup C13 = some (excClassObj nm13 qq13 C13 N13 bs13 bm13 true sn13 sub13 ab13 col13 dd13 m013 m113 m213 m313 m513 "ValueError.__new__"))
    (xc13 : PySem.HandSPX.refsVE bm13 = true)
    (xd13 : PySem.W.excTail veBases bm13 = true)
    (xe13 : PySem.W.findIn K (.ref C13) "__setattr__" = some (some (.builtin "object.__setattr__")))
    (xf13 : PySem.W.findIn K (.ref C13) "number" = some none)
    (xg13 : PySem.W.findIn K (.ref C13) "__init__" = some (some (.ref I13)))
    (xh13 : PySem.W.typeIn K (.ref I13) = some (.type "function"))
    (xi13 : PySem.W.keepIn K (.ref C13) = true)
    (xj13 : PySem.W.subIn K (.ref C13) (.type "BaseException") = some true)
    (xk13 : PySem.W.subIn K (.ref C13) (.type "ValueError") = some true)
    (xl13 : PySem.W.typeIn K (.ref C13) = some (.type "type"))
    (xm13 : PySem.W.mroIn K C13 (.ref C13) = some true)
    {S13 SN13 : Addr} {snm13 sqq13 : Str} {sbs13 sbm13 ssub13 : List Value} {ssn13 : List Str} {shd13 sab13 : Bool} {scol13 : Option Bool} {sdd13 : Option Addr} {n013 n113 n213 n313 n513 : Option Value} {sid13 : String}
    (xA13 : PySem.W.nsIn K mainGlobals "SpreadError" = some (some (.ref S13)))
    (xB13 : K.lookup S13 = some (excClassObj snm13 sqq13 S13 SN13 sbs13 sbm13 shd13 ssn13 ssub13 sab13 scol13 sdd13 n013 n113 n213 n313 n513 sid13))
    (xC13 : bm13 = .ref S13 :: sbm13)
    (xn13 : PySem.W.findIn K (.ref S13) "__init__" = some (some (.builtin "ValueError.__init__")))
    (xo13 : PySem.W.nsIn K cStatics "thirdparty.any" = some none)
    (xp13 : (l.prog.main.scope.names.lookup ("super" : Str)).isSome = false)
    (xq13 : K.lookup I13 = some ⟨xoc13, xod13, .func (PySem.W.ksFn "__init__" "NoMessage.__init__" (xiA "number" ⟨71, 17, 71, 21⟩ ⟨71, 23, 71, 29⟩) (xiB "number" "no message: " ⟨72, 8, 72, 13⟩ ⟨72, 8, 72, 15⟩ ⟨72, 8, 72, 24⟩ ⟨72, 27, 72, 39⟩ ⟨72, 40, 72, 46⟩ ⟨72, 39, 72, 47⟩ ⟨72, 25, 72, 48⟩ ⟨72, 8, 72, 49⟩ ⟨72, 8, 72, 49⟩ ⟨73, 8, 73, 12⟩ ⟨73, 8, 73, 19⟩ ⟨73, 22, 73, 28⟩ ⟨73, 8, 73, 28⟩) (xiS "number") .none .none xdc13 xpm13 xan13 (.ref cda13) xct13 cc13), osl13⟩)
    (xr13 : PySem.W.codeIn K (.ref cda13) "NoMessage.__init__" = true)
    (xs13 : K.lookup cda13 = some ⟨ccl13, cdd13, .fields vs13, ccs13⟩)
    (xt13 : vs13[2]? = some (.str fl13 tf13))
    (xu13 : ((l.prog.main.file : Str) == fl13) = true)
    (xv13 : K.lookup cc13 = some ⟨cl13, cld13, .cell (some (.ref C13)), csl13⟩)
    (xw13 : PySem.W.findIn K (.ref C13) "__getattribute__" = some (some (.builtin "BaseException.__getattribute__")))
    (xx13 : PySem.W.findIn K (.ref C13) "__getattr__" = some none)
    (xy13 : PySem.W.hasDictIn K C13 = true)
    {C14 : Addr}
    (xa14 : PySem.W.nsIn K mainGlobals "NoName" = some (some (.ref C14)))
    (xd14 : PySem.W.excIn K C14 veBases "ValueError.__new__" = true)
    (xi14 : PySem.W.keepIn K (.ref C14) = true)
    (xj14 : PySem.W.subIn K (.ref C14) (.type "BaseException") = some true)
    (xl14 : PySem.W.typeIn K (.ref C14) = some (.type "type"))
    {C15 : Addr}
    (xa15 : PySem.W.nsIn K mainGlobals "NoNumber" = some (some (.ref C15)))
    (xd15 : PySem.W.excIn K C15 veBases "ValueError.__new__" = true)
    (xi15 : PySem.W.keepIn K (.ref C15) = true)
    (xj15 : PySem.W.subIn K (.ref C15) (.type "BaseException") = some true)
    (xl15 : PySem.W.typeIn K (.ref C15) = some (.type "type"))
    {C16 : Addr}
    (xa16 : PySem.W.nsIn K mainGlobals "NoPlan" = some (some (.ref C16)))
    (xd16 : PySem.W.excIn K C16 veBases "ValueError.__new__" = true)
    (xi16 : PySem.W.keepIn K (.ref C16) = true)
    (xj16 : PySem.W.subIn K (.ref C16) (.type "BaseException") = some true)
    (xl16 : PySem.W.typeIn K (.ref C16) = some (.type "type"))
    {C17 : Addr}
    (xa17 : PySem.W.nsIn K mainGlobals "NoPower" = some (some (.ref C17)))
    (xd17 : PySem.W.excIn K C17 veBases "ValueError.__new__" = true)
    (xi17 : PySem.W.keepIn K (.ref C17) = true)
    (xj17 : PySem.W.subIn K (.ref C17) (.type "BaseException") = some true)
    (xl17 : PySem.W.typeIn K (.ref C17) = some (.type "type"))
    {C18 : Addr}
    (xa18 : PySem.W.nsIn K mainGlobals "NoProgram" = some (some (.ref C18)))
    (xd18 : PySem.W.excIn K C18 veBases "ValueError.__new__" = true)
    (xi18 : PySem.W.keepIn K (.ref C18) = true)
    (xj18 : PySem.W.subIn K (.ref C18) (.type "BaseException") = some true)
    (xl18 : PySem.W.typeIn K (.ref C18) = some (.type "type"))
    {C19 : Addr}
    (xa19 : PySem.W.nsIn K mainGlobals "NoSizes" = some (some (.ref C19)))
    (xd19 : PySem.W.excIn K C19 veBases "ValueError.__new__" = true)
    (xi19 : PySem.W.keepIn K (.ref C19) = true)
    (xj19 : PySem.W.subIn K (.ref C19) (.type "BaseException") = some true)
    (xl19 : PySem.W.typeIn K (.ref C19) = some (.type "type"))
    {C20 : Addr}
    (xa20 : PySem.W.nsIn K mainGlobals "NoSpread" = some (some (.ref C20)))
    (xd20 : PySem.W.excIn K C20 veBases "ValueError.__new__" = true)
    (xi20 : PySem.W.keepIn K (.ref C20) = true)
    (xj20 : PySem.W.subIn K (.ref C20) (.type "BaseException") = some true)
    (xl20 : PySem.W.typeIn K (.ref C20) = some (.type "type"))
    {C21 : Addr}
    (xa21 : PySem.W.nsIn K mainGlobals "NoSpreads" = some (some (.ref C21)))
    (xd21 : PySem.W.excIn K C21 veBases "ValueError.__new__" = true)
    (xi21 : PySem.W.keepIn K (.ref C21) = true)
    (xj21 : PySem.W.subIn K (.ref C21) (.type "BaseException") = some true)
    (xl21 : PySem.W.typeIn K (.ref C21) = some (.type "type"))
    {C22 : Addr}
    (xa22 : PySem.W.nsIn K mainGlobals "NoTable" = some (some (.ref C22)))
    (xd22 : PySem.W.excIn K C22 veBases "ValueError.__new__" = true)
    (xi22 : PySem.W.keepIn K (.ref C22) = true)
    (xj22 : PySem.W.subIn K (.ref C22) (.type "BaseException") = some true)
    (xl22 : PySem.W.typeIn K (.ref C22) = some (.type "type"))
    {C23 : Addr}
    (xa23 : PySem.W.nsIn K mainGlobals "NoTables" = some (some (.ref C23)))
    (xd23 : PySem.W.excIn K C23 veBases "ValueError.__new__" = true)
    (xi23 : PySem.W.keepIn K (.ref C23) = true)
    (xj23 : PySem.W.subIn K (.ref C23) (.type "BaseException") = some true)
    (xl23 : PySem.W.typeIn K (.ref C23) = some (.type "type"))
    {C24 : Addr}
    (xa24 : PySem.W.nsIn K mainGlobals "NoUndo" = some (some (.ref C24)))
    (xd24 : PySem.W.excIn K C24 veBases "ValueError.__new__" = true)
    (xi24 : PySem.W.keepIn K (.ref C24) = true)
    (xj24 : PySem.W.subIn K (.ref C24) (.type "BaseException") = some true)
    (xl24 : PySem.W.typeIn K (.ref C24) = some (.type "type"))
    {C25 : Addr}
    (xa25 : PySem.W.nsIn K mainGlobals "NoWish" = some (some (.ref C25)))
    (xd25 : PySem.W.excIn K C25 veBases "ValueError.__new__" = true)
    (xi25 : PySem.W.keepIn K (.ref C25) = true)
    (xj25 : PySem.W.subIn K (.ref C25) (.type "BaseException") = some true)
    (xl25 : PySem.W.typeIn K (.ref C25) = some (.type "type"))
    {C26 : Addr}
    (xa26 : PySem.W.nsIn K mainGlobals "NoWork" = some (some (.ref C26)))
    (xd26 : PySem.W.excIn K C26 veBases "ValueError.__new__" = true)
    (xi26 : PySem.W.keepIn K (.ref C26) = true)
    (xj26 : PySem.W.subIn K (.ref C26) (.type "BaseException") = some true)
    (xl26 : PySem.W.typeIn K (.ref C26) = some (.type "type"))
    {C27 : Addr}
    (xa27 : PySem.W.nsIn K mainGlobals "NoWorker" = some (some (.ref C27)))
    (xd27 : PySem.W.excIn K C27 veBases "ValueError.__new__" = true)
    (xi27 : PySem.W.keepIn K (.ref C27) = true)
    (xj27 : PySem.W.subIn K (.ref C27) (.type "BaseException") = some true)
    (xl27 : PySem.W.typeIn K (.ref C27) = some (.type "type"))
    {C28 I28 N28 cda28 cc28 : Addr} {nm28 qq28 fl28 : Str} {bs28 bm28 sub28 : List Value} {sn28 : List Str} {ab28 : Bool} {col28 : Option Bool} {dd28 xod28 xan28 cdd28 cld28 : Option Addr} {m028 m128 m228 m328 m528 : Option Value} {xoc28 xdc28 xpm28 xct28 ccl28 cl28 : Value} {osl28 ccs28 csl28 : Array (Option Value)} {vs28 : Array Value} {tf28 : Tok}
    (xa28 : PySem.W.nsIn K mainGlobals "NotTree" = some (some (.ref C28)))
    (xz28 : PySem.W.nsIn K mainGlobals "super" = some none)
    (xb28 : K.lookup C28 = some (excClassObj nm28 qq28 C28 N28 bs28 bm28 true sn28 sub28 ab28 col28 dd28 m028 m128 m228 m328 m528 "ValueError.__new__"))
    (xc28 : PySem.HandSPX.refsVE bm28 = true)
    (xd28 : PySem.W.excTail veBases bm28 = true)
    (xe28 : PySem.W.findIn K (.ref C28) "__setattr__" = some (some (.builtin "object.__setattr__")))
    (xf28 : PySem.W.findIn K (.ref C28) "name" = some none)
    (xg28 : PySem.W.findIn K (.ref C28) "__init__" = some (some (.ref I28)))
    (xh28 : PySem.W.typeIn K (.ref I28) = some (.type "function"))
    (xi28 : PySem.W.keepIn K (.ref C28) = true)
    (xj28 : PySem.W.subIn K (.ref C28) (.type "BaseException") = some true)
    (xk28 : PySem.W.subIn K (.ref C28) (.type "ValueError") = some true)
    (xl28 : PySem.W.typeIn K (.ref C28) = some (.type "type"))
    (xm28 : PySem.W.mroIn K C28 (.ref C28) = some true)
    {S28 SN28 : Addr} {snm28 sqq28 : Str} {sbs28 sbm28 ssub28 : List Value} {ssn28 : List Str} {shd28 sab28 : Bool} {scol28 : Option Bool} {sdd28 : Option Addr} {n028 n128 n228 n328 n528 : Option Value} {sid28 : String}
    (xA28 : PySem.W.nsIn K mainGlobals "SpreadError" = some (some (.ref S28)))
    (xB28 : K.lookup S28 = some (excClassObj snm28 sqq28 S28 SN28 sbs28 sbm28 shd28 ssn28 ssub28 sab28 scol28 sdd28 n028 n128 n228 n328 n528 sid28))
    (xC28 : bm28 = .ref S28 :: sbm28)
    (xn28 : PySem.W.findIn K (.ref S28) "__init__" = some (some (.builtin "ValueError.__init__")))
    (xo28 : PySem.W.nsIn K cStatics "thirdparty.any" = some none)
    (xp28 : (l.prog.main.scope.names.lookup ("super" : Str)).isSome = false)
    (xq28 : K.lookup I28 = some ⟨xoc28, xod28, .func (PySem.W.ksFn "__init__" "NotTree.__init__" (xiA "name" ⟨81, 17, 81, 21⟩ ⟨81, 23, 81, 27⟩) (xiB "name" "no tree: " ⟨82, 8, 82, 13⟩ ⟨82, 8, 82, 15⟩ ⟨82, 8, 82, 24⟩ ⟨82, 27, 82, 36⟩ ⟨82, 37, 82, 41⟩ ⟨82, 36, 82, 42⟩ ⟨82, 25, 82, 43⟩ ⟨82, 8, 82, 44⟩ ⟨82, 8, 82, 44⟩ ⟨83, 8, 83, 12⟩ ⟨83, 8, 83, 17⟩ ⟨83, 20, 83, 24⟩ ⟨83, 8, 83, 24⟩) (xiS "name") .none .none xdc28 xpm28 xan28 (.ref cda28) xct28 cc28), osl28⟩)
    (xr28 : PySem.W.codeIn K (.ref cda28) "NotTree.__init__" = true)
    (xs28 : K.lookup cda28 = some ⟨ccl28, cdd28, .fields vs28, ccs28⟩)
    (xt28 : vs28[2]? = some (.str fl28 tf28))
    (xu28 : ((l.prog.main.file : Str) == fl28) = true)
    (xv28 : K.lookup cc28 = some ⟨cl28, cld28, .cell (some (.ref C28)), csl28⟩)
    (xw28 : PySem.W.findIn K (.ref C28) "__getattribute__" = some (some (.builtin "BaseException.__getattribute__")))
    (xx28 : PySem.W.findIn K (.ref C28) "__getattr__" = some none)
    (xy28 : PySem.W.hasDictIn K C28 = true)
    {C29 : Addr}
    (xa29 : PySem.W.nsIn K mainGlobals "SpreadError" = some (some (.ref C29)))
    (xd29 : PySem.W.excIn K C29 veBases "ValueError.__new__" = true)
    (xi29 : PySem.W.keepIn K (.ref C29) = true)
    (xj29 : PySem.W.subIn K (.ref C29) (.type "BaseException") = some true)
    (xl29 : PySem.W.typeIn K (.ref C29) = some (.type "type"))
    {C30 : Addr}
    (xa30 : PySem.W.nsIn K mainGlobals "TooGreat" = some (some (.ref C30)))
    (xd30 : PySem.W.excIn K C30 veBases "ValueError.__new__" = true)
    (xi30 : PySem.W.keepIn K (.ref C30) = true)
    (xj30 : PySem.W.subIn K (.ref C30) (.type "BaseException") = some true)
    (xl30 : PySem.W.typeIn K (.ref C30) = some (.type "type"))
    {C31 I31 N31 cda31 cc31 : Addr} {nm31 qq31 fl31 : Str} {bs31 bm31 sub31 : List Value} {sn31 : List Str} {ab31 : Bool} {col31 : Option Bool} {dd31 xod31 xan31 cdd31 cld31 : Option Addr} {m031 m131 m231 m331 m531 : Option Value} {xoc31 xdc31 xpm31 xct31 ccl31 cl31 : Value} {osl31 ccs31 csl31 : Array (Option Value)} {vs31 : Array Value} {tf31 : Tok}
    (xa31 : PySem.W.nsIn K mainGlobals "Unfit" = some (some (.ref C31)))
    (xz31 : PySem.W.nsIn K mainGlobals "super" = some none)
    (xb31 : K.lookup C31 = some (excClassObj nm31 qq31 C31 N31 bs31 bm31 true sn31 sub31 ab31 col31 dd31 m031 m131 m231 m331 m531 "ValueError.__new__"))
    (xc31 : PySem.HandSPX.refsVE bm31 = true)
    (xd31 : PySem.W.excTail veBases bm31 = true)
    (xe31 : PySem.W.findIn K (.ref C31) "__setattr__" = some (some (.builtin "object.__setattr__")))
    (xf31 : PySem.W.findIn K (.ref C31) "fault" = some none)
    (xg31 : PySem.W.findIn K (.ref C31) "__init__" = some (some (.ref I31)))
    (xh31 : PySem.W.typeIn K (.ref I31) = some (.type "function"))
    (xi31 : PySem.W.keepIn K (.ref C31) = true)
    (xj31 : PySem.W.subIn K (.ref C31) (.type "BaseException") = some true)
    (xk31 : PySem.W.subIn K (.ref C31) (.type "ValueError") = some true)
    (xl31 : PySem.W.typeIn K (.ref C31) = some (.type "type"))
    (xm31 : PySem.W.mroIn K C31 (.ref C31) = some true)
    {S31 SN31 : Addr} {snm31 sqq31 : Str} {sbs31 sbm31 ssub31 : List Value} {ssn31 : List Str} {shd31 sab31 : Bool} {scol31 : Option Bool} {sdd31 : Option Addr} {n031 n131 n231 n331 n531 : Option Value} {sid31 : String}
    (xA31 : PySem.W.nsIn K mainGlobals "SpreadError" = some (some (.ref S31)))
    (xB31 : K.lookup S31 = some (excClassObj snm31 sqq31 S31 SN31 sbs31 sbm31 shd31 ssn31 ssub31 sab31 scol31 sdd31 n031 n131 n231 n331 n531 sid31))
    (xC31 : bm31 = .ref S31 :: sbm31)
    (xn31 : PySem.W.findIn K (.ref S31) "__init__" = some (some (.builtin "ValueError.__init__")))
    (xo31 : PySem.W.nsIn K cStatics "thirdparty.any" = some none)
    (xp31 : (l.prog.main.scope.names.lookup ("super" : Str)).isSome = false)
    (xq31 : K.lookup I31 = some ⟨xoc31, xod31, .func (PySem.W.ksFn "__init__" "Unfit.__init__" (xiA "fault" ⟨56, 17, 56, 21⟩ ⟨56, 23, 56, 28⟩) (xiB "fault" "not fitting: " ⟨57, 8, 57, 13⟩ ⟨57, 8, 57, 15⟩ ⟨57, 8, 57, 24⟩ ⟨57, 27, 57, 40⟩ ⟨57, 41, 57, 46⟩ ⟨57, 40, 57, 47⟩ ⟨57, 25, 57, 48⟩ ⟨57, 8, 57, 49⟩ ⟨57, 8, 57, 49⟩ ⟨58, 8, 58, 12⟩ ⟨58, 8, 58, 18⟩ ⟨58, 21, 58, 26⟩ ⟨58, 8, 58, 26⟩) (xiS "fault") .none .none xdc31 xpm31 xan31 (.ref cda31) xct31 cc31), osl31⟩)
    (xr31 : PySem.W.codeIn K (.ref cda31) "Unfit.__init__" = true)
    (xs31 : K.lookup cda31 = some ⟨ccl31, cdd31, .fields vs31, ccs31⟩)
    (xt31 : vs31[2]? = some (.str fl31 tf31))
    (xu31 : ((l.prog.main.file : Str) == fl31) = true)
    (xv31 : K.lookup cc31 = some ⟨cl31, cld31, .cell (some (.ref C31)), csl31⟩)
    (xw31 : PySem.W.findIn K (.ref C31) "__getattribute__" = some (some (.builtin "BaseException.__getattribute__")))
    (xx31 : PySem.W.findIn K (.ref C31) "__getattr__" = some none)
    (xy31 : PySem.W.hasDictIn K C31 = true)
    (va : exAllB K exNames = true)
    (vn0 : clsN K "Gone" = some C0)
    (vn1 : clsN K "NoField" = some C1)
    (vn2 : clsN K "NoForm" = some C2)
    (vn3 : clsN K "NoGrid" = some C3)
    (vn4 : clsN K "NoIndex" = some C4)
    (vn5 : clsN K "NoKeeping" = some C5)
    (vn6 : clsN K "NoKeepings" = some C6)
    (vn7 : clsN K "NoKeeps" = some C7)
    (vn8 : clsN K "NoLead" = some C8)
    (vn9 : clsN K "NoLetters" = some C9)
    (vn10 : clsN K "NoLine" = some C10)
    (vn11 : clsN K "NoLines" = some C11)
    (vn12 : clsN K "NoMatch" = some C12)
    (vn13 : clsN K "NoMessage" = some C13)
    (vn14 : clsN K "NoName" = some C14)
    (vn15 : clsN K "NoNumber" = some C15)
    (vn16 : clsN K "NoPlan" = some C16)
    (vn17 : clsN K "NoPower" = some C17)
    (vn18 : clsN K "NoProgram" = some C18)
    (vn19 : clsN K "NoSizes" = some C19)
    (vn20 : clsN K "NoSpread" = some C20)
    (vn21 : clsN K "NoSpreads" = some C21)
    (vn22 : clsN K "NoTable" = some C22)
    (vn23 : clsN K "NoTables" = some C23)
    (vn24 : clsN K "NoUndo" = some C24)
    (vn25 : clsN K "NoWish" = some C25)
    (vn26 : clsN K "NoWork" = some C26)
    (vn27 : clsN K "NoWorker" = some C27)
    (vn28 : clsN K "NotTree" = some C28)
    (vn30 : clsN K "TooGreat" = some C30)
    (vn31 : clsN K "Unfit" = some C31)
    (vi0 : isAllB K exNames (.ref C0) (valOf "Gone") = true)
    (vi1 : isAllB K exNames (.ref C1) (valOf "NoField") = true)
    (vi2 : isAllB K exNames (.ref C2) (valOf "NoForm") = true)
    (vi3 : isAllB K exNames (.ref C3) (valOf "NoGrid") = true)
    (vi4 : isAllB K exNames (.ref C4) (valOf "NoIndex") = true)
    (vi5 : isAllB K exNames (.ref C5) (valOf "NoKeeping") = true)
    (vi6 : isAllB K exNames (.ref C6) (valOf "NoKeepings") = true)
    (vi7 : isAllB K exNames (.ref C7) (valOf "NoKeeps") = true)
    (vi8 : isAllB K exNames (.ref C8) (valOf "NoLead") = true)
    (vi9 : isAllB K exNames (.ref C9) (valOf "NoLetters") = true)
    (vi10 : isAllB K exNames (.ref C10) (valOf "NoLine") = true)
    (vi11 : isAllB K exNames (.ref C11) (valOf "NoLines") = true)
    (vi12 : isAllB K exNames (.ref C12) (valOf "NoMatch") = true)
    (vi13 : isAllB K exNames (.ref C13) (valOf "NoMessage") = true)
    (vi14 : isAllB K exNames (.ref C14) (valOf "NoName") = true)
    (vi15 : isAllB K exNames (.ref C15) (valOf "NoNumber") = true)
    (vi16 : isAllB K exNames (.ref C16) (valOf "NoPlan") = true)
    (vi17 : isAllB K exNames (.ref C17) (valOf "NoPower") = true)
    (vi18 : isAllB K exNames (.ref C18) (valOf "NoProgram") = true)
    (vi19 : isAllB K exNames (.ref C19) (valOf "NoSizes") = true)
    (vi20 : isAllB K exNames (.ref C20) (valOf "NoSpread") = true)
    (vi21 : isAllB K exNames (.ref C21) (valOf "NoSpreads") = true)
    (vi22 : isAllB K exNames (.ref C22) (valOf "NoTable") = true)
    (vi23 : isAllB K exNames (.ref C23) (valOf "NoTables") = true)
    (vi24 : isAllB K exNames (.ref C24) (valOf "NoUndo") = true)
    (vi25 : isAllB K exNames (.ref C25) (valOf "NoWish") = true)
    (vi26 : isAllB K exNames (.ref C26) (valOf "NoWork") = true)
    (vi27 : isAllB K exNames (.ref C27) (valOf "NoWorker") = true)
    (vi28 : isAllB K exNames (.ref C28) (valOf "NotTree") = true)
    (vi29 : isAllB K exNames (.ref C29) valAll = true)
    (vi30 : isAllB K exNames (.ref C30) (valOf "TooGreat") = true)
    (vi31 : isAllB K exNames (.ref C31) (valOf "Unfit") = true)
    (vVE : isAllB K exNames (.type "ValueError") valAll = true)
    (vf0 : PySem.W.findIn K (.ref C0) "name" = some none)
    (vf8 : PySem.W.findIn K (.ref C8) "side" = some none)
    (vf10 : PySem.W.findIn K (.ref C10) "number" = some none)
    (vf13 : PySem.W.findIn K (.ref C13) "number" = some none)
    (vf28 : PySem.W.findIn K (.ref C28) "name" = some none)
    (vf31 : PySem.W.findIn K (.ref C31) "fault" = some none) :
    ∃ fd : FuncData, (∀ (s : Shared) (v : Value), BindsTo s fd ⟨[v], []⟩ [("_law_script", v)]) ∧ ∀ base : Heap, K.In base → base.Ns mainGlobals mg → FnF l.prog w K mg base 4 fa fd ["_law_script"] F_law := by
  have e := hfa.symm.trans (PySem.W.mg_of X G a5)
  cases e
  let T : Top l.prog K mg := {
    a__law_open := x0, d__law_open := _, F__law_open := fun_mk (st := s__law_open) l0 c0 k0, b__law_open := (fun_mk (st := s__law_open) l0 c0 k0).binds (fun _ _ _ _ _ _ us hl => match us, hl with | [_], _ => rfl), g__law_open := PySem.W.mg_of X G a0,
    a__law_spread := x1, d__law_spread := _, F__law_spread := fun_mk (st := s__law_spread) l1 c1 k1, b__law_spread := (fun_mk (st := s__law_spread) l1 c1 k1).binds (fun _ _ _ _ _ _ us hl => match us, hl with | [_, _], _ => rfl), g__law_spread := PySem.W.mg_of X G a1,
    a__law_take := x2, d__law_take := _, F__law_take := fun_mk (st := s__law_take) l2 c2 k2, b__law_take := (fun_mk (st := s__law_take) l2 c2 k2).binds (fun _ _ _ _ _ _ us hl => match us, hl with | [_, _], _ => rfl), g__law_take := PySem.W.mg_of X G a2,
    a__law_one_of := x3, d__law_one_of := _, F__law_one_of := fun_mk (st := s__law_one_of) l3 c3 k3, b__law_one_of := (fun_mk (st := s__law_one_of) l3 c3 k3).binds (fun _ _ _ _ _ _ us hl => match us, hl with | [_, _], _ => rfl), g__law_one_of := PySem.W.mg_of X G a3,
    a__law_words := x4, d__law_words := _, F__law_words := fun_mk (st := s__law_words) l4 c4 k4, b__law_words := (fun_mk (st := s__law_words) l4 c4 k4).binds (fun _ _ _ _ _ _ us hl => match us, hl with | [_], _ => rfl), g__law_words := PySem.W.mg_of X G a4,
    a_law := fa, d_law := _, F_law := fun_mk (st := s_law) l5 c5 k5, b_law := (fun_mk (st := s_law) l5 c5 k5).binds (fun _ _ _ _ _ _ us hl => match us, hl with | [_], _ => rfl), g_law := PySem.W.mg_of X G a5,
    n_ValueError := PySem.W.mg_none_of X G z0,
    n_enumerate := PySem.W.mg_none_of X G z1,
    n_int := PySem.W.mg_none_of X G z2,
    n_isinstance := PySem.W.mg_none_of X G z3,
    n_len := PySem.W.mg_none_of X G z4,
    n_list := PySem.W.mg_none_of X G z5,
    n_range := PySem.W.mg_none_of X G z6,
    n_repr := PySem.W.mg_none_of X G z7,
    C_Gone := C0, g_Gone := PySem.W.mg_of X G xa0, I_Gone := I0, xf_Gone := ⟨xw0, xx0, xj0, xy0⟩, X_Gone := { fn0 := fname_name, gC := PySem.W.mg_of X G xa0, ms := PySem.W.mg_none_of X G xz0, cls := ⟨_, _, _, _, _, _, _, _, _, _, _, _, _, _, _, xb0, xc0⟩, ini := excInit_mk xb0 xd0, sa := xe0, noN := xf0, iC := xg0, tC := xh0, kC := xi0, exC := xj0, veC := xk0, tyC := xl0, mC := xm0, sup := super_mk xb0 xB0 xC0 xn0, st := xo0, top := xp0, fn := ⟨_, _, _, _, _, _, _, _, _, _, _, _, _, _, _, _, _, _, _, _, _, _, _, _, _, _, xq0, xr0, by decide, by decide, fun s u v => .of_eq rfl, ⟨_, _, _, _, _, _, xs0, xt0, xu0⟩, _, _, _, xv0⟩ },
    C_NoField := C1, g_NoField := PySem.W.mg_of X G xa1, q_NoField := xd1, k_NoField := xi1, s_NoField := xj1, t_NoField := xl1,
    C_NoForm := C2, g_NoForm := PySem.W.mg_of X G xa2, q_NoForm := xd2, k_NoForm := xi2, s_NoForm := xj2, t_NoForm := xl2,
    C_NoGrid := C3, g_NoGrid := PySem.W.mg_of X G xa3, q_NoGrid := xd3, k_NoGrid := xi3, s_NoGrid := xj3, t_NoGrid := xl3,
    C_NoIndex := C4, g_NoIndex := PySem.W.mg_of X G xa4, q_NoIndex := xd4, k_NoIndex := xi4, s_NoIndex := xj4, t_NoIndex := xl4,
    C_NoKeeping := C5, g_NoKeeping := PySem.W.mg_of X G xa5, q_NoKeeping := xd5, k_NoKeeping := xi5, s_NoKeeping := xj5, t_NoKeeping := xl5,
    C_NoKeepings := C6, g_NoKeepings := PySem.W.mg_of X G xa6, q_NoKeepings := xd6, k_NoKeepings := xi6, s_NoKeepings := xj6, t_NoKeepings := xl6,
    C_NoKeeps := C7, g_NoKeeps := PySem.W.mg_of X G xa7, q_NoKeeps := xd7, k_NoKeeps := xi7, s_NoKeeps := xj7, t_NoKeeps := xl7,
    C_NoLead := C8, g_NoLead := PySem.W.mg_of X G xa8, I_NoLead := I8, xf_NoLead := ⟨xw8, xx8, xj8, xy8⟩, X_NoLead := { fn0 := fname_side, gC := PySem.W.mg_of X G xa8, ms := PySem.W.mg_none_of X G xz8, cls := ⟨_, _, _, _, _, _, _, _, _, _, _, _, _, _, _, xb8, xc8⟩, ini := excInit_mk xb8 xd8, sa := xe8, noN := xf8, iC := xg8, tC := xh8, kC := xi8, exC := xj8, veC := xk8, tyC := xl8, mC := xm8, sup := super_mk xb8 xB8 xC8 xn8, st := xo8, top := xp8, fn := ⟨_, _, _, _, _, _, _, _, _, _, _, _, _, _, _, _, _, _, _, _, _, _, _, _, _, _, xq8, xr8, by decide, by decide, fun s u v => .of_eq rfl, ⟨_, _, _, _, _, _, xs8, xt8, xu8⟩, _, _, _, xv8⟩ },
    C_NoLetters := C9, g_NoLetters := PySem.W.mg_of X G xa9, q_NoLetters := xd9, k_NoLetters := xi9, s_NoLetters := xj9, t_NoLetters := xl9,
    C_NoLine := C10, g_NoLine := PySem.W.mg_of X G xa10, I_NoLine := I10, xf_NoLine := ⟨xw10, xx10, xj10, xy10⟩, X_NoLine := { fn0 := fname_number, gC := PySem.W.mg_of X G xa10, ms := PySem.W.mg_none_of X G xz10, cls := ⟨_, _, _, _, _, _, _, _, _, _, _, _, _, _, _, xb10, xc10⟩, ini := excInit_mk xb10 xd10, sa := xe10, noN := xf10, iC := xg10, tC := xh10, kC := xi10, exC := xj10, veC := xk10, tyC := xl10, mC := xm10, sup := super_mk xb10 xB10 xC10 xn10, st := xo10, top := xp10, fn := ⟨_, _, _, _, _, _, _, _, _, _, _, _, _, _, _, _, _, _, _, _, _, _, _, _, _, _, xq10, xr10, by decide, by decide, fun s u v => .of_eq rfl, ⟨_, _, _, _, _, _, xs10, xt10, xu10⟩, _, _, _, xv10⟩ },
    C_NoLines := C11, g_NoLines := PySem.W.mg_of X G xa11, q_NoLines := xd11, k_NoLines := xi11, s_NoLines := xj11, t_NoLines := xl11,
    C_NoMatch := C12, g_NoMatch := PySem.W.mg_of X G xa12, q_NoMatch := xd12, k_NoMatch := xi12, s_NoMatch := xj12, t_NoMatch := xl12,
    C_NoMessage := C13, g_NoMessage := PySem.W.mg_of X G xa13, I_NoMessage := I13, xf_NoMessage := ⟨xw13, xx13, xj13, xy13⟩, X_NoMessage := { fn0 := fname_number, gC := PySem.W.mg_of X G xa13, ms := PySem.W.mg_none_of X G xz13, cls := ⟨_, _, _, _, _, _, _, _, _, _, _, _, _, _, _, xb13, xc13⟩, ini := excInit_mk xb13 xd13, sa := xe13, noN := xf13, iC := xg13, tC := xh13, kC := xi13, exC := xj13, veC := xk13, tyC := xl13, mC := xm13, sup := super_mk xb13 xB13 xC13 xn13, st := xo13, top := xp13, fn := ⟨_, _, _, _, _, _, _, _, _, _, _, _, _, _, _, _, _, _, _, _, _, _, _, _, _, _, xq13, xr13, by decide, by decide, fun s u v => .of_eq rfl, ⟨_, _, _, _, _, _, xs13, xt13, xu13⟩, _, _, _, xv13⟩ },
    C_NoName := C14, g_NoName := PySem.W.mg_of X G xa14, q_NoName := xd14, k_NoName := xi14, s_NoName := xj14, t_NoName := xl14,
    C_NoNumber := C15, g_NoNumber := PySem.W.mg_of X G xa15, q_NoNumber := xd15, k_NoNumber := xi15, s_NoNumber := xj15, t_NoNumber := xl15,
    C_NoPlan := C16, g_NoPlan := PySem.W.mg_of X G xa16, q_NoPlan := xd16, k_NoPlan := xi16, s_NoPlan := xj16, t_NoPlan := xl16,
    C_NoPower := C17, g_NoPower := PySem.W.mg_of X G xa17, q_NoPower := xd17, k_NoPower := xi17, s_NoPower := xj17, t_NoPower := xl17,
    C_NoProgram := C18, g_NoProgram := PySem.W.mg_of X G xa18, q_NoProgram := xd18, k_NoProgram := xi18, s_NoProgram := xj18, t_NoProgram := xl18,
    C_NoSizes := C19, g_NoSizes := PySem.W.mg_of X G xa19, q_NoSizes := xd19, k_NoSizes := xi19, s_NoSizes := xj19, t_NoSizes := xl19,
    C_NoSpread := C20, g_NoSpread := PySem.W.mg_of X G xa20, q_NoSpread := xd20, k_NoSpread := xi20, s_NoSpread := xj20, t_NoSpread := xl20,
    C_NoSpreads := C21, g_NoSpreads := PySem.W.mg_of X G xa21, q_NoSpreads := xd21, k_NoSpreads := xi21, s_NoSpreads := xj21, t_NoSpreads := xl21,
    C_NoTable := C22, g_NoTable := PySem.W.mg_of X G xa22, q_NoTable := xd22, k_NoTable := xi22, s_NoTable := xj22, t_NoTable := xl22,
    C_NoTables := C23, g_NoTables := PySem.W.mg_of X G xa23, q_NoTables := xd23, k_NoTables := xi23, s_NoTables := xj23, t_NoTables := xl23,
    C_NoUndo := C24, g_NoUndo := PySem.W.mg_of X G xa24, q_NoUndo := xd24, k_NoUndo := xi24, s_NoUndo := xj24, t_NoUndo := xl24,
    C_NoWish := C25, g_NoWish := PySem.W.mg_of X G xa25, q_NoWish := xd25, k_NoWish := xi25, s_NoWish := xj25, t_NoWish := xl25,
    C_NoWork := C26, g_NoWork := PySem.W.mg_of X G xa26, q_NoWork := xd26, k_NoWork := xi26, s_NoWork := xj26, t_NoWork := xl26,
    C_NoWorker := C27, g_NoWorker := PySem.W.mg_of X G xa27, q_NoWorker := xd27, k_NoWorker := xi27, s_NoWorker := xj27, t_NoWorker := xl27,
    C_NotTree := C28, g_NotTree := PySem.W.mg_of X G xa28, I_NotTree := I28, xf_NotTree := ⟨xw28, xx28, xj28, xy28⟩, X_NotTree := { fn0 := fname_name, gC := PySem.W.mg_of X G xa28, ms := PySem.W.mg_none_of X G xz28, cls := ⟨_, _, _, _, _, _, _, _, _, _, _, _, _, _, _, xb28, xc28⟩, ini := excInit_mk xb28 xd28, sa := xe28, noN := xf28, iC := xg28, tC := xh28, kC := xi28, exC := xj28, veC := xk28, tyC := xl28, mC := xm28, sup := super_mk xb28 xB28 xC28 xn28, st := xo28, top := xp28, fn := ⟨_, _, _, _, _, _, _, _, _, _, _, _, _, _, _, _, _, _, _, _, _, _, _, _, _, _, xq28, xr28, by decide, by decide, fun s u v => .of_eq rfl, ⟨_, _, _, _, _, _, xs28, xt28, xu28⟩, _, _, _, xv28⟩ },
    C_SpreadError := C29, g_SpreadError := PySem.W.mg_of X G xa29, q_SpreadError := xd29, k_SpreadError := xi29, s_SpreadError := xj29, t_SpreadError := xl29,
    C_TooGreat := C30, g_TooGreat := PySem.W.mg_of X G xa30, q_TooGreat := xd30, k_TooGreat := xi30, s_TooGreat := xj30, t_TooGreat := xl30,
    C_Unfit := C31, g_Unfit := PySem.W.mg_of X G xa31, I_Unfit := I31, xf_Unfit := ⟨xw31, xx31, xj31, xy31⟩, X_Unfit := { fn0 := fname_fault, gC := PySem.W.mg_of X G xa31, ms := PySem.W.mg_none_of X G xz31, cls := ⟨_, _, _, _, _, _, _, _, _, _, _, _, _, _, _, xb31, xc31⟩, ini := excInit_mk xb31 xd31, sa := xe31, noN := xf31, iC := xg31, tC := xh31, kC := xi31, exC := xj31, veC := xk31, tyC := xl31, mC := xm31, sup := super_mk xb31 xB31 xC31 xn31, st := xo31, top := xp31, fn := ⟨_, _, _, _, _, _, _, _, _, _, _, _, _, _, _, _, _, _, _, _, _, _, _, _, _, _, xq31, xr31, by decide, by decide, fun s u v => .of_eq rfl, ⟨_, _, _, _, _, _, xs31, xt31, xu31⟩, _, _, _, xv31⟩ },
    exAll := va,
    n_Gone := vn0,
    n_NoField := vn1,
    n_NoForm := vn2,
    n_NoGrid := vn3,
    n_NoIndex := vn4,
    n_NoKeeping := vn5,
    n_NoKeepings := vn6,
    n_NoKeeps := vn7,
    n_NoLead := vn8,
    n_NoLetters := vn9,
    n_NoLine := vn10,
    n_NoLines := vn11,
    n_NoMatch := vn12,
    n_NoMessage := vn13,
    n_NoName := vn14,
    n_NoNumber := vn15,
    n_NoPlan := vn16,
    n_NoPower := vn17,
    n_NoProgram := vn18,
    n_NoSizes := vn19,
    n_NoSpread := vn20,
    n_NoSpreads := vn21,
    n_NoTable := vn22,
    n_NoTables := vn23,
    n_NoUndo := vn24,
    n_NoWish := vn25,
    n_NoWork := vn26,
    n_NoWorker := vn27,
    n_NotTree := vn28,
    n_TooGreat := vn30,
    n_Unfit := vn31,
    i_Gone := vi0,
    i_NoField := vi1,
    i_NoForm := vi2,
    i_NoGrid := vi3,
    i_NoIndex := vi4,
    i_NoKeeping := vi5,
    i_NoKeepings := vi6,
    i_NoKeeps := vi7,
    i_NoLead := vi8,
    i_NoLetters := vi9,
    i_NoLine := vi10,
    i_NoLines := vi11,
    i_NoMatch := vi12,
    i_NoMessage := vi13,
    i_NoName := vi14,
    i_NoNumber := vi15,
    i_NoPlan := vi16,
    i_NoPower := vi17,
    i_NoProgram := vi18,
    i_NoSizes := vi19,
    i_NoSpread := vi20,
    i_NoSpreads := vi21,
    i_NoTable := vi22,
    i_NoTables := vi23,
    i_NoUndo := vi24,
    i_NoWish := vi25,
    i_NoWork := vi26,
    i_NoWorker := vi27,
    i_NotTree := vi28,
    i_SpreadError := vi29,
    i_TooGreat := vi30,
    i_Unfit := vi31,
    i_VE := vVE,
    af_Gone := vf0,
    af_NoLead := vf8,
    af_NoLine := vf10,
    af_NoMessage := vf13,
    af_NotTree := vf28,
    af_Unfit := vf31 }
  exact ⟨_, fun s v => .of_eq rfl, fun base _ _ => ok_law (P := l.prog) (w := w) (base := base) T⟩
end Lw
open PySem PySem.W PyProof.Rows
theorem PySem.Challenge.cw_gridspread_k75_errors_by_hand_holds : PySem.Challenge.rw_gridspread_k75_errors_by_hand.Holds := by
  w_on; o_law; k_head; (case hw => w_witness2)
  k_fill
  refine Fx.walk_fx (l := PySem.Challenge.rw_gridspread_k75_errors_by_hand) (n := 63) (k := 4) (x := "_law_script") (F := Lw.F_law) rfl (by decide) rfl ⟨rfl, by decide, by decide⟩ (fun w h Y => PySem.W.kIn_of Y) ?F Lw.law_true
  case F =>
    intro w mg fa h KX G hmg
    refine' Lw.all_mk KX G hmg ?a0 ?l0 ?c0 ?k0 ?a1 ?l1 ?c1 ?k1 ?a2 ?l2 ?c2 ?k2 ?a3 ?l3 ?c3 ?k3 ?a4 ?l4 ?c4 ?k4 ?a5 ?l5 ?c5 ?k5 ?z0 ?z1 ?z2 ?z3 ?z4 ?z5 ?z6 ?z7 ?xa0 ?xz0 ?xb0 ?xc0 ?xd0 ?xe0 ?xf0 ?xg0 ?xh0 ?xi0 ?xj0 ?xk0 ?xl0 ?xm0 ?xA0 ?xB0 ?xC0 ?xn0 ?xo0 ?xp0 ?xq0 ?xr0 ?xs0 ?xt0 ?xu0 ?xv0 ?xw0 ?xx0 ?xy0 ?xa1 ?xd1 ?xi1 ?xj1 ?xl1 ?xa2 ?xd2 ?xi2 ?xj2 ?xl2 ?xa3 ?xd3 ?xi3 ?xj3 ?xl3 ?xa4 ?xd4 ?xi4 ?xj4 ?xl4 ?xa5 ?xd5 ?xi5 ?xj5 ?xl5 ?xa6 ?xd6 ?xi6 ?xj6 ?xl6 ?xa7 ?xd7 ?xi7 ?xj7 ?xl7 ?xa8 ?xz8 ?xb8 ?xc8 ?xd8 ?xe8 ?xf8 ?xg8 ?xh8 ?xi8 ?xj8 ?xk8 ?xl8 ?xm8 ?xA8 ?xB8 ?xC8 ?xn8 ?xo8 ?xp8 ?xq8 ?xr8 ?xs8 ?xt8 ?xu8 ?xv8 ?xw8 ?xx8 ?xy8 ?xa9 ?xd9 ?xi9 ?xj9 ?xl9 ?xa10 ?xz10 ?xb10 ?xc10 ?xd10 ?xe10 ?xf10 ?xg10 ?xh10 ?xi10 ?xj10 ?xk10 ?xl10 ?xm10 ?xA10 ?xB10 ?xC10 ?xn10 ?xo10 ?xp10 ?xq10 ?xr10 ?xs10 ?xt10 ?xu10 ?xv10 ?xw10 ?xx10 ?xy10 ?xa11 ?xd11 ?xi11 ?xj11 ?xl11 ?xa12 ?xd12 ?xi12 ?xj12 ?xl12 ?xa13 ?xz13 ?xb13 ?xc13 ?xd13 ?xe13 ?xf13 ?xg13 ?xh13 ?xi13 ?xj13 ?xk13 ?xl13 ?xm13 ?xA13 ?xB13 ?xC13 ?xn13 ?xo13 ?xp13 ?xq13 ?xr13 ?xs13 ?xt13 ?xu13 ?xv13 ?xw13 ?xx13 ?xy13 ?xa14 ?xd14 ?xi14 ?xj14 ?xl14 ?xa15 ?xd15 ?xi15 ?xj15 ?xl15 ?xa16 ?xd16 ?xi16 ?xj16 ?xl16 ?xa17 ?xd17 ?xi17 ?xj17 ?xl17 ?xa18 ?xd18 ?xi18 ?xj18 ?xl18 ?xa19 ?xd19 ?xi19 ?xj19 ?xl19 ?xa20 ?xd20 ?xi20 ?xj20 ?xl20 ?xa21 ?xd21 ?xi21 ?xj21 ?xl21 ?xa22 ?xd22 ?xi22 ?xj22 ?xl22 ?xa23 ?xd23 ?xi23 ?xj23 ?xl23 ?xa24 ?xd24 ?xi24 ?xj24 ?xl24 ?xa25 ?xd25 ?xi25 ?xj25 ?xl25 ?xa26 ?xd26 ?xi26 ?xj26 ?xl26 ?xa27 ?xd27 ?xi27 ?xj27 ?xl27 ?xa28 ?xz28 ?xb28 ?xc28 ?xd28 ?xe28 ?xf28 ?xg28 ?xh28 ?xi28 ?xj28 ?xk28 ?xl28 ?xm28 ?xA28 ?xB28 ?xC28 ?xn28 ?xo28 ?xp28 ?xq28 ?xr28 ?xs28 ?xt28 ?xu28 ?xv28 ?xw28 ?xx28 ?xy28 ?xa29 ?xd29 ?xi29 ?xj29 ?xl29 ?xa30 ?xd30 ?xi30 ?xj30 ?xl30 ?xa31 ?xz31 ?xb31 ?xc31 ?xd31 ?xe31 ?xf31 ?xg31 ?xh31 ?xi31 ?xj31 ?xk31 ?xl31 ?xm31 ?xA31 ?xB31 ?xC31 ?xn31 ?xo31 ?xp31 ?xq31 ?xr31 ?xs31 ?xt31 ?xu31 ?xv31 ?xw31 ?xx31 ?xy31 ?va ?vn0 ?vn1 ?vn2 ?vn3 ?vn4 ?vn5 ?vn6 ?vn7 ?vn8 ?vn9 ?vn10 ?vn11 ?vn12 ?vn13 ?vn14 ?vn15 ?vn16 ?vn17 ?vn18 ?vn19 ?vn20 ?vn21 ?vn22 ?vn23 ?vn24 ?vn25 ?vn26 ?vn27 ?vn28 ?vn30 ?vn31 ?vi0 ?vi1 ?vi2 ?vi3 ?vi4 ?vi5 ?vi6 ?vi7 ?vi8 ?vi9 ?vi10 ?vi11 ?vi12 ?vi13 ?vi14 ?vi15 ?vi16 ?vi17 ?vi18 ?vi19 ?vi20 ?vi21 ?vi22 ?vi23 ?vi24 ?vi25 ?vi26 ?vi27 ?vi28 ?vi29 ?vi30 ?vi31 ?vVE ?vf0 ?vf8 ?vf10 ?vf13 ?vf28 ?vf31
    (case a0 => k_is); (case l0 => k_is); (case c0 => k_is); (case k0 => k_is); (case a1 => k_is); (case l1 => k_is); (case c1 => k_is); (case k1 => k_is); (case a2 => k_is); (case l2 => k_is); (case c2 => k_is); (case k2 => k_is); (case a3 => k_is); (case l3 => k_is); (case c3 => k_is); (case k3 => k_is); (case a4 => k_is); (case l4 => k_is); (case c4 => k_is); (case k4 => k_is); (case a5 => k_is); (case l5 => k_is); (case c5 => k_is); (case k5 => k_is); (case z0 => k_is); (case z1 => k_is); (case z2 => k_is); (case z3 => k_is); (case z4 => k_is); (case z5 => k_is); (case z6 => k_is); (case z7 => k_is); (case xa0 => k_is); (case xz0 => k_is); (case xb0 => k_is); (case xc0 => first | rfl | decide +kernel); (case xd0 => first | rfl | decide +kernel); (case xe0 => k_is); (case xf0 => k_is); (case xg0 => k_is); (case xh0 => k_is); (case xi0 => k_is); (case xj0 => k_is); (case xk0 => k_is); (case xl0 => k_is); (case xm0 => k_is); (case xA0 => k_is); (case xB0 => k_is); (case xC0 => rfl); (case xn0 => k_is); (case xo0 => k_is); (case xp0 => first | rfl | decide +kernel); (case xq0 => k_is); (case xr0 => k_is); (case xs0 => k_is); (case xt0 => rfl); (case xu0 => first | rfl | decide +kernel); (case xv0 => k_is); (case xw0 => k_is); (case xx0 => k_is); (case xy0 => k_is); (case xa1 => k_is); (case xd1 => kernel_rfl); (case xi1 => k_is); (case xj1 => k_is); (case xl1 => k_is); (case xa2 => k_is); (case xd2 => kernel_rfl); (case xi2 => k_is); (case xj2 => k_is); (case xl2 => k_is); (case xa3 => k_is); (case xd3 => kernel_rfl); (case xi3 => k_is); (case xj3 => k_is); (case xl3 => k_is); (case xa4 => k_is); (case xd4 => kernel_rfl); (case xi4 => k_is); (case xj4 => k_is); (case xl4 => k_is); (case xa5 => k_is); (case xd5 => kernel_rfl); (case xi5 => k_is); (case xj5 => k_is); (case xl5 => k_is); (case xa6 => k_is); (case xd6 => kernel_rfl); (case xi6 => k_is); (case xj6 => k_is); (case xl6 => k_is); (case xa7 => k_is); (case xd7 => kernel_rfl); (case xi7 => k_is); (case xj7 => k_is); (case xl7 => k_is); (case xa8 => k_is); (case xz8 => k_is); (case xb8 => k_is); (case xc8 => first | rfl | decide +kernel); (case xd8 => first | rfl | decide +kernel); (case xe8 => k_is); (case xf8 => k_is); (case xg8 => k_is); (case xh8 => k_is); (case xi8 => k_is); (case xj8 => k_is); (case xk8 => k_is); (case xl8 => k_is); (case xm8 => k_is); (case xA8 => k_is); (case xB8 => k_is); (case xC8 => rfl); (case xn8 => k_is); (case xo8 => k_is); (case xp8 => first | rfl | decide +kernel); (case xq8 => k_is); (case xr8 => k_is); (case xs8 => k_is); (case xt8 => rfl); (case xu8 => first | rfl | decide +kernel); (case xv8 => k_is); (case xw8 => k_is); (case xx8 => k_is); (case xy8 => k_is); (case xa9 => k_is); (case xd9 => kernel_rfl); (case xi9 => k_is); (case xj9 => k_is); (case xl9 => k_is); (case xa10 => k_is); (case xz10 => k_is); (case xb10 => k_is); (case xc10 => first | rfl | decide +kernel); (case xd10 => first | rfl | decide +kernel); (case xe10 => k_is); (case xf10 => k_is); (case xg10 => k_is); (case xh10 => k_is); (case xi10 => k_is); (case xj10 => k_is); (case xk10 => k_is); (case xl10 => k_is); (case xm10 => k_is); (case xA10 => k_is); (case xB10 => k_is); (case xC10 => rfl); (case xn10 => k_is); (case xo10 => k_is); (case xp10 => first | rfl | decide +kernel); (case xq10 => k_is); (case xr10 => k_is); (case xs10 => k_is); (case xt10 => rfl); (case xu10 => first | rfl | decide +kernel); (case xv10 => k_is); (case xw10 => k_is); (case xx10 => k_is); (case xy10 => k_is); (case xa11 => k_is); (case xd11 => kernel_rfl); (case xi11 => k_is); (case xj11 => k_is); (case xl11 => k_is); (case xa12 => k_is); (case xd12 => kernel_rfl); (case xi12 => k_is); (case xj12 => k_is); (case xl12 => k_is); (case xa13 => k_is); (case xz13 => k_is); (case xb13 => k_is); (case xc13 => first | rfl | decide +kernel); (case xd13 => first | rfl | decide +kernel); (case xe13 => k_is); (case xf13 => k_is); (case xg13 => k_is); (case xh13 => k_is); (case xi13 => k_is); (case xj13 => k_is); (case xk13 => k_is); (case xl13 => k_is); (case xm13 => k_is); (case xA13 => k_is); (case xB13 => k_is); (case xC13 => rfl); (case xn13 => k_is); (case xo13 => k_is); (case xp13 => first | rfl | decide +kernel); (case xq13 => k_is); (case xr13 => k_is); (case xs13 => k_is); (case xt13 => rfl); (case xu13 => first | rfl | decide +kernel); (case xv13 => k_is); (case xw13 => k_is); (case xx13 => k_is); (case xy13 => k_is); (case xa14 => k_is); (case xd14 => kernel_rfl); (case xi14 => k_is); (case xj14 => k_is); (case xl14 => k_is); (case xa15 => k_is); (case xd15 => kernel_rfl); (case xi15 => k_is); (case xj15 => k_is); (case xl15 => k_is); (case xa16 => k_is); (case xd16 => kernel_rfl); (case xi16 => k_is); (case xj16 => k_is); (case xl16 => k_is); (case xa17 => k_is); (case xd17 => kernel_rfl); (case xi17 => k_is); (case xj17 => k_is); (case xl17 => k_is); (case xa18 => k_is); (case xd18 => kernel_rfl); (case xi18 => k_is); (case xj18 => k_is); (case xl18 => k_is); (case xa19 => k_is); (case xd19 => kernel_rfl); (case xi19 => k_is); (case xj19 => k_is); (case xl19 => k_is); (case xa20 => k_is); (case xd20 => kernel_rfl); (case xi20 => k_is); (case xj20 => k_is); (case xl20 => k_is); (case xa21 => k_is); (case xd21 => kernel_rfl); (case xi21 => k_is); (case xj21 => k_is); (case xl21 => k_is); (case xa22 => k_is); (case xd22 => kernel_rfl); (case xi22 => k_is); (case xj22 => k_is); (case xl22 => k_is); (case xa23 => k_is); (case xd23 => kernel_rfl); (case xi23 => k_is); (case xj23 => k_is); (case xl23 => k_is); (case xa24 => k_is); (case xd24 => kernel_rfl); (case xi24 => k_is); (case xj24 => k_is); (case xl24 => k_is); (case xa25 => k_is); (case xd25 => kernel_rfl); (case xi25 => k_is); (case xj25 => k_is); (case xl25 => k_is); (case xa26 => k_is); (case xd26 => kernel_rfl); (case xi26 => k_is); (case xj26 => k_is); (case xl26 => k_is); (case xa27 => k_is); (case xd27 => kernel_rfl); (case xi27 => k_is); (case xj27 => k_is); (case xl27 => k_is); (case xa28 => k_is); (case xz28 => k_is); (case xb28 => k_is); (case xc28 => first | rfl | decide +kernel); (case xd28 => first | rfl | decide +kernel); (case xe28 => k_is); (case xf28 => k_is); (case xg28 => k_is); (case xh28 => k_is); (case xi28 => k_is); (case xj28 => k_is); (case xk28 => k_is); (case xl28 => k_is); (case xm28 => k_is); (case xA28 => k_is); (case xB28 => k_is); (case xC28 => rfl); (case xn28 => k_is); (case xo28 => k_is); (case xp28 => first | rfl | decide +kernel); (case xq28 => k_is); (case xr28 => k_is); (case xs28 => k_is); (case xt28 => rfl); (case xu28 => first | rfl | decide +kernel); (case xv28 => k_is); (case xw28 => k_is); (case xx28 => k_is); (case xy28 => k_is); (case xa29 => k_is); (case xd29 => kernel_rfl); (case xi29 => k_is); (case xj29 => k_is); (case xl29 => k_is); (case xa30 => k_is); (case xd30 => kernel_rfl); (case xi30 => k_is); (case xj30 => k_is); (case xl30 => k_is); (case xa31 => k_is); (case xz31 => k_is); (case xb31 => k_is); (case xc31 => first | rfl | decide +kernel); (case xd31 => first | rfl | decide +kernel); (case xe31 => k_is); (case xf31 => k_is); (case xg31 => k_is); (case xh31 => k_is); (case xi31 => k_is); (case xj31 => k_is); (case xk31 => k_is); (case xl31 => k_is); (case xm31 => k_is); (case xA31 => k_is); (case xB31 => k_is); (case xC31 => rfl); (case xn31 => k_is); (case xo31 => k_is); (case xp31 => first | rfl | decide +kernel); (case xq31 => k_is); (case xr31 => k_is); (case xs31 => k_is); (case xt31 => rfl); (case xu31 => first | rfl | decide +kernel); (case xv31 => k_is); (case xw31 => k_is); (case xx31 => k_is); (case xy31 => k_is); (case va => kernel_rfl); (case vn0 => kernel_rfl); (case vn1 => kernel_rfl); (case vn2 => kernel_rfl); (case vn3 => kernel_rfl); (case vn4 => kernel_rfl); (case vn5 => kernel_rfl); (case vn6 => kernel_rfl); (case vn7 => kernel_rfl); (case vn8 => kernel_rfl); (case vn9 => kernel_rfl); (case vn10 => kernel_rfl); (case vn11 => kernel_rfl); (case vn12 => kernel_rfl); (case vn13 => kernel_rfl); (case vn14 => kernel_rfl); (case vn15 => kernel_rfl); (case vn16 => kernel_rfl); (case vn17 => kernel_rfl); (case vn18 => kernel_rfl); (case vn19 => kernel_rfl); (case vn20 => kernel_rfl); (case vn21 => kernel_rfl); (case vn22 => kernel_rfl); (case vn23 => kernel_rfl); (case vn24 => kernel_rfl); (case vn25 => kernel_rfl); (case vn26 => kernel_rfl); (case vn27 => kernel_rfl); (case vn28 => kernel_rfl); (case vn30 => kernel_rfl); (case vn31 => kernel_rfl); (case vi0 => kernel_rfl); (case vi1 => kernel_rfl); (case vi2 => kernel_rfl); (case vi3 => kernel_rfl); (case vi4 => kernel_rfl); (case vi5 => kernel_rfl); (case vi6 => kernel_rfl); (case vi7 => kernel_rfl); (case vi8 => kernel_rfl); (case vi9 => kernel_rfl); (case vi10 => kernel_rfl); (case vi11 => kernel_rfl); (case vi12 => kernel_rfl); (case vi13 => kernel_rfl); (case vi14 => kernel_rfl); (case vi15 => kernel_rfl); (case vi16 => kernel_rfl); (case vi17 => kernel_rfl); (case vi18 => kernel_rfl); (case vi19 => kernel_rfl); (case vi20 => kernel_rfl); (case vi21 => kernel_rfl); (case vi22 => kernel_rfl); (case vi23 => kernel_rfl); (case vi24 => kernel_rfl); (case vi25 => kernel_rfl); (case vi26 => kernel_rfl); (case vi27 => kernel_rfl); (case vi28 => kernel_rfl); (case vi29 => kernel_rfl); (case vi30 => kernel_rfl); (case vi31 => kernel_rfl); (case vVE => kernel_rfl); (case vf0 => k_is); (case vf8 => k_is); (case vf10 => k_is); (case vf13 => k_is); (case vf28 => k_is); (case vf31 => k_is)
