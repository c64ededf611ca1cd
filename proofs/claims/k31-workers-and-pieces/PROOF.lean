import PyProof.Rows.All
import Wide.All
import OpenK.AllK
import Wide.FinOn
import HandS.ForMost
import HandS.Wide
import HandS.IsInst
import HandS.TupAny
import HandS.Zip
import HandS.Conv
import HandS.TupLen
import HandS.Deep
import HandS.RaiseMore
import HandS.Ends
import PySem.Challenge.RW_gridspread_k31_workers_and_pieces
set_option Elab.async false
set_option linter.all false
set_option maxRecDepth 100000
set_option maxHeartbeats 4000000
/-! Values as data: what a piece of Python gives, as a function on data. -/
namespace Fx
open PySem PySem.Spec PyProof.Rows L2

abbrev D := PyData
inductive Sl where
  | fz (d : D)
  | ow (d : D)
def Sl.d : Sl → D
  | .fz d => d
  | .ow d => d
abbrev Rho := List (Option Sl)
abbrev M (α : Type) := Rho → Option (α × Rho)

def keyD : Key → D
  | .inl i => .int i
  | .inr x => .str x
def keysD (l : List Key) : D := .tuple (l.map keyD)

/-- a list that is read: tracked, or one of the module's own -/
def SqX (K : PySem.W.Frag) (G : Hp) (a : Addr) (xs : List V) : Prop :=
  Rd G a (.lst xs) ∨ ∃ (its : Array Value) (n : Nat), K.lookup a = some { cls := .type "list", data := .seq its n } ∧ its.size ≤ sizeLine ∧ Vals xs its.toList
theorem SqX.sql {K : PySem.W.Frag} {G : Hp} {a : Addr} {xs : List V} (h : SqX K G a xs) : SqL K G a xs := by
  rcases h with h | ⟨its, n, e, z, r⟩
  · exact .inl h
  · exact .inr ⟨_, its, n, e, rfl, rfl, rfl, z, r⟩
theorem SqX.of {K : PySem.W.Frag} {G : Hp} {a : Addr} {xs : List V} (h : G a = some (.lst xs)) : SqX K G a xs := .inl (.inl h)
mutual
inductive Rp (K : PySem.W.Frag) (G : Hp) : V → D → Prop
  | non : Rp K G .non .none
  | bl (b : Bool) : Rp K G (.bl b) (.bool b)
  | int (i : Int) : Rp K G (.int i) (.int i)
  | str (x : Str) : Rp K G (.str x) (.str x)
  | lst {a : Addr} {xs : List V} {ds : List D} : SqX K G a xs → RpAll K G xs ds → Rp K G (.ref a) (.list ds)
  | tup {a : Addr} {xs : List V} {ds : List D} : SqT K G a xs → RpAll K G xs ds → Rp K G (.ref a) (.tuple ds)
  | dK {a : Addr} {ks : List (Key × V)} {kvs : List (D × D)} : Rd G a (.dK ks) → kvs.map (·.1) = ks.map (fun p => keyD p.1) → RpAll K G (ks.map (·.2)) (kvs.map (·.2)) → Rp K G (.ref a) (.dict kvs)
  | dT {a : Addr} {ks : List (List Key × V)} {kvs : List (D × D)} : Rd G a (.dT ks) → kvs.map (·.1) = ks.map (fun p => keysD p.1) → RpAll K G (ks.map (·.2)) (kvs.map (·.2)) → Rp K G (.ref a) (.dict kvs)
inductive RpAll (K : PySem.W.Frag) (G : Hp) : List V → List D → Prop
  | nil : RpAll K G [] []
  | cons {v : V} {vs : List V} {d : D} {ds : List D} : Rp K G v d → RpAll K G vs ds → RpAll K G (v :: vs) (d :: ds)
end

/-- what may be read stays to be read -/
def RLe (G G' : Hp) : Prop := ∀ a u, Rd G a u → (∀ o w, u ≠ .frz o w) → Rd G' a u
theorem RLe.of {G G' : Hp} (h : Same G G') : RLe G G' := fun a u r _ => by
  rcases r with r | ⟨o, r⟩
  · exact .inl (h _ _ r)
  · exact .inr ⟨o, h _ _ r⟩
section
variable {K : PySem.W.Frag} {G G' : Hp}
theorem RLe.sql {a : Addr} {xs : List V} (e : RLe G G') (h : SqL K G a xs) : SqL K G' a xs := by
  rcases h with h | h
  · exact .inl (e _ _ h fun _ _ => nofun)
  · exact .inr h
theorem RLe.sqx {a : Addr} {xs : List V} (e : RLe G G') (h : SqX K G a xs) : SqX K G' a xs := by
  rcases h with h | h
  · exact .inl (e _ _ h fun _ _ => nofun)
  · exact .inr h
theorem RLe.sqt {a : Addr} {xs : List V} (e : RLe G G') (h : SqT K G a xs) : SqT K G' a xs := by
  rcases h with h | h
  · exact .inl (e _ _ h fun _ _ => nofun)
  · exact .inr h
mutual
theorem Rp.le (e : RLe G G') : ∀ {v : V} {d : D}, Rp K G v d → Rp K G' v d
  | _, _, .non => .non
  | _, _, .bl b => .bl b
  | _, _, .int b => .int b
  | _, _, .str b => .str b
  | _, _, .lst h t => .lst (e.sqx h) (RpAll.le e t)
  | _, _, .tup h t => .tup (e.sqt h) (RpAll.le e t)
  | _, _, .dK h k t => .dK (e _ _ h fun _ _ => nofun) k (RpAll.le e t)
  | _, _, .dT h k t => .dT (e _ _ h fun _ _ => nofun) k (RpAll.le e t)
theorem RpAll.le (e : RLe G G') : ∀ {vs : List V} {ds : List D}, RpAll K G vs ds → RpAll K G' vs ds
  | _, _, .nil => .nil
  | _, _, .cons h t => .cons (Rp.le e h) (RpAll.le e t)
end
theorem Rp.mono (e : Same G G') {v : V} {d : D} (h : Rp K G v d) : Rp K G' v d := h.le (.of e)
theorem RpAll.mono (e : Same G G') {v : List V} {d : List D} (h : RpAll K G v d) : RpAll K G' v d := h.le (.of e)
theorem RpAll.length : ∀ {vs : List V} {ds : List D}, RpAll K G vs ds → vs.length = ds.length
  | _, _, .nil => rfl
  | _, _, .cons _ t => by simp [RpAll.length t]
theorem RpAll.get : ∀ {vs : List V} {ds : List D} {i : Nat} {v : V}, RpAll K G vs ds → vs[i]? = some v → ∃ d, ds[i]? = some d ∧ Rp K G v d
  | _, _, _, _, .nil, e => by simp at e
  | _, _, 0, _, .cons r _, e => by simp at e; subst e; exact ⟨_, rfl, r⟩
  | _, _, i + 1, x, .cons _ t, e => by
    obtain ⟨u, h1, h2⟩ := RpAll.get (i := i) (v := x) t (by simpa using e)
    exact ⟨u, by simpa using h1, h2⟩
theorem RpAll.getD : ∀ {vs : List V} {ds : List D} {i : Nat} {d : D}, RpAll K G vs ds → ds[i]? = some d → ∃ v, vs[i]? = some v ∧ Rp K G v d
  | _, _, _, _, .nil, e => by simp at e
  | _, _, 0, _, .cons r _, e => by simp at e; subst e; exact ⟨_, rfl, r⟩
  | _, _, i + 1, x, .cons _ t, e => by
    obtain ⟨u, h1, h2⟩ := RpAll.getD (i := i) (d := x) t (by simpa using e)
    exact ⟨u, by simpa using h1, h2⟩
theorem RpAll.append : ∀ {vs ws : List V} {ds es : List D}, RpAll K G vs ds → RpAll K G ws es → RpAll K G (vs ++ ws) (ds ++ es)
  | _, _, _, _, .nil, s => s
  | _, _, _, _, .cons r t, s => .cons r (RpAll.append t s)
theorem RpAll.take : ∀ {vs : List V} {ds : List D} (n : Nat), RpAll K G vs ds → RpAll K G (vs.take n) (ds.take n)
  | _, _, 0, _ => .nil
  | _, _, _ + 1, .nil => .nil
  | _, _, n + 1, .cons r t => .cons r (RpAll.take n t)
theorem RpAll.drop : ∀ {vs : List V} {ds : List D} (n : Nat), RpAll K G vs ds → RpAll K G (vs.drop n) (ds.drop n)
  | _, _, 0, r => r
  | _, _, _ + 1, .nil => .nil
  | _, _, n + 1, .cons _ t => RpAll.drop n t
theorem RpAll.set {v : V} {d : D} (r : Rp K G v d) : ∀ {vs : List V} {ds : List D} (n : Nat), RpAll K G vs ds → RpAll K G (vs.set n v) (ds.set n d)
  | _, _, _, .nil => .nil
  | _, _, 0, .cons _ t => .cons r t
  | _, _, n + 1, .cons q t => .cons q (RpAll.set r n t)
theorem RpAll.one {v : V} {d : D} (r : Rp K G v d) : RpAll K G [v] [d] := .cons r .nil
theorem Rp.ref_of {a : Addr} {d : D} (h : Rp K G (.ref a) d) : (∃ ds, d = .list ds) ∨ (∃ ds, d = .tuple ds) ∨ ∃ kvs, d = .dict kvs := by
  cases h with
  | lst _ _ => exact .inl ⟨_, rfl⟩
  | tup _ _ => exact .inr (.inl ⟨_, rfl⟩)
  | dK _ _ _ => exact .inr (.inr ⟨_, rfl⟩)
  | dT _ _ _ => exact .inr (.inr ⟨_, rfl⟩)
theorem RpAll.ints : ∀ (ns : List Int), RpAll K G (ns.map V.int) (ns.map PyData.int)
  | [] => .nil
  | n :: ns => .cons (.int n) (RpAll.ints ns)
end

/-! ### owned containers -/
/-- at p, not frozen, stands the container d; its members are frozen -/
def Own (K : PySem.W.Frag) (G H : Hp) (p : Addr) : D → Prop
  | .list ds => ∃ xs, H p = some (.lst xs) ∧ RpAll K G xs ds
  | .dict kvs => (∃ ks, H p = some (.dK ks) ∧ kvs.map (·.1) = ks.map (fun q => keyD q.1) ∧ RpAll K G (ks.map (·.2)) (kvs.map (·.2))) ∨
      ∃ ks, H p = some (.dT ks) ∧ kvs.map (·.1) = ks.map (fun q => keysD q.1) ∧ RpAll K G (ks.map (·.2)) (kvs.map (·.2))
  | _ => False
section
variable {K : PySem.W.Frag} {G G' H H' : Hp} {p : Addr} {d : D}
theorem Own.there (h : Own K G H p d) : ∃ o, H p = some o := by
  cases d with
  | list ds => obtain ⟨xs, e, _⟩ := h; exact ⟨_, e⟩
  | dict kvs =>
    rcases h with ⟨ks, e, _⟩ | ⟨ks, e, _⟩
    · exact ⟨_, e⟩
    · exact ⟨_, e⟩
  | _ => exact h.elim
theorem Own.mono (e : Same G G') (hp : ∀ o, H p = some o → H' p = some o) (h : Own K G H p d) : Own K G' H' p d := by
  cases d with
  | list ds => obtain ⟨xs, q, r⟩ := h; exact ⟨xs, hp _ q, r.mono e⟩
  | dict kvs =>
    rcases h with ⟨ks, q, k, r⟩ | ⟨ks, q, k, r⟩
    · exact .inl ⟨ks, hp _ q, k, r.mono e⟩
    · exact .inr ⟨ks, hp _ q, k, r.mono e⟩
  | _ => exact h.elim
/-- frozen: it is data -/
theorem Own.frz (e : Same G G') (hp : ∀ o, H p = some o → G' p = some o) (h : Own K G H p d) : Rp K G' (.ref p) d := by
  cases d with
  | list ds => obtain ⟨xs, q, r⟩ := h; exact .lst (.of (hp _ q)) (r.mono e)
  | dict kvs =>
    rcases h with ⟨ks, q, k, r⟩ | ⟨ks, q, k, r⟩
    · exact .dK (.inl (hp _ q)) k (r.mono e)
    · exact .dT (.inl (hp _ q)) k (r.mono e)
  | _ => exact h.elim
end
def root (σ : L2.St) (ρ : Rho) (a : Addr) : Prop := ∃ (i : Nat) (d : D), σ[i]? = some (some (V.ref a)) ∧ ρ[i]? = some (some (Sl.ow d))
structure EnvR (K : PySem.W.Frag) (G H : Hp) (σ : L2.St) (ρ : Rho) : Prop where
  sub : Same G H
  len : ρ.length = σ.length
  fz : ∀ (i : Nat) (d : D), ρ[i]? = some (some (Sl.fz d)) → ∃ v, σ[i]? = some (some v) ∧ Rp K G v d
  ow : ∀ (i : Nat) (d : D), ρ[i]? = some (some (Sl.ow d)) → ∃ p, σ[i]? = some (some (V.ref p)) ∧ G p = none ∧ Own K G H p d
  ap : ∀ (i j : Nat) (d e : D) (p : Addr), ρ[i]? = some (some (Sl.ow d)) → ρ[j]? = some (some (Sl.ow e)) → σ[i]? = some (some (V.ref p)) → σ[j]? = some (some (V.ref p)) → i = j
/-- values alone: new objects, nothing changed -/
structure StepV (G H G' H' : Hp) : Prop where
  same : Same G G'
  sub : Same G' H'
  new : ∀ a o, G' a = some o → G a = some o ∨ H a = none
  keep : Same H H'
structure Stp (K : PySem.W.Frag) (σ : L2.St) (G H : Hp) (ρ : Rho) (G' H' : Hp) (ρ' : Rho) : Prop where
  env : EnvR K G' H' σ ρ'
  same : Same G G'
  new : ∀ a o, G' a = some o → G a = some o ∨ H a = none ∨ root σ ρ a
  keep : ∀ a o, H a = some o → ¬ root σ ρ a → H' a = some o
  roots : ∀ a, root σ ρ' a → root σ ρ a
  there : ∀ a, H' a = none → H a = none
/-- the value that came: frozen data, or a new container of one's own -/
def ResV (K : PySem.W.Frag) (G' H H' : Hp) (v : V) : Sl → Prop
  | .fz d => Rp K G' v d
  | .ow d => ∃ p, v = .ref p ∧ H p = none ∧ G' p = none ∧ Own K G' H' p d
section
variable {K : PySem.W.Frag} {G H G' H' G1 H1 G2 H2 : Hp} {σ : L2.St} {ρ ρ' ρ1 ρ2 : Rho}
theorem EnvR.root_own (E : EnvR K G H σ ρ) {a : Addr} (r : root σ ρ a) : G a = none ∧ ∃ d, Own K G H a d := by
  obtain ⟨i, d, e1, e2⟩ := r
  obtain ⟨p, q1, q2, q3⟩ := E.ow i d e2
  rw [e1] at q1
  cases q1
  exact ⟨q2, d, q3⟩
theorem EnvR.root_there (E : EnvR K G H σ ρ) {a : Addr} (r : root σ ρ a) : ∃ o, H a = some o :=
  let ⟨_, _, o⟩ := E.root_own r
  o.there
theorem EnvR.ext (E : EnvR K G H σ ρ) (S : StepV G H G' H') : EnvR K G' H' σ ρ := by
  refine ⟨S.sub, E.len, fun i d e => ?_, fun i d e => ?_, E.ap⟩
  · obtain ⟨v, q, r⟩ := E.fz i d e
    exact ⟨v, q, r.mono S.same⟩
  · obtain ⟨p, q1, q2, q3⟩ := E.ow i d e
    refine ⟨p, q1, ?_, q3.mono S.same fun o h => S.keep _ _ h⟩
    cases h : G' p with
    | none => rfl
    | some o =>
      rcases S.new p o h with z | z
      · rw [q2] at z; cases z
      · obtain ⟨u, hu⟩ := q3.there
        rw [hu] at z; cases z
theorem Stp.refl (E : EnvR K G H σ ρ) : Stp K σ G H ρ G H ρ := ⟨E, .refl _, fun _ _ h => .inl h, fun _ _ h _ => h, fun _ h => h, fun _ h => h⟩
theorem Stp.ofV (E : EnvR K G H σ ρ) (S : StepV G H G' H') : Stp K σ G H ρ G' H' ρ :=
  ⟨E.ext S, S.same, fun a o h => (S.new a o h).elim .inl fun z => .inr (.inl z), fun a o h _ => S.keep _ _ h, fun _ h => h, fun a h => S.keep.free h⟩
theorem Stp.trans (A : Stp K σ G H ρ G1 H1 ρ1) (E : EnvR K G H σ ρ) (B : Stp K σ G1 H1 ρ1 G2 H2 ρ2) : Stp K σ G H ρ G2 H2 ρ2 := by
  refine ⟨B.env, A.same.trans B.same, fun a o h => ?_, fun a o h n => ?_, fun a r => A.roots a (B.roots a r), fun a h => A.there a (B.there a h)⟩
  · rcases B.new a o h with z | z | z
    · exact A.new a o z
    · exact .inr (.inl (A.there a z))
    · exact .inr (.inr (A.roots a z))
  · exact B.keep a o (A.keep a o h n) fun r => n (A.roots a r)
theorem Stp.ext (A : Stp K σ G H ρ G1 H1 ρ1) (E : EnvR K G H σ ρ) (B : StepV G1 H1 G2 H2) : Stp K σ G H ρ G2 H2 ρ1 := A.trans E (.ofV A.env B)
theorem ResV.back {v : V} {r : Sl} (h : ResV K G' H1 H' v r) (t : ∀ a, H1 a = none → H a = none) : ResV K G' H H' v r := by
  cases r with
  | fz d => exact h
  | ow d => obtain ⟨p, e, n, q⟩ := h; exact ⟨p, e, t _ n, q⟩
/-- frozen where it stands -/
theorem ResV.frz {v : V} {r : Sl} (h : ResV K G' H H' v r) (E : EnvR K G H σ ρ) (S : Stp K σ G H ρ G' H' ρ') : ∃ G'', Stp K σ G H ρ G'' H' ρ' ∧ Rp K G'' v r.d ∧ Same G' G'' := by
  cases r with
  | fz d => exact ⟨G', S, h, .refl _⟩
  | ow d =>
    obtain ⟨p, rfl, n, g, ow⟩ := h
    obtain ⟨o, ho⟩ := ow.there
    have sm : Same G' (upd G' p o) := fun b u e => by rw [upd_ne (ne_of_none e g)]; exact e
    have nr : ¬ root σ ρ' p := fun r => by
      obtain ⟨u, hu⟩ := E.root_there (S.roots _ r)
      rw [n] at hu; cases hu
    refine ⟨upd G' p o, ⟨⟨fun b u e => ?_, S.env.len, fun i d e => ?_, fun i d e => ?_, S.env.ap⟩, S.same.trans sm, fun a u e => ?_, S.keep, S.roots, S.there⟩, ow.frz sm fun u e => ?_, sm⟩
    · by_cases hb : b = p
      · subst hb; rw [upd_same] at e; cases e; exact ho
      · rw [upd_ne hb] at e; exact S.env.sub _ _ e
    · obtain ⟨v, q, r⟩ := S.env.fz i d e
      exact ⟨v, q, r.mono sm⟩
    · obtain ⟨q, q1, q2, q3⟩ := S.env.ow i d e
      have hne : q ≠ p := fun z => nr ⟨i, d, by rw [← z]; exact q1, e⟩
      exact ⟨q, q1, by rw [upd_ne hne]; exact q2, q3.mono sm fun _ h => h⟩
    · by_cases hb : a = p
      · subst hb; exact .inr (.inl n)
      · rw [upd_ne hb] at e; exact S.new a u e
    · rw [ho] at e; cases e; exact upd_same
/-- an owned slot frozen -/
theorem EnvR.freeze (E : EnvR K G H σ ρ) {i : Nat} {d : D} (h : ρ[i]? = some (some (Sl.ow d))) : ∃ p G', σ[i]? = some (some (V.ref p)) ∧ Stp K σ G H ρ G' H (ρ.set i (some (.fz d))) ∧ Rp K G' (.ref p) d := by
  obtain ⟨p, e1, g, ow⟩ := E.ow i d h
  obtain ⟨o, ho⟩ := ow.there
  have sm : Same G (upd G p o) := fun b u e => by rw [upd_ne (ne_of_none e g)]; exact e
  have hi : i < ρ.length := (List.getElem?_eq_some_iff.mp h).1
  have rp : Rp K (upd G p o) (.ref p) d := ow.frz sm fun u e => by rw [ho] at e; cases e; exact upd_same
  have back : ∀ (j : Nat) (e : D), (ρ.set i (some (.fz d)))[j]? = some (some (Sl.ow e)) → j ≠ i ∧ ρ[j]? = some (some (Sl.ow e)) := fun j e q => by
    by_cases hj : j = i
    · subst hj; rw [List.getElem?_set_self hi] at q; cases q
    · rw [List.getElem?_set_ne (Ne.symm hj)] at q; exact ⟨hj, q⟩
  refine ⟨p, upd G p o, e1, ⟨⟨fun b u e => ?_, by simpa using E.len, fun j e q => ?_, fun j e q => ?_, fun j k e f q hj hk a b => ?_⟩, sm, fun a u e => ?_, fun a u e _ => e, fun a r => ?_, fun a e => e⟩, rp⟩
  · by_cases hb : b = p
    · subst hb; rw [upd_same] at e; cases e; exact ho
    · rw [upd_ne hb] at e; exact E.sub _ _ e
  · by_cases hj : j = i
    · subst hj
      rw [List.getElem?_set_self hi] at q
      cases q
      exact ⟨_, e1, rp⟩
    · rw [List.getElem?_set_ne (Ne.symm hj)] at q
      obtain ⟨v, q1, r⟩ := E.fz j e q
      exact ⟨v, q1, r.mono sm⟩
  · obtain ⟨hj, q'⟩ := back j e q
    obtain ⟨x, q1, q2, q3⟩ := E.ow j e q'
    have hne : x ≠ p := fun z => hj (E.ap j i e d p q' h (by rw [← z]; exact q1) e1)
    exact ⟨x, q1, by rw [upd_ne hne]; exact q2, q3.mono sm fun _ h => h⟩
  · exact E.ap j k e f q (back j e hj).2 (back k f hk).2 a b
  · by_cases hb : a = p
    · subst hb; exact .inr (.inr ⟨i, d, e1, h⟩)
    · rw [upd_ne hb] at e; exact .inl e
  · obtain ⟨j, e, q1, q2⟩ := r
    exact ⟨j, e, q1, (back j e q2).2⟩
/-- a new frozen object -/
theorem StepV.new1 {p : Addr} {o : HO} (sub : Same G H) (n : H p = none) : StepV G H (upd G p o) (upd H p o) := by
  have g : G p = none := sub.free n
  refine ⟨fun b u e => by rw [upd_ne (ne_of_none e g)]; exact e, fun b u e => ?_, fun a u e => ?_, fun b u e => by rw [upd_ne (ne_of_none e n)]; exact e⟩
  · by_cases hb : b = p
    · subst hb; rw [upd_same] at e ⊢; exact e
    · rw [upd_ne hb] at e ⊢; exact sub _ _ e
  · by_cases hb : a = p
    · subst hb; exact .inr n
    · rw [upd_ne hb] at e; exact .inl e
/-- a new object of one's own -/
theorem StepV.new0 {p : Addr} {o : HO} (sub : Same G H) (n : H p = none) : StepV G H G (upd H p o) :=
  ⟨.refl _, fun b u e => by rw [upd_ne (ne_of_none (sub _ _ e) n)]; exact sub _ _ e, fun a u e => .inl e, fun b u e => by rw [upd_ne (ne_of_none e n)]; exact e⟩
theorem StepV.refl (sub : Same G H) : StepV G H G H := ⟨.refl _, sub, fun _ _ e => .inl e, .refl _⟩
theorem StepV.trans (A : StepV G H G1 H1) (B : StepV G1 H1 G2 H2) : StepV G H G2 H2 :=
  ⟨A.same.trans B.same, B.sub, fun a o e => (B.new a o e).elim (A.new a o) fun z => .inr (A.keep.free z), A.keep.trans B.keep⟩
end

/-! ### judgements by functions -/
def tM (K : PySem.W.Frag) (m : M Sl) : TE := fun σ H Q => ∃ G ρ r ρ', EnvR K G H σ ρ ∧ m ρ = some (r, ρ') ∧ ∀ v H' G', Stp K σ G H ρ G' H' ρ' → ResV K G' H H' v r → Q v H'
def tMT (K : PySem.W.Frag) (m : M Bool) : TT := fun σ H Q => ∃ G ρ b ρ', EnvR K G H σ ρ ∧ m ρ = some (b, ρ') ∧ ∀ H' G', Stp K σ G H ρ G' H' ρ' → Q b H'
/-- arguments: frozen all -/
def tMA (K : PySem.W.Frag) (m : M (List D)) : TA := fun σ H Q => ∃ G ρ ds ρ', EnvR K G H σ ρ ∧ m ρ = some (ds, ρ') ∧ ∀ vs H' G', Stp K σ G H ρ G' H' ρ' → RpAll K G' vs ds → Q vs H'
theorem imE {X : Cx} {e : Expr} {t t' : TE} (h : PE X e t) (i : ∀ σ H Q, t' σ H Q → t σ H Q) : PE X e t' := ⟨fun pins s σ H Q I q => h.run pins s σ H Q I (i σ H Q q)⟩
theorem imT {X : Cx} {e : Expr} {t t' : TT} (h : PT X e t) (i : ∀ σ H Q, t' σ H Q → t σ H Q) : PT X e t' := ⟨fun pins s σ H Q I q => h.run pins s σ H Q I (i σ H Q q)⟩
theorem imW {X : Cx} {e : Expr} {t t' : TT} (h : PW X e t) (i : ∀ σ H Q, t' σ H Q → t σ H Q) : PW X e t' := ⟨fun w pins s σ H Q I q => h.run w pins s σ H Q I (i σ H Q q)⟩
theorem imA {X : Cx} {e : List Expr} {t t' : TA} (h : PA X e t) (i : ∀ σ H Q, t' σ H Q → t σ H Q) : PA X e t' := ⟨fun w pins s σ H Q I q => h.run w pins s σ H Q I (i σ H Q q)⟩
theorem imS {X : Cx} {e : Stmt} {t t' : TS} (h : PS X e t) (i : ∀ D σ H, t' D σ H → t D σ H) : PS X e t' := ⟨fun pins s σ H Q I q => h.run pins s σ H Q I (i Q σ H q)⟩
theorem imSs {X : Cx} {e : List Stmt} {t t' : TS} (h : PSs X e t) (i : ∀ D σ H, t' D σ H → t D σ H) : PSs X e t' := ⟨fun pins s σ H Q I q => h.run pins s σ H Q I (i Q σ H q)⟩

/-- judgements -/
abbrev FE (X : Cx) (e : Expr) (m : M Sl) : Prop := PE X e (tM X.K m)
abbrev FT (X : Cx) (e : Expr) (m : M Bool) : Prop := PT X e (tMT X.K m)
abbrev FW (X : Cx) (e : Expr) (m : M Bool) : Prop := PW X e (tMT X.K m)
abbrev FA (X : Cx) (es : List Expr) (m : M (List D)) : Prop := PA X es (tMA X.K m)

/-! ### values: operators on data -/
def r2D (K : PySem.W.Frag) (f : D → D → Option Sl) : R2 := fun x y H Q => ∃ G dx dy r, Same G H ∧ Rp K G x dx ∧ Rp K G y dy ∧ f dx dy = some r ∧ ∀ v H' G', StepV G H G' H' → ResV K G' H H' v r → Q v H'
def r1D (K : PySem.W.Frag) (f : D → Option Sl) : V → Hp → VK → Prop := fun x H Q => ∃ G dx r, Same G H ∧ Rp K G x dx ∧ f dx = some r ∧ ∀ v H' G', StepV G H G' H' → ResV K G' H H' v r → Q v H'
def rLD (K : PySem.W.Frag) (f : List D → Option Sl) : List V → Hp → VK → Prop := fun xs H Q => ∃ G ds r, Same G H ∧ RpAll K G xs ds ∧ f ds = some r ∧ ∀ v H' G', StepV G H G' H' → ResV K G' H H' v r → Q v H'

def bindM {α β : Type} (m : M α) (f : α → M β) : M β := fun ρ => (m ρ).bind fun p => f p.1 p.2
def pureM {α : Type} (a : α) : M α := fun ρ => some (a, ρ)
def liftM {α : Type} (o : Option α) : M α := fun ρ => o.map fun a => (a, ρ)
theorem bindM_some {α β : Type} {m : M α} {f : α → M β} {ρ ρ' : Rho} {b : β} (h : bindM m f ρ = some (b, ρ')) : ∃ a ρ1, m ρ = some (a, ρ1) ∧ f a ρ1 = some (b, ρ') := by
  unfold bindM at h
  cases e : m ρ with
  | none => rw [e] at h; cases h
  | some p => rw [e] at h; exact ⟨p.1, p.2, rfl, h⟩
theorem liftM_some {α : Type} {o : Option α} {ρ ρ' : Rho} {b : α} (h : liftM o ρ = some (b, ρ')) : o = some b ∧ ρ' = ρ := by
  unfold liftM at h
  cases o with
  | none => cases h
  | some a => cases h; exact ⟨rfl, rfl⟩
theorem pureM_some {α : Type} {a b : α} {ρ ρ' : Rho} (h : pureM a ρ = some (b, ρ')) : b = a ∧ ρ' = ρ := by
  cases h; exact ⟨rfl, rfl⟩

def bin (f : D → D → Option Sl) (a b : M Sl) : M Sl := bindM a fun x => bindM b fun y => liftM (f x.d y.d)
def una (f : D → Option Sl) (a : M Sl) : M Sl := bindM a fun x => liftM (f x.d)
section
variable {X : Cx} {a b c : Expr} {ma mb mc : M Sl} {pos : Pos}
/-- two values, then a rule -/
theorem two {K : PySem.W.Frag} {f : D → D → Option Sl} {σ : L2.St} {H : Hp} {Q : VK} (h : tM K (bin f ma mb) σ H Q) : tOp (r2D K f) (tM K ma) (tM K mb) σ H Q := by
  obtain ⟨G, ρ, r, ρ', E, hm, q⟩ := h
  obtain ⟨x, ρ1, e1, h2⟩ := bindM_some hm
  obtain ⟨y, ρ2, e2, h3⟩ := bindM_some h2
  obtain ⟨e3, rfl⟩ := liftM_some h3
  refine ⟨G, ρ, x, ρ1, E, e1, fun v H1 G1 S1 r1 => ?_⟩
  obtain ⟨G1', S1', p1, _⟩ := r1.frz E S1
  refine ⟨G1', ρ1, y, ρ', S1'.env, e2, fun u H2 G2 S2 r2 => ?_⟩
  obtain ⟨G2', S2', p2, _⟩ := r2.frz S1'.env S2
  refine ⟨G2', x.d, y.d, r, S2'.env.sub, p1.mono S2'.same, p2, e3, fun z H3 G3 S3 r3 => ?_⟩
  have T := S1'.trans E S2'
  exact q z H3 G3 (T.ext E S3) (r3.back T.there)
theorem fe_op {op : Operator} {f : D → D → Option Sl} (ho : OpR X (binaryOp op) (r2D X.K f)) (ha : FE X a ma) (hb : FE X b mb) : FE X (.BinOp a op b pos) (bin f ma mb) := imE (pe_op ho ha hb) fun _ _ _ => two
theorem fe_cmp {op : CmpOp} {f : D → D → Option Sl} (ho : OpR X (compareOp op) (r2D X.K f)) (ha : FE X a ma) (hb : FE X b mb) (hm : behindInMarks op b = false) : FE X (.Compare a [op] [b] pos) (bin f ma mb) := imE (pe_cmpR ho ha hb hm) fun _ _ _ => two
theorem fe_un {op : UnaryOp} {f : D → Option Sl} (ho : UnR X (unaryOp op) (r1D X.K f)) (ha : FE X a ma) : FE X (.UnaryOp op a pos) (una f ma) := imE (pe_un ho ha) fun σ H Q h => by
  obtain ⟨G, ρ, r, ρ', E, hm, q⟩ := h
  obtain ⟨x, ρ1, e1, h2⟩ := bindM_some hm
  obtain ⟨e3, rfl⟩ := liftM_some h2
  refine ⟨G, ρ, x, ρ', E, e1, fun v H1 G1 S1 r1 => ?_⟩
  obtain ⟨G1', S1', p1, _⟩ := r1.frz E S1
  exact ⟨G1', x.d, r, S1'.env.sub, p1, e3, fun z H3 G3 S3 r3 => q z H3 G3 (S1'.ext E S3) (r3.back S1'.there)⟩

/-! ### names, constants -/
def varM (i : Nat) : M Sl := fun ρ => match ρ[i]? with
  | some (some (.fz d)) => some (.fz d, ρ)
  | some (some (.ow d)) => some (.fz d, ρ.set i (some (.fz d)))
  | _ => none
def cM (d : D) : M Sl := pureM (.fz d)
theorem fe_var (i : Nat) {x : Str} {pos : Pos} (hN : X.N[i]? = some x := by rfl) (hv : Vis X.env.scope x := by first | exact Or.inl rfl | exact Or.inr (Or.inl rfl) | exact Or.inr (Or.inr rfl)) (hd : (x == ("__debug__" : Str)) = false := by decide)
    (hcd : (x == ("__classdict__" : Str)) = false := by decide) : FE X (.Name x pos) (varM i) := imE (pe_var (i := i) hN hv hd hcd) fun σ H Q h => by
  obtain ⟨G, ρ, r, ρ', E, hm, q⟩ := h
  unfold varM at hm
  split at hm
  · cases hm
    rename_i d e
    obtain ⟨v, e1, r1⟩ := E.fz i d e
    exact ⟨v, e1, q v H G (.refl E) r1⟩
  · cases hm
    rename_i d e
    obtain ⟨p, G', e1, S, r1⟩ := E.freeze e
    exact ⟨_, e1, q _ H G' S r1⟩
  · cases hm
theorem fe_const {e : Expr} {v : V} {d : D} (h : PE X e (tC v)) (r : ∀ G, Rp X.K G v d) : FE X e (cM d) := imE h fun σ H Q hq => by
  obtain ⟨G, ρ, r', ρ', E, hm, q⟩ := hq
  cases hm
  exact q v H G (.refl E) (r G)
theorem fe_int {i j pos} : FE X (.Constant (.int i) j pos) (cM (.int i)) := fe_const pe_int fun _ => .int i
theorem fe_bl {i j pos} : FE X (.Constant (.bool i) j pos) (cM (.bool i)) := fe_const pe_bl fun _ => .bl i
theorem fe_str {i j pos} : FE X (.Constant (.str i) j pos) (cM (.str i)) := fe_const pe_str fun _ => .str i
theorem fe_non {j pos} : FE X (.Constant .none j pos) (cM .none) := fe_const pe_non fun _ => .non
/-- a module's constant that is an int or a text -/
theorem fe_gint {x : Str} {i : Int} {t : Tok} {pos : Pos} (hg : Gl X x) (hm : X.mg x = some (.int i t)) (hd : (x == ("__debug__" : Str)) = false := by decide) : FE X (.Name x pos) (cM (.int i)) := fe_const (pe_glob (v := V.int i) hg hm ⟨t, rfl⟩ hd) fun _ => .int i
theorem fe_gstr {x : Str} {i : Str} {t : Tok} {pos : Pos} (hg : Gl X x) (hm : X.mg x = some (.str i t)) (hd : (x == ("__debug__" : Str)) = false := by decide) : FE X (.Name x pos) (cM (.str i)) := fe_const (pe_glob (v := V.str i) hg hm ⟨t, rfl⟩ hd) fun _ => .str i

/-! ### arguments -/
def nilM : M (List D) := pureM []
def consM (a : M Sl) (r : M (List D)) : M (List D) := bindM a fun x => bindM r fun xs => pureM (x.d :: xs)
theorem fa_nil : FA X [] nilM := imA pa_nil fun σ H Q h => by
  obtain ⟨G, ρ, r', ρ', E, hm, q⟩ := h
  cases hm
  exact q [] H G (.refl E) .nil
theorem fa_cons {es : List Expr} {mr : M (List D)} (ha : FE X a ma) (hr : FA X es mr) (hs : starEach (a :: es) X.env = (false, eval a X.env) :: starEach es X.env := by rfl) : FA X (a :: es) (consM ma mr) := imA (pa_cons ha hr hs) fun σ H Q h => by
  obtain ⟨G, ρ, r, ρ', E, hm, q⟩ := h
  obtain ⟨x, ρ1, e1, h2⟩ := bindM_some hm
  obtain ⟨y, ρ2, e2, h3⟩ := bindM_some h2
  obtain ⟨rfl, rfl⟩ := pureM_some h3
  refine ⟨G, ρ, x, ρ1, E, e1, fun v H1 G1 S1 r1 => ?_⟩
  obtain ⟨G1', S1', p1, _⟩ := r1.frz E S1
  exact ⟨G1', ρ1, y, ρ', S1'.env, e2, fun u H2 G2 S2 r2 => q _ H2 G2 (S1'.trans E S2) (.cons (p1.mono S2.same) r2)⟩
/-! ### displays -/
def tupM (m : M (List D)) : M Sl := bindM m fun xs => liftM (if xs.length ≤ sizeLine then some (.fz (.tuple xs)) else none)
def lstM (m : M (List D)) : M Sl := bindM m fun xs => liftM (if xs.length ≤ sizeLine then some (.ow (.list xs)) else none)
theorem ite_some {α : Type} {p : Prop} [Decidable p] {a b : α} (h : (if p then some a else none) = some b) : p ∧ b = a := by
  by_cases hp : p
  · rw [if_pos hp] at h; cases h; exact ⟨hp, rfl⟩
  · rw [if_neg hp] at h; cases h
theorem fe_tup {es : List Expr} {m : M (List D)} {x1} (h : FA X es m) : FE X (.Tuple es x1 pos) (tupM m) := imE (pe_tup h) fun σ H Q h => by
  obtain ⟨G, ρ, r, ρ', E, hm, q⟩ := h
  obtain ⟨xs, ρ1, e1, h2⟩ := bindM_some hm
  obtain ⟨e3, rfl⟩ := liftM_some h2
  obtain ⟨hz, rfl⟩ := ite_some e3
  refine ⟨G, ρ, xs, ρ', E, e1, fun vs H1 G1 S1 r1 => ⟨by rw [r1.length]; exact hz, fun p hp => ?_⟩⟩
  have V := StepV.new1 (o := .tup vs) S1.env.sub hp
  exact q _ _ _ (S1.ext E V) (.tup (.of upd_same) (r1.mono V.same))
theorem fe_lst {es : List Expr} {m : M (List D)} (h : FA X es m) : FE X (.List es pos) (lstM m) := imE (pe_lst h) fun σ H Q h => by
  obtain ⟨G, ρ, r, ρ', E, hm, q⟩ := h
  obtain ⟨xs, ρ1, e1, h2⟩ := bindM_some hm
  obtain ⟨e3, rfl⟩ := liftM_some h2
  obtain ⟨hz, rfl⟩ := ite_some e3
  refine ⟨G, ρ, xs, ρ', E, e1, fun vs H1 G1 S1 r1 => ⟨by rw [r1.length]; exact hz, fun p hp => ?_⟩⟩
  have V := StepV.new0 (o := .lst vs) S1.env.sub hp
  exact q _ _ _ (S1.ext E V) ⟨p, rfl, S1.there _ hp, S1.env.sub.free hp, vs, upd_same, r1⟩
/-! ### built-in functions -/
def callM (f : List D → Option Sl) (m : M (List D)) : M Sl := bindM m fun xs => liftM (f xs)
theorem call_in {K : PySem.W.Frag} {f : List D → Option Sl} {m : M (List D)} {σ : L2.St} {H : Hp} {Q : VK} (h : tM K (callM f m) σ H Q) : tCB (rLD K f) (tMA K m) σ H Q := by
  obtain ⟨G, ρ, r, ρ', E, hm, q⟩ := h
  obtain ⟨xs, ρ1, e1, h2⟩ := bindM_some hm
  obtain ⟨e3, rfl⟩ := liftM_some h2
  refine ⟨G, ρ, xs, ρ', E, e1, fun vs H1 G1 S1 r1 => ?_⟩
  exact ⟨G1, xs, r, S1.env.sub, r1, e3, fun z H3 G3 S3 r3 => q z H3 G3 (S1.ext E S3) (r3.back S1.there)⟩
theorem fe_callB {x : Str} {p : Pos} {e : Expr} {es : List Expr} {id : String} {f : List D → Option Sl} {m : M (List D)} (hc : CallR X (.builtin id) (rLD X.K f)) (hg : Gl X x) (hm : X.mg x = none) (hv : bootBuiltins x = some (.builtin id)) (ha : FA X (e :: es) m) (hn : x ≠ "__name__" := by decide) (hdb : (x == ("__debug__" : Str)) = false := by decide)
    (he : starEach (e :: es) X.env = (false, eval e X.env) :: starEach es X.env := by rfl) (hpl : (backTo pos (starEach es X.env)).any (·.1) = false := by rfl) : FE X (.Call (.Name x p) (e :: es) [] pos) (callM f m) :=
  imE (pe_callB hc hg hm hv ha hn hdb he hpl) fun _ _ _ => call_in
theorem fe_callTy {x : Str} {p : Pos} {e : Expr} {es : List Expr} {T : String} {f : List D → Option Sl} {m : M (List D)} (hc : CallR X (.type T) (rLD X.K f)) (hg : Gl X x) (hm : X.mg x = none) (hv : bootBuiltins x = some (.type T)) (ha : FA X (e :: es) m) (hn : x ≠ "__name__" := by decide) (hdb : (x == ("__debug__" : Str)) = false := by decide)
    (he : starEach (e :: es) X.env = (false, eval e X.env) :: starEach es X.env := by rfl) (hpl : (backTo pos (starEach es X.env)).any (·.1) = false := by rfl) : FE X (.Call (.Name x p) (e :: es) [] pos) (callM f m) :=
  imE (pe_callTy hc hg hm hv ha hn hdb he hpl) fun _ _ _ => call_in
end
end Fx

namespace Fx
open PySem PySem.Spec PyProof.Rows L2

/-! ### from a rule by values to a rule by data -/
section
variable {X : Cx}
theorem opr_imp {f : Value → Value → Sem Value} {r r' : R2} (h : OpR X f r) (i : ∀ x y H Q, r' x y H Q → r x y H Q) : OpR X f r' := fun pins s σ H x y v u Q I rx ry q => h pins s σ H x y v u Q I rx ry (i _ _ _ _ q)
theorem callr_imp {f : Value} {r r' : List V → Hp → VK → Prop} (h : CallR X f r) (i : ∀ x H Q, r' x H Q → r x H Q) : CallR X f r' := fun pins s σ H x us Q I rx q => h pins s σ H x us Q I rx (i _ _ _ q)

/-! ### arithmetic -/
def natLt (n m : Nat) : Bool := Nat.blt n m
def addD : D → D → Option Sl
  | .int i, .int j => some (.fz (.int (i + j)))
  | .str x, .str y => if x.length + y.length ≤ sizeLine then some (.fz (.str (x ++ y))) else none
  | .list xs, .list ys => if xs.length + ys.length ≤ sizeLine then some (.ow (.list (xs ++ ys))) else none
  | .tuple xs, .tuple ys => if xs.length + ys.length ≤ sizeLine then some (.fz (.tuple (xs ++ ys))) else none
  | _, _ => none
def subD : D → D → Option Sl
  | .int i, .int j => some (.fz (.int (i - j)))
  | _, _ => none
def mulD : D → D → Option Sl
  | .int i, .int j => if i.natAbs.log2 + j.natAbs.log2 < 1000000 then some (.fz (.int (i * j))) else none
  | _, _ => none
def fdivD : D → D → Option Sl
  | .int i, .int j => if 0 < j ∧ j.natAbs.log2 < 9000 then some (.fz (.int (i / j))) else none
  | _, _ => none
def modD : D → D → Option Sl
  | .int i, .int j => if 0 < j then some (.fz (.int (i % j))) else none
  | _, _ => none
def powD : D → D → Option Sl
  | .int i, .int j => if 0 ≤ j ∧ j ≤ 1000000 ∧ i.natAbs < 2 ^ 64 then some (.fz (.int (i ^ j.toNat))) else none
  | _, _ => none
def negD : D → Option Sl
  | .int i => some (.fz (.int (-i)))
  | _ => none

theorem sub_listR (I : Unit) : True := trivial
theorem rp_int {K : PySem.W.Frag} {G : Hp} {x : V} {i : Int} (h : Rp K G x (.int i)) : x = .int i := by cases h; rfl
theorem rp_str {K : PySem.W.Frag} {G : Hp} {x : V} {i : Str} (h : Rp K G x (.str i)) : x = .str i := by cases h; rfl
theorem rp_bl {K : PySem.W.Frag} {G : Hp} {x : V} {i : Bool} (h : Rp K G x (.bool i)) : x = .bl i := by cases h; rfl
theorem rp_non {K : PySem.W.Frag} {G : Hp} {x : V} (h : Rp K G x .none) : x = .non := by cases h; rfl
theorem rp_list {K : PySem.W.Frag} {G : Hp} {x : V} {ds : List D} (h : Rp K G x (.list ds)) : ∃ a xs, x = .ref a ∧ SqX K G a xs ∧ RpAll K G xs ds := by
  cases h with
  | lst s t => exact ⟨_, _, rfl, s, t⟩
theorem rp_tup {K : PySem.W.Frag} {G : Hp} {x : V} {ds : List D} (h : Rp K G x (.tuple ds)) : ∃ a xs, x = .ref a ∧ SqT K G a xs ∧ RpAll K G xs ds := by
  cases h with
  | tup s t => exact ⟨_, _, rfl, s, t⟩
theorem sqx_mono {K : PySem.W.Frag} {G H : Hp} {a : Addr} {xs : List V} (e : Same G H) (h : SqX K G a xs) : SqX K H a xs := (RLe.of e).sqx h
theorem sql_mono {K : PySem.W.Frag} {G H : Hp} {a : Addr} {xs : List V} (e : Same G H) (h : SqX K G a xs) : SqL K H a xs := ((RLe.of e).sqx h).sql
theorem sqt_mono {K : PySem.W.Frag} {G H : Hp} {a : Addr} {xs : List V} (e : Same G H) (h : SqT K G a xs) : SqT K H a xs := (RLe.of e).sqt h

theorem _root_.L2.Inv.listX {pins : List (Addr × Obj)} {σ : L2.St} {H : Hp} {s : Shared} {a : Addr} {xs : List V} (I : L2.Inv X pins σ H s) (h : SqX X.K H a xs) : ∃ (its : List Value) (n : Nat), Vals xs its ∧ s.heap.get? a = some { cls := .type "list", data := .seq its.toArray n } ∧ xs.length ≤ sizeLine := by
  rcases h with h | ⟨its, n, e, z, r⟩
  · obtain ⟨z, its, n, r, e⟩ := h.ok I.hok
    exact ⟨its, n, r, e, z⟩
  · refine ⟨its.toList, n, r, by simpa using I.kIn a _ e, ?_⟩
    have := r.length
    simp only [Array.length_toList] at this
    omega
/-- list + list, of any lists that are read -/
theorem op_catL : OpR X (binaryOp .Add) (fun x y H Q => ∃ l b xs zs, x = .ref l ∧ y = .ref b ∧ SqX X.K H l xs ∧ SqX X.K H b zs ∧ xs.length + zs.length ≤ sizeLine ∧ ∀ p, H p = none → Q (.ref p) (upd H p (.lst (xs ++ zs)))) := by
  intro pins s σ H x y v u Q I rx ry h
  obtain ⟨l, b, xs, zs, rfl, rfl, hH, hB, hz, q⟩ := h
  cases rx
  cases ry
  obtain ⟨its, n, r, e, z⟩ := I.listX hH
  obtain ⟨its2, n2, r2, e2, z2⟩ := I.listX hB
  have hl := r.length
  have hl2 := r2.length
  refine PySem.P.add_list e e2 ?_ (by rw [List.size_toArray, List.size_toArray]; omega)
  have ea : its.toArray ++ its2.toArray = (its ++ its2).toArray := by simp
  rw [ea]
  exact ⟨.ref _, _, I.lnew (t' := s.toks) (r.append r2) (by rw [List.length_append]; omega), rfl, q _ I.fresh⟩
theorem opr_addD : OpR X (binaryOp .Add) (r2D X.K addD) := by
  intro pins s σ H x y v u Q I rx ry h
  obtain ⟨G, dx, dy, r, sub, px, py, e, q⟩ := h
  unfold addD at e
  split at e
  · cases e
    cases rp_int px
    cases rp_int py
    exact op_add pins s σ H _ _ v u Q I rx ry ⟨_, _, rfl, rfl, q _ H G (.refl sub) (.int _)⟩
  · obtain ⟨hz, rfl⟩ := ite_some e
    cases rp_str px
    cases rp_str py
    exact op_add_str pins s σ H _ _ v u Q I rx ry ⟨_, _, rfl, rfl, hz, q _ H G (.refl sub) (.str _)⟩
  · obtain ⟨hz, rfl⟩ := ite_some e
    obtain ⟨a, xs, rfl, hx, ax⟩ := rp_list px
    obtain ⟨b, ys, rfl, hy, ay⟩ := rp_list py
    refine op_catL pins s σ H _ _ v u Q I rx ry ⟨_, _, _, _, rfl, rfl, sqx_mono sub hx, sqx_mono sub hy, by rw [ax.length, ay.length]; exact hz, fun p hp => ?_⟩
    exact q _ _ G (.new0 sub hp) ⟨p, rfl, hp, sub.free hp, _, upd_same, ax.append ay⟩
  · obtain ⟨hz, rfl⟩ := ite_some e
    obtain ⟨a, xs, rfl, hx, ax⟩ := rp_tup px
    obtain ⟨b, ys, rfl, hy, ay⟩ := rp_tup py
    refine op_catA pins s σ H _ _ v u Q I rx ry ⟨_, _, _, _, rfl, rfl, sqt_mono sub hx, sqt_mono sub hy, by rw [ax.length, ay.length]; exact hz, fun z => ?_, fun _ z => ?_, fun _ _ p hp => ?_⟩
    · subst z
      cases ax
      exact q _ H G (.refl sub) py
    · subst z
      cases ay
      have : Rp X.K G (.ref a) (.tuple _) := px
      refine q _ H G (.refl sub) ?_
      show Rp X.K G _ (.tuple (_ ++ []))
      rw [List.append_nil]
      exact px
    · have V := StepV.new1 (o := .tup (xs ++ ys)) sub hp
      exact q _ _ _ V (.tup (.of upd_same) ((ax.append ay).mono V.same))
  · cases e
theorem opr_subD : OpR X (binaryOp .Sub) (r2D X.K subD) := by
  intro pins s σ H x y v u Q I rx ry h
  obtain ⟨G, dx, dy, r, sub, px, py, e, q⟩ := h
  unfold subD at e
  split at e
  · cases e
    cases rp_int px
    cases rp_int py
    exact op_sub pins s σ H _ _ v u Q I rx ry ⟨_, _, rfl, rfl, q _ H G (.refl sub) (.int _)⟩
  · cases e
theorem opr_mulD : OpR X (binaryOp .Mult) (r2D X.K mulD) := by
  intro pins s σ H x y v u Q I rx ry h
  obtain ⟨G, dx, dy, r, sub, px, py, e, q⟩ := h
  unfold mulD at e
  split at e
  · obtain ⟨hz, rfl⟩ := ite_some e
    cases rp_int px
    cases rp_int py
    exact op_mulW pins s σ H _ _ v u Q I rx ry ⟨_, _, rfl, rfl, hz, q _ H G (.refl sub) (.int _)⟩
  · cases e
theorem opr_fdivD : OpR X (binaryOp .FloorDiv) (r2D X.K fdivD) := by
  intro pins s σ H x y v u Q I rx ry h
  obtain ⟨G, dx, dy, r, sub, px, py, e, q⟩ := h
  unfold fdivD at e
  split at e
  · obtain ⟨hz, rfl⟩ := ite_some e
    cases rp_int px
    cases rp_int py
    exact op_fdivW pins s σ H _ _ v u Q I rx ry ⟨_, _, rfl, rfl, hz, q _ H G (.refl sub) (.int _)⟩
  · cases e
theorem opr_modD : OpR X (binaryOp .Mod) (r2D X.K modD) := by
  intro pins s σ H x y v u Q I rx ry h
  obtain ⟨G, dx, dy, r, sub, px, py, e, q⟩ := h
  unfold modD at e
  split at e
  · obtain ⟨hz, rfl⟩ := ite_some e
    cases rp_int px
    cases rp_int py
    exact op_mod pins s σ H _ _ v u Q I rx ry ⟨_, _, rfl, rfl, hz, q _ H G (.refl sub) (.int _)⟩
  · cases e
theorem opr_powD : OpR X (binaryOp .Pow) (r2D X.K powD) := by
  intro pins s σ H x y v u Q I rx ry h
  obtain ⟨G, dx, dy, r, sub, px, py, e, q⟩ := h
  unfold powD at e
  split at e
  · obtain ⟨hz, rfl⟩ := ite_some e
    cases rp_int px
    cases rp_int py
    exact op_pow pins s σ H _ _ v u Q I rx ry ⟨_, _, rfl, rfl, hz, q _ H G (.refl sub) (.int _)⟩
  · cases e
theorem unr_negD : UnR X (unaryOp .USub) (r1D X.K negD) := by
  intro pins s σ H x v Q I rx h
  obtain ⟨G, dx, r, sub, px, e, q⟩ := h
  unfold negD at e
  split at e
  · cases e
    cases rp_int px
    exact un_neg pins s σ H _ v Q I rx ⟨_, rfl, q _ H G (.refl sub) (.int _)⟩
  · cases e
end
end Fx

namespace Fx
open PySem PySem.Spec PyProof.Rows L2
section
variable {K : PySem.W.Frag} {G H : Hp}
mutual
theorem Rp.dp : ∀ {v : V} {d : D}, Rp K G v d → d.hasDict = false → Dp K G v d
  | _, _, .non, _ => .non
  | _, _, .bl b, _ => .bl b
  | _, _, .int b, _ => .int b
  | _, _, .str b, _ => .str b
  | _, _, .lst h t, e => .lst h.sql (RpAll.dp t (by simpa only [PyData.hasDict] using e))
  | _, _, .tup h t, e => .tup h (RpAll.dp t (by simpa only [PyData.hasDict] using e))
  | _, _, .dK _ _ _, e => by simp [PyData.hasDict] at e
  | _, _, .dT _ _ _, e => by simp [PyData.hasDict] at e
theorem RpAll.dp : ∀ {vs : List V} {ds : List D}, RpAll K G vs ds → PyData.hasDictAll ds = false → DpAll K G vs ds
  | _, _, .nil, _ => .nil
  | _, _, .cons h t, e => by
    simp only [PyData.hasDictAll, Bool.or_eq_false_iff] at e
    exact .cons (Rp.dp h e.1) (RpAll.dp t e.2)
end
theorem shaped_nodict {d : D} (h : SeqAt.shaped d = true) : d.hasDict = false := by
  unfold SeqAt.shaped at h
  simp only [Bool.and_eq_true] at h
  exact PyData.hasDict_of_canLay d h.1
end
section
variable {X : Cx}
/-! ### comparisons -/
def cmpI (p : Int → Int → Bool) : D → D → Option Sl
  | .int i, .int j => some (.fz (.bool (p i j)))
  | _, _ => none
abbrev ltD := cmpI fun i j => decide (i < j)
abbrev leD := cmpI fun i j => decide (i ≤ j)
abbrev gtD := cmpI fun i j => decide (j < i)
abbrev geD := cmpI fun i j => decide (j ≤ i)
theorem opr_cmpI {f : Value → Value → Sem Value} {p : Int → Int → Bool} (h : OpR X f (rI0 fun i j => .bl (p i j))) : OpR X f (r2D X.K (cmpI p)) := by
  refine opr_imp h fun x y H Q hq => ?_
  obtain ⟨G, dx, dy, r, sub, px, py, e, q⟩ := hq
  unfold cmpI at e
  split at e
  · cases e
    exact ⟨_, _, rp_int px, rp_int py, q _ H G (.refl sub) (.bl _)⟩
  · cases e
theorem opr_ltD : OpR X (compareOp .Lt) (r2D X.K ltD) := opr_cmpI op_lt
theorem opr_leD : OpR X (compareOp .LtE) (r2D X.K leD) := opr_cmpI op_le
theorem opr_gtD : OpR X (compareOp .Gt) (r2D X.K gtD) := opr_cmpI op_gt
theorem opr_geD : OpR X (compareOp .GtE) (r2D X.K geD) := opr_cmpI op_ge
/-- plain values that == tells apart at once -/
def scalD : D → D → Option Bool
  | .int i, .int j => some (i == j)
  | .str x, .str y => some (decide (x = y))
  | .bool a, .bool b => some (a == b)
  | .none, .none => some true
  | .none, .int _ => some false
  | .none, .bool _ => some false
  | .none, .str _ => some false
  | .int _, .none => some false
  | .bool _, .none => some false
  | .str _, .none => some false
  | .int _, .str _ => some false
  | .str _, .int _ => some false
  | .bool _, .str _ => some false
  | .str _, .bool _ => some false
  | _, _ => none
def eqB (d e : D) : Option Bool := match scalD d e with
  | some b => some b
  | none => if SeqAt.shaped d = true ∧ SeqAt.shaped e = true then some (PyData.eqv d e) else none
def eqD (d e : D) : Option Sl := (eqB d e).map fun b => .fz (.bool b)
def neD (d e : D) : Option Sl := (eqB d e).map fun b => .fz (.bool (!b))
theorem scal_of {G : Hp} {K : PySem.W.Frag} {x y : V} {d e : D} {b : Bool} (px : Rp K G x d) (py : Rp K G y e) (h : scalD d e = some b) : scal x y = true ∧ decide (x = y) = b := by
  unfold scalD at h
  split at h <;> first
    | (cases h; first
        | (cases rp_int px; cases rp_int py; exact ⟨rfl, by rw [dec_int]⟩)
        | (cases rp_str px; cases rp_str py; refine ⟨rfl, ?_⟩; rw [dec_str]; rfl)
        | (cases rp_bl px; cases rp_bl py; exact ⟨rfl, by rw [dec_bl]⟩)
        | (cases rp_non px; cases rp_non py; exact ⟨rfl, rfl⟩)
        | (cases px; cases py; exact ⟨rfl, rfl⟩)
        | (cases px; cases py; refine ⟨rfl, ?_⟩; simp))
    | cases h
theorem opr_eqD (hu : X.A.units + 64 < cLine) : OpR X (compareOp .Eq) (r2D X.K eqD) := by
  intro pins s σ H x y v u Q I rx ry h
  obtain ⟨G, dx, dy, r, sub, px, py, e, q⟩ := h
  unfold eqD at e
  obtain ⟨b, eb, rfl⟩ := Option.map_eq_some_iff.mp e
  unfold eqB at eb
  have q' := q (.bl b) H G (.refl sub) (.bl b)
  cases es : scalD dx dy with
  | some c =>
    rw [es] at eb
    cases eb
    obtain ⟨h1, h2⟩ := scal_of px py es
    exact op_eq pins s σ H _ _ v u Q I rx ry ⟨h1, by rw [h2]; exact q'⟩
  | none =>
    rw [es] at eb
    obtain ⟨⟨h1, h2⟩, rfl⟩ := ite_some eb
    exact op_eqD hu pins s σ H _ _ v u Q I rx ry ⟨dx, dy, (px.mono sub).dp (shaped_nodict h1), (py.mono sub).dp (shaped_nodict h2), h1, h2, q'⟩
theorem opr_neD (hu : X.A.units + 64 < cLine) : OpR X (compareOp .NotEq) (r2D X.K neD) := by
  intro pins s σ H x y v u Q I rx ry h
  obtain ⟨G, dx, dy, r, sub, px, py, e, q⟩ := h
  unfold neD at e
  obtain ⟨b, eb, rfl⟩ := Option.map_eq_some_iff.mp e
  unfold eqB at eb
  have q' := q (.bl (!b)) H G (.refl sub) (.bl (!b))
  cases es : scalD dx dy with
  | some c =>
    rw [es] at eb
    cases eb
    obtain ⟨h1, h2⟩ := scal_of px py es
    exact op_ne pins s σ H _ _ v u Q I rx ry ⟨h1, by rw [h2]; exact q'⟩
  | none =>
    rw [es] at eb
    obtain ⟨⟨h1, h2⟩, rfl⟩ := ite_some eb
    exact op_neD hu pins s σ H _ _ v u Q I rx ry ⟨dx, dy, (px.mono sub).dp (shaped_nodict h1), (py.mono sub).dp (shaped_nodict h2), h1, h2, q'⟩
/-- x in [..] -/
def flatD : D → Bool
  | .none => true | .bool _ => true | .int _ => true | .str _ => true | _ => false
def inB : D → D → Option Bool
  | d, .list ds => if SeqAt.shaped d = true ∧ SeqAt.shaped (.list ds) = true then some (ds.any fun z => PyData.eqv z d) else none
  | _, _ => none
def inD (d e : D) : Option Sl := (inB d e).map fun b => .fz (.bool b)
def notInD (d e : D) : Option Sl := (inB d e).map fun b => .fz (.bool (!b))
theorem opr_inD (hu : X.A.units + 65 < cLine) : OpR X (compareOp .In) (r2D X.K inD) := by
  intro pins s σ H x y v u Q I rx ry h
  obtain ⟨G, dx, dy, r, sub, px, py, e, q⟩ := h
  unfold inD at e
  obtain ⟨b, eb, rfl⟩ := Option.map_eq_some_iff.mp e
  unfold inB at eb
  split at eb
  · obtain ⟨⟨h1, h2⟩, rfl⟩ := ite_some eb
    exact op_inD hu pins s σ H _ _ v u Q I rx ry ⟨_, _, (px.mono sub).dp (shaped_nodict h1), (py.mono sub).dp (shaped_nodict h2), h1, h2, q _ H G (.refl sub) (.bl _)⟩
  · cases eb
theorem opr_notInD (hu : X.A.units + 65 < cLine) : OpR X (compareOp .NotIn) (r2D X.K notInD) := by
  intro pins s σ H x y v u Q I rx ry h
  obtain ⟨G, dx, dy, r, sub, px, py, e, q⟩ := h
  unfold notInD at e
  obtain ⟨b, eb, rfl⟩ := Option.map_eq_some_iff.mp e
  unfold inB at eb
  split at eb
  · obtain ⟨⟨h1, h2⟩, rfl⟩ := ite_some eb
    exact op_notInD hu pins s σ H _ _ v u Q I rx ry ⟨_, _, (px.mono sub).dp (shaped_nodict h1), (py.mono sub).dp (shaped_nodict h2), h1, h2, q _ H G (.refl sub) (.bl _)⟩
  · cases eb
/-- is None -/
def isNoneB : D → Bool
  | .none => true
  | _ => false
theorem isNone_of {G : Hp} {K : PySem.W.Frag} {x : V} {d : D} (px : Rp K G x d) : decide (x = .non) = isNoneB d := by
  cases px <;> rfl
variable {a b c : Expr} {ma mb mc : M Sl} {pos : Pos}
abbrev isNM (m : M Sl) : M Sl := una (fun d => some (.fz (.bool (isNoneB d)))) m
abbrev notNM (m : M Sl) : M Sl := una (fun d => some (.fz (.bool (!isNoneB d)))) m
theorem fe_isN {j pos'} (ha : FE X a ma) : FE X (.Compare a [.Is] [.Constant .none j pos'] pos) (isNM ma) := imE (pe_cmpR op_isN ha pe_non (nomark _)) fun σ H Q h => by
  obtain ⟨G, ρ, r, ρ', E, hm, q⟩ := h
  obtain ⟨x, ρ1, e1, h2⟩ := bindM_some hm
  obtain ⟨e3, rfl⟩ := liftM_some h2
  cases e3
  refine ⟨G, ρ, x, ρ', E, e1, fun v H1 G1 S1 r1 => ?_⟩
  obtain ⟨G1', S1', p1, _⟩ := r1.frz E S1
  exact ⟨rfl, by rw [isNone_of p1]; exact q _ H1 G1' S1' (.bl _)⟩
theorem fe_notN {j pos'} (ha : FE X a ma) : FE X (.Compare a [.IsNot] [.Constant .none j pos'] pos) (notNM ma) := imE (pe_cmpR op_notN ha pe_non (nomark _)) fun σ H Q h => by
  obtain ⟨G, ρ, r, ρ', E, hm, q⟩ := h
  obtain ⟨x, ρ1, e1, h2⟩ := bindM_some hm
  obtain ⟨e3, rfl⟩ := liftM_some h2
  cases e3
  refine ⟨G, ρ, x, ρ', E, e1, fun v H1 G1 S1 r1 => ?_⟩
  obtain ⟨G1', S1', p1, _⟩ := r1.frz E S1
  exact ⟨rfl, by rw [isNone_of p1]; exact q _ H1 G1' S1' (.bl _)⟩
/-- a < b < c -/
def chainM (f g : D → D → Option Sl) (ma mb mc : M Sl) : M Sl := bindM ma fun x => bindM mb fun y => bindM (liftM (f x.d y.d)) fun k => match k with
  | .fz (.bool true) => bindM mc fun z => liftM (g y.d z.d)
  | .fz (.bool false) => pureM (.fz (.bool false))
  | _ => liftM none
theorem chain_in {K : PySem.W.Frag} {f g : D → D → Option Sl} {σ : L2.St} {H : Hp} {Q : VK} (h : tM K (chainM f g ma mb mc) σ H Q) (bo : ∀ x y r, f x y = some r → ∃ b, r = .fz (.bool b)) :
    tM K ma σ H fun x H1 => tM K mb σ H1 fun y H2 => r2D K f x y H2 fun z H3 => ∃ k, z = .bl k ∧ if k = true then tM K mc σ H3 fun w H4 => r2D K g y w H4 Q else Q (.bl false) H3 := by
  obtain ⟨G, ρ, r, ρ', E, hm, q⟩ := h
  obtain ⟨x, ρ1, e1, h2⟩ := bindM_some hm
  obtain ⟨y, ρ2, e2, h3⟩ := bindM_some h2
  obtain ⟨k, ρ3, e3, h4⟩ := bindM_some h3
  obtain ⟨e3b, rfl⟩ := liftM_some e3
  refine ⟨G, ρ, x, ρ1, E, e1, fun v H1 G1 S1 r1 => ?_⟩
  obtain ⟨G1', S1', p1, _⟩ := r1.frz E S1
  refine ⟨G1', ρ1, y, ρ3, S1'.env, e2, fun u H2 G2 S2 r2 => ?_⟩
  obtain ⟨G2', S2', p2, _⟩ := r2.frz S1'.env S2
  have T := S1'.trans E S2'
  obtain ⟨b, rfl⟩ := bo _ _ _ e3b
  refine ⟨G2', x.d, y.d, _, S2'.env.sub, p1.mono S2'.same, p2, e3b, fun z H3 G3 S3 r3 => ⟨b, rp_bl r3, ?_⟩⟩
  have T3 := T.ext E S3
  cases b with
  | false =>
    obtain ⟨rfl, rfl⟩ := pureM_some h4
    exact q _ H3 G3 T3 (.bl _)
  | true =>
    obtain ⟨z2, ρ4, e4, h5⟩ := bindM_some h4
    obtain ⟨e5, rfl⟩ := liftM_some h5
    refine ⟨G3, ρ3, z2, ρ', T3.env, e4, fun w H4 G4 S4 r4 => ?_⟩
    obtain ⟨G4', S4', p4, _⟩ := r4.frz T3.env S4
    have T4 := T3.trans E S4'
    refine ⟨G4', y.d, z2.d, r, S4'.env.sub, (p2.mono S3.same).mono S4'.same, p4, e5, fun z5 H5 G5 S5 r5 => q _ H5 G5 (T4.ext E S5) (r5.back T4.there)⟩
theorem cmpI_bool {p : Int → Int → Bool} : ∀ x y r, cmpI p x y = some r → ∃ b, r = .fz (.bool b) := fun x y r h => by
  unfold cmpI at h
  split at h
  · cases h; exact ⟨_, rfl⟩
  · cases h
theorem fe_chain {op op' : CmpOp} {f g : D → D → Option Sl} (ho : OpR X (compareOp op) (r2D X.K f)) (ho' : OpR X (compareOp op') (r2D X.K g)) (ha : FE X a ma) (hb : FE X b mb) (hc : FE X c mc) (bo : ∀ x y r, f x y = some r → ∃ b, r = .fz (.bool b))
    (hm : lastMarks [op, op'] [b, c] = false := by with_unfolding_all rfl) : FE X (.Compare a [op, op'] [b, c] pos) (chainM f g ma mb mc) :=
  imE (pe_chain ho ho' ha hb hc hm) fun σ H Q h => chain_in h bo

/-! ### tests -/
def boolM (r : Sl) : M Bool := match r with
  | .fz (.bool b) => pureM b
  | _ => liftM none
def testM (m : M Sl) : M Bool := bindM m boolM
theorem boolM_some {r : Sl} {b : Bool} {ρ ρ' : Rho} (h : boolM r ρ = some (b, ρ')) : r = .fz (.bool b) ∧ ρ' = ρ := by
  unfold boolM at h
  split at h
  · obtain ⟨rfl, rfl⟩ := pureM_some h; exact ⟨rfl, rfl⟩
  · obtain ⟨h, _⟩ := liftM_some h; cases h
theorem test_in {K : PySem.W.Frag} {m : M Sl} {σ : L2.St} {H : Hp} {Q : Bool → Hp → Prop} (h : tMT K (testM m) σ H Q) : tM K m σ H fun x H1 => ∃ k, x = .bl k ∧ Q k H1 := by
  obtain ⟨G, ρ, b, ρ', E, hm, q⟩ := h
  obtain ⟨x, ρ1, e1, h2⟩ := bindM_some hm
  obtain ⟨rfl, rfl⟩ := boolM_some h2
  exact ⟨G, ρ, _, ρ', E, e1, fun v H1 G1 S1 r1 => ⟨b, rp_bl r1, q H1 G1 S1⟩⟩
theorem ft_val {e : Expr} {m : M Sl} (h : FE X e m) (he : ∀ whole, isTrue e X.env whole = (do let v ← whole; standAt e.pos; holding [v] (truthy v)) := by intro _; rfl) : FT X e (testM m) := imT (pt_val h he) fun _ _ _ => test_in
theorem ft_cmp {op : CmpOp} {f : D → D → Option Sl} (ho : OpR X (compareOp op) (r2D X.K f)) (ha : FE X a ma) (hb : FE X b mb) (hm : behindInMarks op b = false) : FT X (.Compare a [op] [b] pos) (testM (bin f ma mb)) := imT (pt_cmpR ho ha hb hm) fun σ H Q h => two (test_in h)
theorem ft_isN {j pos'} (ha : FE X a ma) : FT X (.Compare a [.Is] [.Constant .none j pos'] pos) (testM (isNM ma)) := imT (pt_cmpR op_isN ha pe_non (nomark _)) fun σ H Q h => by
  obtain ⟨G, ρ, r, ρ', E, hm, q⟩ := test_in h
  obtain ⟨x, ρ1, e1, h2⟩ := bindM_some hm
  obtain ⟨e3, rfl⟩ := liftM_some h2
  cases e3
  refine ⟨G, ρ, x, ρ', E, e1, fun v H1 G1 S1 r1 => ?_⟩
  obtain ⟨G1', S1', p1, _⟩ := r1.frz E S1
  exact ⟨rfl, by rw [isNone_of p1]; exact q _ H1 G1' S1' (.bl _)⟩
theorem ft_notN {j pos'} (ha : FE X a ma) : FT X (.Compare a [.IsNot] [.Constant .none j pos'] pos) (testM (notNM ma)) := imT (pt_cmpR op_notN ha pe_non (nomark _)) fun σ H Q h => by
  obtain ⟨G, ρ, r, ρ', E, hm, q⟩ := test_in h
  obtain ⟨x, ρ1, e1, h2⟩ := bindM_some hm
  obtain ⟨e3, rfl⟩ := liftM_some h2
  cases e3
  refine ⟨G, ρ, x, ρ', E, e1, fun v H1 G1 S1 r1 => ?_⟩
  obtain ⟨G1', S1', p1, _⟩ := r1.frz E S1
  exact ⟨rfl, by rw [isNone_of p1]; exact q _ H1 G1' S1' (.bl _)⟩
theorem ft_chain {op op' : CmpOp} {f g : D → D → Option Sl} (ho : OpR X (compareOp op) (r2D X.K f)) (ho' : OpR X (compareOp op') (r2D X.K g)) (ha : FE X a ma) (hb : FE X b mb) (hc : FE X c mc) (bo : ∀ x y r, f x y = some r → ∃ b, r = .fz (.bool b))
    (hm : lastMarks [op, op'] [b, c] = false := by with_unfolding_all rfl) : FT X (.Compare a [op, op'] [b, c] pos) (testM (chainM f g ma mb mc)) :=
  imT (pt_chain ho ho' ha hb hc hm) fun σ H Q h => chain_in (test_in h) bo
/-- not, and, or -/
def notM (m : M Bool) : M Bool := bindM m fun b => pureM (!b)
def andM (m n : M Bool) : M Bool := bindM m fun b => if b then n else pureM false
def orM (m n : M Bool) : M Bool := bindM m fun b => if b then pureM true else n
variable {na nb : M Bool} {rest : List Expr}
theorem ft_not (ha : FT X a na) : FT X (.UnaryOp .Not a pos) (notM na) := imT (pt_not ha) fun σ H Q h => by
  obtain ⟨G, ρ, r, ρ', E, hm, q⟩ := h
  obtain ⟨x, ρ1, e1, h2⟩ := bindM_some hm
  obtain ⟨rfl, rfl⟩ := pureM_some h2
  exact ⟨G, ρ, x, ρ', E, e1, fun H1 G1 S1 => q H1 G1 S1⟩
theorem and_in {K : PySem.W.Frag} {σ : L2.St} {H : Hp} {Q : Bool → Hp → Prop} (h : tMT K (andM na nb) σ H Q) : tMT K na σ H fun c H1 => if c = true then tMT K nb σ H1 Q else Q false H1 := by
  obtain ⟨G, ρ, r, ρ', E, hm, q⟩ := h
  obtain ⟨x, ρ1, e1, h2⟩ := bindM_some hm
  refine ⟨G, ρ, x, ρ1, E, e1, fun H1 G1 S1 => ?_⟩
  cases x with
  | true => exact ⟨G1, ρ1, r, ρ', S1.env, h2, fun H2 G2 S2 => q H2 G2 (S1.trans E S2)⟩
  | false =>
    obtain ⟨rfl, rfl⟩ := pureM_some h2
    exact q H1 G1 S1
theorem or_in {K : PySem.W.Frag} {σ : L2.St} {H : Hp} {Q : Bool → Hp → Prop} (h : tMT K (orM na nb) σ H Q) : tMT K na σ H fun c H1 => if c = true then Q true H1 else tMT K nb σ H1 Q := by
  obtain ⟨G, ρ, r, ρ', E, hm, q⟩ := h
  obtain ⟨x, ρ1, e1, h2⟩ := bindM_some hm
  refine ⟨G, ρ, x, ρ1, E, e1, fun H1 G1 S1 => ?_⟩
  cases x with
  | false => exact ⟨G1, ρ1, r, ρ', S1.env, h2, fun H2 G2 S2 => q H2 G2 (S1.trans E S2)⟩
  | true =>
    obtain ⟨rfl, rfl⟩ := pureM_some h2
    exact q H1 G1 S1
theorem fw_and1 (ha : FT X a na) : FW X (.BoolOp .And [a] pos) na := pw_and1 ha
theorem fw_or1 (ha : FT X a na) : FW X (.BoolOp .Or [a] pos) na := pw_or1 ha
theorem fw_and (ha : FT X a na) (hb : FW X (.BoolOp .And (b :: rest) pos) nb) : FW X (.BoolOp .And (a :: b :: rest) pos) (andM na nb) := imW (pw_and ha hb) fun _ _ _ => and_in
theorem fw_or (ha : FT X a na) (hb : FW X (.BoolOp .Or (b :: rest) pos) nb) : FW X (.BoolOp .Or (a :: b :: rest) pos) (orM na nb) := imW (pw_or ha hb) fun _ _ _ => or_in
theorem ft_w {e : Expr} {n : M Bool} (h : FW X e n) : FT X e n := PW.pt h
/-- .. as values -/
def blM (m : M Bool) : M Sl := bindM m fun b => pureM (.fz (.bool b))
theorem fe_one {op} (h : FE X a ma) : FE X (.BoolOp op [a] pos) ma := pe_one h
def andV (m n : M Sl) : M Sl := bindM m fun x => bindM (boolM x) fun c => if c then n else pureM (.fz (.bool false))
def orV (m n : M Sl) : M Sl := bindM m fun x => bindM (boolM x) fun c => if c then pureM (.fz (.bool true)) else n
theorem fe_and (ha : FE X a ma) (hb : FE X (.BoolOp .And (b :: rest) pos) mb) : FE X (.BoolOp .And (a :: b :: rest) pos) (andV ma mb) := imE (pe_and ha hb) fun σ H Q h => by
  obtain ⟨G, ρ, r, ρ', E, hm, q⟩ := h
  obtain ⟨x, ρ1, e1, h2⟩ := bindM_some hm
  obtain ⟨c, ρ2, e2, h3⟩ := bindM_some h2
  obtain ⟨rfl, rfl⟩ := boolM_some e2
  refine ⟨G, ρ, _, _, E, e1, fun v H1 G1 S1 r1 => ⟨c, rp_bl r1, ?_⟩⟩
  cases c with
  | true => exact ⟨G1, _, r, ρ', S1.env, h3, fun v2 H2 G2 S2 r2 => q v2 H2 G2 (S1.trans E S2) (r2.back S1.there)⟩
  | false =>
    obtain ⟨rfl, rfl⟩ := pureM_some h3
    exact q _ H1 G1 S1 (.bl _)
theorem fe_or (ha : FE X a ma) (hb : FE X (.BoolOp .Or (b :: rest) pos) mb) : FE X (.BoolOp .Or (a :: b :: rest) pos) (orV ma mb) := imE (pe_or ha hb) fun σ H Q h => by
  obtain ⟨G, ρ, r, ρ', E, hm, q⟩ := h
  obtain ⟨x, ρ1, e1, h2⟩ := bindM_some hm
  obtain ⟨c, ρ2, e2, h3⟩ := bindM_some h2
  obtain ⟨rfl, rfl⟩ := boolM_some e2
  refine ⟨G, ρ, _, _, E, e1, fun v H1 G1 S1 r1 => ⟨c, rp_bl r1, ?_⟩⟩
  cases c with
  | false => exact ⟨G1, _, r, ρ', S1.env, h3, fun v2 H2 G2 S2 r2 => q v2 H2 G2 (S1.trans E S2) (r2.back S1.there)⟩
  | true =>
    obtain ⟨rfl, rfl⟩ := pureM_some h3
    exact q _ H1 G1 S1 (.bl _)
def notV (m : M Sl) : M Sl := bindM m fun x => bindM (boolM x) fun c => pureM (.fz (.bool (!c)))
theorem fe_not (ha : FE X a ma) : FE X (.UnaryOp .Not a pos) (notV ma) := imE (pe_not ha) fun σ H Q h => by
  obtain ⟨G, ρ, r, ρ', E, hm, q⟩ := h
  obtain ⟨x, ρ1, e1, h2⟩ := bindM_some hm
  obtain ⟨c, ρ2, e2, h3⟩ := bindM_some h2
  obtain ⟨rfl, rfl⟩ := boolM_some e2
  obtain ⟨rfl, rfl⟩ := pureM_some h3
  exact ⟨G, ρ, _, _, E, e1, fun v H1 G1 S1 r1 => ⟨c, rp_bl r1, q _ H1 G1 S1 (.bl _)⟩⟩
def ifM (t : M Bool) (m n : M Sl) : M Sl := bindM t fun b => if b then m else n
theorem fe_if {t : M Bool} (hc : FT X c t) (ha : FE X a ma) (hb : FE X b mb) : FE X (.IfExp c a b pos) (ifM t ma mb) := imE (pe_ifExp hc ha hb) fun σ H Q h => by
  obtain ⟨G, ρ, r, ρ', E, hm, q⟩ := h
  obtain ⟨x, ρ1, e1, h2⟩ := bindM_some hm
  refine ⟨G, ρ, x, ρ1, E, e1, fun H1 G1 S1 => ?_⟩
  cases x with
  | true => exact ⟨G1, _, r, ρ', S1.env, h2, fun v2 H2 G2 S2 r2 => q v2 H2 G2 (S1.trans E S2) (r2.back S1.there)⟩
  | false => exact ⟨G1, _, r, ρ', S1.env, h2, fun v2 H2 G2 S2 r2 => q v2 H2 G2 (S1.trans E S2) (r2.back S1.there)⟩

/-! ### built-in functions -/
def lenD : List D → Option Sl
  | [.list ds] => some (.fz (.int ds.length))
  | [.tuple ds] => some (.fz (.int ds.length))
  | [.str x] => if x.length ≤ sizeLine then some (.fz (.int x.length)) else none
  | _ => none
theorem rp1 {K : PySem.W.Frag} {G : Hp} {xs : List V} {d : D} (h : RpAll K G xs [d]) : ∃ x, xs = [x] ∧ Rp K G x d := by
  cases h with
  | cons r t => cases t; exact ⟨_, rfl, r⟩
theorem rp2 {K : PySem.W.Frag} {G : Hp} {xs : List V} {d e : D} (h : RpAll K G xs [d, e]) : ∃ x y, xs = [x, y] ∧ Rp K G x d ∧ Rp K G y e := by
  cases h with
  | cons r t =>
    cases t with
    | cons r' t => cases t; exact ⟨_, _, rfl, r, r'⟩
theorem cr_lenD : CallR X (.builtin "len") (rLD X.K lenD) := by
  refine callr_imp call_len fun xs H Q h => ?_
  obtain ⟨G, ds, r, sub, px, e, q⟩ := h
  unfold lenD at e
  split at e
  · cases e
    obtain ⟨x, rfl, p⟩ := rp1 px
    obtain ⟨a, ys, rfl, s, t⟩ := rp_list p
    exact ⟨_, ys.length, rfl, .inl ⟨ys, sql_mono sub s, rfl⟩, q _ H G (.refl sub) (by rw [t.length]; exact .int _)⟩
  · cases e
    obtain ⟨x, rfl, p⟩ := rp1 px
    obtain ⟨a, ys, rfl, s, t⟩ := rp_tup p
    exact ⟨_, ys.length, rfl, .inr ⟨ys, sqt_mono sub s, rfl⟩, q _ H G (.refl sub) (by rw [t.length]; exact .int _)⟩
  · obtain ⟨hz, rfl⟩ := ite_some e
    obtain ⟨x, rfl, p⟩ := rp1 px
    cases rp_str p
    exact ⟨_, _, rfl, ⟨hz, rfl⟩, q _ H G (.refl sub) (.int _)⟩
  · cases e
def boolsOf : List D → Option (List Bool)
  | [] => some []
  | .bool b :: ds => (boolsOf ds).map (b :: ·)
  | _ => none
def intsOf : List D → Option (List Int)
  | [] => some []
  | .int b :: ds => (intsOf ds).map (b :: ·)
  | _ => none
theorem rp_bools {K : PySem.W.Frag} {G : Hp} : ∀ {xs : List V} {ds : List D} {bs : List Bool}, RpAll K G xs ds → boolsOf ds = some bs → xs = bs.map V.bl
  | _, _, _, .nil, e => by cases e; rfl
  | _, _, _, .cons (d := d) r t, e => by
    cases d with
    | bool b =>
      obtain ⟨bs, e1, rfl⟩ := Option.map_eq_some_iff.mp e
      cases rp_bl r
      rw [rp_bools t e1]
      rfl
    | _ => cases e
theorem rp_ints {K : PySem.W.Frag} {G : Hp} : ∀ {xs : List V} {ds : List D} {bs : List Int}, RpAll K G xs ds → intsOf ds = some bs → xs = bs.map V.int
  | _, _, _, .nil, e => by cases e; rfl
  | _, _, _, .cons (d := d) r t, e => by
    cases d with
    | int b =>
      obtain ⟨bs, e1, rfl⟩ := Option.map_eq_some_iff.mp e
      cases rp_int r
      rw [rp_ints t e1]
      rfl
    | _ => cases e
def allD : List D → Option Sl
  | [.list ds] => (boolsOf ds).map fun bs => .fz (.bool (bs.all id))
  | _ => none
def anyD : List D → Option Sl
  | [.list ds] => (boolsOf ds).map fun bs => .fz (.bool (bs.any id))
  | _ => none
def sumD : List D → Option Sl
  | [.list ds] => (intsOf ds).map fun bs => .fz (.int bs.sum)
  | _ => none
theorem cr_allD (hc : X.calm = true) : CallR X (.builtin "all") (rLD X.K allD) := by
  refine callr_imp (cr_all hc) fun xs H Q h => ?_
  obtain ⟨G, ds, r, sub, px, e, q⟩ := h
  unfold allD at e
  split at e
  · obtain ⟨bs, e1, rfl⟩ := Option.map_eq_some_iff.mp e
    obtain ⟨x, rfl, p⟩ := rp1 px
    obtain ⟨a, ys, rfl, s, t⟩ := rp_list p
    exact ⟨a, bs, rfl, by rw [← rp_bools t e1]; exact sql_mono sub s, q _ H G (.refl sub) (.bl _)⟩
  · cases e
theorem cr_anyD (hc : X.calm = true) : CallR X (.builtin "any") (rLD X.K anyD) := by
  refine callr_imp (cr_any hc) fun xs H Q h => ?_
  obtain ⟨G, ds, r, sub, px, e, q⟩ := h
  unfold anyD at e
  split at e
  · obtain ⟨bs, e1, rfl⟩ := Option.map_eq_some_iff.mp e
    obtain ⟨x, rfl, p⟩ := rp1 px
    obtain ⟨a, ys, rfl, s, t⟩ := rp_list p
    exact ⟨a, bs, rfl, by rw [← rp_bools t e1]; exact sql_mono sub s, q _ H G (.refl sub) (.bl _)⟩
  · cases e
theorem cr_sumD (hc : X.calm = true) : CallR X (.builtin "sum") (rLD X.K sumD) := by
  refine callr_imp (cr_sum hc) fun xs H Q h => ?_
  obtain ⟨G, ds, r, sub, px, e, q⟩ := h
  unfold sumD at e
  split at e
  · obtain ⟨bs, e1, rfl⟩ := Option.map_eq_some_iff.mp e
    obtain ⟨x, rfl, p⟩ := rp1 px
    obtain ⟨a, ys, rfl, s, t⟩ := rp_list p
    exact ⟨a, bs, rfl, by rw [← rp_ints t e1]; exact sql_mono sub s, q _ H G (.refl sub) (.int _)⟩
  · cases e
def minD : List D → Option Sl
  | [.int i, .int j] => some (.fz (.int (if j < i then j else i)))
  | _ => none
def maxD : List D → Option Sl
  | [.int i, .int j] => some (.fz (.int (if j > i then j else i)))
  | _ => none
theorem cr_minD (hc : X.calm = true) : CallR X (.builtin "min") (rLD X.K minD) := by
  refine callr_imp (call_min2 hc) fun xs H Q h => ?_
  obtain ⟨G, ds, r, sub, px, e, q⟩ := h
  unfold minD at e
  split at e
  · cases e
    obtain ⟨x, y, rfl, p, p'⟩ := rp2 px
    cases rp_int p
    cases rp_int p'
    exact ⟨_, _, rfl, q _ H G (.refl sub) (.int _)⟩
  · cases e
theorem cr_maxD (hc : X.calm = true) : CallR X (.builtin "max") (rLD X.K maxD) := by
  refine callr_imp (call_max2 hc) fun xs H Q h => ?_
  obtain ⟨G, ds, r, sub, px, e, q⟩ := h
  unfold maxD at e
  split at e
  · cases e
    obtain ⟨x, y, rfl, p, p'⟩ := rp2 px
    cases rp_int p
    cases rp_int p'
    exact ⟨_, _, rfl, q _ H G (.refl sub) (.int _)⟩
  · cases e
def toIntD : List D → Option Sl
  | [.int i] => some (.fz (.int i))
  | _ => none
theorem cr_intD : CallR X (.type "int") (rLD X.K toIntD) := by
  refine callr_imp call_int1 fun xs H Q h => ?_
  obtain ⟨G, ds, r, sub, px, e, q⟩ := h
  unfold toIntD at e
  split at e
  · cases e
    obtain ⟨x, rfl, p⟩ := rp1 px
    cases rp_int p
    exact .inl ⟨_, rfl, q _ H G (.refl sub) (.int _)⟩
  · cases e
def tupleD : List D → Option Sl
  | [.list ds] => some (.fz (.tuple ds))
  | [.tuple ds] => some (.fz (.tuple ds))
  | _ => none
theorem cr_tupleD : CallR X (.type "tuple") (rLD X.K tupleD) := by
  refine callr_imp call_tuple_of fun xs H Q h => ?_
  obtain ⟨G, ds, r, sub, px, e, q⟩ := h
  unfold tupleD at e
  split at e
  · cases e
    obtain ⟨x, rfl, p⟩ := rp1 px
    obtain ⟨a, ys, rfl, s, t⟩ := rp_list p
    refine ⟨_, ys, rfl, .inl ⟨sql_mono sub s, fun l hl => ?_⟩⟩
    have V := StepV.new1 (o := .tup ys) sub hl
    exact q _ _ _ V (.tup (.of upd_same) (t.mono V.same))
  · cases e
    obtain ⟨x, rfl, p⟩ := rp1 px
    obtain ⟨a, ys, rfl, s, t⟩ := rp_tup p
    exact ⟨_, ys, rfl, .inr ⟨sqt_mono sub s, q _ H G (.refl sub) p⟩⟩
  · cases e
def listD : List D → Option Sl
  | [.list ds] => some (.ow (.list ds))
  | [.tuple ds] => some (.ow (.list ds))
  | _ => none
theorem cr_listD : CallR X (.type "list") (rLD X.K listD) := by
  refine callr_imp call_list_of fun xs H Q h => ?_
  obtain ⟨G, ds, r, sub, px, e, q⟩ := h
  unfold listD at e
  split at e
  · cases e
    obtain ⟨x, rfl, p⟩ := rp1 px
    obtain ⟨a, ys, rfl, s, t⟩ := rp_list p
    exact ⟨_, ys, rfl, .inl (sql_mono sub s), fun l hl => q _ _ G (.new0 sub hl) ⟨l, rfl, hl, sub.free hl, ys, upd_same, t⟩⟩
  · cases e
    obtain ⟨x, rfl, p⟩ := rp1 px
    obtain ⟨a, ys, rfl, s, t⟩ := rp_tup p
    exact ⟨_, ys, rfl, .inr (sqt_mono sub s), fun l hl => q _ _ G (.new0 sub hl) ⟨l, rfl, hl, sub.free hl, ys, upd_same, t⟩⟩
  · cases e
/-- repr, where no repr is under way -/
def reprD : List D → Option Sl
  | [.int i] => if i.natAbs.log2 < 1920 then some (.fz (.str (toString i))) else none
  | [.list ds] => if (PyData.list ds).hasDict = false ∧ (PyData.list ds).showable = true ∧ (PyData.list ds).depth ≤ 60 ∧ (PyData.list ds).shown.length ≤ sizeLine then some (.fz (.str (PyData.list ds).shown)) else none
  | [.tuple ds] => if (PyData.tuple ds).hasDict = false ∧ (PyData.tuple ds).showable = true ∧ (PyData.tuple ds).depth ≤ 60 ∧ (PyData.tuple ds).shown.length ≤ sizeLine then some (.fz (.str (PyData.tuple ds).shown)) else none
  | _ => none
theorem repr_ref {pins : List (Addr × Obj)} {s : Shared} {σ : L2.St} {H G : Hp} {a : Addr} {d : D} {Q : VK} (I : L2.Inv X pins σ H s) (hg : X.A.guards = some []) (hu : X.A.units + 64 < cLine) (sub : Same G H) (p : Rp X.K G (.ref a) d)
    (h : d.hasDict = false ∧ d.showable = true ∧ d.depth ≤ 60 ∧ d.shown.length ≤ sizeLine) (q : Q (.str d.shown) H) : wpAny (model X.prog X.w) X.A (call (.builtin "repr") [.ref a]) (EP X pins σ Q) X.xe s := by
  obtain ⟨as, hr⟩ := Dp.reads I d (.ref a) (.ref a) ((p.mono sub).dp h.1) rfl
  exact repr_of_reads' hr h.2.1 (fun z => by rw [h.1] at z; cases z) hg (by omega) (fun _ _ e => e) (fun h' u tk hk => ⟨.str d.shown, H, I.kept hk, ⟨u, rfl⟩, q⟩) h.2.2.2
theorem cr_reprD (hg : X.A.guards = some []) (hu : X.A.units + 64 < cLine) : CallR X (.builtin "repr") (rLD X.K reprD) := by
  intro pins s σ H xs us Q I rv h
  obtain ⟨G, ds, r, sub, px, e, q⟩ := h
  unfold reprD at e
  split at e
  · obtain ⟨hz, rfl⟩ := ite_some e
    obtain ⟨x, rfl, p⟩ := rp1 px
    cases rp_int p
    exact SkE.call_repr_int pins s σ H _ us Q I rv ⟨_, rfl, hz, q _ H G (.refl sub) (.str _)⟩
  · obtain ⟨hz, rfl⟩ := ite_some e
    obtain ⟨x, rfl, p⟩ := rp1 px
    obtain ⟨a, ys, rfl, _, _⟩ := rp_list p
    obtain ⟨u, rfl, ru⟩ := vals1 rv
    cases ru
    exact repr_ref I hg hu sub p hz (q _ H G (.refl sub) (.str _))
  · obtain ⟨hz, rfl⟩ := ite_some e
    obtain ⟨x, rfl, p⟩ := rp1 px
    obtain ⟨a, ys, rfl, _, _⟩ := rp_tup p
    obtain ⟨u, rfl, ru⟩ := vals1 rv
    cases ru
    exact repr_ref I hg hu sub p hz (q _ H G (.refl sub) (.str _))
  · cases e
/-- isinstance(x, T) of a built-in type T -/
def tyN : D → String
  | .none => "NoneType" | .bool _ => "bool" | .int _ => "int" | .str _ => "str" | .list _ => "list" | .tuple _ => "tuple" | .dict _ => "dict"
def isiB (T : String) (d : D) : Option Bool := kitB (tyN d) T
abbrev isiM (T : String) (m : M Sl) : M Sl := una (fun d => (isiB T d).map fun b => .fz (.bool b)) m
/-- what is known of a value's type -/
theorem kit_data {pins : List (Addr × Obj)} {s : Shared} {σ : L2.St} {H G : Hp} {x : V} {d : D} {u : Value} (I : L2.Inv X pins σ H s) (rx : RelV x u) (sub : Same G H) (p : Rp X.K G x d) :
    ∃ P : Heap → Prop, PySem.W.KitX X.K u (.type (tyN d)) P ∧ P s.heap ∧ u ≠ .builtin "__main__.__loader__#opaque" := by
  cases p with
  | non => exact kit_of I rx (.base .non)
  | bl b => exact kit_of I rx (.base (.bl b))
  | int b => exact kit_of I rx (.base (.int b))
  | str b => exact kit_of I rx (.base (.str b))
  | lst h t =>
    rcases sqx_mono sub h with (h | ⟨o, h⟩) | ⟨its, n, e, _, _⟩
    · exact kit_of I rx (.base (.lst h))
    · exact kit_of I rx (.base (.frz h))
    · exact kit_of I rx (.kList e rfl)
  | tup h t =>
    rcases sqt_mono sub h with (h | ⟨o, h⟩) | ⟨o, its, n, e, c, _⟩
    · exact kit_of I rx (.base (.tup h))
    · exact kit_of I rx (.fTuple h)
    · exact kit_of I rx (.kTuple e c)
  | dK h _ _ =>
    rcases h with h | ⟨o, h⟩
    · exact kit_of I rx (.base (.dK (sub _ _ h)))
    · exact kit_of I rx (.fDict (sub _ _ h))
  | dT h _ _ =>
    rcases h with h | ⟨o, h⟩
    · exact kit_of I rx (.base (.dT (sub _ _ h)))
    · cases (show u = Value.ref _ from rx)
      obtain ⟨_, _, _, xs, _, o', es, ep, h1, h2, _⟩ := I.hok _ _ (sub _ _ h)
      exact ⟨_, PySem.W.kitx_dict, ⟨o', h1, h2.1⟩, fun z => nomatch z⟩
def rIsiD (K : PySem.W.Frag) (T : String) (f : D → Option Sl) : List V → Hp → VK → Prop := fun xs H Q => ∃ x G d r, xs = [x, .ty T] ∧ Same G H ∧ Rp K G x d ∧ f d = some r ∧ ∀ v H' G', StepV G H G' H' → ResV K G' H H' v r → Q v H'
theorem cr_isiD (T : String) : CallR X (.builtin "isinstance") (rIsiD X.K T fun d => (isiB T d).map fun b => .fz (.bool b)) := by
  intro pins s σ H xs us Q I rv h
  obtain ⟨x, G, d, r, rfl, sub, p, e, q⟩ := h
  obtain ⟨b, eb, rfl⟩ := Option.map_eq_some_iff.mp e
  obtain ⟨u1, u2, rfl, r1, r2⟩ := vals2 rv
  cases (show u2 = Value.type T from r2)
  obtain ⟨P, Z, hp, hx⟩ := kit_data I r1 sub p
  exact PySem.W.kia_one Z I.kIn hp (kit_ty eb) hx fun tk => ⟨.bl b, H, I.tok tk, rfl, q _ H G (.refl sub) (.bl b)⟩
theorem fe_isi (T : String) {x : Str} {p q : Pos} (ha : FE X a ma) (hg : Gl X "isinstance") (hm : X.mg "isinstance" = none) (hgT : Gl X x) (hmT : X.mg x = none) (hvT : bootBuiltins x = some (.type T)) (hnT : x ≠ "__name__" := by decide) (hdT : (x == ("__debug__" : Str)) = false := by decide)
    (hv : bootBuiltins "isinstance" = some (.builtin "isinstance") := by decide +kernel) (h1 : starEach [a, .Name x q] X.env = (false, eval a X.env) :: starEach [.Name x q] X.env := by rfl) (h2 : starEach [.Name x q] X.env = (false, eval (.Name x q) X.env) :: starEach [] X.env := by rfl)
    (hpl : (backTo pos (starEach [.Name x q] X.env)).any (·.1) = false := by rfl) : FE X (.Call (.Name "isinstance" p) [a, .Name x q] [] pos) (isiM T ma) :=
  imE (pe_callB (cr_isiD T) hg hm hv (pa_cons ha (pa_cons (pe_bltn (v := .ty T) hgT hmT hvT rfl hnT hdT) pa_nil h2) h1) (he := h1) (hpl := hpl)) fun σ H Q h => by
    obtain ⟨G, ρ, r, ρ', E, hm, q⟩ := h
    obtain ⟨x, ρ1, e1, h2⟩ := bindM_some hm
    obtain ⟨e3, rfl⟩ := liftM_some h2
    refine ⟨G, ρ, x, ρ', E, e1, fun v H1 G1 S1 r1 => ?_⟩
    obtain ⟨G1', S1', p1, _⟩ := r1.frz E S1
    exact ⟨v, G1', x.d, r, rfl, S1'.env.sub, p1, e3, fun z H3 G3 S3 r3 => q z H3 G3 (S1'.ext E S3) (r3.back S1'.there)⟩

/-! ### subscripts -/
def ixD : D → D → Option Sl
  | .list ds, .int i => (atI ds i).map .fz
  | .tuple ds, .int i => (atI ds i).map .fz
  | .str z, .int i => if z.length ≤ sizeLine then (atI z.cps.toList i).map fun c => .fz (.str ⟨#[c]⟩) else none
  | _, _ => none
theorem atI_rp {K : PySem.W.Frag} {G : Hp} {xs : List V} {ds : List D} {i : Int} {d : D} (t : RpAll K G xs ds) (h : atI ds i = some d) : ∃ v, atI xs i = some v ∧ Rp K G v d := by
  unfold atI at h ⊢
  rw [t.length]
  cases e : ixN ds.length i with
  | none => rw [e] at h; cases h
  | some j => rw [e] at h; exact t.getD h
theorem ix_values {K : PySem.W.Frag} {G H : Hp} {x y : V} {d e : D} {r : Sl} {Q : VK} (sub : Same G H) (px : Rp K G x d) (py : Rp K G y e) (h : ixD d e = some r) (q : ∀ v, ResV K G H H v r → Q v H) : rIx K x y H Q := by
  unfold ixD at h
  split at h
  · obtain ⟨z, hz, rfl⟩ := Option.map_eq_some_iff.mp h
    obtain ⟨a, xs, rfl, s, t⟩ := rp_list px
    cases rp_int py
    obtain ⟨v, h1, h2⟩ := atI_rp t hz
    exact .inl ⟨_, xs, _, v, rfl, rfl, sql_mono sub s, h1, q v h2⟩
  · obtain ⟨z, hz, rfl⟩ := Option.map_eq_some_iff.mp h
    obtain ⟨a, xs, rfl, s, t⟩ := rp_tup px
    cases rp_int py
    obtain ⟨v, h1, h2⟩ := atI_rp t hz
    exact .inr (.inl ⟨_, xs, _, v, rfl, rfl, sqt_mono sub s, h1, q v h2⟩)
  · split at h
    · obtain ⟨z, hz, rfl⟩ := Option.map_eq_some_iff.mp h
      cases rp_str px
      cases rp_int py
      exact .inr (.inr ⟨_, _, z, rfl, rfl, by assumption, hz, q _ (.str _)⟩)
    · cases h
  · cases h
theorem fe_ix (ha : FE X a ma) (hb : FE X b mb) (hs : PlainIx b := by exact fun _ _ => rfl) : FE X (.Subscript a b pos) (bin ixD ma mb) := imE (pe_ix ix_seq ha hb hs) fun σ H Q h => by
  obtain ⟨G, ρ, r, ρ', E, hm, q⟩ := h
  obtain ⟨x, ρ1, e1, h2⟩ := bindM_some hm
  obtain ⟨y, ρ2, e2, h3⟩ := bindM_some h2
  obtain ⟨e3, rfl⟩ := liftM_some h3
  refine ⟨G, ρ, x, ρ1, E, e1, fun v H1 G1 S1 r1 => ?_⟩
  obtain ⟨G1', S1', p1, _⟩ := r1.frz E S1
  refine ⟨G1', ρ1, y, ρ', S1'.env, e2, fun u H2 G2 S2 r2 => ?_⟩
  obtain ⟨G2', S2', p2, _⟩ := r2.frz S1'.env S2
  have T := S1'.trans E S2'
  exact ix_values S2'.env.sub (p1.mono S2'.same) p2 e3 fun z r3 => q z H2 G2' T (r3.back T.there)
/-- a slot as it stands -/
theorem slot_at {K : PySem.W.Frag} {G H : Hp} {σ : L2.St} {ρ : Rho} {i : Nat} {s : Sl} (E : EnvR K G H σ ρ) (h : ρ[i]? = some (some s)) : ∃ v, σ[i]? = some (some v) ∧ ∃ o, (∀ a, v = .ref a → H a = some o ∨ G a ≠ none ∨ True) ∧ (∃ G', Same G G' ∧ Same G' H ∧ Rp K G' v s.d) := by
  cases s with
  | fz d =>
    obtain ⟨v, e, r⟩ := E.fz i d h
    exact ⟨v, e, .tup [], fun _ _ => .inr (.inr trivial), G, .refl _, E.sub, r⟩
  | ow d =>
    obtain ⟨p, G', e, S, r⟩ := E.freeze h
    exact ⟨_, e, .tup [], fun _ _ => .inr (.inr trivial), G', S.same, S.env.sub, r⟩
def getM (i : Nat) : M D := fun ρ => match ρ[i]? with
  | some (some s) => some (s.d, ρ)
  | _ => none
theorem getM_some {i : Nat} {d : D} {ρ ρ' : Rho} (h : getM i ρ = some (d, ρ')) : ρ' = ρ ∧ ∃ s, ρ[i]? = some (some s) ∧ s.d = d := by
  unfold getM at h
  split at h
  · rename_i s e
    cases h
    exact ⟨rfl, s, e, rfl⟩
  · cases h
/-- a name's item: a container of one's own stays one's own -/
def memD : D → D → Option D
  | .list ds, .int i => atI ds i
  | .tuple ds, .int i => atI ds i
  | _, _ => none
def ixVM (i : Nat) (mb : M Sl) : M Sl := bindM (getM i) fun _ => bindM mb fun y => bindM (getM i) fun d => liftM ((memD d y.d).map .fz)
theorem slot_v {K : PySem.W.Frag} {G H : Hp} {σ : L2.St} {ρ : Rho} {i : Nat} {s : Sl} (E : EnvR K G H σ ρ) (h : ρ[i]? = some (some s)) : ∃ v, σ[i]? = some (some v) := by
  cases s with
  | fz d => obtain ⟨v, e, _⟩ := E.fz i d h; exact ⟨v, e⟩
  | ow d => obtain ⟨v, e, _⟩ := E.ow i d h; exact ⟨_, e⟩
/-- the members of a slot's list, tuple -/
theorem slot_list {K : PySem.W.Frag} {G H : Hp} {σ : L2.St} {ρ : Rho} {i : Nat} {s : Sl} {v : V} {ds : List D} (E : EnvR K G H σ ρ) (h : ρ[i]? = some (some s)) (hv : σ[i]? = some (some v)) (hd : s.d = .list ds) : ∃ a xs, v = .ref a ∧ SqX K H a xs ∧ RpAll K G xs ds := by
  cases s with
  | fz d =>
    cases (show d = .list ds from hd)
    obtain ⟨w, e, r⟩ := E.fz i _ h
    rw [hv] at e
    cases e
    obtain ⟨a, xs, rfl, s, t⟩ := rp_list r
    exact ⟨a, xs, rfl, sqx_mono E.sub s, t⟩
  | ow d =>
    cases (show d = .list ds from hd)
    obtain ⟨p, e, _, xs, hx, t⟩ := E.ow i _ h
    rw [hv] at e
    cases e
    exact ⟨p, xs, rfl, .of hx, t⟩
theorem slot_tup {K : PySem.W.Frag} {G H : Hp} {σ : L2.St} {ρ : Rho} {i : Nat} {s : Sl} {v : V} {ds : List D} (E : EnvR K G H σ ρ) (h : ρ[i]? = some (some s)) (hv : σ[i]? = some (some v)) (hd : s.d = .tuple ds) : ∃ a xs, v = .ref a ∧ SqT K H a xs ∧ RpAll K G xs ds := by
  cases s with
  | fz d =>
    cases (show d = .tuple ds from hd)
    obtain ⟨w, e, r⟩ := E.fz i _ h
    rw [hv] at e
    cases e
    obtain ⟨a, xs, rfl, s, t⟩ := rp_tup r
    exact ⟨a, xs, rfl, sqt_mono E.sub s, t⟩
  | ow d =>
    cases (show d = .tuple ds from hd)
    obtain ⟨p, e, _, ow⟩ := E.ow i _ h
    exact ow.elim
theorem fe_ixV (i : Nat) {x : Str} {p : Pos} (hb : FE X b mb) (hN : X.N[i]? = some x := by rfl) (hv : Vis X.env.scope x := by first | exact Or.inl rfl | exact Or.inr (Or.inl rfl) | exact Or.inr (Or.inr rfl)) (hd : (x == ("__debug__" : Str)) = false := by decide)
    (hcd : (x == ("__classdict__" : Str)) = false := by decide) (hs : PlainIx b := by exact fun _ _ => rfl) : FE X (.Subscript (.Name x p) b pos) (ixVM i mb) := imE (pe_ix ix_seq (pe_var (i := i) hN hv hd hcd) hb hs) fun σ H Q h => by
  obtain ⟨G, ρ, r, ρ', E, hm, q⟩ := h
  obtain ⟨d0, ρ0, e0, h1⟩ := bindM_some hm
  obtain ⟨rfl, s0, es0, _⟩ := getM_some e0
  obtain ⟨y, ρ1, e1, h2⟩ := bindM_some h1
  obtain ⟨d, ρ2, e2, h3⟩ := bindM_some h2
  obtain ⟨rfl, s, es, rfl⟩ := getM_some e2
  obtain ⟨e3, rfl⟩ := liftM_some h3
  obtain ⟨z, hz, rfl⟩ := Option.map_eq_some_iff.mp e3
  obtain ⟨v, ev⟩ := slot_v E es0
  refine ⟨v, ev, G, ρ0, y, ρ', E, e1, fun u H1 G1 S1 r1 => ?_⟩
  obtain ⟨G1', S1', p1, _⟩ := r1.frz E S1
  unfold memD at hz
  split at hz
  · rename_i ds i ed ei
    obtain ⟨a, xs, rfl, sq, t⟩ := slot_list S1'.env es ev ed
    have p1' : Rp X.K G1' u (.int i) := by rw [← ei]; exact p1
    cases rp_int p1'
    obtain ⟨v, g1, g2⟩ := atI_rp t hz
    exact .inl ⟨_, xs, _, v, rfl, rfl, sq.sql, g1, q v H1 G1' S1' g2⟩
  · rename_i ds i ed ei
    obtain ⟨a, xs, rfl, sq, t⟩ := slot_tup S1'.env es ev ed
    have p1' : Rp X.K G1' u (.int i) := by rw [← ei]; exact p1
    cases rp_int p1'
    obtain ⟨v, g1, g2⟩ := atI_rp t hz
    exact .inr (.inl ⟨_, xs, _, v, rfl, rfl, sq, g1, q v H1 G1' S1' g2⟩)
  · cases hz
/-! ### slices -/
def cutD (xs : List D) (lo hi : Option Int) : List D := (xs.drop (HT.sIx xs.length 0 lo)).take (HT.sIx xs.length xs.length hi - HT.sIx xs.length 0 lo)
def slD (d : D) (lo hi : Option Int) : Option Sl := match d with
  | .list ds => some (.ow (.list (cutD ds lo hi)))
  | .tuple ds => some (.fz (.tuple (cutD ds lo hi)))
  | _ => none
def tMO (K : PySem.W.Frag) (m : M (Option Int)) : TO := fun σ H Q => ∃ G ρ o ρ', EnvR K G H σ ρ ∧ m ρ = some (o, ρ') ∧ ∀ H' G', Stp K σ G H ρ G' H' ρ' → Q o H'
abbrev FO (X : Cx) (e : Option Expr) (m : M (Option Int)) : Prop := PO X e (tMO X.K m)
theorem imO {e : Option Expr} {t t' : TO} (h : PO X e t) (i : ∀ σ H Q, t' σ H Q → t σ H Q) : PO X e t' := ⟨fun pins s σ H Q I q => h.run pins s σ H Q I (i σ H Q q)⟩
theorem fo_none : FO X none (pureM none) := imO po_none fun σ H Q h => by
  obtain ⟨G, ρ, r, ρ', E, hm, q⟩ := h
  cases hm
  exact q H G (.refl E)
def partD : D → Option (Option Int)
  | .int i => some (some i)
  | _ => none
def partM (m : M Sl) : M (Option Int) := bindM m fun x => liftM (partD x.d)
theorem fo_some (h : FE X a ma) : FO X (some a) (partM ma) := imO (po_some h) fun σ H Q h => by
  obtain ⟨G, ρ, r, ρ', E, hm, q⟩ := h
  obtain ⟨x, ρ1, e1, h2⟩ := bindM_some hm
  refine ⟨G, ρ, x, ρ1, E, e1, fun v H1 G1 S1 r1 => ?_⟩
  obtain ⟨G1', S1', p1, _⟩ := r1.frz E S1
  obtain ⟨e2, rfl⟩ := liftM_some h2
  cases ei : x.d with
  | int i =>
    rw [ei] at p1 e2
    cases e2
    exact ⟨i, rp_int p1, q H1 G1' S1'⟩
  | _ => rw [ei] at e2; cases e2
theorem cut_rp {K : PySem.W.Frag} {G : Hp} {xs : List V} {ds : List D} {lo hi : Option Int} (t : RpAll K G xs ds) : RpAll K G (cutV xs lo hi) (cutD ds lo hi) := by
  unfold cutV cutD
  rw [t.length]
  exact (t.drop _).take _
theorem sl_any : SlR X (fun x lo hi H Q => rSlL X.K x lo hi H Q ∨ rSlA X.K x lo hi H Q) := sl_list.or sl_tupA
def sliceM (m : M Sl) (lo hi : M (Option Int)) : M Sl := bindM m fun x => bindM lo fun l => bindM hi fun h => liftM (slD x.d l h)
theorem fe_slice {lo hi : Option Expr} {ml mh : M (Option Int)} {p2 : Pos} (ha : FE X a ma) (hl : FO X lo ml) (hh : FO X hi mh) : FE X (.Subscript a (.Slice lo hi none p2) pos) (sliceM ma ml mh) := imE (pe_slice sl_any ha hl hh) fun σ H Q h => by
  obtain ⟨G, ρ, r, ρ', E, hm, q⟩ := h
  obtain ⟨x, ρ1, e1, h2⟩ := bindM_some hm
  obtain ⟨l, ρ2, e2, h3⟩ := bindM_some h2
  obtain ⟨k, ρ3, e3, h4⟩ := bindM_some h3
  obtain ⟨e4, rfl⟩ := liftM_some h4
  refine ⟨G, ρ, x, ρ1, E, e1, fun v H1 G1 S1 r1 => ?_⟩
  obtain ⟨G1', S1', p1, _⟩ := r1.frz E S1
  refine ⟨G1', ρ1, l, ρ2, S1'.env, e2, fun H2 G2 S2 => ⟨G2, ρ2, k, ρ', S2.env, e3, fun H3 G3 S3 => ?_⟩⟩
  have T := (S1'.trans E S2).trans E S3
  have p3 := (p1.mono S2.same).mono S3.same
  unfold slD at e4
  split at e4
  · rename_i ds ed
    cases e4
    rw [ed] at p3
    obtain ⟨a, xs, rfl, s, t⟩ := rp_list p3
    exact .inl ⟨a, xs, rfl, sql_mono T.env.sub s, fun p hp => q _ _ G3 (T.ext E (.new0 T.env.sub hp)) ⟨p, rfl, T.there _ hp, T.env.sub.free hp, _, upd_same, cut_rp t⟩⟩
  · rename_i ds ed
    cases e4
    rw [ed] at p3
    obtain ⟨a, xs, rfl, s, t⟩ := rp_tup p3
    refine .inr ⟨a, xs, rfl, sqt_mono T.env.sub s, fun w => ?_, fun w p hp => ?_⟩
    · have ec : cutV xs l k = xs := by unfold cutV; rw [w.1, w.2]; simp
      refine q _ H3 G3 T (.tup s ?_)
      have := cut_rp (lo := l) (hi := k) t
      rw [ec] at this
      exact this
    · have V := StepV.new1 (o := .tup (cutV xs l k)) T.env.sub hp
      exact q _ _ _ (T.ext E V) (.tup (.of upd_same) ((cut_rp t).mono V.same))
  · cases e4
end
end Fx

namespace Fx
open PySem PySem.Spec PyProof.Rows L2
section
variable {X : Cx} {a b c : Expr} {ma mb mc : M Sl} {pos : Pos}
/-! ### what is walked -/
/-- the iterator gives the items its, whatever is made meanwhile -/
def ItOk (K : PySem.W.Frag) (J : It) (G : Hp) (its : List D) : Prop := ∀ i G1 H1, Same G G1 → Same G1 H1 →
  (∀ d, its[i]? = some d → J.go i H1 ∧ ∀ x H', J.yld i H1 x H' → ∃ G', StepV G1 H1 G' H' ∧ Rp K G' x d) ∧ (its.length ≤ i → J.stop i H1)
def tMI (K : PySem.W.Frag) (m : M (List D)) : TI := fun σ H R => ∃ G ρ its ρ', EnvR K G H σ ρ ∧ m ρ = some (its, ρ') ∧ ∀ J H' G', Stp K σ G H ρ G' H' ρ' → ItOk K J G' its → R J H'
abbrev FI (X : Cx) (tg iter : Expr) (m : M (List D)) : Prop := PI X tg iter (tMI X.K m)
theorem imI {tg iter : Expr} {t t' : TI} (h : PI X tg iter t) (i : ∀ σ H Q, t' σ H Q → t σ H Q) : PI X tg iter t' := ⟨fun pins s σ H Q I q => h.run pins s σ H Q I (i σ H Q q)⟩
theorem pi_or {tg iter : Expr} {t t' : TI} (h : PI X tg iter t) (h' : PI X tg iter t') : PI X tg iter (fun σ H R => t σ H R ∨ t' σ H R) := ⟨fun pins s σ H Q I q => q.elim (h.run pins s σ H Q I) (h'.run pins s σ H Q I)⟩
def seqD : D → Option (List D)
  | .list ds => some ds
  | .tuple ds => some ds
  | .str z => some (z.cps.toList.map fun c => .str ⟨#[c]⟩)
  | _ => none
theorem itOk_list {K : PySem.W.Frag} {G : Hp} {p : Addr} {xs : List V} {ds : List D} (s : SqX K G p xs) (t : RpAll K G xs ds) : ItOk K (Itl K p) G ds := by
  intro i G1 H1 e1 e2
  have s1 : SqL K H1 p xs := sql_mono (e1.trans e2) s
  refine ⟨fun d hd => ?_, fun h => ⟨xs, s1, by rw [t.length]; exact h⟩⟩
  obtain ⟨v, hv, r⟩ := t.getD hd
  refine ⟨⟨xs, v, s1, hv⟩, fun x H' y => ?_⟩
  obtain ⟨rfl, y⟩ := y
  have := y xs s1
  rw [hv] at this
  cases this
  exact ⟨G1, .refl e2, r.mono e1⟩
theorem itOk_tup {K : PySem.W.Frag} {G : Hp} {p : Addr} {xs : List V} {ds : List D} (s : SqT K G p xs) (t : RpAll K G xs ds) : ItOk K (Itt K p) G ds := by
  intro i G1 H1 e1 e2
  have s1 : SqT K H1 p xs := sqt_mono (e1.trans e2) s
  refine ⟨fun d hd => ?_, fun h => ⟨xs, s1, by rw [t.length]; exact h⟩⟩
  obtain ⟨v, hv, r⟩ := t.getD hd
  refine ⟨⟨xs, v, s1, hv⟩, fun x H' y => ?_⟩
  obtain ⟨rfl, y⟩ := y
  have := y xs s1
  rw [hv] at this
  cases this
  exact ⟨G1, .refl e2, r.mono e1⟩
theorem itOk_str {K : PySem.W.Frag} {G : Hp} {z : Str} : ItOk K (Its z) G (z.cps.toList.map fun c => .str ⟨#[c]⟩) := by
  intro i G1 H1 e1 e2
  refine ⟨fun d hd => ?_, fun h => show z.cps.size ≤ i by simpa using h⟩
  rw [List.getElem?_map] at hd
  obtain ⟨c, hc, rfl⟩ := Option.map_eq_some_iff.mp hd
  have hc' : z.cps[i]? = some c := by simpa using hc
  refine ⟨(Array.getElem?_eq_some_iff.mp hc').1, fun x H' y => ?_⟩
  obtain ⟨rfl, c', e', rfl⟩ := y
  rw [hc'] at e'
  cases e'
  exact ⟨G1, .refl e2, .str _⟩
def seqM (m : M Sl) : M (List D) := bindM m fun x => liftM (seqD x.d)
theorem fi_seq {tg : Expr} (ha : FE X a ma) : FI X tg a (seqM ma) := imI (pi_or (pi_list ha) (pi_or (pi_tup ha) (pi_str ha))) fun σ H R h => by
  obtain ⟨G, ρ, its, ρ', E, hm, q⟩ := h
  obtain ⟨x, ρ1, e1, h2⟩ := bindM_some hm
  obtain ⟨e3, rfl⟩ := liftM_some h2
  cases ed : x.d with
  | list ds =>
    rw [ed] at e3
    cases e3
    refine .inl ⟨G, ρ, x, ρ', E, e1, fun v H1 G1 S1 r1 => ?_⟩
    obtain ⟨G1', S1', p1, _⟩ := r1.frz E S1
    rw [ed] at p1
    obtain ⟨p, xs, rfl, s, t⟩ := rp_list p1
    exact ⟨p, rfl, ⟨xs, sql_mono S1'.env.sub s⟩, q _ H1 G1' S1' (itOk_list s t)⟩
  | tuple ds =>
    rw [ed] at e3
    cases e3
    refine .inr (.inl ⟨G, ρ, x, ρ', E, e1, fun v H1 G1 S1 r1 => ?_⟩)
    obtain ⟨G1', S1', p1, _⟩ := r1.frz E S1
    rw [ed] at p1
    obtain ⟨p, xs, rfl, s, t⟩ := rp_tup p1
    exact ⟨p, rfl, ⟨xs, sqt_mono S1'.env.sub s⟩, q _ H1 G1' S1' (itOk_tup s t)⟩
  | str z =>
    rw [ed] at e3
    cases e3
    refine .inr (.inr ⟨G, ρ, x, ρ', E, e1, fun v H1 G1 S1 r1 => ?_⟩)
    obtain ⟨G1', S1', p1, _⟩ := r1.frz E S1
    rw [ed] at p1
    exact ⟨z, rp_str p1, q _ H1 G1' S1' itOk_str⟩
  | _ => rw [ed] at e3; cases e3
/-- range -/
def rangeD (lo hi : Int) : List D := (List.range (hi - lo).toNat).map fun (i : Nat) => .int (lo + i)
def rng1 : List D → Option (List D)
  | [.int j] => if -(2 ^ 62) ≤ j ∧ j < 2 ^ 62 then some (rangeD 0 j) else none
  | _ => none
def rng2 : List D → Option (List D)
  | [.int i, .int j] => if -(2 ^ 62) ≤ i ∧ i < 2 ^ 62 ∧ -(2 ^ 62) ≤ j ∧ j < 2 ^ 62 then some (rangeD i j) else none
  | _ => none
theorem itOk_range {K : PySem.W.Frag} {G : Hp} (lo hi : Int) : ItOk K (Itr lo (hi - lo).toNat) G (rangeD lo hi) := by
  intro i G1 H1 e1 e2
  have hl : (rangeD lo hi).length = (hi - lo).toNat := by unfold rangeD; rw [List.length_map, List.length_range]
  refine ⟨fun d hd => ?_, fun h => by rw [hl] at h; exact h⟩
  have hlt : i < (hi - lo).toNat := by rw [← hl]; exact (List.getElem?_eq_some_iff.mp hd).1
  unfold rangeD at hd
  rw [List.getElem?_map, List.getElem?_range hlt] at hd
  cases hd
  refine ⟨hlt, fun x H' y => ?_⟩
  obtain ⟨rfl, rfl⟩ := y
  exact ⟨G1, .refl e2, .int _⟩
def rngM (f : List D → Option (List D)) (m : M (List D)) : M (List D) := bindM m fun xs => liftM (f xs)
theorem fi_range1 {tg : Expr} {p : Pos} {m : M (List D)} (hg : Gl X "range") (hm : X.mg "range" = none) (ha : FA X [a] m) (hs : starEach [a] X.env = [(false, eval a X.env)] := by rfl) : FI X tg (.Call (.Name "range" p) [a] [] pos) (rngM rng1 m) := imI (pi_range1 hg hm ha hs) fun σ H R h => by
  obtain ⟨G, ρ, its, ρ', E, hm, q⟩ := h
  obtain ⟨x, ρ1, e1, h2⟩ := bindM_some hm
  obtain ⟨e3, rfl⟩ := liftM_some h2
  refine ⟨G, ρ, x, ρ', E, e1, fun vs H1 G1 S1 r1 => ?_⟩
  unfold rng1 at e3
  split at e3
  · obtain ⟨hz, rfl⟩ := ite_some e3
    obtain ⟨v, rfl, p⟩ := rp1 r1
    cases rp_int p
    have := itOk_range (K := X.K) (G := G1) 0 ‹Int›
    rw [Int.sub_zero] at this
    exact ⟨_, rfl, hz.1, hz.2, q _ H1 G1 S1 this⟩
  · cases e3
theorem fi_range2 {tg : Expr} {p : Pos} {m : M (List D)} (hg : Gl X "range") (hm : X.mg "range" = none) (ha : FA X [a, b] m) (hs : starEach [a, b] X.env = [(false, eval a X.env), (false, eval b X.env)] := by rfl) (hs2 : starEach [b] X.env = [(false, eval b X.env)] := by rfl) :
    FI X tg (.Call (.Name "range" p) [a, b] [] pos) (rngM rng2 m) := imI (pi_range2 hg hm ha hs hs2) fun σ H R h => by
  obtain ⟨G, ρ, its, ρ', E, hm, q⟩ := h
  obtain ⟨x, ρ1, e1, h2⟩ := bindM_some hm
  obtain ⟨e3, rfl⟩ := liftM_some h2
  refine ⟨G, ρ, x, ρ', E, e1, fun vs H1 G1 S1 r1 => ?_⟩
  unfold rng2 at e3
  split at e3
  · obtain ⟨hz, rfl⟩ := ite_some e3
    obtain ⟨v, w, rfl, p, p'⟩ := rp2 r1
    cases rp_int p
    cases rp_int p'
    exact ⟨_, _, rfl, hz, q _ H1 G1 S1 (itOk_range _ _)⟩
  · cases e3
/-- enumerate of a list -/
def enumFrom : Nat → List D → List D
  | _, [] => []
  | n, d :: ds => .tuple [.int n, d] :: enumFrom (n + 1) ds
theorem enumFrom_get : ∀ (ds : List D) (n i : Nat) (e : D), (enumFrom n ds)[i]? = some e → ∃ d, ds[i]? = some d ∧ e = .tuple [.int ((n + i : Nat) : Int), d]
  | [], n, i, e, h => by simp [enumFrom] at h
  | d :: ds, n, 0, e, h => by
    have h' : some (PyData.tuple [.int n, d]) = some e := h
    cases h'
    exact ⟨d, rfl, rfl⟩
  | d :: ds, n, i + 1, e, h => by
    obtain ⟨d', h1, h2⟩ := enumFrom_get ds (n + 1) i e h
    refine ⟨d', h1, ?_⟩
    rw [h2, show n + 1 + i = n + (i + 1) by omega]
theorem enumFrom_length : ∀ (ds : List D) (n : Nat), (enumFrom n ds).length = ds.length
  | [], _ => rfl
  | d :: ds, n => by unfold enumFrom; rw [List.length_cons, List.length_cons, enumFrom_length ds]
def enumD : List D → Option (List D)
  | [.list ds] => some (enumFrom 0 ds)
  | _ => none
theorem itOk_enum {K : PySem.W.Frag} {G : Hp} {p : Addr} {xs : List V} {ds : List D} (s : SqX K G p xs) (t : RpAll K G xs ds) : ItOk K (Ite K p) G (enumFrom 0 ds) := by
  intro i G1 H1 e1 e2
  have s1 : SqL K H1 p xs := sql_mono (e1.trans e2) s
  refine ⟨fun d hd => ?_, fun h => ⟨xs, s1, by rw [t.length, ← enumFrom_length ds 0]; exact h⟩⟩
  obtain ⟨d', hd', rfl⟩ := enumFrom_get ds 0 i d hd
  obtain ⟨v, hv, r⟩ := t.getD hd'
  refine ⟨⟨xs, v, s1, hv⟩, fun x H' y => ?_⟩
  obtain ⟨T, z, rfl, nT, rfl, y⟩ := y
  have := y xs s1
  rw [hv] at this
  cases this
  have V := StepV.new1 (o := .tup [.int (i : Nat), v]) e2 nT
  refine ⟨_, V, .tup (.of upd_same) (.cons ?_ (.one ((r.mono e1).mono V.same)))⟩
  rw [Nat.zero_add]
  exact .int _
theorem fi_enum {p tpos : Pos} {elts : List Expr} {kk : Nat} {m : M (List D)} (hg : Gl X "enumerate") (hm : X.mg "enumerate" = none) (ha : FA X [a] m) (hs : starEach [a] X.env = [(false, eval a X.env)] := by rfl) :
    FI X (.Tuple elts kk tpos) (.Call (.Name "enumerate" p) [a] [] pos) (rngM enumD m) := imI (pi_enum hg hm ha hs) fun σ H R h => by
  obtain ⟨G, ρ, its, ρ', E, hm, q⟩ := h
  obtain ⟨x, ρ1, e1, h2⟩ := bindM_some hm
  obtain ⟨e3, rfl⟩ := liftM_some h2
  refine ⟨G, ρ, x, ρ', E, e1, fun vs H1 G1 S1 r1 => ?_⟩
  unfold enumD at e3
  split at e3
  · cases e3
    obtain ⟨v, rfl, p1⟩ := rp1 r1
    obtain ⟨q1, xs, rfl, s, t⟩ := rp_list p1
    exact ⟨q1, xs, rfl, sql_mono S1.env.sub s, q _ H1 G1 S1 (itOk_enum s t)⟩
  · cases e3

/-! ### targets -/
structure TgS (K : PySem.W.Frag) (ts : List Nat) (G H : Hp) (σ : L2.St) (ρ : Rho) (σ' : L2.St) (ρ' : Rho) : Prop where
  env : EnvR K G H σ' ρ'
  roots : ∀ a, root σ' ρ' a → root σ ρ a
  len : σ'.length = σ.length
  off : ∀ i : Nat, i ∉ ts → σ'[i]? = σ[i]?
theorem TgS.refl {K : PySem.W.Frag} {G H : Hp} {σ : L2.St} {ρ : Rho} (E : EnvR K G H σ ρ) (ts : List Nat) : TgS K ts G H σ ρ σ ρ := ⟨E, fun _ h => h, rfl, fun _ _ => rfl⟩
theorem TgS.trans {K : PySem.W.Frag} {ts us : List Nat} {G H : Hp} {σ σ1 σ2 : L2.St} {ρ ρ1 ρ2 : Rho} (A : TgS K ts G H σ ρ σ1 ρ1) (B : TgS K us G H σ1 ρ1 σ2 ρ2) : TgS K (ts ++ us) G H σ ρ σ2 ρ2 :=
  ⟨B.env, fun a h => A.roots a (B.roots a h), B.len.trans A.len, fun i h => (B.off i fun z => h (List.mem_append_right _ z)).trans (A.off i fun z => h (List.mem_append_left _ z))⟩
/-- frozen data put into a slot -/
theorem EnvR.put {K : PySem.W.Frag} {G H : Hp} {σ : L2.St} {ρ : Rho} (E : EnvR K G H σ ρ) (i : Nat) {v : V} {d : D} (r : Rp K G v d) : TgS K [i] G H σ ρ (σ.set i (some v)) (ρ.set i (some (.fz d))) := by
  have ne : ∀ (j : Nat) (e : Sl), j ≠ i → (ρ.set i (some (.fz d)))[j]? = some (some e) → ρ[j]? = some (some e) := fun j e hj q => by rw [List.getElem?_set_ne (Ne.symm hj)] at q; exact q
  have at_i : ∀ (j : Nat) (e : Sl), j = i → (ρ.set i (some (.fz d)))[j]? = some (some e) → e = .fz d ∧ i < ρ.length := fun j e hj q => by
    subst hj
    have hi : j < ρ.length := by
      have := (List.getElem?_eq_some_iff.mp q).1
      simpa using this
    rw [List.getElem?_set_self hi] at q
    cases q
    exact ⟨rfl, hi⟩
  have own : ∀ (j : Nat) (e : D), (ρ.set i (some (.fz d)))[j]? = some (some (Sl.ow e)) → j ≠ i ∧ ρ[j]? = some (some (Sl.ow e)) := fun j e q => by
    by_cases hj : j = i
    · cases (at_i j _ hj q).1
    · exact ⟨hj, ne j _ hj q⟩
  have σne : ∀ j : Nat, j ≠ i → (σ.set i (some v))[j]? = σ[j]? := fun j hj => List.getElem?_set_ne (Ne.symm hj)
  refine ⟨⟨E.sub, by simpa using E.len, fun j e q => ?_, fun j e q => ?_, fun j k e f p hj hk a b => ?_⟩, fun a ⟨j, e, q1, q2⟩ => ?_, by simp, fun j hj => σne j (by simpa using hj)⟩
  · by_cases hj : j = i
    · obtain ⟨z, hi⟩ := at_i j _ hj q
      cases z
      subst hj
      exact ⟨v, List.getElem?_set_self (by rw [← E.len]; exact hi), r⟩
    · rw [σne j hj]
      exact E.fz j e (ne j _ hj q)
  · obtain ⟨hj, q⟩ := own j e q
    rw [σne j hj]
    exact E.ow j e q
  · obtain ⟨hj', hj⟩ := own j e hj
    obtain ⟨hk', hk⟩ := own k f hk
    rw [σne j hj'] at a
    rw [σne k hk'] at b
    exact E.ap j k e f p hj hk a b
  · obtain ⟨hj, q2⟩ := own j e q2
    rw [σne j hj] at q1
    exact ⟨j, e, q1, q2⟩
def tMG (K : PySem.W.Frag) (ts : List Nat) (g : D → M Unit) : TG := fun v σ H Q => ∃ G ρ d ρ', EnvR K G H σ ρ ∧ Rp K G v d ∧ g d ρ = some ((), ρ') ∧ ∀ σ', TgS K ts G H σ ρ σ' ρ' → Q σ' H
def tMGs (K : PySem.W.Frag) (ts : List Nat) (g : List D → M Unit) : TGs := fun v σ H Q => ∃ G ρ d ρ', EnvR K G H σ ρ ∧ RpAll K G v d ∧ g d ρ = some ((), ρ') ∧ ∀ σ', TgS K ts G H σ ρ σ' ρ' → Q σ' H
abbrev FG (X : Cx) (tg : Expr) (ts : List Nat) (g : D → M Unit) : Prop := PG X tg (tMG X.K ts g)
abbrev FGs (X : Cx) (tg : List Expr) (ts : List Nat) (g : List D → M Unit) : Prop := PGs X tg (tMGs X.K ts g)
theorem imG {tg : Expr} {t t' : TG} (h : PG X tg t) (i : ∀ v σ H Q, t' v σ H Q → t v σ H Q) : PG X tg t' := ⟨fun pins s σ H v u Q I r q => h.run pins s σ H v u Q I r (i v σ H Q q)⟩
theorem imGs {tg : List Expr} {t t' : TGs} (h : PGs X tg t) (i : ∀ v σ H Q, t' v σ H Q → t v σ H Q) : PGs X tg t' := ⟨fun pins s σ H v u Q I r q => h.run pins s σ H v u Q I r (i v σ H Q q)⟩
def putM (i : Nat) (d : D) : M Unit := fun ρ => some ((), ρ.set i (some (.fz d)))
theorem fg_name (i : Nat) {x : Str} (hN : X.N.Nodup) (hi : X.N[i]? = some x) (hx : Loc X.env.scope x) (hf : X.fn x = true ∨ X.env.scope.names.lookup x = some .local := by first | exact .inl rfl | exact .inr rfl | assumption) : FG X (.Name x pos) [i] (putM i) := imG (pg_name hN hi hx hf) fun v σ H Q h => by
  obtain ⟨G, ρ, d, ρ', E, r, hm, q⟩ := h
  cases hm
  exact q _ (E.put i r)
def gsNil : List D → M Unit
  | [] => pureM ()
  | _ => liftM none
def gsCons (g : D → M Unit) (gs : List D → M Unit) : List D → M Unit
  | d :: ds => bindM (g d) fun _ => gs ds
  | [] => liftM none
theorem fgs_nil : FGs X [] [] gsNil := imGs pgs_nil fun v σ H Q h => by
  obtain ⟨G, ρ, d, ρ', E, r, hm, q⟩ := h
  unfold gsNil at hm
  split at hm
  · cases r
    cases hm
    exact ⟨rfl, q σ (.refl E _)⟩
  · obtain ⟨hm, _⟩ := liftM_some hm
    cases hm
theorem fgs_cons {e : Expr} {es : List Expr} {ts us : List Nat} {g : D → M Unit} {gs : List D → M Unit} (h1 : FG X e ts g) (h2 : FGs X es us gs)
    (hs : (assignEach (e :: es) X.env).map (·.2) = assign e X.env :: (assignEach es X.env).map (·.2) := by rfl) : FGs X (e :: es) (ts ++ us) (gsCons g gs) := imGs (pgs_cons h1 h2 hs) fun v σ H Q h => by
  obtain ⟨G, ρ, d, ρ', E, r, hm, q⟩ := h
  unfold gsCons at hm
  split at hm
  · obtain ⟨_, ρ1, e1, h3⟩ := bindM_some hm
    cases r with
    | cons r1 r2 =>
      refine ⟨_, _, rfl, G, ρ, _, ρ1, E, r1, e1, fun σ1 T1 => ⟨G, ρ1, _, ρ', T1.env, r2, h3, fun σ2 T2 => q σ2 (T1.trans T2)⟩⟩
  · obtain ⟨hm, _⟩ := liftM_some hm
    cases hm
def tupG (n : Nat) (gs : List D → M Unit) : D → M Unit
  | .tuple ds => if ds.length = n then gs ds else liftM none
  | _ => liftM none
theorem fg_tup {es : List Expr} {k : Nat} {ts : List Nat} {gs : List D → M Unit} {n : Nat} (hc : X.calm = true) (h : FGs X es ts gs)
    (hn : (assignEach es X.env).length = n := by rfl) (hst : (assignEach es X.env).findIdx? (·.1) = none := by rfl) : FG X (.Tuple es k pos) ts (tupG n gs) := imG (pg_tup hc h hn hst) fun v σ H Q h => by
  obtain ⟨G, ρ, d, ρ', E, r, hm, q⟩ := h
  unfold tupG at hm
  split at hm
  · split at hm
    · obtain ⟨p, xs, rfl, s, t⟩ := rp_tup r
      exact ⟨p, xs, rfl, sqt_mono E.sub s, by rw [t.length]; assumption, G, ρ, _, ρ', E, t, hm, q⟩
    · obtain ⟨hm, _⟩ := liftM_some hm
      cases hm
  · obtain ⟨hm, _⟩ := liftM_some hm
    cases hm

/-! ### slots forgotten, slots given back -/
def wipeR (ρ : Rho) : List Nat → Rho
  | [] => ρ
  | v :: vs => (wipeR ρ vs).set v none
def restR (ρ1 ρ : Rho) : List Nat → Rho
  | [] => ρ
  | v :: vs => (restR ρ1 ρ vs).set v (ρ1.getD v none)
theorem wipeR_len (ρ : Rho) : ∀ vs, (wipeR ρ vs).length = ρ.length
  | [] => rfl
  | v :: vs => by unfold wipeR; rw [List.length_set, wipeR_len ρ vs]
theorem restR_len (ρ1 ρ : Rho) : ∀ vs, (restR ρ1 ρ vs).length = ρ.length
  | [] => rfl
  | v :: vs => by unfold restR; rw [List.length_set, restR_len ρ1 ρ vs]
theorem wipeR_out (ρ : Rho) {i : Nat} : ∀ {vs : List Nat}, i ∉ vs → (wipeR ρ vs)[i]? = ρ[i]?
  | [], _ => rfl
  | v :: vs, h => by
    unfold wipeR
    rw [List.getElem?_set_ne (fun e => h (by rw [e]; exact List.mem_cons_self))]
    exact wipeR_out ρ fun z => h (List.mem_cons_of_mem _ z)
theorem wipeR_in (ρ : Rho) {i : Nat} {s : Sl} : ∀ {vs : List Nat}, i ∈ vs → (wipeR ρ vs)[i]? ≠ some (some s)
  | v :: vs, h => by
    unfold wipeR
    by_cases hv : v = i
    · subst hv
      by_cases hl : v < (wipeR ρ vs).length
      · rw [List.getElem?_set_self hl]; nofun
      · rw [List.getElem?_eq_none (by simpa using hl)]; nofun
    · rw [List.getElem?_set_ne hv]
      exact wipeR_in ρ ((List.mem_cons.mp h).resolve_left fun e => hv e.symm)
theorem restR_out (ρ1 ρ : Rho) {i : Nat} : ∀ {vs : List Nat}, i ∉ vs → (restR ρ1 ρ vs)[i]? = ρ[i]?
  | [], _ => rfl
  | v :: vs, h => by
    unfold restR
    rw [List.getElem?_set_ne (fun e => h (by rw [e]; exact List.mem_cons_self))]
    exact restR_out ρ1 ρ fun z => h (List.mem_cons_of_mem _ z)
theorem restR_in (ρ1 ρ : Rho) {i : Nat} {s : Sl} : ∀ {vs : List Nat}, i ∈ vs → (restR ρ1 ρ vs)[i]? = some (some s) → ρ1[i]? = some (some s)
  | v :: vs, h, e => by
    unfold restR at e
    by_cases hv : v = i
    · subst hv
      by_cases hl : v < (restR ρ1 ρ vs).length
      · rw [List.getElem?_set_self hl] at e
        have e' : ρ1.getD v none = some s := Option.some.inj e
        rw [List.getD_eq_getElem?_getD] at e'
        cases q : ρ1[v]? with
        | none => rw [q] at e'; cases e'
        | some o => rw [q] at e'; exact congrArg some e'
      · rw [List.getElem?_eq_none (by simpa using hl)] at e
        cases e
    · rw [List.getElem?_set_ne hv] at e
      exact restR_in ρ1 ρ ((List.mem_cons.mp h).resolve_left fun z => hv z.symm) e
theorem wipe_out' (σ : L2.St) {i : Nat} {vs : List Nat} (h : i ∉ vs) : (L2.wipe σ vs)[i]? = σ[i]? := L2.wipe_out h
theorem wipe_eq : ∀ {vs : List Nat} {σ σ' : L2.St}, σ'.length = σ.length → (∀ i : Nat, i ∉ vs → σ'[i]? = σ[i]?) → L2.wipe σ' vs = L2.wipe σ vs := by
  intro vs σ σ' hl h
  apply List.ext_getElem?
  intro i
  by_cases hi : i ∈ vs
  · have key : ∀ (τ : L2.St) (us : List Nat), i ∈ us → (L2.wipe τ us)[i]? = if i < τ.length then some none else none := by
      intro τ us
      induction us with
      | nil => intro z; cases z
      | cons v us ih =>
        intro z
        unfold L2.wipe
        by_cases hv : v = i
        · subst hv
          by_cases hl : v < τ.length
          · rw [List.getElem?_set_self (by rw [L2.wipe_length]; exact hl), if_pos hl]
          · rw [List.getElem?_eq_none (by rw [List.length_set, L2.wipe_length]; omega), if_neg hl]
        · rw [List.getElem?_set_ne hv]
          exact ih ((List.mem_cons.mp z).resolve_left fun e => hv e.symm)
    rw [key σ' vs hi, key σ vs hi, hl]
  · rw [wipe_out' σ' hi, wipe_out' σ hi]
    exact h i hi
def noOwn (ρ : Rho) (vs : List Nat) : Bool := vs.all fun i => match ρ[i]? with
  | some (some (.ow _)) => false
  | _ => true
theorem noOwn_at {ρ : Rho} {vs : List Nat} (h : noOwn ρ vs = true) {i : Nat} (hi : i ∈ vs) {d : D} (e : ρ[i]? = some (some (Sl.ow d))) : False := by
  unfold noOwn at h
  have := List.all_eq_true.mp h i hi
  rw [e] at this
  cases this
theorem EnvR.wipe {K : PySem.W.Frag} {G H : Hp} {σ : L2.St} {ρ : Rho} (E : EnvR K G H σ ρ) (vs : List Nat) : EnvR K G H (L2.wipe σ vs) (wipeR ρ vs) := by
  have key : ∀ (i : Nat) (s : Sl), (wipeR ρ vs)[i]? = some (some s) → i ∉ vs ∧ ρ[i]? = some (some s) := fun i s h => by
    by_cases hi : i ∈ vs
    · exact absurd h (wipeR_in ρ hi)
    · rw [wipeR_out ρ hi] at h; exact ⟨hi, h⟩
  refine ⟨E.sub, by rw [wipeR_len, L2.wipe_length]; exact E.len, fun i d h => ?_, fun i d h => ?_, fun i j d e p hi hj a b => ?_⟩
  · obtain ⟨hi, h⟩ := key i _ h
    rw [wipe_out' σ hi]
    exact E.fz i d h
  · obtain ⟨hi, h⟩ := key i _ h
    rw [wipe_out' σ hi]
    exact E.ow i d h
  · obtain ⟨hi', hi⟩ := key i _ hi
    obtain ⟨hj', hj⟩ := key j _ hj
    rw [wipe_out' σ hi'] at a
    rw [wipe_out' σ hj'] at b
    exact E.ap i j d e p hi hj a b
theorem root_wipe {σ : L2.St} {ρ : Rho} {vs : List Nat} {a : Addr} (h : root (L2.wipe σ vs) (wipeR ρ vs) a) : root σ ρ a := by
  obtain ⟨i, d, e1, e2⟩ := h
  by_cases hi : i ∈ vs
  · exact absurd e2 (wipeR_in ρ hi)
  · rw [wipe_out' σ hi] at e1
    rw [wipeR_out ρ hi] at e2
    exact ⟨i, d, e1, e2⟩
theorem EnvR.updO {K : PySem.W.Frag} {G H : Hp} {σ : L2.St} {ρ : Rho} (E : EnvR K G H σ ρ) {p : Addr} (o : HO) (g : G p = none) (nr : ¬ root σ ρ p) : EnvR K G (upd H p o) σ ρ := by
  refine ⟨fun b u e => by rw [upd_ne (ne_of_none e g)]; exact E.sub _ _ e, E.len, E.fz, fun i d h => ?_, E.ap⟩
  obtain ⟨q, q1, q2, q3⟩ := E.ow i d h
  have hne : q ≠ p := fun z => nr ⟨i, d, by rw [← z]; exact q1, h⟩
  exact ⟨q, q1, q2, q3.mono (.refl _) fun o' e => by rw [upd_ne hne]; exact e⟩
/-- a turn's end: back to the wiped slots -/
theorem Stp.turn {K : PySem.W.Frag} {G H G' H' : Hp} {σ σ2 : L2.St} {ρ ρ2 ρ3 : Rho} {ts vs : List Nat} (T : TgS K ts G H (L2.wipe σ vs) ρ σ2 ρ2) (hts : ∀ i ∈ ts, i ∈ vs) (S : Stp K σ2 G H ρ2 G' H' ρ3) : Stp K (L2.wipe σ vs) G H ρ G' H' (wipeR ρ3 vs) ∧ L2.wipe σ2 vs = L2.wipe σ vs := by
  have ew : L2.wipe σ2 vs = L2.wipe σ vs := by
    have e1 := wipe_eq (vs := vs) (σ := L2.wipe σ vs) (σ' := σ2) T.len fun i hi => T.off i fun z => hi (hts i z)
    have e2 := wipe_eq (vs := vs) (σ := σ) (σ' := L2.wipe σ vs) (L2.wipe_length _ _) fun i hi => wipe_out' σ hi
    exact e1.trans e2
  have EW := S.env.wipe vs
  rw [ew] at EW
  refine ⟨⟨EW, S.same, fun a o h => ?_, fun a o h n => S.keep a o h fun r => n (T.roots a r), fun a r => ?_, S.there⟩, ew⟩
  · rcases S.new a o h with z | z | z
    · exact .inl z
    · exact .inr (.inl z)
    · exact .inr (.inr (T.roots a z))
  · rw [← ew] at r
    exact T.roots a (S.roots a (root_wipe r))
/-- .. and the object under way changed -/
theorem Stp.updO {K : PySem.W.Frag} {G H G' H' : Hp} {σ : L2.St} {ρ ρ' : Rho} (S : Stp K σ G H ρ G' H' ρ') {p : Addr} (o : HO) (n : H p = none) (g : G' p = none) (E : EnvR K G H σ ρ) : Stp K σ G H ρ G' (upd H' p o) ρ' := by
  have nr : ¬ root σ ρ' p := fun r => by
    obtain ⟨u, hu⟩ := E.root_there (S.roots _ r)
    rw [n] at hu; cases hu
  refine ⟨S.env.updO o g nr, S.same, S.new, fun a u e nr' => ?_, S.roots, fun a e => ?_⟩
  · rw [upd_ne (ne_of_none e n)]; exact S.keep a u e nr'
  · by_cases ha : a = p
    · subst ha; exact n
    · rw [upd_ne ha] at e; exact S.there a e
/-- the loop's end: the slots given back -/
theorem Stp.rest {K : PySem.W.Frag} {G H G' H' : Hp} {σ : L2.St} {ρ ρ3 : Rho} {vs : List Nat} (E : EnvR K G H σ ρ) (S : Stp K (L2.wipe σ vs) G H (wipeR ρ vs) G' H' ρ3) (no : noOwn ρ vs = true) : Stp K σ G H ρ G' H' (restR ρ ρ3 vs) := by
  have key : ∀ (i : Nat) (s : Sl), (restR ρ ρ3 vs)[i]? = some (some s) → (i ∈ vs ∧ ρ[i]? = some (some s)) ∨ (i ∉ vs ∧ ρ3[i]? = some (some s)) := fun i s h => by
    by_cases hi : i ∈ vs
    · exact .inl ⟨hi, restR_in ρ ρ3 hi h⟩
    · rw [restR_out ρ ρ3 hi] at h; exact .inr ⟨hi, h⟩
  have own : ∀ (i : Nat) (d : D), (restR ρ ρ3 vs)[i]? = some (some (Sl.ow d)) → i ∉ vs ∧ ρ3[i]? = some (some (Sl.ow d)) := fun i d h => by
    rcases key i _ h with ⟨hi, e⟩ | z
    · exact (noOwn_at no hi e).elim
    · exact z
  refine ⟨⟨S.env.sub, ?_, fun i d h => ?_, fun i d h => ?_, fun i j d e p hi hj a b => ?_⟩, S.same, fun a o h => ?_, fun a o h n => S.keep a o h fun r => n (root_wipe r), fun a ⟨i, d, e1, e2⟩ => ?_, S.there⟩
  · rw [restR_len]
    have := S.env.len
    rw [L2.wipe_length] at this
    exact this
  · rcases key i _ h with ⟨_, e⟩ | ⟨hi, e⟩
    · obtain ⟨v, q, r⟩ := E.fz i d e
      exact ⟨v, q, r.mono S.same⟩
    · have := S.env.fz i d e
      rw [wipe_out' σ hi] at this
      exact this
  · obtain ⟨hi, e⟩ := own i d h
    have := S.env.ow i d e
    rw [wipe_out' σ hi] at this
    exact this
  · obtain ⟨hi', hi⟩ := own i d hi
    obtain ⟨hj', hj⟩ := own j e hj
    refine S.env.ap i j d e p hi hj ?_ ?_
    · rw [wipe_out' σ hi']; exact a
    · rw [wipe_out' σ hj']; exact b
  · rcases S.new a o h with z | z | z
    · exact .inl z
    · exact .inr (.inl z)
    · exact .inr (.inr (root_wipe z))
  · obtain ⟨hi, e⟩ := own i d e2
    exact root_wipe (S.roots a ⟨i, d, by rw [wipe_out' σ hi]; exact e1, e⟩)

/-! ### comprehensions -/
def wipeM (vs : List Nat) : M Unit := fun ρ => some ((), wipeR ρ vs)
def lcLoop (g : D → M Unit) (t : M Bool) (e : M Sl) (vs : List Nat) : List D → M (List D)
  | [] => pureM []
  | x :: xs => bindM (g x) fun _ => bindM t fun b => if b then bindM e fun r => bindM (wipeM vs) fun _ => bindM (lcLoop g t e vs xs) fun rs => pureM (r.d :: rs)
      else bindM (wipeM vs) fun _ => lcLoop g t e vs xs
def lcM (mi : M (List D)) (g : D → M Unit) (t : M Bool) (e : M Sl) (vs : List Nat) : M Sl := bindM mi fun its => fun ρ =>
  if its.length ≤ sizeLine ∧ noOwn ρ vs = true then (lcLoop g t e vs its (wipeR ρ vs)).map fun p => (.ow (.list p.1), restR ρ p.2 vs) else none
def yesM : M Bool := pureM true
abbrev FTs (X : Cx) (ifs : List Expr) (m : M Bool) : Prop := PTs X ifs (tMT X.K m)
theorem fts_nil : FTs X [] yesM := ⟨fun pins s σ H Q I h => pts_nil.run pins s σ H Q I (by
  obtain ⟨G, ρ, r, ρ', E, hm, q⟩ := h
  cases hm
  exact q H G (.refl E))⟩
theorem fts_one {n : M Bool} (h : FT X c n) : FTs X [c] n := pts_one h
theorem lc_in {K : PySem.W.Frag} {mi : M (List D)} {g : D → M Unit} {t : M Bool} {e : M Sl} {ts vs : List Nat} (hts : ∀ i ∈ ts, i ∈ vs) {σ : L2.St} {H : Hp} {Q : VK} (h : tM K (lcM mi g t e vs) σ H Q) : tLc (tMI K mi) (tMG K ts g) (tMT K t) (tM K e) vs σ H Q := by
  obtain ⟨G, ρ, r, ρ', E, hm, q⟩ := h
  obtain ⟨its, ρ1, e1, h2⟩ := bindM_some hm
  by_cases hc : its.length ≤ sizeLine ∧ noOwn ρ1 vs = true
  · rw [if_pos hc] at h2
    obtain ⟨⟨rs, ρ3⟩, e2, h3⟩ := Option.map_eq_some_iff.mp h2
    obtain ⟨rfl, rfl⟩ := Prod.mk.inj h3
    refine ⟨G, ρ, its, ρ1, E, e1, fun J H1 G1 S1 hJ Dd hD => ?_⟩
    have EW : EnvR K G1 H1 (L2.wipe σ vs) (wipeR ρ1 vs) := S1.env.wipe vs
    have gD : G1 Dd = none := S1.env.sub.free hD
    refine ⟨fun i m Hc => m = its.length - i ∧ i ≤ its.length ∧ ∃ Gc ρc accV accD rs', Stp K (L2.wipe σ vs) G1 H1 (wipeR ρ1 vs) Gc Hc ρc ∧ lcLoop g t e vs (its.drop i) ρc = some (rs', ρ3) ∧ rs = accD ++ rs' ∧ accD.length ≤ i ∧
      Hc Dd = some (.lst accV) ∧ Gc Dd = none ∧ RpAll K Gc accV accD, ⟨its.length, by simp, Nat.zero_le _, G1, wipeR ρ1 vs, [], [], rs, (Stp.refl EW).updO _ hD gD EW, e2, rfl, Nat.le_refl _, upd_same, gD, .nil⟩, ?_⟩
    rintro i m Hc ⟨rfl, hi, Gc, ρc, accV, accD, rs', T, hl, hr, ha, hDc, gDc, ra⟩
    have noroot : ∀ a, root (L2.wipe σ vs) ρc a → a ≠ Dd := fun a r z => by
      subst z
      obtain ⟨u, hu⟩ := EW.root_there (T.roots _ r)
      rw [hD] at hu; cases hu
    by_cases hlt : i < its.length
    · right
      have hx : its[i]? = some its[i] := List.getElem?_eq_getElem hlt
      obtain ⟨go, yl⟩ := (hJ i Gc Hc T.same T.env.sub).1 _ hx
      refine ⟨go, fun H' => ∃ m', m' < its.length - i ∧ (m' = its.length - (i + 1) ∧ i + 1 ≤ its.length ∧ ∃ Gc ρc accV accD rs', Stp K (L2.wipe σ vs) G1 H1 (wipeR ρ1 vs) Gc H' ρc ∧ lcLoop g t e vs (its.drop (i + 1)) ρc = some (rs', ρ3) ∧ rs = accD ++ rs' ∧ accD.length ≤ i + 1 ∧
        H' Dd = some (.lst accV) ∧ Gc Dd = none ∧ RpAll K Gc accV accD), fun H' z => z, fun x H' y => ?_⟩
      obtain ⟨G2, V2, rx⟩ := yl x H' y
      rw [List.drop_eq_getElem_cons hlt] at hl
      obtain ⟨_, ρt, et, hl2⟩ := bindM_some hl
      obtain ⟨b, ρ4, eb, hl3⟩ := bindM_some hl2
      have T2 := T.ext EW V2
      have g2 : G2 Dd = none := by
        cases z : G2 Dd with
        | none => rfl
        | some o =>
          rcases V2.new _ _ z with w | w
          · rw [gDc] at w; cases w
          · rw [hDc] at w; cases w
      refine ⟨G2, ρc, its[i], ρt, T2.env, rx, et, fun σ2 TG => ?_⟩
      have h2D : H' Dd = some (.lst accV) := V2.keep _ _ hDc
      refine ⟨(Stp.turn TG hts (.refl TG.env)).2, G2, ρt, b, ρ4, TG.env, eb, fun H3 G3 S3 => ?_⟩
      have nr2 : ¬ root σ2 ρt Dd := fun r => noroot _ (TG.roots _ r) rfl
      have h3D : H3 Dd = some (.lst accV) := S3.keep _ _ h2D nr2
      have g3 : G3 Dd = none := by
        cases z : G3 Dd with
        | none => rfl
        | some o =>
          rcases S3.new _ _ z with w | w | w
          · rw [g2] at w; cases w
          · rw [h2D] at w; cases w
          · exact (nr2 w).elim
      cases b with
      | false =>
        simp only [Bool.false_eq_true, if_false] at hl3 ⊢
        obtain ⟨_, ρ5, e5, hl4⟩ := bindM_some hl3
        cases e5
        have T3 := T2.trans EW (Stp.turn TG hts S3).1
        exact ⟨_, by omega, rfl, hlt, G3, _, accV, accD, rs', T3, hl4, hr, by omega, h3D, g3, (ra.mono V2.same).mono S3.same⟩
      | true =>
        simp only [if_true] at hl3 ⊢
        obtain ⟨r5, ρ5, e5, hl4⟩ := bindM_some hl3
        obtain ⟨_, ρ6, e6, hl5⟩ := bindM_some hl4
        cases e6
        obtain ⟨rs6, ρ7, e7, hl6⟩ := bindM_some hl5
        obtain ⟨rfl, rfl⟩ := pureM_some hl6
        refine ⟨G3, ρ4, r5, ρ5, S3.env, e5, fun v H4 G4 S4 r4 => ?_⟩
        have nr4 : ¬ root σ2 ρ4 Dd := fun r => nr2 (S3.roots _ r)
        have h4D : H4 Dd = some (.lst accV) := S4.keep _ _ h3D nr4
        obtain ⟨G4', S4', p4, sm4⟩ := r4.frz S3.env S4
        have g4 : G4' Dd = none := by
          cases z : G4' Dd with
          | none => rfl
          | some o =>
            rcases S4'.new _ _ z with w | w | w
            · rw [g3] at w; cases w
            · rw [h3D] at w; cases w
            · exact (nr4 w).elim
        have T4 := T2.trans EW (Stp.turn TG hts (S3.trans TG.env S4')).1
        have hal : accV.length < sizeLine := by rw [ra.length]; omega
        refine ⟨accV, h4D, hal, _, by omega, rfl, hlt, G4', _, accV ++ [v], accD ++ [r5.d], rs6, T4.updO _ hD g4 EW, e7, by rw [hr, List.append_assoc]; rfl, by rw [List.length_append]; simp; omega, upd_same, g4, ?_⟩
        exact (((ra.mono V2.same).mono S3.same).mono S4'.same).append (.one p4)
    · left
      have hie : i = its.length := by omega
      subst hie
      refine ⟨(hJ _ Gc Hc T.same T.env.sub).2 (Nat.le_refl _), ?_⟩
      rw [List.drop_length] at hl
      obtain ⟨rfl, rfl⟩ := pureM_some hl
      rw [List.append_nil] at hr
      subst hr
      exact q _ Hc Gc (S1.trans E (Stp.rest S1.env T hc.2)) ⟨Dd, rfl, S1.there _ hD, gDc, accV, hDc, ra⟩
  · rw [if_neg hc] at h2
    cases h2
theorem fe_lc {elt tg iter : Expr} {ifs : List Expr} {scope : Scope} {own : List (Str × Nat)} {mi : M (List D)} {ts : List Nat} {g : D → M Unit} {t : M Bool} {e : M Sl} (hc : X.calm = true) (hN : X.N.Nodup) (hi : FI X tg iter mi) (ok : BlkOk X.N X.env.scope scope own)
    (hg : ∀ (s : Shared) (H : Hp) (C : Addr) (cl : List (Str × Addr)) (fp : List Addr), FG (X.blk s H scope (compEnvC scope cl C X.env) fp) tg ts g) (ht : ∀ (s : Shared) (H : Hp) (C : Addr) (cl : List (Str × Addr)) (fp : List Addr), FTs (X.blk s H scope (compEnvC scope cl C X.env) fp) ifs t)
    (he : ∀ (s : Shared) (H : Hp) (C : Addr) (cl : List (Str × Addr)) (fp : List Addr), FE (X.blk s H scope (compEnvC scope cl C X.env) fp) elt e) {vs : List Nat} (hts : ∀ i ∈ ts, i ∈ vs := by decide) (hvs : own.map (·.2) = vs := by rfl) (hs : ∀ x, foldedSetIterable iter X.env x = pure x := by intro _; rfl) :
    FE X (.ListComp elt [⟨tg, iter, ifs, 0⟩] scope pos) (lcM mi g t e vs) := by
  subst hvs
  exact imE (pe_lc hc hN hi ok hg ht he hs) fun σ H Q h => lc_in hts h
end
end Fx

namespace Fx
open PySem PySem.Spec PyProof.Rows L2
/-- as Stp, the slots' values another list behind it -/
structure StpG (K : PySem.W.Frag) (σ : L2.St) (G H : Hp) (ρ : Rho) (σ' : L2.St) (G' H' : Hp) (ρ' : Rho) : Prop where
  env : EnvR K G' H' σ' ρ'
  same : Same G G'
  new : ∀ a o, G' a = some o → G a = some o ∨ H a = none ∨ root σ ρ a
  keep : ∀ a o, H a = some o → ¬ root σ ρ a → H' a = some o
  roots : ∀ a, root σ' ρ' a → root σ ρ a
  there : ∀ a, H' a = none → H a = none
section
variable {K : PySem.W.Frag} {σ σ1 σ2 : L2.St} {G H G1 H1 G2 H2 : Hp} {ρ ρ1 ρ2 : Rho}
theorem Stp.g (S : Stp K σ G H ρ G1 H1 ρ1) : StpG K σ G H ρ σ G1 H1 ρ1 := ⟨S.env, S.same, S.new, S.keep, S.roots, S.there⟩
theorem StpG.s (S : StpG K σ G H ρ σ G1 H1 ρ1) : Stp K σ G H ρ G1 H1 ρ1 := ⟨S.env, S.same, S.new, S.keep, S.roots, S.there⟩
theorem StpG.trans (A : StpG K σ G H ρ σ1 G1 H1 ρ1) (B : StpG K σ1 G1 H1 ρ1 σ2 G2 H2 ρ2) : StpG K σ G H ρ σ2 G2 H2 ρ2 := by
  refine ⟨B.env, A.same.trans B.same, fun a o h => ?_, fun a o h n => ?_, fun a r => A.roots a (B.roots a r), fun a h => A.there a (B.there a h)⟩
  · rcases B.new a o h with z | z | z
    · exact A.new a o z
    · exact .inr (.inl (A.there a z))
    · exact .inr (.inr (A.roots a z))
  · exact B.keep a o (A.keep a o h n) fun r => n (A.roots a r)
theorem TgS.g {ts : List Nat} (T : TgS K ts G H σ ρ σ1 ρ1) : StpG K σ G H ρ σ1 G H ρ1 := ⟨T.env, .refl _, fun _ _ h => .inl h, fun _ _ h _ => h, T.roots, fun _ h => h⟩
theorem EnvR.wipeG (E : EnvR K G H σ ρ) (vs : List Nat) : StpG K σ G H ρ (L2.wipe σ vs) G H (wipeR ρ vs) := ⟨E.wipe vs, .refl _, fun _ _ h => .inl h, fun _ _ h _ => h, fun _ => root_wipe, fun _ h => h⟩
theorem StpG.ext (A : StpG K σ G H ρ σ1 G1 H1 ρ1) (V : StepV G1 H1 G2 H2) : StpG K σ G H ρ σ1 G2 H2 ρ1 := A.trans (Stp.ofV A.env V).g
theorem StpG.updO (S : StpG K σ G H ρ σ1 G1 H1 ρ1) {p : Addr} (o : HO) (n : H p = none) (g : G1 p = none) (E : EnvR K G H σ ρ) : StpG K σ G H ρ σ1 G1 (upd H1 p o) ρ1 := by
  have nr : ¬ root σ1 ρ1 p := fun r => by
    obtain ⟨u, hu⟩ := E.root_there (S.roots _ r)
    rw [n] at hu; cases hu
  refine ⟨S.env.updO o g nr, S.same, S.new, fun a u e nr' => ?_, S.roots, fun a e => ?_⟩
  · rw [upd_ne (ne_of_none e n)]; exact S.keep a u e nr'
  · by_cases ha : a = p
    · subst ha; exact n
    · rw [upd_ne ha] at e; exact S.there a e
/-- what is neither frozen nor one's own is let be -/
theorem StpG.apart (A : StpG K σ G H ρ σ1 G1 H1 ρ1) (E : EnvR K G H σ ρ) (B : StpG K σ1 G1 H1 ρ1 σ2 G2 H2 ρ2) {p : Addr} {o : HO} (n : H p = none) (h : H1 p = some o) (g : G1 p = none) : H2 p = some o ∧ G2 p = none := by
  have nr : ¬ root σ1 ρ1 p := fun r => by
    obtain ⟨u, hu⟩ := E.root_there (A.roots _ r)
    rw [n] at hu; cases hu
  refine ⟨B.keep _ _ h nr, ?_⟩
  cases z : G2 p with
  | none => rfl
  | some o' =>
    rcases B.new _ _ z with w | w | w
    · rw [g] at w; cases w
    · rw [h] at w; cases w
    · exact (nr w).elim
end
theorem wipe_wipe {σ : L2.St} {vs vs1 : List Nat} (h : ∀ i ∈ vs1, i ∈ vs) : L2.wipe (L2.wipe σ vs1) vs = L2.wipe σ vs := wipe_eq (L2.wipe_length _ _) fun i hi => wipe_out' σ fun z => hi (h i z)

def lc2Loop (g : D → M Unit) (t : M Bool) (mi1 : M (List D)) (g1 : D → M Unit) (t1 : M Bool) (e : M Sl) (vs vs1 : List Nat) : List D → M (List D)
  | [] => pureM []
  | x :: xs => bindM (g x) fun _ => bindM t fun b => if b then bindM mi1 fun its => bindM (wipeM vs1) fun _ => bindM (lcLoop g1 t1 e vs1 its) fun rs1 => bindM (wipeM vs) fun _ => bindM (lc2Loop g t mi1 g1 t1 e vs vs1 xs) fun rs => pureM (rs1 ++ rs)
      else bindM (wipeM vs) fun _ => lc2Loop g t mi1 g1 t1 e vs vs1 xs
def lc2M (mi : M (List D)) (g : D → M Unit) (t : M Bool) (mi1 : M (List D)) (g1 : D → M Unit) (t1 : M Bool) (e : M Sl) (vs vs1 : List Nat) : M Sl := bindM mi fun its => fun ρ =>
  if noOwn ρ vs = true then (lc2Loop g t mi1 g1 t1 e vs vs1 its (wipeR ρ vs)).bind fun p => if p.1.length ≤ sizeLine then some (.ow (.list p.1), restR ρ p.2 vs) else none else none
theorem lc2_in {K : PySem.W.Frag} {mi mi1 : M (List D)} {g g1 : D → M Unit} {t t1 : M Bool} {e : M Sl} {ts ts1 vs vs1 : List Nat} (hts : ∀ i ∈ ts, i ∈ vs) (hts1 : ∀ i ∈ ts1, i ∈ vs1) (hv : ∀ i ∈ vs1, i ∈ vs) {σ : L2.St} {H : Hp} {Q : VK}
    (h : tM K (lc2M mi g t mi1 g1 t1 e vs vs1) σ H Q) : tLc2 (tMI K mi) (tMG K ts g) (tMT K t) (tMI K mi1) (tMG K ts1 g1) (tMT K t1) (tM K e) vs vs1 σ H Q := by
  obtain ⟨G, ρ, r, ρ', E, hm, q⟩ := h
  obtain ⟨its, ρ1, e1, h2⟩ := bindM_some hm
  by_cases hc : noOwn ρ1 vs = true
  · rw [if_pos hc] at h2
    obtain ⟨⟨rs, ρ3⟩, e2, h3⟩ := Option.bind_eq_some_iff.mp h2
    obtain ⟨hz, h3⟩ := ite_some h3
    obtain ⟨rfl, rfl⟩ := Prod.mk.inj h3
    refine ⟨G, ρ, its, ρ1, E, e1, fun J H1 G1 S1 hJ Dd hD => ?_⟩
    have EW : EnvR K G1 H1 (L2.wipe σ vs) (wipeR ρ1 vs) := S1.env.wipe vs
    have gD : G1 Dd = none := S1.env.sub.free hD
    let Inv0 : Nat → Hp → Prop := fun i Hc => i ≤ its.length ∧ ∃ Gc ρc accV accD rs', StpG K (L2.wipe σ vs) G1 H1 (wipeR ρ1 vs) (L2.wipe σ vs) Gc Hc ρc ∧ lc2Loop g t mi1 g1 t1 e vs vs1 (its.drop i) ρc = some (rs', ρ3) ∧ rs = accD ++ rs' ∧
      Hc Dd = some (.lst accV) ∧ Gc Dd = none ∧ RpAll K Gc accV accD
    refine ⟨fun i m Hc => m = its.length - i ∧ Inv0 i Hc, ⟨its.length, by simp, Nat.zero_le _, G1, wipeR ρ1 vs, [], [], rs, ((Stp.refl EW).updO _ hD gD EW).g, e2, rfl, upd_same, gD, .nil⟩, ?_⟩
    rintro i m Hc ⟨rfl, hi, Gc, ρc, accV, accD, rs', T, hl, hr, hDc, gDc, ra⟩
    by_cases hlt : i < its.length
    · right
      have hx : its[i]? = some its[i] := List.getElem?_eq_getElem hlt
      obtain ⟨go, yl⟩ := (hJ i Gc Hc T.same T.env.sub).1 _ hx
      refine ⟨go, fun H' => ∃ m', m' < its.length - i ∧ (m' = its.length - (i + 1) ∧ Inv0 (i + 1) H'), fun H' z => z, fun x H' y => ?_⟩
      obtain ⟨G2, V2, rx⟩ := yl x H' y
      rw [List.drop_eq_getElem_cons hlt] at hl
      obtain ⟨_, ρt, et, hl2⟩ := bindM_some hl
      obtain ⟨b, ρ4, eb, hl3⟩ := bindM_some hl2
      have B2 := (Stp.ofV T.env V2).g
      have T2 := T.trans B2
      obtain ⟨h2D, g2⟩ := T.apart EW B2 hD hDc gDc
      have ra2 := ra.mono V2.same
      refine ⟨G2, ρc, its[i], ρt, T2.env, rx, et, fun σ2 TG => ?_⟩
      have ew : L2.wipe σ2 vs = L2.wipe σ vs := (Stp.turn TG hts (.refl TG.env)).2
      have T2' := T2.trans TG.g
      refine ⟨ew, G2, ρt, b, ρ4, TG.env, eb, fun H3 G3 S3 => ?_⟩
      obtain ⟨h3D, g3⟩ := T2'.apart EW S3.g hD h2D g2
      have T3 := T2'.trans S3.g
      have ra3 := ra2.mono S3.same
      cases b with
      | false =>
        simp only [Bool.false_eq_true, if_false] at hl3 ⊢
        obtain ⟨_, ρ5, e5, hl4⟩ := bindM_some hl3
        cases e5
        have T4 := T3.trans (T3.env.wipeG vs)
        rw [ew] at T4
        exact ⟨_, by omega, rfl, hlt, G3, _, accV, accD, rs', T4, hl4, hr, h3D, g3, ra3⟩
      | true =>
        simp only [if_true] at hl3 ⊢
        obtain ⟨its1, ρ5, e5, hl4⟩ := bindM_some hl3
        obtain ⟨_, ρ6, e6, hl5⟩ := bindM_some hl4
        cases e6
        obtain ⟨rs1, ρ7, e7, hl6⟩ := bindM_some hl5
        obtain ⟨_, ρ8, e8, hl7⟩ := bindM_some hl6
        cases e8
        obtain ⟨rs2, ρ9, e9, hl8⟩ := bindM_some hl7
        obtain ⟨rfl, rfl⟩ := pureM_some hl8
        refine ⟨G3, ρ4, its1, ρ5, S3.env, e5, fun J1 H4 G4 S4 hJ1 => ?_⟩
        obtain ⟨h4D, g4⟩ := T3.apart EW S4.g hD h3D g3
        have T4 := T3.trans S4.g
        have T4w := T4.trans (T4.env.wipeG vs1)
        have ra4 := ra3.mono S4.same
        have eww : L2.wipe (L2.wipe σ2 vs1) vs = L2.wipe σ vs := (wipe_wipe hv).trans ew
        refine ⟨fun j k Hc => k = its1.length - j ∧ j ≤ its1.length ∧ ∃ Gc ρc accV accD rs', StpG K (L2.wipe σ vs) G1 H1 (wipeR ρ1 vs) (L2.wipe σ2 vs1) Gc Hc ρc ∧ Same G4 Gc ∧ lcLoop g1 t1 e vs1 (its1.drop j) ρc = some (rs', ρ7) ∧ rs = accD ++ (rs' ++ rs2) ∧
          Hc Dd = some (.lst accV) ∧ Gc Dd = none ∧ RpAll K Gc accV accD, ⟨its1.length, by simp, Nat.zero_le _, G4, _, accV, accD, rs1, T4w, .refl _, e7, hr, h4D, g4, ra4⟩, ?_⟩
        rintro j k Hd ⟨rfl, hj, Gd, ρd, accV, accD, rs', U, sG, hk, hr, hDd, gDd, rd⟩
        by_cases hlt1 : j < its1.length
        · right
          have hx1 : its1[j]? = some its1[j] := List.getElem?_eq_getElem hlt1
          obtain ⟨go1, yl1⟩ := (hJ1 j Gd Hd sG U.env.sub).1 _ hx1
          refine ⟨go1, fun H' => ∃ k', k' < its1.length - j ∧ (k' = its1.length - (j + 1) ∧ j + 1 ≤ its1.length ∧ ∃ Gc ρc accV accD rs', StpG K (L2.wipe σ vs) G1 H1 (wipeR ρ1 vs) (L2.wipe σ2 vs1) Gc H' ρc ∧ Same G4 Gc ∧ lcLoop g1 t1 e vs1 (its1.drop (j + 1)) ρc = some (rs', ρ7) ∧ rs = accD ++ (rs' ++ rs2) ∧
            H' Dd = some (.lst accV) ∧ Gc Dd = none ∧ RpAll K Gc accV accD), fun H' z => z, fun x1 H' y1 => ?_⟩
          obtain ⟨G5, V5, rx5⟩ := yl1 x1 H' y1
          rw [List.drop_eq_getElem_cons hlt1] at hk
          obtain ⟨_, ρu, eu, hk2⟩ := bindM_some hk
          obtain ⟨b1, ρv, ev, hk3⟩ := bindM_some hk2
          have B5 := (Stp.ofV U.env V5).g
          obtain ⟨h5D, g5⟩ := U.apart EW B5 hD hDd gDd
          have U5 := U.trans B5
          have rd5 := rd.mono V5.same
          refine ⟨G5, ρd, its1[j], ρu, U5.env, rx5, eu, fun σ3 TH => ?_⟩
          have ew3 : L2.wipe σ3 vs1 = L2.wipe σ2 vs1 := (Stp.turn TH hts1 (.refl TH.env)).2
          have U5' := U5.trans TH.g
          refine ⟨ew3, G5, ρu, b1, ρv, TH.env, ev, fun H6 G6 S6 => ?_⟩
          obtain ⟨h6D, g6⟩ := U5'.apart EW S6.g hD h5D g5
          have U6 := U5'.trans S6.g
          have rd6 := rd5.mono S6.same
          cases b1 with
          | false =>
            simp only [Bool.false_eq_true, if_false] at hk3 ⊢
            obtain ⟨_, ρx, ex, hk4⟩ := bindM_some hk3
            cases ex
            have U7 := U6.trans (U6.env.wipeG vs1)
            rw [ew3] at U7
            exact ⟨_, by omega, rfl, hlt1, G6, _, accV, accD, rs', U7, (sG.trans V5.same).trans S6.same, hk4, hr, h6D, g6, rd6⟩
          | true =>
            simp only [if_true] at hk3 ⊢
            obtain ⟨r7, ρx, ex, hk4⟩ := bindM_some hk3
            obtain ⟨_, ρy, ey, hk5⟩ := bindM_some hk4
            cases ey
            obtain ⟨rs7, ρz, ez, hk6⟩ := bindM_some hk5
            obtain ⟨rfl, rfl⟩ := pureM_some hk6
            refine ⟨G6, ρv, r7, ρx, S6.env, ex, fun v H7 G7 S7 rv => ?_⟩
            obtain ⟨G7', S7', p7, sm7⟩ := rv.frz S6.env S7
            obtain ⟨h7D, g7⟩ := U6.apart EW S7'.g hD h6D g6
            have U7 := U6.trans S7'.g
            have U8 := U7.trans (U7.env.wipeG vs1)
            rw [ew3] at U8
            have hal : accV.length < sizeLine := by
              rw [rd.length]
              rw [hr] at hz
              simp only [List.length_append, List.length_cons] at hz
              omega
            refine ⟨accV, h7D, hal, _, by omega, rfl, hlt1, G7', _, accV ++ [v], accD ++ [r7.d], rs7, U8.updO _ hD g7 EW, ((sG.trans V5.same).trans S6.same).trans S7'.same, ez, by rw [hr, List.append_assoc]; rfl, upd_same, g7, ?_⟩
            exact (rd6.mono S7'.same).append (.one p7)
        · left
          have hje : j = its1.length := by omega
          subst hje
          refine ⟨(hJ1 _ Gd Hd sG U.env.sub).2 (Nat.le_refl _), _, by omega, rfl, hlt, Gd, wipeR ρd vs, accV, accD, rs2, ?_, ?_, ?_, hDd, gDd, rd⟩
          · have U9 := U.trans (U.env.wipeG vs)
            rw [eww] at U9
            exact U9
          · rw [List.drop_length] at hk
            obtain ⟨rfl, rfl⟩ := pureM_some hk
            exact e9
          · rw [List.drop_length] at hk
            obtain ⟨rfl, rfl⟩ := pureM_some hk
            exact hr
    · left
      have hie : i = its.length := by omega
      subst hie
      refine ⟨(hJ _ Gc Hc T.same T.env.sub).2 (Nat.le_refl _), ?_⟩
      rw [List.drop_length] at hl
      obtain ⟨rfl, rfl⟩ := pureM_some hl
      rw [List.append_nil] at hr
      subst hr
      exact q _ Hc Gc (S1.trans E (Stp.rest S1.env T.s hc)) ⟨Dd, rfl, S1.there _ hD, gDc, accV, hDc, ra⟩
  · rw [if_neg hc] at h2
    cases h2
section
variable {X : Cx} {pos : Pos}
theorem fe_lc2 {elt tg iter tg1 iter1 : Expr} {ifs ifs1 : List Expr} {scope : Scope} {own : List (Str × Nat)} {vs1 : List Nat} {mi mi1 : M (List D)} {ts ts1 : List Nat} {g g1 : D → M Unit} {t t1 : M Bool} {e : M Sl} (hc : X.calm = true) (hN : X.N.Nodup) (hi : FI X tg iter mi) (ok : BlkOk X.N X.env.scope scope own)
    (hg : ∀ (s : Shared) (H : Hp) (C : Addr) (cl : List (Str × Addr)) (fp : List Addr), FG (X.blk s H scope (compEnvC scope cl C X.env) fp) tg ts g) (ht : ∀ (s : Shared) (H : Hp) (C : Addr) (cl : List (Str × Addr)) (fp : List Addr), FTs (X.blk s H scope (compEnvC scope cl C X.env) fp) ifs t)
    (hi1 : ∀ (s : Shared) (H : Hp) (C : Addr) (cl : List (Str × Addr)) (fp : List Addr), FI (X.blk s H scope (compEnvC scope cl C X.env) fp) tg1 iter1 mi1)
    (hg1 : ∀ (s : Shared) (H : Hp) (C : Addr) (cl : List (Str × Addr)) (fp : List Addr), FG (X.blk s H scope (compEnvC scope cl C X.env) fp) tg1 ts1 g1) (ht1 : ∀ (s : Shared) (H : Hp) (C : Addr) (cl : List (Str × Addr)) (fp : List Addr), FTs (X.blk s H scope (compEnvC scope cl C X.env) fp) ifs1 t1)
    (he : ∀ (s : Shared) (H : Hp) (C : Addr) (cl : List (Str × Addr)) (fp : List Addr), FE (X.blk s H scope (compEnvC scope cl C X.env) fp) elt e) {vs : List Nat} (hts : ∀ i ∈ ts, i ∈ vs := by decide) (hts1 : ∀ i ∈ ts1, i ∈ vs1 := by decide) (hv : ∀ i ∈ vs1, i ∈ vs := by decide) (hvs : own.map (·.2) = vs := by rfl) (hs : ∀ x, foldedSetIterable iter X.env x = pure x := by intro _; rfl) (hs1 : ∀ env x, foldedSetIterable iter1 env x = pure x := by intro _ _; rfl) :
    FE X (.ListComp elt [⟨tg, iter, ifs, 0⟩, ⟨tg1, iter1, ifs1, 0⟩] scope pos) (lc2M mi g t mi1 g1 t1 e vs vs1) := by
  subst hvs
  exact imE (pe_lc2 (vs1 := vs1) hc hN hi ok hv hg ht hi1 hg1 ht1 he hs hs1) fun σ H Q h => lc2_in hts hts1 hv h
end
end Fx

namespace Fx
open PySem PySem.Spec PyProof.Rows L2
/-! ### statements -/
inductive Fl where
  | nx | bk | ct
  | rt (r : Sl)
structure StpH (K : PySem.W.Frag) (ws : List Nat) (σ : L2.St) (G H : Hp) (ρ : Rho) (σ' : L2.St) (G' H' : Hp) (ρ' : Rho) : Prop where
  env : EnvR K G' H' σ' ρ'
  same : Same G G'
  new : ∀ a o, G' a = some o → G a = some o ∨ H a = none ∨ root σ ρ a
  keep : ∀ a o, H a = some o → ¬ root σ ρ a → H' a = some o
  roots : ∀ a, root σ' ρ' a → root σ ρ a ∨ H a = none
  there : ∀ a, H' a = none → H a = none
  len : σ'.length = σ.length
  off : ∀ i : Nat, i ∉ ws → σ'[i]? = σ[i]?
section
variable {K : PySem.W.Frag} {σ σ1 σ2 : L2.St} {G H G1 H1 G2 H2 : Hp} {ρ ρ1 ρ2 : Rho} {ws us ts : List Nat}
theorem StpH.trans (A : StpH K ws σ G H ρ σ1 G1 H1 ρ1) (E : EnvR K G H σ ρ) (B : StpH K us σ1 G1 H1 ρ1 σ2 G2 H2 ρ2) : StpH K (ws ++ us) σ G H ρ σ2 G2 H2 ρ2 := by
  refine ⟨B.env, A.same.trans B.same, fun a o h => ?_, fun a o h n => ?_, fun a r => ?_, fun a h => A.there a (B.there a h), B.len.trans A.len, fun i h => (B.off i fun z => h (List.mem_append_right _ z)).trans (A.off i fun z => h (List.mem_append_left _ z))⟩
  · rcases B.new a o h with z | z | z
    · exact A.new a o z
    · exact .inr (.inl (A.there a z))
    · rcases A.roots a z with z | z
      · exact .inr (.inr z)
      · exact .inr (.inl z)
  · refine B.keep a o (A.keep a o h n) fun r => ?_
    rcases A.roots a r with z | z
    · exact n z
    · rw [h] at z; cases z
  · rcases B.roots a r with z | z
    · exact A.roots a z
    · exact .inr (A.there a z)
theorem StpH.mono (A : StpH K ws σ G H ρ σ1 G1 H1 ρ1) (h : ∀ i ∈ ws, i ∈ us) : StpH K us σ G H ρ σ1 G1 H1 ρ1 := ⟨A.env, A.same, A.new, A.keep, A.roots, A.there, A.len, fun i hi => A.off i fun z => hi (h i z)⟩
theorem Stp.h (S : Stp K σ G H ρ G1 H1 ρ1) : StpH K ws σ G H ρ σ G1 H1 ρ1 := ⟨S.env, S.same, S.new, S.keep, fun a r => .inl (S.roots a r), S.there, rfl, fun _ _ => rfl⟩
theorem TgS.h (T : TgS K ts G H σ ρ σ1 ρ1) : StpH K ts σ G H ρ σ1 G H ρ1 := ⟨T.env, .refl _, fun _ _ h => .inl h, fun _ _ h _ => h, fun a r => .inl (T.roots a r), fun _ h => h, T.len, T.off⟩
/-- a returned value: data, or a container of one's own -/
def ResS (K : PySem.W.Frag) (σ : L2.St) (ρ : Rho) (G' H H' : Hp) (v : V) : Sl → Prop
  | .fz d => Rp K G' v d
  | .ow d => ∃ p, v = .ref p ∧ (H p = none ∨ root σ ρ p) ∧ G' p = none ∧ Own K G' H' p d
theorem ResV.res {v : V} {r : Sl} (h : ResV K G1 H H1 v r) : ResS K σ ρ G1 H H1 v r := by
  cases r with
  | fz d => exact h
  | ow d => obtain ⟨p, e, n, q⟩ := h; exact ⟨p, e, .inl n, q⟩
theorem ResS.back {v : V} {r : Sl} (A : StpH K ws σ G H ρ σ1 G1 H1 ρ1) (h : ResS K σ1 ρ1 G2 H1 H2 v r) : ResS K σ ρ G2 H H2 v r := by
  cases r with
  | fz d => exact h
  | ow d =>
    obtain ⟨p, e, n, q⟩ := h
    refine ⟨p, e, ?_, q⟩
    rcases n with n | n
    · exact .inl (A.there _ n)
    · rcases A.roots _ n with z | z
      · exact .inr z
      · exact .inl z
/-- a value stored, as it came -/
theorem EnvR.store (E : EnvR K G H σ ρ) (S : Stp K σ G H ρ G1 H1 ρ1) (i : Nat) {v : V} {r : Sl} (h : ResV K G1 H H1 v r) : StpH K [i] σ G H ρ (σ.set i (some v)) G1 H1 (ρ1.set i (some r)) := by
  cases r with
  | fz d =>
    have T := S.env.put i (show Rp K G1 v d from h)
    exact (S.h (ws := [])).trans E T.h
  | ow d =>
    obtain ⟨p, rfl, n, g, ow⟩ := h
    have nr : ¬ root σ ρ1 p := fun r => by
      obtain ⟨u, hu⟩ := E.root_there (S.roots _ r)
      rw [n] at hu; cases hu
    have ne : ∀ (j : Nat) (e : Sl), j ≠ i → (ρ1.set i (some (.ow d)))[j]? = some (some e) → ρ1[j]? = some (some e) := fun j e hj q => by rw [List.getElem?_set_ne (Ne.symm hj)] at q; exact q
    have at_i : ∀ (j : Nat) (e : Sl), j = i → (ρ1.set i (some (.ow d)))[j]? = some (some e) → e = .ow d ∧ i < ρ1.length := fun j e hj q => by
      subst hj
      have hi : j < ρ1.length := by
        have := (List.getElem?_eq_some_iff.mp q).1
        simpa using this
      rw [List.getElem?_set_self hi] at q
      cases q
      exact ⟨rfl, hi⟩
    have σne : ∀ j : Nat, j ≠ i → (σ.set i (some (V.ref p)))[j]? = σ[j]? := fun j hj => List.getElem?_set_ne (Ne.symm hj)
    have σi : i < ρ1.length → (σ.set i (some (V.ref p)))[i]? = some (some (V.ref p)) := fun hi => List.getElem?_set_self (by rw [← S.env.len]; exact hi)
    refine ⟨⟨S.env.sub, by simpa using S.env.len, fun j e q => ?_, fun j e q => ?_, fun j k e f q hj hk a b => ?_⟩, S.same, S.new, S.keep, fun a ⟨j, e, q1, q2⟩ => ?_, S.there, by simp, fun j hj => σne j (by simpa using hj)⟩
    · by_cases hj : j = i
      · cases (at_i j _ hj q).1
      · rw [σne j hj]
        exact S.env.fz j e (ne j _ hj q)
    · by_cases hj : j = i
      · obtain ⟨z, hi⟩ := at_i j _ hj q
        cases z
        subst hj
        exact ⟨p, σi hi, g, ow⟩
      · rw [σne j hj]
        exact S.env.ow j e (ne j _ hj q)
    · by_cases h1 : j = i
      · by_cases h2 : k = i
        · rw [h1, h2]
        · exfalso
          obtain ⟨z, hi⟩ := at_i j _ h1 hj
          subst h1
          rw [σi hi] at a
          cases a
          rw [σne k h2] at b
          exact nr ⟨k, f, b, ne k _ h2 hk⟩
      · by_cases h2 : k = i
        · exfalso
          obtain ⟨z, hi⟩ := at_i k _ h2 hk
          subst h2
          rw [σi hi] at b
          cases b
          rw [σne j h1] at a
          exact nr ⟨j, e, a, ne j _ h1 hj⟩
        · rw [σne j h1] at a
          rw [σne k h2] at b
          exact S.env.ap j k e f q (ne j _ h1 hj) (ne k _ h2 hk) a b
    · by_cases hj : j = i
      · obtain ⟨z, hi⟩ := at_i j _ hj q2
        subst hj
        rw [σi hi] at q1
        cases q1
        exact .inr n
      · rw [σne j hj] at q1
        exact .inl (S.roots a ⟨j, e, q1, ne j _ hj q2⟩)
end
def tMS (K : PySem.W.Frag) (ws : List Nat) (m : M Fl) : TS := fun D σ H => ∃ G ρ fl ρ', EnvR K G H σ ρ ∧ m ρ = some (fl, ρ') ∧ match fl with
  | .nx => ∀ σ' H' G', StpH K ws σ G H ρ σ' G' H' ρ' → D.nx σ' H'
  | .bk => ∀ σ' H' G', StpH K ws σ G H ρ σ' G' H' ρ' → D.bk σ' H'
  | .ct => ∀ σ' H' G', StpH K ws σ G H ρ σ' G' H' ρ' → D.ct σ' H'
  | .rt r => ∀ v σ' H' G', StpH K ws σ G H ρ σ' G' H' ρ' → ResS K σ ρ G' H H' v r → D.rt v H'
abbrev FS (X : Cx) (st : Stmt) (ws : List Nat) (m : M Fl) : Prop := PS X st (tMS X.K ws m)
abbrev FSs (X : Cx) (st : List Stmt) (ws : List Nat) (m : M Fl) : Prop := PSs X st (tMS X.K ws m)
def seqS (m n : M Fl) : M Fl := bindM m fun fl => match fl with
  | .nx => n
  | fl => pureM fl
section
variable {X : Cx} {st : Stmt} {rest : List Stmt} {ws us : List Nat} {m n : M Fl} {pos : Pos} {e : Expr} {me : M Sl}
theorem seqS_some {ρ ρ' : Rho} {fl : Fl} (h : seqS m n ρ = some (fl, ρ')) : (∃ ρ1, m ρ = some (.nx, ρ1) ∧ n ρ1 = some (fl, ρ')) ∨ (m ρ = some (fl, ρ') ∧ fl ≠ .nx) := by
  obtain ⟨f, ρ1, e1, h2⟩ := bindM_some h
  cases f with
  | nx => exact .inl ⟨ρ1, e1, h2⟩
  | _ =>
    obtain ⟨rfl, rfl⟩ := pureM_some h2
    exact .inr ⟨e1, nofun⟩
theorem fss_nil : FSs X [] [] (pureM .nx) := imSs pss_nil fun D σ H h => by
  obtain ⟨G, ρ, fl, ρ', E, hm, q⟩ := h
  cases hm
  exact q σ H G (Stp.refl E).h
theorem seq_in {K : PySem.W.Frag} {D : Ends} {σ : L2.St} {H : Hp} (h : tMS K (ws ++ us) (seqS m n) D σ H) : tSeq (tMS K ws m) (tMS K us n) D σ H := by
  obtain ⟨G, ρ, fl, ρ', E, hm, q⟩ := h
  have wl : ∀ i ∈ ws, i ∈ ws ++ us := fun i hi => List.mem_append_left _ hi
  rcases seqS_some hm with ⟨ρ1, e1, e2⟩ | ⟨e1, ne⟩
  · refine ⟨G, ρ, .nx, ρ1, E, e1, fun σ1 H1 G1 S1 => ⟨G1, ρ1, fl, ρ', S1.env, e2, ?_⟩⟩
    cases fl with
    | nx => exact fun σ2 H2 G2 S2 => q σ2 H2 G2 (S1.trans E S2)
    | bk => exact fun σ2 H2 G2 S2 => q σ2 H2 G2 (S1.trans E S2)
    | ct => exact fun σ2 H2 G2 S2 => q σ2 H2 G2 (S1.trans E S2)
    | rt r => exact fun v σ2 H2 G2 S2 rv => q v σ2 H2 G2 (S1.trans E S2) (rv.back S1)
  · refine ⟨G, ρ, fl, ρ', E, e1, ?_⟩
    cases fl with
    | nx => exact absurd rfl ne
    | bk => exact fun σ2 H2 G2 S2 => q σ2 H2 G2 (S2.mono wl)
    | ct => exact fun σ2 H2 G2 S2 => q σ2 H2 G2 (S2.mono wl)
    | rt r => exact fun v σ2 H2 G2 S2 rv => q v σ2 H2 G2 (S2.mono wl) rv
theorem fss_cons (h1 : FS X st ws m) (h2 : FSs X rest us n) : FSs X (st :: rest) (ws ++ us) (seqS m n) := imSs (pss_cons h1 h2) fun _ _ _ => seq_in
theorem fss_one (h1 : FS X st ws m) : FSs X [st] ws m := pss_one h1
theorem fs_pass : FS X (.Pass pos) [] (pureM .nx) := imS ps_pass fun D σ H h => by
  obtain ⟨G, ρ, fl, ρ', E, hm, q⟩ := h
  cases hm
  exact q σ H G (Stp.refl E).h
theorem fs_break : FS X (.Break pos) [] (pureM .bk) := imS ps_break fun D σ H h => by
  obtain ⟨G, ρ, fl, ρ', E, hm, q⟩ := h
  cases hm
  exact q σ H G (Stp.refl E).h
theorem fs_continue : FS X (.Continue pos) [] (pureM .ct) := imS ps_continue fun D σ H h => by
  obtain ⟨G, ρ, fl, ρ', E, hm, q⟩ := h
  cases hm
  exact q σ H G (Stp.refl E).h
/-- code that is not come to -/
theorem fs_never : FS X st [] (fun _ => none) := imS ps_never fun D σ H h => by
  obtain ⟨G, ρ, fl, ρ', E, hm, q⟩ := h
  cases hm
def dropS (m : M Sl) : M Fl := bindM m fun _ => pureM .nx
theorem fs_expr (he : FE X e me) (hs : swapsWith e none pos.line X.env = pure false := by rfl) : FS X (.Expr e pos) [] (dropS me) := imS (ps_expr he hs) fun D σ H h => by
  obtain ⟨G, ρ, fl, ρ', E, hm, q⟩ := h
  obtain ⟨r, ρ1, e1, h2⟩ := bindM_some hm
  cases h2
  exact ⟨G, ρ, r, _, E, e1, fun v H1 G1 S1 r1 => q σ H1 G1 S1.h⟩
def retS (m : M Sl) : M Fl := bindM m fun r => pureM (.rt r)
theorem fs_ret (he : FE X e me) : FS X (.Return (some e) pos) [] (retS me) := imS (ps_ret he) fun D σ H h => by
  obtain ⟨G, ρ, fl, ρ', E, hm, q⟩ := h
  obtain ⟨r, ρ1, e1, h2⟩ := bindM_some hm
  cases h2
  exact ⟨G, ρ, r, _, E, e1, fun v H1 G1 S1 r1 => q v σ H1 G1 S1.h r1.res⟩
theorem fs_retN : FS X (.Return none pos) [] (pureM (.rt (.fz .none))) := imS ps_retN fun D σ H h => by
  obtain ⟨G, ρ, fl, ρ', E, hm, q⟩ := h
  cases hm
  exact q .non σ H G (Stp.refl E).h .non
/-- a name returned: a container of one's own stays one -/
def retV (i : Nat) : M Fl := fun ρ => match ρ[i]? with
  | some (some s) => some (.rt s, ρ)
  | _ => none
theorem fs_retV (i : Nat) {x : Str} {p : Pos} (hN : X.N[i]? = some x := by rfl) (hv : Vis X.env.scope x := by first | exact Or.inl rfl | exact Or.inr (Or.inl rfl) | exact Or.inr (Or.inr rfl)) (hd : (x == ("__debug__" : Str)) = false := by decide)
    (hcd : (x == ("__classdict__" : Str)) = false := by decide) : FS X (.Return (some (.Name x p)) pos) [] (retV i) := imS (ps_ret (pe_var (i := i) hN hv hd hcd)) fun D σ H h => by
  obtain ⟨G, ρ, fl, ρ', E, hm, q⟩ := h
  unfold retV at hm
  split at hm
  · rename_i s es
    cases hm
    cases s with
    | fz d =>
      obtain ⟨v, ev, rv⟩ := E.fz i d es
      exact ⟨v, ev, q v σ H G (Stp.refl E).h rv⟩
    | ow d =>
      obtain ⟨p, ev, g, ow⟩ := E.ow i d es
      exact ⟨_, ev, q _ σ H G (Stp.refl E).h ⟨p, rfl, .inr ⟨i, d, ev, es⟩, g, ow⟩⟩
  · cases hm
/-- x = e -/
def setS (i : Nat) (m : M Sl) : M Fl := bindM m fun r => fun ρ => some (.nx, ρ.set i (some r))
theorem set_in {K : PySem.W.Frag} {i : Nat} {D : Ends} {σ : L2.St} {H : Hp} (h : tMS K [i] (setS i me) D σ H) : tAsg (tM K me) (gName i) D σ H := by
  obtain ⟨G, ρ, fl, ρ', E, hm, q⟩ := h
  obtain ⟨r, ρ1, e1, h2⟩ := bindM_some hm
  cases h2
  exact ⟨G, ρ, r, ρ1, E, e1, fun v H1 G1 S1 r1 => q _ H1 G1 (E.store S1 i r1)⟩
theorem fs_set (i : Nat) {x : Str} {pos' : Pos} (he : FE X e me) (hN : X.N.Nodup) (hi : X.N[i]? = some x) (hx : Loc X.env.scope x) (hs : swapsWith e (some (.Name x pos')) pos.line X.env = pure false := by rfl) (hf : X.fn x = true ∨ X.env.scope.names.lookup x = some .local := by first | exact .inl rfl | exact .inr rfl | assumption) :
    FS X (.Assign [.Name x pos'] e pos) [i] (setS i me) := imS (ps_set hN hi hx he hs hf) fun _ _ _ => set_in
theorem fs_setLc (i : Nat) {y : Str} {py : Pos} {elt tg iter : Expr} {ifs : List Expr} {scope : Scope} {own : List (Str × Nat)} {spos : Pos} {mi : M (List D)} {ts : List Nat} {g : D → M Unit} {t : M Bool} {e : M Sl} (hc : X.calm = true) (hN : X.N.Nodup) (hy : X.N[i]? = some y) (hyl : X.env.scope.names.lookup y = some .local)
    (hsw : swapsWith (.ListComp elt [⟨tg, iter, ifs, 0⟩] scope pos) (some (.Name y py)) spos.line X.env = pure true) (hi : FI X tg iter mi) (ok : BlkOk X.N X.env.scope scope own)
    (hg : ∀ (s : Shared) (H : Hp) (C : Addr) (cl : List (Str × Addr)) (fp : List Addr), FG (X.blk s H scope (compEnvC scope cl C X.env) fp) tg ts g) (ht : ∀ (s : Shared) (H : Hp) (C : Addr) (cl : List (Str × Addr)) (fp : List Addr), FTs (X.blk s H scope (compEnvC scope cl C X.env) fp) ifs t)
    (he : ∀ (s : Shared) (H : Hp) (C : Addr) (cl : List (Str × Addr)) (fp : List Addr), FE (X.blk s H scope (compEnvC scope cl C X.env) fp) elt e) {vs : List Nat} (hts : ∀ i ∈ ts, i ∈ vs := by decide) (hvs : own.map (·.2) = vs := by rfl) (hs : ∀ x, foldedSetIterable iter X.env x = pure x := by intro _; rfl) :
    FS X (.Assign [.Name y py] (.ListComp elt [⟨tg, iter, ifs, 0⟩] scope pos) spos) [i] (setS i (lcM mi g t e vs)) := by
  subst hvs
  exact imS (ps_setLc hc hN hy hyl hsw hi ok hg ht he hs) fun D σ H h => lc_in hts (set_in h)
theorem fs_setLc2 (i : Nat) {y : Str} {py : Pos} {elt tg iter tg1 iter1 : Expr} {ifs ifs1 : List Expr} {scope : Scope} {own : List (Str × Nat)} {vs1 : List Nat} {spos : Pos} {mi mi1 : M (List D)} {ts ts1 : List Nat} {g g1 : D → M Unit} {t t1 : M Bool} {e : M Sl} (hc : X.calm = true) (hN : X.N.Nodup) (hy : X.N[i]? = some y) (hyl : X.env.scope.names.lookup y = some .local)
    (hsw : swapsWith (.ListComp elt [⟨tg, iter, ifs, 0⟩, ⟨tg1, iter1, ifs1, 0⟩] scope pos) (some (.Name y py)) spos.line X.env = pure true) (hi : FI X tg iter mi) (ok : BlkOk X.N X.env.scope scope own)
    (hg : ∀ (s : Shared) (H : Hp) (C : Addr) (cl : List (Str × Addr)) (fp : List Addr), FG (X.blk s H scope (compEnvC scope cl C X.env) fp) tg ts g) (ht : ∀ (s : Shared) (H : Hp) (C : Addr) (cl : List (Str × Addr)) (fp : List Addr), FTs (X.blk s H scope (compEnvC scope cl C X.env) fp) ifs t)
    (hi1 : ∀ (s : Shared) (H : Hp) (C : Addr) (cl : List (Str × Addr)) (fp : List Addr), FI (X.blk s H scope (compEnvC scope cl C X.env) fp) tg1 iter1 mi1)
    (hg1 : ∀ (s : Shared) (H : Hp) (C : Addr) (cl : List (Str × Addr)) (fp : List Addr), FG (X.blk s H scope (compEnvC scope cl C X.env) fp) tg1 ts1 g1) (ht1 : ∀ (s : Shared) (H : Hp) (C : Addr) (cl : List (Str × Addr)) (fp : List Addr), FTs (X.blk s H scope (compEnvC scope cl C X.env) fp) ifs1 t1)
    (he : ∀ (s : Shared) (H : Hp) (C : Addr) (cl : List (Str × Addr)) (fp : List Addr), FE (X.blk s H scope (compEnvC scope cl C X.env) fp) elt e) {vs : List Nat} (hts : ∀ i ∈ ts, i ∈ vs := by decide) (hts1 : ∀ i ∈ ts1, i ∈ vs1 := by decide) (hv : ∀ i ∈ vs1, i ∈ vs := by decide) (hvs : own.map (·.2) = vs := by rfl) (hs : ∀ x, foldedSetIterable iter X.env x = pure x := by intro _; rfl) (hs1 : ∀ env x, foldedSetIterable iter1 env x = pure x := by intro _ _; rfl) :
    FS X (.Assign [.Name y py] (.ListComp elt [⟨tg, iter, ifs, 0⟩, ⟨tg1, iter1, ifs1, 0⟩] scope pos) spos) [i] (setS i (lc2M mi g t mi1 g1 t1 e vs vs1)) := by
  subst hvs
  exact imS (ps_setLc2 hc hN hy hyl hsw hi ok hv hg ht hi1 hg1 ht1 he hs hs1) fun D σ H h => lc2_in hts hts1 hv (set_in h)
/-- targets = e -/
def asgS (g : D → M Unit) (m : M Sl) : M Fl := bindM m fun r => bindM (g r.d) fun _ => pureM .nx
theorem fs_asg {tg : Expr} {ts : List Nat} {g : D → M Unit} (he : FE X e me) (hg : FG X tg ts g) (hs : swapsWithSole [tg] e pos.line X.env = pure false := by rfl) (hw : swappedStores [tg] e X.env = pure none := by rfl)
    (h1 : (assignEach [tg] X.env).map (·.2) = [assign tg X.env] := by rfl) : FS X (.Assign [tg] e pos) ts (asgS g me) := imS (ps_asg he hg hs hw h1) fun D σ H h => by
  obtain ⟨G, ρ, fl, ρ', E, hm, q⟩ := h
  obtain ⟨r, ρ1, e1, h2⟩ := bindM_some hm
  obtain ⟨_, ρ2, e2, h3⟩ := bindM_some h2
  cases h3
  refine ⟨G, ρ, r, ρ1, E, e1, fun v H1 G1 S1 r1 => ?_⟩
  obtain ⟨G1', S1', p1, _⟩ := r1.frz E S1
  exact ⟨G1', ρ1, r.d, ρ', S1'.env, p1, e2, fun σ2 T => q σ2 H1 G1' ((S1'.h (ws := [])).trans E T.h)⟩
/-- x, y = e, f -/
def parS (i j : Nat) (m : M (List D)) : M Fl := bindM m fun ds => match ds with
  | [d, e] => fun ρ => some (.nx, (ρ.set i (some (.fz d))).set j (some (.fz e)))
  | _ => liftM none
theorem fs_par {i j : Nat} {x y : Str} {a b : Expr} {ma : M (List D)} {px py pt : Pos} {kt k2 pt2} (hc : X.calm = true) (hN : X.N.Nodup) (hi : X.N[i]? = some x) (hj : X.N[j]? = some y) (hij : i ≠ j)
    (hx : X.env.scope.names.lookup x = some .local) (hy : X.env.scope.names.lookup y = some .local) (ha : FA X [a, b] ma)
    (hw : swappedStores [.Tuple [.Name x px, .Name y py] kt pt] (.Tuple [a, b] k2 pt2) X.env = pure (some [x, y]))
    (hs : swapsWithSole [.Tuple [.Name x px, .Name y py] kt pt] (.Tuple [a, b] k2 pt2) pos.line X.env = pure false := by rfl) :
    FS X (.Assign [.Tuple [.Name x px, .Name y py] kt pt] (.Tuple [a, b] k2 pt2) pos) ([i] ++ [j]) (parS i j ma) := imS (ps_par hc hN hi hj hij hx hy ha hw hs) fun D σ H h => by
  obtain ⟨G, ρ, fl, ρ', E, hm, q⟩ := h
  obtain ⟨ds, ρ1, e1, h2⟩ := bindM_some hm
  refine ⟨G, ρ, ds, ρ1, E, e1, fun vs H1 G1 S1 r1 => ?_⟩
  split at h2
  · cases h2
    obtain ⟨v, w, rfl, p1, p2⟩ := rp2 r1
    have T1 := S1.env.put i p1
    have T2 := T1.env.put j p2
    exact ⟨v, w, rfl, q _ H1 G1 ((S1.h (ws := [])).trans E (T1.h.trans S1.env T2.h))⟩
  · obtain ⟨h2, _⟩ := liftM_some h2
    cases h2
/-- if -/
def ifS (t : M Bool) (m n : M Fl) : M Fl := bindM t fun b => if b then m else n
theorem fs_if {c : Expr} {a b : List Stmt} {t : M Bool} (hc : FT X c t) (ha : FSs X a ws m) (hb : FSs X b us n) : FS X (.If c a b pos) (ws ++ us) (ifS t m n) := imS (ps_if hc ha hb) fun D σ H h => by
  obtain ⟨G, ρ, fl, ρ', E, hm, q⟩ := h
  obtain ⟨k, ρ1, e1, h2⟩ := bindM_some hm
  have wl : ∀ i ∈ ([] : List Nat) ++ ws, i ∈ ws ++ us := fun i hi => List.mem_append_left _ hi
  have wr : ∀ i ∈ ([] : List Nat) ++ us, i ∈ ws ++ us := fun i hi => List.mem_append_right _ hi
  refine ⟨G, ρ, k, ρ1, E, e1, fun H1 G1 S1 => ?_⟩
  have T : StpH X.K [] σ G H ρ σ G1 H1 ρ1 := S1.h
  cases k with
  | true =>
    simp only [if_true] at h2 ⊢
    refine ⟨G1, ρ1, fl, ρ', S1.env, h2, ?_⟩
    cases fl with
    | nx => exact fun σ2 H2 G2 S2 => q σ2 H2 G2 ((T.trans E S2).mono wl)
    | bk => exact fun σ2 H2 G2 S2 => q σ2 H2 G2 ((T.trans E S2).mono wl)
    | ct => exact fun σ2 H2 G2 S2 => q σ2 H2 G2 ((T.trans E S2).mono wl)
    | rt r => exact fun v σ2 H2 G2 S2 rv => q v σ2 H2 G2 ((T.trans E S2).mono wl) (rv.back T)
  | false =>
    simp only [Bool.false_eq_true, if_false] at h2 ⊢
    refine ⟨G1, ρ1, fl, ρ', S1.env, h2, ?_⟩
    cases fl with
    | nx => exact fun σ2 H2 G2 S2 => q σ2 H2 G2 ((T.trans E S2).mono wr)
    | bk => exact fun σ2 H2 G2 S2 => q σ2 H2 G2 ((T.trans E S2).mono wr)
    | ct => exact fun σ2 H2 G2 S2 => q σ2 H2 G2 ((T.trans E S2).mono wr)
    | rt r => exact fun v σ2 H2 G2 S2 rv => q v σ2 H2 G2 ((T.trans E S2).mono wr) (rv.back T)
/-- for -/
def forLoop (g : D → M Unit) (m : M Fl) : List D → M Fl
  | [] => pureM .nx
  | x :: xs => bindM (g x) fun _ => bindM m fun fl => match fl with
    | .nx => forLoop g m xs
    | .ct => forLoop g m xs
    | .bk => pureM .nx
    | .rt r => pureM (.rt r)
def forS (mi : M (List D)) (g : D → M Unit) (m : M Fl) : M Fl := bindM mi fun its => forLoop g m its
theorem for_in {K : PySem.W.Frag} {mi : M (List D)} {g : D → M Unit} {ts : List Nat} {D : Ends} {σ : L2.St} {H : Hp} (h : tMS K (ts ++ ws) (forS mi g m) D σ H) : tFor (tMI K mi) (tMG K ts g) (tMS K ws m) D σ H := by
  obtain ⟨G, ρ, fl, ρ', E, hm, q⟩ := h
  obtain ⟨its, ρ1, e1, h2⟩ := bindM_some hm
  refine ⟨G, ρ, its, ρ1, E, e1, fun J H1 G1 S1 hJ => ?_⟩
  have T0 : StpH K (ts ++ ws) σ G H ρ σ G1 H1 ρ1 := S1.h
  refine ⟨fun i m' σc Hc => m' = its.length - i ∧ i ≤ its.length ∧ ∃ Gc ρc, StpH K (ts ++ ws) σ G H ρ σc Gc Hc ρc ∧ Same G1 Gc ∧ forLoop g m (its.drop i) ρc = some (fl, ρ'), ⟨its.length, by simp, Nat.zero_le _, G1, ρ1, T0, .refl _, h2⟩, ?_⟩
  rintro i _ σc Hc ⟨rfl, hi, Gc, ρc, T, sG, hl⟩
  by_cases hlt : i < its.length
  · right
    have hx : its[i]? = some its[i] := List.getElem?_eq_getElem hlt
    obtain ⟨go, yl⟩ := (hJ i Gc Hc sG T.env.sub).1 _ hx
    refine ⟨go, fun σ' H' => ∃ m', m' < its.length - i ∧ (m' = its.length - (i + 1) ∧ i + 1 ≤ its.length ∧ ∃ Gc ρc, StpH K (ts ++ ws) σ G H ρ σ' Gc H' ρc ∧ Same G1 Gc ∧ forLoop g m (its.drop (i + 1)) ρc = some (fl, ρ')), fun σ' H' z => z, fun x H' y => ?_⟩
    obtain ⟨G2, V2, rx⟩ := yl x H' y
    rw [List.drop_eq_getElem_cons hlt] at hl
    obtain ⟨_, ρt, et, hl2⟩ := bindM_some hl
    obtain ⟨f, ρ4, ef, hl3⟩ := bindM_some hl2
    have B2 : StpH K (ts ++ ws) σc Gc Hc ρc σc G2 H' ρc := (Stp.ofV T.env V2).h
    refine ⟨G2, ρc, its[i], ρt, B2.env, rx, et, fun σ2 TG => ⟨G2, ρt, f, ρ4, TG.env, ef, ?_⟩⟩
    have back : ∀ {σ3 G3 H3 ρ3}, StpH K ws σ2 G2 H' ρt σ3 G3 H3 ρ3 → StpH K (ts ++ ws) σ G H ρ σ3 G3 H3 ρ3 := fun {σ3 G3 H3 ρ3} S => by
      have S' : StpH K (ts ++ ws) σc Gc Hc ρc σ3 G3 H3 ρ3 := by
        have z := B2.trans T.env (TG.h.trans B2.env S)
        exact z.mono fun i hi => by
          simp only [List.mem_append] at hi ⊢
          rcases hi with (h | h) | h | h <;> simp [h]
      exact (T.trans E S').mono fun i hi => by
        simp only [List.mem_append] at hi ⊢
        rcases hi with (h | h) | h | h <;> simp [h]
    have sm : ∀ {σ3 G3 H3 ρ3}, StpH K ws σ2 G2 H' ρt σ3 G3 H3 ρ3 → Same G1 G3 := fun S => (sG.trans V2.same).trans S.same
    cases f with
    | nx => exact fun σ3 H3 G3 S => ⟨_, by omega, rfl, hlt, G3, ρ4, back S, sm S, hl3⟩
    | ct => exact fun σ3 H3 G3 S => ⟨_, by omega, rfl, hlt, G3, ρ4, back S, sm S, hl3⟩
    | bk =>
      obtain ⟨rfl, rfl⟩ := pureM_some hl3
      exact fun σ3 H3 G3 S => q σ3 H3 G3 (back S)
    | rt r =>
      obtain ⟨rfl, rfl⟩ := pureM_some hl3
      refine fun v σ3 H3 G3 S rv => q v σ3 H3 G3 (back S) ?_
      have T2 : StpH K ((ts ++ ws) ++ ((ts ++ ws) ++ ts)) σ G H ρ σ2 G2 H' ρt := T.trans E (B2.trans T.env TG.h)
      exact rv.back T2
  · left
    have hie : i = its.length := by omega
    subst hie
    rw [List.drop_length] at hl
    obtain ⟨rfl, rfl⟩ := pureM_some hl
    exact ⟨(hJ _ Gc Hc sG T.env.sub).2 (Nat.le_refl _), q σc Hc Gc T⟩
theorem fs_for {tg iter : Expr} {body : List Stmt} {mi : M (List D)} {g : D → M Unit} {ts : List Nat} (hp : PassesOwn (model X.prog X.w) X.A X.env X.xe) (hc : X.calm = true) (hi : FI X tg iter mi) (hg : FG X tg ts g) (hb : FSs X body ws m)
    (hs : ∀ x, foldedSetIterable iter X.env x = pure x := by intro _; rfl) : FS X (.For tg iter body [] pos) (ts ++ ws) (forS mi g m) := imS (ps_for hp hc hi hg hb hs) fun _ _ _ => for_in
end
end Fx

namespace Fx
open PySem PySem.Spec PyProof.Rows L2
/-! ### defs: as the layer's, where no repr is under way -/
structure FnG (P : Program) (w : World) (K : PySem.W.Frag) (mg : Str → Option Value) (base : Heap) (CX : CXT) (k : Nat) (f : Addr) (fd : FuncData) (ps : List Str) (sp : Sp) : Prop where
  len : ∀ vs H Q E, sp vs H Q E → vs.length = ps.length
  run : ∀ (A : Around) (outer : List Env) (s : Shared) (H : Hp) (args : Args) (us : List Value) (vs : List V) (Q : VK) (E : XK), Room k A → A.guards = some [] → Env0 P w K mg base A outer s H →
    BindsTo s fd args (ps.zip us) → Vals vs us → sp vs H Q E → codeAny (model P w) A (.call (.ref f) args) (CR CX outer P w H s Q E) s
section
variable {P : Program} {w : World} {K : PySem.W.Frag} {mg : Str → Option Value} {base : Heap} {CX : CXT}
theorem FnG.mono {j k : Nat} {f : Addr} {fd : FuncData} {ps : List Str} {sp : Sp} (F : FnG P w K mg base CX j f fd ps sp) (h : j ≤ k) : FnG P w K mg base CX k f fd ps sp :=
  ⟨F.len, fun A o s H args us vs Q E hr => F.run A o s H args us vs Q E (hr.mono h)⟩
theorem FnG.of_body {x qual : Str} {st : Stmt} {f : Addr} {fd : FuncData} {N ps : List Str} {k : Nat} {sp : Sp} (F : Fun K x qual st f fd) (S : FnScope N ps (defScope st)) (len : ∀ vs H Q E, sp vs H Q E → vs.length = ps.length)
    (hbody : ∀ (cdv : Value) (A : Around) (outer : List Env) (s : Shared) (H : Hp) (vs : List V) (Q : VK) (E : XK), Room k (A.deeper (envOfC qual (defScope st) s.heap.objs.size f cdv)) → A.guards = some [] → sp vs H Q E →
      ∃ t, PSs (cxOf CX P w K mg base N qual (defScope st) f cdv A outer s H E) (defBody st) t ∧ t { nx := fun _ H' => Q .non H', rt := Q } (L2.start N vs) H) : FnG P w K mg base CX (k + 1) f fd ps sp := by
  obtain ⟨oc, od, kV, doc, pm, an, cdv, ct, osl, rfl, lk, hcd⟩ := F.ex
  refine ⟨len, fun A outer s H args us vs Q E room hg env0 hb rel hsp => ?_⟩
  have hl := len _ _ _ _ hsp
  have inK : K.In s.heap := env0.mod.kin.keeps fun b o e => (env0.bs b o e).1
  have nolim : s.heap.NoLimit := env0.mod.nolimit.keeps fun b o e => (env0.bs b o e).1
  refine codeAny_call_function room.depth (inK _ _ lk) rfl S.co S.gen rfl (PySem.W.codeRec_of inK hcd) (hb _ _ _ _ ?_)
  refine wpAny_newFunctionEnv_cells S.kind (fun ⟨n, v⟩ hy => ?_) fun env he s1 x => ?_
  · rcases S.par n (List.of_mem_zip hy).1 with q | q
    · exact .inl q
    · exact .inr ⟨q, PySem.W.cellsFrom_some _ _ _ (.inl q)⟩
  · subst he
    refine ⟨nolim.keeps x.toInCall.keep, codeAny_func ?_⟩
    obtain ⟨t, ht, hq⟩ := hbody cdv A outer s H vs Q E (room.deeper _) hg hsp
    have I := inv_start (CX := CX) (cd := cdv) (E := E) S room.hd env0 hl rel x
    refine wpAny_mono (ht.run [] s1 (L2.start N vs) H _ I hq) (fun fl s' hs => ?_) fun e s' hs => hs
    cases fl with
    | ret u => obtain ⟨v, _, H', J, rv, q⟩ := hs; exact ⟨v, H', J.os, J.bare, J.base, J.hok, rv, q⟩
    | next => obtain ⟨_, H', J, q⟩ := hs; exact ⟨V.non, H', J.os, J.bare, J.base, J.hok, rfl, q⟩
    | brk => obtain ⟨_, _, _, q⟩ := hs; exact q.elim
    | cont => obtain ⟨_, _, _, q⟩ := hs; exact q.elim
end
section
variable {X : Cx} {CX : CXT} {k : Nat} {f : Addr} {fd : FuncData} {ps : List Str} {sp : Sp} {E : XK} {x : Str} {p pos : Pos} {e : Expr} {es : List Expr} {t : TA}
theorem run_g {pins : List (Addr × Obj)} {σ : L2.St} {H : Hp} {s : Shared} {Q : VK} {us : List Value} {vs : List V} (F : FnG X.prog X.w X.K X.mg X.base CX k f fd ps sp) (hr : Room k X.A) (hgd : X.A.guards = some []) (hb : Binds X.K fd ps []) (hx : Passes CX X E)
    (I : L2.Inv X pins σ H s) (r : Vals vs us) (h : sp vs H Q E) : wpAny (model X.prog X.w) X.A (call (.ref f) us) (EP X pins σ Q) X.xe s := by
  have hl : us.length = ps.length := by rw [← r.length]; exact F.len _ _ _ _ h
  have hb' := hb s us I.kIn (by rw [List.append_nil]; exact hl)
  rw [List.append_nil] at hb'
  refine wpAny_call (codeAny_mono (F.run X.A X.stack s H ⟨us, []⟩ us vs Q E hr hgd I.env0 hb' r h) fun res s' hq => ?_)
  match res, hq with
  | .error er, hq => exact hx pins σ H s er s' I hq
  | .ok (.ret u), hq => exact I.after hq
theorem pe_callG (F : FnG X.prog X.w X.K X.mg X.base CX k f fd ps sp) (hr : Room k X.A) (hgd : X.A.guards = some []) (hg : Gl X x) (hm : X.mg x = some (.ref f)) (hk : PySem.W.keepIn X.K (.ref f) = true) (hb : Binds X.K fd ps []) (hx : Passes CX X E)
    (ha : PA X (e :: es) t) (hdb : (x == ("__debug__" : Str)) = false := by decide) (he : starEach (e :: es) X.env = (false, eval e X.env) :: starEach es X.env := by rfl) (hpl : (backTo pos (starEach es X.env)).any (·.1) = false := by rfl) :
    PE X (.Call (.Name x p) (e :: es) [] pos) (tCall sp [] E t) := by
  refine ⟨fun pins s σ H Q I h => wpAny_Call_Name_kw (ld_glob I hg hm ?_ hdb)⟩
  refine PySem.W.callWith_K (h₀ := X.base) I.ok.mod.kin hk (thn (ha.run pos pins s σ H _ I h) fun us s1 hs => ?_) he hpl
  obtain ⟨vs, H1, I1, r, q⟩ := hs
  rw [List.append_nil] at q
  exact ⟨I1.kIn, run_g F hr hgd hb hx I1 r q⟩
theorem pe_callG0 (F : FnG X.prog X.w X.K X.mg X.base CX k f fd ps sp) (hr : Room k X.A) (hgd : X.A.guards = some []) (hg : Gl X x) (hm : X.mg x = some (.ref f)) (hk : PySem.W.keepIn X.K (.ref f) = true) (hb : Binds X.K fd ps []) (hx : Passes CX X E)
    (hdb : (x == ("__debug__" : Str)) = false := by decide) : PE X (.Call (.Name x p) [] [] pos) (tCall sp [] E tNil) :=
  ⟨fun pins s σ H Q I h => wpAny_Call_Name_kw (ld_glob I hg hm (PySem.W.callWith_K0 I.kIn hk (run_g (us := []) F hr hgd hb hx I .nil h)) hdb)⟩
end
/-! ### a def by its function on data -/
def spF (K : PySem.W.Frag) (F : List D → Option Sl) : Sp := fun vs H Q _ => rLD K F vs H Q
def startR (N : List Str) (ds : List D) : Rho := ds.map (fun d => some (.fz d)) ++ List.replicate (N.length - ds.length) none
def outD : Option (Fl × Rho) → Option Sl
  | some (.rt r, _) => some r
  | some (.nx, _) => some (.fz .none)
  | _ => none
/-- the def's body m, with np parameters -/
def runF (np : Nat) (N : List Str) (m : M Fl) (ds : List D) : Option Sl := if ds.length = np then outD (m (startR N ds)) else none
theorem start_env {K : PySem.W.Frag} {G H : Hp} {N : List Str} {vs : List V} {ds : List D} (sub : Same G H) (r : RpAll K G vs ds) : EnvR K G H (L2.start N vs) (startR N ds) ∧ ∀ a, ¬ root (L2.start N vs) (startR N ds) a := by
  have hl := r.length
  have no : ∀ (i : Nat) (d : D), (startR N ds)[i]? ≠ some (some (Sl.ow d)) := fun i d h => by
    unfold startR at h
    rw [List.getElem?_append] at h
    split at h
    · rw [List.getElem?_map] at h
      cases q : ds[i]? with
      | none => rw [q] at h; cases h
      | some o => rw [q] at h; cases h
    · rw [List.getElem?_replicate] at h
      split at h <;> cases h
  refine ⟨⟨sub, by simp [L2.start, startR, hl], fun i d h => ?_, fun i d h => (no i d h).elim, fun i j d e p h => (no i d h).elim⟩, fun a ⟨i, d, _, h⟩ => no i d h⟩
  unfold startR at h
  rw [List.getElem?_append] at h
  split at h
  · rename_i hlt
    rw [List.getElem?_map] at h
    cases q : ds[i]? with
    | none => rw [q] at h; cases h
    | some o =>
      rw [q] at h
      cases h
      obtain ⟨v, ev, rv⟩ := r.getD q
      refine ⟨v, ?_, rv⟩
      unfold L2.start
      rw [List.getElem?_append_left (by rw [List.length_map, hl]; simpa using hlt), List.getElem?_map, ev]
      rfl
  · rw [List.getElem?_replicate] at h
    split at h <;> cases h
theorem StpH.v {K : PySem.W.Frag} {ws : List Nat} {σ σ' : L2.St} {G H G' H' : Hp} {ρ ρ' : Rho} (S : StpH K ws σ G H ρ σ' G' H' ρ') (n : ∀ a, ¬ root σ ρ a) : StepV G H G' H' :=
  ⟨S.same, S.env.sub, fun a o h => (S.new a o h).elim .inl fun z => z.elim .inr fun r => (n a r).elim, fun a o h => S.keep a o h (n a)⟩
section
variable {P : Program} {w : World} {K : PySem.W.Frag} {mg : Str → Option Value} {base : Heap}
abbrev CxF (P : Program) (w : World) (K : PySem.W.Frag) (mg : Str → Option Value) (base : Heap) (N : List Str) (qual : Str) (st : Stmt) (f : Addr) (cdv : Value) (A : Around) (outer : List Env) (s : Shared) (H : Hp) (E : XK) : Cx := (cxOf CX0 P w K mg base N qual (defScope st) f cdv A outer s H E).nox
abbrev FnF (P : Program) (w : World) (K : PySem.W.Frag) (mg : Str → Option Value) (base : Heap) (k : Nat) (f : Addr) (fd : FuncData) (ps : List Str) (F : List D → Option Sl) : Prop := FnG P w K mg base CX0 k f fd ps (spF K F)
theorem fn_ok {x qual : Str} {st : Stmt} {f : Addr} {fd : FuncData} {N ps : List Str} {k : Nat} {ws : List Nat} {m : M Fl} (F : Fun K x qual st f fd) (S : FnScope N ps (defScope st))
    (hbody : ∀ (cdv : Value) (A : Around) (outer : List Env) (s : Shared) (H : Hp) (E : XK), Room k (A.deeper (envOfC qual (defScope st) s.heap.objs.size f cdv)) → A.guards = some [] → FSs (CxF P w K mg base N qual st f cdv A outer s H E) (defBody st) ws m) :
    FnF P w K mg base (k + 1) f fd ps (runF ps.length N m) := by
  refine FnG.of_body F S (fun vs H Q E h => ?_) fun cdv A outer s H vs Q E hr hgd h => ?_
  · obtain ⟨G, ds, r, sub, rp, e, q⟩ := h
    unfold runF at e
    split at e
    · rw [rp.length]; assumption
    · cases e
  · refine ⟨_, (hbody cdv A outer s H E hr hgd).nox, ?_⟩
    obtain ⟨G, ds, r, sub, rp, e, q⟩ := h
    unfold runF at e
    split at e
    · obtain ⟨E0, nr⟩ := start_env (N := N) sub rp
      cases em : m (startR N ds) with
      | none => rw [em] at e; cases e
      | some o =>
        obtain ⟨fl, ρ'⟩ := o
        rw [em] at e
        refine ⟨G, _, fl, ρ', E0, em, ?_⟩
        cases fl with
        | nx => cases e; exact fun σ' H' G' S' => q _ H' G' (S'.v nr) .non
        | bk => cases e
        | ct => cases e
        | rt r' =>
          cases e
          refine fun v σ' H' G' S' rv => q v H' G' (S'.v nr) ?_
          cases r with
          | fz d => exact rv
          | ow d =>
            obtain ⟨p, e1, n, q1⟩ := rv
            exact ⟨p, e1, n.resolve_right (nr p), q1⟩
    · cases e
end
section
variable {X : Cx} {k : Nat} {f : Addr} {fd : FuncData} {ps : List Str} {x : Str} {p pos : Pos} {e : Expr} {es : List Expr} {F : List D → Option Sl} {m : M (List D)}
theorem fe_call (Fn : FnF X.prog X.w X.K X.mg X.base k f fd ps F) (hr : Room k X.A) (hgd : X.A.guards = some []) (hg : Gl X x) (hm : X.mg x = some (.ref f)) (hk : PySem.W.keepIn X.K (.ref f) = true) (hb : Binds X.K fd ps [])
    (ha : FA X (e :: es) m) (hdb : (x == ("__debug__" : Str)) = false := by decide) (he : starEach (e :: es) X.env = (false, eval e X.env) :: starEach es X.env := by rfl) (hpl : (backTo pos (starEach es X.env)).any (·.1) = false := by rfl) :
    FE X (.Call (.Name x p) (e :: es) [] pos) (callM F m) := imE (pe_callG Fn hr hgd hg hm hk hb pass0 ha hdb he hpl) fun σ H Q h => by
  have h2 := call_in h
  unfold tCall
  simp only [List.append_nil]
  exact h2
theorem fe_call0 (Fn : FnF X.prog X.w X.K X.mg X.base k f fd ps F) (hr : Room k X.A) (hgd : X.A.guards = some []) (hg : Gl X x) (hm : X.mg x = some (.ref f)) (hk : PySem.W.keepIn X.K (.ref f) = true) (hb : Binds X.K fd ps [])
    (hdb : (x == ("__debug__" : Str)) = false := by decide) : FE X (.Call (.Name x p) [] [] pos) (callM F nilM) := imE (pe_callG0 Fn hr hgd hg hm hk hb pass0 hdb) fun σ H Q h => by
  obtain ⟨G, ρ, r, ρ', E, hm, q⟩ := h
  obtain ⟨xs, ρ1, e1, h2⟩ := bindM_some hm
  cases e1
  obtain ⟨e3, rfl⟩ := liftM_some h2
  exact ⟨G, [], r, E.sub, .nil, e3, fun v H3 G3 S3 r3 => q v H3 G3 (Stp.ofV E S3) r3⟩
end
/-! ### containers of one's own, changed -/
section
variable {X : Cx} {pos : Pos} {a b : Expr} {ma mb : M Sl}
def ownM (i : Nat) : M D := fun ρ => match ρ[i]? with
  | some (some (.ow d)) => some (d, ρ)
  | _ => none
theorem ownM_some {i : Nat} {d : D} {ρ ρ' : Rho} (h : ownM i ρ = some (d, ρ')) : ρ' = ρ ∧ ρ[i]? = some (some (Sl.ow d)) := by
  unfold ownM at h
  split at h
  · rename_i s e
    cases h
    exact ⟨rfl, e⟩
  · cases h
def putO (i : Nat) (d : D) : M Unit := fun ρ => some ((), ρ.set i (some (.ow d)))
/-- the container in slot i has changed to what d tells -/
theorem EnvR.chg {K : PySem.W.Frag} {G H : Hp} {σ : L2.St} {ρ : Rho} (E : EnvR K G H σ ρ) {i : Nat} {d d' : D} {p : Addr} {o : HO} (h : ρ[i]? = some (some (Sl.ow d))) (hp : σ[i]? = some (some (V.ref p))) (ow : Own K G (upd H p o) p d') : Stp K σ G H ρ G (upd H p o) (ρ.set i (some (.ow d'))) := by
  obtain ⟨p', q1, g, ow0⟩ := E.ow i d h
  rw [hp] at q1
  cases q1
  have hi : i < ρ.length := (List.getElem?_eq_some_iff.mp h).1
  have rp : root σ ρ p := ⟨i, d, hp, h⟩
  have back : ∀ (j : Nat) (e : Sl), j ≠ i → (ρ.set i (some (.ow d')))[j]? = some (some e) → ρ[j]? = some (some e) := fun j e hj q => by rw [List.getElem?_set_ne (Ne.symm hj)] at q; exact q
  have own : ∀ (j : Nat) (e : D), (ρ.set i (some (.ow d')))[j]? = some (some (Sl.ow e)) → ∃ e', ρ[j]? = some (some (Sl.ow e')) := fun j e q => by
    by_cases hj : j = i
    · exact ⟨d, by rw [hj]; exact h⟩
    · exact ⟨e, back j _ hj q⟩
  refine ⟨⟨fun b u e => by rw [upd_ne (ne_of_none e g)]; exact E.sub _ _ e, by simpa using E.len, fun j e q => ?_, fun j e q => ?_, fun j k e f q hj hk a b => ?_⟩, .refl _, fun _ _ e => .inl e, fun a u e n => ?_, fun a ⟨j, e, q1, q2⟩ => ?_, fun a e => ?_⟩
  · by_cases hj : j = i
    · subst hj; rw [List.getElem?_set_self hi] at q; cases q
    · exact E.fz j e (back j _ hj q)
  · by_cases hj : j = i
    · subst hj
      rw [List.getElem?_set_self hi] at q
      cases q
      exact ⟨p, hp, g, ow⟩
    · obtain ⟨x, q1, q2, q3⟩ := E.ow j e (back j _ hj q)
      have hne : x ≠ p := fun z => hj (E.ap j i e d p (back j _ hj q) h (by rw [← z]; exact q1) hp)
      exact ⟨x, q1, q2, q3.mono (.refl _) fun o' e => by rw [upd_ne hne]; exact e⟩
  · obtain ⟨e', h1⟩ := own j e hj
    obtain ⟨f', h2⟩ := own k f hk
    exact E.ap j k e' f' q h1 h2 a b
  · rw [upd_ne fun z => n (by rw [z]; exact rp)]; exact e
  · obtain ⟨e', h1⟩ := own j e q2
    exact ⟨j, e', q1, h1⟩
  · by_cases ha : a = p
    · subst ha; rw [upd_same] at e; cases e
    · rw [upd_ne ha] at e; exact e
def ownL (i : Nat) : M (List D) := fun ρ => match ρ[i]? with
  | some (some (.ow (.list ds))) => some (ds, ρ)
  | _ => none
theorem ownL_some {i : Nat} {d : List D} {ρ ρ' : Rho} (h : ownL i ρ = some (d, ρ')) : ρ' = ρ ∧ ρ[i]? = some (some (Sl.ow (.list d))) := by
  unfold ownL at h
  split at h
  · rename_i s e
    cases h
    exact ⟨rfl, e⟩
  · cases h
/-- x.append(e) -/
def appendM (i : Nat) (m : M Sl) : M Sl := bindM (ownL i) fun _ => bindM m fun r => bindM (ownL i) fun ds => if ds.length < sizeLine then bindM (putO i (.list (ds ++ [r.d]))) fun _ => pureM (.fz .none) else liftM none
theorem fe_append (i : Nat) {x : Str} {px apos cpos : Pos} (hb : FE X b mb) (hN : X.N[i]? = some x := by rfl) (hv : Vis X.env.scope x := by first | exact Or.inl rfl | exact Or.inr (Or.inl rfl) | exact Or.inr (Or.inr rfl)) (hd : (x == ("__debug__" : Str)) = false := by decide)
    (hcd : (x == ("__classdict__" : Str)) = false := by decide) (hbase : attributeBase (.Name x px) "append" X.env (eval (.Name x px) X.env) = eval (.Name x px) X.env := by rfl)
    (hfew : ((backTo cpos (starEach [b] X.env)).all (fun x => !x.1) && (backToKw cpos (keywordEach [] X.env)).all (fun x => x.1.isSome)
      && decide (([b] : List Expr).length + ([] : List Keyword).length + (if ([] : List Keyword).isEmpty then 0 else 1) < 30)) = true := by rfl)
    (hline : (apos.endLine == cpos.line) = true := by rfl) (hs : starEach [b] X.env = (false, eval b X.env) :: starEach [] X.env := by rfl) :
    FE X (.Call (.Attribute (.Name x px) "append" apos) [b] [] cpos) (appendM i mb) :=
  imE (pe_bm PySem.F.plainAttrs_list PySem.F.slot_list_append PySem.F.type_list_append mt_append (pe_var (i := i) hN hv hd hcd) (pa_cons hb pa_nil hs) hbase hfew hline hs rfl) fun σ H Q h => by
    obtain ⟨G, ρ, r, ρ', E, hm, q⟩ := h
    obtain ⟨d0, ρ0, e0, h1⟩ := bindM_some hm
    obtain ⟨rfl, s0⟩ := ownL_some e0
    obtain ⟨y, ρ1, e1, h2⟩ := bindM_some h1
    obtain ⟨ds, ρ2, e2, h3⟩ := bindM_some h2
    obtain ⟨rfl, s1⟩ := ownL_some e2
    split at h3
    · rename_i hz
      obtain ⟨_, ρ4, e4, h5⟩ := bindM_some h3
      cases e4
      obtain ⟨rfl, rfl⟩ := pureM_some h5
      obtain ⟨p, ep, _, xs0, hx0, _⟩ := E.ow i _ s0
      refine ⟨_, ep, .inl ⟨rfl, xs0, .of hx0⟩, G, ρ0, y, _, E, e1, fun u H1 G1 S1 r1 => ?_⟩
      obtain ⟨G1', S1', p1, _⟩ := r1.frz E S1
      obtain ⟨p', ep', g, xs, hx, rx⟩ := S1'.env.ow i _ s1
      rw [ep] at ep'
      cases ep'
      refine ⟨p, xs, u, rfl, rfl, hx, by rw [rx.length]; exact hz, ?_⟩
      have C := S1'.env.chg (o := .lst (xs ++ [u])) (d' := .list (ds ++ [y.d])) s1 ep ⟨_, upd_same, rx.append (.one p1)⟩
      exact q _ _ G1' (S1'.trans E C) .non
    · obtain ⟨h3, _⟩ := liftM_some h3
      cases h3
/-- x[k] = e, x a list of one's own -/
def setLS (i : Nat) (mk me : M Sl) : M Fl := bindM me fun r => bindM (ownL i) fun _ => bindM mk fun k => bindM (ownL i) fun ds => match k.d with
  | .int j => (match ixN ds.length j with
    | some n => bindM (putO i (.list (ds.set n r.d))) fun _ => pureM .nx
    | none => liftM none)
  | _ => liftM none
theorem fs_setL (i : Nat) {x : Str} {px tpos : Pos} (he : FE X b mb) (hk : FE X a ma) (hN : X.N[i]? = some x := by rfl) (hv : Vis X.env.scope x := by first | exact Or.inl rfl | exact Or.inr (Or.inl rfl) | exact Or.inr (Or.inr rfl)) (hd : (x == ("__debug__" : Str)) = false := by decide)
    (hcd : (x == ("__classdict__" : Str)) = false := by decide)
    (ha : ∀ v, assign (.Subscript (.Name x px) a tpos) X.env v = (do
      let ov ← holding [v] (eval (.Name x px) X.env)
      let iv ← holding [v, ov] (eval a X.env)
      standAt tpos
      holding [v, ov, iv] (setItem ov iv v)
      release [v, ov, iv] []) := by intro _; rfl)
    (hs : swapsWithSole [.Subscript (.Name x px) a tpos] b pos.line X.env = pure false := by rfl) (hw : swappedStores [.Subscript (.Name x px) a tpos] b X.env = pure none := by rfl)
    (h1 : (assignEach [.Subscript (.Name x px) a tpos] X.env).map (·.2) = [assign (.Subscript (.Name x px) a tpos) X.env] := by rfl) :
    FS X (.Assign [.Subscript (.Name x px) a tpos] b pos) [] (setLS i ma mb) := imS (ps_asg he (pg_sub (pe_var (i := i) hN hv hd hcd) hk set_list ha) hs hw h1) fun D σ H h => by
  obtain ⟨G, ρ, fl, ρ', E, hm, q⟩ := h
  obtain ⟨r, ρ1, e1, h1⟩ := bindM_some hm
  obtain ⟨d0, ρ2, e2, h2⟩ := bindM_some h1
  obtain ⟨rfl, s0⟩ := ownL_some e2
  obtain ⟨k, ρ3, e3, h3⟩ := bindM_some h2
  obtain ⟨ds, ρ4, e4, h4⟩ := bindM_some h3
  obtain ⟨rfl, s1⟩ := ownL_some e4
  refine ⟨G, ρ, r, ρ2, E, e1, fun u H1 G1 S1 r1 => ?_⟩
  obtain ⟨G1', S1', p1, _⟩ := r1.frz E S1
  obtain ⟨p, ep, _, _⟩ := S1'.env.ow i _ s0
  refine ⟨_, ep, G1', ρ2, k, ρ4, S1'.env, e3, fun v H2 G2 S2 r2 => ?_⟩
  obtain ⟨G2', S2', p2, _⟩ := r2.frz S1'.env S2
  obtain ⟨p', ep', g, xs, hx, rx⟩ := S2'.env.ow i _ s1
  rw [ep] at ep'
  cases ep'
  cases ek : k.d with
  | int j =>
    rw [ek] at h4 p2
    simp only at h4
    cases en : ixN ds.length j with
    | none =>
      rw [en] at h4
      obtain ⟨h4, _⟩ := liftM_some h4
      cases h4
    | some n =>
      rw [en] at h4
      obtain ⟨_, ρ5, e5, h5⟩ := bindM_some h4
      cases e5
      obtain ⟨rfl, rfl⟩ := pureM_some h5
      refine ⟨p, xs, j, n, rfl, rp_int p2, hx, by rw [rx.length]; exact en, ?_⟩
      have C := S2'.env.chg (o := .lst (xs.set n u)) (d' := .list (ds.set n r.d)) s1 ep ⟨_, upd_same, rx.set (p1.mono S2'.same) n⟩
      exact q _ _ G2' (((S1'.trans E S2').trans E C).h)
  | _ =>
    rw [ek] at h4
    obtain ⟨h4, _⟩ := liftM_some h4
    cases h4
end

/-! ### a def that changes its first argument -/
def spM (K : PySem.W.Frag) (F : D → List D → Option (Sl × D)) : Sp := fun vs H Q _ => ∃ G p d0 vs' ds r d1, vs = .ref p :: vs' ∧ Same G H ∧ G p = none ∧ Own K G H p d0 ∧ RpAll K G vs' ds ∧ F d0 ds = some (r, d1) ∧
  ∀ v H' G', Same G G' → Same G' H' → (∀ a o, G' a = some o → G a = some o ∨ H a = none) → (∀ a o, H a = some o → a ≠ p → H' a = some o) → (∀ a, H' a = none → H a = none) → G' p = none → Own K G' H' p d1 →
    Rp K G' v r.d → Q v H'
abbrev FnM (P : Program) (w : World) (K : PySem.W.Frag) (mg : Str → Option Value) (base : Heap) (k : Nat) (f : Addr) (fd : FuncData) (ps : List Str) (F : D → List D → Option (Sl × D)) : Prop := FnG P w K mg base CX0 k f fd ps (spM K F)
def startM (N : List Str) (d0 : D) (ds : List D) : Rho := some (.ow d0) :: startR (N.drop 1) ds
def outM : Option (Fl × Rho) → Option (Sl × D)
  | some (.rt (.fz d), some (.ow d1) :: _) => some (.fz d, d1)
  | some (.nx, some (.ow d1) :: _) => some (.fz .none, d1)
  | _ => none
def runM (np : Nat) (N : List Str) (m : M Fl) (d0 : D) (ds : List D) : Option (Sl × D) := if ds.length + 1 = np then outM (m (startM N d0 ds)) else none
section
variable {P : Program} {w : World} {K : PySem.W.Frag} {mg : Str → Option Value} {base : Heap}
theorem startM_env {G H : Hp} {n : Str} {N : List Str} {p : Addr} {d0 : D} {vs : List V} {ds : List D} (sub : Same G H) (g : G p = none) (ow : Own K G H p d0) (r : RpAll K G vs ds) :
    EnvR K G H (L2.start (n :: N) (.ref p :: vs)) (startM (n :: N) d0 ds) ∧ ∀ a, root (L2.start (n :: N) (.ref p :: vs)) (startM (n :: N) d0 ds) a → a = p := by
  obtain ⟨E, nr⟩ := start_env (N := N) sub r
  have es : L2.start (n :: N) (.ref p :: vs) = some (.ref p) :: L2.start N vs := by simp [L2.start]
  have er : startM (n :: N) d0 ds = some (.ow d0) :: startR N ds := rfl
  have no : ∀ (i : Nat) (d : D), (startR N ds)[i]? ≠ some (some (Sl.ow d)) := fun i d h => by
    obtain ⟨q, q1, _⟩ := E.ow i d h
    exact nr q ⟨i, d, q1, h⟩
  rw [es, er]
  have own0 : ∀ (i : Nat) (d : D), (some (Sl.ow d0) :: startR N ds : Rho)[i]? = some (some (Sl.ow d)) → i = 0 ∧ d = d0 := fun i d h => by
    cases i with
    | zero => cases h; exact ⟨rfl, rfl⟩
    | succ i => exact (no i d h).elim
  refine ⟨⟨sub, by simp [E.len], fun i d h => ?_, fun i d h => ?_, fun i j d e q h h' _ _ => by rw [(own0 i d h).1, (own0 j e h').1]⟩, fun a ⟨i, d, h1, h2⟩ => ?_⟩
  · cases i with
    | zero => cases h
    | succ i => exact E.fz i d h
  · obtain ⟨rfl, rfl⟩ := own0 i d h
    exact ⟨p, rfl, g, ow⟩
  · obtain ⟨rfl, rfl⟩ := own0 i d h2
    cases h1
    rfl
theorem fnM_ok {x qual n : Str} {st : Stmt} {f : Addr} {fd : FuncData} {N ps : List Str} {k : Nat} {ws : List Nat} {m : M Fl} (F : Fun K x qual st f fd) (S : FnScope (n :: N) ps (defScope st))
    (hbody : ∀ (cdv : Value) (A : Around) (outer : List Env) (s : Shared) (H : Hp) (E : XK), Room k (A.deeper (envOfC qual (defScope st) s.heap.objs.size f cdv)) → A.guards = some [] → FSs (CxF P w K mg base (n :: N) qual st f cdv A outer s H E) (defBody st) ws m) (h0 : 0 ∉ ws := by decide) :
    FnM P w K mg base (k + 1) f fd ps (runM ps.length (n :: N) m) := by
  refine FnG.of_body F S (fun vs H Q E h => ?_) fun cdv A outer s H vs Q E hr hgd h => ?_
  · obtain ⟨G, p, d0, vs', ds, r, d1, rfl, sub, g, ow, rp, e, q⟩ := h
    unfold runM at e
    split at e
    · rw [List.length_cons, rp.length]; assumption
    · cases e
  · refine ⟨_, (hbody cdv A outer s H E hr hgd).nox, ?_⟩
    obtain ⟨G, p, d0, vs', ds, r, d1, rfl, sub, g, ow, rp, e, q⟩ := h
    unfold runM at e
    split at e
    · obtain ⟨E0, nr⟩ := startM_env (n := n) (N := N) sub g ow rp
      have hs0 : (L2.start (n :: N) (.ref p :: vs'))[0]? = some (some (V.ref p)) := by simp [L2.start]
      obtain ⟨o0, ho0⟩ := ow.there
      have fin : ∀ {σ' H' G' ρ'} {d1' : D}, StpH K ws (L2.start (n :: N) (.ref p :: vs')) G H (startM (n :: N) d0 ds) σ' G' H' (some (Sl.ow d1') :: ρ') → ∀ v (rr : Sl), Rp K G' v rr.d → (∀ v H' G', Same G G' → Same G' H' → (∀ a o, G' a = some o → G a = some o ∨ H a = none) → (∀ a o, H a = some o → a ≠ p → H' a = some o) → (∀ a, H' a = none → H a = none) → G' p = none → Own K G' H' p d1' →
          Rp K G' v rr.d → Q v H') → Q v H' := fun {σ' H' G' ρ' d1'} S' v rr rv q => by
        have e0 : σ'[0]? = some (some (V.ref p)) := (S'.off 0 h0).trans hs0
        obtain ⟨p', q1, q2, q3⟩ := S'.env.ow 0 d1' rfl
        rw [e0] at q1
        cases q1
        refine q v H' G' S'.same S'.env.sub (fun a o h => ?_) (fun a o h ne => S'.keep a o h fun r => ne (nr a r)) S'.there q2 q3 rv
        rcases S'.new a o h with z | z | z
        · exact .inl z
        · exact .inr z
        · rw [nr a z, q2] at h; cases h
      cases em : m (startM (n :: N) d0 ds) with
      | none => rw [em] at e; cases e
      | some o =>
        obtain ⟨fl, ρ'⟩ := o
        rw [em] at e
        refine ⟨G, _, fl, ρ', E0, em, ?_⟩
        unfold outM at e
        split at e
        · rename_i he
          cases he
          cases e
          exact fun v σ' H' G' S' rv => fin S' v (.fz _) rv q
        · rename_i he
          cases he
          cases e
          exact fun σ' H' G' S' => fin S' .non (.fz .none) .non q
        · cases e
    · cases e
end
/-- behind a call that changed one container: the caller's slots -/
theorem EnvR.behind {K : PySem.W.Frag} {G H G2 H2 : Hp} {σ : L2.St} {ρ : Rho} {i : Nat} {d d1 : D} {a : Addr} (E : EnvR K G H σ ρ) (s1 : ρ[i]? = some (some (Sl.ow d))) (ep : σ[i]? = some (some (V.ref a))) (sm : Same G G2) (sub : Same G2 H2) (new : ∀ a o, G2 a = some o → G a = some o ∨ H a = none)
    (keep : ∀ b o, H b = some o → b ≠ a → H2 b = some o) (there : ∀ a, H2 a = none → H a = none) (g2 : G2 a = none) (ow2 : Own K G2 H2 a d1) : Stp K σ G H ρ G2 H2 (ρ.set i (some (.ow d1))) := by
  have hi : i < ρ.length := (List.getElem?_eq_some_iff.mp s1).1
  have nota : ∀ (j : Nat) (e : D) (z : Addr), j ≠ i → ρ[j]? = some (some (Sl.ow e)) → σ[j]? = some (some (V.ref z)) → z ≠ a := fun j e z hj q1 q2 w => hj (E.ap j i e d a q1 s1 (by rw [← w]; exact q2) ep)
  have own : ∀ (j : Nat) (e : D), (ρ.set i (some (.ow d1)))[j]? = some (some (Sl.ow e)) → ∃ e', ρ[j]? = some (some (Sl.ow e')) := fun j e q => by
    by_cases hj : j = i
    · exact ⟨d, by rw [hj]; exact s1⟩
    · exact ⟨e, by rw [List.getElem?_set_ne (Ne.symm hj)] at q; exact q⟩
  refine ⟨⟨sub, by simpa using E.len, fun j e w => ?_, fun j e w => ?_, fun j k e f q hj hk a' b' => ?_⟩, sm, fun b o h => (new b o h).elim .inl fun z => .inr (.inl z), fun b o h n => keep b o h fun z => n ⟨i, d, by rw [z]; exact ep, s1⟩, fun b ⟨j, e, q1, q2⟩ => ?_, there⟩
  · by_cases hj : j = i
    · subst hj; rw [List.getElem?_set_self hi] at w; cases w
    · rw [List.getElem?_set_ne (Ne.symm hj)] at w
      obtain ⟨v, q1, q2⟩ := E.fz j e w
      exact ⟨v, q1, q2.mono sm⟩
  · by_cases hj : j = i
    · subst hj
      rw [List.getElem?_set_self hi] at w
      cases w
      exact ⟨a, ep, g2, ow2⟩
    · rw [List.getElem?_set_ne (Ne.symm hj)] at w
      obtain ⟨z, q1, q2, q3⟩ := E.ow j e w
      have hz := nota j e z hj w q1
      refine ⟨z, q1, ?_, q3.mono sm fun o h => keep z o h hz⟩
      cases h : G2 z with
      | none => rfl
      | some o =>
        rcases new z o h with t | t
        · rw [q2] at t; cases t
        · obtain ⟨u, hu⟩ := q3.there
          rw [hu] at t; cases t
  · obtain ⟨e', h1⟩ := own j e hj
    obtain ⟨f', h2⟩ := own k f hk
    exact E.ap j k e' f' q h1 h2 a' b'
  · by_cases hj : j = i
    · exact ⟨j, d, q1, by rw [hj]; exact s1⟩
    · rw [List.getElem?_set_ne (Ne.symm hj)] at q2
      exact ⟨j, e, q1, q2⟩
section
variable {X : Cx} {k : Nat} {f : Addr} {fd : FuncData} {ps : List Str} {x y : Str} {p pos : Pos} {es : List Expr} {F : D → List D → Option (Sl × D)} {m : M (List D)}
/-- f(y, ..), y changed by it -/
def callRM (i : Nat) (F : D → List D → Option (Sl × D)) (m : M (List D)) : M Sl := bindM (ownM i) fun _ => bindM m fun ds => bindM (ownM i) fun d0 => bindM (liftM (F d0 ds)) fun r => bindM (putO i r.2) fun _ => pureM (.fz r.1.d)
theorem fe_callR (i : Nat) (Fn : FnM X.prog X.w X.K X.mg X.base k f fd ps F) (hr : Room k X.A) (hgd : X.A.guards = some []) (hg : Gl X x) (hm : X.mg x = some (.ref f)) (hk : PySem.W.keepIn X.K (.ref f) = true) (hb : Binds X.K fd ps [])
    {py : Pos} (ha : FA X es m) (hN : X.N[i]? = some y := by rfl) (hv : Vis X.env.scope y := by first | exact Or.inl rfl | exact Or.inr (Or.inl rfl) | exact Or.inr (Or.inr rfl)) (hyd : (y == ("__debug__" : Str)) = false := by decide) (hyc : (y == ("__classdict__" : Str)) = false := by decide)
    (hdb : (x == ("__debug__" : Str)) = false := by decide) (he : starEach (.Name y py :: es) X.env = (false, eval (.Name y py) X.env) :: starEach es X.env := by rfl) (hpl : (backTo pos (starEach es X.env)).any (·.1) = false := by rfl) :
    FE X (.Call (.Name x p) (.Name y py :: es) [] pos) (callRM i F m) := imE (pe_callG Fn hr hgd hg hm hk hb pass0 (pa_cons (pe_var (i := i) hN hv hyd hyc) ha he) hdb he hpl) fun σ H Q h => by
  obtain ⟨G, ρ, r, ρ', E, hm, q⟩ := h
  obtain ⟨d0, ρ0, e0, h1⟩ := bindM_some hm
  obtain ⟨rfl, s0⟩ := ownM_some e0
  obtain ⟨ds, ρ1, e1, h2⟩ := bindM_some h1
  obtain ⟨d, ρ2, e2, h3⟩ := bindM_some h2
  obtain ⟨rfl, s1⟩ := ownM_some e2
  obtain ⟨⟨r', d1⟩, ρ3, e3, h4⟩ := bindM_some h3
  obtain ⟨e3b, rfl⟩ := liftM_some e3
  obtain ⟨_, ρ4, e4, h5⟩ := bindM_some h4
  cases e4
  obtain ⟨rfl, rfl⟩ := pureM_some h5
  obtain ⟨a, ep, _, _⟩ := E.ow i _ s0
  unfold tCall tCons
  refine ⟨_, ep, G, ρ0, ds, _, E, e1, fun vs H1 G1 S1 r1 => ?_⟩
  obtain ⟨a', ep', g, ow⟩ := S1.env.ow i _ s1
  rw [ep] at ep'
  cases ep'
  refine ⟨G1, a, d, vs, ds, r', d1, by simp, S1.env.sub, g, ow, r1, e3b, fun v H2 G2 sm sub new keep there g2 ow2 rv => ?_⟩
  exact q v H2 G2 (S1.trans E (S1.env.behind s1 ep sm sub new keep there g2 ow2)) rv
end
end Fx

namespace Fx
open PySem PySem.Spec PyProof.Rows L2
/-- the law's call, from its function on data: H tracks the script alone, or nothing -/
theorem law_fx {P : Program} {w : World} {K : PySem.W.Frag} {mg mb : Str → Option Value} {k : Nat} {fa a : Addr} {fd : FuncData} {x : Str} {F : List D → Option Sl} {s₁ : Shared} {vs : List Value} {ns : List Int}
    (KX : K.In s₁.heap) (hns : s₁.heap.Ns mainGlobals mg) (hb : s₁.heap.Ns builtinsNs mb) (hbb : ∀ x : Str, x ≠ "__name__" → mb x = bootBuiltins x) (hlim : s₁.heap.NoLimit) (hg : s₁.gens = #[])
    (ha : s₁.heap.get? a = some { cls := .type "list", data := .seq vs.toArray }) (hi : IntsAre vs ns) (hl : ns.length ≤ sizeLine) (hr : Room k callerA)
    (Fn : ∀ base : Heap, K.In base → base.Ns mainGlobals mg → FnF P w K mg base k fa fd [x] F) (hbind : ∀ (s : Shared) (u : Value), BindsTo s fd ⟨[u], []⟩ [(x, u)])
    (hF : F [.list (ns.map PyData.int)] = some (.fz (.bool true))) :
    codeAny (model P w) callerA (.call (.ref fa) ⟨[.ref a], []⟩) (fun r s' => r = .ok (.ret (.bool true)) ∧ OldK s₁.heap s'.heap ∧ s'.os = s₁.os ∧ AllBare s'.gens) s₁ := by
  have rv := vals_ints hi
  have lenV := hi.length
  have core : ∀ H : Hp, Only H → SqX K H a (ns.map V.int) → HOk P w H s₁.heap → (∀ b u, H b = some u → b = a) → (∀ u, H a = some u → K.lookup a = none) →
      codeAny (model P w) callerA (.call (.ref fa) ⟨[.ref a], []⟩) (fun r s' => r = .ok (.ret (.bool true)) ∧ OldK s₁.heap s'.heap ∧ s'.os = s₁.os ∧ AllBare s'.gens) s₁ := by
    intro H hO hS hok hA hK
    have dictFree : ∀ {b : Addr} {o : Obj} {es : Array DictEntry} {ep : Nat}, s₁.heap.get? b = some o → o.data = .dict es ep → H b = none := fun {b o es ep} e d => by
      cases q : H b with
      | none => rfl
      | some u =>
        obtain rfl := hA b u q
        rw [ha] at e
        cases e
        exact absurd d nofun
    have nsK : ∀ {b : Addr} {m : Str → Option Value}, s₁.heap.Ns b m → (hidT s₁.heap H).Ns b m := fun {b m} h => by
      obtain ⟨o, es, ep, e, d, r⟩ := h
      exact ⟨o, es, ep, hidT_get e (dictFree e d), d, r⟩
    have inB : K.In (hidT s₁.heap H) := fun b o e => hidT_get (KX b o e) (by
      cases q : H b with
      | none => rfl
      | some u =>
        obtain rfl := hA b u q
        rw [hK u q] at e
        cases e)
    have hM : Mod K mg (hidT s₁.heap H) := ⟨inB, nsK hns, ⟨mb, nsK hb, hbb⟩, by obtain ⟨mc, h1, h2⟩ := hlim; exact ⟨mc, nsK h1, h2⟩⟩
    have e0 : Env0 P w K mg (hidT s₁.heap H) callerA [] s₁ H := ⟨rfl, hM, fun b o e => of_hidT e, Nat.le_of_eq (hidT_size _ _), trivial, fun b hb => (nomatch (show b ∈ ([] : List Addr) from hb)), hok, .of_eq hg⟩
    have hsp : spF K F [.ref a] H (fun v _ => v = .bl true) (fun _ _ _ => False) := ⟨H, _, _, .refl _, .one (.lst hS (RpAll.ints ns)), hF, fun v H' G' _ r => rp_bl r⟩
    refine codeAny_mono ((Fn _ inB (nsK hns)).run callerA [] s₁ H ⟨[.ref a], []⟩ [.ref a] [.ref a] _ _ hr rfl e0 (hbind s₁ (.ref a)) (.cons rfl .nil) hsp) fun r s' h => ?_
    match r, h with
    | .error e, h => exact h.elim
    | .ok (.ret u), h =>
      obtain ⟨v, H', os, bare, un, hok', r', q⟩ := h
      obtain rfl : v = .bl true := q
      obtain rfl : u = Value.bool true := r'
      refine ⟨rfl, OldK.of_keep fun b o e => ?_, os, bare⟩
      rcases hO b with z | ⟨ob, xs, z⟩
      · exact un.keep b o e z (fun h => nomatch (show b ∈ ([] : List Addr) from h)) (fun h => nomatch h)
      · obtain ⟨e1, _⟩ := hok b _ z
        obtain ⟨e2, _⟩ := hok' b _ (un.frzs b ob _ z)
        rw [e] at e1
        cases e1
        exact e2
  cases hk : K.lookup a with
  | some o =>
    have e := KX a o hk
    rw [ha] at e
    cases e
    refine core (fun _ => none) (fun _ => .inl rfl) (.inr ⟨vs.toArray, _, hk, by rw [List.size_toArray, lenV]; exact hl, by simpa using rv⟩) (fun b u z => nomatch z) (fun b u z => nomatch z) fun u z => nomatch z
  | none =>
    have at_a : ∀ b u, (if b = a then some (HO.frz { cls := .type "list", data := .seq vs.toArray } (.lst (ns.map V.int))) else none) = some u → b = a ∧ u = .frz { cls := .type "list", data := .seq vs.toArray } (.lst (ns.map V.int)) := fun b u z => by
      split at z
      · cases z; exact ⟨by assumption, rfl⟩
      · cases z
    refine core (fun b => if b = a then some (.frz { cls := .type "list", data := .seq vs.toArray } (.lst (ns.map V.int))) else none) (fun b => ?_) (.inl (.inr ⟨_, if_pos rfl⟩)) (fun b u z => ?_) (fun b u z => (at_a b u z).1) fun u _ => hk
    · by_cases h : b = a
      · exact .inr ⟨_, _, if_pos h⟩
      · exact .inl (if_neg h)
    · obtain ⟨rfl, rfl⟩ := at_a b u z
      exact ⟨ha, by rw [List.length_map]; exact hl, vs, _, rv, ha⟩
/-- what k_head leaves, from the law's function on data -/
theorem walk_fx {l : PySem.W.OpenLaw} {n k : Nat} {q : Program} {loose : List Str} {XP : (Str → Option Value) → Heap → Prop} {YP : World → Heap → Prop} {d : DefRec} {K : Params → PySem.W.Frag} {x : Str} {F : List D → Option Sl}
    (hn : l.most = some n) (hn2 : n ≤ sizeLine) (hdf : d.params.defaults = []) (hr : Room k callerA) (hY : ∀ (w : World) (h : Heap), YP w h → (K w.params).In h)
    (Fn : ∀ (w : World) (mg : Str → Option Value) (fa : Addr) (h : Heap), (K w.params).In h → h.Ns mainGlobals mg → mg d.name = some (.ref fa) →
      ∃ fd : FuncData, (∀ (s : Shared) (u : Value), BindsTo s fd ⟨[u], []⟩ [(x, u)]) ∧ ∀ base : Heap, (K w.params).In base → base.Ns mainGlobals mg → FnF l.prog w (K w.params) mg base k fa fd [x] F)
    (hF : ∀ ns : List Int, ns.length ≤ n → F [.list (ns.map PyData.int)] = some (.fz (.bool true))) : PySem.W.WalkO q loose XP YP l.row.toRowW d [] (fun f vs => PySem.call f vs) := by
  refine Att.attach_call hn hdf fun w s₀ s₁ mg mb fa o pm cd doc a vs ns G Y ho hd hcd hmg hobj hints hlen hg => ?_
  have KX := hY w _ Y
  obtain ⟨fd, hb, h⟩ := Fn w mg fa _ KX G.T.g hmg
  exact law_fx KX G.T.g G.T.b G.T.builtins G.T.nolimit hg hobj hints (Nat.le_trans hlen hn2) hr h hb (hF ns hlen)
end Fx

namespace Fx
open PySem PySem.Spec PyProof.Rows L2
theorem hu65 {k : Nat} {A : Around} (r : Room k A) : A.units + 65 < cLine := by have := r.un; omega
section
variable {X : Cx} {a b c d e : Expr} {ma mb mc md me : M Sl} {pos : Pos} {st : Stmt}
def neverS : M Fl := fun _ => none
def retF (m : M Sl) : M Fl := bindM m fun r => pureM (.rt (.fz r.d))
abbrev retFS := retF
theorem fs_retF (he : FE X e me) : FS X (.Return (some e) pos) [] (retFS me) := imS (ps_ret he) fun D σ H h => by
  obtain ⟨G, ρ, fl, ρ', E, hm, q⟩ := h
  obtain ⟨r, ρ1, e1, h2⟩ := bindM_some hm
  cases h2
  refine ⟨G, ρ, r, _, E, e1, fun v H1 G1 S1 r1 => ?_⟩
  obtain ⟨G1', S1', p1, _⟩ := r1.frz E S1
  exact q v σ H1 G1' S1'.h p1
theorem fs_nev : FS X st [] neverS := fs_never
/-- a < b < c < d, as a test -/
def chain3M (f g h : D → D → Option Sl) (ma mb mc md : M Sl) : M Sl := bindM ma fun x => bindM mb fun y => bindM (liftM (f x.d y.d)) fun k => bindM (boolM k) fun k => if k then bindM mc fun z => bindM (liftM (g y.d z.d)) fun l => bindM (boolM l) fun l => if l then bindM md fun w => liftM (h z.d w.d) else pureM (.fz (.bool false))
  else pureM (.fz (.bool false))
theorem chain3_in {K : PySem.W.Frag} {f g h : D → D → Option Sl} {σ : L2.St} {H : Hp} {Q : VK} (hq : tM K (chain3M f g h ma mb mc md) σ H Q) :
    tM K ma σ H fun x H1 => tM K mb σ H1 fun y H2 => r2D K f x y H2 fun z H3 => ∃ k, z = .bl k ∧ if k = true then tM K mc σ H3 fun u H4 => r2D K g y u H4 fun z2 H5 => ∃ l, z2 = .bl l ∧ if l = true then tM K md σ H5 fun t H6 => r2D K h u t H6 Q else Q (.bl false) H5 else Q (.bl false) H3 := by
  obtain ⟨G, ρ, r, ρ', E, hm, q⟩ := hq
  obtain ⟨x, ρ1, e1, h2⟩ := bindM_some hm
  obtain ⟨y, ρ2, e2, h3⟩ := bindM_some h2
  obtain ⟨k, ρ3, e3, h4⟩ := bindM_some h3
  obtain ⟨e3b, rfl⟩ := liftM_some e3
  obtain ⟨kb, ρ4, e4, h5⟩ := bindM_some h4
  obtain ⟨rfl, rfl⟩ := boolM_some e4
  refine ⟨G, ρ, x, ρ1, E, e1, fun v H1 G1 S1 r1 => ?_⟩
  obtain ⟨G1', S1', p1, _⟩ := r1.frz E S1
  refine ⟨G1', ρ1, y, _, S1'.env, e2, fun u H2 G2 S2 r2 => ?_⟩
  obtain ⟨G2', S2', p2, _⟩ := r2.frz S1'.env S2
  have T := S1'.trans E S2'
  refine ⟨G2', x.d, y.d, _, S2'.env.sub, p1.mono S2'.same, p2, e3b, fun z H3 G3 S3 r3 => ⟨kb, rp_bl r3, ?_⟩⟩
  have T3 := T.ext E S3
  cases kb with
  | false =>
    obtain ⟨rfl, rfl⟩ := pureM_some h5
    exact q _ H3 G3 T3 (.bl _)
  | true =>
    simp only [if_true] at h5 ⊢
    obtain ⟨z2, ρ5, e5, h6⟩ := bindM_some h5
    obtain ⟨l, ρ6, e6, h7⟩ := bindM_some h6
    obtain ⟨e6b, rfl⟩ := liftM_some e6
    obtain ⟨lb, ρ7, e7, h8⟩ := bindM_some h7
    obtain ⟨rfl, rfl⟩ := boolM_some e7
    refine ⟨G3, _, z2, _, T3.env, e5, fun w H4 G4 S4 r4 => ?_⟩
    obtain ⟨G4', S4', p4, _⟩ := r4.frz T3.env S4
    have T4 := T3.trans E S4'
    refine ⟨G4', y.d, z2.d, _, S4'.env.sub, (p2.mono S3.same).mono S4'.same, p4, e6b, fun z5 H5 G5 S5 r5 => ⟨lb, rp_bl r5, ?_⟩⟩
    have T5 := T4.ext E S5
    cases lb with
    | false =>
      obtain ⟨rfl, rfl⟩ := pureM_some h8
      exact q _ H5 G5 T5 (.bl _)
    | true =>
      simp only [if_true] at h8 ⊢
      obtain ⟨t, ρ8, e8, h9⟩ := bindM_some h8
      obtain ⟨e9, rfl⟩ := liftM_some h9
      refine ⟨G5, _, t, _, T5.env, e8, fun v6 H6 G6 S6 r6 => ?_⟩
      obtain ⟨G6', S6', p6, _⟩ := r6.frz T5.env S6
      have T6 := T5.trans E S6'
      exact ⟨G6', z2.d, t.d, r, S6'.env.sub, (p4.mono S5.same).mono S6'.same, p6, e9, fun z7 H7 G7 S7 r7 => q z7 H7 G7 (T6.ext E S7) (r7.back T6.there)⟩
theorem ft_chain3 {o1 o2 o3 : CmpOp} {f g h : D → D → Option Sl} (h1 : OpR X (compareOp o1) (r2D X.K f)) (h2 : OpR X (compareOp o2) (r2D X.K g)) (h3 : OpR X (compareOp o3) (r2D X.K h)) (ha : FE X a ma) (hb : FE X b mb) (hc : FE X c mc) (hd : FE X d md)
    (hm : lastMarks [o1, o2, o3] [b, c, d] = false := by with_unfolding_all rfl) : FT X (.Compare a [o1, o2, o3] [b, c, d] pos) (testM (chain3M f g h ma mb mc md)) := by
  refine ⟨fun pins s σ H Q I hq => isTrue_chain ?_ hm⟩
  have w := chain3_in (test_in hq)
  refine thn (ha.run pins s σ H _ I w) fun v1 s1 ⟨x1, H1, I1, q1, w1⟩ => test_link (thn (hb.run pins s1 σ H1 _ I1 w1) fun v2 s2 ⟨x2, H2, I2, q2, w2⟩ => thn (h1 pins s2 σ H2 x1 x2 v1 v2 _ I2 q1 q2 w2) fun d1 s3 ⟨z, H3, I3, q3, k, ez, w3⟩ => ?_)
  subst ez
  cases q3
  refine wpAny_truthy_bool ?_
  cases k with
  | false =>
    obtain ⟨k', e', q'⟩ := w3
    cases e'
    exact ite_ff ⟨H3, I3, q'⟩
  | true =>
    refine ite_tt (test_link (thn (hc.run pins s3 σ H3 _ I3 w3) fun v4 s4 ⟨x4, H4, I4, q4, w4⟩ => thn (h2 pins s4 σ H4 x2 x4 v2 v4 _ I4 q2 q4 w4) fun d2 s5 ⟨z2, H5, I5, q5, l, ez2, w5⟩ => ?_))
    subst ez2
    cases q5
    refine wpAny_truthy_bool ?_
    cases l with
    | false =>
      obtain ⟨k', e', q'⟩ := w5
      cases e'
      exact ite_ff ⟨H5, I5, q'⟩
    | true =>
      refine ite_tt (test_last (thn (hd.run pins s5 σ H5 _ I5 w5) fun v6 s6 ⟨x6, H6, I6, q6, w6⟩ => thn (h3 pins s6 σ H6 x4 x6 v4 v6 _ I6 q4 q6 w6) fun d3 s7 ⟨z3, H7, I7, q7, n, ez3, w7⟩ => ?_))
      subst ez3
      cases q7
      exact wpAny_truthy_bool ⟨H7, I7, w7⟩
end
end Fx

namespace Fx
open PySem PySem.Spec PyProof.Rows L2

/-! ### what a run of the data layer comes to -/
/-- a proposition whose run and whose continuation stay as they are under simp: only the state is looked into -/
abbrev TgH {α : Type} (m : M α) (Φ : α → Rho → Prop) : Type := Unit
abbrev TgO {α : Type} (Φ : α → Prop) : Type := Unit
def Ho {α : Type} (m : M α) (ρ : Rho) (Φ : α → Rho → Prop) (_t : TgH m Φ := ()) : Prop := ∃ a ρ', m ρ = some (a, ρ') ∧ Φ a ρ'
def Oo {α : Type} (o : Option α) (Φ : α → Prop) (_t : TgO Φ := ()) : Prop := ∃ a, o = some a ∧ Φ a
def H0 {α : Type} (m : M α) (ρ : Rho) (Φ : α → Rho → Prop) : Prop := ∃ a ρ', m ρ = some (a, ρ') ∧ Φ a ρ'
def O0 {α : Type} (o : Option α) (Φ : α → Prop) : Prop := ∃ a, o = some a ∧ Φ a
theorem o0_some {α : Type} {a : α} {Φ : α → Prop} : O0 (some a) Φ = Φ a := by
  unfold O0; exact propext ⟨fun ⟨_, h, p⟩ => Option.some.inj h ▸ p, fun h => ⟨a, rfl, h⟩⟩
theorem o0_none {α : Type} {Φ : α → Prop} : O0 none Φ = False := by
  unfold O0; exact propext ⟨fun ⟨_, h, _⟩ => (by cases h), False.elim⟩
theorem o0_map {α β : Type} {o : Option α} {f : α → β} {Φ : β → Prop} : O0 (o.map f) Φ = O0 o fun a => Φ (f a) := by
  cases o with
  | none => simp only [Option.map_none, o0_none]
  | some a => simp only [Option.map_some, o0_some]
theorem o0_bind {α β : Type} {o : Option α} {f : α → Option β} {Φ : β → Prop} : O0 (o.bind f) Φ = O0 o fun a => O0 (f a) Φ := by
  cases o with
  | none => simp only [Option.bind_none, o0_none]
  | some a => simp only [Option.bind_some, o0_some]
theorem o0_if {α : Type} {p : Prop} [Decidable p] {o : Option α} {Φ : α → Prop} : O0 (if p then o else none) Φ = (p ∧ O0 o Φ) := by
  by_cases h : p
  · rw [if_pos h]; exact propext ⟨fun x => ⟨h, x⟩, And.right⟩
  · rw [if_neg h, o0_none]; exact propext ⟨False.elim, fun x => h x.1⟩
theorem o0_mono {α : Type} {o : Option α} {Φ Ψ : α → Prop} (h : O0 o Φ) (i : ∀ a, Φ a → Ψ a) : O0 o Ψ := let ⟨a, e, p⟩ := h; ⟨a, e, i a p⟩
theorem h0_mono {α : Type} {m : M α} {ρ : Rho} {Φ Ψ : α → Rho → Prop} (h : H0 m ρ Φ) (i : ∀ a ρ', Φ a ρ' → Ψ a ρ') : H0 m ρ Ψ := let ⟨a, ρ', e, p⟩ := h; ⟨a, ρ', e, i a ρ' p⟩
theorem h0_oo {α : Type} {m : M α} {ρ : Rho} {Φ : α → Rho → Prop} : H0 m ρ Φ = O0 (m ρ) fun p => Φ p.1 p.2 := by
  unfold H0 O0
  exact propext ⟨fun ⟨a, r, h, p⟩ => ⟨(a, r), h, p⟩, fun ⟨(a, r), h, p⟩ => ⟨a, r, h, p⟩⟩
variable {α β : Type} {ρ : Rho}
theorem h0_bindM {m : M α} {f : α → M β} {Φ : β → Rho → Prop} : H0 (bindM m f) ρ Φ = H0 m ρ fun a ρ1 => H0 (f a) ρ1 Φ := by
  simp only [h0_oo]; exact o0_bind
theorem h0_pureM {a : α} {Φ : α → Rho → Prop} : H0 (pureM a) ρ Φ = Φ a ρ := by rw [h0_oo]; exact o0_some
theorem h0_liftM {o : Option α} {Φ : α → Rho → Prop} : H0 (liftM o) ρ Φ = O0 o fun a => Φ a ρ := by rw [h0_oo]; exact o0_map
theorem h0_cM {d : D} {Φ : Sl → Rho → Prop} : H0 (cM d) ρ Φ = Φ (.fz d) ρ := h0_pureM
theorem h0_bin {f : D → D → Option Sl} {a b : M Sl} {Φ : Sl → Rho → Prop} : H0 (bin f a b) ρ Φ = H0 a ρ fun x ρ1 => H0 b ρ1 fun y ρ2 => O0 (f x.d y.d) fun r => Φ r ρ2 := by
  unfold bin; simp only [h0_bindM, h0_liftM]
theorem h0_una {f : D → Option Sl} {a : M Sl} {Φ : Sl → Rho → Prop} : H0 (una f a) ρ Φ = H0 a ρ fun x ρ1 => O0 (f x.d) fun r => Φ r ρ1 := by
  unfold una; simp only [h0_bindM, h0_liftM]
def varP (i : Nat) (ρ : Rho) (Φ : Sl → Rho → Prop) : Option (Option Sl) → Prop
  | some (some (.fz d)) => Φ (.fz d) ρ
  | some (some (.ow d)) => Φ (.fz d) (ρ.set i (some (.fz d)))
  | _ => False
theorem h0_varM {i : Nat} {Φ : Sl → Rho → Prop} : H0 (varM i) ρ Φ = varP i ρ Φ ρ[i]? := by
  rw [h0_oo]; unfold varM
  rcases ρ[i]? with _ | _ | (d | d)
  · exact o0_none
  · exact o0_none
  · exact o0_some
  · exact o0_some
theorem varP_fz {i : Nat} {d : D} {Φ : Sl → Rho → Prop} : varP i ρ Φ (some (some (.fz d))) = Φ (.fz d) ρ := rfl
theorem varP_ow {i : Nat} {d : D} {Φ : Sl → Rho → Prop} : varP i ρ Φ (some (some (.ow d))) = Φ (.fz d) (ρ.set i (some (.fz d))) := rfl
def getP (Φ : D → Prop) : Option (Option Sl) → Prop
  | some (some s) => Φ s.d
  | _ => False
theorem h0_getM {i : Nat} {Φ : D → Rho → Prop} : H0 (getM i) ρ Φ = getP (fun d => Φ d ρ) ρ[i]? := by
  rw [h0_oo]; unfold getM
  rcases ρ[i]? with _ | _ | s
  · exact o0_none
  · exact o0_none
  · exact o0_some
theorem getP_some {s : Sl} {Φ : D → Prop} : getP Φ (some (some s)) = Φ s.d := rfl
theorem h0_nilM {Φ : List D → Rho → Prop} : H0 nilM ρ Φ = Φ [] ρ := h0_pureM
theorem h0_consM {a : M Sl} {r : M (List D)} {Φ : List D → Rho → Prop} : H0 (consM a r) ρ Φ = H0 a ρ fun x ρ1 => H0 r ρ1 fun xs ρ2 => Φ (x.d :: xs) ρ2 := by
  unfold consM; simp only [h0_bindM, h0_pureM]
theorem h0_tupM {m : M (List D)} {Φ : Sl → Rho → Prop} : H0 (tupM m) ρ Φ = H0 m ρ fun xs ρ1 => xs.length ≤ sizeLine ∧ Φ (.fz (.tuple xs)) ρ1 := by
  unfold tupM; simp only [h0_bindM, h0_liftM, o0_if, o0_some]
theorem h0_lstM {m : M (List D)} {Φ : Sl → Rho → Prop} : H0 (lstM m) ρ Φ = H0 m ρ fun xs ρ1 => xs.length ≤ sizeLine ∧ Φ (.ow (.list xs)) ρ1 := by
  unfold lstM; simp only [h0_bindM, h0_liftM, o0_if, o0_some]
theorem h0_callM {f : List D → Option Sl} {m : M (List D)} {Φ : Sl → Rho → Prop} : H0 (callM f m) ρ Φ = H0 m ρ fun xs ρ1 => O0 (f xs) fun r => Φ r ρ1 := by
  unfold callM; simp only [h0_bindM, h0_liftM]
def blP (Φ : Bool → Prop) : Sl → Prop
  | .fz (.bool b) => Φ b
  | _ => False
theorem h0_boolM {r : Sl} {Φ : Bool → Rho → Prop} : H0 (boolM r) ρ Φ = blP (fun b => Φ b ρ) r := by
  unfold boolM
  rcases r with d | d
  · cases d <;> first | exact h0_pureM | (rw [h0_liftM]; exact o0_none)
  · rw [h0_liftM]; exact o0_none
theorem blP_b {b : Bool} {Φ : Bool → Prop} : blP Φ (.fz (.bool b)) = Φ b := rfl
theorem h0_testM {m : M Sl} {Φ : Bool → Rho → Prop} : H0 (testM m) ρ Φ = H0 m ρ fun r ρ1 => blP (fun b => Φ b ρ1) r := by
  unfold testM; simp only [h0_bindM, h0_boolM]
theorem h0_notM {m : M Bool} {Φ : Bool → Rho → Prop} : H0 (notM m) ρ Φ = H0 m ρ fun b ρ1 => Φ (!b) ρ1 := by
  unfold notM; simp only [h0_bindM, h0_pureM]
theorem h0_ite {p : Prop} [Decidable p] {m n : M α} {Φ : α → Rho → Prop} : H0 (if p then m else n) ρ Φ = if p then H0 m ρ Φ else H0 n ρ Φ := by
  by_cases h : p
  · simp only [if_pos h]
  · simp only [if_neg h]
theorem h0_andM {m n : M Bool} {Φ : Bool → Rho → Prop} : H0 (andM m n) ρ Φ = H0 m ρ fun b ρ1 => if b then H0 n ρ1 Φ else Φ false ρ1 := by
  unfold andM; simp only [h0_bindM, h0_pureM, h0_ite]
theorem h0_orM {m n : M Bool} {Φ : Bool → Rho → Prop} : H0 (orM m n) ρ Φ = H0 m ρ fun b ρ1 => if b then Φ true ρ1 else H0 n ρ1 Φ := by
  unfold orM; simp only [h0_bindM, h0_pureM, h0_ite]
theorem h0_blM {m : M Bool} {Φ : Sl → Rho → Prop} : H0 (blM m) ρ Φ = H0 m ρ fun b ρ1 => Φ (.fz (.bool b)) ρ1 := by
  unfold blM; simp only [h0_bindM, h0_pureM]
theorem h0_andV {m n : M Sl} {Φ : Sl → Rho → Prop} : H0 (andV m n) ρ Φ = H0 m ρ fun x ρ1 => blP (fun b => if b then H0 n ρ1 Φ else Φ (.fz (.bool false)) ρ1) x := by
  unfold andV; simp only [h0_bindM, h0_pureM, h0_ite, h0_boolM]
theorem h0_orV {m n : M Sl} {Φ : Sl → Rho → Prop} : H0 (orV m n) ρ Φ = H0 m ρ fun x ρ1 => blP (fun b => if b then Φ (.fz (.bool true)) ρ1 else H0 n ρ1 Φ) x := by
  unfold orV; simp only [h0_bindM, h0_pureM, h0_ite, h0_boolM]
theorem h0_notV {m : M Sl} {Φ : Sl → Rho → Prop} : H0 (notV m) ρ Φ = H0 m ρ fun x ρ1 => blP (fun b => Φ (.fz (.bool (!b))) ρ1) x := by
  unfold notV; simp only [h0_bindM, h0_pureM, h0_ite, h0_boolM]
theorem h0_ifM {t : M Bool} {m n : M Sl} {Φ : Sl → Rho → Prop} : H0 (ifM t m n) ρ Φ = H0 t ρ fun b ρ1 => if b then H0 m ρ1 Φ else H0 n ρ1 Φ := by
  unfold ifM; simp only [h0_bindM, h0_ite]
theorem h0_chainM {f g : D → D → Option Sl} {ma mb mc : M Sl} {Φ : Sl → Rho → Prop} : H0 (chainM f g ma mb mc) ρ Φ = H0 ma ρ fun x ρ1 => H0 mb ρ1 fun y ρ2 => O0 (f x.d y.d) fun k => blP (fun b => if b then H0 mc ρ2 fun z ρ3 => O0 (g y.d z.d) fun r => Φ r ρ3 else Φ (.fz (.bool false)) ρ2) k := by
  unfold chainM; simp only [h0_bindM, h0_liftM]
  congr; funext x ρ1; congr; funext y ρ2; congr; funext k
  rcases k with d | d
  · cases d with
    | bool b => cases b <;> simp [blP, h0_bindM, h0_liftM, h0_pureM]
    | _ => simp [blP, h0_liftM, o0_none]
  · simp [blP, h0_liftM, o0_none]
theorem h0_chain3M {f g h : D → D → Option Sl} {ma mb mc md : M Sl} {Φ : Sl → Rho → Prop} : H0 (chain3M f g h ma mb mc md) ρ Φ = H0 ma ρ fun x ρ1 => H0 mb ρ1 fun y ρ2 => O0 (f x.d y.d) fun k => blP (fun b => if b then H0 mc ρ2 fun z ρ3 => O0 (g y.d z.d) fun k => blP (fun b => if b then H0 md ρ3 fun w ρ4 => O0 (h z.d w.d) fun r => Φ r ρ4 else Φ (.fz (.bool false)) ρ3) k else Φ (.fz (.bool false)) ρ2) k := by
  unfold chain3M; simp only [h0_bindM, h0_liftM, h0_boolM, h0_ite, h0_pureM]
theorem h0_ixVM {i : Nat} {mb : M Sl} {Φ : Sl → Rho → Prop} : H0 (ixVM i mb) ρ Φ = getP (fun _ => H0 mb ρ fun y ρ1 => getP (fun d => O0 (memD d y.d) fun r => Φ (.fz r) ρ1) ρ1[i]?) ρ[i]? := by
  unfold ixVM; simp only [h0_bindM, h0_liftM, h0_getM, o0_map]
theorem h0_partM {m : M Sl} {Φ : Option Int → Rho → Prop} : H0 (partM m) ρ Φ = H0 m ρ fun x ρ1 => O0 (partD x.d) fun r => Φ r ρ1 := by
  unfold partM; simp only [h0_bindM, h0_liftM]
theorem h0_sliceM {m : M Sl} {lo hi : M (Option Int)} {Φ : Sl → Rho → Prop} : H0 (sliceM m lo hi) ρ Φ = H0 m ρ fun x ρ1 => H0 lo ρ1 fun l ρ2 => H0 hi ρ2 fun h ρ3 => O0 (slD x.d l h) fun r => Φ r ρ3 := by
  unfold sliceM; simp only [h0_bindM, h0_liftM]
theorem h0_seqM {m : M Sl} {Φ : List D → Rho → Prop} : H0 (seqM m) ρ Φ = H0 m ρ fun x ρ1 => O0 (seqD x.d) fun r => Φ r ρ1 := by
  unfold seqM; simp only [h0_bindM, h0_liftM]
theorem h0_rngM {f : List D → Option (List D)} {m : M (List D)} {Φ : List D → Rho → Prop} : H0 (rngM f m) ρ Φ = H0 m ρ fun x ρ1 => O0 (f x) fun r => Φ r ρ1 := by
  unfold rngM; simp only [h0_bindM, h0_liftM]
theorem h0_putM {i : Nat} {d : D} {Φ : Unit → Rho → Prop} : H0 (putM i d) ρ Φ = Φ () (ρ.set i (some (.fz d))) := by
  rw [h0_oo]; exact o0_some
theorem h0_putO {i : Nat} {d : D} {Φ : Unit → Rho → Prop} : H0 (putO i d) ρ Φ = Φ () (ρ.set i (some (.ow d))) := by
  rw [h0_oo]; exact o0_some
theorem h0_gsNil {Φ : Unit → Rho → Prop} : H0 (gsNil []) ρ Φ = Φ () ρ := h0_pureM
theorem h0_gsCons {g : D → M Unit} {gs : List D → M Unit} {d : D} {ds : List D} {Φ : Unit → Rho → Prop} : H0 (gsCons g gs (d :: ds)) ρ Φ = H0 (g d) ρ fun _ ρ1 => H0 (gs ds) ρ1 Φ := by
  show H0 (bindM (g d) fun _ => gs ds) ρ Φ = _
  exact h0_bindM
theorem h0_tupG {n : Nat} {gs : List D → M Unit} {ds : List D} {Φ : Unit → Rho → Prop} : H0 (tupG n gs (.tuple ds)) ρ Φ = if ds.length = n then H0 (gs ds) ρ Φ else False := by
  show H0 (if ds.length = n then gs ds else liftM none) ρ Φ = _
  rw [h0_ite, h0_liftM, o0_none]
theorem h0_yesM {Φ : Bool → Rho → Prop} : H0 yesM ρ Φ = Φ true ρ := h0_pureM
theorem h0_wipeM {vs : List Nat} {Φ : Unit → Rho → Prop} : H0 (wipeM vs) ρ Φ = Φ () (wipeR ρ vs) := by rw [h0_oo]; exact o0_some
def flP (P : Prop) (Φ : Fl → Prop) : Fl → Prop
  | .nx => P
  | f => Φ f
theorem flP_nx {P : Prop} {Φ : Fl → Prop} : flP P Φ .nx = P := rfl
theorem flP_bk {P : Prop} {Φ : Fl → Prop} : flP P Φ .bk = Φ .bk := rfl
theorem flP_ct {P : Prop} {Φ : Fl → Prop} : flP P Φ .ct = Φ .ct := rfl
theorem flP_rt {P : Prop} {Φ : Fl → Prop} {r : Sl} : flP P Φ (.rt r) = Φ (.rt r) := rfl
theorem h0_seqS {m n : M Fl} {Φ : Fl → Rho → Prop} : H0 (seqS m n) ρ Φ = H0 m ρ fun f ρ1 => flP (H0 n ρ1 Φ) (fun f => Φ f ρ1) f := by
  unfold seqS; simp only [h0_bindM]
  congr; funext f ρ1
  cases f <;> simp only [flP, h0_pureM]
theorem h0_dropS {m : M Sl} {Φ : Fl → Rho → Prop} : H0 (dropS m) ρ Φ = H0 m ρ fun _ ρ1 => Φ .nx ρ1 := by
  unfold dropS; simp only [h0_bindM, h0_pureM]
theorem h0_retS {m : M Sl} {Φ : Fl → Rho → Prop} : H0 (retS m) ρ Φ = H0 m ρ fun r ρ1 => Φ (.rt r) ρ1 := by
  unfold retS; simp only [h0_bindM, h0_pureM]
theorem h0_retF {m : M Sl} {Φ : Fl → Rho → Prop} : H0 (retF m) ρ Φ = H0 m ρ fun r ρ1 => Φ (.rt (.fz r.d)) ρ1 := by
  unfold retF; simp only [h0_bindM, h0_pureM]
def retP (Φ : Sl → Prop) : Option (Option Sl) → Prop
  | some (some s) => Φ s
  | _ => False
theorem retP_some {s : Sl} {Φ : Sl → Prop} : retP Φ (some (some s)) = Φ s := rfl
theorem h0_retV {i : Nat} {Φ : Fl → Rho → Prop} : H0 (retV i) ρ Φ = retP (fun s => Φ (.rt s) ρ) ρ[i]? := by
  rw [h0_oo]; unfold retV
  rcases ρ[i]? with _ | _ | s
  · exact o0_none
  · exact o0_none
  · exact o0_some
theorem h0_setS {i : Nat} {m : M Sl} {Φ : Fl → Rho → Prop} : H0 (setS i m) ρ Φ = H0 m ρ fun r ρ1 => Φ .nx (ρ1.set i (some r)) := by
  unfold setS; rw [h0_bindM]
  congr; funext r ρ1
  rw [h0_oo]; exact o0_some
theorem h0_asgS {g : D → M Unit} {m : M Sl} {Φ : Fl → Rho → Prop} : H0 (asgS g m) ρ Φ = H0 m ρ fun r ρ1 => H0 (g r.d) ρ1 fun _ ρ2 => Φ .nx ρ2 := by
  unfold asgS; simp only [h0_bindM, h0_pureM]
def parP (i j : Nat) (Φ : Rho → Prop) (ρ : Rho) : List D → Prop
  | [d, e] => Φ ((ρ.set i (some (.fz d))).set j (some (.fz e)))
  | _ => False
theorem parP_2 {i j : Nat} {Φ : Rho → Prop} {d e : D} : parP i j Φ ρ [d, e] = Φ ((ρ.set i (some (.fz d))).set j (some (.fz e))) := rfl
theorem h0_parS {i j : Nat} {m : M (List D)} {Φ : Fl → Rho → Prop} : H0 (parS i j m) ρ Φ = H0 m ρ fun ds ρ1 => parP i j (fun ρ2 => Φ .nx ρ2) ρ1 ds := by
  unfold parS; rw [h0_bindM]
  congr; funext ds ρ1
  rcases ds with _ | ⟨d, _ | ⟨e, _ | ⟨_, _⟩⟩⟩ <;> simp only [parP, h0_oo, liftM, Option.map_none, o0_none, o0_some]
theorem h0_ifS {t : M Bool} {m n : M Fl} {Φ : Fl → Rho → Prop} : H0 (ifS t m n) ρ Φ = H0 t ρ fun b ρ1 => if b then H0 m ρ1 Φ else H0 n ρ1 Φ := by
  unfold ifS; simp only [h0_bindM, h0_ite]
def ownP (Φ : D → Prop) : Option (Option Sl) → Prop
  | some (some (.ow d)) => Φ d
  | _ => False
theorem ownP_some {d : D} {Φ : D → Prop} : ownP Φ (some (some (.ow d))) = Φ d := rfl
theorem h0_ownM {i : Nat} {Φ : D → Rho → Prop} : H0 (ownM i) ρ Φ = ownP (fun d => Φ d ρ) ρ[i]? := by
  rw [h0_oo]; unfold ownM
  rcases ρ[i]? with _ | _ | (d | d)
  · exact o0_none
  · exact o0_none
  · exact o0_none
  · exact o0_some
def ownLP (Φ : List D → Prop) : Option (Option Sl) → Prop
  | some (some (.ow (.list ds))) => Φ ds
  | _ => False
theorem ownLP_some {ds : List D} {Φ : List D → Prop} : ownLP Φ (some (some (.ow (.list ds)))) = Φ ds := rfl
theorem h0_ownL {i : Nat} {Φ : List D → Rho → Prop} : H0 (ownL i) ρ Φ = ownLP (fun d => Φ d ρ) ρ[i]? := by
  rw [h0_oo]; unfold ownL
  rcases ρ[i]? with _ | _ | (d | d)
  · exact o0_none
  · exact o0_none
  · exact o0_none
  · cases d <;> first | exact o0_some | exact o0_none
theorem h0_appendM {i : Nat} {m : M Sl} {Φ : Sl → Rho → Prop} : H0 (appendM i m) ρ Φ = ownLP (fun _ => H0 m ρ fun r ρ1 => ownLP (fun ds => if ds.length < sizeLine then Φ (.fz .none) (ρ1.set i (some (.ow (.list (ds ++ [r.d]))))) else False) ρ1[i]?) ρ[i]? := by
  unfold appendM; simp only [h0_bindM, h0_ownL, h0_ite, h0_putO, h0_pureM, h0_liftM, o0_none]
def setKP (i : Nat) (Φ : Rho → Prop) (ρ : Rho) (r : D) (ds : List D) : D → Prop
  | .int j => Oo (ixN ds.length j) fun n => Φ (ρ.set i (some (.ow (.list (ds.set n r)))))
  | _ => False
theorem setKP_int {i : Nat} {Φ : Rho → Prop} {r : D} {ds : List D} {j : Int} : setKP i Φ ρ r ds (.int j) = Oo (ixN ds.length j) fun n => Φ (ρ.set i (some (.ow (.list (ds.set n r))))) := rfl
theorem h0_setLS {i : Nat} {mk me : M Sl} {Φ : Fl → Rho → Prop} : H0 (setLS i mk me) ρ Φ = H0 me ρ fun r ρ1 => ownLP (fun _ => H0 mk ρ1 fun k ρ2 => ownLP (fun ds => setKP i (fun ρ3 => Φ .nx ρ3) ρ2 r.d ds k.d) ρ2[i]?) ρ1[i]? := by
  unfold setLS; simp only [h0_bindM, h0_ownL]
  congr; funext r ρ1; congr; funext _; congr; funext k ρ2; congr; funext ds
  generalize k.d = kd
  cases kd with
  | int j =>
    simp only [setKP]
    rcases ixN ds.length j with _ | n
    · show _ = O0 none _; simp only [h0_liftM, o0_none]
    · show _ = O0 (some n) _; simp only [h0_bindM, h0_putO, h0_pureM, o0_some]
  | _ => simp only [setKP, h0_liftM, o0_none]
theorem h0_callRM {i : Nat} {F : D → List D → Option (Sl × D)} {m : M (List D)} {Φ : Sl → Rho → Prop} : H0 (callRM i F m) ρ Φ = ownP (fun _ => H0 m ρ fun ds ρ1 => ownP (fun d0 => O0 (F d0 ds) fun r => Φ (.fz r.1.d) (ρ1.set i (some (.ow r.2)))) ρ1[i]?) ρ[i]? := by
  unfold callRM; simp only [h0_bindM, h0_ownM, h0_liftM, h0_putO, h0_pureM]

/-! loops -/
theorem h0_forS {mi : M (List D)} {g : D → M Unit} {m : M Fl} {Φ : Fl → Rho → Prop} : H0 (forS mi g m) ρ Φ = H0 mi ρ fun its ρ1 => H0 (forLoop g m its) ρ1 Φ := h0_bindM
theorem h0_for_nil {g : D → M Unit} {m : M Fl} {Φ : Fl → Rho → Prop} : H0 (forLoop g m []) ρ Φ = Φ .nx ρ := h0_pureM
def loP (P : Prop) (Φ : Fl → Prop) : Fl → Prop
  | .nx => P
  | .ct => P
  | .bk => Φ .nx
  | .rt r => Φ (.rt r)
theorem loP_nx {P : Prop} {Φ : Fl → Prop} : loP P Φ .nx = P := rfl
theorem loP_ct {P : Prop} {Φ : Fl → Prop} : loP P Φ .ct = P := rfl
theorem loP_bk {P : Prop} {Φ : Fl → Prop} : loP P Φ .bk = Φ .nx := rfl
theorem loP_rt {P : Prop} {Φ : Fl → Prop} {r : Sl} : loP P Φ (.rt r) = Φ (.rt r) := rfl
theorem h0_for_cons {g : D → M Unit} {m : M Fl} {x : D} {xs : List D} {Φ : Fl → Rho → Prop} : H0 (forLoop g m (x :: xs)) ρ Φ = H0 (g x) ρ fun _ ρ1 => H0 m ρ1 fun f ρ2 => loP (H0 (forLoop g m xs) ρ2 Φ) (fun f => Φ f ρ2) f := by
  show H0 (bindM _ _) ρ Φ = _
  simp only [h0_bindM]
  congr; funext _ ρ1; congr; funext f ρ2
  cases f <;> simp only [loP, h0_pureM]
/-- a loop that runs to its end: I k holds with k items done -/
theorem h0_for_all {g : D → M Unit} {m : M Fl} (I : Nat → Rho → Prop) (Φ : Fl → Rho → Prop) : ∀ (its : List D) (k : Nat) (ρ : Rho), I k ρ →
    (∀ j x ρ1, its[j]? = some x → I (k + j) ρ1 → H0 (g x) ρ1 fun _ ρ2 => H0 m ρ2 fun f ρ3 => f = .nx ∧ I (k + j + 1) ρ3) →
    (∀ ρ1, I (k + its.length) ρ1 → Φ .nx ρ1) → H0 (forLoop g m its) ρ Φ
  | [], k, ρ, i, _, q => by rw [h0_for_nil]; exact q ρ i
  | x :: xs, k, ρ, i, st, q => by
    rw [h0_for_cons]
    refine h0_mono (st 0 x ρ rfl i) fun _ ρ1 h => h0_mono h fun f ρ2 h => ?_
    obtain ⟨rfl, h⟩ := h
    rw [loP_nx]
    refine h0_for_all I Φ xs (k + 1) ρ2 h (fun j x ρ1 e i => ?_) (fun ρ1 i => q ρ1 ?_)
    · have := st (j + 1) x ρ1 e (by rw [show k + (j + 1) = k + 1 + j by omega]; exact i)
      rw [show k + (j + 1) = k + 1 + j by omega] at this
      exact this
    · rw [List.length_cons, show k + (xs.length + 1) = k + 1 + xs.length by omega]; exact i
theorem h0_lcM {mi : M (List D)} {g : D → M Unit} {t : M Bool} {e : M Sl} {vs : List Nat} {Φ : Sl → Rho → Prop} : H0 (lcM mi g t e vs) ρ Φ = H0 mi ρ fun its ρ1 => (its.length ≤ sizeLine ∧ noOwn ρ1 vs = true) ∧ H0 (lcLoop g t e vs its) (wipeR ρ1 vs) fun rs ρ2 => Φ (.ow (.list rs)) (restR ρ1 ρ2 vs) := by
  unfold lcM; rw [h0_bindM]
  congr; funext its ρ1
  rw [h0_oo, o0_if, o0_map, h0_oo]
theorem h0_lc_nil {g : D → M Unit} {t : M Bool} {e : M Sl} {vs : List Nat} {Φ : List D → Rho → Prop} : H0 (lcLoop g t e vs []) ρ Φ = Φ [] ρ := h0_pureM
theorem h0_lc_cons {g : D → M Unit} {t : M Bool} {e : M Sl} {vs : List Nat} {x : D} {xs : List D} {Φ : List D → Rho → Prop} : H0 (lcLoop g t e vs (x :: xs)) ρ Φ = H0 (g x) ρ fun _ ρ1 => H0 t ρ1 fun b ρ2 =>
    if b then H0 e ρ2 fun r ρ3 => H0 (lcLoop g t e vs xs) (wipeR ρ3 vs) fun rs ρ4 => Φ (r.d :: rs) ρ4 else H0 (lcLoop g t e vs xs) (wipeR ρ2 vs) Φ := by
  show H0 (bindM _ _) ρ Φ = _
  simp only [h0_bindM, h0_ite, h0_wipeM, h0_pureM]
/-- a comprehension with no test whose parts leave the names alone -/
theorem h0_lc_map {g : D → M Unit} {e : M Sl} {vs : List Nat} {f : D → D} {Φ : List D → Rho → Prop} (ρ : Rho) : ∀ (its : List D),
    (∀ x ∈ its, H0 (g x) ρ fun _ ρ1 => H0 e ρ1 fun r ρ2 => r.d = f x ∧ wipeR ρ2 vs = ρ) → Φ (its.map f) ρ → H0 (lcLoop g yesM e vs its) ρ Φ := by
  suffices H : ∀ (its : List D), (∀ x ∈ its, H0 (g x) ρ fun _ ρ1 => H0 e ρ1 fun r ρ2 => r.d = f x ∧ wipeR ρ2 vs = ρ) → H0 (lcLoop g yesM e vs its) ρ fun rs ρ1 => rs = its.map f ∧ ρ1 = ρ by
    intro its h q
    refine h0_mono (H its h) fun rs ρ1 h => ?_
    rw [h.1, h.2]; exact q
  intro its
  induction its with
  | nil => intro h; rw [h0_lc_nil]; exact ⟨rfl, rfl⟩
  | cons x xs ih =>
    intro h; rw [h0_lc_cons]
    refine h0_mono (h x List.mem_cons_self) fun _ ρ1 hx => ?_
    rw [h0_yesM, if_pos rfl]
    refine h0_mono hx fun r ρ2 hx => ?_
    rw [hx.2]
    refine h0_mono (ih fun y hy => h y (List.mem_cons_of_mem _ hy)) fun rs ρ3 hr => ?_
    rw [hx.1, hr.1]; exact ⟨rfl, hr.2⟩
theorem h0_lc2M {mi : M (List D)} {g : D → M Unit} {t : M Bool} {mi1 : M (List D)} {g1 : D → M Unit} {t1 : M Bool} {e : M Sl} {vs vs1 : List Nat} {Φ : Sl → Rho → Prop} : H0 (lc2M mi g t mi1 g1 t1 e vs vs1) ρ Φ =
    H0 mi ρ fun its ρ1 => noOwn ρ1 vs = true ∧ H0 (lc2Loop g t mi1 g1 t1 e vs vs1 its) (wipeR ρ1 vs) fun rs ρ2 => rs.length ≤ sizeLine ∧ Φ (.ow (.list rs)) (restR ρ1 ρ2 vs) := by
  unfold lc2M; rw [h0_bindM]
  congr; funext its ρ1
  rw [h0_oo, o0_if, o0_bind, h0_oo]
  simp only [o0_if, o0_some]
theorem h0_lc2_nil {g : D → M Unit} {t : M Bool} {mi1 : M (List D)} {g1 : D → M Unit} {t1 : M Bool} {e : M Sl} {vs vs1 : List Nat} {Φ : List D → Rho → Prop} : H0 (lc2Loop g t mi1 g1 t1 e vs vs1 []) ρ Φ = Φ [] ρ := h0_pureM
theorem h0_lc2_cons {g : D → M Unit} {t : M Bool} {mi1 : M (List D)} {g1 : D → M Unit} {t1 : M Bool} {e : M Sl} {vs vs1 : List Nat} {x : D} {xs : List D} {Φ : List D → Rho → Prop} : H0 (lc2Loop g t mi1 g1 t1 e vs vs1 (x :: xs)) ρ Φ =
    H0 (g x) ρ fun _ ρ1 => H0 t ρ1 fun b ρ2 => if b then H0 mi1 ρ2 fun its ρ3 => H0 (lcLoop g1 t1 e vs1 its) (wipeR ρ3 vs1) fun rs1 ρ4 => H0 (lc2Loop g t mi1 g1 t1 e vs vs1 xs) (wipeR ρ4 vs) fun rs ρ5 => Φ (rs1 ++ rs) ρ5
      else H0 (lc2Loop g t mi1 g1 t1 e vs vs1 xs) (wipeR ρ2 vs) Φ := by
  show H0 (bindM _ _) ρ Φ = _
  simp only [h0_bindM, h0_ite, h0_wipeM, h0_pureM]

theorem oo_some {α : Type} {a : α} {Φ : α → Prop} : Oo (some a) Φ = Φ a := o0_some
theorem oo_none {α : Type} {Φ : α → Prop} : Oo none Φ = False := o0_none
theorem oo_map {α β : Type} {o : Option α} {f : α → β} {Φ : β → Prop} : Oo (o.map f) Φ = Oo o fun a => Φ (f a) := o0_map
theorem oo_bind {α β : Type} {o : Option α} {f : α → Option β} {Φ : β → Prop} : Oo (o.bind f) Φ = Oo o fun a => Oo (f a) Φ := o0_bind
theorem oo_if {α : Type} {p : Prop} [Decidable p] {o : Option α} {Φ : α → Prop} : Oo (if p then o else none) Φ = (p ∧ Oo o Φ) := o0_if
theorem oo_mono {α : Type} {o : Option α} {Φ Ψ : α → Prop} (h : Oo o Φ) (i : ∀ a, Φ a → Ψ a) : Oo o Ψ := let ⟨a, e, p⟩ := h; ⟨a, e, i a p⟩
theorem ho_mono {α : Type} {m : M α} {ρ : Rho} {Φ Ψ : α → Rho → Prop} (h : Ho m ρ Φ) (i : ∀ a ρ', Φ a ρ' → Ψ a ρ') : Ho m ρ Ψ := let ⟨a, ρ', e, p⟩ := h; ⟨a, ρ', e, i a ρ' p⟩
theorem ho_oo {α : Type} {m : M α} {ρ : Rho} {Φ : α → Rho → Prop} : Ho m ρ Φ = Oo (m ρ) fun p => Φ p.1 p.2 := by
  unfold Ho Oo
  exact propext ⟨fun ⟨a, r, h, p⟩ => ⟨(a, r), h, p⟩, fun ⟨(a, r), h, p⟩ => ⟨a, r, h, p⟩⟩
theorem ho_bindM {m : M α} {f : α → M β} {Φ : β → Rho → Prop} : Ho (bindM m f) ρ Φ = Ho m ρ fun a ρ1 => Ho (f a) ρ1 Φ := h0_bindM
theorem ho_pureM {a : α} {Φ : α → Rho → Prop} : Ho (pureM a) ρ Φ = Φ a ρ := h0_pureM
theorem ho_liftM {o : Option α} {Φ : α → Rho → Prop} : Ho (liftM o) ρ Φ = Oo o fun a => Φ a ρ := h0_liftM
theorem ho_cM {d : D} {Φ : Sl → Rho → Prop} : Ho (cM d) ρ Φ = Φ (.fz d) ρ := h0_cM
theorem ho_bin {f : D → D → Option Sl} {a b : M Sl} {Φ : Sl → Rho → Prop} : Ho (bin f a b) ρ Φ = Ho a ρ fun x ρ1 => Ho b ρ1 fun y ρ2 => Oo (f x.d y.d) fun r => Φ r ρ2 := h0_bin
theorem ho_una {f : D → Option Sl} {a : M Sl} {Φ : Sl → Rho → Prop} : Ho (una f a) ρ Φ = Ho a ρ fun x ρ1 => Oo (f x.d) fun r => Φ r ρ1 := h0_una
theorem ho_varM {i : Nat} {Φ : Sl → Rho → Prop} : Ho (varM i) ρ Φ = varP i ρ Φ ρ[i]? := h0_varM
theorem ho_getM {i : Nat} {Φ : D → Rho → Prop} : Ho (getM i) ρ Φ = getP (fun d => Φ d ρ) ρ[i]? := h0_getM
theorem ho_nilM {Φ : List D → Rho → Prop} : Ho nilM ρ Φ = Φ [] ρ := h0_nilM
theorem ho_consM {a : M Sl} {r : M (List D)} {Φ : List D → Rho → Prop} : Ho (consM a r) ρ Φ = Ho a ρ fun x ρ1 => Ho r ρ1 fun xs ρ2 => Φ (x.d :: xs) ρ2 := h0_consM
theorem ho_tupM {m : M (List D)} {Φ : Sl → Rho → Prop} : Ho (tupM m) ρ Φ = Ho m ρ fun xs ρ1 => xs.length ≤ sizeLine ∧ Φ (.fz (.tuple xs)) ρ1 := h0_tupM
theorem ho_lstM {m : M (List D)} {Φ : Sl → Rho → Prop} : Ho (lstM m) ρ Φ = Ho m ρ fun xs ρ1 => xs.length ≤ sizeLine ∧ Φ (.ow (.list xs)) ρ1 := h0_lstM
theorem ho_callM {f : List D → Option Sl} {m : M (List D)} {Φ : Sl → Rho → Prop} : Ho (callM f m) ρ Φ = Ho m ρ fun xs ρ1 => Oo (f xs) fun r => Φ r ρ1 := h0_callM
theorem ho_boolM {r : Sl} {Φ : Bool → Rho → Prop} : Ho (boolM r) ρ Φ = blP (fun b => Φ b ρ) r := h0_boolM
theorem ho_testM {m : M Sl} {Φ : Bool → Rho → Prop} : Ho (testM m) ρ Φ = Ho m ρ fun r ρ1 => blP (fun b => Φ b ρ1) r := h0_testM
theorem ho_notM {m : M Bool} {Φ : Bool → Rho → Prop} : Ho (notM m) ρ Φ = Ho m ρ fun b ρ1 => Φ (!b) ρ1 := h0_notM
theorem ho_ite {p : Prop} [Decidable p] {m n : M α} {Φ : α → Rho → Prop} : Ho (if p then m else n) ρ Φ = if p then Ho m ρ Φ else Ho n ρ Φ := h0_ite
theorem ho_andM {m n : M Bool} {Φ : Bool → Rho → Prop} : Ho (andM m n) ρ Φ = Ho m ρ fun b ρ1 => if b then Ho n ρ1 Φ else Φ false ρ1 := h0_andM
theorem ho_orM {m n : M Bool} {Φ : Bool → Rho → Prop} : Ho (orM m n) ρ Φ = Ho m ρ fun b ρ1 => if b then Φ true ρ1 else Ho n ρ1 Φ := h0_orM
theorem ho_blM {m : M Bool} {Φ : Sl → Rho → Prop} : Ho (blM m) ρ Φ = Ho m ρ fun b ρ1 => Φ (.fz (.bool b)) ρ1 := h0_blM
theorem ho_andV {m n : M Sl} {Φ : Sl → Rho → Prop} : Ho (andV m n) ρ Φ = Ho m ρ fun x ρ1 => blP (fun b => if b then Ho n ρ1 Φ else Φ (.fz (.bool false)) ρ1) x := h0_andV
theorem ho_orV {m n : M Sl} {Φ : Sl → Rho → Prop} : Ho (orV m n) ρ Φ = Ho m ρ fun x ρ1 => blP (fun b => if b then Φ (.fz (.bool true)) ρ1 else Ho n ρ1 Φ) x := h0_orV
theorem ho_notV {m : M Sl} {Φ : Sl → Rho → Prop} : Ho (notV m) ρ Φ = Ho m ρ fun x ρ1 => blP (fun b => Φ (.fz (.bool (!b))) ρ1) x := h0_notV
theorem ho_ifM {t : M Bool} {m n : M Sl} {Φ : Sl → Rho → Prop} : Ho (ifM t m n) ρ Φ = Ho t ρ fun b ρ1 => if b then Ho m ρ1 Φ else Ho n ρ1 Φ := h0_ifM
theorem ho_chainM {f g : D → D → Option Sl} {ma mb mc : M Sl} {Φ : Sl → Rho → Prop} : Ho (chainM f g ma mb mc) ρ Φ = Ho ma ρ fun x ρ1 => Ho mb ρ1 fun y ρ2 => Oo (f x.d y.d) fun k => blP (fun b => if b then Ho mc ρ2 fun z ρ3 => Oo (g y.d z.d) fun r => Φ r ρ3 else Φ (.fz (.bool false)) ρ2) k := h0_chainM
theorem ho_chain3M {f g h : D → D → Option Sl} {ma mb mc md : M Sl} {Φ : Sl → Rho → Prop} : Ho (chain3M f g h ma mb mc md) ρ Φ = Ho ma ρ fun x ρ1 => Ho mb ρ1 fun y ρ2 => Oo (f x.d y.d) fun k => blP (fun b => if b then Ho mc ρ2 fun z ρ3 => Oo (g y.d z.d) fun k => blP (fun b => if b then Ho md ρ3 fun w ρ4 => Oo (h z.d w.d) fun r => Φ r ρ4 else Φ (.fz (.bool false)) ρ3) k else Φ (.fz (.bool false)) ρ2) k := h0_chain3M
theorem ho_ixVM {i : Nat} {mb : M Sl} {Φ : Sl → Rho → Prop} : Ho (ixVM i mb) ρ Φ = getP (fun _ => Ho mb ρ fun y ρ1 => getP (fun d => Oo (memD d y.d) fun r => Φ (.fz r) ρ1) ρ1[i]?) ρ[i]? := h0_ixVM
theorem ho_partM {m : M Sl} {Φ : Option Int → Rho → Prop} : Ho (partM m) ρ Φ = Ho m ρ fun x ρ1 => Oo (partD x.d) fun r => Φ r ρ1 := h0_partM
theorem ho_sliceM {m : M Sl} {lo hi : M (Option Int)} {Φ : Sl → Rho → Prop} : Ho (sliceM m lo hi) ρ Φ = Ho m ρ fun x ρ1 => Ho lo ρ1 fun l ρ2 => Ho hi ρ2 fun h ρ3 => Oo (slD x.d l h) fun r => Φ r ρ3 := h0_sliceM
theorem ho_seqM {m : M Sl} {Φ : List D → Rho → Prop} : Ho (seqM m) ρ Φ = Ho m ρ fun x ρ1 => Oo (seqD x.d) fun r => Φ r ρ1 := h0_seqM
theorem ho_rngM {f : List D → Option (List D)} {m : M (List D)} {Φ : List D → Rho → Prop} : Ho (rngM f m) ρ Φ = Ho m ρ fun x ρ1 => Oo (f x) fun r => Φ r ρ1 := h0_rngM
theorem ho_putM {i : Nat} {d : D} {Φ : Unit → Rho → Prop} : Ho (putM i d) ρ Φ = Φ () (ρ.set i (some (.fz d))) := h0_putM
theorem ho_putO {i : Nat} {d : D} {Φ : Unit → Rho → Prop} : Ho (putO i d) ρ Φ = Φ () (ρ.set i (some (.ow d))) := h0_putO
theorem ho_gsNil {Φ : Unit → Rho → Prop} : Ho (gsNil []) ρ Φ = Φ () ρ := h0_gsNil
theorem ho_gsCons {g : D → M Unit} {gs : List D → M Unit} {d : D} {ds : List D} {Φ : Unit → Rho → Prop} : Ho (gsCons g gs (d :: ds)) ρ Φ = Ho (g d) ρ fun _ ρ1 => Ho (gs ds) ρ1 Φ := h0_gsCons
theorem ho_tupG {n : Nat} {gs : List D → M Unit} {ds : List D} {Φ : Unit → Rho → Prop} : Ho (tupG n gs (.tuple ds)) ρ Φ = if ds.length = n then Ho (gs ds) ρ Φ else False := h0_tupG
theorem ho_yesM {Φ : Bool → Rho → Prop} : Ho yesM ρ Φ = Φ true ρ := h0_yesM
theorem ho_wipeM {vs : List Nat} {Φ : Unit → Rho → Prop} : Ho (wipeM vs) ρ Φ = Φ () (wipeR ρ vs) := h0_wipeM
theorem ho_seqS {m n : M Fl} {Φ : Fl → Rho → Prop} : Ho (seqS m n) ρ Φ = Ho m ρ fun f ρ1 => flP (Ho n ρ1 Φ) (fun f => Φ f ρ1) f := h0_seqS
theorem ho_dropS {m : M Sl} {Φ : Fl → Rho → Prop} : Ho (dropS m) ρ Φ = Ho m ρ fun _ ρ1 => Φ .nx ρ1 := h0_dropS
theorem ho_retS {m : M Sl} {Φ : Fl → Rho → Prop} : Ho (retS m) ρ Φ = Ho m ρ fun r ρ1 => Φ (.rt r) ρ1 := h0_retS
theorem ho_retF {m : M Sl} {Φ : Fl → Rho → Prop} : Ho (retF m) ρ Φ = Ho m ρ fun r ρ1 => Φ (.rt (.fz r.d)) ρ1 := h0_retF
theorem ho_retV {i : Nat} {Φ : Fl → Rho → Prop} : Ho (retV i) ρ Φ = retP (fun s => Φ (.rt s) ρ) ρ[i]? := h0_retV
theorem ho_setS {i : Nat} {m : M Sl} {Φ : Fl → Rho → Prop} : Ho (setS i m) ρ Φ = Ho m ρ fun r ρ1 => Φ .nx (ρ1.set i (some r)) := h0_setS
theorem ho_asgS {g : D → M Unit} {m : M Sl} {Φ : Fl → Rho → Prop} : Ho (asgS g m) ρ Φ = Ho m ρ fun r ρ1 => Ho (g r.d) ρ1 fun _ ρ2 => Φ .nx ρ2 := h0_asgS
theorem ho_parS {i j : Nat} {m : M (List D)} {Φ : Fl → Rho → Prop} : Ho (parS i j m) ρ Φ = Ho m ρ fun ds ρ1 => parP i j (fun ρ2 => Φ .nx ρ2) ρ1 ds := h0_parS
theorem ho_ifS {t : M Bool} {m n : M Fl} {Φ : Fl → Rho → Prop} : Ho (ifS t m n) ρ Φ = Ho t ρ fun b ρ1 => if b then Ho m ρ1 Φ else Ho n ρ1 Φ := h0_ifS
theorem ho_ownM {i : Nat} {Φ : D → Rho → Prop} : Ho (ownM i) ρ Φ = ownP (fun d => Φ d ρ) ρ[i]? := h0_ownM
theorem ho_ownL {i : Nat} {Φ : List D → Rho → Prop} : Ho (ownL i) ρ Φ = ownLP (fun d => Φ d ρ) ρ[i]? := h0_ownL
theorem ho_appendM {i : Nat} {m : M Sl} {Φ : Sl → Rho → Prop} : Ho (appendM i m) ρ Φ = ownLP (fun _ => Ho m ρ fun r ρ1 => ownLP (fun ds => if ds.length < sizeLine then Φ (.fz .none) (ρ1.set i (some (.ow (.list (ds ++ [r.d]))))) else False) ρ1[i]?) ρ[i]? := h0_appendM
theorem ho_setLS {i : Nat} {mk me : M Sl} {Φ : Fl → Rho → Prop} : Ho (setLS i mk me) ρ Φ = Ho me ρ fun r ρ1 => ownLP (fun _ => Ho mk ρ1 fun k ρ2 => ownLP (fun ds => setKP i (fun ρ3 => Φ .nx ρ3) ρ2 r.d ds k.d) ρ2[i]?) ρ1[i]? := h0_setLS
theorem ho_callRM {i : Nat} {F : D → List D → Option (Sl × D)} {m : M (List D)} {Φ : Sl → Rho → Prop} : Ho (callRM i F m) ρ Φ = ownP (fun _ => Ho m ρ fun ds ρ1 => ownP (fun d0 => Oo (F d0 ds) fun r => Φ (.fz r.1.d) (ρ1.set i (some (.ow r.2)))) ρ1[i]?) ρ[i]? := h0_callRM
theorem ho_forS {mi : M (List D)} {g : D → M Unit} {m : M Fl} {Φ : Fl → Rho → Prop} : Ho (forS mi g m) ρ Φ = Ho mi ρ fun its ρ1 => Ho (forLoop g m its) ρ1 Φ := h0_forS
theorem ho_for_nil {g : D → M Unit} {m : M Fl} {Φ : Fl → Rho → Prop} : Ho (forLoop g m []) ρ Φ = Φ .nx ρ := h0_for_nil
theorem ho_for_cons {g : D → M Unit} {m : M Fl} {x : D} {xs : List D} {Φ : Fl → Rho → Prop} : Ho (forLoop g m (x :: xs)) ρ Φ = Ho (g x) ρ fun _ ρ1 => Ho m ρ1 fun f ρ2 => loP (Ho (forLoop g m xs) ρ2 Φ) (fun f => Φ f ρ2) f := h0_for_cons
theorem ho_for_all {g : D → M Unit} {m : M Fl} (I : Nat → Rho → Prop) (Φ : Fl → Rho → Prop) : ∀ (its : List D) (k : Nat) (ρ : Rho), I k ρ →
    (∀ j x ρ1, its[j]? = some x → I (k + j) ρ1 → Ho (g x) ρ1 fun _ ρ2 => Ho m ρ2 fun f ρ3 => f = .nx ∧ I (k + j + 1) ρ3) →
    (∀ ρ1, I (k + its.length) ρ1 → Φ .nx ρ1) → Ho (forLoop g m its) ρ Φ
  | [], k, ρ, i, _, q => by rw [ho_for_nil]; exact q ρ i
  | x :: xs, k, ρ, i, st, q => by
    rw [ho_for_cons]
    refine ho_mono (st 0 x ρ rfl i) fun _ ρ1 h => ho_mono h fun f ρ2 h => ?_
    obtain ⟨rfl, h⟩ := h
    rw [loP_nx]
    refine ho_for_all I Φ xs (k + 1) ρ2 h (fun j x ρ1 e i => ?_) (fun ρ1 i => q ρ1 ?_)
    · have := st (j + 1) x ρ1 e (by rw [show k + (j + 1) = k + 1 + j by omega]; exact i)
      rw [show k + (j + 1) = k + 1 + j by omega] at this
      exact this
    · rw [List.length_cons, show k + (xs.length + 1) = k + 1 + xs.length by omega]; exact i
theorem ho_lcM {mi : M (List D)} {g : D → M Unit} {t : M Bool} {e : M Sl} {vs : List Nat} {Φ : Sl → Rho → Prop} : Ho (lcM mi g t e vs) ρ Φ = Ho mi ρ fun its ρ1 => (its.length ≤ sizeLine ∧ noOwn ρ1 vs = true) ∧ Ho (lcLoop g t e vs its) (wipeR ρ1 vs) fun rs ρ2 => Φ (.ow (.list rs)) (restR ρ1 ρ2 vs) := h0_lcM
theorem ho_lc_nil {g : D → M Unit} {t : M Bool} {e : M Sl} {vs : List Nat} {Φ : List D → Rho → Prop} : Ho (lcLoop g t e vs []) ρ Φ = Φ [] ρ := h0_lc_nil
theorem ho_lc_cons {g : D → M Unit} {t : M Bool} {e : M Sl} {vs : List Nat} {x : D} {xs : List D} {Φ : List D → Rho → Prop} : Ho (lcLoop g t e vs (x :: xs)) ρ Φ = Ho (g x) ρ fun _ ρ1 => Ho t ρ1 fun b ρ2 =>
    if b then Ho e ρ2 fun r ρ3 => Ho (lcLoop g t e vs xs) (wipeR ρ3 vs) fun rs ρ4 => Φ (r.d :: rs) ρ4 else Ho (lcLoop g t e vs xs) (wipeR ρ2 vs) Φ := h0_lc_cons
theorem ho_lc_map {g : D → M Unit} {e : M Sl} {vs : List Nat} {f : D → D} {Φ : List D → Rho → Prop} (ρ : Rho) : ∀ (its : List D),
    (∀ x ∈ its, Ho (g x) ρ fun _ ρ1 => Ho e ρ1 fun r ρ2 => r.d = f x ∧ wipeR ρ2 vs = ρ) → Φ (its.map f) ρ → Ho (lcLoop g yesM e vs its) ρ Φ := by
  suffices H : ∀ (its : List D), (∀ x ∈ its, Ho (g x) ρ fun _ ρ1 => Ho e ρ1 fun r ρ2 => r.d = f x ∧ wipeR ρ2 vs = ρ) → Ho (lcLoop g yesM e vs its) ρ fun rs ρ1 => rs = its.map f ∧ ρ1 = ρ by
    intro its h q
    refine ho_mono (H its h) fun rs ρ1 h => ?_
    rw [h.1, h.2]; exact q
  intro its
  induction its with
  | nil => intro h; rw [ho_lc_nil]; exact ⟨rfl, rfl⟩
  | cons x xs ih =>
    intro h; rw [ho_lc_cons]
    refine ho_mono (h x List.mem_cons_self) fun _ ρ1 hx => ?_
    rw [ho_yesM, if_pos rfl]
    refine ho_mono hx fun r ρ2 hx => ?_
    rw [hx.2]
    refine ho_mono (ih fun y hy => h y (List.mem_cons_of_mem _ hy)) fun rs ρ3 hr => ?_
    rw [hx.1, hr.1]; exact ⟨rfl, hr.2⟩
theorem ho_lc2M {mi : M (List D)} {g : D → M Unit} {t : M Bool} {mi1 : M (List D)} {g1 : D → M Unit} {t1 : M Bool} {e : M Sl} {vs vs1 : List Nat} {Φ : Sl → Rho → Prop} : Ho (lc2M mi g t mi1 g1 t1 e vs vs1) ρ Φ =
    Ho mi ρ fun its ρ1 => noOwn ρ1 vs = true ∧ Ho (lc2Loop g t mi1 g1 t1 e vs vs1 its) (wipeR ρ1 vs) fun rs ρ2 => rs.length ≤ sizeLine ∧ Φ (.ow (.list rs)) (restR ρ1 ρ2 vs) := h0_lc2M
theorem ho_lc2_nil {g : D → M Unit} {t : M Bool} {mi1 : M (List D)} {g1 : D → M Unit} {t1 : M Bool} {e : M Sl} {vs vs1 : List Nat} {Φ : List D → Rho → Prop} : Ho (lc2Loop g t mi1 g1 t1 e vs vs1 []) ρ Φ = Φ [] ρ := h0_lc2_nil
theorem ho_lc2_cons {g : D → M Unit} {t : M Bool} {mi1 : M (List D)} {g1 : D → M Unit} {t1 : M Bool} {e : M Sl} {vs vs1 : List Nat} {x : D} {xs : List D} {Φ : List D → Rho → Prop} : Ho (lc2Loop g t mi1 g1 t1 e vs vs1 (x :: xs)) ρ Φ =
    Ho (g x) ρ fun _ ρ1 => Ho t ρ1 fun b ρ2 => if b then Ho mi1 ρ2 fun its ρ3 => Ho (lcLoop g1 t1 e vs1 its) (wipeR ρ3 vs1) fun rs1 ρ4 => Ho (lc2Loop g t mi1 g1 t1 e vs vs1 xs) (wipeR ρ4 vs) fun rs ρ5 => Φ (rs1 ++ rs) ρ5
      else Ho (lc2Loop g t mi1 g1 t1 e vs vs1 xs) (wipeR ρ2 vs) Φ := h0_lc2_cons
/-! functions -/
theorem runF_of {np : Nat} {N : List Str} {m : M Fl} {ds : List D} {r : Sl} (hl : ds.length = np) (h : Ho m (startR N ds) fun f _ => f = .rt r) : runF np N m ds = some r := by
  obtain ⟨f, ρ, e, hf⟩ := h
  unfold runF; rw [if_pos hl, e, hf]; rfl
theorem runF_nx {np : Nat} {N : List Str} {m : M Fl} {ds : List D} (hl : ds.length = np) (h : Ho m (startR N ds) fun f _ => f = .nx) : runF np N m ds = some (.fz .none) := by
  obtain ⟨f, ρ, e, hf⟩ := h
  unfold runF; rw [if_pos hl, e, hf]; rfl
def rtP (Φ : Sl → Prop) : Fl → Prop
  | .rt r => Φ r
  | .nx => Φ (.fz .none)
  | _ => False
theorem rtP_rt {Φ : Sl → Prop} {r : Sl} : rtP Φ (.rt r) = Φ r := rfl
theorem rtP_nx {Φ : Sl → Prop} : rtP Φ .nx = Φ (.fz .none) := rfl
theorem oo_runF {np : Nat} {N : List Str} {m : M Fl} {ds : List D} {Φ : Sl → Prop} (hl : ds.length = np) (h : Ho m (startR N ds) fun f _ => rtP Φ f) : Oo (runF np N m ds) Φ := by
  obtain ⟨f, ρ, e, hf⟩ := h
  unfold runF; rw [if_pos hl, e]
  cases f with
  | rt r => exact ⟨r, rfl, hf⟩
  | nx => exact ⟨_, rfl, hf⟩
  | _ => exact hf.elim
def rmP (Φ : Sl × D → Prop) : Fl → Option (Option Sl) → Prop
  | .rt (.fz d), some (some (.ow d1)) => Φ (.fz d, d1)
  | .nx, some (some (.ow d1)) => Φ (.fz .none, d1)
  | _, _ => False
theorem rmP_rt {Φ : Sl × D → Prop} {d d1 : D} : rmP Φ (.rt (.fz d)) (some (some (.ow d1))) = Φ (.fz d, d1) := rfl
theorem rmP_nx {Φ : Sl × D → Prop} {d1 : D} : rmP Φ .nx (some (some (.ow d1))) = Φ (.fz .none, d1) := rfl
theorem oo_runM {np : Nat} {N : List Str} {m : M Fl} {d0 : D} {ds : List D} {Φ : Sl × D → Prop} (hl : ds.length + 1 = np) (h : Ho m (startM N d0 ds) fun f ρ => rmP Φ f ρ[0]?) : Oo (runM np N m d0 ds) Φ := by
  obtain ⟨f, ρ, e, hf⟩ := h
  unfold runM; rw [if_pos hl, e]
  rcases ρ with _ | ⟨_ | (a | a), ρ⟩
  · cases f with
    | rt r => cases r <;> exact hf.elim
    | _ => exact hf.elim
  · cases f with
    | rt r => cases r <;> exact hf.elim
    | _ => exact hf.elim
  · cases f with
    | rt r => cases r <;> exact hf.elim
    | _ => exact hf.elim
  · cases f with
    | rt r =>
      cases r with
      | fz d => exact ⟨_, rfl, hf⟩
      | ow d => exact hf.elim
    | nx => exact ⟨_, rfl, hf⟩
    | _ => exact hf.elim

/-! operations on numbers and others -/
theorem sl_fz {d : D} : (Sl.fz d).d = d := rfl
theorem sl_ow {d : D} : (Sl.ow d).d = d := rfl
section
variable {i j : Int} {Φ : Sl → Prop}
theorem o_add : Oo (addD (.int i) (.int j)) Φ = Φ (.fz (.int (i + j))) := oo_some
theorem o_addT {xs ys : List D} : Oo (addD (.tuple xs) (.tuple ys)) Φ = (xs.length + ys.length ≤ sizeLine ∧ Φ (.fz (.tuple (xs ++ ys)))) := by
  show Oo (if _ then _ else _) Φ = _
  rw [oo_if, oo_some]
theorem o_addL {xs ys : List D} : Oo (addD (.list xs) (.list ys)) Φ = (xs.length + ys.length ≤ sizeLine ∧ Φ (.ow (.list (xs ++ ys)))) := by
  show Oo (if _ then _ else _) Φ = _
  rw [oo_if, oo_some]
theorem o_addS {xs ys : Str} : Oo (addD (.str xs) (.str ys)) Φ = (xs.length + ys.length ≤ sizeLine ∧ Φ (.fz (.str (xs ++ ys)))) := by
  show Oo (if _ then _ else _) Φ = _
  rw [oo_if, oo_some]
theorem o_sub : Oo (subD (.int i) (.int j)) Φ = Φ (.fz (.int (i - j))) := oo_some
theorem o_mul : Oo (mulD (.int i) (.int j)) Φ = (i.natAbs.log2 + j.natAbs.log2 < 1000000 ∧ Φ (.fz (.int (i * j)))) := by
  show Oo (if _ then _ else _) Φ = _
  rw [oo_if, oo_some]
theorem o_fdiv : Oo (fdivD (.int i) (.int j)) Φ = ((0 < j ∧ j.natAbs.log2 < 9000) ∧ Φ (.fz (.int (i / j)))) := by
  show Oo (if _ then _ else _) Φ = _
  rw [oo_if, oo_some]
theorem o_mod : Oo (modD (.int i) (.int j)) Φ = (0 < j ∧ Φ (.fz (.int (i % j)))) := by
  show Oo (if _ then _ else _) Φ = _
  rw [oo_if, oo_some]
theorem o_pow : Oo (powD (.int i) (.int j)) Φ = ((0 ≤ j ∧ j ≤ 1000000 ∧ i.natAbs < 2 ^ 64) ∧ Φ (.fz (.int (i ^ j.toNat)))) := by
  show Oo (if _ then _ else _) Φ = _
  rw [oo_if, oo_some]
theorem o_neg : Oo (negD (.int i)) Φ = Φ (.fz (.int (-i))) := oo_some
theorem o_cmp {p : Int → Int → Bool} : Oo (cmpI p (.int i) (.int j)) Φ = Φ (.fz (.bool (p i j))) := oo_some
theorem o_eq : Oo (eqD (.int i) (.int j)) Φ = Φ (.fz (.bool (i == j))) := oo_some
theorem o_ne : Oo (neD (.int i) (.int j)) Φ = Φ (.fz (.bool (!(i == j)))) := oo_some
theorem o_eqS {x y : Str} : Oo (eqD (.str x) (.str y)) Φ = Φ (.fz (.bool (decide (x = y)))) := oo_some
theorem o_neS {x y : Str} : Oo (neD (.str x) (.str y)) Φ = Φ (.fz (.bool (!decide (x = y)))) := oo_some
theorem o_lenL {ds : List D} : Oo (lenD [.list ds]) Φ = Φ (.fz (.int ds.length)) := oo_some
theorem o_lenT {ds : List D} : Oo (lenD [.tuple ds]) Φ = Φ (.fz (.int ds.length)) := oo_some
theorem o_min : Oo (minD [.int i, .int j]) Φ = Φ (.fz (.int (if j < i then j else i))) := oo_some
theorem o_max : Oo (maxD [.int i, .int j]) Φ = Φ (.fz (.int (if j > i then j else i))) := oo_some
theorem o_toInt : Oo (toIntD [.int i]) Φ = Φ (.fz (.int i)) := oo_some
theorem o_tupL {ds : List D} : Oo (tupleD [.list ds]) Φ = Φ (.fz (.tuple ds)) := oo_some
theorem o_tupT {ds : List D} : Oo (tupleD [.tuple ds]) Φ = Φ (.fz (.tuple ds)) := oo_some
theorem o_lstL {ds : List D} : Oo (listD [.list ds]) Φ = Φ (.ow (.list ds)) := oo_some
theorem o_lstT {ds : List D} : Oo (listD [.tuple ds]) Φ = Φ (.ow (.list ds)) := oo_some
theorem o_seqL {ds : List D} {Φ : List D → Prop} : Oo (seqD (.list ds)) Φ = Φ ds := oo_some
theorem o_seqT {ds : List D} {Φ : List D → Prop} : Oo (seqD (.tuple ds)) Φ = Φ ds := oo_some
theorem o_part {Φ : Option Int → Prop} : Oo (partD (.int i)) Φ = Φ (some i) := oo_some
theorem o_slL {ds : List D} {lo hi : Option Int} : Oo (slD (.list ds) lo hi) Φ = Φ (.ow (.list (cutD ds lo hi))) := oo_some
theorem o_slT {ds : List D} {lo hi : Option Int} : Oo (slD (.tuple ds) lo hi) Φ = Φ (.fz (.tuple (cutD ds lo hi))) := oo_some
theorem o_memL {ds : List D} {Φ : D → Prop} : Oo (memD (.list ds) (.int i)) Φ = Oo (atI ds i) Φ := rfl
theorem o_memT {ds : List D} {Φ : D → Prop} : Oo (memD (.tuple ds) (.int i)) Φ = Oo (atI ds i) Φ := rfl
theorem o_ixL {ds : List D} : Oo (ixD (.list ds) (.int i)) Φ = Oo (atI ds i) fun d => Φ (.fz d) := oo_map
theorem o_ixT {ds : List D} : Oo (ixD (.tuple ds) (.int i)) Φ = Oo (atI ds i) fun d => Φ (.fz d) := oo_map
theorem o_rng1 {Φ : List D → Prop} : Oo (rng1 [.int j]) Φ = ((-(2 ^ 62) ≤ j ∧ j < 2 ^ 62) ∧ Φ (rangeD 0 j)) := by
  show Oo (if _ then _ else _) Φ = _
  rw [oo_if, oo_some]
theorem o_rng2 {Φ : List D → Prop} : Oo (rng2 [.int i, .int j]) Φ = ((-(2 ^ 62) ≤ i ∧ i < 2 ^ 62 ∧ -(2 ^ 62) ≤ j ∧ j < 2 ^ 62) ∧ Φ (rangeD i j)) := by
  show Oo (if _ then _ else _) Φ = _
  rw [oo_if, oo_some]
theorem o_enum {ds : List D} {Φ : List D → Prop} : Oo (enumD [.list ds]) Φ = Φ (enumFrom 0 ds) := oo_some
end
theorem atI_nat {α : Type} {xs : List α} {k : Nat} (h : k < xs.length) : atI xs (k : Int) = xs[k]? := by
  unfold atI ixN
  rw [if_pos (by omega), if_pos (by omega)]
  simp
theorem atI_of {α : Type} {xs : List α} {i : Int} (h0 : 0 ≤ i) (h : i < xs.length) : ∃ x, atI xs i = some x ∧ xs[i.toNat]? = some x := by
  have e : i = (i.toNat : Int) := (Int.toNat_of_nonneg h0).symm
  have l : i.toNat < xs.length := by omega
  refine ⟨xs[i.toNat], ?_, List.getElem?_eq_getElem l⟩
  have h := atI_nat (xs := xs) l
  rw [← e, List.getElem?_eq_getElem l] at h
  exact h
theorem oo_atI {α : Type} {xs : List α} {i : Int} {Φ : α → Prop} (h0 : 0 ≤ i) (h : i < xs.length) (q : ∀ x, xs[i.toNat]? = some x → Φ x) : Oo (atI xs i) Φ := by
  obtain ⟨x, e, m⟩ := atI_of h0 h
  exact ⟨x, e, q x m⟩
theorem oo_ixN {n : Nat} {i : Int} {Φ : Nat → Prop} (h0 : 0 ≤ i) (h : i < n) (q : Φ i.toNat) : Oo (ixN n i) Φ := by
  refine ⟨i.toNat, ?_, q⟩
  unfold ixN; rw [if_pos h0, if_pos h]

/-! repr: how long a text gets -/
mutual
def wid : D → Nat
  | .none => 4 | .bool _ => 5 | .int i => i.natAbs.log2 + 2 | .str x => 10 * x.length + 2
  | .list xs => widAll xs + 2
  | .tuple xs => widAll xs + 3
  | .dict _ => 0
def widAll : List D → Nat
  | [] => 0
  | x :: xs => wid x + 2 + widAll xs
end
mutual
/-- strings of letters of at most 8 hex digits -/
def strsOk : D → Bool
  | .str x => x.cps.toList.all fun c => decide (c < 16 ^ 8)
  | .list xs => strsOkAll xs
  | .tuple xs => strsOkAll xs
  | .dict _ => false
  | _ => true
def strsOkAll : List D → Bool
  | [] => true
  | x :: xs => strsOk x && strsOkAll xs
end
def sumLen : List Str → Nat
  | [] => 0
  | t :: ts => t.length + 2 + sumLen ts
theorem textFrom_le : ∀ (ts : List Str) (k : Nat) (acc : Str), (textFrom k acc ts).length ≤ acc.length + sumLen ts
  | [], k, acc => Nat.le_refl _
  | t :: ts, k, acc => by
    show (textFrom (k + 1) (acc ++ (if k > 0 then ", " else "" : String) ++ t) ts).length ≤ acc.length + (t.length + 2 + sumLen ts)
    refine Nat.le_trans (textFrom_le ts (k + 1) _) ?_
    rw [Str.length_append, Str.length_append]
    have : (Str.ofString (if k > 0 then ", " else "" : String)).length ≤ 2 := by split <;> decide +kernel
    omega
theorem join_le : ∀ (ts : List Str), (Str.join ", " ts).length ≤ sumLen ts
  | [] => Nat.le_refl _
  | [x] => by show x.length ≤ x.length + 2 + 0; omega
  | x :: y :: ts => by
    show (x ++ (", " : Str) ++ Str.join ", " (y :: ts)).length ≤ x.length + 2 + sumLen (y :: ts)
    have h := join_le (y :: ts)
    rw [Str.length_append, Str.length_append]
    have : ((", " : Str)).length = 2 := by decide +kernel
    omega
theorem int_len (i : Int) : (Str.ofString (toString i)).length ≤ i.natAbs.log2 + 2 := by
  have h := int_text_length_le (a := i) (k := i.natAbs.log2 + 1) (by omega) (by omega)
  have e : (Str.ofString (toString i)).length = (toString i).length := by
    rw [Str.ofString_eq_toList]
    show ((toString i).toList.map Char.toNat).toArray.size = _
    rw [List.size_toArray, List.length_map, String.length_toList]
  omega
mutual
theorem shown_len : ∀ d : D, strsOk d = true → d.hasDict = false → d.shown.length ≤ wid d
  | .none, _, _ => by show ((("None" : String) : Str)).length ≤ 4; decide +kernel
  | .bool b, _, _ => by cases b <;> (show _ ≤ 5) <;> decide +kernel
  | .int i, _, _ => by rw [PyData.shown]; exact int_len i
  | .str x, h, _ => by
    rw [PyData.shown, wid]
    rw [strsOk, List.all_eq_true] at h
    exact StrLaws.reprText_len x fun c hc => of_decide_eq_true (h c hc)
  | .list xs, h, hd => by
    rw [PyData.shown, wid, listText, Str.length_append]
    have a := textFrom_le (PyData.shownAll xs) 0 "["
    have b := shownAll_len xs (by rw [strsOk] at h; exact h) (by rw [PyData.hasDict] at hd; exact hd)
    have c : (("[" : Str)).length = 1 := by decide +kernel
    have d : (("]" : Str)).length = 1 := by decide +kernel
    omega
  | .tuple xs, h, hd => by
    rw [PyData.shown, wid, tupleText, Str.length_append, Str.length_append]
    have a := join_le (PyData.shownAll xs)
    have b := shownAll_len xs (by rw [strsOk] at h; exact h) (by rw [PyData.hasDict] at hd; exact hd)
    have c : (("(" : Str)).length = 1 := by decide +kernel
    have d : (Str.ofString (if (PyData.shownAll xs).length == 1 then ",)" else ")" : String)).length ≤ 2 := by split <;> decide +kernel
    omega
  | .dict _, h, _ => by rw [strsOk] at h; exact nomatch h
theorem shownAll_len : ∀ ds : List D, strsOkAll ds = true → PyData.hasDictAll ds = false → sumLen (PyData.shownAll ds) ≤ widAll ds
  | [], _, _ => Nat.le_refl _
  | d :: ds, h, hd => by
    rw [strsOkAll, Bool.and_eq_true] at h
    rw [PyData.hasDictAll, Bool.or_eq_false_iff] at hd
    rw [PyData.shownAll, sumLen, widAll]
    have := shown_len d h.1 hd.1
    have := shownAll_len ds h.2 hd.2
    omega
end
theorem repr_list {ds : List D} (h1 : strsOkAll ds = true) (h2 : PyData.hasDictAll ds = false) (h3 : PyData.showableAll ds = true) (h4 : PyData.depthAll ds < 60) (h5 : widAll ds + 2 ≤ sizeLine) : reprD [.list ds] = some (.fz (.str (PyData.list ds).shown)) := by
  unfold reprD
  refine if_pos ⟨by rw [PyData.hasDict]; exact h2, by rw [PyData.showable]; exact h3, by rw [PyData.depth]; omega, ?_⟩
  refine Nat.le_trans (shown_len _ (by rw [strsOk]; exact h1) (by rw [PyData.hasDict]; exact h2)) (by rw [wid]; exact h5)
theorem repr_tuple {ds : List D} (h1 : strsOkAll ds = true) (h2 : PyData.hasDictAll ds = false) (h3 : PyData.showableAll ds = true) (h4 : PyData.depthAll ds < 60) (h5 : widAll ds + 3 ≤ sizeLine) : reprD [.tuple ds] = some (.fz (.str (PyData.tuple ds).shown)) := by
  unfold reprD
  refine if_pos ⟨by rw [PyData.hasDict]; exact h2, by rw [PyData.showable]; exact h3, by rw [PyData.depth]; omega, ?_⟩
  refine Nat.le_trans (shown_len _ (by rw [strsOk]; exact h1) (by rw [PyData.hasDict]; exact h2)) (by rw [wid]; exact h5)
end Fx

namespace Fx
open PySem PySem.Spec PyProof.Rows L2
section
variable {X : Cx}
/-! ### a builtin asked about a name, whose thing stays one's own -/
def peekM (f : List D → Option Sl) (i : Nat) : M Sl := bindM (getM i) fun d => bindM (liftM (f [d])) fun r => if flatD r.d then pureM (.fz r.d) else liftM none
theorem EnvR.peek {K : PySem.W.Frag} {G H : Hp} {σ : L2.St} {ρ : Rho} (E : EnvR K G H σ ρ) {i : Nat} {s : Sl} (h : ρ[i]? = some (some s)) : ∃ v G', σ[i]? = some (some v) ∧ Same G G' ∧ Same G' H ∧ Rp K G' v s.d := by
  cases s with
  | fz d =>
    obtain ⟨v, e1, r1⟩ := E.fz i d h
    exact ⟨v, G, e1, .refl _, E.sub, r1⟩
  | ow d =>
    obtain ⟨p, G', e1, S, r1⟩ := E.freeze h
    exact ⟨_, G', e1, S.same, S.env.sub, r1⟩
theorem rp_flat {K : PySem.W.Frag} {G G' : Hp} {v : V} {d : D} (h : Rp K G v d) (f : flatD d = true) : Rp K G' v d := by
  cases h with
  | non => exact .non
  | bl b => exact .bl b
  | int i => exact .int i
  | str x => exact .str x
  | _ => simp [flatD] at f
theorem res_flat {K : PySem.W.Frag} {G G' H H' : Hp} {v : V} {r : Sl} (h : ResV K G H H' v r) (f : flatD r.d = true) : Rp K G' v r.d := by
  cases r with
  | fz d => exact rp_flat h f
  | ow d =>
    exfalso
    obtain ⟨p, rfl, _, _, o⟩ := h
    cases d <;> first | (simp [flatD, Sl.d] at f; done) | exact o
theorem peek_in {K : PySem.W.Frag} {f : List D → Option Sl} {i : Nat} {σ : L2.St} {H : Hp} {Q : VK} (h : tM K (peekM f i) σ H Q) : tCB (rLD K f) (tCons (tVar i) tNil) σ H Q := by
  obtain ⟨G, ρ, r, ρ', E, hm, q⟩ := h
  obtain ⟨d, ρ1, e1, h2⟩ := bindM_some hm
  obtain ⟨rfl, s, es, rfl⟩ := getM_some e1
  obtain ⟨r0, ρ2, e3, h4⟩ := bindM_some h2
  obtain ⟨e5, rfl⟩ := liftM_some e3
  obtain ⟨v, G1, ev, s1, s2, rp⟩ := E.peek es
  have hf : flatD r0.d = true := by
    by_cases hf : flatD r0.d = true
    · exact hf
    · rw [if_neg hf] at h4; cases h4
  rw [if_pos hf] at h4
  obtain ⟨rfl, rfl⟩ := pureM_some h4
  refine ⟨v, ev, ?_⟩
  refine ⟨G1, [s.d], r0, s2, .one rp, e5, fun z H3 G3 S3 r3 => ?_⟩
  exact q z H3 G (.ofV E ⟨.refl _, s1.trans (S3.same.trans S3.sub), fun _ _ e => .inl e, S3.keep⟩) (res_flat r3 hf)
theorem fe_callBP (i : Nat) {x y : Str} {p q : Pos} {id : String} {f : List D → Option Sl} (hc : CallR X (.builtin id) (rLD X.K f)) (hg : Gl X x) (hm : X.mg x = none) (hv : bootBuiltins x = some (.builtin id)) (hN : X.N[i]? = some y := by rfl)
    (hvis : Vis X.env.scope y := by first | exact Or.inl rfl | exact Or.inr (Or.inl rfl) | exact Or.inr (Or.inr rfl)) (hn : x ≠ "__name__" := by decide) (hdb : (x == ("__debug__" : Str)) = false := by decide)
    (hd : (y == ("__debug__" : Str)) = false := by decide) (hcd : (y == ("__classdict__" : Str)) = false := by decide)
    (he : starEach (Expr.Name y q :: []) X.env = (false, eval (.Name y q) X.env) :: starEach [] X.env := by rfl) (hpl : (backTo pos (starEach [Expr.Name y q] X.env)).any (·.1) = false := by rfl) : FE X (.Call (.Name x p) [.Name y q] [] pos) (peekM f i) :=
  imE (pe_callB hc hg hm hv (pa_cons (pe_var (i := i) hN hvis hd hcd) pa_nil he) hn hdb he hpl) fun _ _ _ => peek_in
end
theorem h0_peekM {ρ : Rho} {f : List D → Option Sl} {i : Nat} {Φ : Sl → Rho → Prop} : H0 (peekM f i) ρ Φ = getP (fun d => O0 (f [d]) fun r => if flatD r.d = true then Φ (.fz r.d) ρ else False) ρ[i]? := by
  unfold peekM; simp only [h0_bindM, h0_getM, h0_liftM, h0_ite, h0_pureM, o0_none]
theorem ho_peekM {ρ : Rho} {f : List D → Option Sl} {i : Nat} {Φ : Sl → Rho → Prop} : Ho (peekM f i) ρ Φ = getP (fun d => Oo (f [d]) fun r => if flatD r.d = true then Φ (.fz r.d) ρ else False) ρ[i]? := h0_peekM
theorem fl_int {i : Int} : flatD (.int i) = true := rfl
theorem fl_str {i : Str} : flatD (.str i) = true := rfl
theorem fl_bool {i : Bool} : flatD (.bool i) = true := rfl
end Fx

namespace Fx
open PySem PySem.Spec PyProof.Rows L2
theorem ho_lc2_map {mi1 : M (List D)} {g g1 : D → M Unit} {e : M Sl} {vs vs1 : List Nat} {js : D → List D} {f : D → D → D} {Φ : List D → Rho → Prop} (ρ : Rho) : ∀ (its : List D),
    (∀ x ∈ its, Ho (g x) ρ fun _ ρ1 => Ho mi1 ρ1 fun its1 ρ2 => its1 = js x ∧ (∀ y ∈ js x, Ho (g1 y) (wipeR ρ2 vs1) fun _ ρ3 => Ho e ρ3 fun r ρ4 => r.d = f x y ∧ wipeR ρ4 vs1 = wipeR ρ2 vs1) ∧ wipeR (wipeR ρ2 vs1) vs = ρ) →
    Φ (its.flatMap fun x => (js x).map (f x)) ρ → Ho (lc2Loop g yesM mi1 g1 yesM e vs vs1 its) ρ Φ := by
  suffices H : ∀ (its : List D), (∀ x ∈ its, Ho (g x) ρ fun _ ρ1 => Ho mi1 ρ1 fun its1 ρ2 => its1 = js x ∧ (∀ y ∈ js x, Ho (g1 y) (wipeR ρ2 vs1) fun _ ρ3 => Ho e ρ3 fun r ρ4 => r.d = f x y ∧ wipeR ρ4 vs1 = wipeR ρ2 vs1) ∧ wipeR (wipeR ρ2 vs1) vs = ρ) →
      Ho (lc2Loop g yesM mi1 g1 yesM e vs vs1 its) ρ fun rs ρ1 => rs = (its.flatMap fun x => (js x).map (f x)) ∧ ρ1 = ρ by
    intro its h q
    refine ho_mono (H its h) fun rs ρ1 h => ?_
    rw [h.1, h.2]; exact q
  intro its
  induction its with
  | nil => intro h; rw [ho_lc2_nil]; exact ⟨rfl, rfl⟩
  | cons x xs ih =>
    intro h; rw [ho_lc2_cons]
    refine ho_mono (h x List.mem_cons_self) fun _ ρ1 hx => ?_
    rw [ho_yesM, if_pos rfl]
    refine ho_mono hx fun its1 ρ2 hx => ?_
    obtain ⟨rfl, hy, hw⟩ := hx
    refine ho_lc_map (f := f x) (wipeR ρ2 vs1) (js x) hy ?_
    rw [hw]
    refine ho_mono (ih fun y hy => h y (List.mem_cons_of_mem _ hy)) fun rs ρ3 hr => ?_
    obtain ⟨rfl, rfl⟩ := hr
    exact ⟨rfl, rfl⟩
theorem ho_lc_inv {g : D → M Unit} {e : M Sl} {vs : List Nat} (I : List D → Rho → Prop) (Φ : List D → Rho → Prop) (its : List D) (ρ : Rho) (i0 : I [] ρ)
    (st : ∀ rs x ρ1, x ∈ its → rs.length < its.length → I rs ρ1 → Ho (g x) ρ1 fun _ ρ2 => Ho e ρ2 fun r ρ3 => I (rs ++ [r.d]) (wipeR ρ3 vs)) (q : ∀ rs ρ1, rs.length = its.length → I rs ρ1 → Φ rs ρ1) : Ho (lcLoop g yesM e vs its) ρ Φ := by
  suffices H : ∀ (js : List D) (rs0 : List D) (ρ : Rho), (∀ x ∈ js, x ∈ its) → rs0.length + js.length = its.length → I rs0 ρ → Ho (lcLoop g yesM e vs js) ρ fun rs ρ1 => (rs0 ++ rs).length = its.length ∧ I (rs0 ++ rs) ρ1 by
    refine ho_mono (H its [] ρ (fun x h => h) (by simp) i0) fun rs ρ1 h => ?_
    rw [List.nil_append] at h
    exact q rs ρ1 h.1 h.2
  intro js
  induction js with
  | nil => intro rs0 ρ _ hl h; rw [ho_lc_nil, List.append_nil]; exact ⟨by simpa using hl, h⟩
  | cons x xs ih =>
    intro rs0 ρ hx hl h; rw [ho_lc_cons]
    rw [List.length_cons] at hl
    refine ho_mono (st rs0 x ρ (hx x List.mem_cons_self) (by omega) h) fun _ ρ1 he => ?_
    rw [ho_yesM, if_pos rfl]
    refine ho_mono he fun r ρ2 hr => ?_
    refine ho_mono (ih (rs0 ++ [r.d]) _ (fun y hy => hx y (List.mem_cons_of_mem _ hy)) (by rw [List.length_append, List.length_singleton]; omega) hr) fun rs ρ3 hr => ?_
    rw [List.append_assoc] at hr
    exact hr
theorem rangeD_len {n : Int} : (rangeD 0 n).length = n.toNat := by
  unfold rangeD; rw [List.length_map, List.length_range, Int.sub_zero]
theorem rangeD_at {n : Int} {j : Nat} {x : D} (h : (rangeD 0 n)[j]? = some x) : x = .int j ∧ j < n.toNat := by
  unfold rangeD at h
  have hl := (List.getElem?_eq_some_iff.mp h).1
  simp only [List.length_map, List.length_range] at hl
  rw [List.getElem?_map, List.getElem?_range (by omega)] at h
  simp at h
  exact ⟨h.symm, by omega⟩
theorem rangeD_mem {n : Int} {x : D} (h : x ∈ rangeD 0 n) : ∃ j : Nat, x = .int j ∧ j < n.toNat := by
  obtain ⟨j, hj⟩ := List.getElem?_of_mem h
  exact ⟨j, rangeD_at hj⟩
end Fx

namespace Lw
open PySem PySem.Spec PyProof.Rows L2 Fx
abbrev N_is_integer : List Str := ["thing", "least", "most"]
def m_is_integer : M Fl :=
    seqS (ifS (orM (notM (testM (isiM "int" (varM 0)))) (orM (testM (isiM "bool" (varM 0))) (testM (bin ltD (varM 0) (varM 1))))) (retS (cM (.bool false))) (pureM .nx))
    (retS (orV (isNM (varM 2)) (bin leD (varM 0) (varM 2))))
def F_is_integer : List D → Option Sl := runF 3 N_is_integer m_is_integer
abbrev N_product : List Str := ["numbers", "found", "one"]
def m_product : M Fl :=
    seqS (setS 1 (cM (.int 1)))
    (seqS (forS (seqM (varM 0)) (putM 2) (setS 1 (bin mulD (varM 1) (varM 2))))
    (retV 1))
def F_product : List D → Option Sl := runF 1 N_product m_product
abbrev N_is_grid : List Str := ["thing", "one"]
def m_is_grid : M Fl :=
    seqS (ifS (orM (notM (testM (isiM "tuple" (varM 0)))) (notM (testM (chainM leD leD (cM (.int 1)) (peekM lenD 0) (cM (.int 3)))))) (retS (cM (.bool false))) (pureM .nx))
    (retS (andV (callM allD (consM (lcM (seqM (varM 0)) (putM 1) (yesM) (callM F_is_integer (consM (varM 1) (consM (cM (.int 2)) (consM (cM (.int 8)) (nilM))))) [1]) (nilM))) (bin leD (callM F_product (consM (varM 0) (nilM))) (cM (.int 64)))))
def F_is_grid : List D → Option Sl := runF 1 N_is_grid m_is_grid
abbrev N_need_grid : List Str := ["grid"]
def m_need_grid : M Fl :=
    ifS (notM (testM (callM F_is_grid (consM (varM 0) (nilM))))) (neverS) (pureM .nx)
def F_need_grid : List D → Option Sl := runF 1 N_need_grid m_need_grid
abbrev N_raw_workers : List Str := ["grid", "found", "size", "one", "at"]
def m_raw_workers : M Fl :=
    seqS (setS 1 (lstM (consM (tupM (nilM)) (nilM))))
    (seqS (forS (seqM (varM 0)) (putM 2) (setS 1 (lc2M (seqM (varM 1)) (putM 3) (yesM) (rngM rng1 (consM (varM 2) (nilM))) (putM 4) (yesM) (bin addD (varM 3) (tupM (consM (varM 4) (nilM)))) [3, 4] [4])))
    (retV 1))
def F_raw_workers : List D → Option Sl := runF 1 N_raw_workers m_raw_workers
abbrev N_workers_of : List Str := ["grid"]
def m_workers_of : M Fl :=
    seqS (dropS (callM F_need_grid (consM (varM 0) (nilM))))
    (retS (callM F_raw_workers (consM (varM 0) (nilM))))
def F_workers_of : List D → Option Sl := runF 1 N_workers_of m_workers_of
abbrev N_raw_piece : List Str := ["n", "k", "i"]
def m_raw_piece : M Fl :=
    retS (tupM (consM (bin fdivD (bin mulD (varM 2) (varM 0)) (varM 1)) (consM (bin fdivD (bin mulD (bin addD (varM 2) (cM (.int 1))) (varM 0)) (varM 1)) (nilM))))
def F_raw_piece : List D → Option Sl := runF 3 N_raw_piece m_raw_piece
abbrev N_piece_of : List Str := ["n", "k", "i"]
def m_piece_of : M Fl :=
    seqS (ifS (notM (testM (callM F_is_integer (consM (varM 0) (consM (cM (.int 0)) (consM (cM .none) (nilM))))))) (neverS) (pureM .nx))
    (seqS (ifS (notM (testM (callM F_is_integer (consM (varM 1) (consM (cM (.int 1)) (consM (cM .none) (nilM))))))) (neverS) (pureM .nx))
    (seqS (ifS (notM (testM (callM F_is_integer (consM (varM 2) (consM (cM (.int 0)) (consM (bin subD (varM 1) (cM (.int 1))) (nilM))))))) (neverS) (pureM .nx))
    (retS (callM F_raw_piece (consM (varM 0) (consM (varM 1) (consM (varM 2) (nilM))))))))
def F_piece_of : List D → Option Sl := runF 3 N_piece_of m_piece_of
abbrev N__law_spread : List Str := ["_law_cell", "_law_at", "_law_primes", "_law_one", "_law_two", "_law_three"]
def m__law_spread : M Fl :=
    seqS (ifS (testM (bin geD (varM 0) (bin powD (cM (.int 10)) (cM (.int 18))))) (retV 0) (pureM .nx))
    (seqS (setS 2 (lstM (consM (cM (.int 2147483629)) (consM (cM (.int 2147483587)) (consM (cM (.int 2147483579)) (consM (cM (.int 2147483563)) (consM (cM (.int 2147483549)) (consM (cM (.int 2147483543)) (consM (cM (.int 2147483497)) (consM (cM (.int 2147483489)) (nilM)))))))))))
    (seqS (setS 2 (bin addD (varM 2) (lstM (consM (cM (.int 2147483477)) (consM (cM (.int 2147483423)) (consM (cM (.int 2147483399)) (consM (cM (.int 2147483353)) (consM (cM (.int 2147483323)) (nilM)))))))))
    (seqS (setS 3 (bin mulD (bin modD (callM toIntD (consM (varM 0) (nilM))) (cM (.int 1000000007))) (bin addD (bin mulD (cM (.int 2)) (varM 1)) (cM (.int 69069)))))
    (seqS (setS 3 (bin modD (callM toIntD (consM (bin powD (bin addD (bin addD (varM 3) (bin mulD (varM 1) (cM (.int 40503)))) (cM (.int 977))) (cM (.int 3))) (nilM))) (ixVM 2 (bin modD (callM toIntD (consM (varM 1) (nilM))) (cM (.int 13))))))
    (seqS (setS 4 (bin modD (callM toIntD (consM (bin powD (bin addD (bin addD (bin mulD (varM 3) (bin addD (varM 1) (cM (.int 3)))) (bin modD (callM toIntD (consM (varM 0) (nilM))) (cM (.int 65537)))) (cM (.int 5))) (cM (.int 5))) (nilM))) (ixVM 2 (bin modD (callM toIntD (consM (bin addD (varM 1) (cM (.int 5))) (nilM))) (cM (.int 13))))))
    (seqS (setS 5 (bin modD (callM toIntD (consM (bin powD (bin addD (bin addD (varM 4) (bin modD (callM toIntD (consM (varM 3) (nilM))) (cM (.int 1009)))) (varM 1)) (cM (.int 3))) (nilM))) (ixVM 2 (bin modD (callM toIntD (consM (bin addD (varM 1) (cM (.int 7))) (nilM))) (cM (.int 13))))))
    (retS (bin addD (bin mulD (bin addD (bin mulD (varM 3) (cM (.int 2147483647))) (varM 4)) (cM (.int 2147483647))) (varM 5)))))))))
def F__law_spread : List D → Option Sl := runF 2 N__law_spread m__law_spread
abbrev N__law_open : List Str := ["_law_script", "_law_cells", "_law_nth", "_law_cell"]
def m__law_open : M Fl :=
    seqS (setS 1 (callM listD (consM (sliceM (varM 0) (pureM none) (partM (cM (.int 12)))) (nilM))))
    (seqS (forS (rngM enumD (consM (sliceM (varM 0) (partM (cM (.int 12))) (partM (cM (.int 63)))) (nilM))) (tupG 2 (gsCons (putM 2) (gsCons (putM 3) (gsNil)))) (setLS 1 (bin modD (callM toIntD (consM (varM 2) (nilM))) (cM (.int 12))) (bin addD (ixVM 1 (bin modD (callM toIntD (consM (varM 2) (nilM))) (cM (.int 12)))) (varM 3))))
    (retS (lstM (consM (varM 1) (consM (cM (.int 0)) (consM (cM (.int 0)) (nilM)))))))
def F__law_open : List D → Option Sl := runF 1 N__law_open m__law_open
abbrev N__law_take : List Str := ["_law_pen", "_law_many", "_law_found", "_law_at", "_law_cell"]
def m__law_take : M Fl :=
    seqS (ifS (testM (bin ltD (ixVM 0 (cM (.int 2))) (varM 1))) (seqS (setS 3 (ixVM 0 (cM (.int 1))))
    (seqS (setS 4 (cM (.int 0)))
    (seqS (ifS (testM (bin ltD (varM 3) (callM lenD (consM (ixVM 0 (cM (.int 0))) (nilM))))) (setS 4 (bin ixD (ixVM 0 (cM (.int 0))) (varM 3))) (ifS (testM (bin gtD (callM lenD (consM (ixVM 0 (cM (.int 0))) (nilM))) (cM (.int 0)))) (setS 4 (bin modD (callM toIntD (consM (bin ixD (ixVM 0 (cM (.int 0))) (bin modD (callM toIntD (consM (bin addD (bin mulD (varM 3) (cM (.int 5))) (cM (.int 3))) (nilM))) (callM lenD (consM (ixVM 0 (cM (.int 0))) (nilM))))) (nilM))) (bin addD (bin powD (cM (.int 10)) (cM (.int 17))) (varM 3)))) (pureM .nx)))
    (seqS (setLS 0 (cM (.int 1)) (bin addD (varM 3) (cM (.int 1))))
    (setLS 0 (cM (.int 2)) (callM F__law_spread (consM (varM 4) (consM (varM 3) (nilM))))))))) (pureM .nx))
    (seqS (setS 2 (bin modD (callM toIntD (consM (ixVM 0 (cM (.int 2))) (nilM))) (varM 1)))
    (seqS (setLS 0 (cM (.int 2)) (bin fdivD (ixVM 0 (cM (.int 2))) (varM 1)))
    (retS (varM 2))))
def F__law_take : D → List D → Option (Sl × D) := runM 2 N__law_take m__law_take
abbrev N__law_w_pick : List Str := ["_law_pen", "_law_some"]
def m__law_w_pick : M Fl :=
    retS (ixVM 1 (callRM 0 F__law_take (consM (peekM lenD 1) (nilM))))
def F__law_w_pick : D → List D → Option (Sl × D) := runM 2 N__law_w_pick m__law_w_pick
abbrev N__law_w_workers : List Str := ["_law_grid", "_law_found", "_law_size", "_law_longer", "_law_one", "_law_at"]
def m__law_w_workers : M Fl :=
    seqS (setS 1 (lstM (consM (tupM (nilM)) (nilM))))
    (seqS (forS (seqM (varM 0)) (putM 2) (seqS (setS 3 (lstM (nilM)))
    (seqS (forS (seqM (varM 1)) (putM 4) (setS 3 (bin addD (varM 3) (lcM (rngM rng1 (consM (varM 2) (nilM))) (putM 5) (yesM) (bin addD (varM 4) (tupM (consM (varM 5) (nilM)))) [5]))))
    (setS 1 (varM 3)))))
    (retV 1))
def F__law_w_workers : List D → Option Sl := runF 1 N__law_w_workers m__law_w_workers
abbrev N__law_w_product : List Str := ["_law_numbers", "_law_found", "_law_one"]
def m__law_w_product : M Fl :=
    seqS (setS 1 (cM (.int 1)))
    (seqS (forS (seqM (varM 0)) (putM 2) (setS 1 (bin mulD (varM 1) (varM 2))))
    (retV 1))
def F__law_w_product : List D → Option Sl := runF 1 N__law_w_product m__law_w_product
abbrev N__law_w_pieces_right : List Str := ["_law_pen", "_law_n", "_law_k", "_law_turn", "_law_i", "_law_told", "_law_x", "_law_start", "_law_stop", "_law_q", "_law_j", "_law_inner", "_law_outer"]
def m__law_w_pieces_right : M Fl :=
    seqS (ifS (orM (testM (bin neD (bin ixD (callM F_piece_of (consM (varM 1) (consM (varM 2) (consM (cM (.int 0)) (nilM))))) (cM (.int 0))) (cM (.int 0)))) (testM (bin neD (bin ixD (callM F_piece_of (consM (varM 1) (consM (varM 2) (consM (bin subD (varM 2) (cM (.int 1))) (nilM))))) (cM (.int 1))) (varM 1)))) (retS (cM (.bool false))) (pureM .nx))
    (seqS (forS (rngM rng1 (consM (cM (.int 4)) (nilM))) (putM 3) (seqS (setS 4 (callRM 0 F__law_take (consM (varM 2) (nilM))))
    (seqS (setS 5 (callM F_piece_of (consM (varM 1) (consM (varM 2) (consM (varM 4) (nilM))))))
    (seqS (ifS (orM (testM (bin neD (peekM reprD 5) (callM reprD (consM (tupM (consM (bin fdivD (bin mulD (varM 4) (varM 1)) (varM 2)) (consM (bin fdivD (bin mulD (bin addD (varM 4) (cM (.int 1))) (varM 1)) (varM 2)) (nilM)))) (nilM))))) (testM (bin notInD (bin subD (ixVM 5 (cM (.int 1))) (ixVM 5 (cM (.int 0)))) (lstM (consM (bin fdivD (varM 1) (varM 2)) (consM (bin addD (bin fdivD (varM 1) (varM 2)) (cM (.int 1))) (nilM))))))) (retS (cM (.bool false))) (pureM .nx))
    (seqS (ifS (andM (testM (bin gtD (varM 4) (cM (.int 0)))) (testM (bin neD (bin ixD (callM F_piece_of (consM (varM 1) (consM (varM 2) (consM (bin subD (varM 4) (cM (.int 1))) (nilM))))) (cM (.int 1))) (ixVM 5 (cM (.int 0)))))) (retS (cM (.bool false))) (pureM .nx))
    (seqS (setS 6 (ifM (testM (bin gtD (varM 1) (cM (.int 0)))) (callRM 0 F__law_take (consM (varM 1) (nilM))) (cM (.int 0))))
    (seqS (setS 4 (ifM (testM (bin gtD (varM 1) (cM (.int 0)))) (bin fdivD (bin subD (bin mulD (bin addD (varM 6) (cM (.int 1))) (varM 2)) (cM (.int 1))) (varM 1)) (cM (.int 0))))
    (seqS (asgS (tupG 2 (gsCons (putM 7) (gsCons (putM 8) (gsNil)))) (callM F_piece_of (consM (varM 1) (consM (varM 2) (consM (callM minD (consM (varM 4) (consM (bin subD (varM 2) (cM (.int 1))) (nilM)))) (nilM))))))
    (seqS (ifS (andM (testM (bin gtD (varM 1) (cM (.int 0)))) (notM (testM (chainM leD ltD (varM 7) (varM 6) (varM 8))))) (retS (cM (.bool false))) (pureM .nx))
    (seqS (parS 9 10 (consM (bin addD (cM (.int 2)) (callRM 0 F__law_take (consM (cM (.int 7)) (nilM)))) (consM (callRM 0 F__law_take (consM (cM (.int 2)) (nilM))) (nilM))))
    (seqS (parS 11 12 (consM (callM F_piece_of (consM (varM 1) (consM (bin mulD (varM 2) (varM 9)) (consM (bin addD (bin mulD (varM 4) (varM 9)) (varM 10)) (nilM))))) (consM (callM F_piece_of (consM (varM 1) (consM (varM 2) (consM (callM minD (consM (varM 4) (consM (bin subD (varM 2) (cM (.int 1))) (nilM)))) (nilM))))) (nilM))))
    (ifS (andM (testM (bin ltD (varM 4) (varM 2))) (notM (testM (chain3M leD leD leD (ixVM 12 (cM (.int 0))) (ixVM 11 (cM (.int 0))) (ixVM 11 (cM (.int 1))) (ixVM 12 (cM (.int 1))))))) (retS (cM (.bool false))) (pureM .nx)))))))))))))
    (retS (cM (.bool true))))
def F__law_w_pieces_right : D → List D → Option (Sl × D) := runM 3 N__law_w_pieces_right m__law_w_pieces_right
abbrev N_law : List Str := ["_law_script", "_law_pen", "_law_turn", "_law_grid", "_law_again", "_law_n", "_law_some", "_law_told", "_law_side"]
def m_law : M Fl :=
    seqS (setS 1 (callM F__law_open (consM (varM 0) (nilM))))
    (seqS (forS (rngM rng1 (consM (cM (.int 3)) (nilM))) (putM 2) (seqS (setS 3 (callM tupleD (consM (lcM (rngM rng1 (consM (bin addD (cM (.int 1)) (callRM 1 F__law_take (consM (cM (.int 3)) (nilM)))) (nilM))) (putM 8) (yesM) (bin addD (cM (.int 2)) (callRM 1 F__law_take (consM (callRM 1 F__law_w_pick (consM (lstM (consM (cM (.int 2)) (consM (cM (.int 3)) (consM (cM (.int 7)) (nilM))))) (nilM))) (nilM)))) [8]) (nilM))))
    (seqS (setS 3 (ifM (testM (bin leD (callM F__law_w_product (consM (varM 3) (nilM))) (cM (.int 64)))) (varM 3) (sliceM (varM 3) (pureM none) (partM (cM (.int 1))))))
    (seqS (forS (rngM rng1 (consM (cM (.int 2)) (nilM))) (putM 4) (seqS (setS 7 (callM F_workers_of (consM (varM 3) (nilM))))
    (seqS (ifS (orM (testM (bin neD (peekM reprD 7) (callM reprD (consM (callM F__law_w_workers (consM (varM 3) (nilM))) (nilM))))) (testM (bin neD (peekM lenD 7) (callM F__law_w_product (consM (varM 3) (nilM)))))) (retS (cM (.bool false))) (pureM .nx))
    (dropS (appendM 7 (cM .none))))))
    (seqS (setS 5 (callRM 1 F__law_w_pick (consM (lstM (consM (cM (.int 0)) (consM (cM (.int 1)) (consM (cM (.int 7)) (consM (callRM 1 F__law_take (consM (cM (.int 100)) (nilM))) (consM (bin powD (cM (.int 10)) (cM (.int 40))) (consM (callRM 1 F__law_take (consM (bin powD (cM (.int 10)) (cM (.int 40))) (nilM))) (nilM)))))))) (nilM))))
    (seqS (setS 6 (lstM (consM (cM (.int 1)) (consM (cM (.int 2)) (consM (cM (.int 3)) (consM (cM (.int 8)) (consM (cM (.int 64)) (consM (bin addD (cM (.int 1)) (callRM 1 F__law_take (consM (bin powD (cM (.int 10)) (cM (.int 12))) (nilM)))) (consM (bin powD (cM (.int 10)) (cM (.int 39))) (consM (bin addD (cM (.int 1)) (callRM 1 F__law_take (consM (bin powD (cM (.int 10)) (cM (.int 39))) (nilM)))) (nilM)))))))))))
    (ifS (notM (testM (callRM 1 F__law_w_pieces_right (consM (varM 5) (consM (callRM 1 F__law_w_pick (consM (varM 6) (nilM))) (nilM)))))) (retS (cM (.bool false))) (pureM .nx))))))))
    (retS (cM (.bool true))))
def F_law : List D → Option Sl := runF 1 N_law m_law
end Lw

namespace Lw
open PySem PySem.Spec PyProof.Rows L2 Fx
theorem log_lt {n k : Nat} (h : n < 2 ^ k) (hk : 0 < k) : n.log2 < k := by
  by_cases h0 : n = 0
  · subst h0; rw [Nat.log2_zero]; exact hk
  · exact (Nat.log2_lt h0).mpr h
theorem log2_le {n k : Nat} (h : n < 2 ^ (k + 1)) : n.log2 ≤ k := Nat.le_of_lt_succ (log_lt h (by omega))
theorem mul_bd {a b A B : Int} (a0 : 0 ≤ a) (a1 : a ≤ A) (b0 : 0 ≤ b) (b1 : b ≤ B) : 0 ≤ a * b ∧ a * b ≤ A * B := ⟨Int.mul_nonneg a0 b0, Int.mul_le_mul a1 b1 b0 (by omega)⟩
def primesL : List D := [.int 2147483629, .int 2147483587, .int 2147483579, .int 2147483563, .int 2147483549, .int 2147483543, .int 2147483497, .int 2147483489, .int 2147483477, .int 2147483423, .int 2147483399, .int 2147483353, .int 2147483323]
theorem primes_at {i : Int} {Φ : D → Prop} (h0 : 0 ≤ i) (h : i < 13) (q : ∀ p : Int, 0 < p → p < 2 ^ 31 → Φ (.int p)) : Oo (atI primesL i) Φ := by
  refine oo_atI h0 h fun x e => ?_
  have : i.toNat < 13 := by omega
  have key : ∀ k < 13, ∃ p : Int, primesL[k]? = some (.int p) ∧ 0 < p ∧ p < 2 ^ 31 := by
    intro k hk
    rcases k with _ | _ | _ | _ | _ | _ | _ | _ | _ | _ | _ | _ | _ | k
    all_goals first | exact ⟨_, rfl, by decide, by decide⟩ | omega
  obtain ⟨p, e', p0, p1⟩ := key _ this
  rw [e'] at e
  obtain rfl := Option.some.inj e
  exact q p p0 p1
theorem lg {a b : Int} (ha : a.natAbs < 2 ^ 200) (hb : b.natAbs < 2 ^ 200) : a.natAbs.log2 + b.natAbs.log2 < 1000000 := by
  have := log2_le (n := a.natAbs) (k := 200) (by omega)
  have := log2_le (n := b.natAbs) (k := 200) (by omega)
  omega
theorem spread_ok (c at' : Int) (h0 : 0 ≤ at') (h1 : at' < 2 ^ 20) : Oo (F__law_spread [.int c, .int at']) fun s => ∃ r, s = .fz (.int r) := by
  refine oo_runF rfl ?_
  show Ho m__law_spread [some (.fz (.int c)), some (.fz (.int at')), none, none, none, none] _
  unfold m__law_spread
  simp only [varP_fz, varP_ow, getP_some, blP_b, flP_nx, flP_bk, flP_ct, flP_rt, retP_some, parP_2, ownP_some, ownLP_some, setKP_int, loP_nx, loP_ct, loP_bk, loP_rt, oo_some, oo_none, oo_map, oo_bind, oo_if, ↓ho_bindM, ↓ho_pureM, ↓ho_liftM, ↓ho_cM, ↓ho_bin, ↓ho_una, ↓ho_varM, ↓ho_getM, ↓ho_nilM, ↓ho_consM, ↓ho_tupM, ↓ho_lstM, ↓ho_callM, ↓ho_boolM, ↓ho_testM, ↓ho_notM, ↓ho_ite, ↓ho_andM, ↓ho_orM, ↓ho_blM, ↓ho_andV, ↓ho_orV, ↓ho_notV, ↓ho_ifM, ↓ho_chainM, ↓ho_chain3M, ↓ho_ixVM, ↓ho_partM, ↓ho_sliceM, ↓ho_seqM, ↓ho_rngM, ↓ho_putM, ↓ho_putO, ↓ho_gsNil, ↓ho_gsCons, ↓ho_tupG, ↓ho_yesM, ↓ho_wipeM, ↓ho_seqS, ↓ho_dropS, ↓ho_retS, ↓ho_retF, ↓ho_retV, ↓ho_setS, ↓ho_asgS, ↓ho_parS, ↓ho_ifS, ↓ho_ownM, ↓ho_ownL, ↓ho_appendM, ↓ho_setLS, ↓ho_callRM, ↓ho_forS, ↓ho_lcM, ↓ho_lc2M, rtP_rt, rtP_nx, rmP_rt, rmP_nx, sl_fz, sl_ow, o_add, o_addT, o_addL, o_addS, o_sub, o_mul, o_fdiv, o_mod, o_pow, o_neg, o_cmp, o_eq, o_ne, o_eqS, o_neS, o_lenL, o_lenT, o_min, o_max, o_toInt, o_tupL, o_tupT, o_lstL, o_lstT, o_seqL, o_seqT, o_part, o_slL, o_slT, o_memL, o_memT, o_ixL, o_ixT, o_rng1, o_rng2, o_enum, ↓ho_peekM, fl_int, fl_str, fl_bool, List.getElem?_cons_zero, List.getElem?_cons_succ, List.set_cons_zero, List.set_cons_succ, List.length_cons, List.length_nil, decide_eq_true_eq, true_and, and_true, Bool.not_true, Bool.not_false, if_true, if_false, ↓reduceIte, Bool.false_eq_true, Nat.reduceAdd, Int.reduceToNat, Int.reducePow, Int.reduceAdd, Int.reduceSub, Int.reduceNeg, Int.reduceMul, Int.reduceDiv, Int.reduceMod, Int.reduceLT, Int.reduceLE, Nat.reduceLeDiff, Nat.reduceEqDiff, decide_true, decide_false, and_self, wipeR, restR, List.getD_cons_succ, List.getD_cons_zero]
  refine ⟨by decide, ?_⟩
  by_cases hc : (1000000000000000000 : Int) ≤ c
  · simp only [varP_fz, varP_ow, getP_some, blP_b, flP_nx, flP_bk, flP_ct, flP_rt, retP_some, parP_2, ownP_some, ownLP_some, setKP_int, loP_nx, loP_ct, loP_bk, loP_rt, oo_some, oo_none, oo_map, oo_bind, oo_if, ↓ho_bindM, ↓ho_pureM, ↓ho_liftM, ↓ho_cM, ↓ho_bin, ↓ho_una, ↓ho_varM, ↓ho_getM, ↓ho_nilM, ↓ho_consM, ↓ho_tupM, ↓ho_lstM, ↓ho_callM, ↓ho_boolM, ↓ho_testM, ↓ho_notM, ↓ho_ite, ↓ho_andM, ↓ho_orM, ↓ho_blM, ↓ho_andV, ↓ho_orV, ↓ho_notV, ↓ho_ifM, ↓ho_chainM, ↓ho_chain3M, ↓ho_ixVM, ↓ho_partM, ↓ho_sliceM, ↓ho_seqM, ↓ho_rngM, ↓ho_putM, ↓ho_putO, ↓ho_gsNil, ↓ho_gsCons, ↓ho_tupG, ↓ho_yesM, ↓ho_wipeM, ↓ho_seqS, ↓ho_dropS, ↓ho_retS, ↓ho_retF, ↓ho_retV, ↓ho_setS, ↓ho_asgS, ↓ho_parS, ↓ho_ifS, ↓ho_ownM, ↓ho_ownL, ↓ho_appendM, ↓ho_setLS, ↓ho_callRM, ↓ho_forS, ↓ho_lcM, ↓ho_lc2M, rtP_rt, rtP_nx, rmP_rt, rmP_nx, sl_fz, sl_ow, o_add, o_addT, o_addL, o_addS, o_sub, o_mul, o_fdiv, o_mod, o_pow, o_neg, o_cmp, o_eq, o_ne, o_eqS, o_neS, o_lenL, o_lenT, o_min, o_max, o_toInt, o_tupL, o_tupT, o_lstL, o_lstT, o_seqL, o_seqT, o_part, o_slL, o_slT, o_memL, o_memT, o_ixL, o_ixT, o_rng1, o_rng2, o_enum, ↓ho_peekM, fl_int, fl_str, fl_bool, List.getElem?_cons_zero, List.getElem?_cons_succ, List.set_cons_zero, List.set_cons_succ, List.length_cons, List.length_nil, decide_eq_true_eq, true_and, and_true, Bool.not_true, Bool.not_false, if_true, if_false, ↓reduceIte, Bool.false_eq_true, Nat.reduceAdd, Int.reduceToNat, Int.reducePow, Int.reduceAdd, Int.reduceSub, Int.reduceNeg, Int.reduceMul, Int.reduceDiv, Int.reduceMod, Int.reduceLT, Int.reduceLE, Nat.reduceLeDiff, Nat.reduceEqDiff, decide_true, decide_false, and_self, wipeR, restR, List.getD_cons_succ, List.getD_cons_zero, hc]
    exact ⟨_, rfl⟩
  · simp only [varP_fz, varP_ow, getP_some, blP_b, flP_nx, flP_bk, flP_ct, flP_rt, retP_some, parP_2, ownP_some, ownLP_some, setKP_int, loP_nx, loP_ct, loP_bk, loP_rt, oo_some, oo_none, oo_map, oo_bind, oo_if, ↓ho_bindM, ↓ho_pureM, ↓ho_liftM, ↓ho_cM, ↓ho_bin, ↓ho_una, ↓ho_varM, ↓ho_getM, ↓ho_nilM, ↓ho_consM, ↓ho_tupM, ↓ho_lstM, ↓ho_callM, ↓ho_boolM, ↓ho_testM, ↓ho_notM, ↓ho_ite, ↓ho_andM, ↓ho_orM, ↓ho_blM, ↓ho_andV, ↓ho_orV, ↓ho_notV, ↓ho_ifM, ↓ho_chainM, ↓ho_chain3M, ↓ho_ixVM, ↓ho_partM, ↓ho_sliceM, ↓ho_seqM, ↓ho_rngM, ↓ho_putM, ↓ho_putO, ↓ho_gsNil, ↓ho_gsCons, ↓ho_tupG, ↓ho_yesM, ↓ho_wipeM, ↓ho_seqS, ↓ho_dropS, ↓ho_retS, ↓ho_retF, ↓ho_retV, ↓ho_setS, ↓ho_asgS, ↓ho_parS, ↓ho_ifS, ↓ho_ownM, ↓ho_ownL, ↓ho_appendM, ↓ho_setLS, ↓ho_callRM, ↓ho_forS, ↓ho_lcM, ↓ho_lc2M, rtP_rt, rtP_nx, rmP_rt, rmP_nx, sl_fz, sl_ow, o_add, o_addT, o_addL, o_addS, o_sub, o_mul, o_fdiv, o_mod, o_pow, o_neg, o_cmp, o_eq, o_ne, o_eqS, o_neS, o_lenL, o_lenT, o_min, o_max, o_toInt, o_tupL, o_tupT, o_lstL, o_lstT, o_seqL, o_seqT, o_part, o_slL, o_slT, o_memL, o_memT, o_ixL, o_ixT, o_rng1, o_rng2, o_enum, ↓ho_peekM, fl_int, fl_str, fl_bool, List.getElem?_cons_zero, List.getElem?_cons_succ, List.set_cons_zero, List.set_cons_succ, List.length_cons, List.length_nil, decide_eq_true_eq, true_and, and_true, Bool.not_true, Bool.not_false, if_true, if_false, ↓reduceIte, Bool.false_eq_true, Nat.reduceAdd, Int.reduceToNat, Int.reducePow, Int.reduceAdd, Int.reduceSub, Int.reduceNeg, Int.reduceMul, Int.reduceDiv, Int.reduceMod, Int.reduceLT, Int.reduceLE, Nat.reduceLeDiff, Nat.reduceEqDiff, decide_true, decide_false, and_self, wipeR, restR, List.getD_cons_succ, List.getD_cons_zero, hc]
    have b1 := mul_bd (a := c % 1000000007) (A := 2 ^ 30) (b := 2 * at' + 69069) (B := 2 ^ 22) (by omega) (by omega) (by omega) (by omega)
    refine ⟨by decide, by decide, by decide, lg (by omega) (by omega), lg (by omega) (by omega), lg (by omega) (by omega), by omega, primes_at (by omega) (by omega) fun p p0 p1 => ?_⟩
    simp only [varP_fz, varP_ow, getP_some, blP_b, flP_nx, flP_bk, flP_ct, flP_rt, retP_some, parP_2, ownP_some, ownLP_some, setKP_int, loP_nx, loP_ct, loP_bk, loP_rt, oo_some, oo_none, oo_map, oo_bind, oo_if, ↓ho_bindM, ↓ho_pureM, ↓ho_liftM, ↓ho_cM, ↓ho_bin, ↓ho_una, ↓ho_varM, ↓ho_getM, ↓ho_nilM, ↓ho_consM, ↓ho_tupM, ↓ho_lstM, ↓ho_callM, ↓ho_boolM, ↓ho_testM, ↓ho_notM, ↓ho_ite, ↓ho_andM, ↓ho_orM, ↓ho_blM, ↓ho_andV, ↓ho_orV, ↓ho_notV, ↓ho_ifM, ↓ho_chainM, ↓ho_chain3M, ↓ho_ixVM, ↓ho_partM, ↓ho_sliceM, ↓ho_seqM, ↓ho_rngM, ↓ho_putM, ↓ho_putO, ↓ho_gsNil, ↓ho_gsCons, ↓ho_tupG, ↓ho_yesM, ↓ho_wipeM, ↓ho_seqS, ↓ho_dropS, ↓ho_retS, ↓ho_retF, ↓ho_retV, ↓ho_setS, ↓ho_asgS, ↓ho_parS, ↓ho_ifS, ↓ho_ownM, ↓ho_ownL, ↓ho_appendM, ↓ho_setLS, ↓ho_callRM, ↓ho_forS, ↓ho_lcM, ↓ho_lc2M, rtP_rt, rtP_nx, rmP_rt, rmP_nx, sl_fz, sl_ow, o_add, o_addT, o_addL, o_addS, o_sub, o_mul, o_fdiv, o_mod, o_pow, o_neg, o_cmp, o_eq, o_ne, o_eqS, o_neS, o_lenL, o_lenT, o_min, o_max, o_toInt, o_tupL, o_tupT, o_lstL, o_lstT, o_seqL, o_seqT, o_part, o_slL, o_slT, o_memL, o_memT, o_ixL, o_ixT, o_rng1, o_rng2, o_enum, ↓ho_peekM, fl_int, fl_str, fl_bool, List.getElem?_cons_zero, List.getElem?_cons_succ, List.set_cons_zero, List.set_cons_succ, List.length_cons, List.length_nil, decide_eq_true_eq, true_and, and_true, Bool.not_true, Bool.not_false, if_true, if_false, ↓reduceIte, Bool.false_eq_true, Nat.reduceAdd, Int.reduceToNat, Int.reducePow, Int.reduceAdd, Int.reduceSub, Int.reduceNeg, Int.reduceMul, Int.reduceDiv, Int.reduceMod, Int.reduceLT, Int.reduceLE, Nat.reduceLeDiff, Nat.reduceEqDiff, decide_true, decide_false, and_self, wipeR, restR, List.getD_cons_succ, List.getD_cons_zero]
    generalize hx : (c % 1000000007 * (2 * at' + 69069) + at' * 40503 + 977) ^ 3 % p = x
    have hx0 : 0 ≤ x := hx ▸ Int.emod_nonneg _ (by omega)
    have hx1 : x < p := hx ▸ Int.emod_lt_of_pos _ p0
    have b2 := mul_bd (a := x) (A := 2 ^ 31) (b := at' + 3) (B := 2 ^ 21) (by omega) (by omega) (by omega) (by omega)
    refine ⟨p0, lg (by omega) (by omega), by omega, primes_at (by omega) (by omega) fun p p0 p1 => ?_⟩
    simp only [varP_fz, varP_ow, getP_some, blP_b, flP_nx, flP_bk, flP_ct, flP_rt, retP_some, parP_2, ownP_some, ownLP_some, setKP_int, loP_nx, loP_ct, loP_bk, loP_rt, oo_some, oo_none, oo_map, oo_bind, oo_if, ↓ho_bindM, ↓ho_pureM, ↓ho_liftM, ↓ho_cM, ↓ho_bin, ↓ho_una, ↓ho_varM, ↓ho_getM, ↓ho_nilM, ↓ho_consM, ↓ho_tupM, ↓ho_lstM, ↓ho_callM, ↓ho_boolM, ↓ho_testM, ↓ho_notM, ↓ho_ite, ↓ho_andM, ↓ho_orM, ↓ho_blM, ↓ho_andV, ↓ho_orV, ↓ho_notV, ↓ho_ifM, ↓ho_chainM, ↓ho_chain3M, ↓ho_ixVM, ↓ho_partM, ↓ho_sliceM, ↓ho_seqM, ↓ho_rngM, ↓ho_putM, ↓ho_putO, ↓ho_gsNil, ↓ho_gsCons, ↓ho_tupG, ↓ho_yesM, ↓ho_wipeM, ↓ho_seqS, ↓ho_dropS, ↓ho_retS, ↓ho_retF, ↓ho_retV, ↓ho_setS, ↓ho_asgS, ↓ho_parS, ↓ho_ifS, ↓ho_ownM, ↓ho_ownL, ↓ho_appendM, ↓ho_setLS, ↓ho_callRM, ↓ho_forS, ↓ho_lcM, ↓ho_lc2M, rtP_rt, rtP_nx, rmP_rt, rmP_nx, sl_fz, sl_ow, o_add, o_addT, o_addL, o_addS, o_sub, o_mul, o_fdiv, o_mod, o_pow, o_neg, o_cmp, o_eq, o_ne, o_eqS, o_neS, o_lenL, o_lenT, o_min, o_max, o_toInt, o_tupL, o_tupT, o_lstL, o_lstT, o_seqL, o_seqT, o_part, o_slL, o_slT, o_memL, o_memT, o_ixL, o_ixT, o_rng1, o_rng2, o_enum, ↓ho_peekM, fl_int, fl_str, fl_bool, List.getElem?_cons_zero, List.getElem?_cons_succ, List.set_cons_zero, List.set_cons_succ, List.length_cons, List.length_nil, decide_eq_true_eq, true_and, and_true, Bool.not_true, Bool.not_false, if_true, if_false, ↓reduceIte, Bool.false_eq_true, Nat.reduceAdd, Int.reduceToNat, Int.reducePow, Int.reduceAdd, Int.reduceSub, Int.reduceNeg, Int.reduceMul, Int.reduceDiv, Int.reduceMod, Int.reduceLT, Int.reduceLE, Nat.reduceLeDiff, Nat.reduceEqDiff, decide_true, decide_false, and_self, wipeR, restR, List.getD_cons_succ, List.getD_cons_zero]
    generalize hy : (x * (at' + 3) + c % 65537 + 5) ^ 5 % p = y
    have hy0 : 0 ≤ y := hy ▸ Int.emod_nonneg _ (by omega)
    have hy1 : y < p := hy ▸ Int.emod_lt_of_pos _ p0
    refine ⟨p0, by omega, primes_at (by omega) (by omega) fun p p0 p1 => ?_⟩
    simp only [varP_fz, varP_ow, getP_some, blP_b, flP_nx, flP_bk, flP_ct, flP_rt, retP_some, parP_2, ownP_some, ownLP_some, setKP_int, loP_nx, loP_ct, loP_bk, loP_rt, oo_some, oo_none, oo_map, oo_bind, oo_if, ↓ho_bindM, ↓ho_pureM, ↓ho_liftM, ↓ho_cM, ↓ho_bin, ↓ho_una, ↓ho_varM, ↓ho_getM, ↓ho_nilM, ↓ho_consM, ↓ho_tupM, ↓ho_lstM, ↓ho_callM, ↓ho_boolM, ↓ho_testM, ↓ho_notM, ↓ho_ite, ↓ho_andM, ↓ho_orM, ↓ho_blM, ↓ho_andV, ↓ho_orV, ↓ho_notV, ↓ho_ifM, ↓ho_chainM, ↓ho_chain3M, ↓ho_ixVM, ↓ho_partM, ↓ho_sliceM, ↓ho_seqM, ↓ho_rngM, ↓ho_putM, ↓ho_putO, ↓ho_gsNil, ↓ho_gsCons, ↓ho_tupG, ↓ho_yesM, ↓ho_wipeM, ↓ho_seqS, ↓ho_dropS, ↓ho_retS, ↓ho_retF, ↓ho_retV, ↓ho_setS, ↓ho_asgS, ↓ho_parS, ↓ho_ifS, ↓ho_ownM, ↓ho_ownL, ↓ho_appendM, ↓ho_setLS, ↓ho_callRM, ↓ho_forS, ↓ho_lcM, ↓ho_lc2M, rtP_rt, rtP_nx, rmP_rt, rmP_nx, sl_fz, sl_ow, o_add, o_addT, o_addL, o_addS, o_sub, o_mul, o_fdiv, o_mod, o_pow, o_neg, o_cmp, o_eq, o_ne, o_eqS, o_neS, o_lenL, o_lenT, o_min, o_max, o_toInt, o_tupL, o_tupT, o_lstL, o_lstT, o_seqL, o_seqT, o_part, o_slL, o_slT, o_memL, o_memT, o_ixL, o_ixT, o_rng1, o_rng2, o_enum, ↓ho_peekM, fl_int, fl_str, fl_bool, List.getElem?_cons_zero, List.getElem?_cons_succ, List.set_cons_zero, List.set_cons_succ, List.length_cons, List.length_nil, decide_eq_true_eq, true_and, and_true, Bool.not_true, Bool.not_false, if_true, if_false, ↓reduceIte, Bool.false_eq_true, Nat.reduceAdd, Int.reduceToNat, Int.reducePow, Int.reduceAdd, Int.reduceSub, Int.reduceNeg, Int.reduceMul, Int.reduceDiv, Int.reduceMod, Int.reduceLT, Int.reduceLE, Nat.reduceLeDiff, Nat.reduceEqDiff, decide_true, decide_false, and_self, wipeR, restR, List.getD_cons_succ, List.getD_cons_zero]
    generalize hz : (y + x % 1009 + at') ^ 3 % p = z
    have hz0 : 0 ≤ z := hz ▸ Int.emod_nonneg _ (by omega)
    have hz1 : z < p := hz ▸ Int.emod_lt_of_pos _ p0
    exact ⟨p0, lg (by omega) (by omega), lg (by omega) (by omega), _, rfl⟩
def PenOk (n : Nat) (d : D) : Prop := ∃ (cs : List Int) (at' rest : Int), d = .list [.list (cs.map PyData.int), .int at', .int rest] ∧ 0 ≤ at' ∧ at' ≤ n
theorem PenOk.le {n m : Nat} {d : D} (h : PenOk n d) (l : n ≤ m) : PenOk m d := by
  obtain ⟨cs, a, r, e, h0, h1⟩ := h
  exact ⟨cs, a, r, e, h0, by omega⟩
theorem map_int_at {cs : List Int} {k : Nat} {x : D} (h : (cs.map PyData.int)[k]? = some x) : ∃ i, x = .int i := by
  rw [List.getElem?_map] at h
  obtain ⟨i, _, e⟩ := Option.map_eq_some_iff.mp h
  exact ⟨i, e.symm⟩
theorem map_int_set {cs : List Int} {k : Nat} {i : Int} : (cs.map PyData.int).set k (.int i) = (cs.set k i).map PyData.int := by
  rw [List.map_set]
theorem take_ok {n : Nat} {d : D} {many : Int} {Φ : Sl × D → Prop} (hp : PenOk n d) (hn : n < 2 ^ 20) (hm : 0 < many) (hb : many.natAbs.log2 < 9000)
    (q : ∀ r d', 0 ≤ r → r < many → PenOk (n + 1) d' → Φ (.fz (.int r), d')) : Oo (F__law_take d [.int many]) Φ := by
  obtain ⟨cs, a, r, rfl, h0, h1⟩ := hp
  refine oo_runM rfl ?_
  show Ho m__law_take [some (.ow (.list [.list (cs.map PyData.int), .int a, .int r])), some (.fz (.int many)), none, none, none] _
  have e0 : ∀ (x y z : D), atI [x, y, z] 0 = some x := fun _ _ _ => rfl
  have e1 : ∀ (x y z : D), atI [x, y, z] 1 = some y := fun _ _ _ => rfl
  have e2 : ∀ (x y z : D), atI [x, y, z] 2 = some z := fun _ _ _ => rfl
  have n1 : ixN 3 1 = some 1 := rfl
  have n2 : ixN 3 2 = some 2 := rfl
  unfold m__law_take
  simp only [varP_fz, varP_ow, getP_some, blP_b, flP_nx, flP_bk, flP_ct, flP_rt, retP_some, parP_2, ownP_some, ownLP_some, setKP_int, loP_nx, loP_ct, loP_bk, loP_rt, oo_some, oo_none, oo_map, oo_bind, oo_if, ↓ho_bindM, ↓ho_pureM, ↓ho_liftM, ↓ho_cM, ↓ho_bin, ↓ho_una, ↓ho_varM, ↓ho_getM, ↓ho_nilM, ↓ho_consM, ↓ho_tupM, ↓ho_lstM, ↓ho_callM, ↓ho_boolM, ↓ho_testM, ↓ho_notM, ↓ho_ite, ↓ho_andM, ↓ho_orM, ↓ho_blM, ↓ho_andV, ↓ho_orV, ↓ho_notV, ↓ho_ifM, ↓ho_chainM, ↓ho_chain3M, ↓ho_ixVM, ↓ho_partM, ↓ho_sliceM, ↓ho_seqM, ↓ho_rngM, ↓ho_putM, ↓ho_putO, ↓ho_gsNil, ↓ho_gsCons, ↓ho_tupG, ↓ho_yesM, ↓ho_wipeM, ↓ho_seqS, ↓ho_dropS, ↓ho_retS, ↓ho_retF, ↓ho_retV, ↓ho_setS, ↓ho_asgS, ↓ho_parS, ↓ho_ifS, ↓ho_ownM, ↓ho_ownL, ↓ho_appendM, ↓ho_setLS, ↓ho_callRM, ↓ho_forS, ↓ho_lcM, ↓ho_lc2M, rtP_rt, rtP_nx, rmP_rt, rmP_nx, sl_fz, sl_ow, o_add, o_addT, o_addL, o_addS, o_sub, o_mul, o_fdiv, o_mod, o_pow, o_neg, o_cmp, o_eq, o_ne, o_eqS, o_neS, o_lenL, o_lenT, o_min, o_max, o_toInt, o_tupL, o_tupT, o_lstL, o_lstT, o_seqL, o_seqT, o_part, o_slL, o_slT, o_memL, o_memT, o_ixL, o_ixT, o_rng1, o_rng2, o_enum, ↓ho_peekM, fl_int, fl_str, fl_bool, List.getElem?_cons_zero, List.getElem?_cons_succ, List.set_cons_zero, List.set_cons_succ, List.length_cons, List.length_nil, decide_eq_true_eq, true_and, and_true, Bool.not_true, Bool.not_false, if_true, if_false, ↓reduceIte, Bool.false_eq_true, Nat.reduceAdd, Int.reduceToNat, Int.reducePow, Int.reduceAdd, Int.reduceSub, Int.reduceNeg, Int.reduceMul, Int.reduceDiv, Int.reduceMod, Int.reduceLT, Int.reduceLE, Nat.reduceLeDiff, Nat.reduceEqDiff, decide_true, decide_false, and_self, wipeR, restR, List.getD_cons_succ, List.getD_cons_zero, e0, e1, e2]
  by_cases hr : r < many
  · simp only [varP_fz, varP_ow, getP_some, blP_b, flP_nx, flP_bk, flP_ct, flP_rt, retP_some, parP_2, ownP_some, ownLP_some, setKP_int, loP_nx, loP_ct, loP_bk, loP_rt, oo_some, oo_none, oo_map, oo_bind, oo_if, ↓ho_bindM, ↓ho_pureM, ↓ho_liftM, ↓ho_cM, ↓ho_bin, ↓ho_una, ↓ho_varM, ↓ho_getM, ↓ho_nilM, ↓ho_consM, ↓ho_tupM, ↓ho_lstM, ↓ho_callM, ↓ho_boolM, ↓ho_testM, ↓ho_notM, ↓ho_ite, ↓ho_andM, ↓ho_orM, ↓ho_blM, ↓ho_andV, ↓ho_orV, ↓ho_notV, ↓ho_ifM, ↓ho_chainM, ↓ho_chain3M, ↓ho_ixVM, ↓ho_partM, ↓ho_sliceM, ↓ho_seqM, ↓ho_rngM, ↓ho_putM, ↓ho_putO, ↓ho_gsNil, ↓ho_gsCons, ↓ho_tupG, ↓ho_yesM, ↓ho_wipeM, ↓ho_seqS, ↓ho_dropS, ↓ho_retS, ↓ho_retF, ↓ho_retV, ↓ho_setS, ↓ho_asgS, ↓ho_parS, ↓ho_ifS, ↓ho_ownM, ↓ho_ownL, ↓ho_appendM, ↓ho_setLS, ↓ho_callRM, ↓ho_forS, ↓ho_lcM, ↓ho_lc2M, rtP_rt, rtP_nx, rmP_rt, rmP_nx, sl_fz, sl_ow, o_add, o_addT, o_addL, o_addS, o_sub, o_mul, o_fdiv, o_mod, o_pow, o_neg, o_cmp, o_eq, o_ne, o_eqS, o_neS, o_lenL, o_lenT, o_min, o_max, o_toInt, o_tupL, o_tupT, o_lstL, o_lstT, o_seqL, o_seqT, o_part, o_slL, o_slT, o_memL, o_memT, o_ixL, o_ixT, o_rng1, o_rng2, o_enum, ↓ho_peekM, fl_int, fl_str, fl_bool, List.getElem?_cons_zero, List.getElem?_cons_succ, List.set_cons_zero, List.set_cons_succ, List.length_cons, List.length_nil, decide_eq_true_eq, true_and, and_true, Bool.not_true, Bool.not_false, if_true, if_false, ↓reduceIte, Bool.false_eq_true, Nat.reduceAdd, Int.reduceToNat, Int.reducePow, Int.reduceAdd, Int.reduceSub, Int.reduceNeg, Int.reduceMul, Int.reduceDiv, Int.reduceMod, Int.reduceLT, Int.reduceLE, Nat.reduceLeDiff, Nat.reduceEqDiff, decide_true, decide_false, and_self, wipeR, restR, List.getD_cons_succ, List.getD_cons_zero, hr, e0, e1, e2]
    by_cases ha : a < (cs.map PyData.int).length
    · simp only [varP_fz, varP_ow, getP_some, blP_b, flP_nx, flP_bk, flP_ct, flP_rt, retP_some, parP_2, ownP_some, ownLP_some, setKP_int, loP_nx, loP_ct, loP_bk, loP_rt, oo_some, oo_none, oo_map, oo_bind, oo_if, ↓ho_bindM, ↓ho_pureM, ↓ho_liftM, ↓ho_cM, ↓ho_bin, ↓ho_una, ↓ho_varM, ↓ho_getM, ↓ho_nilM, ↓ho_consM, ↓ho_tupM, ↓ho_lstM, ↓ho_callM, ↓ho_boolM, ↓ho_testM, ↓ho_notM, ↓ho_ite, ↓ho_andM, ↓ho_orM, ↓ho_blM, ↓ho_andV, ↓ho_orV, ↓ho_notV, ↓ho_ifM, ↓ho_chainM, ↓ho_chain3M, ↓ho_ixVM, ↓ho_partM, ↓ho_sliceM, ↓ho_seqM, ↓ho_rngM, ↓ho_putM, ↓ho_putO, ↓ho_gsNil, ↓ho_gsCons, ↓ho_tupG, ↓ho_yesM, ↓ho_wipeM, ↓ho_seqS, ↓ho_dropS, ↓ho_retS, ↓ho_retF, ↓ho_retV, ↓ho_setS, ↓ho_asgS, ↓ho_parS, ↓ho_ifS, ↓ho_ownM, ↓ho_ownL, ↓ho_appendM, ↓ho_setLS, ↓ho_callRM, ↓ho_forS, ↓ho_lcM, ↓ho_lc2M, rtP_rt, rtP_nx, rmP_rt, rmP_nx, sl_fz, sl_ow, o_add, o_addT, o_addL, o_addS, o_sub, o_mul, o_fdiv, o_mod, o_pow, o_neg, o_cmp, o_eq, o_ne, o_eqS, o_neS, o_lenL, o_lenT, o_min, o_max, o_toInt, o_tupL, o_tupT, o_lstL, o_lstT, o_seqL, o_seqT, o_part, o_slL, o_slT, o_memL, o_memT, o_ixL, o_ixT, o_rng1, o_rng2, o_enum, ↓ho_peekM, fl_int, fl_str, fl_bool, List.getElem?_cons_zero, List.getElem?_cons_succ, List.set_cons_zero, List.set_cons_succ, List.length_cons, List.length_nil, decide_eq_true_eq, true_and, and_true, Bool.not_true, Bool.not_false, if_true, if_false, ↓reduceIte, Bool.false_eq_true, Nat.reduceAdd, Int.reduceToNat, Int.reducePow, Int.reduceAdd, Int.reduceSub, Int.reduceNeg, Int.reduceMul, Int.reduceDiv, Int.reduceMod, Int.reduceLT, Int.reduceLE, Nat.reduceLeDiff, Nat.reduceEqDiff, decide_true, decide_false, and_self, wipeR, restR, List.getD_cons_succ, List.getD_cons_zero, ha]
      refine oo_atI h0 ha fun x hx => ?_
      obtain ⟨c, rfl⟩ := map_int_at hx
      simp only [varP_fz, varP_ow, getP_some, blP_b, flP_nx, flP_bk, flP_ct, flP_rt, retP_some, parP_2, ownP_some, ownLP_some, setKP_int, loP_nx, loP_ct, loP_bk, loP_rt, oo_some, oo_none, oo_map, oo_bind, oo_if, ↓ho_bindM, ↓ho_pureM, ↓ho_liftM, ↓ho_cM, ↓ho_bin, ↓ho_una, ↓ho_varM, ↓ho_getM, ↓ho_nilM, ↓ho_consM, ↓ho_tupM, ↓ho_lstM, ↓ho_callM, ↓ho_boolM, ↓ho_testM, ↓ho_notM, ↓ho_ite, ↓ho_andM, ↓ho_orM, ↓ho_blM, ↓ho_andV, ↓ho_orV, ↓ho_notV, ↓ho_ifM, ↓ho_chainM, ↓ho_chain3M, ↓ho_ixVM, ↓ho_partM, ↓ho_sliceM, ↓ho_seqM, ↓ho_rngM, ↓ho_putM, ↓ho_putO, ↓ho_gsNil, ↓ho_gsCons, ↓ho_tupG, ↓ho_yesM, ↓ho_wipeM, ↓ho_seqS, ↓ho_dropS, ↓ho_retS, ↓ho_retF, ↓ho_retV, ↓ho_setS, ↓ho_asgS, ↓ho_parS, ↓ho_ifS, ↓ho_ownM, ↓ho_ownL, ↓ho_appendM, ↓ho_setLS, ↓ho_callRM, ↓ho_forS, ↓ho_lcM, ↓ho_lc2M, rtP_rt, rtP_nx, rmP_rt, rmP_nx, sl_fz, sl_ow, o_add, o_addT, o_addL, o_addS, o_sub, o_mul, o_fdiv, o_mod, o_pow, o_neg, o_cmp, o_eq, o_ne, o_eqS, o_neS, o_lenL, o_lenT, o_min, o_max, o_toInt, o_tupL, o_tupT, o_lstL, o_lstT, o_seqL, o_seqT, o_part, o_slL, o_slT, o_memL, o_memT, o_ixL, o_ixT, o_rng1, o_rng2, o_enum, ↓ho_peekM, fl_int, fl_str, fl_bool, List.getElem?_cons_zero, List.getElem?_cons_succ, List.set_cons_zero, List.set_cons_succ, List.length_cons, List.length_nil, decide_eq_true_eq, true_and, and_true, Bool.not_true, Bool.not_false, if_true, if_false, ↓reduceIte, Bool.false_eq_true, Nat.reduceAdd, Int.reduceToNat, Int.reducePow, Int.reduceAdd, Int.reduceSub, Int.reduceNeg, Int.reduceMul, Int.reduceDiv, Int.reduceMod, Int.reduceLT, Int.reduceLE, Nat.reduceLeDiff, Nat.reduceEqDiff, decide_true, decide_false, and_self, wipeR, restR, List.getD_cons_succ, List.getD_cons_zero, n1, n2]
      refine oo_mono (spread_ok _ a h0 (by omega)) fun s hs => ?_
      obtain ⟨r', rfl⟩ := hs
      simp only [varP_fz, varP_ow, getP_some, blP_b, flP_nx, flP_bk, flP_ct, flP_rt, retP_some, parP_2, ownP_some, ownLP_some, setKP_int, loP_nx, loP_ct, loP_bk, loP_rt, oo_some, oo_none, oo_map, oo_bind, oo_if, ↓ho_bindM, ↓ho_pureM, ↓ho_liftM, ↓ho_cM, ↓ho_bin, ↓ho_una, ↓ho_varM, ↓ho_getM, ↓ho_nilM, ↓ho_consM, ↓ho_tupM, ↓ho_lstM, ↓ho_callM, ↓ho_boolM, ↓ho_testM, ↓ho_notM, ↓ho_ite, ↓ho_andM, ↓ho_orM, ↓ho_blM, ↓ho_andV, ↓ho_orV, ↓ho_notV, ↓ho_ifM, ↓ho_chainM, ↓ho_chain3M, ↓ho_ixVM, ↓ho_partM, ↓ho_sliceM, ↓ho_seqM, ↓ho_rngM, ↓ho_putM, ↓ho_putO, ↓ho_gsNil, ↓ho_gsCons, ↓ho_tupG, ↓ho_yesM, ↓ho_wipeM, ↓ho_seqS, ↓ho_dropS, ↓ho_retS, ↓ho_retF, ↓ho_retV, ↓ho_setS, ↓ho_asgS, ↓ho_parS, ↓ho_ifS, ↓ho_ownM, ↓ho_ownL, ↓ho_appendM, ↓ho_setLS, ↓ho_callRM, ↓ho_forS, ↓ho_lcM, ↓ho_lc2M, rtP_rt, rtP_nx, rmP_rt, rmP_nx, sl_fz, sl_ow, o_add, o_addT, o_addL, o_addS, o_sub, o_mul, o_fdiv, o_mod, o_pow, o_neg, o_cmp, o_eq, o_ne, o_eqS, o_neS, o_lenL, o_lenT, o_min, o_max, o_toInt, o_tupL, o_tupT, o_lstL, o_lstT, o_seqL, o_seqT, o_part, o_slL, o_slT, o_memL, o_memT, o_ixL, o_ixT, o_rng1, o_rng2, o_enum, ↓ho_peekM, fl_int, fl_str, fl_bool, List.getElem?_cons_zero, List.getElem?_cons_succ, List.set_cons_zero, List.set_cons_succ, List.length_cons, List.length_nil, decide_eq_true_eq, true_and, and_true, Bool.not_true, Bool.not_false, if_true, if_false, ↓reduceIte, Bool.false_eq_true, Nat.reduceAdd, Int.reduceToNat, Int.reducePow, Int.reduceAdd, Int.reduceSub, Int.reduceNeg, Int.reduceMul, Int.reduceDiv, Int.reduceMod, Int.reduceLT, Int.reduceLE, Nat.reduceLeDiff, Nat.reduceEqDiff, decide_true, decide_false, and_self, wipeR, restR, List.getD_cons_succ, List.getD_cons_zero, e2, n2]
      exact ⟨hm, ⟨hm, hb⟩, q _ _ (Int.emod_nonneg _ (by omega)) (Int.emod_lt_of_pos _ hm) ⟨cs, a + 1, _, rfl, by omega, by omega⟩⟩
    · simp only [varP_fz, varP_ow, getP_some, blP_b, flP_nx, flP_bk, flP_ct, flP_rt, retP_some, parP_2, ownP_some, ownLP_some, setKP_int, loP_nx, loP_ct, loP_bk, loP_rt, oo_some, oo_none, oo_map, oo_bind, oo_if, ↓ho_bindM, ↓ho_pureM, ↓ho_liftM, ↓ho_cM, ↓ho_bin, ↓ho_una, ↓ho_varM, ↓ho_getM, ↓ho_nilM, ↓ho_consM, ↓ho_tupM, ↓ho_lstM, ↓ho_callM, ↓ho_boolM, ↓ho_testM, ↓ho_notM, ↓ho_ite, ↓ho_andM, ↓ho_orM, ↓ho_blM, ↓ho_andV, ↓ho_orV, ↓ho_notV, ↓ho_ifM, ↓ho_chainM, ↓ho_chain3M, ↓ho_ixVM, ↓ho_partM, ↓ho_sliceM, ↓ho_seqM, ↓ho_rngM, ↓ho_putM, ↓ho_putO, ↓ho_gsNil, ↓ho_gsCons, ↓ho_tupG, ↓ho_yesM, ↓ho_wipeM, ↓ho_seqS, ↓ho_dropS, ↓ho_retS, ↓ho_retF, ↓ho_retV, ↓ho_setS, ↓ho_asgS, ↓ho_parS, ↓ho_ifS, ↓ho_ownM, ↓ho_ownL, ↓ho_appendM, ↓ho_setLS, ↓ho_callRM, ↓ho_forS, ↓ho_lcM, ↓ho_lc2M, rtP_rt, rtP_nx, rmP_rt, rmP_nx, sl_fz, sl_ow, o_add, o_addT, o_addL, o_addS, o_sub, o_mul, o_fdiv, o_mod, o_pow, o_neg, o_cmp, o_eq, o_ne, o_eqS, o_neS, o_lenL, o_lenT, o_min, o_max, o_toInt, o_tupL, o_tupT, o_lstL, o_lstT, o_seqL, o_seqT, o_part, o_slL, o_slT, o_memL, o_memT, o_ixL, o_ixT, o_rng1, o_rng2, o_enum, ↓ho_peekM, fl_int, fl_str, fl_bool, List.getElem?_cons_zero, List.getElem?_cons_succ, List.set_cons_zero, List.set_cons_succ, List.length_cons, List.length_nil, decide_eq_true_eq, true_and, and_true, Bool.not_true, Bool.not_false, if_true, if_false, ↓reduceIte, Bool.false_eq_true, Nat.reduceAdd, Int.reduceToNat, Int.reducePow, Int.reduceAdd, Int.reduceSub, Int.reduceNeg, Int.reduceMul, Int.reduceDiv, Int.reduceMod, Int.reduceLT, Int.reduceLE, Nat.reduceLeDiff, Nat.reduceEqDiff, decide_true, decide_false, and_self, wipeR, restR, List.getD_cons_succ, List.getD_cons_zero, ha]
      by_cases hl : (0 : Int) < (cs.map PyData.int).length
      · simp only [varP_fz, varP_ow, getP_some, blP_b, flP_nx, flP_bk, flP_ct, flP_rt, retP_some, parP_2, ownP_some, ownLP_some, setKP_int, loP_nx, loP_ct, loP_bk, loP_rt, oo_some, oo_none, oo_map, oo_bind, oo_if, ↓ho_bindM, ↓ho_pureM, ↓ho_liftM, ↓ho_cM, ↓ho_bin, ↓ho_una, ↓ho_varM, ↓ho_getM, ↓ho_nilM, ↓ho_consM, ↓ho_tupM, ↓ho_lstM, ↓ho_callM, ↓ho_boolM, ↓ho_testM, ↓ho_notM, ↓ho_ite, ↓ho_andM, ↓ho_orM, ↓ho_blM, ↓ho_andV, ↓ho_orV, ↓ho_notV, ↓ho_ifM, ↓ho_chainM, ↓ho_chain3M, ↓ho_ixVM, ↓ho_partM, ↓ho_sliceM, ↓ho_seqM, ↓ho_rngM, ↓ho_putM, ↓ho_putO, ↓ho_gsNil, ↓ho_gsCons, ↓ho_tupG, ↓ho_yesM, ↓ho_wipeM, ↓ho_seqS, ↓ho_dropS, ↓ho_retS, ↓ho_retF, ↓ho_retV, ↓ho_setS, ↓ho_asgS, ↓ho_parS, ↓ho_ifS, ↓ho_ownM, ↓ho_ownL, ↓ho_appendM, ↓ho_setLS, ↓ho_callRM, ↓ho_forS, ↓ho_lcM, ↓ho_lc2M, rtP_rt, rtP_nx, rmP_rt, rmP_nx, sl_fz, sl_ow, o_add, o_addT, o_addL, o_addS, o_sub, o_mul, o_fdiv, o_mod, o_pow, o_neg, o_cmp, o_eq, o_ne, o_eqS, o_neS, o_lenL, o_lenT, o_min, o_max, o_toInt, o_tupL, o_tupT, o_lstL, o_lstT, o_seqL, o_seqT, o_part, o_slL, o_slT, o_memL, o_memT, o_ixL, o_ixT, o_rng1, o_rng2, o_enum, ↓ho_peekM, fl_int, fl_str, fl_bool, List.getElem?_cons_zero, List.getElem?_cons_succ, List.set_cons_zero, List.set_cons_succ, List.length_cons, List.length_nil, decide_eq_true_eq, true_and, and_true, Bool.not_true, Bool.not_false, if_true, if_false, ↓reduceIte, Bool.false_eq_true, Nat.reduceAdd, Int.reduceToNat, Int.reducePow, Int.reduceAdd, Int.reduceSub, Int.reduceNeg, Int.reduceMul, Int.reduceDiv, Int.reduceMod, Int.reduceLT, Int.reduceLE, Nat.reduceLeDiff, Nat.reduceEqDiff, decide_true, decide_false, and_self, wipeR, restR, List.getD_cons_succ, List.getD_cons_zero, hl]
        refine ⟨lg (by omega) (by omega), oo_atI (Int.emod_nonneg _ (by omega)) (Int.emod_lt_of_pos _ hl) fun x hx => ?_⟩
        obtain ⟨c, rfl⟩ := map_int_at hx
        simp only [varP_fz, varP_ow, getP_some, blP_b, flP_nx, flP_bk, flP_ct, flP_rt, retP_some, parP_2, ownP_some, ownLP_some, setKP_int, loP_nx, loP_ct, loP_bk, loP_rt, oo_some, oo_none, oo_map, oo_bind, oo_if, ↓ho_bindM, ↓ho_pureM, ↓ho_liftM, ↓ho_cM, ↓ho_bin, ↓ho_una, ↓ho_varM, ↓ho_getM, ↓ho_nilM, ↓ho_consM, ↓ho_tupM, ↓ho_lstM, ↓ho_callM, ↓ho_boolM, ↓ho_testM, ↓ho_notM, ↓ho_ite, ↓ho_andM, ↓ho_orM, ↓ho_blM, ↓ho_andV, ↓ho_orV, ↓ho_notV, ↓ho_ifM, ↓ho_chainM, ↓ho_chain3M, ↓ho_ixVM, ↓ho_partM, ↓ho_sliceM, ↓ho_seqM, ↓ho_rngM, ↓ho_putM, ↓ho_putO, ↓ho_gsNil, ↓ho_gsCons, ↓ho_tupG, ↓ho_yesM, ↓ho_wipeM, ↓ho_seqS, ↓ho_dropS, ↓ho_retS, ↓ho_retF, ↓ho_retV, ↓ho_setS, ↓ho_asgS, ↓ho_parS, ↓ho_ifS, ↓ho_ownM, ↓ho_ownL, ↓ho_appendM, ↓ho_setLS, ↓ho_callRM, ↓ho_forS, ↓ho_lcM, ↓ho_lc2M, rtP_rt, rtP_nx, rmP_rt, rmP_nx, sl_fz, sl_ow, o_add, o_addT, o_addL, o_addS, o_sub, o_mul, o_fdiv, o_mod, o_pow, o_neg, o_cmp, o_eq, o_ne, o_eqS, o_neS, o_lenL, o_lenT, o_min, o_max, o_toInt, o_tupL, o_tupT, o_lstL, o_lstT, o_seqL, o_seqT, o_part, o_slL, o_slT, o_memL, o_memT, o_ixL, o_ixT, o_rng1, o_rng2, o_enum, ↓ho_peekM, fl_int, fl_str, fl_bool, List.getElem?_cons_zero, List.getElem?_cons_succ, List.set_cons_zero, List.set_cons_succ, List.length_cons, List.length_nil, decide_eq_true_eq, true_and, and_true, Bool.not_true, Bool.not_false, if_true, if_false, ↓reduceIte, Bool.false_eq_true, Nat.reduceAdd, Int.reduceToNat, Int.reducePow, Int.reduceAdd, Int.reduceSub, Int.reduceNeg, Int.reduceMul, Int.reduceDiv, Int.reduceMod, Int.reduceLT, Int.reduceLE, Nat.reduceLeDiff, Nat.reduceEqDiff, decide_true, decide_false, and_self, wipeR, restR, List.getD_cons_succ, List.getD_cons_zero, n1, n2]
        refine ⟨by decide, by omega, ?_⟩
        refine oo_mono (spread_ok _ a h0 (by omega)) fun s hs => ?_
        obtain ⟨r', rfl⟩ := hs
        simp only [varP_fz, varP_ow, getP_some, blP_b, flP_nx, flP_bk, flP_ct, flP_rt, retP_some, parP_2, ownP_some, ownLP_some, setKP_int, loP_nx, loP_ct, loP_bk, loP_rt, oo_some, oo_none, oo_map, oo_bind, oo_if, ↓ho_bindM, ↓ho_pureM, ↓ho_liftM, ↓ho_cM, ↓ho_bin, ↓ho_una, ↓ho_varM, ↓ho_getM, ↓ho_nilM, ↓ho_consM, ↓ho_tupM, ↓ho_lstM, ↓ho_callM, ↓ho_boolM, ↓ho_testM, ↓ho_notM, ↓ho_ite, ↓ho_andM, ↓ho_orM, ↓ho_blM, ↓ho_andV, ↓ho_orV, ↓ho_notV, ↓ho_ifM, ↓ho_chainM, ↓ho_chain3M, ↓ho_ixVM, ↓ho_partM, ↓ho_sliceM, ↓ho_seqM, ↓ho_rngM, ↓ho_putM, ↓ho_putO, ↓ho_gsNil, ↓ho_gsCons, ↓ho_tupG, ↓ho_yesM, ↓ho_wipeM, ↓ho_seqS, ↓ho_dropS, ↓ho_retS, ↓ho_retF, ↓ho_retV, ↓ho_setS, ↓ho_asgS, ↓ho_parS, ↓ho_ifS, ↓ho_ownM, ↓ho_ownL, ↓ho_appendM, ↓ho_setLS, ↓ho_callRM, ↓ho_forS, ↓ho_lcM, ↓ho_lc2M, rtP_rt, rtP_nx, rmP_rt, rmP_nx, sl_fz, sl_ow, o_add, o_addT, o_addL, o_addS, o_sub, o_mul, o_fdiv, o_mod, o_pow, o_neg, o_cmp, o_eq, o_ne, o_eqS, o_neS, o_lenL, o_lenT, o_min, o_max, o_toInt, o_tupL, o_tupT, o_lstL, o_lstT, o_seqL, o_seqT, o_part, o_slL, o_slT, o_memL, o_memT, o_ixL, o_ixT, o_rng1, o_rng2, o_enum, ↓ho_peekM, fl_int, fl_str, fl_bool, List.getElem?_cons_zero, List.getElem?_cons_succ, List.set_cons_zero, List.set_cons_succ, List.length_cons, List.length_nil, decide_eq_true_eq, true_and, and_true, Bool.not_true, Bool.not_false, if_true, if_false, ↓reduceIte, Bool.false_eq_true, Nat.reduceAdd, Int.reduceToNat, Int.reducePow, Int.reduceAdd, Int.reduceSub, Int.reduceNeg, Int.reduceMul, Int.reduceDiv, Int.reduceMod, Int.reduceLT, Int.reduceLE, Nat.reduceLeDiff, Nat.reduceEqDiff, decide_true, decide_false, and_self, wipeR, restR, List.getD_cons_succ, List.getD_cons_zero, e2, n2]
        exact ⟨hm, ⟨hm, hb⟩, q _ _ (Int.emod_nonneg _ (by omega)) (Int.emod_lt_of_pos _ hm) ⟨cs, a + 1, _, rfl, by omega, by omega⟩⟩
      · simp only [varP_fz, varP_ow, getP_some, blP_b, flP_nx, flP_bk, flP_ct, flP_rt, retP_some, parP_2, ownP_some, ownLP_some, setKP_int, loP_nx, loP_ct, loP_bk, loP_rt, oo_some, oo_none, oo_map, oo_bind, oo_if, ↓ho_bindM, ↓ho_pureM, ↓ho_liftM, ↓ho_cM, ↓ho_bin, ↓ho_una, ↓ho_varM, ↓ho_getM, ↓ho_nilM, ↓ho_consM, ↓ho_tupM, ↓ho_lstM, ↓ho_callM, ↓ho_boolM, ↓ho_testM, ↓ho_notM, ↓ho_ite, ↓ho_andM, ↓ho_orM, ↓ho_blM, ↓ho_andV, ↓ho_orV, ↓ho_notV, ↓ho_ifM, ↓ho_chainM, ↓ho_chain3M, ↓ho_ixVM, ↓ho_partM, ↓ho_sliceM, ↓ho_seqM, ↓ho_rngM, ↓ho_putM, ↓ho_putO, ↓ho_gsNil, ↓ho_gsCons, ↓ho_tupG, ↓ho_yesM, ↓ho_wipeM, ↓ho_seqS, ↓ho_dropS, ↓ho_retS, ↓ho_retF, ↓ho_retV, ↓ho_setS, ↓ho_asgS, ↓ho_parS, ↓ho_ifS, ↓ho_ownM, ↓ho_ownL, ↓ho_appendM, ↓ho_setLS, ↓ho_callRM, ↓ho_forS, ↓ho_lcM, ↓ho_lc2M, rtP_rt, rtP_nx, rmP_rt, rmP_nx, sl_fz, sl_ow, o_add, o_addT, o_addL, o_addS, o_sub, o_mul, o_fdiv, o_mod, o_pow, o_neg, o_cmp, o_eq, o_ne, o_eqS, o_neS, o_lenL, o_lenT, o_min, o_max, o_toInt, o_tupL, o_tupT, o_lstL, o_lstT, o_seqL, o_seqT, o_part, o_slL, o_slT, o_memL, o_memT, o_ixL, o_ixT, o_rng1, o_rng2, o_enum, ↓ho_peekM, fl_int, fl_str, fl_bool, List.getElem?_cons_zero, List.getElem?_cons_succ, List.set_cons_zero, List.set_cons_succ, List.length_cons, List.length_nil, decide_eq_true_eq, true_and, and_true, Bool.not_true, Bool.not_false, if_true, if_false, ↓reduceIte, Bool.false_eq_true, Nat.reduceAdd, Int.reduceToNat, Int.reducePow, Int.reduceAdd, Int.reduceSub, Int.reduceNeg, Int.reduceMul, Int.reduceDiv, Int.reduceMod, Int.reduceLT, Int.reduceLE, Nat.reduceLeDiff, Nat.reduceEqDiff, decide_true, decide_false, and_self, wipeR, restR, List.getD_cons_succ, List.getD_cons_zero, hl, n1, n2]
        refine oo_mono (spread_ok _ a h0 (by omega)) fun s hs => ?_
        obtain ⟨r', rfl⟩ := hs
        simp only [varP_fz, varP_ow, getP_some, blP_b, flP_nx, flP_bk, flP_ct, flP_rt, retP_some, parP_2, ownP_some, ownLP_some, setKP_int, loP_nx, loP_ct, loP_bk, loP_rt, oo_some, oo_none, oo_map, oo_bind, oo_if, ↓ho_bindM, ↓ho_pureM, ↓ho_liftM, ↓ho_cM, ↓ho_bin, ↓ho_una, ↓ho_varM, ↓ho_getM, ↓ho_nilM, ↓ho_consM, ↓ho_tupM, ↓ho_lstM, ↓ho_callM, ↓ho_boolM, ↓ho_testM, ↓ho_notM, ↓ho_ite, ↓ho_andM, ↓ho_orM, ↓ho_blM, ↓ho_andV, ↓ho_orV, ↓ho_notV, ↓ho_ifM, ↓ho_chainM, ↓ho_chain3M, ↓ho_ixVM, ↓ho_partM, ↓ho_sliceM, ↓ho_seqM, ↓ho_rngM, ↓ho_putM, ↓ho_putO, ↓ho_gsNil, ↓ho_gsCons, ↓ho_tupG, ↓ho_yesM, ↓ho_wipeM, ↓ho_seqS, ↓ho_dropS, ↓ho_retS, ↓ho_retF, ↓ho_retV, ↓ho_setS, ↓ho_asgS, ↓ho_parS, ↓ho_ifS, ↓ho_ownM, ↓ho_ownL, ↓ho_appendM, ↓ho_setLS, ↓ho_callRM, ↓ho_forS, ↓ho_lcM, ↓ho_lc2M, rtP_rt, rtP_nx, rmP_rt, rmP_nx, sl_fz, sl_ow, o_add, o_addT, o_addL, o_addS, o_sub, o_mul, o_fdiv, o_mod, o_pow, o_neg, o_cmp, o_eq, o_ne, o_eqS, o_neS, o_lenL, o_lenT, o_min, o_max, o_toInt, o_tupL, o_tupT, o_lstL, o_lstT, o_seqL, o_seqT, o_part, o_slL, o_slT, o_memL, o_memT, o_ixL, o_ixT, o_rng1, o_rng2, o_enum, ↓ho_peekM, fl_int, fl_str, fl_bool, List.getElem?_cons_zero, List.getElem?_cons_succ, List.set_cons_zero, List.set_cons_succ, List.length_cons, List.length_nil, decide_eq_true_eq, true_and, and_true, Bool.not_true, Bool.not_false, if_true, if_false, ↓reduceIte, Bool.false_eq_true, Nat.reduceAdd, Int.reduceToNat, Int.reducePow, Int.reduceAdd, Int.reduceSub, Int.reduceNeg, Int.reduceMul, Int.reduceDiv, Int.reduceMod, Int.reduceLT, Int.reduceLE, Nat.reduceLeDiff, Nat.reduceEqDiff, decide_true, decide_false, and_self, wipeR, restR, List.getD_cons_succ, List.getD_cons_zero, e2, n2]
        exact ⟨hm, ⟨hm, hb⟩, q _ _ (Int.emod_nonneg _ (by omega)) (Int.emod_lt_of_pos _ hm) ⟨cs, a + 1, _, rfl, by omega, by omega⟩⟩
  · simp only [varP_fz, varP_ow, getP_some, blP_b, flP_nx, flP_bk, flP_ct, flP_rt, retP_some, parP_2, ownP_some, ownLP_some, setKP_int, loP_nx, loP_ct, loP_bk, loP_rt, oo_some, oo_none, oo_map, oo_bind, oo_if, ↓ho_bindM, ↓ho_pureM, ↓ho_liftM, ↓ho_cM, ↓ho_bin, ↓ho_una, ↓ho_varM, ↓ho_getM, ↓ho_nilM, ↓ho_consM, ↓ho_tupM, ↓ho_lstM, ↓ho_callM, ↓ho_boolM, ↓ho_testM, ↓ho_notM, ↓ho_ite, ↓ho_andM, ↓ho_orM, ↓ho_blM, ↓ho_andV, ↓ho_orV, ↓ho_notV, ↓ho_ifM, ↓ho_chainM, ↓ho_chain3M, ↓ho_ixVM, ↓ho_partM, ↓ho_sliceM, ↓ho_seqM, ↓ho_rngM, ↓ho_putM, ↓ho_putO, ↓ho_gsNil, ↓ho_gsCons, ↓ho_tupG, ↓ho_yesM, ↓ho_wipeM, ↓ho_seqS, ↓ho_dropS, ↓ho_retS, ↓ho_retF, ↓ho_retV, ↓ho_setS, ↓ho_asgS, ↓ho_parS, ↓ho_ifS, ↓ho_ownM, ↓ho_ownL, ↓ho_appendM, ↓ho_setLS, ↓ho_callRM, ↓ho_forS, ↓ho_lcM, ↓ho_lc2M, rtP_rt, rtP_nx, rmP_rt, rmP_nx, sl_fz, sl_ow, o_add, o_addT, o_addL, o_addS, o_sub, o_mul, o_fdiv, o_mod, o_pow, o_neg, o_cmp, o_eq, o_ne, o_eqS, o_neS, o_lenL, o_lenT, o_min, o_max, o_toInt, o_tupL, o_tupT, o_lstL, o_lstT, o_seqL, o_seqT, o_part, o_slL, o_slT, o_memL, o_memT, o_ixL, o_ixT, o_rng1, o_rng2, o_enum, ↓ho_peekM, fl_int, fl_str, fl_bool, List.getElem?_cons_zero, List.getElem?_cons_succ, List.set_cons_zero, List.set_cons_succ, List.length_cons, List.length_nil, decide_eq_true_eq, true_and, and_true, Bool.not_true, Bool.not_false, if_true, if_false, ↓reduceIte, Bool.false_eq_true, Nat.reduceAdd, Int.reduceToNat, Int.reducePow, Int.reduceAdd, Int.reduceSub, Int.reduceNeg, Int.reduceMul, Int.reduceDiv, Int.reduceMod, Int.reduceLT, Int.reduceLE, Nat.reduceLeDiff, Nat.reduceEqDiff, decide_true, decide_false, and_self, wipeR, restR, List.getD_cons_succ, List.getD_cons_zero, hr, e2, n2]
    exact ⟨hm, ⟨hm, hb⟩, q _ _ (Int.emod_nonneg _ (by omega)) (Int.emod_lt_of_pos _ hm) ⟨cs, a, _, rfl, by omega, by omega⟩⟩
theorem enumFrom_at : ∀ (ds : List D) (n j : Nat) (x : D), (enumFrom n ds)[j]? = some x → ∃ d, ds[j]? = some d ∧ x = .tuple [.int (n + j : Nat), d]
  | [], n, j, x, h => by simp [enumFrom] at h
  | d :: ds, n, 0, x, h => by
    have h : some (PyData.tuple [.int n, d]) = some x := h
    exact ⟨d, rfl, (Option.some.inj h).symm⟩
  | d :: ds, n, j + 1, x, h => by
    obtain ⟨e, h1, h2⟩ := enumFrom_at ds (n + 1) j x h
    exact ⟨e, h1, by rw [h2, show n + 1 + j = n + (j + 1) by omega]⟩
theorem cut_map (ns : List Int) (lo hi : Option Int) : ∃ cs : List Int, Fx.cutD (ns.map PyData.int) lo hi = cs.map PyData.int := by
  unfold Fx.cutD
  rw [← List.map_drop, ← List.map_take]
  exact ⟨_, rfl⟩
theorem open_ok (ns : List Int) : Oo (F__law_open [.list (ns.map PyData.int)]) fun s => ∃ d, s = .ow d ∧ PenOk 0 d := by
  refine oo_runF rfl ?_
  show Ho m__law_open [some (.fz (.list (ns.map PyData.int))), none, none, none] _
  unfold m__law_open
  simp only [varP_fz, varP_ow, getP_some, blP_b, flP_nx, flP_bk, flP_ct, flP_rt, retP_some, parP_2, ownP_some, ownLP_some, setKP_int, loP_nx, loP_ct, loP_bk, loP_rt, oo_some, oo_none, oo_map, oo_bind, oo_if, ↓ho_bindM, ↓ho_pureM, ↓ho_liftM, ↓ho_cM, ↓ho_bin, ↓ho_una, ↓ho_varM, ↓ho_getM, ↓ho_nilM, ↓ho_consM, ↓ho_tupM, ↓ho_lstM, ↓ho_callM, ↓ho_boolM, ↓ho_testM, ↓ho_notM, ↓ho_ite, ↓ho_andM, ↓ho_orM, ↓ho_blM, ↓ho_andV, ↓ho_orV, ↓ho_notV, ↓ho_ifM, ↓ho_chainM, ↓ho_chain3M, ↓ho_ixVM, ↓ho_partM, ↓ho_sliceM, ↓ho_seqM, ↓ho_rngM, ↓ho_putM, ↓ho_putO, ↓ho_gsNil, ↓ho_gsCons, ↓ho_tupG, ↓ho_yesM, ↓ho_wipeM, ↓ho_seqS, ↓ho_dropS, ↓ho_retS, ↓ho_retF, ↓ho_retV, ↓ho_setS, ↓ho_asgS, ↓ho_parS, ↓ho_ifS, ↓ho_ownM, ↓ho_ownL, ↓ho_appendM, ↓ho_setLS, ↓ho_callRM, ↓ho_forS, ↓ho_lcM, ↓ho_lc2M, rtP_rt, rtP_nx, rmP_rt, rmP_nx, sl_fz, sl_ow, o_add, o_addT, o_addL, o_addS, o_sub, o_mul, o_fdiv, o_mod, o_pow, o_neg, o_cmp, o_eq, o_ne, o_eqS, o_neS, o_lenL, o_lenT, o_min, o_max, o_toInt, o_tupL, o_tupT, o_lstL, o_lstT, o_seqL, o_seqT, o_part, o_slL, o_slT, o_memL, o_memT, o_ixL, o_ixT, o_rng1, o_rng2, o_enum, ↓ho_peekM, fl_int, fl_str, fl_bool, List.getElem?_cons_zero, List.getElem?_cons_succ, List.set_cons_zero, List.set_cons_succ, List.length_cons, List.length_nil, decide_eq_true_eq, true_and, and_true, Bool.not_true, Bool.not_false, if_true, if_false, ↓reduceIte, Bool.false_eq_true, Nat.reduceAdd, Int.reduceToNat, Int.reducePow, Int.reduceAdd, Int.reduceSub, Int.reduceNeg, Int.reduceMul, Int.reduceDiv, Int.reduceMod, Int.reduceLT, Int.reduceLE, Nat.reduceLeDiff, Nat.reduceEqDiff, decide_true, decide_false, and_self, wipeR, restR, List.getD_cons_succ, List.getD_cons_zero]
  obtain ⟨cs, hcs⟩ := cut_map ns none (some 12)
  obtain ⟨ms, hms⟩ := cut_map ns (some 12) (some 63)
  have hl : (Fx.cutD (ns.map PyData.int) none (some 12)).length = min 12 ns.length := by
    simp [Fx.cutD, HT.sIx]
  have hk : ns.length ≤ 12 → Fx.cutD (ns.map PyData.int) (some 12) (some 63) = [] := by
    intro h
    simp [Fx.cutD, HT.sIx, Nat.min_eq_right h]
  rw [hcs] at hl ⊢
  rw [hms] at hk ⊢
  refine ho_for_all (fun _ ρ => ∃ cs : List Int, ∃ s2 s3, ρ = [some (.fz (.list (ns.map PyData.int))), some (.ow (.list (cs.map PyData.int))), s2, s3] ∧ (12 < ns.length → cs.length = 12)) _ _ 0 _ ⟨cs, none, none, rfl, fun h => by rw [List.length_map] at hl; omega⟩ ?_ ?_
  · rintro j x ρ1 hx ⟨cs, s2, s3, rfl, hc⟩
    obtain ⟨d, hd, rfl⟩ := enumFrom_at _ _ _ _ hx
    have hn : 12 < ns.length := by
      by_cases h : 12 < ns.length
      · exact h
      · rw [hk (by omega)] at hd; simp at hd
    obtain ⟨i, rfl⟩ := map_int_at hd
    have h12 : (cs.map PyData.int).length = 12 := by rw [List.length_map]; exact hc hn
    simp only [varP_fz, varP_ow, getP_some, blP_b, flP_nx, flP_bk, flP_ct, flP_rt, retP_some, parP_2, ownP_some, ownLP_some, setKP_int, loP_nx, loP_ct, loP_bk, loP_rt, oo_some, oo_none, oo_map, oo_bind, oo_if, ↓ho_bindM, ↓ho_pureM, ↓ho_liftM, ↓ho_cM, ↓ho_bin, ↓ho_una, ↓ho_varM, ↓ho_getM, ↓ho_nilM, ↓ho_consM, ↓ho_tupM, ↓ho_lstM, ↓ho_callM, ↓ho_boolM, ↓ho_testM, ↓ho_notM, ↓ho_ite, ↓ho_andM, ↓ho_orM, ↓ho_blM, ↓ho_andV, ↓ho_orV, ↓ho_notV, ↓ho_ifM, ↓ho_chainM, ↓ho_chain3M, ↓ho_ixVM, ↓ho_partM, ↓ho_sliceM, ↓ho_seqM, ↓ho_rngM, ↓ho_putM, ↓ho_putO, ↓ho_gsNil, ↓ho_gsCons, ↓ho_tupG, ↓ho_yesM, ↓ho_wipeM, ↓ho_seqS, ↓ho_dropS, ↓ho_retS, ↓ho_retF, ↓ho_retV, ↓ho_setS, ↓ho_asgS, ↓ho_parS, ↓ho_ifS, ↓ho_ownM, ↓ho_ownL, ↓ho_appendM, ↓ho_setLS, ↓ho_callRM, ↓ho_forS, ↓ho_lcM, ↓ho_lc2M, rtP_rt, rtP_nx, rmP_rt, rmP_nx, sl_fz, sl_ow, o_add, o_addT, o_addL, o_addS, o_sub, o_mul, o_fdiv, o_mod, o_pow, o_neg, o_cmp, o_eq, o_ne, o_eqS, o_neS, o_lenL, o_lenT, o_min, o_max, o_toInt, o_tupL, o_tupT, o_lstL, o_lstT, o_seqL, o_seqT, o_part, o_slL, o_slT, o_memL, o_memT, o_ixL, o_ixT, o_rng1, o_rng2, o_enum, ↓ho_peekM, fl_int, fl_str, fl_bool, List.getElem?_cons_zero, List.getElem?_cons_succ, List.set_cons_zero, List.set_cons_succ, List.length_cons, List.length_nil, decide_eq_true_eq, true_and, and_true, Bool.not_true, Bool.not_false, if_true, if_false, ↓reduceIte, Bool.false_eq_true, Nat.reduceAdd, Int.reduceToNat, Int.reducePow, Int.reduceAdd, Int.reduceSub, Int.reduceNeg, Int.reduceMul, Int.reduceDiv, Int.reduceMod, Int.reduceLT, Int.reduceLE, Nat.reduceLeDiff, Nat.reduceEqDiff, decide_true, decide_false, and_self, wipeR, restR, List.getD_cons_succ, List.getD_cons_zero]
    refine oo_atI (Int.emod_nonneg _ (by omega)) (by rw [h12]; exact Int.emod_lt_of_pos _ (by omega)) fun x hx => ?_
    obtain ⟨c, rfl⟩ := map_int_at hx
    simp only [varP_fz, varP_ow, getP_some, blP_b, flP_nx, flP_bk, flP_ct, flP_rt, retP_some, parP_2, ownP_some, ownLP_some, setKP_int, loP_nx, loP_ct, loP_bk, loP_rt, oo_some, oo_none, oo_map, oo_bind, oo_if, ↓ho_bindM, ↓ho_pureM, ↓ho_liftM, ↓ho_cM, ↓ho_bin, ↓ho_una, ↓ho_varM, ↓ho_getM, ↓ho_nilM, ↓ho_consM, ↓ho_tupM, ↓ho_lstM, ↓ho_callM, ↓ho_boolM, ↓ho_testM, ↓ho_notM, ↓ho_ite, ↓ho_andM, ↓ho_orM, ↓ho_blM, ↓ho_andV, ↓ho_orV, ↓ho_notV, ↓ho_ifM, ↓ho_chainM, ↓ho_chain3M, ↓ho_ixVM, ↓ho_partM, ↓ho_sliceM, ↓ho_seqM, ↓ho_rngM, ↓ho_putM, ↓ho_putO, ↓ho_gsNil, ↓ho_gsCons, ↓ho_tupG, ↓ho_yesM, ↓ho_wipeM, ↓ho_seqS, ↓ho_dropS, ↓ho_retS, ↓ho_retF, ↓ho_retV, ↓ho_setS, ↓ho_asgS, ↓ho_parS, ↓ho_ifS, ↓ho_ownM, ↓ho_ownL, ↓ho_appendM, ↓ho_setLS, ↓ho_callRM, ↓ho_forS, ↓ho_lcM, ↓ho_lc2M, rtP_rt, rtP_nx, rmP_rt, rmP_nx, sl_fz, sl_ow, o_add, o_addT, o_addL, o_addS, o_sub, o_mul, o_fdiv, o_mod, o_pow, o_neg, o_cmp, o_eq, o_ne, o_eqS, o_neS, o_lenL, o_lenT, o_min, o_max, o_toInt, o_tupL, o_tupT, o_lstL, o_lstT, o_seqL, o_seqT, o_part, o_slL, o_slT, o_memL, o_memT, o_ixL, o_ixT, o_rng1, o_rng2, o_enum, ↓ho_peekM, fl_int, fl_str, fl_bool, List.getElem?_cons_zero, List.getElem?_cons_succ, List.set_cons_zero, List.set_cons_succ, List.length_cons, List.length_nil, decide_eq_true_eq, true_and, and_true, Bool.not_true, Bool.not_false, if_true, if_false, ↓reduceIte, Bool.false_eq_true, Nat.reduceAdd, Int.reduceToNat, Int.reducePow, Int.reduceAdd, Int.reduceSub, Int.reduceNeg, Int.reduceMul, Int.reduceDiv, Int.reduceMod, Int.reduceLT, Int.reduceLE, Nat.reduceLeDiff, Nat.reduceEqDiff, decide_true, decide_false, and_self, wipeR, restR, List.getD_cons_succ, List.getD_cons_zero]
    refine oo_ixN (Int.emod_nonneg _ (by omega)) (by rw [h12]; exact Int.emod_lt_of_pos _ (by omega)) ?_
    rw [map_int_set]
    exact ⟨_, _, _, rfl, fun h => by rw [List.length_set]; exact hc h⟩
  · rintro ρ1 ⟨cs, s2, s3, rfl, hc⟩
    simp only [varP_fz, varP_ow, getP_some, blP_b, flP_nx, flP_bk, flP_ct, flP_rt, retP_some, parP_2, ownP_some, ownLP_some, setKP_int, loP_nx, loP_ct, loP_bk, loP_rt, oo_some, oo_none, oo_map, oo_bind, oo_if, ↓ho_bindM, ↓ho_pureM, ↓ho_liftM, ↓ho_cM, ↓ho_bin, ↓ho_una, ↓ho_varM, ↓ho_getM, ↓ho_nilM, ↓ho_consM, ↓ho_tupM, ↓ho_lstM, ↓ho_callM, ↓ho_boolM, ↓ho_testM, ↓ho_notM, ↓ho_ite, ↓ho_andM, ↓ho_orM, ↓ho_blM, ↓ho_andV, ↓ho_orV, ↓ho_notV, ↓ho_ifM, ↓ho_chainM, ↓ho_chain3M, ↓ho_ixVM, ↓ho_partM, ↓ho_sliceM, ↓ho_seqM, ↓ho_rngM, ↓ho_putM, ↓ho_putO, ↓ho_gsNil, ↓ho_gsCons, ↓ho_tupG, ↓ho_yesM, ↓ho_wipeM, ↓ho_seqS, ↓ho_dropS, ↓ho_retS, ↓ho_retF, ↓ho_retV, ↓ho_setS, ↓ho_asgS, ↓ho_parS, ↓ho_ifS, ↓ho_ownM, ↓ho_ownL, ↓ho_appendM, ↓ho_setLS, ↓ho_callRM, ↓ho_forS, ↓ho_lcM, ↓ho_lc2M, rtP_rt, rtP_nx, rmP_rt, rmP_nx, sl_fz, sl_ow, o_add, o_addT, o_addL, o_addS, o_sub, o_mul, o_fdiv, o_mod, o_pow, o_neg, o_cmp, o_eq, o_ne, o_eqS, o_neS, o_lenL, o_lenT, o_min, o_max, o_toInt, o_tupL, o_tupT, o_lstL, o_lstT, o_seqL, o_seqT, o_part, o_slL, o_slT, o_memL, o_memT, o_ixL, o_ixT, o_rng1, o_rng2, o_enum, ↓ho_peekM, fl_int, fl_str, fl_bool, List.getElem?_cons_zero, List.getElem?_cons_succ, List.set_cons_zero, List.set_cons_succ, List.length_cons, List.length_nil, decide_eq_true_eq, true_and, and_true, Bool.not_true, Bool.not_false, if_true, if_false, ↓reduceIte, Bool.false_eq_true, Nat.reduceAdd, Int.reduceToNat, Int.reducePow, Int.reduceAdd, Int.reduceSub, Int.reduceNeg, Int.reduceMul, Int.reduceDiv, Int.reduceMod, Int.reduceLT, Int.reduceLE, Nat.reduceLeDiff, Nat.reduceEqDiff, decide_true, decide_false, and_self, wipeR, restR, List.getD_cons_succ, List.getD_cons_zero]
    exact ⟨by decide, _, rfl, cs, 0, 0, rfl, by omega, by omega⟩
theorem pick_ok {n : Nat} {d : D} {ds : List D} {Φ : Sl × D → Prop} (hp : PenOk n d) (hn : n < 2 ^ 20) (h0 : 0 < ds.length) (hl : ds.length < 2 ^ 20)
    (q : ∀ k x d', k < ds.length → ds[k]? = some x → PenOk (n + 1) d' → Φ (.fz x, d')) : Oo (F__law_w_pick d [.list ds]) Φ := by
  refine oo_runM rfl ?_
  show Ho m__law_w_pick [some (.ow d), some (.fz (.list ds))] _
  unfold m__law_w_pick
  simp only [varP_fz, varP_ow, getP_some, blP_b, flP_nx, flP_bk, flP_ct, flP_rt, retP_some, parP_2, ownP_some, ownLP_some, setKP_int, loP_nx, loP_ct, loP_bk, loP_rt, oo_some, oo_none, oo_map, oo_bind, oo_if, ↓ho_bindM, ↓ho_pureM, ↓ho_liftM, ↓ho_cM, ↓ho_bin, ↓ho_una, ↓ho_varM, ↓ho_getM, ↓ho_nilM, ↓ho_consM, ↓ho_tupM, ↓ho_lstM, ↓ho_callM, ↓ho_boolM, ↓ho_testM, ↓ho_notM, ↓ho_ite, ↓ho_andM, ↓ho_orM, ↓ho_blM, ↓ho_andV, ↓ho_orV, ↓ho_notV, ↓ho_ifM, ↓ho_chainM, ↓ho_chain3M, ↓ho_ixVM, ↓ho_partM, ↓ho_sliceM, ↓ho_seqM, ↓ho_rngM, ↓ho_putM, ↓ho_putO, ↓ho_gsNil, ↓ho_gsCons, ↓ho_tupG, ↓ho_yesM, ↓ho_wipeM, ↓ho_seqS, ↓ho_dropS, ↓ho_retS, ↓ho_retF, ↓ho_retV, ↓ho_setS, ↓ho_asgS, ↓ho_parS, ↓ho_ifS, ↓ho_ownM, ↓ho_ownL, ↓ho_appendM, ↓ho_setLS, ↓ho_callRM, ↓ho_forS, ↓ho_lcM, ↓ho_lc2M, rtP_rt, rtP_nx, rmP_rt, rmP_nx, sl_fz, sl_ow, o_add, o_addT, o_addL, o_addS, o_sub, o_mul, o_fdiv, o_mod, o_pow, o_neg, o_cmp, o_eq, o_ne, o_eqS, o_neS, o_lenL, o_lenT, o_min, o_max, o_toInt, o_tupL, o_tupT, o_lstL, o_lstT, o_seqL, o_seqT, o_part, o_slL, o_slT, o_memL, o_memT, o_ixL, o_ixT, o_rng1, o_rng2, o_enum, ↓ho_peekM, fl_int, fl_str, fl_bool, List.getElem?_cons_zero, List.getElem?_cons_succ, List.set_cons_zero, List.set_cons_succ, List.length_cons, List.length_nil, decide_eq_true_eq, true_and, and_true, Bool.not_true, Bool.not_false, if_true, if_false, ↓reduceIte, Bool.false_eq_true, Nat.reduceAdd, Int.reduceToNat, Int.reducePow, Int.reduceAdd, Int.reduceSub, Int.reduceNeg, Int.reduceMul, Int.reduceDiv, Int.reduceMod, Int.reduceLT, Int.reduceLE, Nat.reduceLeDiff, Nat.reduceEqDiff, decide_true, decide_false, and_self, wipeR, restR, List.getD_cons_succ, List.getD_cons_zero]
  refine take_ok hp hn (by omega) (Nat.lt_of_lt_of_le (log_lt (k := 20) (by omega) (by omega)) (by omega)) fun r d' r0 r1 pk => ?_
  simp only [varP_fz, varP_ow, getP_some, blP_b, flP_nx, flP_bk, flP_ct, flP_rt, retP_some, parP_2, ownP_some, ownLP_some, setKP_int, loP_nx, loP_ct, loP_bk, loP_rt, oo_some, oo_none, oo_map, oo_bind, oo_if, ↓ho_bindM, ↓ho_pureM, ↓ho_liftM, ↓ho_cM, ↓ho_bin, ↓ho_una, ↓ho_varM, ↓ho_getM, ↓ho_nilM, ↓ho_consM, ↓ho_tupM, ↓ho_lstM, ↓ho_callM, ↓ho_boolM, ↓ho_testM, ↓ho_notM, ↓ho_ite, ↓ho_andM, ↓ho_orM, ↓ho_blM, ↓ho_andV, ↓ho_orV, ↓ho_notV, ↓ho_ifM, ↓ho_chainM, ↓ho_chain3M, ↓ho_ixVM, ↓ho_partM, ↓ho_sliceM, ↓ho_seqM, ↓ho_rngM, ↓ho_putM, ↓ho_putO, ↓ho_gsNil, ↓ho_gsCons, ↓ho_tupG, ↓ho_yesM, ↓ho_wipeM, ↓ho_seqS, ↓ho_dropS, ↓ho_retS, ↓ho_retF, ↓ho_retV, ↓ho_setS, ↓ho_asgS, ↓ho_parS, ↓ho_ifS, ↓ho_ownM, ↓ho_ownL, ↓ho_appendM, ↓ho_setLS, ↓ho_callRM, ↓ho_forS, ↓ho_lcM, ↓ho_lc2M, rtP_rt, rtP_nx, rmP_rt, rmP_nx, sl_fz, sl_ow, o_add, o_addT, o_addL, o_addS, o_sub, o_mul, o_fdiv, o_mod, o_pow, o_neg, o_cmp, o_eq, o_ne, o_eqS, o_neS, o_lenL, o_lenT, o_min, o_max, o_toInt, o_tupL, o_tupT, o_lstL, o_lstT, o_seqL, o_seqT, o_part, o_slL, o_slT, o_memL, o_memT, o_ixL, o_ixT, o_rng1, o_rng2, o_enum, ↓ho_peekM, fl_int, fl_str, fl_bool, List.getElem?_cons_zero, List.getElem?_cons_succ, List.set_cons_zero, List.set_cons_succ, List.length_cons, List.length_nil, decide_eq_true_eq, true_and, and_true, Bool.not_true, Bool.not_false, if_true, if_false, ↓reduceIte, Bool.false_eq_true, Nat.reduceAdd, Int.reduceToNat, Int.reducePow, Int.reduceAdd, Int.reduceSub, Int.reduceNeg, Int.reduceMul, Int.reduceDiv, Int.reduceMod, Int.reduceLT, Int.reduceLE, Nat.reduceLeDiff, Nat.reduceEqDiff, decide_true, decide_false, and_self, wipeR, restR, List.getD_cons_succ, List.getD_cons_zero]
  refine oo_atI r0 r1 fun x hx => ?_
  exact q _ x d' (by omega) hx pk
end Lw

namespace Lw
theorem piece_first (n k : Int) : 0 * n / k = 0 := by rw [Int.zero_mul, Int.zero_ediv]
theorem piece_last {n k : Int} (hk : 0 < k) : (k - 1 + 1) * n / k = n := by
  rw [show k - 1 + 1 = k by omega]; exact Int.mul_ediv_cancel_left n (by omega)
theorem div_bd {a k : Int} (hk : 0 < k) : k * (a / k) ≤ a ∧ a < k * (a / k) + k := by
  have h := Int.mul_ediv_add_emod a k
  have h0 := Int.emod_nonneg a (show k ≠ 0 by omega)
  have h1 := Int.emod_lt_of_pos a hk
  omega
theorem piece_size {n k i : Int} (hk : 0 < k) : (i + 1) * n / k - i * n / k = n / k ∨ (i + 1) * n / k - i * n / k = n / k + 1 := by
  have h1 := div_bd (a := (i + 1) * n) hk
  have h2 := div_bd (a := i * n) hk
  have h3 := div_bd (a := n) hk
  generalize (i + 1) * n / k = b at *
  generalize i * n / k = a at *
  generalize n / k = c at *
  have e : (i + 1) * n = i * n + n := by rw [Int.add_mul, Int.one_mul]
  have t : k * (b - a - c) = k * b - k * a - k * c := by rw [Int.mul_sub, Int.mul_sub]
  have u1 : b - a - c < 2 := Int.lt_of_mul_lt_mul_left (a := k) (by omega) (by omega)
  have u2 : -1 < b - a - c := Int.lt_of_mul_lt_mul_left (a := k) (by rw [t]; omega) (by omega)
  omega
theorem le_div {a b k : Int} (hk : 0 < k) : b ≤ a / k ↔ b * k ≤ a := Int.le_ediv_iff_mul_le hk
theorem place_le {n k x : Int} (hk : 0 < k) (hn : 0 < n) (x1 : x < n) : ((x + 1) * k - 1) / n ≤ k - 1 := by
  have h : ((x + 1) * k - 1) / n < k := by
    refine Int.ediv_lt_of_lt_mul hn ?_
    have : (x + 1) * k ≤ n * k := Int.mul_le_mul_of_nonneg_right (by omega) (by omega)
    rw [Int.mul_comm k n]; omega
  omega
theorem place_nonneg {n k x : Int} (hk : 0 < k) (hn : 0 < n) (x0 : 0 ≤ x) : 0 ≤ ((x + 1) * k - 1) / n := by
  refine Int.ediv_nonneg ?_ (by omega)
  have : 1 * k ≤ (x + 1) * k := Int.mul_le_mul_of_nonneg_right (by omega) (by omega)
  omega
theorem place_start {n k x : Int} (hk : 0 < k) (hn : 0 < n) : ((x + 1) * k - 1) / n * n / k ≤ x := by
  have h : ((x + 1) * k - 1) / n * n ≤ (x + 1) * k - 1 := Int.ediv_mul_le _ (by omega)
  have : ((x + 1) * k - 1) / n * n / k < x + 1 := Int.ediv_lt_of_lt_mul hk (by omega)
  omega
theorem place_stop {n k x : Int} (hk : 0 < k) (hn : 0 < n) : x < (((x + 1) * k - 1) / n + 1) * n / k := by
  have h := (div_bd (a := (x + 1) * k - 1) hn).2
  have : x + 1 ≤ (((x + 1) * k - 1) / n + 1) * n / k := by
    rw [le_div hk]
    generalize (x + 1) * k = m at *
    generalize (m - 1) / n = d at *
    rw [Int.add_mul, Int.one_mul, Int.mul_comm d n]
    omega
  omega
theorem inner_start {n k i q j : Int} (hn : 0 ≤ n) (hk : 0 < k) (hq : 0 < q) (hj : 0 ≤ j) : i * n / k ≤ (i * q + j) * n / (k * q) := by
  rw [← Int.mul_ediv_mul_of_pos_left (i * n) k hq]
  refine Int.ediv_le_ediv (Int.mul_pos hk hq) ?_
  rw [Int.add_mul, Int.mul_right_comm i n q]
  have := Int.mul_nonneg hj hn
  omega
theorem inner_mid {n m i : Int} (hn : 0 ≤ n) (hk : 0 < m) : i * n / m ≤ (i + 1) * n / m := by
  refine Int.ediv_le_ediv hk ?_
  rw [Int.add_mul, Int.one_mul]; omega
theorem inner_stop {n k i q j : Int} (hn : 0 ≤ n) (hk : 0 < k) (hq : 0 < q) (hj : j + 1 ≤ q) : (i * q + j + 1) * n / (k * q) ≤ (i + 1) * n / k := by
  rw [← Int.mul_ediv_mul_of_pos_left ((i + 1) * n) k hq]
  refine Int.ediv_le_ediv (Int.mul_pos hk hq) ?_
  rw [Int.mul_right_comm (i + 1) n q]
  refine Int.mul_le_mul_of_nonneg_right ?_ hn
  rw [Int.add_mul, Int.one_mul]; omega
theorem inner_fit {k i q j : Int} (i1 : i ≤ k - 1) (q2 : 2 ≤ q) (j1 : j ≤ 1) : i * q + j ≤ k * q - 1 := by
  have : i * q ≤ (k - 1) * q := Int.mul_le_mul_of_nonneg_right i1 (by omega)
  rw [Int.sub_mul, Int.one_mul] at this
  omega
theorem piece_bd {n k i : Int} (hn : 0 ≤ n) (hk : 0 < k) (i0 : 0 ≤ i) (i1 : i ≤ k) : 0 ≤ i * n / k ∧ i * n / k ≤ n := by
  refine ⟨Int.ediv_nonneg (Int.mul_nonneg i0 hn) (by omega), ?_⟩
  have : i * n / k < n + 1 := by
    refine Int.ediv_lt_of_lt_mul hk ?_
    have : i * n ≤ k * n := Int.mul_le_mul_of_nonneg_right i1 hn
    rw [Int.add_mul, Int.one_mul, Int.mul_comm n k]; omega
  omega
end Lw

namespace Lw
open PySem PySem.Spec PyProof.Rows L2 Fx
theorem isi_int (n : Int) : isiB "int" (.int n) = some true := by show kitB "int" "int" = some true; decide +kernel
theorem isi_bool (n : Int) : isiB "bool" (.int n) = some false := by show kitB "int" "bool" = some false; decide +kernel
theorem isi_tup (ds : List D) : isiB "tuple" (.tuple ds) = some true := by show kitB "tuple" "tuple" = some true; decide +kernel
theorem is_int_hi {n lo hi : Int} {Φ : Sl → Prop} (h0 : lo ≤ n) (h1 : n ≤ hi) (q : Φ (.fz (.bool true))) : Oo (F_is_integer [.int n, .int lo, .int hi]) Φ := by
  refine oo_runF rfl ?_
  show Ho m_is_integer [some (.fz (.int n)), some (.fz (.int lo)), some (.fz (.int hi))] _
  unfold m_is_integer
  simp only [varP_fz, varP_ow, getP_some, blP_b, flP_nx, flP_bk, flP_ct, flP_rt, retP_some, parP_2, ownP_some, ownLP_some, setKP_int, loP_nx, loP_ct, loP_bk, loP_rt, oo_some, oo_none, oo_map, oo_bind, oo_if, ↓ho_bindM, ↓ho_pureM, ↓ho_liftM, ↓ho_cM, ↓ho_bin, ↓ho_una, ↓ho_varM, ↓ho_getM, ↓ho_nilM, ↓ho_consM, ↓ho_tupM, ↓ho_lstM, ↓ho_callM, ↓ho_boolM, ↓ho_testM, ↓ho_notM, ↓ho_ite, ↓ho_andM, ↓ho_orM, ↓ho_blM, ↓ho_andV, ↓ho_orV, ↓ho_notV, ↓ho_ifM, ↓ho_chainM, ↓ho_chain3M, ↓ho_ixVM, ↓ho_partM, ↓ho_sliceM, ↓ho_seqM, ↓ho_rngM, ↓ho_putM, ↓ho_putO, ↓ho_gsNil, ↓ho_gsCons, ↓ho_tupG, ↓ho_yesM, ↓ho_wipeM, ↓ho_seqS, ↓ho_dropS, ↓ho_retS, ↓ho_retF, ↓ho_retV, ↓ho_setS, ↓ho_asgS, ↓ho_parS, ↓ho_ifS, ↓ho_ownM, ↓ho_ownL, ↓ho_appendM, ↓ho_setLS, ↓ho_callRM, ↓ho_forS, ↓ho_lcM, ↓ho_lc2M, rtP_rt, rtP_nx, rmP_rt, rmP_nx, sl_fz, sl_ow, o_add, o_addT, o_addL, o_addS, o_sub, o_mul, o_fdiv, o_mod, o_pow, o_neg, o_cmp, o_eq, o_ne, o_eqS, o_neS, o_lenL, o_lenT, o_min, o_max, o_toInt, o_tupL, o_tupT, o_lstL, o_lstT, o_seqL, o_seqT, o_part, o_slL, o_slT, o_memL, o_memT, o_ixL, o_ixT, o_rng1, o_rng2, o_enum, ↓ho_peekM, fl_int, fl_str, fl_bool, List.getElem?_cons_zero, List.getElem?_cons_succ, List.set_cons_zero, List.set_cons_succ, List.length_cons, List.length_nil, decide_eq_true_eq, true_and, and_true, Bool.not_true, Bool.not_false, if_true, if_false, ↓reduceIte, Bool.false_eq_true, Nat.reduceAdd, Int.reduceToNat, Int.reducePow, Int.reduceAdd, Int.reduceSub, Int.reduceNeg, Int.reduceMul, Int.reduceDiv, Int.reduceMod, Int.reduceLT, Int.reduceLE, Nat.reduceLeDiff, Nat.reduceEqDiff, decide_true, decide_false, and_self, wipeR, restR, List.getD_cons_succ, List.getD_cons_zero, isi_int, isi_bool, Option.map_some, isNoneB]
  have h : ¬ n < lo := by omega
  simp only [varP_fz, varP_ow, getP_some, blP_b, flP_nx, flP_bk, flP_ct, flP_rt, retP_some, parP_2, ownP_some, ownLP_some, setKP_int, loP_nx, loP_ct, loP_bk, loP_rt, oo_some, oo_none, oo_map, oo_bind, oo_if, ↓ho_bindM, ↓ho_pureM, ↓ho_liftM, ↓ho_cM, ↓ho_bin, ↓ho_una, ↓ho_varM, ↓ho_getM, ↓ho_nilM, ↓ho_consM, ↓ho_tupM, ↓ho_lstM, ↓ho_callM, ↓ho_boolM, ↓ho_testM, ↓ho_notM, ↓ho_ite, ↓ho_andM, ↓ho_orM, ↓ho_blM, ↓ho_andV, ↓ho_orV, ↓ho_notV, ↓ho_ifM, ↓ho_chainM, ↓ho_chain3M, ↓ho_ixVM, ↓ho_partM, ↓ho_sliceM, ↓ho_seqM, ↓ho_rngM, ↓ho_putM, ↓ho_putO, ↓ho_gsNil, ↓ho_gsCons, ↓ho_tupG, ↓ho_yesM, ↓ho_wipeM, ↓ho_seqS, ↓ho_dropS, ↓ho_retS, ↓ho_retF, ↓ho_retV, ↓ho_setS, ↓ho_asgS, ↓ho_parS, ↓ho_ifS, ↓ho_ownM, ↓ho_ownL, ↓ho_appendM, ↓ho_setLS, ↓ho_callRM, ↓ho_forS, ↓ho_lcM, ↓ho_lc2M, rtP_rt, rtP_nx, rmP_rt, rmP_nx, sl_fz, sl_ow, o_add, o_addT, o_addL, o_addS, o_sub, o_mul, o_fdiv, o_mod, o_pow, o_neg, o_cmp, o_eq, o_ne, o_eqS, o_neS, o_lenL, o_lenT, o_min, o_max, o_toInt, o_tupL, o_tupT, o_lstL, o_lstT, o_seqL, o_seqT, o_part, o_slL, o_slT, o_memL, o_memT, o_ixL, o_ixT, o_rng1, o_rng2, o_enum, ↓ho_peekM, fl_int, fl_str, fl_bool, List.getElem?_cons_zero, List.getElem?_cons_succ, List.set_cons_zero, List.set_cons_succ, List.length_cons, List.length_nil, decide_eq_true_eq, true_and, and_true, Bool.not_true, Bool.not_false, if_true, if_false, ↓reduceIte, Bool.false_eq_true, Nat.reduceAdd, Int.reduceToNat, Int.reducePow, Int.reduceAdd, Int.reduceSub, Int.reduceNeg, Int.reduceMul, Int.reduceDiv, Int.reduceMod, Int.reduceLT, Int.reduceLE, Nat.reduceLeDiff, Nat.reduceEqDiff, decide_true, decide_false, and_self, wipeR, restR, List.getD_cons_succ, List.getD_cons_zero, h, h1]
  exact q
theorem is_int_no {n lo : Int} {Φ : Sl → Prop} (h0 : lo ≤ n) (q : Φ (.fz (.bool true))) : Oo (F_is_integer [.int n, .int lo, .none]) Φ := by
  refine oo_runF rfl ?_
  show Ho m_is_integer [some (.fz (.int n)), some (.fz (.int lo)), some (.fz .none)] _
  unfold m_is_integer
  simp only [varP_fz, varP_ow, getP_some, blP_b, flP_nx, flP_bk, flP_ct, flP_rt, retP_some, parP_2, ownP_some, ownLP_some, setKP_int, loP_nx, loP_ct, loP_bk, loP_rt, oo_some, oo_none, oo_map, oo_bind, oo_if, ↓ho_bindM, ↓ho_pureM, ↓ho_liftM, ↓ho_cM, ↓ho_bin, ↓ho_una, ↓ho_varM, ↓ho_getM, ↓ho_nilM, ↓ho_consM, ↓ho_tupM, ↓ho_lstM, ↓ho_callM, ↓ho_boolM, ↓ho_testM, ↓ho_notM, ↓ho_ite, ↓ho_andM, ↓ho_orM, ↓ho_blM, ↓ho_andV, ↓ho_orV, ↓ho_notV, ↓ho_ifM, ↓ho_chainM, ↓ho_chain3M, ↓ho_ixVM, ↓ho_partM, ↓ho_sliceM, ↓ho_seqM, ↓ho_rngM, ↓ho_putM, ↓ho_putO, ↓ho_gsNil, ↓ho_gsCons, ↓ho_tupG, ↓ho_yesM, ↓ho_wipeM, ↓ho_seqS, ↓ho_dropS, ↓ho_retS, ↓ho_retF, ↓ho_retV, ↓ho_setS, ↓ho_asgS, ↓ho_parS, ↓ho_ifS, ↓ho_ownM, ↓ho_ownL, ↓ho_appendM, ↓ho_setLS, ↓ho_callRM, ↓ho_forS, ↓ho_lcM, ↓ho_lc2M, rtP_rt, rtP_nx, rmP_rt, rmP_nx, sl_fz, sl_ow, o_add, o_addT, o_addL, o_addS, o_sub, o_mul, o_fdiv, o_mod, o_pow, o_neg, o_cmp, o_eq, o_ne, o_eqS, o_neS, o_lenL, o_lenT, o_min, o_max, o_toInt, o_tupL, o_tupT, o_lstL, o_lstT, o_seqL, o_seqT, o_part, o_slL, o_slT, o_memL, o_memT, o_ixL, o_ixT, o_rng1, o_rng2, o_enum, ↓ho_peekM, fl_int, fl_str, fl_bool, List.getElem?_cons_zero, List.getElem?_cons_succ, List.set_cons_zero, List.set_cons_succ, List.length_cons, List.length_nil, decide_eq_true_eq, true_and, and_true, Bool.not_true, Bool.not_false, if_true, if_false, ↓reduceIte, Bool.false_eq_true, Nat.reduceAdd, Int.reduceToNat, Int.reducePow, Int.reduceAdd, Int.reduceSub, Int.reduceNeg, Int.reduceMul, Int.reduceDiv, Int.reduceMod, Int.reduceLT, Int.reduceLE, Nat.reduceLeDiff, Nat.reduceEqDiff, decide_true, decide_false, and_self, wipeR, restR, List.getD_cons_succ, List.getD_cons_zero, isi_int, isi_bool, Option.map_some, isNoneB]
  have h : ¬ n < lo := by omega
  simp only [varP_fz, varP_ow, getP_some, blP_b, flP_nx, flP_bk, flP_ct, flP_rt, retP_some, parP_2, ownP_some, ownLP_some, setKP_int, loP_nx, loP_ct, loP_bk, loP_rt, oo_some, oo_none, oo_map, oo_bind, oo_if, ↓ho_bindM, ↓ho_pureM, ↓ho_liftM, ↓ho_cM, ↓ho_bin, ↓ho_una, ↓ho_varM, ↓ho_getM, ↓ho_nilM, ↓ho_consM, ↓ho_tupM, ↓ho_lstM, ↓ho_callM, ↓ho_boolM, ↓ho_testM, ↓ho_notM, ↓ho_ite, ↓ho_andM, ↓ho_orM, ↓ho_blM, ↓ho_andV, ↓ho_orV, ↓ho_notV, ↓ho_ifM, ↓ho_chainM, ↓ho_chain3M, ↓ho_ixVM, ↓ho_partM, ↓ho_sliceM, ↓ho_seqM, ↓ho_rngM, ↓ho_putM, ↓ho_putO, ↓ho_gsNil, ↓ho_gsCons, ↓ho_tupG, ↓ho_yesM, ↓ho_wipeM, ↓ho_seqS, ↓ho_dropS, ↓ho_retS, ↓ho_retF, ↓ho_retV, ↓ho_setS, ↓ho_asgS, ↓ho_parS, ↓ho_ifS, ↓ho_ownM, ↓ho_ownL, ↓ho_appendM, ↓ho_setLS, ↓ho_callRM, ↓ho_forS, ↓ho_lcM, ↓ho_lc2M, rtP_rt, rtP_nx, rmP_rt, rmP_nx, sl_fz, sl_ow, o_add, o_addT, o_addL, o_addS, o_sub, o_mul, o_fdiv, o_mod, o_pow, o_neg, o_cmp, o_eq, o_ne, o_eqS, o_neS, o_lenL, o_lenT, o_min, o_max, o_toInt, o_tupL, o_tupT, o_lstL, o_lstT, o_seqL, o_seqT, o_part, o_slL, o_slT, o_memL, o_memT, o_ixL, o_ixT, o_rng1, o_rng2, o_enum, ↓ho_peekM, fl_int, fl_str, fl_bool, List.getElem?_cons_zero, List.getElem?_cons_succ, List.set_cons_zero, List.set_cons_succ, List.length_cons, List.length_nil, decide_eq_true_eq, true_and, and_true, Bool.not_true, Bool.not_false, if_true, if_false, ↓reduceIte, Bool.false_eq_true, Nat.reduceAdd, Int.reduceToNat, Int.reducePow, Int.reduceAdd, Int.reduceSub, Int.reduceNeg, Int.reduceMul, Int.reduceDiv, Int.reduceMod, Int.reduceLT, Int.reduceLE, Nat.reduceLeDiff, Nat.reduceEqDiff, decide_true, decide_false, and_self, wipeR, restR, List.getD_cons_succ, List.getD_cons_zero, h]
  exact q
theorem piece_ok {n k i : Int} {Φ : Sl → Prop} (n0 : 0 ≤ n) (n1 : n < 2 ^ 180) (k0 : 1 ≤ k) (k1 : k < 2 ^ 180) (i0 : 0 ≤ i) (i1 : i ≤ k - 1) (q : Φ (.fz (.tuple [.int (i * n / k), .int ((i + 1) * n / k)]))) : Oo (F_piece_of [.int n, .int k, .int i]) Φ := by
  refine oo_runF rfl ?_
  show Ho m_piece_of [some (.fz (.int n)), some (.fz (.int k)), some (.fz (.int i))] _
  unfold m_piece_of
  simp only [varP_fz, varP_ow, getP_some, blP_b, flP_nx, flP_bk, flP_ct, flP_rt, retP_some, parP_2, ownP_some, ownLP_some, setKP_int, loP_nx, loP_ct, loP_bk, loP_rt, oo_some, oo_none, oo_map, oo_bind, oo_if, ↓ho_bindM, ↓ho_pureM, ↓ho_liftM, ↓ho_cM, ↓ho_bin, ↓ho_una, ↓ho_varM, ↓ho_getM, ↓ho_nilM, ↓ho_consM, ↓ho_tupM, ↓ho_lstM, ↓ho_callM, ↓ho_boolM, ↓ho_testM, ↓ho_notM, ↓ho_ite, ↓ho_andM, ↓ho_orM, ↓ho_blM, ↓ho_andV, ↓ho_orV, ↓ho_notV, ↓ho_ifM, ↓ho_chainM, ↓ho_chain3M, ↓ho_ixVM, ↓ho_partM, ↓ho_sliceM, ↓ho_seqM, ↓ho_rngM, ↓ho_putM, ↓ho_putO, ↓ho_gsNil, ↓ho_gsCons, ↓ho_tupG, ↓ho_yesM, ↓ho_wipeM, ↓ho_seqS, ↓ho_dropS, ↓ho_retS, ↓ho_retF, ↓ho_retV, ↓ho_setS, ↓ho_asgS, ↓ho_parS, ↓ho_ifS, ↓ho_ownM, ↓ho_ownL, ↓ho_appendM, ↓ho_setLS, ↓ho_callRM, ↓ho_forS, ↓ho_lcM, ↓ho_lc2M, rtP_rt, rtP_nx, rmP_rt, rmP_nx, sl_fz, sl_ow, o_add, o_addT, o_addL, o_addS, o_sub, o_mul, o_fdiv, o_mod, o_pow, o_neg, o_cmp, o_eq, o_ne, o_eqS, o_neS, o_lenL, o_lenT, o_min, o_max, o_toInt, o_tupL, o_tupT, o_lstL, o_lstT, o_seqL, o_seqT, o_part, o_slL, o_slT, o_memL, o_memT, o_ixL, o_ixT, o_rng1, o_rng2, o_enum, ↓ho_peekM, fl_int, fl_str, fl_bool, List.getElem?_cons_zero, List.getElem?_cons_succ, List.set_cons_zero, List.set_cons_succ, List.length_cons, List.length_nil, decide_eq_true_eq, true_and, and_true, Bool.not_true, Bool.not_false, if_true, if_false, ↓reduceIte, Bool.false_eq_true, Nat.reduceAdd, Int.reduceToNat, Int.reducePow, Int.reduceAdd, Int.reduceSub, Int.reduceNeg, Int.reduceMul, Int.reduceDiv, Int.reduceMod, Int.reduceLT, Int.reduceLE, Nat.reduceLeDiff, Nat.reduceEqDiff, decide_true, decide_false, and_self, wipeR, restR, List.getD_cons_succ, List.getD_cons_zero]
  refine is_int_no n0 ?_
  simp only [varP_fz, varP_ow, getP_some, blP_b, flP_nx, flP_bk, flP_ct, flP_rt, retP_some, parP_2, ownP_some, ownLP_some, setKP_int, loP_nx, loP_ct, loP_bk, loP_rt, oo_some, oo_none, oo_map, oo_bind, oo_if, ↓ho_bindM, ↓ho_pureM, ↓ho_liftM, ↓ho_cM, ↓ho_bin, ↓ho_una, ↓ho_varM, ↓ho_getM, ↓ho_nilM, ↓ho_consM, ↓ho_tupM, ↓ho_lstM, ↓ho_callM, ↓ho_boolM, ↓ho_testM, ↓ho_notM, ↓ho_ite, ↓ho_andM, ↓ho_orM, ↓ho_blM, ↓ho_andV, ↓ho_orV, ↓ho_notV, ↓ho_ifM, ↓ho_chainM, ↓ho_chain3M, ↓ho_ixVM, ↓ho_partM, ↓ho_sliceM, ↓ho_seqM, ↓ho_rngM, ↓ho_putM, ↓ho_putO, ↓ho_gsNil, ↓ho_gsCons, ↓ho_tupG, ↓ho_yesM, ↓ho_wipeM, ↓ho_seqS, ↓ho_dropS, ↓ho_retS, ↓ho_retF, ↓ho_retV, ↓ho_setS, ↓ho_asgS, ↓ho_parS, ↓ho_ifS, ↓ho_ownM, ↓ho_ownL, ↓ho_appendM, ↓ho_setLS, ↓ho_callRM, ↓ho_forS, ↓ho_lcM, ↓ho_lc2M, rtP_rt, rtP_nx, rmP_rt, rmP_nx, sl_fz, sl_ow, o_add, o_addT, o_addL, o_addS, o_sub, o_mul, o_fdiv, o_mod, o_pow, o_neg, o_cmp, o_eq, o_ne, o_eqS, o_neS, o_lenL, o_lenT, o_min, o_max, o_toInt, o_tupL, o_tupT, o_lstL, o_lstT, o_seqL, o_seqT, o_part, o_slL, o_slT, o_memL, o_memT, o_ixL, o_ixT, o_rng1, o_rng2, o_enum, ↓ho_peekM, fl_int, fl_str, fl_bool, List.getElem?_cons_zero, List.getElem?_cons_succ, List.set_cons_zero, List.set_cons_succ, List.length_cons, List.length_nil, decide_eq_true_eq, true_and, and_true, Bool.not_true, Bool.not_false, if_true, if_false, ↓reduceIte, Bool.false_eq_true, Nat.reduceAdd, Int.reduceToNat, Int.reducePow, Int.reduceAdd, Int.reduceSub, Int.reduceNeg, Int.reduceMul, Int.reduceDiv, Int.reduceMod, Int.reduceLT, Int.reduceLE, Nat.reduceLeDiff, Nat.reduceEqDiff, decide_true, decide_false, and_self, wipeR, restR, List.getD_cons_succ, List.getD_cons_zero]
  refine is_int_no k0 ?_
  simp only [varP_fz, varP_ow, getP_some, blP_b, flP_nx, flP_bk, flP_ct, flP_rt, retP_some, parP_2, ownP_some, ownLP_some, setKP_int, loP_nx, loP_ct, loP_bk, loP_rt, oo_some, oo_none, oo_map, oo_bind, oo_if, ↓ho_bindM, ↓ho_pureM, ↓ho_liftM, ↓ho_cM, ↓ho_bin, ↓ho_una, ↓ho_varM, ↓ho_getM, ↓ho_nilM, ↓ho_consM, ↓ho_tupM, ↓ho_lstM, ↓ho_callM, ↓ho_boolM, ↓ho_testM, ↓ho_notM, ↓ho_ite, ↓ho_andM, ↓ho_orM, ↓ho_blM, ↓ho_andV, ↓ho_orV, ↓ho_notV, ↓ho_ifM, ↓ho_chainM, ↓ho_chain3M, ↓ho_ixVM, ↓ho_partM, ↓ho_sliceM, ↓ho_seqM, ↓ho_rngM, ↓ho_putM, ↓ho_putO, ↓ho_gsNil, ↓ho_gsCons, ↓ho_tupG, ↓ho_yesM, ↓ho_wipeM, ↓ho_seqS, ↓ho_dropS, ↓ho_retS, ↓ho_retF, ↓ho_retV, ↓ho_setS, ↓ho_asgS, ↓ho_parS, ↓ho_ifS, ↓ho_ownM, ↓ho_ownL, ↓ho_appendM, ↓ho_setLS, ↓ho_callRM, ↓ho_forS, ↓ho_lcM, ↓ho_lc2M, rtP_rt, rtP_nx, rmP_rt, rmP_nx, sl_fz, sl_ow, o_add, o_addT, o_addL, o_addS, o_sub, o_mul, o_fdiv, o_mod, o_pow, o_neg, o_cmp, o_eq, o_ne, o_eqS, o_neS, o_lenL, o_lenT, o_min, o_max, o_toInt, o_tupL, o_tupT, o_lstL, o_lstT, o_seqL, o_seqT, o_part, o_slL, o_slT, o_memL, o_memT, o_ixL, o_ixT, o_rng1, o_rng2, o_enum, ↓ho_peekM, fl_int, fl_str, fl_bool, List.getElem?_cons_zero, List.getElem?_cons_succ, List.set_cons_zero, List.set_cons_succ, List.length_cons, List.length_nil, decide_eq_true_eq, true_and, and_true, Bool.not_true, Bool.not_false, if_true, if_false, ↓reduceIte, Bool.false_eq_true, Nat.reduceAdd, Int.reduceToNat, Int.reducePow, Int.reduceAdd, Int.reduceSub, Int.reduceNeg, Int.reduceMul, Int.reduceDiv, Int.reduceMod, Int.reduceLT, Int.reduceLE, Nat.reduceLeDiff, Nat.reduceEqDiff, decide_true, decide_false, and_self, wipeR, restR, List.getD_cons_succ, List.getD_cons_zero]
  refine is_int_hi i0 i1 ?_
  simp only [varP_fz, varP_ow, getP_some, blP_b, flP_nx, flP_bk, flP_ct, flP_rt, retP_some, parP_2, ownP_some, ownLP_some, setKP_int, loP_nx, loP_ct, loP_bk, loP_rt, oo_some, oo_none, oo_map, oo_bind, oo_if, ↓ho_bindM, ↓ho_pureM, ↓ho_liftM, ↓ho_cM, ↓ho_bin, ↓ho_una, ↓ho_varM, ↓ho_getM, ↓ho_nilM, ↓ho_consM, ↓ho_tupM, ↓ho_lstM, ↓ho_callM, ↓ho_boolM, ↓ho_testM, ↓ho_notM, ↓ho_ite, ↓ho_andM, ↓ho_orM, ↓ho_blM, ↓ho_andV, ↓ho_orV, ↓ho_notV, ↓ho_ifM, ↓ho_chainM, ↓ho_chain3M, ↓ho_ixVM, ↓ho_partM, ↓ho_sliceM, ↓ho_seqM, ↓ho_rngM, ↓ho_putM, ↓ho_putO, ↓ho_gsNil, ↓ho_gsCons, ↓ho_tupG, ↓ho_yesM, ↓ho_wipeM, ↓ho_seqS, ↓ho_dropS, ↓ho_retS, ↓ho_retF, ↓ho_retV, ↓ho_setS, ↓ho_asgS, ↓ho_parS, ↓ho_ifS, ↓ho_ownM, ↓ho_ownL, ↓ho_appendM, ↓ho_setLS, ↓ho_callRM, ↓ho_forS, ↓ho_lcM, ↓ho_lc2M, rtP_rt, rtP_nx, rmP_rt, rmP_nx, sl_fz, sl_ow, o_add, o_addT, o_addL, o_addS, o_sub, o_mul, o_fdiv, o_mod, o_pow, o_neg, o_cmp, o_eq, o_ne, o_eqS, o_neS, o_lenL, o_lenT, o_min, o_max, o_toInt, o_tupL, o_tupT, o_lstL, o_lstT, o_seqL, o_seqT, o_part, o_slL, o_slT, o_memL, o_memT, o_ixL, o_ixT, o_rng1, o_rng2, o_enum, ↓ho_peekM, fl_int, fl_str, fl_bool, List.getElem?_cons_zero, List.getElem?_cons_succ, List.set_cons_zero, List.set_cons_succ, List.length_cons, List.length_nil, decide_eq_true_eq, true_and, and_true, Bool.not_true, Bool.not_false, if_true, if_false, ↓reduceIte, Bool.false_eq_true, Nat.reduceAdd, Int.reduceToNat, Int.reducePow, Int.reduceAdd, Int.reduceSub, Int.reduceNeg, Int.reduceMul, Int.reduceDiv, Int.reduceMod, Int.reduceLT, Int.reduceLE, Nat.reduceLeDiff, Nat.reduceEqDiff, decide_true, decide_false, and_self, wipeR, restR, List.getD_cons_succ, List.getD_cons_zero]
  refine oo_runF rfl ?_
  show Ho m_raw_piece [some (.fz (.int n)), some (.fz (.int k)), some (.fz (.int i))] _
  unfold m_raw_piece
  have k2 : k.natAbs.log2 < 9000 := Nat.lt_of_lt_of_le (log_lt (k := 180) (by omega) (by omega)) (by omega)
  simp only [varP_fz, varP_ow, getP_some, blP_b, flP_nx, flP_bk, flP_ct, flP_rt, retP_some, parP_2, ownP_some, ownLP_some, setKP_int, loP_nx, loP_ct, loP_bk, loP_rt, oo_some, oo_none, oo_map, oo_bind, oo_if, ↓ho_bindM, ↓ho_pureM, ↓ho_liftM, ↓ho_cM, ↓ho_bin, ↓ho_una, ↓ho_varM, ↓ho_getM, ↓ho_nilM, ↓ho_consM, ↓ho_tupM, ↓ho_lstM, ↓ho_callM, ↓ho_boolM, ↓ho_testM, ↓ho_notM, ↓ho_ite, ↓ho_andM, ↓ho_orM, ↓ho_blM, ↓ho_andV, ↓ho_orV, ↓ho_notV, ↓ho_ifM, ↓ho_chainM, ↓ho_chain3M, ↓ho_ixVM, ↓ho_partM, ↓ho_sliceM, ↓ho_seqM, ↓ho_rngM, ↓ho_putM, ↓ho_putO, ↓ho_gsNil, ↓ho_gsCons, ↓ho_tupG, ↓ho_yesM, ↓ho_wipeM, ↓ho_seqS, ↓ho_dropS, ↓ho_retS, ↓ho_retF, ↓ho_retV, ↓ho_setS, ↓ho_asgS, ↓ho_parS, ↓ho_ifS, ↓ho_ownM, ↓ho_ownL, ↓ho_appendM, ↓ho_setLS, ↓ho_callRM, ↓ho_forS, ↓ho_lcM, ↓ho_lc2M, rtP_rt, rtP_nx, rmP_rt, rmP_nx, sl_fz, sl_ow, o_add, o_addT, o_addL, o_addS, o_sub, o_mul, o_fdiv, o_mod, o_pow, o_neg, o_cmp, o_eq, o_ne, o_eqS, o_neS, o_lenL, o_lenT, o_min, o_max, o_toInt, o_tupL, o_tupT, o_lstL, o_lstT, o_seqL, o_seqT, o_part, o_slL, o_slT, o_memL, o_memT, o_ixL, o_ixT, o_rng1, o_rng2, o_enum, ↓ho_peekM, fl_int, fl_str, fl_bool, List.getElem?_cons_zero, List.getElem?_cons_succ, List.set_cons_zero, List.set_cons_succ, List.length_cons, List.length_nil, decide_eq_true_eq, true_and, and_true, Bool.not_true, Bool.not_false, if_true, if_false, ↓reduceIte, Bool.false_eq_true, Nat.reduceAdd, Int.reduceToNat, Int.reducePow, Int.reduceAdd, Int.reduceSub, Int.reduceNeg, Int.reduceMul, Int.reduceDiv, Int.reduceMod, Int.reduceLT, Int.reduceLE, Nat.reduceLeDiff, Nat.reduceEqDiff, decide_true, decide_false, and_self, wipeR, restR, List.getD_cons_succ, List.getD_cons_zero]
  exact ⟨lg (by omega) (by omega), ⟨by omega, k2⟩, lg (by omega) (by omega), ⟨by omega, k2⟩, by decide, q⟩
theorem repr_pair {a b : Int} (ha : a.natAbs < 2 ^ 200) (hb : b.natAbs < 2 ^ 200) : reprD [.tuple [.int a, .int b]] = some (.fz (.str (PyData.tuple [.int a, .int b]).shown)) := by
  have := log2_le (n := a.natAbs) (k := 200) (by omega)
  have := log2_le (n := b.natAbs) (k := 200) (by omega)
  refine repr_tuple rfl rfl ?_ (by show (0 : Nat) < 60; omega) ?_
  · simp only [PyData.showableAll, PyData.showable, Bool.and_true, Bool.and_eq_true, decide_eq_true_eq]; omega
  · simp only [widAll, wid, sizeLine]; omega
theorem in_two {d a b : Int} {Φ : Sl → Prop} (h : d = a ∨ d = b) (q : Φ (.fz (.bool false))) : Oo (notInD (.int d) (.list [.int a, .int b])) Φ := by
  have e : notInD (.int d) (.list [.int a, .int b]) = some (.fz (.bool (!([PyData.int a, .int b].any fun z => PyData.eqv z (.int d))))) := rfl
  rw [e, oo_some]
  have e2 : ([PyData.int a, .int b].any fun z => PyData.eqv z (.int d)) = true := by
    simp only [List.any_cons, List.any_nil, PyData.eqv, Bool.or_eq_true, beq_iff_eq]
    rcases h with h | h
    · exact .inl h.symm
    · exact .inr (.inl h.symm)
  rw [e2]; exact q
theorem bb {n : Int} (h : n.natAbs < 2 ^ 200) : n.natAbs.log2 < 9000 := Nat.lt_of_lt_of_le (log_lt (k := 200) (by omega) (by omega)) (by omega)
theorem at2 (x y : D) : atI [x, y] 0 = some x ∧ atI [x, y] 1 = some y := ⟨rfl, rfl⟩
theorem join {c : Prop} [Decidable c] {X Y : Prop} (hy : Y) (h : Y → c → X) : if c then X else Y := by
  by_cases hc : c
  · rw [if_pos hc]; exact h hy hc
  · rw [if_neg hc]; exact hy
theorem pieces_ok {m : Nat} {d : D} {n k : Int} {Φ : Sl × D → Prop} (hp : PenOk m d) (hm : m < 2 ^ 19) (n0 : 0 ≤ n) (n1 : n < 2 ^ 140) (k0 : 1 ≤ k) (k1 : k < 2 ^ 140)
    (q : ∀ d', PenOk (m + 16) d' → Φ (.fz (.bool true), d')) : Oo (F__law_w_pieces_right d [.int n, .int k]) Φ := by
  refine oo_runM rfl ?_
  show Ho m__law_w_pieces_right [some (.ow d), some (.fz (.int n)), some (.fz (.int k)), none, none, none, none, none, none, none, none, none, none] _
  unfold m__law_w_pieces_right
  simp only [varP_fz, varP_ow, getP_some, blP_b, flP_nx, flP_bk, flP_ct, flP_rt, retP_some, parP_2, ownP_some, ownLP_some, setKP_int, loP_nx, loP_ct, loP_bk, loP_rt, oo_some, oo_none, oo_map, oo_bind, oo_if, ↓ho_bindM, ↓ho_pureM, ↓ho_liftM, ↓ho_cM, ↓ho_bin, ↓ho_una, ↓ho_varM, ↓ho_getM, ↓ho_nilM, ↓ho_consM, ↓ho_tupM, ↓ho_lstM, ↓ho_callM, ↓ho_boolM, ↓ho_testM, ↓ho_notM, ↓ho_ite, ↓ho_andM, ↓ho_orM, ↓ho_blM, ↓ho_andV, ↓ho_orV, ↓ho_notV, ↓ho_ifM, ↓ho_chainM, ↓ho_chain3M, ↓ho_ixVM, ↓ho_partM, ↓ho_sliceM, ↓ho_seqM, ↓ho_rngM, ↓ho_putM, ↓ho_putO, ↓ho_gsNil, ↓ho_gsCons, ↓ho_tupG, ↓ho_yesM, ↓ho_wipeM, ↓ho_seqS, ↓ho_dropS, ↓ho_retS, ↓ho_retF, ↓ho_retV, ↓ho_setS, ↓ho_asgS, ↓ho_parS, ↓ho_ifS, ↓ho_ownM, ↓ho_ownL, ↓ho_appendM, ↓ho_setLS, ↓ho_callRM, ↓ho_forS, ↓ho_lcM, ↓ho_lc2M, rtP_rt, rtP_nx, rmP_rt, rmP_nx, sl_fz, sl_ow, o_add, o_addT, o_addL, o_addS, o_sub, o_mul, o_fdiv, o_mod, o_pow, o_neg, o_cmp, o_eq, o_ne, o_eqS, o_neS, o_lenL, o_lenT, o_min, o_max, o_toInt, o_tupL, o_tupT, o_lstL, o_lstT, o_seqL, o_seqT, o_part, o_slL, o_slT, o_memL, o_memT, o_ixL, o_ixT, o_rng1, o_rng2, o_enum, ↓ho_peekM, fl_int, fl_str, fl_bool, List.getElem?_cons_zero, List.getElem?_cons_succ, List.set_cons_zero, List.set_cons_succ, List.length_cons, List.length_nil, decide_eq_true_eq, true_and, and_true, Bool.not_true, Bool.not_false, if_true, if_false, ↓reduceIte, Bool.false_eq_true, Nat.reduceAdd, Int.reduceToNat, Int.reducePow, Int.reduceAdd, Int.reduceSub, Int.reduceNeg, Int.reduceMul, Int.reduceDiv, Int.reduceMod, Int.reduceLT, Int.reduceLE, Nat.reduceLeDiff, Nat.reduceEqDiff, decide_true, decide_false, and_self, wipeR, restR, List.getD_cons_succ, List.getD_cons_zero]
  refine piece_ok n0 (by omega) k0 (by omega) (by omega) (by omega) ?_
  simp only [varP_fz, varP_ow, getP_some, blP_b, flP_nx, flP_bk, flP_ct, flP_rt, retP_some, parP_2, ownP_some, ownLP_some, setKP_int, loP_nx, loP_ct, loP_bk, loP_rt, oo_some, oo_none, oo_map, oo_bind, oo_if, ↓ho_bindM, ↓ho_pureM, ↓ho_liftM, ↓ho_cM, ↓ho_bin, ↓ho_una, ↓ho_varM, ↓ho_getM, ↓ho_nilM, ↓ho_consM, ↓ho_tupM, ↓ho_lstM, ↓ho_callM, ↓ho_boolM, ↓ho_testM, ↓ho_notM, ↓ho_ite, ↓ho_andM, ↓ho_orM, ↓ho_blM, ↓ho_andV, ↓ho_orV, ↓ho_notV, ↓ho_ifM, ↓ho_chainM, ↓ho_chain3M, ↓ho_ixVM, ↓ho_partM, ↓ho_sliceM, ↓ho_seqM, ↓ho_rngM, ↓ho_putM, ↓ho_putO, ↓ho_gsNil, ↓ho_gsCons, ↓ho_tupG, ↓ho_yesM, ↓ho_wipeM, ↓ho_seqS, ↓ho_dropS, ↓ho_retS, ↓ho_retF, ↓ho_retV, ↓ho_setS, ↓ho_asgS, ↓ho_parS, ↓ho_ifS, ↓ho_ownM, ↓ho_ownL, ↓ho_appendM, ↓ho_setLS, ↓ho_callRM, ↓ho_forS, ↓ho_lcM, ↓ho_lc2M, rtP_rt, rtP_nx, rmP_rt, rmP_nx, sl_fz, sl_ow, o_add, o_addT, o_addL, o_addS, o_sub, o_mul, o_fdiv, o_mod, o_pow, o_neg, o_cmp, o_eq, o_ne, o_eqS, o_neS, o_lenL, o_lenT, o_min, o_max, o_toInt, o_tupL, o_tupT, o_lstL, o_lstT, o_seqL, o_seqT, o_part, o_slL, o_slT, o_memL, o_memT, o_ixL, o_ixT, o_rng1, o_rng2, o_enum, ↓ho_peekM, fl_int, fl_str, fl_bool, List.getElem?_cons_zero, List.getElem?_cons_succ, List.set_cons_zero, List.set_cons_succ, List.length_cons, List.length_nil, decide_eq_true_eq, true_and, and_true, Bool.not_true, Bool.not_false, if_true, if_false, ↓reduceIte, Bool.false_eq_true, Nat.reduceAdd, Int.reduceToNat, Int.reducePow, Int.reduceAdd, Int.reduceSub, Int.reduceNeg, Int.reduceMul, Int.reduceDiv, Int.reduceMod, Int.reduceLT, Int.reduceLE, Nat.reduceLeDiff, Nat.reduceEqDiff, decide_true, decide_false, and_self, wipeR, restR, List.getD_cons_succ, List.getD_cons_zero, at2, piece_first, BEq.rfl]
  refine piece_ok n0 (by omega) k0 (by omega) (by omega) (by omega) ?_
  simp only [varP_fz, varP_ow, getP_some, blP_b, flP_nx, flP_bk, flP_ct, flP_rt, retP_some, parP_2, ownP_some, ownLP_some, setKP_int, loP_nx, loP_ct, loP_bk, loP_rt, oo_some, oo_none, oo_map, oo_bind, oo_if, ↓ho_bindM, ↓ho_pureM, ↓ho_liftM, ↓ho_cM, ↓ho_bin, ↓ho_una, ↓ho_varM, ↓ho_getM, ↓ho_nilM, ↓ho_consM, ↓ho_tupM, ↓ho_lstM, ↓ho_callM, ↓ho_boolM, ↓ho_testM, ↓ho_notM, ↓ho_ite, ↓ho_andM, ↓ho_orM, ↓ho_blM, ↓ho_andV, ↓ho_orV, ↓ho_notV, ↓ho_ifM, ↓ho_chainM, ↓ho_chain3M, ↓ho_ixVM, ↓ho_partM, ↓ho_sliceM, ↓ho_seqM, ↓ho_rngM, ↓ho_putM, ↓ho_putO, ↓ho_gsNil, ↓ho_gsCons, ↓ho_tupG, ↓ho_yesM, ↓ho_wipeM, ↓ho_seqS, ↓ho_dropS, ↓ho_retS, ↓ho_retF, ↓ho_retV, ↓ho_setS, ↓ho_asgS, ↓ho_parS, ↓ho_ifS, ↓ho_ownM, ↓ho_ownL, ↓ho_appendM, ↓ho_setLS, ↓ho_callRM, ↓ho_forS, ↓ho_lcM, ↓ho_lc2M, rtP_rt, rtP_nx, rmP_rt, rmP_nx, sl_fz, sl_ow, o_add, o_addT, o_addL, o_addS, o_sub, o_mul, o_fdiv, o_mod, o_pow, o_neg, o_cmp, o_eq, o_ne, o_eqS, o_neS, o_lenL, o_lenT, o_min, o_max, o_toInt, o_tupL, o_tupT, o_lstL, o_lstT, o_seqL, o_seqT, o_part, o_slL, o_slT, o_memL, o_memT, o_ixL, o_ixT, o_rng1, o_rng2, o_enum, ↓ho_peekM, fl_int, fl_str, fl_bool, List.getElem?_cons_zero, List.getElem?_cons_succ, List.set_cons_zero, List.set_cons_succ, List.length_cons, List.length_nil, decide_eq_true_eq, true_and, and_true, Bool.not_true, Bool.not_false, if_true, if_false, ↓reduceIte, Bool.false_eq_true, Nat.reduceAdd, Int.reduceToNat, Int.reducePow, Int.reduceAdd, Int.reduceSub, Int.reduceNeg, Int.reduceMul, Int.reduceDiv, Int.reduceMod, Int.reduceLT, Int.reduceLE, Nat.reduceLeDiff, Nat.reduceEqDiff, decide_true, decide_false, and_self, wipeR, restR, List.getD_cons_succ, List.getD_cons_zero, at2, piece_last (n := n) (show 0 < k by omega), BEq.rfl]
  refine ho_for_all (fun t ρ => ∃ d, PenOk (m + 4 * t) d ∧ ∃ s3 s4 s5 s6 s7 s8 s9 s10 s11 s12, ρ = [some (.ow d), some (.fz (.int n)), some (.fz (.int k)), s3, s4, s5, s6, s7, s8, s9, s10, s11, s12]) _ _ 0 _ ⟨d, hp, none, none, none, none, none, none, none, none, none, none, rfl⟩ ?_ ?_
  · rintro j x ρ1 hx ⟨d, hp, s3, s4, s5, s6, s7, s8, s9, s10, s11, s12, rfl⟩
    have hj : j < 4 := by
      have := (List.getElem?_eq_some_iff.mp hx).1
      simpa [rangeD] using this
    simp only [varP_fz, varP_ow, getP_some, blP_b, flP_nx, flP_bk, flP_ct, flP_rt, retP_some, parP_2, ownP_some, ownLP_some, setKP_int, loP_nx, loP_ct, loP_bk, loP_rt, oo_some, oo_none, oo_map, oo_bind, oo_if, ↓ho_bindM, ↓ho_pureM, ↓ho_liftM, ↓ho_cM, ↓ho_bin, ↓ho_una, ↓ho_varM, ↓ho_getM, ↓ho_nilM, ↓ho_consM, ↓ho_tupM, ↓ho_lstM, ↓ho_callM, ↓ho_boolM, ↓ho_testM, ↓ho_notM, ↓ho_ite, ↓ho_andM, ↓ho_orM, ↓ho_blM, ↓ho_andV, ↓ho_orV, ↓ho_notV, ↓ho_ifM, ↓ho_chainM, ↓ho_chain3M, ↓ho_ixVM, ↓ho_partM, ↓ho_sliceM, ↓ho_seqM, ↓ho_rngM, ↓ho_putM, ↓ho_putO, ↓ho_gsNil, ↓ho_gsCons, ↓ho_tupG, ↓ho_yesM, ↓ho_wipeM, ↓ho_seqS, ↓ho_dropS, ↓ho_retS, ↓ho_retF, ↓ho_retV, ↓ho_setS, ↓ho_asgS, ↓ho_parS, ↓ho_ifS, ↓ho_ownM, ↓ho_ownL, ↓ho_appendM, ↓ho_setLS, ↓ho_callRM, ↓ho_forS, ↓ho_lcM, ↓ho_lc2M, rtP_rt, rtP_nx, rmP_rt, rmP_nx, sl_fz, sl_ow, o_add, o_addT, o_addL, o_addS, o_sub, o_mul, o_fdiv, o_mod, o_pow, o_neg, o_cmp, o_eq, o_ne, o_eqS, o_neS, o_lenL, o_lenT, o_min, o_max, o_toInt, o_tupL, o_tupT, o_lstL, o_lstT, o_seqL, o_seqT, o_part, o_slL, o_slT, o_memL, o_memT, o_ixL, o_ixT, o_rng1, o_rng2, o_enum, ↓ho_peekM, fl_int, fl_str, fl_bool, List.getElem?_cons_zero, List.getElem?_cons_succ, List.set_cons_zero, List.set_cons_succ, List.length_cons, List.length_nil, decide_eq_true_eq, true_and, and_true, Bool.not_true, Bool.not_false, if_true, if_false, ↓reduceIte, Bool.false_eq_true, Nat.reduceAdd, Int.reduceToNat, Int.reducePow, Int.reduceAdd, Int.reduceSub, Int.reduceNeg, Int.reduceMul, Int.reduceDiv, Int.reduceMod, Int.reduceLT, Int.reduceLE, Nat.reduceLeDiff, Nat.reduceEqDiff, decide_true, decide_false, and_self, wipeR, restR, List.getD_cons_succ, List.getD_cons_zero]
    refine take_ok hp (by omega) (by omega) (bb (by omega)) fun i d i0 i1 hp => ?_
    simp only [varP_fz, varP_ow, getP_some, blP_b, flP_nx, flP_bk, flP_ct, flP_rt, retP_some, parP_2, ownP_some, ownLP_some, setKP_int, loP_nx, loP_ct, loP_bk, loP_rt, oo_some, oo_none, oo_map, oo_bind, oo_if, ↓ho_bindM, ↓ho_pureM, ↓ho_liftM, ↓ho_cM, ↓ho_bin, ↓ho_una, ↓ho_varM, ↓ho_getM, ↓ho_nilM, ↓ho_consM, ↓ho_tupM, ↓ho_lstM, ↓ho_callM, ↓ho_boolM, ↓ho_testM, ↓ho_notM, ↓ho_ite, ↓ho_andM, ↓ho_orM, ↓ho_blM, ↓ho_andV, ↓ho_orV, ↓ho_notV, ↓ho_ifM, ↓ho_chainM, ↓ho_chain3M, ↓ho_ixVM, ↓ho_partM, ↓ho_sliceM, ↓ho_seqM, ↓ho_rngM, ↓ho_putM, ↓ho_putO, ↓ho_gsNil, ↓ho_gsCons, ↓ho_tupG, ↓ho_yesM, ↓ho_wipeM, ↓ho_seqS, ↓ho_dropS, ↓ho_retS, ↓ho_retF, ↓ho_retV, ↓ho_setS, ↓ho_asgS, ↓ho_parS, ↓ho_ifS, ↓ho_ownM, ↓ho_ownL, ↓ho_appendM, ↓ho_setLS, ↓ho_callRM, ↓ho_forS, ↓ho_lcM, ↓ho_lc2M, rtP_rt, rtP_nx, rmP_rt, rmP_nx, sl_fz, sl_ow, o_add, o_addT, o_addL, o_addS, o_sub, o_mul, o_fdiv, o_mod, o_pow, o_neg, o_cmp, o_eq, o_ne, o_eqS, o_neS, o_lenL, o_lenT, o_min, o_max, o_toInt, o_tupL, o_tupT, o_lstL, o_lstT, o_seqL, o_seqT, o_part, o_slL, o_slT, o_memL, o_memT, o_ixL, o_ixT, o_rng1, o_rng2, o_enum, ↓ho_peekM, fl_int, fl_str, fl_bool, List.getElem?_cons_zero, List.getElem?_cons_succ, List.set_cons_zero, List.set_cons_succ, List.length_cons, List.length_nil, decide_eq_true_eq, true_and, and_true, Bool.not_true, Bool.not_false, if_true, if_false, ↓reduceIte, Bool.false_eq_true, Nat.reduceAdd, Int.reduceToNat, Int.reducePow, Int.reduceAdd, Int.reduceSub, Int.reduceNeg, Int.reduceMul, Int.reduceDiv, Int.reduceMod, Int.reduceLT, Int.reduceLE, Nat.reduceLeDiff, Nat.reduceEqDiff, decide_true, decide_false, and_self, wipeR, restR, List.getD_cons_succ, List.getD_cons_zero]
    refine piece_ok n0 (by omega) k0 (by omega) i0 (by omega) ?_
    have p1 := piece_bd (n := n) (k := k) (i := i) n0 (by omega) (by omega) (by omega)
    have p2 := piece_bd (n := n) (k := k) (i := i + 1) n0 (by omega) (by omega) (by omega)
    have rp := repr_pair (a := i * n / k) (b := (i + 1) * n / k) (by omega) (by omega)
    have ps := piece_size (n := n) (k := k) (i := i) (by omega)
    simp only [varP_fz, varP_ow, getP_some, blP_b, flP_nx, flP_bk, flP_ct, flP_rt, retP_some, parP_2, ownP_some, ownLP_some, setKP_int, loP_nx, loP_ct, loP_bk, loP_rt, oo_some, oo_none, oo_map, oo_bind, oo_if, ↓ho_bindM, ↓ho_pureM, ↓ho_liftM, ↓ho_cM, ↓ho_bin, ↓ho_una, ↓ho_varM, ↓ho_getM, ↓ho_nilM, ↓ho_consM, ↓ho_tupM, ↓ho_lstM, ↓ho_callM, ↓ho_boolM, ↓ho_testM, ↓ho_notM, ↓ho_ite, ↓ho_andM, ↓ho_orM, ↓ho_blM, ↓ho_andV, ↓ho_orV, ↓ho_notV, ↓ho_ifM, ↓ho_chainM, ↓ho_chain3M, ↓ho_ixVM, ↓ho_partM, ↓ho_sliceM, ↓ho_seqM, ↓ho_rngM, ↓ho_putM, ↓ho_putO, ↓ho_gsNil, ↓ho_gsCons, ↓ho_tupG, ↓ho_yesM, ↓ho_wipeM, ↓ho_seqS, ↓ho_dropS, ↓ho_retS, ↓ho_retF, ↓ho_retV, ↓ho_setS, ↓ho_asgS, ↓ho_parS, ↓ho_ifS, ↓ho_ownM, ↓ho_ownL, ↓ho_appendM, ↓ho_setLS, ↓ho_callRM, ↓ho_forS, ↓ho_lcM, ↓ho_lc2M, rtP_rt, rtP_nx, rmP_rt, rmP_nx, sl_fz, sl_ow, o_add, o_addT, o_addL, o_addS, o_sub, o_mul, o_fdiv, o_mod, o_pow, o_neg, o_cmp, o_eq, o_ne, o_eqS, o_neS, o_lenL, o_lenT, o_min, o_max, o_toInt, o_tupL, o_tupT, o_lstL, o_lstT, o_seqL, o_seqT, o_part, o_slL, o_slT, o_memL, o_memT, o_ixL, o_ixT, o_rng1, o_rng2, o_enum, ↓ho_peekM, fl_int, fl_str, fl_bool, List.getElem?_cons_zero, List.getElem?_cons_succ, List.set_cons_zero, List.set_cons_succ, List.length_cons, List.length_nil, decide_eq_true_eq, true_and, and_true, Bool.not_true, Bool.not_false, if_true, if_false, ↓reduceIte, Bool.false_eq_true, Nat.reduceAdd, Int.reduceToNat, Int.reducePow, Int.reduceAdd, Int.reduceSub, Int.reduceNeg, Int.reduceMul, Int.reduceDiv, Int.reduceMod, Int.reduceLT, Int.reduceLE, Nat.reduceLeDiff, Nat.reduceEqDiff, decide_true, decide_false, and_self, wipeR, restR, List.getD_cons_succ, List.getD_cons_zero, rp]
    refine ⟨lg (by omega) (by omega), ⟨by omega, bb (by omega)⟩, lg (by omega) (by omega), ⟨by omega, bb (by omega)⟩, by decide, ?_⟩
    simp only [varP_fz, varP_ow, getP_some, blP_b, flP_nx, flP_bk, flP_ct, flP_rt, retP_some, parP_2, ownP_some, ownLP_some, setKP_int, loP_nx, loP_ct, loP_bk, loP_rt, oo_some, oo_none, oo_map, oo_bind, oo_if, ↓ho_bindM, ↓ho_pureM, ↓ho_liftM, ↓ho_cM, ↓ho_bin, ↓ho_una, ↓ho_varM, ↓ho_getM, ↓ho_nilM, ↓ho_consM, ↓ho_tupM, ↓ho_lstM, ↓ho_callM, ↓ho_boolM, ↓ho_testM, ↓ho_notM, ↓ho_ite, ↓ho_andM, ↓ho_orM, ↓ho_blM, ↓ho_andV, ↓ho_orV, ↓ho_notV, ↓ho_ifM, ↓ho_chainM, ↓ho_chain3M, ↓ho_ixVM, ↓ho_partM, ↓ho_sliceM, ↓ho_seqM, ↓ho_rngM, ↓ho_putM, ↓ho_putO, ↓ho_gsNil, ↓ho_gsCons, ↓ho_tupG, ↓ho_yesM, ↓ho_wipeM, ↓ho_seqS, ↓ho_dropS, ↓ho_retS, ↓ho_retF, ↓ho_retV, ↓ho_setS, ↓ho_asgS, ↓ho_parS, ↓ho_ifS, ↓ho_ownM, ↓ho_ownL, ↓ho_appendM, ↓ho_setLS, ↓ho_callRM, ↓ho_forS, ↓ho_lcM, ↓ho_lc2M, rtP_rt, rtP_nx, rmP_rt, rmP_nx, sl_fz, sl_ow, o_add, o_addT, o_addL, o_addS, o_sub, o_mul, o_fdiv, o_mod, o_pow, o_neg, o_cmp, o_eq, o_ne, o_eqS, o_neS, o_lenL, o_lenT, o_min, o_max, o_toInt, o_tupL, o_tupT, o_lstL, o_lstT, o_seqL, o_seqT, o_part, o_slL, o_slT, o_memL, o_memT, o_ixL, o_ixT, o_rng1, o_rng2, o_enum, ↓ho_peekM, fl_int, fl_str, fl_bool, List.getElem?_cons_zero, List.getElem?_cons_succ, List.set_cons_zero, List.set_cons_succ, List.length_cons, List.length_nil, decide_eq_true_eq, true_and, and_true, Bool.not_true, Bool.not_false, if_true, if_false, ↓reduceIte, Bool.false_eq_true, Nat.reduceAdd, Int.reduceToNat, Int.reducePow, Int.reduceAdd, Int.reduceSub, Int.reduceNeg, Int.reduceMul, Int.reduceDiv, Int.reduceMod, Int.reduceLT, Int.reduceLE, Nat.reduceLeDiff, Nat.reduceEqDiff, decide_true, decide_false, and_self, wipeR, restR, List.getD_cons_succ, List.getD_cons_zero, rp, at2]
    refine ⟨⟨by omega, bb (by omega)⟩, ⟨by omega, bb (by omega)⟩, by decide, in_two ps ?_⟩
    simp only [varP_fz, varP_ow, getP_some, blP_b, flP_nx, flP_bk, flP_ct, flP_rt, retP_some, parP_2, ownP_some, ownLP_some, setKP_int, loP_nx, loP_ct, loP_bk, loP_rt, oo_some, oo_none, oo_map, oo_bind, oo_if, ↓ho_bindM, ↓ho_pureM, ↓ho_liftM, ↓ho_cM, ↓ho_bin, ↓ho_una, ↓ho_varM, ↓ho_getM, ↓ho_nilM, ↓ho_consM, ↓ho_tupM, ↓ho_lstM, ↓ho_callM, ↓ho_boolM, ↓ho_testM, ↓ho_notM, ↓ho_ite, ↓ho_andM, ↓ho_orM, ↓ho_blM, ↓ho_andV, ↓ho_orV, ↓ho_notV, ↓ho_ifM, ↓ho_chainM, ↓ho_chain3M, ↓ho_ixVM, ↓ho_partM, ↓ho_sliceM, ↓ho_seqM, ↓ho_rngM, ↓ho_putM, ↓ho_putO, ↓ho_gsNil, ↓ho_gsCons, ↓ho_tupG, ↓ho_yesM, ↓ho_wipeM, ↓ho_seqS, ↓ho_dropS, ↓ho_retS, ↓ho_retF, ↓ho_retV, ↓ho_setS, ↓ho_asgS, ↓ho_parS, ↓ho_ifS, ↓ho_ownM, ↓ho_ownL, ↓ho_appendM, ↓ho_setLS, ↓ho_callRM, ↓ho_forS, ↓ho_lcM, ↓ho_lc2M, rtP_rt, rtP_nx, rmP_rt, rmP_nx, sl_fz, sl_ow, o_add, o_addT, o_addL, o_addS, o_sub, o_mul, o_fdiv, o_mod, o_pow, o_neg, o_cmp, o_eq, o_ne, o_eqS, o_neS, o_lenL, o_lenT, o_min, o_max, o_toInt, o_tupL, o_tupT, o_lstL, o_lstT, o_seqL, o_seqT, o_part, o_slL, o_slT, o_memL, o_memT, o_ixL, o_ixT, o_rng1, o_rng2, o_enum, ↓ho_peekM, fl_int, fl_str, fl_bool, List.getElem?_cons_zero, List.getElem?_cons_succ, List.set_cons_zero, List.set_cons_succ, List.length_cons, List.length_nil, decide_eq_true_eq, true_and, and_true, Bool.not_true, Bool.not_false, if_true, if_false, ↓reduceIte, Bool.false_eq_true, Nat.reduceAdd, Int.reduceToNat, Int.reducePow, Int.reduceAdd, Int.reduceSub, Int.reduceNeg, Int.reduceMul, Int.reduceDiv, Int.reduceMod, Int.reduceLT, Int.reduceLE, Nat.reduceLeDiff, Nat.reduceEqDiff, decide_true, decide_false, and_self, wipeR, restR, List.getD_cons_succ, List.getD_cons_zero]
    refine join ?_ fun hy hi => ?_
    · by_cases hn : 0 < n
      · simp only [varP_fz, varP_ow, getP_some, blP_b, flP_nx, flP_bk, flP_ct, flP_rt, retP_some, parP_2, ownP_some, ownLP_some, setKP_int, loP_nx, loP_ct, loP_bk, loP_rt, oo_some, oo_none, oo_map, oo_bind, oo_if, ↓ho_bindM, ↓ho_pureM, ↓ho_liftM, ↓ho_cM, ↓ho_bin, ↓ho_una, ↓ho_varM, ↓ho_getM, ↓ho_nilM, ↓ho_consM, ↓ho_tupM, ↓ho_lstM, ↓ho_callM, ↓ho_boolM, ↓ho_testM, ↓ho_notM, ↓ho_ite, ↓ho_andM, ↓ho_orM, ↓ho_blM, ↓ho_andV, ↓ho_orV, ↓ho_notV, ↓ho_ifM, ↓ho_chainM, ↓ho_chain3M, ↓ho_ixVM, ↓ho_partM, ↓ho_sliceM, ↓ho_seqM, ↓ho_rngM, ↓ho_putM, ↓ho_putO, ↓ho_gsNil, ↓ho_gsCons, ↓ho_tupG, ↓ho_yesM, ↓ho_wipeM, ↓ho_seqS, ↓ho_dropS, ↓ho_retS, ↓ho_retF, ↓ho_retV, ↓ho_setS, ↓ho_asgS, ↓ho_parS, ↓ho_ifS, ↓ho_ownM, ↓ho_ownL, ↓ho_appendM, ↓ho_setLS, ↓ho_callRM, ↓ho_forS, ↓ho_lcM, ↓ho_lc2M, rtP_rt, rtP_nx, rmP_rt, rmP_nx, sl_fz, sl_ow, o_add, o_addT, o_addL, o_addS, o_sub, o_mul, o_fdiv, o_mod, o_pow, o_neg, o_cmp, o_eq, o_ne, o_eqS, o_neS, o_lenL, o_lenT, o_min, o_max, o_toInt, o_tupL, o_tupT, o_lstL, o_lstT, o_seqL, o_seqT, o_part, o_slL, o_slT, o_memL, o_memT, o_ixL, o_ixT, o_rng1, o_rng2, o_enum, ↓ho_peekM, fl_int, fl_str, fl_bool, List.getElem?_cons_zero, List.getElem?_cons_succ, List.set_cons_zero, List.set_cons_succ, List.length_cons, List.length_nil, decide_eq_true_eq, true_and, and_true, Bool.not_true, Bool.not_false, if_true, if_false, ↓reduceIte, Bool.false_eq_true, Nat.reduceAdd, Int.reduceToNat, Int.reducePow, Int.reduceAdd, Int.reduceSub, Int.reduceNeg, Int.reduceMul, Int.reduceDiv, Int.reduceMod, Int.reduceLT, Int.reduceLE, Nat.reduceLeDiff, Nat.reduceEqDiff, decide_true, decide_false, and_self, wipeR, restR, List.getD_cons_succ, List.getD_cons_zero, hn]
        refine take_ok hp (by omega) hn (bb (by omega)) fun x d x0 x1 hp => ?_
        simp only [varP_fz, varP_ow, getP_some, blP_b, flP_nx, flP_bk, flP_ct, flP_rt, retP_some, parP_2, ownP_some, ownLP_some, setKP_int, loP_nx, loP_ct, loP_bk, loP_rt, oo_some, oo_none, oo_map, oo_bind, oo_if, ↓ho_bindM, ↓ho_pureM, ↓ho_liftM, ↓ho_cM, ↓ho_bin, ↓ho_una, ↓ho_varM, ↓ho_getM, ↓ho_nilM, ↓ho_consM, ↓ho_tupM, ↓ho_lstM, ↓ho_callM, ↓ho_boolM, ↓ho_testM, ↓ho_notM, ↓ho_ite, ↓ho_andM, ↓ho_orM, ↓ho_blM, ↓ho_andV, ↓ho_orV, ↓ho_notV, ↓ho_ifM, ↓ho_chainM, ↓ho_chain3M, ↓ho_ixVM, ↓ho_partM, ↓ho_sliceM, ↓ho_seqM, ↓ho_rngM, ↓ho_putM, ↓ho_putO, ↓ho_gsNil, ↓ho_gsCons, ↓ho_tupG, ↓ho_yesM, ↓ho_wipeM, ↓ho_seqS, ↓ho_dropS, ↓ho_retS, ↓ho_retF, ↓ho_retV, ↓ho_setS, ↓ho_asgS, ↓ho_parS, ↓ho_ifS, ↓ho_ownM, ↓ho_ownL, ↓ho_appendM, ↓ho_setLS, ↓ho_callRM, ↓ho_forS, ↓ho_lcM, ↓ho_lc2M, rtP_rt, rtP_nx, rmP_rt, rmP_nx, sl_fz, sl_ow, o_add, o_addT, o_addL, o_addS, o_sub, o_mul, o_fdiv, o_mod, o_pow, o_neg, o_cmp, o_eq, o_ne, o_eqS, o_neS, o_lenL, o_lenT, o_min, o_max, o_toInt, o_tupL, o_tupT, o_lstL, o_lstT, o_seqL, o_seqT, o_part, o_slL, o_slT, o_memL, o_memT, o_ixL, o_ixT, o_rng1, o_rng2, o_enum, ↓ho_peekM, fl_int, fl_str, fl_bool, List.getElem?_cons_zero, List.getElem?_cons_succ, List.set_cons_zero, List.set_cons_succ, List.length_cons, List.length_nil, decide_eq_true_eq, true_and, and_true, Bool.not_true, Bool.not_false, if_true, if_false, ↓reduceIte, Bool.false_eq_true, Nat.reduceAdd, Int.reduceToNat, Int.reducePow, Int.reduceAdd, Int.reduceSub, Int.reduceNeg, Int.reduceMul, Int.reduceDiv, Int.reduceMod, Int.reduceLT, Int.reduceLE, Nat.reduceLeDiff, Nat.reduceEqDiff, decide_true, decide_false, and_self, wipeR, restR, List.getD_cons_succ, List.getD_cons_zero, hn]
        have q0 := place_nonneg (n := n) (k := k) (x := x) (by omega) hn x0
        have q1 := place_le (n := n) (k := k) (x := x) (by omega) hn x1
        have q2 := place_start (n := n) (k := k) (x := x) (by omega) hn
        have q3 := place_stop (n := n) (k := k) (x := x) (by omega) hn
        refine ⟨lg (by omega) (by omega), bb (by omega), ?_⟩
        generalize ((x + 1) * k - 1) / n = i at *
        have im : (if k - 1 < i then k - 1 else i) = i := if_neg (by omega)
        simp only [varP_fz, varP_ow, getP_some, blP_b, flP_nx, flP_bk, flP_ct, flP_rt, retP_some, parP_2, ownP_some, ownLP_some, setKP_int, loP_nx, loP_ct, loP_bk, loP_rt, oo_some, oo_none, oo_map, oo_bind, oo_if, ↓ho_bindM, ↓ho_pureM, ↓ho_liftM, ↓ho_cM, ↓ho_bin, ↓ho_una, ↓ho_varM, ↓ho_getM, ↓ho_nilM, ↓ho_consM, ↓ho_tupM, ↓ho_lstM, ↓ho_callM, ↓ho_boolM, ↓ho_testM, ↓ho_notM, ↓ho_ite, ↓ho_andM, ↓ho_orM, ↓ho_blM, ↓ho_andV, ↓ho_orV, ↓ho_notV, ↓ho_ifM, ↓ho_chainM, ↓ho_chain3M, ↓ho_ixVM, ↓ho_partM, ↓ho_sliceM, ↓ho_seqM, ↓ho_rngM, ↓ho_putM, ↓ho_putO, ↓ho_gsNil, ↓ho_gsCons, ↓ho_tupG, ↓ho_yesM, ↓ho_wipeM, ↓ho_seqS, ↓ho_dropS, ↓ho_retS, ↓ho_retF, ↓ho_retV, ↓ho_setS, ↓ho_asgS, ↓ho_parS, ↓ho_ifS, ↓ho_ownM, ↓ho_ownL, ↓ho_appendM, ↓ho_setLS, ↓ho_callRM, ↓ho_forS, ↓ho_lcM, ↓ho_lc2M, rtP_rt, rtP_nx, rmP_rt, rmP_nx, sl_fz, sl_ow, o_add, o_addT, o_addL, o_addS, o_sub, o_mul, o_fdiv, o_mod, o_pow, o_neg, o_cmp, o_eq, o_ne, o_eqS, o_neS, o_lenL, o_lenT, o_min, o_max, o_toInt, o_tupL, o_tupT, o_lstL, o_lstT, o_seqL, o_seqT, o_part, o_slL, o_slT, o_memL, o_memT, o_ixL, o_ixT, o_rng1, o_rng2, o_enum, ↓ho_peekM, fl_int, fl_str, fl_bool, List.getElem?_cons_zero, List.getElem?_cons_succ, List.set_cons_zero, List.set_cons_succ, List.length_cons, List.length_nil, decide_eq_true_eq, true_and, and_true, Bool.not_true, Bool.not_false, if_true, if_false, ↓reduceIte, Bool.false_eq_true, Nat.reduceAdd, Int.reduceToNat, Int.reducePow, Int.reduceAdd, Int.reduceSub, Int.reduceNeg, Int.reduceMul, Int.reduceDiv, Int.reduceMod, Int.reduceLT, Int.reduceLE, Nat.reduceLeDiff, Nat.reduceEqDiff, decide_true, decide_false, and_self, wipeR, restR, List.getD_cons_succ, List.getD_cons_zero, im]
        refine piece_ok n0 (by omega) k0 (by omega) q0 q1 ?_
        simp only [varP_fz, varP_ow, getP_some, blP_b, flP_nx, flP_bk, flP_ct, flP_rt, retP_some, parP_2, ownP_some, ownLP_some, setKP_int, loP_nx, loP_ct, loP_bk, loP_rt, oo_some, oo_none, oo_map, oo_bind, oo_if, ↓ho_bindM, ↓ho_pureM, ↓ho_liftM, ↓ho_cM, ↓ho_bin, ↓ho_una, ↓ho_varM, ↓ho_getM, ↓ho_nilM, ↓ho_consM, ↓ho_tupM, ↓ho_lstM, ↓ho_callM, ↓ho_boolM, ↓ho_testM, ↓ho_notM, ↓ho_ite, ↓ho_andM, ↓ho_orM, ↓ho_blM, ↓ho_andV, ↓ho_orV, ↓ho_notV, ↓ho_ifM, ↓ho_chainM, ↓ho_chain3M, ↓ho_ixVM, ↓ho_partM, ↓ho_sliceM, ↓ho_seqM, ↓ho_rngM, ↓ho_putM, ↓ho_putO, ↓ho_gsNil, ↓ho_gsCons, ↓ho_tupG, ↓ho_yesM, ↓ho_wipeM, ↓ho_seqS, ↓ho_dropS, ↓ho_retS, ↓ho_retF, ↓ho_retV, ↓ho_setS, ↓ho_asgS, ↓ho_parS, ↓ho_ifS, ↓ho_ownM, ↓ho_ownL, ↓ho_appendM, ↓ho_setLS, ↓ho_callRM, ↓ho_forS, ↓ho_lcM, ↓ho_lc2M, rtP_rt, rtP_nx, rmP_rt, rmP_nx, sl_fz, sl_ow, o_add, o_addT, o_addL, o_addS, o_sub, o_mul, o_fdiv, o_mod, o_pow, o_neg, o_cmp, o_eq, o_ne, o_eqS, o_neS, o_lenL, o_lenT, o_min, o_max, o_toInt, o_tupL, o_tupT, o_lstL, o_lstT, o_seqL, o_seqT, o_part, o_slL, o_slT, o_memL, o_memT, o_ixL, o_ixT, o_rng1, o_rng2, o_enum, ↓ho_peekM, fl_int, fl_str, fl_bool, List.getElem?_cons_zero, List.getElem?_cons_succ, List.set_cons_zero, List.set_cons_succ, List.length_cons, List.length_nil, decide_eq_true_eq, true_and, and_true, Bool.not_true, Bool.not_false, if_true, if_false, ↓reduceIte, Bool.false_eq_true, Nat.reduceAdd, Int.reduceToNat, Int.reducePow, Int.reduceAdd, Int.reduceSub, Int.reduceNeg, Int.reduceMul, Int.reduceDiv, Int.reduceMod, Int.reduceLT, Int.reduceLE, Nat.reduceLeDiff, Nat.reduceEqDiff, decide_true, decide_false, and_self, wipeR, restR, List.getD_cons_succ, List.getD_cons_zero, hn, q2, q3]
        refine take_ok hp (by omega) (by omega) (bb (by omega)) fun q7 d r0 r1 hp => ?_
        simp only [varP_fz, varP_ow, getP_some, blP_b, flP_nx, flP_bk, flP_ct, flP_rt, retP_some, parP_2, ownP_some, ownLP_some, setKP_int, loP_nx, loP_ct, loP_bk, loP_rt, oo_some, oo_none, oo_map, oo_bind, oo_if, ↓ho_bindM, ↓ho_pureM, ↓ho_liftM, ↓ho_cM, ↓ho_bin, ↓ho_una, ↓ho_varM, ↓ho_getM, ↓ho_nilM, ↓ho_consM, ↓ho_tupM, ↓ho_lstM, ↓ho_callM, ↓ho_boolM, ↓ho_testM, ↓ho_notM, ↓ho_ite, ↓ho_andM, ↓ho_orM, ↓ho_blM, ↓ho_andV, ↓ho_orV, ↓ho_notV, ↓ho_ifM, ↓ho_chainM, ↓ho_chain3M, ↓ho_ixVM, ↓ho_partM, ↓ho_sliceM, ↓ho_seqM, ↓ho_rngM, ↓ho_putM, ↓ho_putO, ↓ho_gsNil, ↓ho_gsCons, ↓ho_tupG, ↓ho_yesM, ↓ho_wipeM, ↓ho_seqS, ↓ho_dropS, ↓ho_retS, ↓ho_retF, ↓ho_retV, ↓ho_setS, ↓ho_asgS, ↓ho_parS, ↓ho_ifS, ↓ho_ownM, ↓ho_ownL, ↓ho_appendM, ↓ho_setLS, ↓ho_callRM, ↓ho_forS, ↓ho_lcM, ↓ho_lc2M, rtP_rt, rtP_nx, rmP_rt, rmP_nx, sl_fz, sl_ow, o_add, o_addT, o_addL, o_addS, o_sub, o_mul, o_fdiv, o_mod, o_pow, o_neg, o_cmp, o_eq, o_ne, o_eqS, o_neS, o_lenL, o_lenT, o_min, o_max, o_toInt, o_tupL, o_tupT, o_lstL, o_lstT, o_seqL, o_seqT, o_part, o_slL, o_slT, o_memL, o_memT, o_ixL, o_ixT, o_rng1, o_rng2, o_enum, ↓ho_peekM, fl_int, fl_str, fl_bool, List.getElem?_cons_zero, List.getElem?_cons_succ, List.set_cons_zero, List.set_cons_succ, List.length_cons, List.length_nil, decide_eq_true_eq, true_and, and_true, Bool.not_true, Bool.not_false, if_true, if_false, ↓reduceIte, Bool.false_eq_true, Nat.reduceAdd, Int.reduceToNat, Int.reducePow, Int.reduceAdd, Int.reduceSub, Int.reduceNeg, Int.reduceMul, Int.reduceDiv, Int.reduceMod, Int.reduceLT, Int.reduceLE, Nat.reduceLeDiff, Nat.reduceEqDiff, decide_true, decide_false, and_self, wipeR, restR, List.getD_cons_succ, List.getD_cons_zero]
        refine take_ok hp (by omega) (by omega) (bb (by omega)) fun j1 d r2 r3 hp => ?_
        simp only [varP_fz, varP_ow, getP_some, blP_b, flP_nx, flP_bk, flP_ct, flP_rt, retP_some, parP_2, ownP_some, ownLP_some, setKP_int, loP_nx, loP_ct, loP_bk, loP_rt, oo_some, oo_none, oo_map, oo_bind, oo_if, ↓ho_bindM, ↓ho_pureM, ↓ho_liftM, ↓ho_cM, ↓ho_bin, ↓ho_una, ↓ho_varM, ↓ho_getM, ↓ho_nilM, ↓ho_consM, ↓ho_tupM, ↓ho_lstM, ↓ho_callM, ↓ho_boolM, ↓ho_testM, ↓ho_notM, ↓ho_ite, ↓ho_andM, ↓ho_orM, ↓ho_blM, ↓ho_andV, ↓ho_orV, ↓ho_notV, ↓ho_ifM, ↓ho_chainM, ↓ho_chain3M, ↓ho_ixVM, ↓ho_partM, ↓ho_sliceM, ↓ho_seqM, ↓ho_rngM, ↓ho_putM, ↓ho_putO, ↓ho_gsNil, ↓ho_gsCons, ↓ho_tupG, ↓ho_yesM, ↓ho_wipeM, ↓ho_seqS, ↓ho_dropS, ↓ho_retS, ↓ho_retF, ↓ho_retV, ↓ho_setS, ↓ho_asgS, ↓ho_parS, ↓ho_ifS, ↓ho_ownM, ↓ho_ownL, ↓ho_appendM, ↓ho_setLS, ↓ho_callRM, ↓ho_forS, ↓ho_lcM, ↓ho_lc2M, rtP_rt, rtP_nx, rmP_rt, rmP_nx, sl_fz, sl_ow, o_add, o_addT, o_addL, o_addS, o_sub, o_mul, o_fdiv, o_mod, o_pow, o_neg, o_cmp, o_eq, o_ne, o_eqS, o_neS, o_lenL, o_lenT, o_min, o_max, o_toInt, o_tupL, o_tupT, o_lstL, o_lstT, o_seqL, o_seqT, o_part, o_slL, o_slT, o_memL, o_memT, o_ixL, o_ixT, o_rng1, o_rng2, o_enum, ↓ho_peekM, fl_int, fl_str, fl_bool, List.getElem?_cons_zero, List.getElem?_cons_succ, List.set_cons_zero, List.set_cons_succ, List.length_cons, List.length_nil, decide_eq_true_eq, true_and, and_true, Bool.not_true, Bool.not_false, if_true, if_false, ↓reduceIte, Bool.false_eq_true, Nat.reduceAdd, Int.reduceToNat, Int.reducePow, Int.reduceAdd, Int.reduceSub, Int.reduceNeg, Int.reduceMul, Int.reduceDiv, Int.reduceMod, Int.reduceLT, Int.reduceLE, Nat.reduceLeDiff, Nat.reduceEqDiff, decide_true, decide_false, and_self, wipeR, restR, List.getD_cons_succ, List.getD_cons_zero]
        generalize hq : 2 + q7 = qq at *
        have b1 := mul_bd (a := k) (A := 2 ^ 140) (b := qq) (B := 8) (by omega) (by omega) (by omega) (by omega)
        have b2 := mul_bd (a := i) (A := 2 ^ 140) (b := qq) (B := 8) (by omega) (by omega) (by omega) (by omega)
        have b3 := mul_bd (a := 1) (A := k) (b := qq) (B := qq) (by omega) (by omega) (by omega) (by omega)
        have b4 := inner_fit (k := k) (i := i) (q := qq) (j := j1) q1 (by omega) (by omega)
        refine ⟨lg (by omega) (by omega), lg (by omega) (by omega), ?_⟩
        refine piece_ok n0 (by omega) (by omega) (by omega) (by omega) (by omega) ?_
        have im : (if k - 1 < i then k - 1 else i) = i := if_neg (by omega)
        simp only [varP_fz, varP_ow, getP_some, blP_b, flP_nx, flP_bk, flP_ct, flP_rt, retP_some, parP_2, ownP_some, ownLP_some, setKP_int, loP_nx, loP_ct, loP_bk, loP_rt, oo_some, oo_none, oo_map, oo_bind, oo_if, ↓ho_bindM, ↓ho_pureM, ↓ho_liftM, ↓ho_cM, ↓ho_bin, ↓ho_una, ↓ho_varM, ↓ho_getM, ↓ho_nilM, ↓ho_consM, ↓ho_tupM, ↓ho_lstM, ↓ho_callM, ↓ho_boolM, ↓ho_testM, ↓ho_notM, ↓ho_ite, ↓ho_andM, ↓ho_orM, ↓ho_blM, ↓ho_andV, ↓ho_orV, ↓ho_notV, ↓ho_ifM, ↓ho_chainM, ↓ho_chain3M, ↓ho_ixVM, ↓ho_partM, ↓ho_sliceM, ↓ho_seqM, ↓ho_rngM, ↓ho_putM, ↓ho_putO, ↓ho_gsNil, ↓ho_gsCons, ↓ho_tupG, ↓ho_yesM, ↓ho_wipeM, ↓ho_seqS, ↓ho_dropS, ↓ho_retS, ↓ho_retF, ↓ho_retV, ↓ho_setS, ↓ho_asgS, ↓ho_parS, ↓ho_ifS, ↓ho_ownM, ↓ho_ownL, ↓ho_appendM, ↓ho_setLS, ↓ho_callRM, ↓ho_forS, ↓ho_lcM, ↓ho_lc2M, rtP_rt, rtP_nx, rmP_rt, rmP_nx, sl_fz, sl_ow, o_add, o_addT, o_addL, o_addS, o_sub, o_mul, o_fdiv, o_mod, o_pow, o_neg, o_cmp, o_eq, o_ne, o_eqS, o_neS, o_lenL, o_lenT, o_min, o_max, o_toInt, o_tupL, o_tupT, o_lstL, o_lstT, o_seqL, o_seqT, o_part, o_slL, o_slT, o_memL, o_memT, o_ixL, o_ixT, o_rng1, o_rng2, o_enum, ↓ho_peekM, fl_int, fl_str, fl_bool, List.getElem?_cons_zero, List.getElem?_cons_succ, List.set_cons_zero, List.set_cons_succ, List.length_cons, List.length_nil, decide_eq_true_eq, true_and, and_true, Bool.not_true, Bool.not_false, if_true, if_false, ↓reduceIte, Bool.false_eq_true, Nat.reduceAdd, Int.reduceToNat, Int.reducePow, Int.reduceAdd, Int.reduceSub, Int.reduceNeg, Int.reduceMul, Int.reduceDiv, Int.reduceMod, Int.reduceLT, Int.reduceLE, Nat.reduceLeDiff, Nat.reduceEqDiff, decide_true, decide_false, and_self, wipeR, restR, List.getD_cons_succ, List.getD_cons_zero, im]
        refine piece_ok n0 (by omega) k0 (by omega) q0 q1 ?_
        have c1 := inner_start (n := n) (k := k) (i := i) (q := qq) (j := j1) n0 (by omega) (by omega) (by omega)
        have c2 := inner_mid (n := n) (m := k * qq) (i := i * qq + j1) n0 (by omega)
        have c3 := inner_stop (n := n) (k := k) (i := i) (q := qq) (j := j1) n0 (by omega) (by omega) (by omega)
        have ik : i < k := by omega
        simp only [varP_fz, varP_ow, getP_some, blP_b, flP_nx, flP_bk, flP_ct, flP_rt, retP_some, parP_2, ownP_some, ownLP_some, setKP_int, loP_nx, loP_ct, loP_bk, loP_rt, oo_some, oo_none, oo_map, oo_bind, oo_if, ↓ho_bindM, ↓ho_pureM, ↓ho_liftM, ↓ho_cM, ↓ho_bin, ↓ho_una, ↓ho_varM, ↓ho_getM, ↓ho_nilM, ↓ho_consM, ↓ho_tupM, ↓ho_lstM, ↓ho_callM, ↓ho_boolM, ↓ho_testM, ↓ho_notM, ↓ho_ite, ↓ho_andM, ↓ho_orM, ↓ho_blM, ↓ho_andV, ↓ho_orV, ↓ho_notV, ↓ho_ifM, ↓ho_chainM, ↓ho_chain3M, ↓ho_ixVM, ↓ho_partM, ↓ho_sliceM, ↓ho_seqM, ↓ho_rngM, ↓ho_putM, ↓ho_putO, ↓ho_gsNil, ↓ho_gsCons, ↓ho_tupG, ↓ho_yesM, ↓ho_wipeM, ↓ho_seqS, ↓ho_dropS, ↓ho_retS, ↓ho_retF, ↓ho_retV, ↓ho_setS, ↓ho_asgS, ↓ho_parS, ↓ho_ifS, ↓ho_ownM, ↓ho_ownL, ↓ho_appendM, ↓ho_setLS, ↓ho_callRM, ↓ho_forS, ↓ho_lcM, ↓ho_lc2M, rtP_rt, rtP_nx, rmP_rt, rmP_nx, sl_fz, sl_ow, o_add, o_addT, o_addL, o_addS, o_sub, o_mul, o_fdiv, o_mod, o_pow, o_neg, o_cmp, o_eq, o_ne, o_eqS, o_neS, o_lenL, o_lenT, o_min, o_max, o_toInt, o_tupL, o_tupT, o_lstL, o_lstT, o_seqL, o_seqT, o_part, o_slL, o_slT, o_memL, o_memT, o_ixL, o_ixT, o_rng1, o_rng2, o_enum, ↓ho_peekM, fl_int, fl_str, fl_bool, List.getElem?_cons_zero, List.getElem?_cons_succ, List.set_cons_zero, List.set_cons_succ, List.length_cons, List.length_nil, decide_eq_true_eq, true_and, and_true, Bool.not_true, Bool.not_false, if_true, if_false, ↓reduceIte, Bool.false_eq_true, Nat.reduceAdd, Int.reduceToNat, Int.reducePow, Int.reduceAdd, Int.reduceSub, Int.reduceNeg, Int.reduceMul, Int.reduceDiv, Int.reduceMod, Int.reduceLT, Int.reduceLE, Nat.reduceLeDiff, Nat.reduceEqDiff, decide_true, decide_false, and_self, wipeR, restR, List.getD_cons_succ, List.getD_cons_zero, at2, c1, c2, c3, ik]
        exact ⟨d, hp.le (by omega), _, _, _, _, _, _, _, _, _, _, rfl⟩
      · simp only [varP_fz, varP_ow, getP_some, blP_b, flP_nx, flP_bk, flP_ct, flP_rt, retP_some, parP_2, ownP_some, ownLP_some, setKP_int, loP_nx, loP_ct, loP_bk, loP_rt, oo_some, oo_none, oo_map, oo_bind, oo_if, ↓ho_bindM, ↓ho_pureM, ↓ho_liftM, ↓ho_cM, ↓ho_bin, ↓ho_una, ↓ho_varM, ↓ho_getM, ↓ho_nilM, ↓ho_consM, ↓ho_tupM, ↓ho_lstM, ↓ho_callM, ↓ho_boolM, ↓ho_testM, ↓ho_notM, ↓ho_ite, ↓ho_andM, ↓ho_orM, ↓ho_blM, ↓ho_andV, ↓ho_orV, ↓ho_notV, ↓ho_ifM, ↓ho_chainM, ↓ho_chain3M, ↓ho_ixVM, ↓ho_partM, ↓ho_sliceM, ↓ho_seqM, ↓ho_rngM, ↓ho_putM, ↓ho_putO, ↓ho_gsNil, ↓ho_gsCons, ↓ho_tupG, ↓ho_yesM, ↓ho_wipeM, ↓ho_seqS, ↓ho_dropS, ↓ho_retS, ↓ho_retF, ↓ho_retV, ↓ho_setS, ↓ho_asgS, ↓ho_parS, ↓ho_ifS, ↓ho_ownM, ↓ho_ownL, ↓ho_appendM, ↓ho_setLS, ↓ho_callRM, ↓ho_forS, ↓ho_lcM, ↓ho_lc2M, rtP_rt, rtP_nx, rmP_rt, rmP_nx, sl_fz, sl_ow, o_add, o_addT, o_addL, o_addS, o_sub, o_mul, o_fdiv, o_mod, o_pow, o_neg, o_cmp, o_eq, o_ne, o_eqS, o_neS, o_lenL, o_lenT, o_min, o_max, o_toInt, o_tupL, o_tupT, o_lstL, o_lstT, o_seqL, o_seqT, o_part, o_slL, o_slT, o_memL, o_memT, o_ixL, o_ixT, o_rng1, o_rng2, o_enum, ↓ho_peekM, fl_int, fl_str, fl_bool, List.getElem?_cons_zero, List.getElem?_cons_succ, List.set_cons_zero, List.set_cons_succ, List.length_cons, List.length_nil, decide_eq_true_eq, true_and, and_true, Bool.not_true, Bool.not_false, if_true, if_false, ↓reduceIte, Bool.false_eq_true, Nat.reduceAdd, Int.reduceToNat, Int.reducePow, Int.reduceAdd, Int.reduceSub, Int.reduceNeg, Int.reduceMul, Int.reduceDiv, Int.reduceMod, Int.reduceLT, Int.reduceLE, Nat.reduceLeDiff, Nat.reduceEqDiff, decide_true, decide_false, and_self, wipeR, restR, List.getD_cons_succ, List.getD_cons_zero, hn]
        have q0 : (0 : Int) ≤ 0 := by omega
        have q1 : 0 ≤ k - 1 := by omega
        have im : (if k - 1 < 0 then k - 1 else 0) = 0 := if_neg (by omega)
        simp only [varP_fz, varP_ow, getP_some, blP_b, flP_nx, flP_bk, flP_ct, flP_rt, retP_some, parP_2, ownP_some, ownLP_some, setKP_int, loP_nx, loP_ct, loP_bk, loP_rt, oo_some, oo_none, oo_map, oo_bind, oo_if, ↓ho_bindM, ↓ho_pureM, ↓ho_liftM, ↓ho_cM, ↓ho_bin, ↓ho_una, ↓ho_varM, ↓ho_getM, ↓ho_nilM, ↓ho_consM, ↓ho_tupM, ↓ho_lstM, ↓ho_callM, ↓ho_boolM, ↓ho_testM, ↓ho_notM, ↓ho_ite, ↓ho_andM, ↓ho_orM, ↓ho_blM, ↓ho_andV, ↓ho_orV, ↓ho_notV, ↓ho_ifM, ↓ho_chainM, ↓ho_chain3M, ↓ho_ixVM, ↓ho_partM, ↓ho_sliceM, ↓ho_seqM, ↓ho_rngM, ↓ho_putM, ↓ho_putO, ↓ho_gsNil, ↓ho_gsCons, ↓ho_tupG, ↓ho_yesM, ↓ho_wipeM, ↓ho_seqS, ↓ho_dropS, ↓ho_retS, ↓ho_retF, ↓ho_retV, ↓ho_setS, ↓ho_asgS, ↓ho_parS, ↓ho_ifS, ↓ho_ownM, ↓ho_ownL, ↓ho_appendM, ↓ho_setLS, ↓ho_callRM, ↓ho_forS, ↓ho_lcM, ↓ho_lc2M, rtP_rt, rtP_nx, rmP_rt, rmP_nx, sl_fz, sl_ow, o_add, o_addT, o_addL, o_addS, o_sub, o_mul, o_fdiv, o_mod, o_pow, o_neg, o_cmp, o_eq, o_ne, o_eqS, o_neS, o_lenL, o_lenT, o_min, o_max, o_toInt, o_tupL, o_tupT, o_lstL, o_lstT, o_seqL, o_seqT, o_part, o_slL, o_slT, o_memL, o_memT, o_ixL, o_ixT, o_rng1, o_rng2, o_enum, ↓ho_peekM, fl_int, fl_str, fl_bool, List.getElem?_cons_zero, List.getElem?_cons_succ, List.set_cons_zero, List.set_cons_succ, List.length_cons, List.length_nil, decide_eq_true_eq, true_and, and_true, Bool.not_true, Bool.not_false, if_true, if_false, ↓reduceIte, Bool.false_eq_true, Nat.reduceAdd, Int.reduceToNat, Int.reducePow, Int.reduceAdd, Int.reduceSub, Int.reduceNeg, Int.reduceMul, Int.reduceDiv, Int.reduceMod, Int.reduceLT, Int.reduceLE, Nat.reduceLeDiff, Nat.reduceEqDiff, decide_true, decide_false, and_self, wipeR, restR, List.getD_cons_succ, List.getD_cons_zero, im]
        refine piece_ok n0 (by omega) k0 (by omega) q0 q1 ?_
        simp only [varP_fz, varP_ow, getP_some, blP_b, flP_nx, flP_bk, flP_ct, flP_rt, retP_some, parP_2, ownP_some, ownLP_some, setKP_int, loP_nx, loP_ct, loP_bk, loP_rt, oo_some, oo_none, oo_map, oo_bind, oo_if, ↓ho_bindM, ↓ho_pureM, ↓ho_liftM, ↓ho_cM, ↓ho_bin, ↓ho_una, ↓ho_varM, ↓ho_getM, ↓ho_nilM, ↓ho_consM, ↓ho_tupM, ↓ho_lstM, ↓ho_callM, ↓ho_boolM, ↓ho_testM, ↓ho_notM, ↓ho_ite, ↓ho_andM, ↓ho_orM, ↓ho_blM, ↓ho_andV, ↓ho_orV, ↓ho_notV, ↓ho_ifM, ↓ho_chainM, ↓ho_chain3M, ↓ho_ixVM, ↓ho_partM, ↓ho_sliceM, ↓ho_seqM, ↓ho_rngM, ↓ho_putM, ↓ho_putO, ↓ho_gsNil, ↓ho_gsCons, ↓ho_tupG, ↓ho_yesM, ↓ho_wipeM, ↓ho_seqS, ↓ho_dropS, ↓ho_retS, ↓ho_retF, ↓ho_retV, ↓ho_setS, ↓ho_asgS, ↓ho_parS, ↓ho_ifS, ↓ho_ownM, ↓ho_ownL, ↓ho_appendM, ↓ho_setLS, ↓ho_callRM, ↓ho_forS, ↓ho_lcM, ↓ho_lc2M, rtP_rt, rtP_nx, rmP_rt, rmP_nx, sl_fz, sl_ow, o_add, o_addT, o_addL, o_addS, o_sub, o_mul, o_fdiv, o_mod, o_pow, o_neg, o_cmp, o_eq, o_ne, o_eqS, o_neS, o_lenL, o_lenT, o_min, o_max, o_toInt, o_tupL, o_tupT, o_lstL, o_lstT, o_seqL, o_seqT, o_part, o_slL, o_slT, o_memL, o_memT, o_ixL, o_ixT, o_rng1, o_rng2, o_enum, ↓ho_peekM, fl_int, fl_str, fl_bool, List.getElem?_cons_zero, List.getElem?_cons_succ, List.set_cons_zero, List.set_cons_succ, List.length_cons, List.length_nil, decide_eq_true_eq, true_and, and_true, Bool.not_true, Bool.not_false, if_true, if_false, ↓reduceIte, Bool.false_eq_true, Nat.reduceAdd, Int.reduceToNat, Int.reducePow, Int.reduceAdd, Int.reduceSub, Int.reduceNeg, Int.reduceMul, Int.reduceDiv, Int.reduceMod, Int.reduceLT, Int.reduceLE, Nat.reduceLeDiff, Nat.reduceEqDiff, decide_true, decide_false, and_self, wipeR, restR, List.getD_cons_succ, List.getD_cons_zero, hn]
        refine take_ok hp (by omega) (by omega) (bb (by omega)) fun q7 d r0 r1 hp => ?_
        simp only [varP_fz, varP_ow, getP_some, blP_b, flP_nx, flP_bk, flP_ct, flP_rt, retP_some, parP_2, ownP_some, ownLP_some, setKP_int, loP_nx, loP_ct, loP_bk, loP_rt, oo_some, oo_none, oo_map, oo_bind, oo_if, ↓ho_bindM, ↓ho_pureM, ↓ho_liftM, ↓ho_cM, ↓ho_bin, ↓ho_una, ↓ho_varM, ↓ho_getM, ↓ho_nilM, ↓ho_consM, ↓ho_tupM, ↓ho_lstM, ↓ho_callM, ↓ho_boolM, ↓ho_testM, ↓ho_notM, ↓ho_ite, ↓ho_andM, ↓ho_orM, ↓ho_blM, ↓ho_andV, ↓ho_orV, ↓ho_notV, ↓ho_ifM, ↓ho_chainM, ↓ho_chain3M, ↓ho_ixVM, ↓ho_partM, ↓ho_sliceM, ↓ho_seqM, ↓ho_rngM, ↓ho_putM, ↓ho_putO, ↓ho_gsNil, ↓ho_gsCons, ↓ho_tupG, ↓ho_yesM, ↓ho_wipeM, ↓ho_seqS, ↓ho_dropS, ↓ho_retS, ↓ho_retF, ↓ho_retV, ↓ho_setS, ↓ho_asgS, ↓ho_parS, ↓ho_ifS, ↓ho_ownM, ↓ho_ownL, ↓ho_appendM, ↓ho_setLS, ↓ho_callRM, ↓ho_forS, ↓ho_lcM, ↓ho_lc2M, rtP_rt, rtP_nx, rmP_rt, rmP_nx, sl_fz, sl_ow, o_add, o_addT, o_addL, o_addS, o_sub, o_mul, o_fdiv, o_mod, o_pow, o_neg, o_cmp, o_eq, o_ne, o_eqS, o_neS, o_lenL, o_lenT, o_min, o_max, o_toInt, o_tupL, o_tupT, o_lstL, o_lstT, o_seqL, o_seqT, o_part, o_slL, o_slT, o_memL, o_memT, o_ixL, o_ixT, o_rng1, o_rng2, o_enum, ↓ho_peekM, fl_int, fl_str, fl_bool, List.getElem?_cons_zero, List.getElem?_cons_succ, List.set_cons_zero, List.set_cons_succ, List.length_cons, List.length_nil, decide_eq_true_eq, true_and, and_true, Bool.not_true, Bool.not_false, if_true, if_false, ↓reduceIte, Bool.false_eq_true, Nat.reduceAdd, Int.reduceToNat, Int.reducePow, Int.reduceAdd, Int.reduceSub, Int.reduceNeg, Int.reduceMul, Int.reduceDiv, Int.reduceMod, Int.reduceLT, Int.reduceLE, Nat.reduceLeDiff, Nat.reduceEqDiff, decide_true, decide_false, and_self, wipeR, restR, List.getD_cons_succ, List.getD_cons_zero]
        refine take_ok hp (by omega) (by omega) (bb (by omega)) fun j1 d r2 r3 hp => ?_
        simp only [varP_fz, varP_ow, getP_some, blP_b, flP_nx, flP_bk, flP_ct, flP_rt, retP_some, parP_2, ownP_some, ownLP_some, setKP_int, loP_nx, loP_ct, loP_bk, loP_rt, oo_some, oo_none, oo_map, oo_bind, oo_if, ↓ho_bindM, ↓ho_pureM, ↓ho_liftM, ↓ho_cM, ↓ho_bin, ↓ho_una, ↓ho_varM, ↓ho_getM, ↓ho_nilM, ↓ho_consM, ↓ho_tupM, ↓ho_lstM, ↓ho_callM, ↓ho_boolM, ↓ho_testM, ↓ho_notM, ↓ho_ite, ↓ho_andM, ↓ho_orM, ↓ho_blM, ↓ho_andV, ↓ho_orV, ↓ho_notV, ↓ho_ifM, ↓ho_chainM, ↓ho_chain3M, ↓ho_ixVM, ↓ho_partM, ↓ho_sliceM, ↓ho_seqM, ↓ho_rngM, ↓ho_putM, ↓ho_putO, ↓ho_gsNil, ↓ho_gsCons, ↓ho_tupG, ↓ho_yesM, ↓ho_wipeM, ↓ho_seqS, ↓ho_dropS, ↓ho_retS, ↓ho_retF, ↓ho_retV, ↓ho_setS, ↓ho_asgS, ↓ho_parS, ↓ho_ifS, ↓ho_ownM, ↓ho_ownL, ↓ho_appendM, ↓ho_setLS, ↓ho_callRM, ↓ho_forS, ↓ho_lcM, ↓ho_lc2M, rtP_rt, rtP_nx, rmP_rt, rmP_nx, sl_fz, sl_ow, o_add, o_addT, o_addL, o_addS, o_sub, o_mul, o_fdiv, o_mod, o_pow, o_neg, o_cmp, o_eq, o_ne, o_eqS, o_neS, o_lenL, o_lenT, o_min, o_max, o_toInt, o_tupL, o_tupT, o_lstL, o_lstT, o_seqL, o_seqT, o_part, o_slL, o_slT, o_memL, o_memT, o_ixL, o_ixT, o_rng1, o_rng2, o_enum, ↓ho_peekM, fl_int, fl_str, fl_bool, List.getElem?_cons_zero, List.getElem?_cons_succ, List.set_cons_zero, List.set_cons_succ, List.length_cons, List.length_nil, decide_eq_true_eq, true_and, and_true, Bool.not_true, Bool.not_false, if_true, if_false, ↓reduceIte, Bool.false_eq_true, Nat.reduceAdd, Int.reduceToNat, Int.reducePow, Int.reduceAdd, Int.reduceSub, Int.reduceNeg, Int.reduceMul, Int.reduceDiv, Int.reduceMod, Int.reduceLT, Int.reduceLE, Nat.reduceLeDiff, Nat.reduceEqDiff, decide_true, decide_false, and_self, wipeR, restR, List.getD_cons_succ, List.getD_cons_zero]
        generalize hq : 2 + q7 = qq at *
        have b1 := mul_bd (a := k) (A := 2 ^ 140) (b := qq) (B := 8) (by omega) (by omega) (by omega) (by omega)
        have b2 := mul_bd (a := 0) (A := 2 ^ 140) (b := qq) (B := 8) (by omega) (by omega) (by omega) (by omega)
        have b3 := mul_bd (a := 1) (A := k) (b := qq) (B := qq) (by omega) (by omega) (by omega) (by omega)
        have b4 := inner_fit (k := k) (i := 0) (q := qq) (j := j1) q1 (by omega) (by omega)
        refine ⟨lg (by omega) (by omega), lg (by omega) (by omega), ?_⟩
        refine piece_ok n0 (by omega) (by omega) (by omega) (by omega) (by omega) ?_
        have im : (if k - 1 < 0 then k - 1 else 0) = 0 := if_neg (by omega)
        simp only [varP_fz, varP_ow, getP_some, blP_b, flP_nx, flP_bk, flP_ct, flP_rt, retP_some, parP_2, ownP_some, ownLP_some, setKP_int, loP_nx, loP_ct, loP_bk, loP_rt, oo_some, oo_none, oo_map, oo_bind, oo_if, ↓ho_bindM, ↓ho_pureM, ↓ho_liftM, ↓ho_cM, ↓ho_bin, ↓ho_una, ↓ho_varM, ↓ho_getM, ↓ho_nilM, ↓ho_consM, ↓ho_tupM, ↓ho_lstM, ↓ho_callM, ↓ho_boolM, ↓ho_testM, ↓ho_notM, ↓ho_ite, ↓ho_andM, ↓ho_orM, ↓ho_blM, ↓ho_andV, ↓ho_orV, ↓ho_notV, ↓ho_ifM, ↓ho_chainM, ↓ho_chain3M, ↓ho_ixVM, ↓ho_partM, ↓ho_sliceM, ↓ho_seqM, ↓ho_rngM, ↓ho_putM, ↓ho_putO, ↓ho_gsNil, ↓ho_gsCons, ↓ho_tupG, ↓ho_yesM, ↓ho_wipeM, ↓ho_seqS, ↓ho_dropS, ↓ho_retS, ↓ho_retF, ↓ho_retV, ↓ho_setS, ↓ho_asgS, ↓ho_parS, ↓ho_ifS, ↓ho_ownM, ↓ho_ownL, ↓ho_appendM, ↓ho_setLS, ↓ho_callRM, ↓ho_forS, ↓ho_lcM, ↓ho_lc2M, rtP_rt, rtP_nx, rmP_rt, rmP_nx, sl_fz, sl_ow, o_add, o_addT, o_addL, o_addS, o_sub, o_mul, o_fdiv, o_mod, o_pow, o_neg, o_cmp, o_eq, o_ne, o_eqS, o_neS, o_lenL, o_lenT, o_min, o_max, o_toInt, o_tupL, o_tupT, o_lstL, o_lstT, o_seqL, o_seqT, o_part, o_slL, o_slT, o_memL, o_memT, o_ixL, o_ixT, o_rng1, o_rng2, o_enum, ↓ho_peekM, fl_int, fl_str, fl_bool, List.getElem?_cons_zero, List.getElem?_cons_succ, List.set_cons_zero, List.set_cons_succ, List.length_cons, List.length_nil, decide_eq_true_eq, true_and, and_true, Bool.not_true, Bool.not_false, if_true, if_false, ↓reduceIte, Bool.false_eq_true, Nat.reduceAdd, Int.reduceToNat, Int.reducePow, Int.reduceAdd, Int.reduceSub, Int.reduceNeg, Int.reduceMul, Int.reduceDiv, Int.reduceMod, Int.reduceLT, Int.reduceLE, Nat.reduceLeDiff, Nat.reduceEqDiff, decide_true, decide_false, and_self, wipeR, restR, List.getD_cons_succ, List.getD_cons_zero, im]
        refine piece_ok n0 (by omega) k0 (by omega) q0 q1 ?_
        have c1 := inner_start (n := n) (k := k) (i := 0) (q := qq) (j := j1) n0 (by omega) (by omega) (by omega)
        have c2 := inner_mid (n := n) (m := k * qq) (i := 0 * qq + j1) n0 (by omega)
        have c3 : (0 * qq + j1 + 1) * n / (k * qq) ≤ 1 * n / k := inner_stop (n := n) (k := k) (i := 0) (q := qq) (j := j1) n0 (by omega) (by omega) (by omega)
        have ik : 0 < k := by omega
        simp only [varP_fz, varP_ow, getP_some, blP_b, flP_nx, flP_bk, flP_ct, flP_rt, retP_some, parP_2, ownP_some, ownLP_some, setKP_int, loP_nx, loP_ct, loP_bk, loP_rt, oo_some, oo_none, oo_map, oo_bind, oo_if, ↓ho_bindM, ↓ho_pureM, ↓ho_liftM, ↓ho_cM, ↓ho_bin, ↓ho_una, ↓ho_varM, ↓ho_getM, ↓ho_nilM, ↓ho_consM, ↓ho_tupM, ↓ho_lstM, ↓ho_callM, ↓ho_boolM, ↓ho_testM, ↓ho_notM, ↓ho_ite, ↓ho_andM, ↓ho_orM, ↓ho_blM, ↓ho_andV, ↓ho_orV, ↓ho_notV, ↓ho_ifM, ↓ho_chainM, ↓ho_chain3M, ↓ho_ixVM, ↓ho_partM, ↓ho_sliceM, ↓ho_seqM, ↓ho_rngM, ↓ho_putM, ↓ho_putO, ↓ho_gsNil, ↓ho_gsCons, ↓ho_tupG, ↓ho_yesM, ↓ho_wipeM, ↓ho_seqS, ↓ho_dropS, ↓ho_retS, ↓ho_retF, ↓ho_retV, ↓ho_setS, ↓ho_asgS, ↓ho_parS, ↓ho_ifS, ↓ho_ownM, ↓ho_ownL, ↓ho_appendM, ↓ho_setLS, ↓ho_callRM, ↓ho_forS, ↓ho_lcM, ↓ho_lc2M, rtP_rt, rtP_nx, rmP_rt, rmP_nx, sl_fz, sl_ow, o_add, o_addT, o_addL, o_addS, o_sub, o_mul, o_fdiv, o_mod, o_pow, o_neg, o_cmp, o_eq, o_ne, o_eqS, o_neS, o_lenL, o_lenT, o_min, o_max, o_toInt, o_tupL, o_tupT, o_lstL, o_lstT, o_seqL, o_seqT, o_part, o_slL, o_slT, o_memL, o_memT, o_ixL, o_ixT, o_rng1, o_rng2, o_enum, ↓ho_peekM, fl_int, fl_str, fl_bool, List.getElem?_cons_zero, List.getElem?_cons_succ, List.set_cons_zero, List.set_cons_succ, List.length_cons, List.length_nil, decide_eq_true_eq, true_and, and_true, Bool.not_true, Bool.not_false, if_true, if_false, ↓reduceIte, Bool.false_eq_true, Nat.reduceAdd, Int.reduceToNat, Int.reducePow, Int.reduceAdd, Int.reduceSub, Int.reduceNeg, Int.reduceMul, Int.reduceDiv, Int.reduceMod, Int.reduceLT, Int.reduceLE, Nat.reduceLeDiff, Nat.reduceEqDiff, decide_true, decide_false, and_self, wipeR, restR, List.getD_cons_succ, List.getD_cons_zero, at2, c1, c2, c3, ik]
        exact ⟨d, hp.le (by omega), _, _, _, _, _, _, _, _, _, _, rfl⟩
    · refine piece_ok n0 (by omega) k0 (by omega) (by omega) (by omega) ?_
      rw [show i - 1 + 1 = i by omega]
      simp only [varP_fz, varP_ow, getP_some, blP_b, flP_nx, flP_bk, flP_ct, flP_rt, retP_some, parP_2, ownP_some, ownLP_some, setKP_int, loP_nx, loP_ct, loP_bk, loP_rt, oo_some, oo_none, oo_map, oo_bind, oo_if, ↓ho_bindM, ↓ho_pureM, ↓ho_liftM, ↓ho_cM, ↓ho_bin, ↓ho_una, ↓ho_varM, ↓ho_getM, ↓ho_nilM, ↓ho_consM, ↓ho_tupM, ↓ho_lstM, ↓ho_callM, ↓ho_boolM, ↓ho_testM, ↓ho_notM, ↓ho_ite, ↓ho_andM, ↓ho_orM, ↓ho_blM, ↓ho_andV, ↓ho_orV, ↓ho_notV, ↓ho_ifM, ↓ho_chainM, ↓ho_chain3M, ↓ho_ixVM, ↓ho_partM, ↓ho_sliceM, ↓ho_seqM, ↓ho_rngM, ↓ho_putM, ↓ho_putO, ↓ho_gsNil, ↓ho_gsCons, ↓ho_tupG, ↓ho_yesM, ↓ho_wipeM, ↓ho_seqS, ↓ho_dropS, ↓ho_retS, ↓ho_retF, ↓ho_retV, ↓ho_setS, ↓ho_asgS, ↓ho_parS, ↓ho_ifS, ↓ho_ownM, ↓ho_ownL, ↓ho_appendM, ↓ho_setLS, ↓ho_callRM, ↓ho_forS, ↓ho_lcM, ↓ho_lc2M, rtP_rt, rtP_nx, rmP_rt, rmP_nx, sl_fz, sl_ow, o_add, o_addT, o_addL, o_addS, o_sub, o_mul, o_fdiv, o_mod, o_pow, o_neg, o_cmp, o_eq, o_ne, o_eqS, o_neS, o_lenL, o_lenT, o_min, o_max, o_toInt, o_tupL, o_tupT, o_lstL, o_lstT, o_seqL, o_seqT, o_part, o_slL, o_slT, o_memL, o_memT, o_ixL, o_ixT, o_rng1, o_rng2, o_enum, ↓ho_peekM, fl_int, fl_str, fl_bool, List.getElem?_cons_zero, List.getElem?_cons_succ, List.set_cons_zero, List.set_cons_succ, List.length_cons, List.length_nil, decide_eq_true_eq, true_and, and_true, Bool.not_true, Bool.not_false, if_true, if_false, ↓reduceIte, Bool.false_eq_true, Nat.reduceAdd, Int.reduceToNat, Int.reducePow, Int.reduceAdd, Int.reduceSub, Int.reduceNeg, Int.reduceMul, Int.reduceDiv, Int.reduceMod, Int.reduceLT, Int.reduceLE, Nat.reduceLeDiff, Nat.reduceEqDiff, decide_true, decide_false, and_self, wipeR, restR, List.getD_cons_succ, List.getD_cons_zero, at2, BEq.rfl]
      exact hy
  · rintro ρ1 ⟨d, hp, s3, s4, s5, s6, s7, s8, s9, s10, s11, s12, rfl⟩
    simp only [varP_fz, varP_ow, getP_some, blP_b, flP_nx, flP_bk, flP_ct, flP_rt, retP_some, parP_2, ownP_some, ownLP_some, setKP_int, loP_nx, loP_ct, loP_bk, loP_rt, oo_some, oo_none, oo_map, oo_bind, oo_if, ↓ho_bindM, ↓ho_pureM, ↓ho_liftM, ↓ho_cM, ↓ho_bin, ↓ho_una, ↓ho_varM, ↓ho_getM, ↓ho_nilM, ↓ho_consM, ↓ho_tupM, ↓ho_lstM, ↓ho_callM, ↓ho_boolM, ↓ho_testM, ↓ho_notM, ↓ho_ite, ↓ho_andM, ↓ho_orM, ↓ho_blM, ↓ho_andV, ↓ho_orV, ↓ho_notV, ↓ho_ifM, ↓ho_chainM, ↓ho_chain3M, ↓ho_ixVM, ↓ho_partM, ↓ho_sliceM, ↓ho_seqM, ↓ho_rngM, ↓ho_putM, ↓ho_putO, ↓ho_gsNil, ↓ho_gsCons, ↓ho_tupG, ↓ho_yesM, ↓ho_wipeM, ↓ho_seqS, ↓ho_dropS, ↓ho_retS, ↓ho_retF, ↓ho_retV, ↓ho_setS, ↓ho_asgS, ↓ho_parS, ↓ho_ifS, ↓ho_ownM, ↓ho_ownL, ↓ho_appendM, ↓ho_setLS, ↓ho_callRM, ↓ho_forS, ↓ho_lcM, ↓ho_lc2M, rtP_rt, rtP_nx, rmP_rt, rmP_nx, sl_fz, sl_ow, o_add, o_addT, o_addL, o_addS, o_sub, o_mul, o_fdiv, o_mod, o_pow, o_neg, o_cmp, o_eq, o_ne, o_eqS, o_neS, o_lenL, o_lenT, o_min, o_max, o_toInt, o_tupL, o_tupT, o_lstL, o_lstT, o_seqL, o_seqT, o_part, o_slL, o_slT, o_memL, o_memT, o_ixL, o_ixT, o_rng1, o_rng2, o_enum, ↓ho_peekM, fl_int, fl_str, fl_bool, List.getElem?_cons_zero, List.getElem?_cons_succ, List.set_cons_zero, List.set_cons_succ, List.length_cons, List.length_nil, decide_eq_true_eq, true_and, and_true, Bool.not_true, Bool.not_false, if_true, if_false, ↓reduceIte, Bool.false_eq_true, Nat.reduceAdd, Int.reduceToNat, Int.reducePow, Int.reduceAdd, Int.reduceSub, Int.reduceNeg, Int.reduceMul, Int.reduceDiv, Int.reduceMod, Int.reduceLT, Int.reduceLE, Nat.reduceLeDiff, Nat.reduceEqDiff, decide_true, decide_false, and_self, wipeR, restR, List.getD_cons_succ, List.getD_cons_zero]
    exact q d hp
end Lw

namespace Lw
open PySem PySem.Spec PyProof.Rows L2 Fx
/-! the workers of a grid -/
def stepW (fs : List (List Int)) (s : Int) : List (List Int) := fs.flatMap fun o => (List.range s.toNat).map fun (a : Nat) => o ++ [(a : Int)]
def wk (gs : List Int) : List (List Int) := gs.foldl stepW [[]]
abbrev tupI (o : List Int) : D := .tuple (o.map PyData.int)
def wkD (gs : List Int) : List D := (wk gs).map tupI
def prodI (gs : List Int) : Int := gs.foldl (· * ·) 1
structure GridOk (gs : List Int) : Prop where
  l1 : 1 ≤ gs.length
  l3 : gs.length ≤ 3
  g : ∀ x ∈ gs, 2 ≤ x ∧ x ≤ 8
structure WkOk (k : Nat) (fs : List (List Int)) : Prop where
  len : fs.length ≤ 8 ^ k
  wid : ∀ o ∈ fs, o.length = k
  num : ∀ o ∈ fs, ∀ i ∈ o, 0 ≤ i ∧ i < 8
theorem stepW_len (fs : List (List Int)) (s : Int) : (stepW fs s).length = fs.length * s.toNat := by
  unfold stepW
  induction fs with
  | nil => simp
  | cons o os ih => rw [List.flatMap_cons, List.length_append, ih, List.length_map, List.length_range, List.length_cons, Nat.add_mul, Nat.one_mul, Nat.add_comm]
theorem WkOk.step {k : Nat} {fs : List (List Int)} {s : Int} (h : WkOk k fs) (s2 : s ≤ 8) : WkOk (k + 1) (stepW fs s) := by
  refine ⟨?_, fun o ho => ?_, fun o ho i hi => ?_⟩
  · rw [stepW_len, Nat.pow_succ]; exact Nat.mul_le_mul h.len (by omega)
  · obtain ⟨p, hp, ho⟩ := List.mem_flatMap.mp ho
    obtain ⟨a, ha, rfl⟩ := List.mem_map.mp ho
    rw [List.length_append, h.wid p hp]; rfl
  · obtain ⟨p, hp, ho⟩ := List.mem_flatMap.mp ho
    obtain ⟨a, ha, rfl⟩ := List.mem_map.mp ho
    have := List.mem_range.mp ha
    rcases List.mem_append.mp hi with hi | hi
    · exact h.num p hp i hi
    · rw [List.mem_singleton.mp hi]; omega
theorem take_foldl {α β : Type} {f : β → α → β} {b : β} {l : List α} {k : Nat} {x : α} (h : l[k]? = some x) : (l.take (k + 1)).foldl f b = f ((l.take k).foldl f b) x := by
  rw [List.take_add_one, h, List.foldl_append]; rfl
theorem wk_take {gs : List Int} {k : Nat} {x : Int} (h : gs[k]? = some x) : wk (gs.take (k + 1)) = stepW (wk (gs.take k)) x := take_foldl h
theorem prod_take {gs : List Int} {k : Nat} {x : Int} (h : gs[k]? = some x) : prodI (gs.take (k + 1)) = prodI (gs.take k) * x := take_foldl h
theorem wk_ok {gs : List Int} (h : ∀ x ∈ gs, x ≤ 8) : ∀ k, k ≤ gs.length → WkOk k (wk (gs.take k))
  | 0, _ => ⟨by simp [wk], fun o ho => by simp [wk] at ho; subst ho; rfl, fun o ho i hi => by simp [wk] at ho; subst ho; simp at hi⟩
  | k + 1, hk => by
    have e : gs[k]? = some gs[k] := List.getElem?_eq_getElem (by omega)
    rw [wk_take e]
    exact (wk_ok h k (by omega)).step (h _ (List.getElem_mem _))
theorem prod_ok' {gs : List Int} (h : ∀ x ∈ gs, 0 ≤ x ∧ x ≤ 8) : ∀ k, k ≤ gs.length → 0 ≤ prodI (gs.take k) ∧ prodI (gs.take k) ≤ 8 ^ k
  | 0, _ => by simp [prodI]
  | k + 1, hk => by
    have e : gs[k]? = some gs[k] := List.getElem?_eq_getElem (by omega)
    rw [prod_take e]
    have a := prod_ok' h k (by omega)
    have b := h _ (List.getElem_mem (h := show k < gs.length by omega))
    have := mul_bd a.1 a.2 b.1 b.2
    rw [Int.pow_succ]; exact this
theorem wk_len {gs : List Int} (h : ∀ x ∈ gs, 0 ≤ x) : ((wk gs).length : Int) = prodI gs := by
  have key : ∀ (gs : List Int) (fs : List (List Int)) (p : Int), (∀ x ∈ gs, 0 ≤ x) → (fs.length : Int) = p → ((gs.foldl stepW fs).length : Int) = gs.foldl (· * ·) p := by
    intro gs
    induction gs with
    | nil => intro fs p _ e; exact e
    | cons g gs ih =>
      intro fs p h e
      rw [List.foldl_cons, List.foldl_cons]
      refine ih _ _ (fun x hx => h x (List.mem_cons_of_mem _ hx)) ?_
      rw [stepW_len, Int.natCast_mul, e, Int.toNat_of_nonneg (h g List.mem_cons_self)]
  exact key gs [[]] 1 h rfl
theorem int_at {gs : List Int} {k : Nat} {x : D} (h : (gs.map PyData.int)[k]? = some x) : ∃ i, gs[k]? = some i ∧ x = .int i := by
  rw [List.getElem?_map] at h
  obtain ⟨i, h1, e⟩ := Option.map_eq_some_iff.mp h
  exact ⟨i, h1, e.symm⟩
theorem p8 {k : Nat} (h : k ≤ 3) : (8 : Int) ^ k ≤ 512 ∧ (8 : Nat) ^ k ≤ 512 := by
  rcases k with _ | _ | _ | _ | k
  · decide
  · decide
  · decide
  · decide
  · omega
theorem product_ok {gs : List Int} {Φ : Sl → Prop} (h3 : gs.length ≤ 3) (h : ∀ x ∈ gs, 2 ≤ x ∧ x ≤ 8) (q : Φ (.fz (.int (prodI gs)))) : Oo (F_product [tupI gs]) Φ := by
  refine oo_runF rfl ?_
  show Ho m_product [some (.fz (tupI gs)), none, none] _
  unfold m_product tupI
  simp only [varP_fz, varP_ow, getP_some, blP_b, flP_nx, flP_bk, flP_ct, flP_rt, retP_some, parP_2, ownP_some, ownLP_some, setKP_int, loP_nx, loP_ct, loP_bk, loP_rt, oo_some, oo_none, oo_map, oo_bind, oo_if, ↓ho_bindM, ↓ho_pureM, ↓ho_liftM, ↓ho_cM, ↓ho_bin, ↓ho_una, ↓ho_varM, ↓ho_getM, ↓ho_nilM, ↓ho_consM, ↓ho_tupM, ↓ho_lstM, ↓ho_callM, ↓ho_boolM, ↓ho_testM, ↓ho_notM, ↓ho_ite, ↓ho_andM, ↓ho_orM, ↓ho_blM, ↓ho_andV, ↓ho_orV, ↓ho_notV, ↓ho_ifM, ↓ho_chainM, ↓ho_chain3M, ↓ho_ixVM, ↓ho_partM, ↓ho_sliceM, ↓ho_seqM, ↓ho_rngM, ↓ho_putM, ↓ho_putO, ↓ho_gsNil, ↓ho_gsCons, ↓ho_tupG, ↓ho_yesM, ↓ho_wipeM, ↓ho_seqS, ↓ho_dropS, ↓ho_retS, ↓ho_retF, ↓ho_retV, ↓ho_setS, ↓ho_asgS, ↓ho_parS, ↓ho_ifS, ↓ho_ownM, ↓ho_ownL, ↓ho_appendM, ↓ho_setLS, ↓ho_callRM, ↓ho_forS, ↓ho_lcM, ↓ho_lc2M, rtP_rt, rtP_nx, rmP_rt, rmP_nx, sl_fz, sl_ow, o_add, o_addT, o_addL, o_addS, o_sub, o_mul, o_fdiv, o_mod, o_pow, o_neg, o_cmp, o_eq, o_ne, o_eqS, o_neS, o_lenL, o_lenT, o_min, o_max, o_toInt, o_tupL, o_tupT, o_lstL, o_lstT, o_seqL, o_seqT, o_part, o_slL, o_slT, o_memL, o_memT, o_ixL, o_ixT, o_rng1, o_rng2, o_enum, ↓ho_peekM, fl_int, fl_str, fl_bool, List.getElem?_cons_zero, List.getElem?_cons_succ, List.set_cons_zero, List.set_cons_succ, List.length_cons, List.length_nil, decide_eq_true_eq, true_and, and_true, Bool.not_true, Bool.not_false, if_true, if_false, ↓reduceIte, Bool.false_eq_true, Nat.reduceAdd, Int.reduceToNat, Int.reducePow, Int.reduceAdd, Int.reduceSub, Int.reduceNeg, Int.reduceMul, Int.reduceDiv, Int.reduceMod, Int.reduceLT, Int.reduceLE, Nat.reduceLeDiff, Nat.reduceEqDiff, decide_true, decide_false, and_self, wipeR, restR, List.getD_cons_succ, List.getD_cons_zero]
  refine ho_for_all (fun k ρ => k ≤ gs.length ∧ ∃ s2, ρ = [some (.fz (tupI gs)), some (.fz (.int (prodI (gs.take k)))), s2]) _ _ 0 _ ⟨by omega, none, rfl⟩ ?_ ?_
  · rintro j x ρ1 hx ⟨hk, s2, rfl⟩
    obtain ⟨i, hi, rfl⟩ := int_at hx
    have lt := (List.getElem?_eq_some_iff.mp hi).1
    have b := h i (List.mem_of_getElem? hi)
    have a := prod_ok' (gs := gs) (fun x hx => ⟨by have := (h x hx).1; omega, (h x hx).2⟩) j (by omega)
    have p := p8 (k := j) (by omega)
    rw [Nat.zero_add] at hk ⊢
    simp only [varP_fz, varP_ow, getP_some, blP_b, flP_nx, flP_bk, flP_ct, flP_rt, retP_some, parP_2, ownP_some, ownLP_some, setKP_int, loP_nx, loP_ct, loP_bk, loP_rt, oo_some, oo_none, oo_map, oo_bind, oo_if, ↓ho_bindM, ↓ho_pureM, ↓ho_liftM, ↓ho_cM, ↓ho_bin, ↓ho_una, ↓ho_varM, ↓ho_getM, ↓ho_nilM, ↓ho_consM, ↓ho_tupM, ↓ho_lstM, ↓ho_callM, ↓ho_boolM, ↓ho_testM, ↓ho_notM, ↓ho_ite, ↓ho_andM, ↓ho_orM, ↓ho_blM, ↓ho_andV, ↓ho_orV, ↓ho_notV, ↓ho_ifM, ↓ho_chainM, ↓ho_chain3M, ↓ho_ixVM, ↓ho_partM, ↓ho_sliceM, ↓ho_seqM, ↓ho_rngM, ↓ho_putM, ↓ho_putO, ↓ho_gsNil, ↓ho_gsCons, ↓ho_tupG, ↓ho_yesM, ↓ho_wipeM, ↓ho_seqS, ↓ho_dropS, ↓ho_retS, ↓ho_retF, ↓ho_retV, ↓ho_setS, ↓ho_asgS, ↓ho_parS, ↓ho_ifS, ↓ho_ownM, ↓ho_ownL, ↓ho_appendM, ↓ho_setLS, ↓ho_callRM, ↓ho_forS, ↓ho_lcM, ↓ho_lc2M, rtP_rt, rtP_nx, rmP_rt, rmP_nx, sl_fz, sl_ow, o_add, o_addT, o_addL, o_addS, o_sub, o_mul, o_fdiv, o_mod, o_pow, o_neg, o_cmp, o_eq, o_ne, o_eqS, o_neS, o_lenL, o_lenT, o_min, o_max, o_toInt, o_tupL, o_tupT, o_lstL, o_lstT, o_seqL, o_seqT, o_part, o_slL, o_slT, o_memL, o_memT, o_ixL, o_ixT, o_rng1, o_rng2, o_enum, ↓ho_peekM, fl_int, fl_str, fl_bool, List.getElem?_cons_zero, List.getElem?_cons_succ, List.set_cons_zero, List.set_cons_succ, List.length_cons, List.length_nil, decide_eq_true_eq, true_and, and_true, Bool.not_true, Bool.not_false, if_true, if_false, ↓reduceIte, Bool.false_eq_true, Nat.reduceAdd, Int.reduceToNat, Int.reducePow, Int.reduceAdd, Int.reduceSub, Int.reduceNeg, Int.reduceMul, Int.reduceDiv, Int.reduceMod, Int.reduceLT, Int.reduceLE, Nat.reduceLeDiff, Nat.reduceEqDiff, decide_true, decide_false, and_self, wipeR, restR, List.getD_cons_succ, List.getD_cons_zero]
    rw [prod_take hi]
    exact ⟨lg (by omega) (by omega), by omega, _, rfl⟩
  · rintro ρ1 ⟨hk, s2, rfl⟩
    rw [List.length_map, Nat.zero_add, List.take_length]
    simp only [varP_fz, varP_ow, getP_some, blP_b, flP_nx, flP_bk, flP_ct, flP_rt, retP_some, parP_2, ownP_some, ownLP_some, setKP_int, loP_nx, loP_ct, loP_bk, loP_rt, oo_some, oo_none, oo_map, oo_bind, oo_if, ↓ho_bindM, ↓ho_pureM, ↓ho_liftM, ↓ho_cM, ↓ho_bin, ↓ho_una, ↓ho_varM, ↓ho_getM, ↓ho_nilM, ↓ho_consM, ↓ho_tupM, ↓ho_lstM, ↓ho_callM, ↓ho_boolM, ↓ho_testM, ↓ho_notM, ↓ho_ite, ↓ho_andM, ↓ho_orM, ↓ho_blM, ↓ho_andV, ↓ho_orV, ↓ho_notV, ↓ho_ifM, ↓ho_chainM, ↓ho_chain3M, ↓ho_ixVM, ↓ho_partM, ↓ho_sliceM, ↓ho_seqM, ↓ho_rngM, ↓ho_putM, ↓ho_putO, ↓ho_gsNil, ↓ho_gsCons, ↓ho_tupG, ↓ho_yesM, ↓ho_wipeM, ↓ho_seqS, ↓ho_dropS, ↓ho_retS, ↓ho_retF, ↓ho_retV, ↓ho_setS, ↓ho_asgS, ↓ho_parS, ↓ho_ifS, ↓ho_ownM, ↓ho_ownL, ↓ho_appendM, ↓ho_setLS, ↓ho_callRM, ↓ho_forS, ↓ho_lcM, ↓ho_lc2M, rtP_rt, rtP_nx, rmP_rt, rmP_nx, sl_fz, sl_ow, o_add, o_addT, o_addL, o_addS, o_sub, o_mul, o_fdiv, o_mod, o_pow, o_neg, o_cmp, o_eq, o_ne, o_eqS, o_neS, o_lenL, o_lenT, o_min, o_max, o_toInt, o_tupL, o_tupT, o_lstL, o_lstT, o_seqL, o_seqT, o_part, o_slL, o_slT, o_memL, o_memT, o_ixL, o_ixT, o_rng1, o_rng2, o_enum, ↓ho_peekM, fl_int, fl_str, fl_bool, List.getElem?_cons_zero, List.getElem?_cons_succ, List.set_cons_zero, List.set_cons_succ, List.length_cons, List.length_nil, decide_eq_true_eq, true_and, and_true, Bool.not_true, Bool.not_false, if_true, if_false, ↓reduceIte, Bool.false_eq_true, Nat.reduceAdd, Int.reduceToNat, Int.reducePow, Int.reduceAdd, Int.reduceSub, Int.reduceNeg, Int.reduceMul, Int.reduceDiv, Int.reduceMod, Int.reduceLT, Int.reduceLE, Nat.reduceLeDiff, Nat.reduceEqDiff, decide_true, decide_false, and_self, wipeR, restR, List.getD_cons_succ, List.getD_cons_zero]
    exact q

theorem law_product_ok {gs : List Int} {Φ : Sl → Prop} (h3 : gs.length ≤ 3) (h : ∀ x ∈ gs, 2 ≤ x ∧ x ≤ 8) (q : Φ (.fz (.int (prodI gs)))) : Oo (F__law_w_product [tupI gs]) Φ := by
  refine oo_runF rfl ?_
  show Ho m__law_w_product [some (.fz (tupI gs)), none, none] _
  unfold m__law_w_product tupI
  simp only [varP_fz, varP_ow, getP_some, blP_b, flP_nx, flP_bk, flP_ct, flP_rt, retP_some, parP_2, ownP_some, ownLP_some, setKP_int, loP_nx, loP_ct, loP_bk, loP_rt, oo_some, oo_none, oo_map, oo_bind, oo_if, ↓ho_bindM, ↓ho_pureM, ↓ho_liftM, ↓ho_cM, ↓ho_bin, ↓ho_una, ↓ho_varM, ↓ho_getM, ↓ho_nilM, ↓ho_consM, ↓ho_tupM, ↓ho_lstM, ↓ho_callM, ↓ho_boolM, ↓ho_testM, ↓ho_notM, ↓ho_ite, ↓ho_andM, ↓ho_orM, ↓ho_blM, ↓ho_andV, ↓ho_orV, ↓ho_notV, ↓ho_ifM, ↓ho_chainM, ↓ho_chain3M, ↓ho_ixVM, ↓ho_partM, ↓ho_sliceM, ↓ho_seqM, ↓ho_rngM, ↓ho_putM, ↓ho_putO, ↓ho_gsNil, ↓ho_gsCons, ↓ho_tupG, ↓ho_yesM, ↓ho_wipeM, ↓ho_seqS, ↓ho_dropS, ↓ho_retS, ↓ho_retF, ↓ho_retV, ↓ho_setS, ↓ho_asgS, ↓ho_parS, ↓ho_ifS, ↓ho_ownM, ↓ho_ownL, ↓ho_appendM, ↓ho_setLS, ↓ho_callRM, ↓ho_forS, ↓ho_lcM, ↓ho_lc2M, rtP_rt, rtP_nx, rmP_rt, rmP_nx, sl_fz, sl_ow, o_add, o_addT, o_addL, o_addS, o_sub, o_mul, o_fdiv, o_mod, o_pow, o_neg, o_cmp, o_eq, o_ne, o_eqS, o_neS, o_lenL, o_lenT, o_min, o_max, o_toInt, o_tupL, o_tupT, o_lstL, o_lstT, o_seqL, o_seqT, o_part, o_slL, o_slT, o_memL, o_memT, o_ixL, o_ixT, o_rng1, o_rng2, o_enum, ↓ho_peekM, fl_int, fl_str, fl_bool, List.getElem?_cons_zero, List.getElem?_cons_succ, List.set_cons_zero, List.set_cons_succ, List.length_cons, List.length_nil, decide_eq_true_eq, true_and, and_true, Bool.not_true, Bool.not_false, if_true, if_false, ↓reduceIte, Bool.false_eq_true, Nat.reduceAdd, Int.reduceToNat, Int.reducePow, Int.reduceAdd, Int.reduceSub, Int.reduceNeg, Int.reduceMul, Int.reduceDiv, Int.reduceMod, Int.reduceLT, Int.reduceLE, Nat.reduceLeDiff, Nat.reduceEqDiff, decide_true, decide_false, and_self, wipeR, restR, List.getD_cons_succ, List.getD_cons_zero]
  refine ho_for_all (fun k ρ => k ≤ gs.length ∧ ∃ s2, ρ = [some (.fz (tupI gs)), some (.fz (.int (prodI (gs.take k)))), s2]) _ _ 0 _ ⟨by omega, none, rfl⟩ ?_ ?_
  · rintro j x ρ1 hx ⟨hk, s2, rfl⟩
    obtain ⟨i, hi, rfl⟩ := int_at hx
    have lt := (List.getElem?_eq_some_iff.mp hi).1
    have b := h i (List.mem_of_getElem? hi)
    have a := prod_ok' (gs := gs) (fun x hx => ⟨by have := (h x hx).1; omega, (h x hx).2⟩) j (by omega)
    have p := p8 (k := j) (by omega)
    rw [Nat.zero_add] at hk ⊢
    simp only [varP_fz, varP_ow, getP_some, blP_b, flP_nx, flP_bk, flP_ct, flP_rt, retP_some, parP_2, ownP_some, ownLP_some, setKP_int, loP_nx, loP_ct, loP_bk, loP_rt, oo_some, oo_none, oo_map, oo_bind, oo_if, ↓ho_bindM, ↓ho_pureM, ↓ho_liftM, ↓ho_cM, ↓ho_bin, ↓ho_una, ↓ho_varM, ↓ho_getM, ↓ho_nilM, ↓ho_consM, ↓ho_tupM, ↓ho_lstM, ↓ho_callM, ↓ho_boolM, ↓ho_testM, ↓ho_notM, ↓ho_ite, ↓ho_andM, ↓ho_orM, ↓ho_blM, ↓ho_andV, ↓ho_orV, ↓ho_notV, ↓ho_ifM, ↓ho_chainM, ↓ho_chain3M, ↓ho_ixVM, ↓ho_partM, ↓ho_sliceM, ↓ho_seqM, ↓ho_rngM, ↓ho_putM, ↓ho_putO, ↓ho_gsNil, ↓ho_gsCons, ↓ho_tupG, ↓ho_yesM, ↓ho_wipeM, ↓ho_seqS, ↓ho_dropS, ↓ho_retS, ↓ho_retF, ↓ho_retV, ↓ho_setS, ↓ho_asgS, ↓ho_parS, ↓ho_ifS, ↓ho_ownM, ↓ho_ownL, ↓ho_appendM, ↓ho_setLS, ↓ho_callRM, ↓ho_forS, ↓ho_lcM, ↓ho_lc2M, rtP_rt, rtP_nx, rmP_rt, rmP_nx, sl_fz, sl_ow, o_add, o_addT, o_addL, o_addS, o_sub, o_mul, o_fdiv, o_mod, o_pow, o_neg, o_cmp, o_eq, o_ne, o_eqS, o_neS, o_lenL, o_lenT, o_min, o_max, o_toInt, o_tupL, o_tupT, o_lstL, o_lstT, o_seqL, o_seqT, o_part, o_slL, o_slT, o_memL, o_memT, o_ixL, o_ixT, o_rng1, o_rng2, o_enum, ↓ho_peekM, fl_int, fl_str, fl_bool, List.getElem?_cons_zero, List.getElem?_cons_succ, List.set_cons_zero, List.set_cons_succ, List.length_cons, List.length_nil, decide_eq_true_eq, true_and, and_true, Bool.not_true, Bool.not_false, if_true, if_false, ↓reduceIte, Bool.false_eq_true, Nat.reduceAdd, Int.reduceToNat, Int.reducePow, Int.reduceAdd, Int.reduceSub, Int.reduceNeg, Int.reduceMul, Int.reduceDiv, Int.reduceMod, Int.reduceLT, Int.reduceLE, Nat.reduceLeDiff, Nat.reduceEqDiff, decide_true, decide_false, and_self, wipeR, restR, List.getD_cons_succ, List.getD_cons_zero]
    rw [prod_take hi]
    exact ⟨lg (by omega) (by omega), by omega, _, rfl⟩
  · rintro ρ1 ⟨hk, s2, rfl⟩
    rw [List.length_map, Nat.zero_add, List.take_length]
    simp only [varP_fz, varP_ow, getP_some, blP_b, flP_nx, flP_bk, flP_ct, flP_rt, retP_some, parP_2, ownP_some, ownLP_some, setKP_int, loP_nx, loP_ct, loP_bk, loP_rt, oo_some, oo_none, oo_map, oo_bind, oo_if, ↓ho_bindM, ↓ho_pureM, ↓ho_liftM, ↓ho_cM, ↓ho_bin, ↓ho_una, ↓ho_varM, ↓ho_getM, ↓ho_nilM, ↓ho_consM, ↓ho_tupM, ↓ho_lstM, ↓ho_callM, ↓ho_boolM, ↓ho_testM, ↓ho_notM, ↓ho_ite, ↓ho_andM, ↓ho_orM, ↓ho_blM, ↓ho_andV, ↓ho_orV, ↓ho_notV, ↓ho_ifM, ↓ho_chainM, ↓ho_chain3M, ↓ho_ixVM, ↓ho_partM, ↓ho_sliceM, ↓ho_seqM, ↓ho_rngM, ↓ho_putM, ↓ho_putO, ↓ho_gsNil, ↓ho_gsCons, ↓ho_tupG, ↓ho_yesM, ↓ho_wipeM, ↓ho_seqS, ↓ho_dropS, ↓ho_retS, ↓ho_retF, ↓ho_retV, ↓ho_setS, ↓ho_asgS, ↓ho_parS, ↓ho_ifS, ↓ho_ownM, ↓ho_ownL, ↓ho_appendM, ↓ho_setLS, ↓ho_callRM, ↓ho_forS, ↓ho_lcM, ↓ho_lc2M, rtP_rt, rtP_nx, rmP_rt, rmP_nx, sl_fz, sl_ow, o_add, o_addT, o_addL, o_addS, o_sub, o_mul, o_fdiv, o_mod, o_pow, o_neg, o_cmp, o_eq, o_ne, o_eqS, o_neS, o_lenL, o_lenT, o_min, o_max, o_toInt, o_tupL, o_tupT, o_lstL, o_lstT, o_seqL, o_seqT, o_part, o_slL, o_slT, o_memL, o_memT, o_ixL, o_ixT, o_rng1, o_rng2, o_enum, ↓ho_peekM, fl_int, fl_str, fl_bool, List.getElem?_cons_zero, List.getElem?_cons_succ, List.set_cons_zero, List.set_cons_succ, List.length_cons, List.length_nil, decide_eq_true_eq, true_and, and_true, Bool.not_true, Bool.not_false, if_true, if_false, ↓reduceIte, Bool.false_eq_true, Nat.reduceAdd, Int.reduceToNat, Int.reducePow, Int.reduceAdd, Int.reduceSub, Int.reduceNeg, Int.reduceMul, Int.reduceDiv, Int.reduceMod, Int.reduceLT, Int.reduceLE, Nat.reduceLeDiff, Nat.reduceEqDiff, decide_true, decide_false, and_self, wipeR, restR, List.getD_cons_succ, List.getD_cons_zero]
    exact q
theorem flat_step (fs : List (List Int)) (s : Int) : ((fs.map tupI).flatMap fun x => (rangeD 0 s).map fun y => match x, y with | .tuple o, y => .tuple (o ++ [y]) | _, _ => .none) = (stepW fs s).map tupI := by
  unfold stepW rangeD
  simp only [Int.sub_zero, List.flatMap_map, List.map_flatMap, List.map_map]
  congr; funext o
  refine List.map_congr_left fun a _ => ?_
  simp [tupI]
theorem sz (n : Nat) (h : n ≤ 100000) : n ≤ sizeLine := by unfold sizeLine; omega
theorem raw_workers_ok {gs : List Int} {Φ : Sl → Prop} (h3 : gs.length ≤ 3) (h : ∀ x ∈ gs, 2 ≤ x ∧ x ≤ 8) (q : Φ (.ow (.list (wkD gs)))) : Oo (F_raw_workers [tupI gs]) Φ := by
  refine oo_runF rfl ?_
  show Ho m_raw_workers [some (.fz (tupI gs)), none, none, none, none] _
  unfold m_raw_workers tupI
  simp only [varP_fz, varP_ow, getP_some, blP_b, flP_nx, flP_bk, flP_ct, flP_rt, retP_some, parP_2, ownP_some, ownLP_some, setKP_int, loP_nx, loP_ct, loP_bk, loP_rt, oo_some, oo_none, oo_map, oo_bind, oo_if, ↓ho_bindM, ↓ho_pureM, ↓ho_liftM, ↓ho_cM, ↓ho_bin, ↓ho_una, ↓ho_varM, ↓ho_getM, ↓ho_nilM, ↓ho_consM, ↓ho_tupM, ↓ho_lstM, ↓ho_callM, ↓ho_boolM, ↓ho_testM, ↓ho_notM, ↓ho_ite, ↓ho_andM, ↓ho_orM, ↓ho_blM, ↓ho_andV, ↓ho_orV, ↓ho_notV, ↓ho_ifM, ↓ho_chainM, ↓ho_chain3M, ↓ho_ixVM, ↓ho_partM, ↓ho_sliceM, ↓ho_seqM, ↓ho_rngM, ↓ho_putM, ↓ho_putO, ↓ho_gsNil, ↓ho_gsCons, ↓ho_tupG, ↓ho_yesM, ↓ho_wipeM, ↓ho_seqS, ↓ho_dropS, ↓ho_retS, ↓ho_retF, ↓ho_retV, ↓ho_setS, ↓ho_asgS, ↓ho_parS, ↓ho_ifS, ↓ho_ownM, ↓ho_ownL, ↓ho_appendM, ↓ho_setLS, ↓ho_callRM, ↓ho_forS, ↓ho_lcM, ↓ho_lc2M, rtP_rt, rtP_nx, rmP_rt, rmP_nx, sl_fz, sl_ow, o_add, o_addT, o_addL, o_addS, o_sub, o_mul, o_fdiv, o_mod, o_pow, o_neg, o_cmp, o_eq, o_ne, o_eqS, o_neS, o_lenL, o_lenT, o_min, o_max, o_toInt, o_tupL, o_tupT, o_lstL, o_lstT, o_seqL, o_seqT, o_part, o_slL, o_slT, o_memL, o_memT, o_ixL, o_ixT, o_rng1, o_rng2, o_enum, ↓ho_peekM, fl_int, fl_str, fl_bool, List.getElem?_cons_zero, List.getElem?_cons_succ, List.set_cons_zero, List.set_cons_succ, List.length_cons, List.length_nil, decide_eq_true_eq, true_and, and_true, Bool.not_true, Bool.not_false, if_true, if_false, ↓reduceIte, Bool.false_eq_true, Nat.reduceAdd, Int.reduceToNat, Int.reducePow, Int.reduceAdd, Int.reduceSub, Int.reduceNeg, Int.reduceMul, Int.reduceDiv, Int.reduceMod, Int.reduceLT, Int.reduceLE, Nat.reduceLeDiff, Nat.reduceEqDiff, decide_true, decide_false, and_self, wipeR, restR, List.getD_cons_succ, List.getD_cons_zero]
  refine ⟨by decide, by decide, ?_⟩
  refine ho_for_all (fun k ρ => k ≤ gs.length ∧ ∃ s2, ρ = [some (.fz (tupI gs)), some (.ow (.list (wkD (gs.take k)))), s2, none, none]) _ _ 0 _ ⟨by omega, none, rfl⟩ ?_ ?_
  · rintro j x ρ1 hx ⟨hk, s2, rfl⟩
    obtain ⟨i, hi, rfl⟩ := int_at hx
    have lt := (List.getElem?_eq_some_iff.mp hi).1
    have b := h i (List.mem_of_getElem? hi)
    have a := wk_ok (gs := gs) (fun x hx => (h x hx).2) j (by omega)
    have a' := a.step b.2
    have p := p8 (k := j + 1) (by omega)
    have p' := p8 (k := j) (by omega)
    rw [Nat.zero_add] at hk ⊢
    simp only [varP_fz, varP_ow, getP_some, blP_b, flP_nx, flP_bk, flP_ct, flP_rt, retP_some, parP_2, ownP_some, ownLP_some, setKP_int, loP_nx, loP_ct, loP_bk, loP_rt, oo_some, oo_none, oo_map, oo_bind, oo_if, ↓ho_bindM, ↓ho_pureM, ↓ho_liftM, ↓ho_cM, ↓ho_bin, ↓ho_una, ↓ho_varM, ↓ho_getM, ↓ho_nilM, ↓ho_consM, ↓ho_tupM, ↓ho_lstM, ↓ho_callM, ↓ho_boolM, ↓ho_testM, ↓ho_notM, ↓ho_ite, ↓ho_andM, ↓ho_orM, ↓ho_blM, ↓ho_andV, ↓ho_orV, ↓ho_notV, ↓ho_ifM, ↓ho_chainM, ↓ho_chain3M, ↓ho_ixVM, ↓ho_partM, ↓ho_sliceM, ↓ho_seqM, ↓ho_rngM, ↓ho_putM, ↓ho_putO, ↓ho_gsNil, ↓ho_gsCons, ↓ho_tupG, ↓ho_yesM, ↓ho_wipeM, ↓ho_seqS, ↓ho_dropS, ↓ho_retS, ↓ho_retF, ↓ho_retV, ↓ho_setS, ↓ho_asgS, ↓ho_parS, ↓ho_ifS, ↓ho_ownM, ↓ho_ownL, ↓ho_appendM, ↓ho_setLS, ↓ho_callRM, ↓ho_forS, ↓ho_lcM, ↓ho_lc2M, rtP_rt, rtP_nx, rmP_rt, rmP_nx, sl_fz, sl_ow, o_add, o_addT, o_addL, o_addS, o_sub, o_mul, o_fdiv, o_mod, o_pow, o_neg, o_cmp, o_eq, o_ne, o_eqS, o_neS, o_lenL, o_lenT, o_min, o_max, o_toInt, o_tupL, o_tupT, o_lstL, o_lstT, o_seqL, o_seqT, o_part, o_slL, o_slT, o_memL, o_memT, o_ixL, o_ixT, o_rng1, o_rng2, o_enum, ↓ho_peekM, fl_int, fl_str, fl_bool, List.getElem?_cons_zero, List.getElem?_cons_succ, List.set_cons_zero, List.set_cons_succ, List.length_cons, List.length_nil, decide_eq_true_eq, true_and, and_true, Bool.not_true, Bool.not_false, if_true, if_false, ↓reduceIte, Bool.false_eq_true, Nat.reduceAdd, Int.reduceToNat, Int.reducePow, Int.reduceAdd, Int.reduceSub, Int.reduceNeg, Int.reduceMul, Int.reduceDiv, Int.reduceMod, Int.reduceLT, Int.reduceLE, Nat.reduceLeDiff, Nat.reduceEqDiff, decide_true, decide_false, and_self, wipeR, restR, List.getD_cons_succ, List.getD_cons_zero]
    refine ⟨by rfl, ?_⟩
    refine ho_lc2_map (js := fun _ => rangeD 0 i) (f := fun x y => match x, y with | .tuple o, y => .tuple (o ++ [y]) | _, _ => .none) _ (wkD (gs.take j)) ?_ ?_
    · rintro x hx
      obtain ⟨o, ho, rfl⟩ := List.mem_map.mp hx
      simp only [varP_fz, varP_ow, getP_some, blP_b, flP_nx, flP_bk, flP_ct, flP_rt, retP_some, parP_2, ownP_some, ownLP_some, setKP_int, loP_nx, loP_ct, loP_bk, loP_rt, oo_some, oo_none, oo_map, oo_bind, oo_if, ↓ho_bindM, ↓ho_pureM, ↓ho_liftM, ↓ho_cM, ↓ho_bin, ↓ho_una, ↓ho_varM, ↓ho_getM, ↓ho_nilM, ↓ho_consM, ↓ho_tupM, ↓ho_lstM, ↓ho_callM, ↓ho_boolM, ↓ho_testM, ↓ho_notM, ↓ho_ite, ↓ho_andM, ↓ho_orM, ↓ho_blM, ↓ho_andV, ↓ho_orV, ↓ho_notV, ↓ho_ifM, ↓ho_chainM, ↓ho_chain3M, ↓ho_ixVM, ↓ho_partM, ↓ho_sliceM, ↓ho_seqM, ↓ho_rngM, ↓ho_putM, ↓ho_putO, ↓ho_gsNil, ↓ho_gsCons, ↓ho_tupG, ↓ho_yesM, ↓ho_wipeM, ↓ho_seqS, ↓ho_dropS, ↓ho_retS, ↓ho_retF, ↓ho_retV, ↓ho_setS, ↓ho_asgS, ↓ho_parS, ↓ho_ifS, ↓ho_ownM, ↓ho_ownL, ↓ho_appendM, ↓ho_setLS, ↓ho_callRM, ↓ho_forS, ↓ho_lcM, ↓ho_lc2M, rtP_rt, rtP_nx, rmP_rt, rmP_nx, sl_fz, sl_ow, o_add, o_addT, o_addL, o_addS, o_sub, o_mul, o_fdiv, o_mod, o_pow, o_neg, o_cmp, o_eq, o_ne, o_eqS, o_neS, o_lenL, o_lenT, o_min, o_max, o_toInt, o_tupL, o_tupT, o_lstL, o_lstT, o_seqL, o_seqT, o_part, o_slL, o_slT, o_memL, o_memT, o_ixL, o_ixT, o_rng1, o_rng2, o_enum, ↓ho_peekM, fl_int, fl_str, fl_bool, List.getElem?_cons_zero, List.getElem?_cons_succ, List.set_cons_zero, List.set_cons_succ, List.length_cons, List.length_nil, decide_eq_true_eq, true_and, and_true, Bool.not_true, Bool.not_false, if_true, if_false, ↓reduceIte, Bool.false_eq_true, Nat.reduceAdd, Int.reduceToNat, Int.reducePow, Int.reduceAdd, Int.reduceSub, Int.reduceNeg, Int.reduceMul, Int.reduceDiv, Int.reduceMod, Int.reduceLT, Int.reduceLE, Nat.reduceLeDiff, Nat.reduceEqDiff, decide_true, decide_false, and_self, wipeR, restR, List.getD_cons_succ, List.getD_cons_zero]
      refine ⟨by omega, ?_⟩
      rintro y hy
      have := a.wid o ho
      exact ⟨by decide, by rw [List.length_map]; exact sz _ (by omega)⟩
    · have e := flat_step (wk (gs.take j)) i
      simp only [wkD]
      rw [e]
      refine ⟨by rw [List.length_map]; exact sz _ (by have := a'.len; omega), ?_⟩
      rw [wk_take hi]
      simp only [varP_fz, varP_ow, getP_some, blP_b, flP_nx, flP_bk, flP_ct, flP_rt, retP_some, parP_2, ownP_some, ownLP_some, setKP_int, loP_nx, loP_ct, loP_bk, loP_rt, oo_some, oo_none, oo_map, oo_bind, oo_if, ↓ho_bindM, ↓ho_pureM, ↓ho_liftM, ↓ho_cM, ↓ho_bin, ↓ho_una, ↓ho_varM, ↓ho_getM, ↓ho_nilM, ↓ho_consM, ↓ho_tupM, ↓ho_lstM, ↓ho_callM, ↓ho_boolM, ↓ho_testM, ↓ho_notM, ↓ho_ite, ↓ho_andM, ↓ho_orM, ↓ho_blM, ↓ho_andV, ↓ho_orV, ↓ho_notV, ↓ho_ifM, ↓ho_chainM, ↓ho_chain3M, ↓ho_ixVM, ↓ho_partM, ↓ho_sliceM, ↓ho_seqM, ↓ho_rngM, ↓ho_putM, ↓ho_putO, ↓ho_gsNil, ↓ho_gsCons, ↓ho_tupG, ↓ho_yesM, ↓ho_wipeM, ↓ho_seqS, ↓ho_dropS, ↓ho_retS, ↓ho_retF, ↓ho_retV, ↓ho_setS, ↓ho_asgS, ↓ho_parS, ↓ho_ifS, ↓ho_ownM, ↓ho_ownL, ↓ho_appendM, ↓ho_setLS, ↓ho_callRM, ↓ho_forS, ↓ho_lcM, ↓ho_lc2M, rtP_rt, rtP_nx, rmP_rt, rmP_nx, sl_fz, sl_ow, o_add, o_addT, o_addL, o_addS, o_sub, o_mul, o_fdiv, o_mod, o_pow, o_neg, o_cmp, o_eq, o_ne, o_eqS, o_neS, o_lenL, o_lenT, o_min, o_max, o_toInt, o_tupL, o_tupT, o_lstL, o_lstT, o_seqL, o_seqT, o_part, o_slL, o_slT, o_memL, o_memT, o_ixL, o_ixT, o_rng1, o_rng2, o_enum, ↓ho_peekM, fl_int, fl_str, fl_bool, List.getElem?_cons_zero, List.getElem?_cons_succ, List.set_cons_zero, List.set_cons_succ, List.length_cons, List.length_nil, decide_eq_true_eq, true_and, and_true, Bool.not_true, Bool.not_false, if_true, if_false, ↓reduceIte, Bool.false_eq_true, Nat.reduceAdd, Int.reduceToNat, Int.reducePow, Int.reduceAdd, Int.reduceSub, Int.reduceNeg, Int.reduceMul, Int.reduceDiv, Int.reduceMod, Int.reduceLT, Int.reduceLE, Nat.reduceLeDiff, Nat.reduceEqDiff, decide_true, decide_false, and_self, wipeR, restR, List.getD_cons_succ, List.getD_cons_zero]
      exact ⟨by omega, _, rfl⟩
  · rintro ρ1 ⟨hk, s2, rfl⟩
    rw [List.length_map, Nat.zero_add, List.take_length]
    simp only [varP_fz, varP_ow, getP_some, blP_b, flP_nx, flP_bk, flP_ct, flP_rt, retP_some, parP_2, ownP_some, ownLP_some, setKP_int, loP_nx, loP_ct, loP_bk, loP_rt, oo_some, oo_none, oo_map, oo_bind, oo_if, ↓ho_bindM, ↓ho_pureM, ↓ho_liftM, ↓ho_cM, ↓ho_bin, ↓ho_una, ↓ho_varM, ↓ho_getM, ↓ho_nilM, ↓ho_consM, ↓ho_tupM, ↓ho_lstM, ↓ho_callM, ↓ho_boolM, ↓ho_testM, ↓ho_notM, ↓ho_ite, ↓ho_andM, ↓ho_orM, ↓ho_blM, ↓ho_andV, ↓ho_orV, ↓ho_notV, ↓ho_ifM, ↓ho_chainM, ↓ho_chain3M, ↓ho_ixVM, ↓ho_partM, ↓ho_sliceM, ↓ho_seqM, ↓ho_rngM, ↓ho_putM, ↓ho_putO, ↓ho_gsNil, ↓ho_gsCons, ↓ho_tupG, ↓ho_yesM, ↓ho_wipeM, ↓ho_seqS, ↓ho_dropS, ↓ho_retS, ↓ho_retF, ↓ho_retV, ↓ho_setS, ↓ho_asgS, ↓ho_parS, ↓ho_ifS, ↓ho_ownM, ↓ho_ownL, ↓ho_appendM, ↓ho_setLS, ↓ho_callRM, ↓ho_forS, ↓ho_lcM, ↓ho_lc2M, rtP_rt, rtP_nx, rmP_rt, rmP_nx, sl_fz, sl_ow, o_add, o_addT, o_addL, o_addS, o_sub, o_mul, o_fdiv, o_mod, o_pow, o_neg, o_cmp, o_eq, o_ne, o_eqS, o_neS, o_lenL, o_lenT, o_min, o_max, o_toInt, o_tupL, o_tupT, o_lstL, o_lstT, o_seqL, o_seqT, o_part, o_slL, o_slT, o_memL, o_memT, o_ixL, o_ixT, o_rng1, o_rng2, o_enum, ↓ho_peekM, fl_int, fl_str, fl_bool, List.getElem?_cons_zero, List.getElem?_cons_succ, List.set_cons_zero, List.set_cons_succ, List.length_cons, List.length_nil, decide_eq_true_eq, true_and, and_true, Bool.not_true, Bool.not_false, if_true, if_false, ↓reduceIte, Bool.false_eq_true, Nat.reduceAdd, Int.reduceToNat, Int.reducePow, Int.reduceAdd, Int.reduceSub, Int.reduceNeg, Int.reduceMul, Int.reduceDiv, Int.reduceMod, Int.reduceLT, Int.reduceLE, Nat.reduceLeDiff, Nat.reduceEqDiff, decide_true, decide_false, and_self, wipeR, restR, List.getD_cons_succ, List.getD_cons_zero]
    exact q
end Lw

namespace Lw
open PySem PySem.Spec PyProof.Rows L2 Fx
theorem bools_true : ∀ (n : Nat), boolsOf (List.replicate n (.bool true)) = some (List.replicate n true)
  | 0 => rfl
  | n + 1 => by rw [List.replicate_succ, boolsOf, bools_true n]; rfl
theorem all_true (n : Nat) {Φ : Sl → Prop} (q : Φ (.fz (.bool true))) : Oo (allD [.list (List.replicate n (.bool true))]) Φ := by
  refine ⟨_, ?_, q⟩
  rw [allD, bools_true]
  simp
theorem is_grid_ok {gs : List Int} {Φ : Sl → Prop} (g : GridOk gs) (hp : prodI gs ≤ 64) (q : Φ (.fz (.bool true))) : Oo (F_is_grid [tupI gs]) Φ := by
  refine oo_runF rfl ?_
  show Ho m_is_grid [some (.fz (tupI gs)), none] _
  have l1 := g.l1
  have l3 := g.l3
  have a1 : (1 : Int) ≤ (gs.map PyData.int).length := by rw [List.length_map]; omega
  have a3 : ((gs.map PyData.int).length : Int) ≤ 3 := by rw [List.length_map]; omega
  unfold m_is_grid
  simp only [varP_fz, varP_ow, getP_some, blP_b, flP_nx, flP_bk, flP_ct, flP_rt, retP_some, parP_2, ownP_some, ownLP_some, setKP_int, loP_nx, loP_ct, loP_bk, loP_rt, oo_some, oo_none, oo_map, oo_bind, oo_if, ↓ho_bindM, ↓ho_pureM, ↓ho_liftM, ↓ho_cM, ↓ho_bin, ↓ho_una, ↓ho_varM, ↓ho_getM, ↓ho_nilM, ↓ho_consM, ↓ho_tupM, ↓ho_lstM, ↓ho_callM, ↓ho_boolM, ↓ho_testM, ↓ho_notM, ↓ho_ite, ↓ho_andM, ↓ho_orM, ↓ho_blM, ↓ho_andV, ↓ho_orV, ↓ho_notV, ↓ho_ifM, ↓ho_chainM, ↓ho_chain3M, ↓ho_ixVM, ↓ho_partM, ↓ho_sliceM, ↓ho_seqM, ↓ho_rngM, ↓ho_putM, ↓ho_putO, ↓ho_gsNil, ↓ho_gsCons, ↓ho_tupG, ↓ho_yesM, ↓ho_wipeM, ↓ho_seqS, ↓ho_dropS, ↓ho_retS, ↓ho_retF, ↓ho_retV, ↓ho_setS, ↓ho_asgS, ↓ho_parS, ↓ho_ifS, ↓ho_ownM, ↓ho_ownL, ↓ho_appendM, ↓ho_setLS, ↓ho_callRM, ↓ho_forS, ↓ho_lcM, ↓ho_lc2M, rtP_rt, rtP_nx, rmP_rt, rmP_nx, sl_fz, sl_ow, o_add, o_addT, o_addL, o_addS, o_sub, o_mul, o_fdiv, o_mod, o_pow, o_neg, o_cmp, o_eq, o_ne, o_eqS, o_neS, o_lenL, o_lenT, o_min, o_max, o_toInt, o_tupL, o_tupT, o_lstL, o_lstT, o_seqL, o_seqT, o_part, o_slL, o_slT, o_memL, o_memT, o_ixL, o_ixT, o_rng1, o_rng2, o_enum, ↓ho_peekM, fl_int, fl_str, fl_bool, List.getElem?_cons_zero, List.getElem?_cons_succ, List.set_cons_zero, List.set_cons_succ, List.length_cons, List.length_nil, decide_eq_true_eq, true_and, and_true, Bool.not_true, Bool.not_false, if_true, if_false, ↓reduceIte, Bool.false_eq_true, Nat.reduceAdd, Int.reduceToNat, Int.reducePow, Int.reduceAdd, Int.reduceSub, Int.reduceNeg, Int.reduceMul, Int.reduceDiv, Int.reduceMod, Int.reduceLT, Int.reduceLE, Nat.reduceLeDiff, Nat.reduceEqDiff, decide_true, decide_false, and_self, wipeR, restR, List.getD_cons_succ, List.getD_cons_zero, tupI, isi_tup, Option.map_some, a1, a3]
  have a4 : (gs.map PyData.int).length ≤ sizeLine := by unfold sizeLine; omega
  refine ⟨⟨a4, by rfl⟩, ?_⟩
  refine ho_lc_map (f := fun _ => .bool true) _ _ ?_ ?_
  · rintro x hx
    obtain ⟨i, hi, rfl⟩ := List.mem_map.mp hx
    simp only [varP_fz, varP_ow, getP_some, blP_b, flP_nx, flP_bk, flP_ct, flP_rt, retP_some, parP_2, ownP_some, ownLP_some, setKP_int, loP_nx, loP_ct, loP_bk, loP_rt, oo_some, oo_none, oo_map, oo_bind, oo_if, ↓ho_bindM, ↓ho_pureM, ↓ho_liftM, ↓ho_cM, ↓ho_bin, ↓ho_una, ↓ho_varM, ↓ho_getM, ↓ho_nilM, ↓ho_consM, ↓ho_tupM, ↓ho_lstM, ↓ho_callM, ↓ho_boolM, ↓ho_testM, ↓ho_notM, ↓ho_ite, ↓ho_andM, ↓ho_orM, ↓ho_blM, ↓ho_andV, ↓ho_orV, ↓ho_notV, ↓ho_ifM, ↓ho_chainM, ↓ho_chain3M, ↓ho_ixVM, ↓ho_partM, ↓ho_sliceM, ↓ho_seqM, ↓ho_rngM, ↓ho_putM, ↓ho_putO, ↓ho_gsNil, ↓ho_gsCons, ↓ho_tupG, ↓ho_yesM, ↓ho_wipeM, ↓ho_seqS, ↓ho_dropS, ↓ho_retS, ↓ho_retF, ↓ho_retV, ↓ho_setS, ↓ho_asgS, ↓ho_parS, ↓ho_ifS, ↓ho_ownM, ↓ho_ownL, ↓ho_appendM, ↓ho_setLS, ↓ho_callRM, ↓ho_forS, ↓ho_lcM, ↓ho_lc2M, rtP_rt, rtP_nx, rmP_rt, rmP_nx, sl_fz, sl_ow, o_add, o_addT, o_addL, o_addS, o_sub, o_mul, o_fdiv, o_mod, o_pow, o_neg, o_cmp, o_eq, o_ne, o_eqS, o_neS, o_lenL, o_lenT, o_min, o_max, o_toInt, o_tupL, o_tupT, o_lstL, o_lstT, o_seqL, o_seqT, o_part, o_slL, o_slT, o_memL, o_memT, o_ixL, o_ixT, o_rng1, o_rng2, o_enum, ↓ho_peekM, fl_int, fl_str, fl_bool, List.getElem?_cons_zero, List.getElem?_cons_succ, List.set_cons_zero, List.set_cons_succ, List.length_cons, List.length_nil, decide_eq_true_eq, true_and, and_true, Bool.not_true, Bool.not_false, if_true, if_false, ↓reduceIte, Bool.false_eq_true, Nat.reduceAdd, Int.reduceToNat, Int.reducePow, Int.reduceAdd, Int.reduceSub, Int.reduceNeg, Int.reduceMul, Int.reduceDiv, Int.reduceMod, Int.reduceLT, Int.reduceLE, Nat.reduceLeDiff, Nat.reduceEqDiff, decide_true, decide_false, and_self, wipeR, restR, List.getD_cons_succ, List.getD_cons_zero]
    refine is_int_hi (g.g i hi).1 (g.g i hi).2 ?_
    simp only [varP_fz, varP_ow, getP_some, blP_b, flP_nx, flP_bk, flP_ct, flP_rt, retP_some, parP_2, ownP_some, ownLP_some, setKP_int, loP_nx, loP_ct, loP_bk, loP_rt, oo_some, oo_none, oo_map, oo_bind, oo_if, ↓ho_bindM, ↓ho_pureM, ↓ho_liftM, ↓ho_cM, ↓ho_bin, ↓ho_una, ↓ho_varM, ↓ho_getM, ↓ho_nilM, ↓ho_consM, ↓ho_tupM, ↓ho_lstM, ↓ho_callM, ↓ho_boolM, ↓ho_testM, ↓ho_notM, ↓ho_ite, ↓ho_andM, ↓ho_orM, ↓ho_blM, ↓ho_andV, ↓ho_orV, ↓ho_notV, ↓ho_ifM, ↓ho_chainM, ↓ho_chain3M, ↓ho_ixVM, ↓ho_partM, ↓ho_sliceM, ↓ho_seqM, ↓ho_rngM, ↓ho_putM, ↓ho_putO, ↓ho_gsNil, ↓ho_gsCons, ↓ho_tupG, ↓ho_yesM, ↓ho_wipeM, ↓ho_seqS, ↓ho_dropS, ↓ho_retS, ↓ho_retF, ↓ho_retV, ↓ho_setS, ↓ho_asgS, ↓ho_parS, ↓ho_ifS, ↓ho_ownM, ↓ho_ownL, ↓ho_appendM, ↓ho_setLS, ↓ho_callRM, ↓ho_forS, ↓ho_lcM, ↓ho_lc2M, rtP_rt, rtP_nx, rmP_rt, rmP_nx, sl_fz, sl_ow, o_add, o_addT, o_addL, o_addS, o_sub, o_mul, o_fdiv, o_mod, o_pow, o_neg, o_cmp, o_eq, o_ne, o_eqS, o_neS, o_lenL, o_lenT, o_min, o_max, o_toInt, o_tupL, o_tupT, o_lstL, o_lstT, o_seqL, o_seqT, o_part, o_slL, o_slT, o_memL, o_memT, o_ixL, o_ixT, o_rng1, o_rng2, o_enum, ↓ho_peekM, fl_int, fl_str, fl_bool, List.getElem?_cons_zero, List.getElem?_cons_succ, List.set_cons_zero, List.set_cons_succ, List.length_cons, List.length_nil, decide_eq_true_eq, true_and, and_true, Bool.not_true, Bool.not_false, if_true, if_false, ↓reduceIte, Bool.false_eq_true, Nat.reduceAdd, Int.reduceToNat, Int.reducePow, Int.reduceAdd, Int.reduceSub, Int.reduceNeg, Int.reduceMul, Int.reduceDiv, Int.reduceMod, Int.reduceLT, Int.reduceLE, Nat.reduceLeDiff, Nat.reduceEqDiff, decide_true, decide_false, and_self, wipeR, restR, List.getD_cons_succ, List.getD_cons_zero]
  · rw [List.map_const']
    simp only [varP_fz, varP_ow, getP_some, blP_b, flP_nx, flP_bk, flP_ct, flP_rt, retP_some, parP_2, ownP_some, ownLP_some, setKP_int, loP_nx, loP_ct, loP_bk, loP_rt, oo_some, oo_none, oo_map, oo_bind, oo_if, ↓ho_bindM, ↓ho_pureM, ↓ho_liftM, ↓ho_cM, ↓ho_bin, ↓ho_una, ↓ho_varM, ↓ho_getM, ↓ho_nilM, ↓ho_consM, ↓ho_tupM, ↓ho_lstM, ↓ho_callM, ↓ho_boolM, ↓ho_testM, ↓ho_notM, ↓ho_ite, ↓ho_andM, ↓ho_orM, ↓ho_blM, ↓ho_andV, ↓ho_orV, ↓ho_notV, ↓ho_ifM, ↓ho_chainM, ↓ho_chain3M, ↓ho_ixVM, ↓ho_partM, ↓ho_sliceM, ↓ho_seqM, ↓ho_rngM, ↓ho_putM, ↓ho_putO, ↓ho_gsNil, ↓ho_gsCons, ↓ho_tupG, ↓ho_yesM, ↓ho_wipeM, ↓ho_seqS, ↓ho_dropS, ↓ho_retS, ↓ho_retF, ↓ho_retV, ↓ho_setS, ↓ho_asgS, ↓ho_parS, ↓ho_ifS, ↓ho_ownM, ↓ho_ownL, ↓ho_appendM, ↓ho_setLS, ↓ho_callRM, ↓ho_forS, ↓ho_lcM, ↓ho_lc2M, rtP_rt, rtP_nx, rmP_rt, rmP_nx, sl_fz, sl_ow, o_add, o_addT, o_addL, o_addS, o_sub, o_mul, o_fdiv, o_mod, o_pow, o_neg, o_cmp, o_eq, o_ne, o_eqS, o_neS, o_lenL, o_lenT, o_min, o_max, o_toInt, o_tupL, o_tupT, o_lstL, o_lstT, o_seqL, o_seqT, o_part, o_slL, o_slT, o_memL, o_memT, o_ixL, o_ixT, o_rng1, o_rng2, o_enum, ↓ho_peekM, fl_int, fl_str, fl_bool, List.getElem?_cons_zero, List.getElem?_cons_succ, List.set_cons_zero, List.set_cons_succ, List.length_cons, List.length_nil, decide_eq_true_eq, true_and, and_true, Bool.not_true, Bool.not_false, if_true, if_false, ↓reduceIte, Bool.false_eq_true, Nat.reduceAdd, Int.reduceToNat, Int.reducePow, Int.reduceAdd, Int.reduceSub, Int.reduceNeg, Int.reduceMul, Int.reduceDiv, Int.reduceMod, Int.reduceLT, Int.reduceLE, Nat.reduceLeDiff, Nat.reduceEqDiff, decide_true, decide_false, and_self, wipeR, restR, List.getD_cons_succ, List.getD_cons_zero]
    refine all_true _ ?_
    simp only [varP_fz, varP_ow, getP_some, blP_b, flP_nx, flP_bk, flP_ct, flP_rt, retP_some, parP_2, ownP_some, ownLP_some, setKP_int, loP_nx, loP_ct, loP_bk, loP_rt, oo_some, oo_none, oo_map, oo_bind, oo_if, ↓ho_bindM, ↓ho_pureM, ↓ho_liftM, ↓ho_cM, ↓ho_bin, ↓ho_una, ↓ho_varM, ↓ho_getM, ↓ho_nilM, ↓ho_consM, ↓ho_tupM, ↓ho_lstM, ↓ho_callM, ↓ho_boolM, ↓ho_testM, ↓ho_notM, ↓ho_ite, ↓ho_andM, ↓ho_orM, ↓ho_blM, ↓ho_andV, ↓ho_orV, ↓ho_notV, ↓ho_ifM, ↓ho_chainM, ↓ho_chain3M, ↓ho_ixVM, ↓ho_partM, ↓ho_sliceM, ↓ho_seqM, ↓ho_rngM, ↓ho_putM, ↓ho_putO, ↓ho_gsNil, ↓ho_gsCons, ↓ho_tupG, ↓ho_yesM, ↓ho_wipeM, ↓ho_seqS, ↓ho_dropS, ↓ho_retS, ↓ho_retF, ↓ho_retV, ↓ho_setS, ↓ho_asgS, ↓ho_parS, ↓ho_ifS, ↓ho_ownM, ↓ho_ownL, ↓ho_appendM, ↓ho_setLS, ↓ho_callRM, ↓ho_forS, ↓ho_lcM, ↓ho_lc2M, rtP_rt, rtP_nx, rmP_rt, rmP_nx, sl_fz, sl_ow, o_add, o_addT, o_addL, o_addS, o_sub, o_mul, o_fdiv, o_mod, o_pow, o_neg, o_cmp, o_eq, o_ne, o_eqS, o_neS, o_lenL, o_lenT, o_min, o_max, o_toInt, o_tupL, o_tupT, o_lstL, o_lstT, o_seqL, o_seqT, o_part, o_slL, o_slT, o_memL, o_memT, o_ixL, o_ixT, o_rng1, o_rng2, o_enum, ↓ho_peekM, fl_int, fl_str, fl_bool, List.getElem?_cons_zero, List.getElem?_cons_succ, List.set_cons_zero, List.set_cons_succ, List.length_cons, List.length_nil, decide_eq_true_eq, true_and, and_true, Bool.not_true, Bool.not_false, if_true, if_false, ↓reduceIte, Bool.false_eq_true, Nat.reduceAdd, Int.reduceToNat, Int.reducePow, Int.reduceAdd, Int.reduceSub, Int.reduceNeg, Int.reduceMul, Int.reduceDiv, Int.reduceMod, Int.reduceLT, Int.reduceLE, Nat.reduceLeDiff, Nat.reduceEqDiff, decide_true, decide_false, and_self, wipeR, restR, List.getD_cons_succ, List.getD_cons_zero]
    refine product_ok l3 g.g ?_
    simp only [varP_fz, varP_ow, getP_some, blP_b, flP_nx, flP_bk, flP_ct, flP_rt, retP_some, parP_2, ownP_some, ownLP_some, setKP_int, loP_nx, loP_ct, loP_bk, loP_rt, oo_some, oo_none, oo_map, oo_bind, oo_if, ↓ho_bindM, ↓ho_pureM, ↓ho_liftM, ↓ho_cM, ↓ho_bin, ↓ho_una, ↓ho_varM, ↓ho_getM, ↓ho_nilM, ↓ho_consM, ↓ho_tupM, ↓ho_lstM, ↓ho_callM, ↓ho_boolM, ↓ho_testM, ↓ho_notM, ↓ho_ite, ↓ho_andM, ↓ho_orM, ↓ho_blM, ↓ho_andV, ↓ho_orV, ↓ho_notV, ↓ho_ifM, ↓ho_chainM, ↓ho_chain3M, ↓ho_ixVM, ↓ho_partM, ↓ho_sliceM, ↓ho_seqM, ↓ho_rngM, ↓ho_putM, ↓ho_putO, ↓ho_gsNil, ↓ho_gsCons, ↓ho_tupG, ↓ho_yesM, ↓ho_wipeM, ↓ho_seqS, ↓ho_dropS, ↓ho_retS, ↓ho_retF, ↓ho_retV, ↓ho_setS, ↓ho_asgS, ↓ho_parS, ↓ho_ifS, ↓ho_ownM, ↓ho_ownL, ↓ho_appendM, ↓ho_setLS, ↓ho_callRM, ↓ho_forS, ↓ho_lcM, ↓ho_lc2M, rtP_rt, rtP_nx, rmP_rt, rmP_nx, sl_fz, sl_ow, o_add, o_addT, o_addL, o_addS, o_sub, o_mul, o_fdiv, o_mod, o_pow, o_neg, o_cmp, o_eq, o_ne, o_eqS, o_neS, o_lenL, o_lenT, o_min, o_max, o_toInt, o_tupL, o_tupT, o_lstL, o_lstT, o_seqL, o_seqT, o_part, o_slL, o_slT, o_memL, o_memT, o_ixL, o_ixT, o_rng1, o_rng2, o_enum, ↓ho_peekM, fl_int, fl_str, fl_bool, List.getElem?_cons_zero, List.getElem?_cons_succ, List.set_cons_zero, List.set_cons_succ, List.length_cons, List.length_nil, decide_eq_true_eq, true_and, and_true, Bool.not_true, Bool.not_false, if_true, if_false, ↓reduceIte, Bool.false_eq_true, Nat.reduceAdd, Int.reduceToNat, Int.reducePow, Int.reduceAdd, Int.reduceSub, Int.reduceNeg, Int.reduceMul, Int.reduceDiv, Int.reduceMod, Int.reduceLT, Int.reduceLE, Nat.reduceLeDiff, Nat.reduceEqDiff, decide_true, decide_false, and_self, wipeR, restR, List.getD_cons_succ, List.getD_cons_zero, hp]
    exact q
theorem workers_ok {gs : List Int} {Φ : Sl → Prop} (g : GridOk gs) (hp : prodI gs ≤ 64) (q : Φ (.ow (.list (wkD gs)))) : Oo (F_workers_of [tupI gs]) Φ := by
  refine oo_runF rfl ?_
  show Ho m_workers_of [some (.fz (tupI gs))] _
  unfold m_workers_of
  simp only [varP_fz, varP_ow, getP_some, blP_b, flP_nx, flP_bk, flP_ct, flP_rt, retP_some, parP_2, ownP_some, ownLP_some, setKP_int, loP_nx, loP_ct, loP_bk, loP_rt, oo_some, oo_none, oo_map, oo_bind, oo_if, ↓ho_bindM, ↓ho_pureM, ↓ho_liftM, ↓ho_cM, ↓ho_bin, ↓ho_una, ↓ho_varM, ↓ho_getM, ↓ho_nilM, ↓ho_consM, ↓ho_tupM, ↓ho_lstM, ↓ho_callM, ↓ho_boolM, ↓ho_testM, ↓ho_notM, ↓ho_ite, ↓ho_andM, ↓ho_orM, ↓ho_blM, ↓ho_andV, ↓ho_orV, ↓ho_notV, ↓ho_ifM, ↓ho_chainM, ↓ho_chain3M, ↓ho_ixVM, ↓ho_partM, ↓ho_sliceM, ↓ho_seqM, ↓ho_rngM, ↓ho_putM, ↓ho_putO, ↓ho_gsNil, ↓ho_gsCons, ↓ho_tupG, ↓ho_yesM, ↓ho_wipeM, ↓ho_seqS, ↓ho_dropS, ↓ho_retS, ↓ho_retF, ↓ho_retV, ↓ho_setS, ↓ho_asgS, ↓ho_parS, ↓ho_ifS, ↓ho_ownM, ↓ho_ownL, ↓ho_appendM, ↓ho_setLS, ↓ho_callRM, ↓ho_forS, ↓ho_lcM, ↓ho_lc2M, rtP_rt, rtP_nx, rmP_rt, rmP_nx, sl_fz, sl_ow, o_add, o_addT, o_addL, o_addS, o_sub, o_mul, o_fdiv, o_mod, o_pow, o_neg, o_cmp, o_eq, o_ne, o_eqS, o_neS, o_lenL, o_lenT, o_min, o_max, o_toInt, o_tupL, o_tupT, o_lstL, o_lstT, o_seqL, o_seqT, o_part, o_slL, o_slT, o_memL, o_memT, o_ixL, o_ixT, o_rng1, o_rng2, o_enum, ↓ho_peekM, fl_int, fl_str, fl_bool, List.getElem?_cons_zero, List.getElem?_cons_succ, List.set_cons_zero, List.set_cons_succ, List.length_cons, List.length_nil, decide_eq_true_eq, true_and, and_true, Bool.not_true, Bool.not_false, if_true, if_false, ↓reduceIte, Bool.false_eq_true, Nat.reduceAdd, Int.reduceToNat, Int.reducePow, Int.reduceAdd, Int.reduceSub, Int.reduceNeg, Int.reduceMul, Int.reduceDiv, Int.reduceMod, Int.reduceLT, Int.reduceLE, Nat.reduceLeDiff, Nat.reduceEqDiff, decide_true, decide_false, and_self, wipeR, restR, List.getD_cons_succ, List.getD_cons_zero]
  refine oo_runF rfl ?_
  show Ho m_need_grid [some (.fz (tupI gs))] _
  unfold m_need_grid
  simp only [varP_fz, varP_ow, getP_some, blP_b, flP_nx, flP_bk, flP_ct, flP_rt, retP_some, parP_2, ownP_some, ownLP_some, setKP_int, loP_nx, loP_ct, loP_bk, loP_rt, oo_some, oo_none, oo_map, oo_bind, oo_if, ↓ho_bindM, ↓ho_pureM, ↓ho_liftM, ↓ho_cM, ↓ho_bin, ↓ho_una, ↓ho_varM, ↓ho_getM, ↓ho_nilM, ↓ho_consM, ↓ho_tupM, ↓ho_lstM, ↓ho_callM, ↓ho_boolM, ↓ho_testM, ↓ho_notM, ↓ho_ite, ↓ho_andM, ↓ho_orM, ↓ho_blM, ↓ho_andV, ↓ho_orV, ↓ho_notV, ↓ho_ifM, ↓ho_chainM, ↓ho_chain3M, ↓ho_ixVM, ↓ho_partM, ↓ho_sliceM, ↓ho_seqM, ↓ho_rngM, ↓ho_putM, ↓ho_putO, ↓ho_gsNil, ↓ho_gsCons, ↓ho_tupG, ↓ho_yesM, ↓ho_wipeM, ↓ho_seqS, ↓ho_dropS, ↓ho_retS, ↓ho_retF, ↓ho_retV, ↓ho_setS, ↓ho_asgS, ↓ho_parS, ↓ho_ifS, ↓ho_ownM, ↓ho_ownL, ↓ho_appendM, ↓ho_setLS, ↓ho_callRM, ↓ho_forS, ↓ho_lcM, ↓ho_lc2M, rtP_rt, rtP_nx, rmP_rt, rmP_nx, sl_fz, sl_ow, o_add, o_addT, o_addL, o_addS, o_sub, o_mul, o_fdiv, o_mod, o_pow, o_neg, o_cmp, o_eq, o_ne, o_eqS, o_neS, o_lenL, o_lenT, o_min, o_max, o_toInt, o_tupL, o_tupT, o_lstL, o_lstT, o_seqL, o_seqT, o_part, o_slL, o_slT, o_memL, o_memT, o_ixL, o_ixT, o_rng1, o_rng2, o_enum, ↓ho_peekM, fl_int, fl_str, fl_bool, List.getElem?_cons_zero, List.getElem?_cons_succ, List.set_cons_zero, List.set_cons_succ, List.length_cons, List.length_nil, decide_eq_true_eq, true_and, and_true, Bool.not_true, Bool.not_false, if_true, if_false, ↓reduceIte, Bool.false_eq_true, Nat.reduceAdd, Int.reduceToNat, Int.reducePow, Int.reduceAdd, Int.reduceSub, Int.reduceNeg, Int.reduceMul, Int.reduceDiv, Int.reduceMod, Int.reduceLT, Int.reduceLE, Nat.reduceLeDiff, Nat.reduceEqDiff, decide_true, decide_false, and_self, wipeR, restR, List.getD_cons_succ, List.getD_cons_zero]
  refine is_grid_ok g hp ?_
  simp only [varP_fz, varP_ow, getP_some, blP_b, flP_nx, flP_bk, flP_ct, flP_rt, retP_some, parP_2, ownP_some, ownLP_some, setKP_int, loP_nx, loP_ct, loP_bk, loP_rt, oo_some, oo_none, oo_map, oo_bind, oo_if, ↓ho_bindM, ↓ho_pureM, ↓ho_liftM, ↓ho_cM, ↓ho_bin, ↓ho_una, ↓ho_varM, ↓ho_getM, ↓ho_nilM, ↓ho_consM, ↓ho_tupM, ↓ho_lstM, ↓ho_callM, ↓ho_boolM, ↓ho_testM, ↓ho_notM, ↓ho_ite, ↓ho_andM, ↓ho_orM, ↓ho_blM, ↓ho_andV, ↓ho_orV, ↓ho_notV, ↓ho_ifM, ↓ho_chainM, ↓ho_chain3M, ↓ho_ixVM, ↓ho_partM, ↓ho_sliceM, ↓ho_seqM, ↓ho_rngM, ↓ho_putM, ↓ho_putO, ↓ho_gsNil, ↓ho_gsCons, ↓ho_tupG, ↓ho_yesM, ↓ho_wipeM, ↓ho_seqS, ↓ho_dropS, ↓ho_retS, ↓ho_retF, ↓ho_retV, ↓ho_setS, ↓ho_asgS, ↓ho_parS, ↓ho_ifS, ↓ho_ownM, ↓ho_ownL, ↓ho_appendM, ↓ho_setLS, ↓ho_callRM, ↓ho_forS, ↓ho_lcM, ↓ho_lc2M, rtP_rt, rtP_nx, rmP_rt, rmP_nx, sl_fz, sl_ow, o_add, o_addT, o_addL, o_addS, o_sub, o_mul, o_fdiv, o_mod, o_pow, o_neg, o_cmp, o_eq, o_ne, o_eqS, o_neS, o_lenL, o_lenT, o_min, o_max, o_toInt, o_tupL, o_tupT, o_lstL, o_lstT, o_seqL, o_seqT, o_part, o_slL, o_slT, o_memL, o_memT, o_ixL, o_ixT, o_rng1, o_rng2, o_enum, ↓ho_peekM, fl_int, fl_str, fl_bool, List.getElem?_cons_zero, List.getElem?_cons_succ, List.set_cons_zero, List.set_cons_succ, List.length_cons, List.length_nil, decide_eq_true_eq, true_and, and_true, Bool.not_true, Bool.not_false, if_true, if_false, ↓reduceIte, Bool.false_eq_true, Nat.reduceAdd, Int.reduceToNat, Int.reducePow, Int.reduceAdd, Int.reduceSub, Int.reduceNeg, Int.reduceMul, Int.reduceDiv, Int.reduceMod, Int.reduceLT, Int.reduceLE, Nat.reduceLeDiff, Nat.reduceEqDiff, decide_true, decide_false, and_self, wipeR, restR, List.getD_cons_succ, List.getD_cons_zero]
  refine raw_workers_ok g.l3 g.g ?_
  exact q
theorem flat_take {fs : List (List Int)} {s : Int} {j : Nat} {o : List Int} (h : fs[j]? = some o) : (stepW (fs.take (j + 1)) s).map tupI = (stepW (fs.take j) s).map tupI ++ (rangeD 0 s).map (fun y => match y with | y => .tuple (o.map PyData.int ++ [y])) := by
  unfold stepW rangeD
  rw [List.take_add_one, h]
  simp [tupI, List.flatMap_append]
theorem tup_at {fs : List (List Int)} {k : Nat} {x : D} (h : (fs.map tupI)[k]? = some x) : ∃ o, fs[k]? = some o ∧ x = tupI o := by
  rw [List.getElem?_map] at h
  obtain ⟨i, h1, e⟩ := Option.map_eq_some_iff.mp h
  exact ⟨i, h1, e.symm⟩
theorem law_workers_ok {gs : List Int} {Φ : Sl → Prop} (h3 : gs.length ≤ 3) (h : ∀ x ∈ gs, 2 ≤ x ∧ x ≤ 8) (q : ∀ s : Sl, s.d = .list (wkD gs) → Φ s) : Oo (F__law_w_workers [tupI gs]) Φ := by
  refine oo_runF rfl ?_
  show Ho m__law_w_workers [some (.fz (tupI gs)), none, none, none, none, none] _
  unfold m__law_w_workers tupI
  simp only [varP_fz, varP_ow, getP_some, blP_b, flP_nx, flP_bk, flP_ct, flP_rt, retP_some, parP_2, ownP_some, ownLP_some, setKP_int, loP_nx, loP_ct, loP_bk, loP_rt, oo_some, oo_none, oo_map, oo_bind, oo_if, ↓ho_bindM, ↓ho_pureM, ↓ho_liftM, ↓ho_cM, ↓ho_bin, ↓ho_una, ↓ho_varM, ↓ho_getM, ↓ho_nilM, ↓ho_consM, ↓ho_tupM, ↓ho_lstM, ↓ho_callM, ↓ho_boolM, ↓ho_testM, ↓ho_notM, ↓ho_ite, ↓ho_andM, ↓ho_orM, ↓ho_blM, ↓ho_andV, ↓ho_orV, ↓ho_notV, ↓ho_ifM, ↓ho_chainM, ↓ho_chain3M, ↓ho_ixVM, ↓ho_partM, ↓ho_sliceM, ↓ho_seqM, ↓ho_rngM, ↓ho_putM, ↓ho_putO, ↓ho_gsNil, ↓ho_gsCons, ↓ho_tupG, ↓ho_yesM, ↓ho_wipeM, ↓ho_seqS, ↓ho_dropS, ↓ho_retS, ↓ho_retF, ↓ho_retV, ↓ho_setS, ↓ho_asgS, ↓ho_parS, ↓ho_ifS, ↓ho_ownM, ↓ho_ownL, ↓ho_appendM, ↓ho_setLS, ↓ho_callRM, ↓ho_forS, ↓ho_lcM, ↓ho_lc2M, rtP_rt, rtP_nx, rmP_rt, rmP_nx, sl_fz, sl_ow, o_add, o_addT, o_addL, o_addS, o_sub, o_mul, o_fdiv, o_mod, o_pow, o_neg, o_cmp, o_eq, o_ne, o_eqS, o_neS, o_lenL, o_lenT, o_min, o_max, o_toInt, o_tupL, o_tupT, o_lstL, o_lstT, o_seqL, o_seqT, o_part, o_slL, o_slT, o_memL, o_memT, o_ixL, o_ixT, o_rng1, o_rng2, o_enum, ↓ho_peekM, fl_int, fl_str, fl_bool, List.getElem?_cons_zero, List.getElem?_cons_succ, List.set_cons_zero, List.set_cons_succ, List.length_cons, List.length_nil, decide_eq_true_eq, true_and, and_true, Bool.not_true, Bool.not_false, if_true, if_false, ↓reduceIte, Bool.false_eq_true, Nat.reduceAdd, Int.reduceToNat, Int.reducePow, Int.reduceAdd, Int.reduceSub, Int.reduceNeg, Int.reduceMul, Int.reduceDiv, Int.reduceMod, Int.reduceLT, Int.reduceLE, Nat.reduceLeDiff, Nat.reduceEqDiff, decide_true, decide_false, and_self, wipeR, restR, List.getD_cons_succ, List.getD_cons_zero]
  refine ⟨by decide, by decide, ?_⟩
  refine ho_for_all (fun k ρ => k ≤ gs.length ∧ ∃ s1 s2 s3 s4, s1.d = .list (wkD (gs.take k)) ∧ ρ = [some (.fz (tupI gs)), some s1, s2, s3, s4, none]) _ _ 0 _ ⟨by omega, _, none, none, none, rfl, rfl⟩ ?_ ?_
  · rintro j x ρ1 hx ⟨hk, s1, s2, s3, s4, hs1, rfl⟩
    obtain ⟨i, hi, rfl⟩ := int_at hx
    have lt := (List.getElem?_eq_some_iff.mp hi).1
    have b := h i (List.mem_of_getElem? hi)
    have a := wk_ok (gs := gs) (fun x hx => (h x hx).2) j (by omega)
    have a' := a.step b.2
    have p := p8 (k := j + 1) (by omega)
    have p' := p8 (k := j) (by omega)
    rw [Nat.zero_add] at hk hs1 ⊢
    have fz : Ho (varM 1) [some (.fz (tupI gs)), some s1, some (.fz (.int i)), some (.ow (.list [])), s4, none] fun r ρ => r = .fz (.list (wkD (gs.take j))) ∧ ρ = [some (.fz (tupI gs)), some (.fz (.list (wkD (gs.take j)))), some (.fz (.int i)), some (.ow (.list [])), s4, none] := by
      cases s1 with
      | fz d => simp only [Sl.d] at hs1; subst hs1; simp only [varP_fz, varP_ow, getP_some, blP_b, flP_nx, flP_bk, flP_ct, flP_rt, retP_some, parP_2, ownP_some, ownLP_some, setKP_int, loP_nx, loP_ct, loP_bk, loP_rt, oo_some, oo_none, oo_map, oo_bind, oo_if, ↓ho_bindM, ↓ho_pureM, ↓ho_liftM, ↓ho_cM, ↓ho_bin, ↓ho_una, ↓ho_varM, ↓ho_getM, ↓ho_nilM, ↓ho_consM, ↓ho_tupM, ↓ho_lstM, ↓ho_callM, ↓ho_boolM, ↓ho_testM, ↓ho_notM, ↓ho_ite, ↓ho_andM, ↓ho_orM, ↓ho_blM, ↓ho_andV, ↓ho_orV, ↓ho_notV, ↓ho_ifM, ↓ho_chainM, ↓ho_chain3M, ↓ho_ixVM, ↓ho_partM, ↓ho_sliceM, ↓ho_seqM, ↓ho_rngM, ↓ho_putM, ↓ho_putO, ↓ho_gsNil, ↓ho_gsCons, ↓ho_tupG, ↓ho_yesM, ↓ho_wipeM, ↓ho_seqS, ↓ho_dropS, ↓ho_retS, ↓ho_retF, ↓ho_retV, ↓ho_setS, ↓ho_asgS, ↓ho_parS, ↓ho_ifS, ↓ho_ownM, ↓ho_ownL, ↓ho_appendM, ↓ho_setLS, ↓ho_callRM, ↓ho_forS, ↓ho_lcM, ↓ho_lc2M, rtP_rt, rtP_nx, rmP_rt, rmP_nx, sl_fz, sl_ow, o_add, o_addT, o_addL, o_addS, o_sub, o_mul, o_fdiv, o_mod, o_pow, o_neg, o_cmp, o_eq, o_ne, o_eqS, o_neS, o_lenL, o_lenT, o_min, o_max, o_toInt, o_tupL, o_tupT, o_lstL, o_lstT, o_seqL, o_seqT, o_part, o_slL, o_slT, o_memL, o_memT, o_ixL, o_ixT, o_rng1, o_rng2, o_enum, ↓ho_peekM, fl_int, fl_str, fl_bool, List.getElem?_cons_zero, List.getElem?_cons_succ, List.set_cons_zero, List.set_cons_succ, List.length_cons, List.length_nil, decide_eq_true_eq, true_and, and_true, Bool.not_true, Bool.not_false, if_true, if_false, ↓reduceIte, Bool.false_eq_true, Nat.reduceAdd, Int.reduceToNat, Int.reducePow, Int.reduceAdd, Int.reduceSub, Int.reduceNeg, Int.reduceMul, Int.reduceDiv, Int.reduceMod, Int.reduceLT, Int.reduceLE, Nat.reduceLeDiff, Nat.reduceEqDiff, decide_true, decide_false, and_self, wipeR, restR, List.getD_cons_succ, List.getD_cons_zero]
      | ow d => simp only [Sl.d] at hs1; subst hs1; simp only [varP_fz, varP_ow, getP_some, blP_b, flP_nx, flP_bk, flP_ct, flP_rt, retP_some, parP_2, ownP_some, ownLP_some, setKP_int, loP_nx, loP_ct, loP_bk, loP_rt, oo_some, oo_none, oo_map, oo_bind, oo_if, ↓ho_bindM, ↓ho_pureM, ↓ho_liftM, ↓ho_cM, ↓ho_bin, ↓ho_una, ↓ho_varM, ↓ho_getM, ↓ho_nilM, ↓ho_consM, ↓ho_tupM, ↓ho_lstM, ↓ho_callM, ↓ho_boolM, ↓ho_testM, ↓ho_notM, ↓ho_ite, ↓ho_andM, ↓ho_orM, ↓ho_blM, ↓ho_andV, ↓ho_orV, ↓ho_notV, ↓ho_ifM, ↓ho_chainM, ↓ho_chain3M, ↓ho_ixVM, ↓ho_partM, ↓ho_sliceM, ↓ho_seqM, ↓ho_rngM, ↓ho_putM, ↓ho_putO, ↓ho_gsNil, ↓ho_gsCons, ↓ho_tupG, ↓ho_yesM, ↓ho_wipeM, ↓ho_seqS, ↓ho_dropS, ↓ho_retS, ↓ho_retF, ↓ho_retV, ↓ho_setS, ↓ho_asgS, ↓ho_parS, ↓ho_ifS, ↓ho_ownM, ↓ho_ownL, ↓ho_appendM, ↓ho_setLS, ↓ho_callRM, ↓ho_forS, ↓ho_lcM, ↓ho_lc2M, rtP_rt, rtP_nx, rmP_rt, rmP_nx, sl_fz, sl_ow, o_add, o_addT, o_addL, o_addS, o_sub, o_mul, o_fdiv, o_mod, o_pow, o_neg, o_cmp, o_eq, o_ne, o_eqS, o_neS, o_lenL, o_lenT, o_min, o_max, o_toInt, o_tupL, o_tupT, o_lstL, o_lstT, o_seqL, o_seqT, o_part, o_slL, o_slT, o_memL, o_memT, o_ixL, o_ixT, o_rng1, o_rng2, o_enum, ↓ho_peekM, fl_int, fl_str, fl_bool, List.getElem?_cons_zero, List.getElem?_cons_succ, List.set_cons_zero, List.set_cons_succ, List.length_cons, List.length_nil, decide_eq_true_eq, true_and, and_true, Bool.not_true, Bool.not_false, if_true, if_false, ↓reduceIte, Bool.false_eq_true, Nat.reduceAdd, Int.reduceToNat, Int.reducePow, Int.reduceAdd, Int.reduceSub, Int.reduceNeg, Int.reduceMul, Int.reduceDiv, Int.reduceMod, Int.reduceLT, Int.reduceLE, Nat.reduceLeDiff, Nat.reduceEqDiff, decide_true, decide_false, and_self, wipeR, restR, List.getD_cons_succ, List.getD_cons_zero]
    rw [ho_putM, ho_seqS, ho_setS, ho_lstM, ho_nilM]
    refine ⟨by decide, ?_⟩
    simp only [List.set_cons_zero, List.set_cons_succ]
    rw [flP_nx, ho_seqS, ho_forS, ho_seqM]
    refine ho_mono fz fun r ρ hr => ?_
    obtain ⟨rfl, rfl⟩ := hr
    simp only [varP_fz, varP_ow, getP_some, blP_b, flP_nx, flP_bk, flP_ct, flP_rt, retP_some, parP_2, ownP_some, ownLP_some, setKP_int, loP_nx, loP_ct, loP_bk, loP_rt, oo_some, oo_none, oo_map, oo_bind, oo_if, ↓ho_bindM, ↓ho_pureM, ↓ho_liftM, ↓ho_cM, ↓ho_bin, ↓ho_una, ↓ho_varM, ↓ho_getM, ↓ho_nilM, ↓ho_consM, ↓ho_tupM, ↓ho_lstM, ↓ho_callM, ↓ho_boolM, ↓ho_testM, ↓ho_notM, ↓ho_ite, ↓ho_andM, ↓ho_orM, ↓ho_blM, ↓ho_andV, ↓ho_orV, ↓ho_notV, ↓ho_ifM, ↓ho_chainM, ↓ho_chain3M, ↓ho_ixVM, ↓ho_partM, ↓ho_sliceM, ↓ho_seqM, ↓ho_rngM, ↓ho_putM, ↓ho_putO, ↓ho_gsNil, ↓ho_gsCons, ↓ho_tupG, ↓ho_yesM, ↓ho_wipeM, ↓ho_seqS, ↓ho_dropS, ↓ho_retS, ↓ho_retF, ↓ho_retV, ↓ho_setS, ↓ho_asgS, ↓ho_parS, ↓ho_ifS, ↓ho_ownM, ↓ho_ownL, ↓ho_appendM, ↓ho_setLS, ↓ho_callRM, ↓ho_forS, ↓ho_lcM, ↓ho_lc2M, rtP_rt, rtP_nx, rmP_rt, rmP_nx, sl_fz, sl_ow, o_add, o_addT, o_addL, o_addS, o_sub, o_mul, o_fdiv, o_mod, o_pow, o_neg, o_cmp, o_eq, o_ne, o_eqS, o_neS, o_lenL, o_lenT, o_min, o_max, o_toInt, o_tupL, o_tupT, o_lstL, o_lstT, o_seqL, o_seqT, o_part, o_slL, o_slT, o_memL, o_memT, o_ixL, o_ixT, o_rng1, o_rng2, o_enum, ↓ho_peekM, fl_int, fl_str, fl_bool, List.getElem?_cons_zero, List.getElem?_cons_succ, List.set_cons_zero, List.set_cons_succ, List.length_cons, List.length_nil, decide_eq_true_eq, true_and, and_true, Bool.not_true, Bool.not_false, if_true, if_false, ↓reduceIte, Bool.false_eq_true, Nat.reduceAdd, Int.reduceToNat, Int.reducePow, Int.reduceAdd, Int.reduceSub, Int.reduceNeg, Int.reduceMul, Int.reduceDiv, Int.reduceMod, Int.reduceLT, Int.reduceLE, Nat.reduceLeDiff, Nat.reduceEqDiff, decide_true, decide_false, and_self, wipeR, restR, List.getD_cons_succ, List.getD_cons_zero]
    refine ho_for_all (fun k ρ => k ≤ (wk (gs.take j)).length ∧ ∃ s3 s4, s3.d = .list ((stepW ((wk (gs.take j)).take k) i).map tupI) ∧ ρ = [some (.fz (tupI gs)), some (.fz (.list (wkD (gs.take j)))), some (.fz (.int i)), some s3, s4, none]) _ _ 0 _ ⟨by omega, _, s4, rfl, rfl⟩ ?_ ?_
    · rintro n x ρ1 hx ⟨hn, s3, s4, hs3, rfl⟩
      rw [Nat.zero_add] at hn hs3 ⊢
      obtain ⟨o, ho, rfl⟩ := tup_at hx
      have ltn := (List.getElem?_eq_some_iff.mp ho).1
      have al := a.len
      have ow := a.wid o (List.mem_of_getElem? ho)
      have bd : ∀ k, (stepW ((wk (gs.take j)).take k) i).length ≤ 5000 := fun k => by
        rw [stepW_len]
        have := Nat.mul_le_mul (show ((wk (gs.take j)).take k).length ≤ 512 by rw [List.length_take]; omega) (show i.toNat ≤ 8 by omega)
        omega
      have fz : Ho (varM 3) [some (.fz (tupI gs)), some (.fz (.list (wkD (gs.take j)))), some (.fz (.int i)), some s3, some (.fz (tupI o)), none] fun r ρ => r = .fz (.list ((stepW ((wk (gs.take j)).take n) i).map tupI)) ∧ ρ = [some (.fz (tupI gs)), some (.fz (.list (wkD (gs.take j)))), some (.fz (.int i)), some (.fz (.list ((stepW ((wk (gs.take j)).take n) i).map tupI))), some (.fz (tupI o)), none] := by
        cases s3 with
        | fz d => simp only [Sl.d] at hs3; subst hs3; simp only [varP_fz, varP_ow, getP_some, blP_b, flP_nx, flP_bk, flP_ct, flP_rt, retP_some, parP_2, ownP_some, ownLP_some, setKP_int, loP_nx, loP_ct, loP_bk, loP_rt, oo_some, oo_none, oo_map, oo_bind, oo_if, ↓ho_bindM, ↓ho_pureM, ↓ho_liftM, ↓ho_cM, ↓ho_bin, ↓ho_una, ↓ho_varM, ↓ho_getM, ↓ho_nilM, ↓ho_consM, ↓ho_tupM, ↓ho_lstM, ↓ho_callM, ↓ho_boolM, ↓ho_testM, ↓ho_notM, ↓ho_ite, ↓ho_andM, ↓ho_orM, ↓ho_blM, ↓ho_andV, ↓ho_orV, ↓ho_notV, ↓ho_ifM, ↓ho_chainM, ↓ho_chain3M, ↓ho_ixVM, ↓ho_partM, ↓ho_sliceM, ↓ho_seqM, ↓ho_rngM, ↓ho_putM, ↓ho_putO, ↓ho_gsNil, ↓ho_gsCons, ↓ho_tupG, ↓ho_yesM, ↓ho_wipeM, ↓ho_seqS, ↓ho_dropS, ↓ho_retS, ↓ho_retF, ↓ho_retV, ↓ho_setS, ↓ho_asgS, ↓ho_parS, ↓ho_ifS, ↓ho_ownM, ↓ho_ownL, ↓ho_appendM, ↓ho_setLS, ↓ho_callRM, ↓ho_forS, ↓ho_lcM, ↓ho_lc2M, rtP_rt, rtP_nx, rmP_rt, rmP_nx, sl_fz, sl_ow, o_add, o_addT, o_addL, o_addS, o_sub, o_mul, o_fdiv, o_mod, o_pow, o_neg, o_cmp, o_eq, o_ne, o_eqS, o_neS, o_lenL, o_lenT, o_min, o_max, o_toInt, o_tupL, o_tupT, o_lstL, o_lstT, o_seqL, o_seqT, o_part, o_slL, o_slT, o_memL, o_memT, o_ixL, o_ixT, o_rng1, o_rng2, o_enum, ↓ho_peekM, fl_int, fl_str, fl_bool, List.getElem?_cons_zero, List.getElem?_cons_succ, List.set_cons_zero, List.set_cons_succ, List.length_cons, List.length_nil, decide_eq_true_eq, true_and, and_true, Bool.not_true, Bool.not_false, if_true, if_false, ↓reduceIte, Bool.false_eq_true, Nat.reduceAdd, Int.reduceToNat, Int.reducePow, Int.reduceAdd, Int.reduceSub, Int.reduceNeg, Int.reduceMul, Int.reduceDiv, Int.reduceMod, Int.reduceLT, Int.reduceLE, Nat.reduceLeDiff, Nat.reduceEqDiff, decide_true, decide_false, and_self, wipeR, restR, List.getD_cons_succ, List.getD_cons_zero]
        | ow d => simp only [Sl.d] at hs3; subst hs3; simp only [varP_fz, varP_ow, getP_some, blP_b, flP_nx, flP_bk, flP_ct, flP_rt, retP_some, parP_2, ownP_some, ownLP_some, setKP_int, loP_nx, loP_ct, loP_bk, loP_rt, oo_some, oo_none, oo_map, oo_bind, oo_if, ↓ho_bindM, ↓ho_pureM, ↓ho_liftM, ↓ho_cM, ↓ho_bin, ↓ho_una, ↓ho_varM, ↓ho_getM, ↓ho_nilM, ↓ho_consM, ↓ho_tupM, ↓ho_lstM, ↓ho_callM, ↓ho_boolM, ↓ho_testM, ↓ho_notM, ↓ho_ite, ↓ho_andM, ↓ho_orM, ↓ho_blM, ↓ho_andV, ↓ho_orV, ↓ho_notV, ↓ho_ifM, ↓ho_chainM, ↓ho_chain3M, ↓ho_ixVM, ↓ho_partM, ↓ho_sliceM, ↓ho_seqM, ↓ho_rngM, ↓ho_putM, ↓ho_putO, ↓ho_gsNil, ↓ho_gsCons, ↓ho_tupG, ↓ho_yesM, ↓ho_wipeM, ↓ho_seqS, ↓ho_dropS, ↓ho_retS, ↓ho_retF, ↓ho_retV, ↓ho_setS, ↓ho_asgS, ↓ho_parS, ↓ho_ifS, ↓ho_ownM, ↓ho_ownL, ↓ho_appendM, ↓ho_setLS, ↓ho_callRM, ↓ho_forS, ↓ho_lcM, ↓ho_lc2M, rtP_rt, rtP_nx, rmP_rt, rmP_nx, sl_fz, sl_ow, o_add, o_addT, o_addL, o_addS, o_sub, o_mul, o_fdiv, o_mod, o_pow, o_neg, o_cmp, o_eq, o_ne, o_eqS, o_neS, o_lenL, o_lenT, o_min, o_max, o_toInt, o_tupL, o_tupT, o_lstL, o_lstT, o_seqL, o_seqT, o_part, o_slL, o_slT, o_memL, o_memT, o_ixL, o_ixT, o_rng1, o_rng2, o_enum, ↓ho_peekM, fl_int, fl_str, fl_bool, List.getElem?_cons_zero, List.getElem?_cons_succ, List.set_cons_zero, List.set_cons_succ, List.length_cons, List.length_nil, decide_eq_true_eq, true_and, and_true, Bool.not_true, Bool.not_false, if_true, if_false, ↓reduceIte, Bool.false_eq_true, Nat.reduceAdd, Int.reduceToNat, Int.reducePow, Int.reduceAdd, Int.reduceSub, Int.reduceNeg, Int.reduceMul, Int.reduceDiv, Int.reduceMod, Int.reduceLT, Int.reduceLE, Nat.reduceLeDiff, Nat.reduceEqDiff, decide_true, decide_false, and_self, wipeR, restR, List.getD_cons_succ, List.getD_cons_zero]
      rw [ho_putM, ho_setS, ho_bin]
      simp only [List.set_cons_zero, List.set_cons_succ]
      refine ho_mono fz fun r ρ hr => ?_
      obtain ⟨rfl, rfl⟩ := hr
      simp only [varP_fz, varP_ow, getP_some, blP_b, flP_nx, flP_bk, flP_ct, flP_rt, retP_some, parP_2, ownP_some, ownLP_some, setKP_int, loP_nx, loP_ct, loP_bk, loP_rt, oo_some, oo_none, oo_map, oo_bind, oo_if, ↓ho_bindM, ↓ho_pureM, ↓ho_liftM, ↓ho_cM, ↓ho_bin, ↓ho_una, ↓ho_varM, ↓ho_getM, ↓ho_nilM, ↓ho_consM, ↓ho_tupM, ↓ho_lstM, ↓ho_callM, ↓ho_boolM, ↓ho_testM, ↓ho_notM, ↓ho_ite, ↓ho_andM, ↓ho_orM, ↓ho_blM, ↓ho_andV, ↓ho_orV, ↓ho_notV, ↓ho_ifM, ↓ho_chainM, ↓ho_chain3M, ↓ho_ixVM, ↓ho_partM, ↓ho_sliceM, ↓ho_seqM, ↓ho_rngM, ↓ho_putM, ↓ho_putO, ↓ho_gsNil, ↓ho_gsCons, ↓ho_tupG, ↓ho_yesM, ↓ho_wipeM, ↓ho_seqS, ↓ho_dropS, ↓ho_retS, ↓ho_retF, ↓ho_retV, ↓ho_setS, ↓ho_asgS, ↓ho_parS, ↓ho_ifS, ↓ho_ownM, ↓ho_ownL, ↓ho_appendM, ↓ho_setLS, ↓ho_callRM, ↓ho_forS, ↓ho_lcM, ↓ho_lc2M, rtP_rt, rtP_nx, rmP_rt, rmP_nx, sl_fz, sl_ow, o_add, o_addT, o_addL, o_addS, o_sub, o_mul, o_fdiv, o_mod, o_pow, o_neg, o_cmp, o_eq, o_ne, o_eqS, o_neS, o_lenL, o_lenT, o_min, o_max, o_toInt, o_tupL, o_tupT, o_lstL, o_lstT, o_seqL, o_seqT, o_part, o_slL, o_slT, o_memL, o_memT, o_ixL, o_ixT, o_rng1, o_rng2, o_enum, ↓ho_peekM, fl_int, fl_str, fl_bool, List.getElem?_cons_zero, List.getElem?_cons_succ, List.set_cons_zero, List.set_cons_succ, List.length_cons, List.length_nil, decide_eq_true_eq, true_and, and_true, Bool.not_true, Bool.not_false, if_true, if_false, ↓reduceIte, Bool.false_eq_true, Nat.reduceAdd, Int.reduceToNat, Int.reducePow, Int.reduceAdd, Int.reduceSub, Int.reduceNeg, Int.reduceMul, Int.reduceDiv, Int.reduceMod, Int.reduceLT, Int.reduceLE, Nat.reduceLeDiff, Nat.reduceEqDiff, decide_true, decide_false, and_self, wipeR, restR, List.getD_cons_succ, List.getD_cons_zero, noOwn]
      refine ⟨by omega, ⟨by unfold rangeD; rw [List.length_map, List.length_range]; exact sz _ (by omega), by rfl⟩, ?_⟩
      refine ho_lc_map (f := fun y => .tuple (o.map PyData.int ++ [y])) _ _ ?_ ?_
      · rintro y hy
        simp only [varP_fz, varP_ow, getP_some, blP_b, flP_nx, flP_bk, flP_ct, flP_rt, retP_some, parP_2, ownP_some, ownLP_some, setKP_int, loP_nx, loP_ct, loP_bk, loP_rt, oo_some, oo_none, oo_map, oo_bind, oo_if, ↓ho_bindM, ↓ho_pureM, ↓ho_liftM, ↓ho_cM, ↓ho_bin, ↓ho_una, ↓ho_varM, ↓ho_getM, ↓ho_nilM, ↓ho_consM, ↓ho_tupM, ↓ho_lstM, ↓ho_callM, ↓ho_boolM, ↓ho_testM, ↓ho_notM, ↓ho_ite, ↓ho_andM, ↓ho_orM, ↓ho_blM, ↓ho_andV, ↓ho_orV, ↓ho_notV, ↓ho_ifM, ↓ho_chainM, ↓ho_chain3M, ↓ho_ixVM, ↓ho_partM, ↓ho_sliceM, ↓ho_seqM, ↓ho_rngM, ↓ho_putM, ↓ho_putO, ↓ho_gsNil, ↓ho_gsCons, ↓ho_tupG, ↓ho_yesM, ↓ho_wipeM, ↓ho_seqS, ↓ho_dropS, ↓ho_retS, ↓ho_retF, ↓ho_retV, ↓ho_setS, ↓ho_asgS, ↓ho_parS, ↓ho_ifS, ↓ho_ownM, ↓ho_ownL, ↓ho_appendM, ↓ho_setLS, ↓ho_callRM, ↓ho_forS, ↓ho_lcM, ↓ho_lc2M, rtP_rt, rtP_nx, rmP_rt, rmP_nx, sl_fz, sl_ow, o_add, o_addT, o_addL, o_addS, o_sub, o_mul, o_fdiv, o_mod, o_pow, o_neg, o_cmp, o_eq, o_ne, o_eqS, o_neS, o_lenL, o_lenT, o_min, o_max, o_toInt, o_tupL, o_tupT, o_lstL, o_lstT, o_seqL, o_seqT, o_part, o_slL, o_slT, o_memL, o_memT, o_ixL, o_ixT, o_rng1, o_rng2, o_enum, ↓ho_peekM, fl_int, fl_str, fl_bool, List.getElem?_cons_zero, List.getElem?_cons_succ, List.set_cons_zero, List.set_cons_succ, List.length_cons, List.length_nil, decide_eq_true_eq, true_and, and_true, Bool.not_true, Bool.not_false, if_true, if_false, ↓reduceIte, Bool.false_eq_true, Nat.reduceAdd, Int.reduceToNat, Int.reducePow, Int.reduceAdd, Int.reduceSub, Int.reduceNeg, Int.reduceMul, Int.reduceDiv, Int.reduceMod, Int.reduceLT, Int.reduceLE, Nat.reduceLeDiff, Nat.reduceEqDiff, decide_true, decide_false, and_self, wipeR, restR, List.getD_cons_succ, List.getD_cons_zero, tupI]
        exact ⟨by decide, by rw [List.length_map]; exact sz _ (by omega)⟩
      · have e := flat_take (s := i) ho
        simp only [varP_fz, varP_ow, getP_some, blP_b, flP_nx, flP_bk, flP_ct, flP_rt, retP_some, parP_2, ownP_some, ownLP_some, setKP_int, loP_nx, loP_ct, loP_bk, loP_rt, oo_some, oo_none, oo_map, oo_bind, oo_if, ↓ho_bindM, ↓ho_pureM, ↓ho_liftM, ↓ho_cM, ↓ho_bin, ↓ho_una, ↓ho_varM, ↓ho_getM, ↓ho_nilM, ↓ho_consM, ↓ho_tupM, ↓ho_lstM, ↓ho_callM, ↓ho_boolM, ↓ho_testM, ↓ho_notM, ↓ho_ite, ↓ho_andM, ↓ho_orM, ↓ho_blM, ↓ho_andV, ↓ho_orV, ↓ho_notV, ↓ho_ifM, ↓ho_chainM, ↓ho_chain3M, ↓ho_ixVM, ↓ho_partM, ↓ho_sliceM, ↓ho_seqM, ↓ho_rngM, ↓ho_putM, ↓ho_putO, ↓ho_gsNil, ↓ho_gsCons, ↓ho_tupG, ↓ho_yesM, ↓ho_wipeM, ↓ho_seqS, ↓ho_dropS, ↓ho_retS, ↓ho_retF, ↓ho_retV, ↓ho_setS, ↓ho_asgS, ↓ho_parS, ↓ho_ifS, ↓ho_ownM, ↓ho_ownL, ↓ho_appendM, ↓ho_setLS, ↓ho_callRM, ↓ho_forS, ↓ho_lcM, ↓ho_lc2M, rtP_rt, rtP_nx, rmP_rt, rmP_nx, sl_fz, sl_ow, o_add, o_addT, o_addL, o_addS, o_sub, o_mul, o_fdiv, o_mod, o_pow, o_neg, o_cmp, o_eq, o_ne, o_eqS, o_neS, o_lenL, o_lenT, o_min, o_max, o_toInt, o_tupL, o_tupT, o_lstL, o_lstT, o_seqL, o_seqT, o_part, o_slL, o_slT, o_memL, o_memT, o_ixL, o_ixT, o_rng1, o_rng2, o_enum, ↓ho_peekM, fl_int, fl_str, fl_bool, List.getElem?_cons_zero, List.getElem?_cons_succ, List.set_cons_zero, List.set_cons_succ, List.length_cons, List.length_nil, decide_eq_true_eq, true_and, and_true, Bool.not_true, Bool.not_false, if_true, if_false, ↓reduceIte, Bool.false_eq_true, Nat.reduceAdd, Int.reduceToNat, Int.reducePow, Int.reduceAdd, Int.reduceSub, Int.reduceNeg, Int.reduceMul, Int.reduceDiv, Int.reduceMod, Int.reduceLT, Int.reduceLE, Nat.reduceLeDiff, Nat.reduceEqDiff, decide_true, decide_false, and_self, wipeR, restR, List.getD_cons_succ, List.getD_cons_zero]
        have e1 : (stepW ((wk (gs.take j)).take (n + 1)) i).length = ((stepW ((wk (gs.take j)).take n) i).map tupI).length + ((rangeD 0 i).map fun y => PyData.tuple (o.map PyData.int ++ [y])).length := by
          have := congrArg List.length e
          rw [List.length_map, List.length_append] at this
          exact this
        refine ⟨by rw [← e1]; exact sz _ (by have := bd (n + 1); omega), by omega, _, _, ?_, rfl⟩
        rw [e]; rfl
    · rintro ρ1 ⟨hn, s3, s4, hs3, rfl⟩
      rw [Nat.zero_add, wkD, List.length_map, List.take_length] at hs3
      have hw : wkD (gs.take (j + 1)) = (stepW (wk (gs.take j)) i).map tupI := by rw [wkD, wk_take hi]
      cases s3 with
      | fz d => simp only [Sl.d] at hs3; subst hs3; simp only [varP_fz, varP_ow, getP_some, blP_b, flP_nx, flP_bk, flP_ct, flP_rt, retP_some, parP_2, ownP_some, ownLP_some, setKP_int, loP_nx, loP_ct, loP_bk, loP_rt, oo_some, oo_none, oo_map, oo_bind, oo_if, ↓ho_bindM, ↓ho_pureM, ↓ho_liftM, ↓ho_cM, ↓ho_bin, ↓ho_una, ↓ho_varM, ↓ho_getM, ↓ho_nilM, ↓ho_consM, ↓ho_tupM, ↓ho_lstM, ↓ho_callM, ↓ho_boolM, ↓ho_testM, ↓ho_notM, ↓ho_ite, ↓ho_andM, ↓ho_orM, ↓ho_blM, ↓ho_andV, ↓ho_orV, ↓ho_notV, ↓ho_ifM, ↓ho_chainM, ↓ho_chain3M, ↓ho_ixVM, ↓ho_partM, ↓ho_sliceM, ↓ho_seqM, ↓ho_rngM, ↓ho_putM, ↓ho_putO, ↓ho_gsNil, ↓ho_gsCons, ↓ho_tupG, ↓ho_yesM, ↓ho_wipeM, ↓ho_seqS, ↓ho_dropS, ↓ho_retS, ↓ho_retF, ↓ho_retV, ↓ho_setS, ↓ho_asgS, ↓ho_parS, ↓ho_ifS, ↓ho_ownM, ↓ho_ownL, ↓ho_appendM, ↓ho_setLS, ↓ho_callRM, ↓ho_forS, ↓ho_lcM, ↓ho_lc2M, rtP_rt, rtP_nx, rmP_rt, rmP_nx, sl_fz, sl_ow, o_add, o_addT, o_addL, o_addS, o_sub, o_mul, o_fdiv, o_mod, o_pow, o_neg, o_cmp, o_eq, o_ne, o_eqS, o_neS, o_lenL, o_lenT, o_min, o_max, o_toInt, o_tupL, o_tupT, o_lstL, o_lstT, o_seqL, o_seqT, o_part, o_slL, o_slT, o_memL, o_memT, o_ixL, o_ixT, o_rng1, o_rng2, o_enum, ↓ho_peekM, fl_int, fl_str, fl_bool, List.getElem?_cons_zero, List.getElem?_cons_succ, List.set_cons_zero, List.set_cons_succ, List.length_cons, List.length_nil, decide_eq_true_eq, true_and, and_true, Bool.not_true, Bool.not_false, if_true, if_false, ↓reduceIte, Bool.false_eq_true, Nat.reduceAdd, Int.reduceToNat, Int.reducePow, Int.reduceAdd, Int.reduceSub, Int.reduceNeg, Int.reduceMul, Int.reduceDiv, Int.reduceMod, Int.reduceLT, Int.reduceLE, Nat.reduceLeDiff, Nat.reduceEqDiff, decide_true, decide_false, and_self, wipeR, restR, List.getD_cons_succ, List.getD_cons_zero]; exact ⟨by omega, _, _, _, _, by rw [hw]; rfl, rfl⟩
      | ow d => simp only [Sl.d] at hs3; subst hs3; simp only [varP_fz, varP_ow, getP_some, blP_b, flP_nx, flP_bk, flP_ct, flP_rt, retP_some, parP_2, ownP_some, ownLP_some, setKP_int, loP_nx, loP_ct, loP_bk, loP_rt, oo_some, oo_none, oo_map, oo_bind, oo_if, ↓ho_bindM, ↓ho_pureM, ↓ho_liftM, ↓ho_cM, ↓ho_bin, ↓ho_una, ↓ho_varM, ↓ho_getM, ↓ho_nilM, ↓ho_consM, ↓ho_tupM, ↓ho_lstM, ↓ho_callM, ↓ho_boolM, ↓ho_testM, ↓ho_notM, ↓ho_ite, ↓ho_andM, ↓ho_orM, ↓ho_blM, ↓ho_andV, ↓ho_orV, ↓ho_notV, ↓ho_ifM, ↓ho_chainM, ↓ho_chain3M, ↓ho_ixVM, ↓ho_partM, ↓ho_sliceM, ↓ho_seqM, ↓ho_rngM, ↓ho_putM, ↓ho_putO, ↓ho_gsNil, ↓ho_gsCons, ↓ho_tupG, ↓ho_yesM, ↓ho_wipeM, ↓ho_seqS, ↓ho_dropS, ↓ho_retS, ↓ho_retF, ↓ho_retV, ↓ho_setS, ↓ho_asgS, ↓ho_parS, ↓ho_ifS, ↓ho_ownM, ↓ho_ownL, ↓ho_appendM, ↓ho_setLS, ↓ho_callRM, ↓ho_forS, ↓ho_lcM, ↓ho_lc2M, rtP_rt, rtP_nx, rmP_rt, rmP_nx, sl_fz, sl_ow, o_add, o_addT, o_addL, o_addS, o_sub, o_mul, o_fdiv, o_mod, o_pow, o_neg, o_cmp, o_eq, o_ne, o_eqS, o_neS, o_lenL, o_lenT, o_min, o_max, o_toInt, o_tupL, o_tupT, o_lstL, o_lstT, o_seqL, o_seqT, o_part, o_slL, o_slT, o_memL, o_memT, o_ixL, o_ixT, o_rng1, o_rng2, o_enum, ↓ho_peekM, fl_int, fl_str, fl_bool, List.getElem?_cons_zero, List.getElem?_cons_succ, List.set_cons_zero, List.set_cons_succ, List.length_cons, List.length_nil, decide_eq_true_eq, true_and, and_true, Bool.not_true, Bool.not_false, if_true, if_false, ↓reduceIte, Bool.false_eq_true, Nat.reduceAdd, Int.reduceToNat, Int.reducePow, Int.reduceAdd, Int.reduceSub, Int.reduceNeg, Int.reduceMul, Int.reduceDiv, Int.reduceMod, Int.reduceLT, Int.reduceLE, Nat.reduceLeDiff, Nat.reduceEqDiff, decide_true, decide_false, and_self, wipeR, restR, List.getD_cons_succ, List.getD_cons_zero]; exact ⟨by omega, _, _, _, _, by rw [hw]; rfl, rfl⟩
  · rintro ρ1 ⟨hk, s1, s2, s3, s4, hs1, rfl⟩
    rw [List.length_map, Nat.zero_add, List.take_length] at hs1
    simp only [varP_fz, varP_ow, getP_some, blP_b, flP_nx, flP_bk, flP_ct, flP_rt, retP_some, parP_2, ownP_some, ownLP_some, setKP_int, loP_nx, loP_ct, loP_bk, loP_rt, oo_some, oo_none, oo_map, oo_bind, oo_if, ↓ho_bindM, ↓ho_pureM, ↓ho_liftM, ↓ho_cM, ↓ho_bin, ↓ho_una, ↓ho_varM, ↓ho_getM, ↓ho_nilM, ↓ho_consM, ↓ho_tupM, ↓ho_lstM, ↓ho_callM, ↓ho_boolM, ↓ho_testM, ↓ho_notM, ↓ho_ite, ↓ho_andM, ↓ho_orM, ↓ho_blM, ↓ho_andV, ↓ho_orV, ↓ho_notV, ↓ho_ifM, ↓ho_chainM, ↓ho_chain3M, ↓ho_ixVM, ↓ho_partM, ↓ho_sliceM, ↓ho_seqM, ↓ho_rngM, ↓ho_putM, ↓ho_putO, ↓ho_gsNil, ↓ho_gsCons, ↓ho_tupG, ↓ho_yesM, ↓ho_wipeM, ↓ho_seqS, ↓ho_dropS, ↓ho_retS, ↓ho_retF, ↓ho_retV, ↓ho_setS, ↓ho_asgS, ↓ho_parS, ↓ho_ifS, ↓ho_ownM, ↓ho_ownL, ↓ho_appendM, ↓ho_setLS, ↓ho_callRM, ↓ho_forS, ↓ho_lcM, ↓ho_lc2M, rtP_rt, rtP_nx, rmP_rt, rmP_nx, sl_fz, sl_ow, o_add, o_addT, o_addL, o_addS, o_sub, o_mul, o_fdiv, o_mod, o_pow, o_neg, o_cmp, o_eq, o_ne, o_eqS, o_neS, o_lenL, o_lenT, o_min, o_max, o_toInt, o_tupL, o_tupT, o_lstL, o_lstT, o_seqL, o_seqT, o_part, o_slL, o_slT, o_memL, o_memT, o_ixL, o_ixT, o_rng1, o_rng2, o_enum, ↓ho_peekM, fl_int, fl_str, fl_bool, List.getElem?_cons_zero, List.getElem?_cons_succ, List.set_cons_zero, List.set_cons_succ, List.length_cons, List.length_nil, decide_eq_true_eq, true_and, and_true, Bool.not_true, Bool.not_false, if_true, if_false, ↓reduceIte, Bool.false_eq_true, Nat.reduceAdd, Int.reduceToNat, Int.reducePow, Int.reduceAdd, Int.reduceSub, Int.reduceNeg, Int.reduceMul, Int.reduceDiv, Int.reduceMod, Int.reduceLT, Int.reduceLE, Nat.reduceLeDiff, Nat.reduceEqDiff, decide_true, decide_false, and_self, wipeR, restR, List.getD_cons_succ, List.getD_cons_zero]
    exact q _ hs1
end Lw

namespace Lw
open PySem PySem.Spec PyProof.Rows L2 Fx
theorem wkD_repr {ws : List (List Int)} (hl : ws.length ≤ 1000) (hw : ∀ o ∈ ws, o.length ≤ 3) (hn : ∀ o ∈ ws, ∀ i ∈ o, 0 ≤ i ∧ i < 8) : reprD [.list (ws.map tupI)] = some (.fz (.str (PyData.list (ws.map tupI)).shown)) := by
  have one : ∀ o : List Int, o.length ≤ 3 → (∀ i ∈ o, 0 ≤ i ∧ i < 8) → strsOk (tupI o) = true ∧ PyData.hasDict (tupI o) = false ∧ PyData.showable (tupI o) = true ∧ PyData.depth (tupI o) ≤ 1 ∧ wid (tupI o) ≤ 30 := by
    intro o h3 h8
    have lg8 : ∀ i ∈ o, i.natAbs.log2 ≤ 3 := fun i hi => log2_le (by have := h8 i hi; omega)
    unfold tupI
    rcases o with _ | ⟨a, _ | ⟨b, _ | ⟨c, _ | ⟨d, o⟩⟩⟩⟩
    · refine ⟨rfl, rfl, rfl, by decide, by decide⟩
    · have := lg8 a (by simp)
      refine ⟨rfl, rfl, ?_, ?_, ?_⟩
      · simp only [List.map, PyData.showable, PyData.showableAll, Bool.and_true, decide_eq_true_eq]; omega
      · simp [PyData.depth, PyData.depthAll]
      · simp only [List.map, wid, widAll]; omega
    · have := lg8 a (by simp)
      have := lg8 b (by simp)
      refine ⟨rfl, rfl, ?_, ?_, ?_⟩
      · simp only [List.map, PyData.showable, PyData.showableAll, Bool.and_true, Bool.and_eq_true, decide_eq_true_eq]; omega
      · simp [PyData.depth, PyData.depthAll]
      · simp only [List.map, wid, widAll]; omega
    · have := lg8 a (by simp)
      have := lg8 b (by simp)
      have := lg8 c (by simp)
      refine ⟨rfl, rfl, ?_, ?_, ?_⟩
      · simp only [List.map, PyData.showable, PyData.showableAll, Bool.and_true, Bool.and_eq_true, decide_eq_true_eq]; omega
      · simp [PyData.depth, PyData.depthAll]
      · simp only [List.map, wid, widAll]; omega
    · simp at h3
  have all : ∀ ws : List (List Int), (∀ o ∈ ws, o.length ≤ 3) → (∀ o ∈ ws, ∀ i ∈ o, 0 ≤ i ∧ i < 8) → strsOkAll (ws.map tupI) = true ∧ PyData.hasDictAll (ws.map tupI) = false ∧ PyData.showableAll (ws.map tupI) = true ∧ PyData.depthAll (ws.map tupI) ≤ 1 ∧ widAll (ws.map tupI) ≤ 32 * ws.length := by
    intro ws
    induction ws with
    | nil => intro _ _; exact ⟨rfl, rfl, rfl, by decide, by decide⟩
    | cons o os ih =>
      intro hw hn
      obtain ⟨a1, a2, a3, a4, a5⟩ := one o (hw o List.mem_cons_self) (hn o List.mem_cons_self)
      obtain ⟨b1, b2, b3, b4, b5⟩ := ih (fun o ho => hw o (List.mem_cons_of_mem _ ho)) (fun o ho => hn o (List.mem_cons_of_mem _ ho))
      refine ⟨?_, ?_, ?_, ?_, ?_⟩
      · rw [List.map_cons, strsOkAll, a1, b1]; rfl
      · rw [List.map_cons, PyData.hasDictAll, a2, b2]; rfl
      · rw [List.map_cons, PyData.showableAll, a3, b3]; rfl
      · rw [List.map_cons, PyData.depthAll]; omega
      · rw [List.map_cons, widAll, List.length_cons]; omega
  obtain ⟨b1, b2, b3, b4, b5⟩ := all ws hw hn
  exact repr_list b1 b2 b3 (by omega) (by unfold sizeLine; omega)
theorem grid_cut {gs : List Int} (g : GridOk gs) : GridOk (gs.take 1) ∧ prodI (gs.take 1) ≤ 64 := by
  obtain ⟨l1, l3, h⟩ := g
  rcases gs with _ | ⟨a, gs⟩
  · simp at l1
  · have := h a List.mem_cons_self
    refine ⟨⟨by simp, by simp, fun x hx => h x (List.mem_of_mem_take hx)⟩, ?_⟩
    simp [prodI]; omega
theorem law_true (ns : List Int) (hns : ns.length ≤ 63) : F_law [.list (ns.map PyData.int)] = some (.fz (.bool true)) := by
  suffices H : Oo (F_law [.list (ns.map PyData.int)]) fun r => r = .fz (.bool true) by
    obtain ⟨r, h, e⟩ := H
    rw [h, e]
  refine oo_runF rfl ?_
  show Ho m_law [some (.fz (.list (ns.map PyData.int))), none, none, none, none, none, none, none, none] _
  unfold m_law
  simp only [varP_fz, varP_ow, getP_some, blP_b, flP_nx, flP_bk, flP_ct, flP_rt, retP_some, parP_2, ownP_some, ownLP_some, setKP_int, loP_nx, loP_ct, loP_bk, loP_rt, oo_some, oo_none, oo_map, oo_bind, oo_if, ↓ho_bindM, ↓ho_pureM, ↓ho_liftM, ↓ho_cM, ↓ho_bin, ↓ho_una, ↓ho_varM, ↓ho_getM, ↓ho_nilM, ↓ho_consM, ↓ho_tupM, ↓ho_lstM, ↓ho_callM, ↓ho_boolM, ↓ho_testM, ↓ho_notM, ↓ho_ite, ↓ho_andM, ↓ho_orM, ↓ho_blM, ↓ho_andV, ↓ho_orV, ↓ho_notV, ↓ho_ifM, ↓ho_chainM, ↓ho_chain3M, ↓ho_ixVM, ↓ho_partM, ↓ho_sliceM, ↓ho_seqM, ↓ho_rngM, ↓ho_putM, ↓ho_putO, ↓ho_gsNil, ↓ho_gsCons, ↓ho_tupG, ↓ho_yesM, ↓ho_wipeM, ↓ho_seqS, ↓ho_dropS, ↓ho_retS, ↓ho_retF, ↓ho_retV, ↓ho_setS, ↓ho_asgS, ↓ho_parS, ↓ho_ifS, ↓ho_ownM, ↓ho_ownL, ↓ho_appendM, ↓ho_setLS, ↓ho_callRM, ↓ho_forS, ↓ho_lcM, ↓ho_lc2M, rtP_rt, rtP_nx, rmP_rt, rmP_nx, sl_fz, sl_ow, o_add, o_addT, o_addL, o_addS, o_sub, o_mul, o_fdiv, o_mod, o_pow, o_neg, o_cmp, o_eq, o_ne, o_eqS, o_neS, o_lenL, o_lenT, o_min, o_max, o_toInt, o_tupL, o_tupT, o_lstL, o_lstT, o_seqL, o_seqT, o_part, o_slL, o_slT, o_memL, o_memT, o_ixL, o_ixT, o_rng1, o_rng2, o_enum, ↓ho_peekM, fl_int, fl_str, fl_bool, List.getElem?_cons_zero, List.getElem?_cons_succ, List.set_cons_zero, List.set_cons_succ, List.length_cons, List.length_nil, decide_eq_true_eq, true_and, and_true, Bool.not_true, Bool.not_false, if_true, if_false, ↓reduceIte, Bool.false_eq_true, Nat.reduceAdd, Int.reduceToNat, Int.reducePow, Int.reduceAdd, Int.reduceSub, Int.reduceNeg, Int.reduceMul, Int.reduceDiv, Int.reduceMod, Int.reduceLT, Int.reduceLE, Nat.reduceLeDiff, Nat.reduceEqDiff, decide_true, decide_false, and_self, wipeR, restR, List.getD_cons_succ, List.getD_cons_zero]
  refine oo_mono (open_ok ns) fun s hs => ?_
  obtain ⟨d, rfl, hp⟩ := hs
  simp only [varP_fz, varP_ow, getP_some, blP_b, flP_nx, flP_bk, flP_ct, flP_rt, retP_some, parP_2, ownP_some, ownLP_some, setKP_int, loP_nx, loP_ct, loP_bk, loP_rt, oo_some, oo_none, oo_map, oo_bind, oo_if, ↓ho_bindM, ↓ho_pureM, ↓ho_liftM, ↓ho_cM, ↓ho_bin, ↓ho_una, ↓ho_varM, ↓ho_getM, ↓ho_nilM, ↓ho_consM, ↓ho_tupM, ↓ho_lstM, ↓ho_callM, ↓ho_boolM, ↓ho_testM, ↓ho_notM, ↓ho_ite, ↓ho_andM, ↓ho_orM, ↓ho_blM, ↓ho_andV, ↓ho_orV, ↓ho_notV, ↓ho_ifM, ↓ho_chainM, ↓ho_chain3M, ↓ho_ixVM, ↓ho_partM, ↓ho_sliceM, ↓ho_seqM, ↓ho_rngM, ↓ho_putM, ↓ho_putO, ↓ho_gsNil, ↓ho_gsCons, ↓ho_tupG, ↓ho_yesM, ↓ho_wipeM, ↓ho_seqS, ↓ho_dropS, ↓ho_retS, ↓ho_retF, ↓ho_retV, ↓ho_setS, ↓ho_asgS, ↓ho_parS, ↓ho_ifS, ↓ho_ownM, ↓ho_ownL, ↓ho_appendM, ↓ho_setLS, ↓ho_callRM, ↓ho_forS, ↓ho_lcM, ↓ho_lc2M, rtP_rt, rtP_nx, rmP_rt, rmP_nx, sl_fz, sl_ow, o_add, o_addT, o_addL, o_addS, o_sub, o_mul, o_fdiv, o_mod, o_pow, o_neg, o_cmp, o_eq, o_ne, o_eqS, o_neS, o_lenL, o_lenT, o_min, o_max, o_toInt, o_tupL, o_tupT, o_lstL, o_lstT, o_seqL, o_seqT, o_part, o_slL, o_slT, o_memL, o_memT, o_ixL, o_ixT, o_rng1, o_rng2, o_enum, ↓ho_peekM, fl_int, fl_str, fl_bool, List.getElem?_cons_zero, List.getElem?_cons_succ, List.set_cons_zero, List.set_cons_succ, List.length_cons, List.length_nil, decide_eq_true_eq, true_and, and_true, Bool.not_true, Bool.not_false, if_true, if_false, ↓reduceIte, Bool.false_eq_true, Nat.reduceAdd, Int.reduceToNat, Int.reducePow, Int.reduceAdd, Int.reduceSub, Int.reduceNeg, Int.reduceMul, Int.reduceDiv, Int.reduceMod, Int.reduceLT, Int.reduceLE, Nat.reduceLeDiff, Nat.reduceEqDiff, decide_true, decide_false, and_self, wipeR, restR, List.getD_cons_succ, List.getD_cons_zero]
  refine ho_for_all (fun t ρ => ∃ d, PenOk (100 * t) d ∧ ∃ s2 s3 s4 s5 s6 s7, ρ = [some (.fz (.list (ns.map PyData.int))), some (.ow d), s2, s3, s4, s5, s6, s7, none]) _ _ 0 _ ⟨d, hp, none, none, none, none, none, none, rfl⟩ ?_ ?_
  · rintro j x ρ1 hx ⟨d, hp, s2, s3, s4, s5, s6, s7, rfl⟩
    have hj : j < 3 := by
      have := (List.getElem?_eq_some_iff.mp hx).1
      rw [rangeD_len] at this; exact this
    rw [Nat.zero_add] at hp ⊢
    simp only [varP_fz, varP_ow, getP_some, blP_b, flP_nx, flP_bk, flP_ct, flP_rt, retP_some, parP_2, ownP_some, ownLP_some, setKP_int, loP_nx, loP_ct, loP_bk, loP_rt, oo_some, oo_none, oo_map, oo_bind, oo_if, ↓ho_bindM, ↓ho_pureM, ↓ho_liftM, ↓ho_cM, ↓ho_bin, ↓ho_una, ↓ho_varM, ↓ho_getM, ↓ho_nilM, ↓ho_consM, ↓ho_tupM, ↓ho_lstM, ↓ho_callM, ↓ho_boolM, ↓ho_testM, ↓ho_notM, ↓ho_ite, ↓ho_andM, ↓ho_orM, ↓ho_blM, ↓ho_andV, ↓ho_orV, ↓ho_notV, ↓ho_ifM, ↓ho_chainM, ↓ho_chain3M, ↓ho_ixVM, ↓ho_partM, ↓ho_sliceM, ↓ho_seqM, ↓ho_rngM, ↓ho_putM, ↓ho_putO, ↓ho_gsNil, ↓ho_gsCons, ↓ho_tupG, ↓ho_yesM, ↓ho_wipeM, ↓ho_seqS, ↓ho_dropS, ↓ho_retS, ↓ho_retF, ↓ho_retV, ↓ho_setS, ↓ho_asgS, ↓ho_parS, ↓ho_ifS, ↓ho_ownM, ↓ho_ownL, ↓ho_appendM, ↓ho_setLS, ↓ho_callRM, ↓ho_forS, ↓ho_lcM, ↓ho_lc2M, rtP_rt, rtP_nx, rmP_rt, rmP_nx, sl_fz, sl_ow, o_add, o_addT, o_addL, o_addS, o_sub, o_mul, o_fdiv, o_mod, o_pow, o_neg, o_cmp, o_eq, o_ne, o_eqS, o_neS, o_lenL, o_lenT, o_min, o_max, o_toInt, o_tupL, o_tupT, o_lstL, o_lstT, o_seqL, o_seqT, o_part, o_slL, o_slT, o_memL, o_memT, o_ixL, o_ixT, o_rng1, o_rng2, o_enum, ↓ho_peekM, fl_int, fl_str, fl_bool, List.getElem?_cons_zero, List.getElem?_cons_succ, List.set_cons_zero, List.set_cons_succ, List.length_cons, List.length_nil, decide_eq_true_eq, true_and, and_true, Bool.not_true, Bool.not_false, if_true, if_false, ↓reduceIte, Bool.false_eq_true, Nat.reduceAdd, Int.reduceToNat, Int.reducePow, Int.reduceAdd, Int.reduceSub, Int.reduceNeg, Int.reduceMul, Int.reduceDiv, Int.reduceMod, Int.reduceLT, Int.reduceLE, Nat.reduceLeDiff, Nat.reduceEqDiff, decide_true, decide_false, and_self, wipeR, restR, List.getD_cons_succ, List.getD_cons_zero]
    refine take_ok hp (by omega) (by omega) (bb (by omega)) fun sides d r0 r1 hp => ?_
    simp only [varP_fz, varP_ow, getP_some, blP_b, flP_nx, flP_bk, flP_ct, flP_rt, retP_some, parP_2, ownP_some, ownLP_some, setKP_int, loP_nx, loP_ct, loP_bk, loP_rt, oo_some, oo_none, oo_map, oo_bind, oo_if, ↓ho_bindM, ↓ho_pureM, ↓ho_liftM, ↓ho_cM, ↓ho_bin, ↓ho_una, ↓ho_varM, ↓ho_getM, ↓ho_nilM, ↓ho_consM, ↓ho_tupM, ↓ho_lstM, ↓ho_callM, ↓ho_boolM, ↓ho_testM, ↓ho_notM, ↓ho_ite, ↓ho_andM, ↓ho_orM, ↓ho_blM, ↓ho_andV, ↓ho_orV, ↓ho_notV, ↓ho_ifM, ↓ho_chainM, ↓ho_chain3M, ↓ho_ixVM, ↓ho_partM, ↓ho_sliceM, ↓ho_seqM, ↓ho_rngM, ↓ho_putM, ↓ho_putO, ↓ho_gsNil, ↓ho_gsCons, ↓ho_tupG, ↓ho_yesM, ↓ho_wipeM, ↓ho_seqS, ↓ho_dropS, ↓ho_retS, ↓ho_retF, ↓ho_retV, ↓ho_setS, ↓ho_asgS, ↓ho_parS, ↓ho_ifS, ↓ho_ownM, ↓ho_ownL, ↓ho_appendM, ↓ho_setLS, ↓ho_callRM, ↓ho_forS, ↓ho_lcM, ↓ho_lc2M, rtP_rt, rtP_nx, rmP_rt, rmP_nx, sl_fz, sl_ow, o_add, o_addT, o_addL, o_addS, o_sub, o_mul, o_fdiv, o_mod, o_pow, o_neg, o_cmp, o_eq, o_ne, o_eqS, o_neS, o_lenL, o_lenT, o_min, o_max, o_toInt, o_tupL, o_tupT, o_lstL, o_lstT, o_seqL, o_seqT, o_part, o_slL, o_slT, o_memL, o_memT, o_ixL, o_ixT, o_rng1, o_rng2, o_enum, ↓ho_peekM, fl_int, fl_str, fl_bool, List.getElem?_cons_zero, List.getElem?_cons_succ, List.set_cons_zero, List.set_cons_succ, List.length_cons, List.length_nil, decide_eq_true_eq, true_and, and_true, Bool.not_true, Bool.not_false, if_true, if_false, ↓reduceIte, Bool.false_eq_true, Nat.reduceAdd, Int.reduceToNat, Int.reducePow, Int.reduceAdd, Int.reduceSub, Int.reduceNeg, Int.reduceMul, Int.reduceDiv, Int.reduceMod, Int.reduceLT, Int.reduceLE, Nat.reduceLeDiff, Nat.reduceEqDiff, decide_true, decide_false, and_self, wipeR, restR, List.getD_cons_succ, List.getD_cons_zero]
    have hs1 : (rangeD 0 (1 + sides)).length = (1 + sides).toNat := rangeD_len
    refine ⟨by omega, ⟨by rw [hs1]; exact sz _ (by omega), by rfl⟩, ?_⟩
    refine ho_lc_inv (fun rs ρ => rs.length ≤ 3 → ∃ gs : List Int, rs = gs.map PyData.int ∧ (∀ x ∈ gs, 2 ≤ x ∧ x ≤ 8) ∧ ∃ d, PenOk (100 * j + 1 + 2 * rs.length) d ∧ ρ = [some (.fz (.list (ns.map PyData.int))), some (.ow d), some (.fz x), s3, s4, s5, s6, s7, none]) _ _ _ (fun _ => ⟨[], rfl, by simp, d, hp, rfl⟩) ?_ ?_
    · rintro rs x ρ1 hx hl h
      have hl3 : rs.length < 3 := by omega
      obtain ⟨gs, rfl, hg, d, hp, rfl⟩ := h (by omega)
      simp only [varP_fz, varP_ow, getP_some, blP_b, flP_nx, flP_bk, flP_ct, flP_rt, retP_some, parP_2, ownP_some, ownLP_some, setKP_int, loP_nx, loP_ct, loP_bk, loP_rt, oo_some, oo_none, oo_map, oo_bind, oo_if, ↓ho_bindM, ↓ho_pureM, ↓ho_liftM, ↓ho_cM, ↓ho_bin, ↓ho_una, ↓ho_varM, ↓ho_getM, ↓ho_nilM, ↓ho_consM, ↓ho_tupM, ↓ho_lstM, ↓ho_callM, ↓ho_boolM, ↓ho_testM, ↓ho_notM, ↓ho_ite, ↓ho_andM, ↓ho_orM, ↓ho_blM, ↓ho_andV, ↓ho_orV, ↓ho_notV, ↓ho_ifM, ↓ho_chainM, ↓ho_chain3M, ↓ho_ixVM, ↓ho_partM, ↓ho_sliceM, ↓ho_seqM, ↓ho_rngM, ↓ho_putM, ↓ho_putO, ↓ho_gsNil, ↓ho_gsCons, ↓ho_tupG, ↓ho_yesM, ↓ho_wipeM, ↓ho_seqS, ↓ho_dropS, ↓ho_retS, ↓ho_retF, ↓ho_retV, ↓ho_setS, ↓ho_asgS, ↓ho_parS, ↓ho_ifS, ↓ho_ownM, ↓ho_ownL, ↓ho_appendM, ↓ho_setLS, ↓ho_callRM, ↓ho_forS, ↓ho_lcM, ↓ho_lc2M, rtP_rt, rtP_nx, rmP_rt, rmP_nx, sl_fz, sl_ow, o_add, o_addT, o_addL, o_addS, o_sub, o_mul, o_fdiv, o_mod, o_pow, o_neg, o_cmp, o_eq, o_ne, o_eqS, o_neS, o_lenL, o_lenT, o_min, o_max, o_toInt, o_tupL, o_tupT, o_lstL, o_lstT, o_seqL, o_seqT, o_part, o_slL, o_slT, o_memL, o_memT, o_ixL, o_ixT, o_rng1, o_rng2, o_enum, ↓ho_peekM, fl_int, fl_str, fl_bool, List.getElem?_cons_zero, List.getElem?_cons_succ, List.set_cons_zero, List.set_cons_succ, List.length_cons, List.length_nil, decide_eq_true_eq, true_and, and_true, Bool.not_true, Bool.not_false, if_true, if_false, ↓reduceIte, Bool.false_eq_true, Nat.reduceAdd, Int.reduceToNat, Int.reducePow, Int.reduceAdd, Int.reduceSub, Int.reduceNeg, Int.reduceMul, Int.reduceDiv, Int.reduceMod, Int.reduceLT, Int.reduceLE, Nat.reduceLeDiff, Nat.reduceEqDiff, decide_true, decide_false, and_self, wipeR, restR, List.getD_cons_succ, List.getD_cons_zero]
      rw [List.length_map] at hp hl3
      refine ⟨by decide, ?_⟩
      refine pick_ok hp (by omega) (by simp only [List.length_cons]; omega) (by simp only [List.length_cons, List.length_nil]; omega) fun k y d hk hy hp => ?_
      have hy' : ∃ m : Int, y = .int m ∧ 2 ≤ m ∧ m ≤ 7 := by
        have hk' : k < 3 := hk
        rcases k with _ | _ | _ | k
        · exact ⟨2, (Option.some.inj hy).symm, by decide, by decide⟩
        · exact ⟨3, (Option.some.inj hy).symm, by decide, by decide⟩
        · exact ⟨7, (Option.some.inj hy).symm, by decide, by decide⟩
        · omega
      obtain ⟨m, rfl, m2, m7⟩ := hy'
      simp only [varP_fz, varP_ow, getP_some, blP_b, flP_nx, flP_bk, flP_ct, flP_rt, retP_some, parP_2, ownP_some, ownLP_some, setKP_int, loP_nx, loP_ct, loP_bk, loP_rt, oo_some, oo_none, oo_map, oo_bind, oo_if, ↓ho_bindM, ↓ho_pureM, ↓ho_liftM, ↓ho_cM, ↓ho_bin, ↓ho_una, ↓ho_varM, ↓ho_getM, ↓ho_nilM, ↓ho_consM, ↓ho_tupM, ↓ho_lstM, ↓ho_callM, ↓ho_boolM, ↓ho_testM, ↓ho_notM, ↓ho_ite, ↓ho_andM, ↓ho_orM, ↓ho_blM, ↓ho_andV, ↓ho_orV, ↓ho_notV, ↓ho_ifM, ↓ho_chainM, ↓ho_chain3M, ↓ho_ixVM, ↓ho_partM, ↓ho_sliceM, ↓ho_seqM, ↓ho_rngM, ↓ho_putM, ↓ho_putO, ↓ho_gsNil, ↓ho_gsCons, ↓ho_tupG, ↓ho_yesM, ↓ho_wipeM, ↓ho_seqS, ↓ho_dropS, ↓ho_retS, ↓ho_retF, ↓ho_retV, ↓ho_setS, ↓ho_asgS, ↓ho_parS, ↓ho_ifS, ↓ho_ownM, ↓ho_ownL, ↓ho_appendM, ↓ho_setLS, ↓ho_callRM, ↓ho_forS, ↓ho_lcM, ↓ho_lc2M, rtP_rt, rtP_nx, rmP_rt, rmP_nx, sl_fz, sl_ow, o_add, o_addT, o_addL, o_addS, o_sub, o_mul, o_fdiv, o_mod, o_pow, o_neg, o_cmp, o_eq, o_ne, o_eqS, o_neS, o_lenL, o_lenT, o_min, o_max, o_toInt, o_tupL, o_tupT, o_lstL, o_lstT, o_seqL, o_seqT, o_part, o_slL, o_slT, o_memL, o_memT, o_ixL, o_ixT, o_rng1, o_rng2, o_enum, ↓ho_peekM, fl_int, fl_str, fl_bool, List.getElem?_cons_zero, List.getElem?_cons_succ, List.set_cons_zero, List.set_cons_succ, List.length_cons, List.length_nil, decide_eq_true_eq, true_and, and_true, Bool.not_true, Bool.not_false, if_true, if_false, ↓reduceIte, Bool.false_eq_true, Nat.reduceAdd, Int.reduceToNat, Int.reducePow, Int.reduceAdd, Int.reduceSub, Int.reduceNeg, Int.reduceMul, Int.reduceDiv, Int.reduceMod, Int.reduceLT, Int.reduceLE, Nat.reduceLeDiff, Nat.reduceEqDiff, decide_true, decide_false, and_self, wipeR, restR, List.getD_cons_succ, List.getD_cons_zero]
      refine take_ok hp (by omega) (by omega) (bb (by omega)) fun r d q0 q1 hp => ?_
      simp only [varP_fz, varP_ow, getP_some, blP_b, flP_nx, flP_bk, flP_ct, flP_rt, retP_some, parP_2, ownP_some, ownLP_some, setKP_int, loP_nx, loP_ct, loP_bk, loP_rt, oo_some, oo_none, oo_map, oo_bind, oo_if, ↓ho_bindM, ↓ho_pureM, ↓ho_liftM, ↓ho_cM, ↓ho_bin, ↓ho_una, ↓ho_varM, ↓ho_getM, ↓ho_nilM, ↓ho_consM, ↓ho_tupM, ↓ho_lstM, ↓ho_callM, ↓ho_boolM, ↓ho_testM, ↓ho_notM, ↓ho_ite, ↓ho_andM, ↓ho_orM, ↓ho_blM, ↓ho_andV, ↓ho_orV, ↓ho_notV, ↓ho_ifM, ↓ho_chainM, ↓ho_chain3M, ↓ho_ixVM, ↓ho_partM, ↓ho_sliceM, ↓ho_seqM, ↓ho_rngM, ↓ho_putM, ↓ho_putO, ↓ho_gsNil, ↓ho_gsCons, ↓ho_tupG, ↓ho_yesM, ↓ho_wipeM, ↓ho_seqS, ↓ho_dropS, ↓ho_retS, ↓ho_retF, ↓ho_retV, ↓ho_setS, ↓ho_asgS, ↓ho_parS, ↓ho_ifS, ↓ho_ownM, ↓ho_ownL, ↓ho_appendM, ↓ho_setLS, ↓ho_callRM, ↓ho_forS, ↓ho_lcM, ↓ho_lc2M, rtP_rt, rtP_nx, rmP_rt, rmP_nx, sl_fz, sl_ow, o_add, o_addT, o_addL, o_addS, o_sub, o_mul, o_fdiv, o_mod, o_pow, o_neg, o_cmp, o_eq, o_ne, o_eqS, o_neS, o_lenL, o_lenT, o_min, o_max, o_toInt, o_tupL, o_tupT, o_lstL, o_lstT, o_seqL, o_seqT, o_part, o_slL, o_slT, o_memL, o_memT, o_ixL, o_ixT, o_rng1, o_rng2, o_enum, ↓ho_peekM, fl_int, fl_str, fl_bool, List.getElem?_cons_zero, List.getElem?_cons_succ, List.set_cons_zero, List.set_cons_succ, List.length_cons, List.length_nil, decide_eq_true_eq, true_and, and_true, Bool.not_true, Bool.not_false, if_true, if_false, ↓reduceIte, Bool.false_eq_true, Nat.reduceAdd, Int.reduceToNat, Int.reducePow, Int.reduceAdd, Int.reduceSub, Int.reduceNeg, Int.reduceMul, Int.reduceDiv, Int.reduceMod, Int.reduceLT, Int.reduceLE, Nat.reduceLeDiff, Nat.reduceEqDiff, decide_true, decide_false, and_self, wipeR, restR, List.getD_cons_succ, List.getD_cons_zero]
      intro hl'
      refine ⟨gs ++ [2 + r], by simp, ?_, d, hp.le (by rw [List.length_append, List.length_map, List.length_singleton]; omega), rfl⟩
      intro x hx
      rcases List.mem_append.mp hx with hx | hx
      · exact hg x hx
      · rw [List.mem_singleton.mp hx]; omega
    · rintro rs ρ1 hl h
      obtain ⟨gs, rfl, hg, d, hp, rfl⟩ := h (by omega)
      rw [List.length_map] at hl hp
      have g : GridOk gs := ⟨by omega, by omega, hg⟩
      simp only [varP_fz, varP_ow, getP_some, blP_b, flP_nx, flP_bk, flP_ct, flP_rt, retP_some, parP_2, ownP_some, ownLP_some, setKP_int, loP_nx, loP_ct, loP_bk, loP_rt, oo_some, oo_none, oo_map, oo_bind, oo_if, ↓ho_bindM, ↓ho_pureM, ↓ho_liftM, ↓ho_cM, ↓ho_bin, ↓ho_una, ↓ho_varM, ↓ho_getM, ↓ho_nilM, ↓ho_consM, ↓ho_tupM, ↓ho_lstM, ↓ho_callM, ↓ho_boolM, ↓ho_testM, ↓ho_notM, ↓ho_ite, ↓ho_andM, ↓ho_orM, ↓ho_blM, ↓ho_andV, ↓ho_orV, ↓ho_notV, ↓ho_ifM, ↓ho_chainM, ↓ho_chain3M, ↓ho_ixVM, ↓ho_partM, ↓ho_sliceM, ↓ho_seqM, ↓ho_rngM, ↓ho_putM, ↓ho_putO, ↓ho_gsNil, ↓ho_gsCons, ↓ho_tupG, ↓ho_yesM, ↓ho_wipeM, ↓ho_seqS, ↓ho_dropS, ↓ho_retS, ↓ho_retF, ↓ho_retV, ↓ho_setS, ↓ho_asgS, ↓ho_parS, ↓ho_ifS, ↓ho_ownM, ↓ho_ownL, ↓ho_appendM, ↓ho_setLS, ↓ho_callRM, ↓ho_forS, ↓ho_lcM, ↓ho_lc2M, rtP_rt, rtP_nx, rmP_rt, rmP_nx, sl_fz, sl_ow, o_add, o_addT, o_addL, o_addS, o_sub, o_mul, o_fdiv, o_mod, o_pow, o_neg, o_cmp, o_eq, o_ne, o_eqS, o_neS, o_lenL, o_lenT, o_min, o_max, o_toInt, o_tupL, o_tupT, o_lstL, o_lstT, o_seqL, o_seqT, o_part, o_slL, o_slT, o_memL, o_memT, o_ixL, o_ixT, o_rng1, o_rng2, o_enum, ↓ho_peekM, fl_int, fl_str, fl_bool, List.getElem?_cons_zero, List.getElem?_cons_succ, List.set_cons_zero, List.set_cons_succ, List.length_cons, List.length_nil, decide_eq_true_eq, true_and, and_true, Bool.not_true, Bool.not_false, if_true, if_false, ↓reduceIte, Bool.false_eq_true, Nat.reduceAdd, Int.reduceToNat, Int.reducePow, Int.reduceAdd, Int.reduceSub, Int.reduceNeg, Int.reduceMul, Int.reduceDiv, Int.reduceMod, Int.reduceLT, Int.reduceLE, Nat.reduceLeDiff, Nat.reduceEqDiff, decide_true, decide_false, and_self, wipeR, restR, List.getD_cons_succ, List.getD_cons_zero]
      refine law_product_ok g.l3 g.g ?_
      simp only [varP_fz, varP_ow, getP_some, blP_b, flP_nx, flP_bk, flP_ct, flP_rt, retP_some, parP_2, ownP_some, ownLP_some, setKP_int, loP_nx, loP_ct, loP_bk, loP_rt, oo_some, oo_none, oo_map, oo_bind, oo_if, ↓ho_bindM, ↓ho_pureM, ↓ho_liftM, ↓ho_cM, ↓ho_bin, ↓ho_una, ↓ho_varM, ↓ho_getM, ↓ho_nilM, ↓ho_consM, ↓ho_tupM, ↓ho_lstM, ↓ho_callM, ↓ho_boolM, ↓ho_testM, ↓ho_notM, ↓ho_ite, ↓ho_andM, ↓ho_orM, ↓ho_blM, ↓ho_andV, ↓ho_orV, ↓ho_notV, ↓ho_ifM, ↓ho_chainM, ↓ho_chain3M, ↓ho_ixVM, ↓ho_partM, ↓ho_sliceM, ↓ho_seqM, ↓ho_rngM, ↓ho_putM, ↓ho_putO, ↓ho_gsNil, ↓ho_gsCons, ↓ho_tupG, ↓ho_yesM, ↓ho_wipeM, ↓ho_seqS, ↓ho_dropS, ↓ho_retS, ↓ho_retF, ↓ho_retV, ↓ho_setS, ↓ho_asgS, ↓ho_parS, ↓ho_ifS, ↓ho_ownM, ↓ho_ownL, ↓ho_appendM, ↓ho_setLS, ↓ho_callRM, ↓ho_forS, ↓ho_lcM, ↓ho_lc2M, rtP_rt, rtP_nx, rmP_rt, rmP_nx, sl_fz, sl_ow, o_add, o_addT, o_addL, o_addS, o_sub, o_mul, o_fdiv, o_mod, o_pow, o_neg, o_cmp, o_eq, o_ne, o_eqS, o_neS, o_lenL, o_lenT, o_min, o_max, o_toInt, o_tupL, o_tupT, o_lstL, o_lstT, o_seqL, o_seqT, o_part, o_slL, o_slT, o_memL, o_memT, o_ixL, o_ixT, o_rng1, o_rng2, o_enum, ↓ho_peekM, fl_int, fl_str, fl_bool, List.getElem?_cons_zero, List.getElem?_cons_succ, List.set_cons_zero, List.set_cons_succ, List.length_cons, List.length_nil, decide_eq_true_eq, true_and, and_true, Bool.not_true, Bool.not_false, if_true, if_false, ↓reduceIte, Bool.false_eq_true, Nat.reduceAdd, Int.reduceToNat, Int.reducePow, Int.reduceAdd, Int.reduceSub, Int.reduceNeg, Int.reduceMul, Int.reduceDiv, Int.reduceMod, Int.reduceLT, Int.reduceLE, Nat.reduceLeDiff, Nat.reduceEqDiff, decide_true, decide_false, and_self, wipeR, restR, List.getD_cons_succ, List.getD_cons_zero]
      have hp := hp.le (show 100 * j + 1 + 2 * gs.length ≤ 100 * j + 7 by have := g.l3; omega)
      by_cases h64 : prodI gs ≤ 64
      · simp only [varP_fz, varP_ow, getP_some, blP_b, flP_nx, flP_bk, flP_ct, flP_rt, retP_some, parP_2, ownP_some, ownLP_some, setKP_int, loP_nx, loP_ct, loP_bk, loP_rt, oo_some, oo_none, oo_map, oo_bind, oo_if, ↓ho_bindM, ↓ho_pureM, ↓ho_liftM, ↓ho_cM, ↓ho_bin, ↓ho_una, ↓ho_varM, ↓ho_getM, ↓ho_nilM, ↓ho_consM, ↓ho_tupM, ↓ho_lstM, ↓ho_callM, ↓ho_boolM, ↓ho_testM, ↓ho_notM, ↓ho_ite, ↓ho_andM, ↓ho_orM, ↓ho_blM, ↓ho_andV, ↓ho_orV, ↓ho_notV, ↓ho_ifM, ↓ho_chainM, ↓ho_chain3M, ↓ho_ixVM, ↓ho_partM, ↓ho_sliceM, ↓ho_seqM, ↓ho_rngM, ↓ho_putM, ↓ho_putO, ↓ho_gsNil, ↓ho_gsCons, ↓ho_tupG, ↓ho_yesM, ↓ho_wipeM, ↓ho_seqS, ↓ho_dropS, ↓ho_retS, ↓ho_retF, ↓ho_retV, ↓ho_setS, ↓ho_asgS, ↓ho_parS, ↓ho_ifS, ↓ho_ownM, ↓ho_ownL, ↓ho_appendM, ↓ho_setLS, ↓ho_callRM, ↓ho_forS, ↓ho_lcM, ↓ho_lc2M, rtP_rt, rtP_nx, rmP_rt, rmP_nx, sl_fz, sl_ow, o_add, o_addT, o_addL, o_addS, o_sub, o_mul, o_fdiv, o_mod, o_pow, o_neg, o_cmp, o_eq, o_ne, o_eqS, o_neS, o_lenL, o_lenT, o_min, o_max, o_toInt, o_tupL, o_tupT, o_lstL, o_lstT, o_seqL, o_seqT, o_part, o_slL, o_slT, o_memL, o_memT, o_ixL, o_ixT, o_rng1, o_rng2, o_enum, ↓ho_peekM, fl_int, fl_str, fl_bool, List.getElem?_cons_zero, List.getElem?_cons_succ, List.set_cons_zero, List.set_cons_succ, List.length_cons, List.length_nil, decide_eq_true_eq, true_and, and_true, Bool.not_true, Bool.not_false, if_true, if_false, ↓reduceIte, Bool.false_eq_true, Nat.reduceAdd, Int.reduceToNat, Int.reducePow, Int.reduceAdd, Int.reduceSub, Int.reduceNeg, Int.reduceMul, Int.reduceDiv, Int.reduceMod, Int.reduceLT, Int.reduceLE, Nat.reduceLeDiff, Nat.reduceEqDiff, decide_true, decide_false, and_self, wipeR, restR, List.getD_cons_succ, List.getD_cons_zero, h64]
        have rep : reprD [.list (wkD gs)] = some (.fz (.str (PyData.list (wkD gs)).shown)) := by
          have a := wk_ok (gs := gs) (fun x hx => (g.g x hx).2) gs.length (by omega)
          rw [List.take_length] at a
          have l3 := g.l3
          have := p8 g.l3
          exact wkD_repr (by have := a.len; omega) (fun o ho => by rw [a.wid o ho]; exact l3) a.num
        have wlen : ((wkD gs).length : Int) = prodI gs := by rw [wkD, List.length_map]; exact wk_len fun x hx => by have := (g.g x hx).1; omega
        have wl : (wkD gs).length < sizeLine := by
          have : (prodI gs : Int) ≤ 64 := h64
          unfold sizeLine; omega
        refine ho_for_all (fun t ρ => ∃ s4 s7, ρ = [some (.fz (.list (ns.map PyData.int))), some (.ow d), some (.fz x), some (.fz (tupI gs)), s4, s5, s6, s7, none]) _ _ 0 _ ⟨_, _, rfl⟩ ?_ ?_
        · rintro k y ρ1 hy ⟨s4, s7, rfl⟩
          simp only [varP_fz, varP_ow, getP_some, blP_b, flP_nx, flP_bk, flP_ct, flP_rt, retP_some, parP_2, ownP_some, ownLP_some, setKP_int, loP_nx, loP_ct, loP_bk, loP_rt, oo_some, oo_none, oo_map, oo_bind, oo_if, ↓ho_bindM, ↓ho_pureM, ↓ho_liftM, ↓ho_cM, ↓ho_bin, ↓ho_una, ↓ho_varM, ↓ho_getM, ↓ho_nilM, ↓ho_consM, ↓ho_tupM, ↓ho_lstM, ↓ho_callM, ↓ho_boolM, ↓ho_testM, ↓ho_notM, ↓ho_ite, ↓ho_andM, ↓ho_orM, ↓ho_blM, ↓ho_andV, ↓ho_orV, ↓ho_notV, ↓ho_ifM, ↓ho_chainM, ↓ho_chain3M, ↓ho_ixVM, ↓ho_partM, ↓ho_sliceM, ↓ho_seqM, ↓ho_rngM, ↓ho_putM, ↓ho_putO, ↓ho_gsNil, ↓ho_gsCons, ↓ho_tupG, ↓ho_yesM, ↓ho_wipeM, ↓ho_seqS, ↓ho_dropS, ↓ho_retS, ↓ho_retF, ↓ho_retV, ↓ho_setS, ↓ho_asgS, ↓ho_parS, ↓ho_ifS, ↓ho_ownM, ↓ho_ownL, ↓ho_appendM, ↓ho_setLS, ↓ho_callRM, ↓ho_forS, ↓ho_lcM, ↓ho_lc2M, rtP_rt, rtP_nx, rmP_rt, rmP_nx, sl_fz, sl_ow, o_add, o_addT, o_addL, o_addS, o_sub, o_mul, o_fdiv, o_mod, o_pow, o_neg, o_cmp, o_eq, o_ne, o_eqS, o_neS, o_lenL, o_lenT, o_min, o_max, o_toInt, o_tupL, o_tupT, o_lstL, o_lstT, o_seqL, o_seqT, o_part, o_slL, o_slT, o_memL, o_memT, o_ixL, o_ixT, o_rng1, o_rng2, o_enum, ↓ho_peekM, fl_int, fl_str, fl_bool, List.getElem?_cons_zero, List.getElem?_cons_succ, List.set_cons_zero, List.set_cons_succ, List.length_cons, List.length_nil, decide_eq_true_eq, true_and, and_true, Bool.not_true, Bool.not_false, if_true, if_false, ↓reduceIte, Bool.false_eq_true, Nat.reduceAdd, Int.reduceToNat, Int.reducePow, Int.reduceAdd, Int.reduceSub, Int.reduceNeg, Int.reduceMul, Int.reduceDiv, Int.reduceMod, Int.reduceLT, Int.reduceLE, Nat.reduceLeDiff, Nat.reduceEqDiff, decide_true, decide_false, and_self, wipeR, restR, List.getD_cons_succ, List.getD_cons_zero]
          refine workers_ok g h64 ?_
          simp only [varP_fz, varP_ow, getP_some, blP_b, flP_nx, flP_bk, flP_ct, flP_rt, retP_some, parP_2, ownP_some, ownLP_some, setKP_int, loP_nx, loP_ct, loP_bk, loP_rt, oo_some, oo_none, oo_map, oo_bind, oo_if, ↓ho_bindM, ↓ho_pureM, ↓ho_liftM, ↓ho_cM, ↓ho_bin, ↓ho_una, ↓ho_varM, ↓ho_getM, ↓ho_nilM, ↓ho_consM, ↓ho_tupM, ↓ho_lstM, ↓ho_callM, ↓ho_boolM, ↓ho_testM, ↓ho_notM, ↓ho_ite, ↓ho_andM, ↓ho_orM, ↓ho_blM, ↓ho_andV, ↓ho_orV, ↓ho_notV, ↓ho_ifM, ↓ho_chainM, ↓ho_chain3M, ↓ho_ixVM, ↓ho_partM, ↓ho_sliceM, ↓ho_seqM, ↓ho_rngM, ↓ho_putM, ↓ho_putO, ↓ho_gsNil, ↓ho_gsCons, ↓ho_tupG, ↓ho_yesM, ↓ho_wipeM, ↓ho_seqS, ↓ho_dropS, ↓ho_retS, ↓ho_retF, ↓ho_retV, ↓ho_setS, ↓ho_asgS, ↓ho_parS, ↓ho_ifS, ↓ho_ownM, ↓ho_ownL, ↓ho_appendM, ↓ho_setLS, ↓ho_callRM, ↓ho_forS, ↓ho_lcM, ↓ho_lc2M, rtP_rt, rtP_nx, rmP_rt, rmP_nx, sl_fz, sl_ow, o_add, o_addT, o_addL, o_addS, o_sub, o_mul, o_fdiv, o_mod, o_pow, o_neg, o_cmp, o_eq, o_ne, o_eqS, o_neS, o_lenL, o_lenT, o_min, o_max, o_toInt, o_tupL, o_tupT, o_lstL, o_lstT, o_seqL, o_seqT, o_part, o_slL, o_slT, o_memL, o_memT, o_ixL, o_ixT, o_rng1, o_rng2, o_enum, ↓ho_peekM, fl_int, fl_str, fl_bool, List.getElem?_cons_zero, List.getElem?_cons_succ, List.set_cons_zero, List.set_cons_succ, List.length_cons, List.length_nil, decide_eq_true_eq, true_and, and_true, Bool.not_true, Bool.not_false, if_true, if_false, ↓reduceIte, Bool.false_eq_true, Nat.reduceAdd, Int.reduceToNat, Int.reducePow, Int.reduceAdd, Int.reduceSub, Int.reduceNeg, Int.reduceMul, Int.reduceDiv, Int.reduceMod, Int.reduceLT, Int.reduceLE, Nat.reduceLeDiff, Nat.reduceEqDiff, decide_true, decide_false, and_self, wipeR, restR, List.getD_cons_succ, List.getD_cons_zero, rep]
          refine law_workers_ok g.l3 g.g fun s hs => ?_
          rw [hs]
          simp only [varP_fz, varP_ow, getP_some, blP_b, flP_nx, flP_bk, flP_ct, flP_rt, retP_some, parP_2, ownP_some, ownLP_some, setKP_int, loP_nx, loP_ct, loP_bk, loP_rt, oo_some, oo_none, oo_map, oo_bind, oo_if, ↓ho_bindM, ↓ho_pureM, ↓ho_liftM, ↓ho_cM, ↓ho_bin, ↓ho_una, ↓ho_varM, ↓ho_getM, ↓ho_nilM, ↓ho_consM, ↓ho_tupM, ↓ho_lstM, ↓ho_callM, ↓ho_boolM, ↓ho_testM, ↓ho_notM, ↓ho_ite, ↓ho_andM, ↓ho_orM, ↓ho_blM, ↓ho_andV, ↓ho_orV, ↓ho_notV, ↓ho_ifM, ↓ho_chainM, ↓ho_chain3M, ↓ho_ixVM, ↓ho_partM, ↓ho_sliceM, ↓ho_seqM, ↓ho_rngM, ↓ho_putM, ↓ho_putO, ↓ho_gsNil, ↓ho_gsCons, ↓ho_tupG, ↓ho_yesM, ↓ho_wipeM, ↓ho_seqS, ↓ho_dropS, ↓ho_retS, ↓ho_retF, ↓ho_retV, ↓ho_setS, ↓ho_asgS, ↓ho_parS, ↓ho_ifS, ↓ho_ownM, ↓ho_ownL, ↓ho_appendM, ↓ho_setLS, ↓ho_callRM, ↓ho_forS, ↓ho_lcM, ↓ho_lc2M, rtP_rt, rtP_nx, rmP_rt, rmP_nx, sl_fz, sl_ow, o_add, o_addT, o_addL, o_addS, o_sub, o_mul, o_fdiv, o_mod, o_pow, o_neg, o_cmp, o_eq, o_ne, o_eqS, o_neS, o_lenL, o_lenT, o_min, o_max, o_toInt, o_tupL, o_tupT, o_lstL, o_lstT, o_seqL, o_seqT, o_part, o_slL, o_slT, o_memL, o_memT, o_ixL, o_ixT, o_rng1, o_rng2, o_enum, ↓ho_peekM, fl_int, fl_str, fl_bool, List.getElem?_cons_zero, List.getElem?_cons_succ, List.set_cons_zero, List.set_cons_succ, List.length_cons, List.length_nil, decide_eq_true_eq, true_and, and_true, Bool.not_true, Bool.not_false, if_true, if_false, ↓reduceIte, Bool.false_eq_true, Nat.reduceAdd, Int.reduceToNat, Int.reducePow, Int.reduceAdd, Int.reduceSub, Int.reduceNeg, Int.reduceMul, Int.reduceDiv, Int.reduceMod, Int.reduceLT, Int.reduceLE, Nat.reduceLeDiff, Nat.reduceEqDiff, decide_true, decide_false, and_self, wipeR, restR, List.getD_cons_succ, List.getD_cons_zero, rep, BEq.rfl, flatD]
          refine law_product_ok g.l3 g.g ?_
          simp only [varP_fz, varP_ow, getP_some, blP_b, flP_nx, flP_bk, flP_ct, flP_rt, retP_some, parP_2, ownP_some, ownLP_some, setKP_int, loP_nx, loP_ct, loP_bk, loP_rt, oo_some, oo_none, oo_map, oo_bind, oo_if, ↓ho_bindM, ↓ho_pureM, ↓ho_liftM, ↓ho_cM, ↓ho_bin, ↓ho_una, ↓ho_varM, ↓ho_getM, ↓ho_nilM, ↓ho_consM, ↓ho_tupM, ↓ho_lstM, ↓ho_callM, ↓ho_boolM, ↓ho_testM, ↓ho_notM, ↓ho_ite, ↓ho_andM, ↓ho_orM, ↓ho_blM, ↓ho_andV, ↓ho_orV, ↓ho_notV, ↓ho_ifM, ↓ho_chainM, ↓ho_chain3M, ↓ho_ixVM, ↓ho_partM, ↓ho_sliceM, ↓ho_seqM, ↓ho_rngM, ↓ho_putM, ↓ho_putO, ↓ho_gsNil, ↓ho_gsCons, ↓ho_tupG, ↓ho_yesM, ↓ho_wipeM, ↓ho_seqS, ↓ho_dropS, ↓ho_retS, ↓ho_retF, ↓ho_retV, ↓ho_setS, ↓ho_asgS, ↓ho_parS, ↓ho_ifS, ↓ho_ownM, ↓ho_ownL, ↓ho_appendM, ↓ho_setLS, ↓ho_callRM, ↓ho_forS, ↓ho_lcM, ↓ho_lc2M, rtP_rt, rtP_nx, rmP_rt, rmP_nx, sl_fz, sl_ow, o_add, o_addT, o_addL, o_addS, o_sub, o_mul, o_fdiv, o_mod, o_pow, o_neg, o_cmp, o_eq, o_ne, o_eqS, o_neS, o_lenL, o_lenT, o_min, o_max, o_toInt, o_tupL, o_tupT, o_lstL, o_lstT, o_seqL, o_seqT, o_part, o_slL, o_slT, o_memL, o_memT, o_ixL, o_ixT, o_rng1, o_rng2, o_enum, ↓ho_peekM, fl_int, fl_str, fl_bool, List.getElem?_cons_zero, List.getElem?_cons_succ, List.set_cons_zero, List.set_cons_succ, List.length_cons, List.length_nil, decide_eq_true_eq, true_and, and_true, Bool.not_true, Bool.not_false, if_true, if_false, ↓reduceIte, Bool.false_eq_true, Nat.reduceAdd, Int.reduceToNat, Int.reducePow, Int.reduceAdd, Int.reduceSub, Int.reduceNeg, Int.reduceMul, Int.reduceDiv, Int.reduceMod, Int.reduceLT, Int.reduceLE, Nat.reduceLeDiff, Nat.reduceEqDiff, decide_true, decide_false, and_self, wipeR, restR, List.getD_cons_succ, List.getD_cons_zero, wlen, wl, BEq.rfl]
          exact ⟨_, _, rfl⟩
        · rintro ρ1 ⟨s4, s7, rfl⟩
          simp only [varP_fz, varP_ow, getP_some, blP_b, flP_nx, flP_bk, flP_ct, flP_rt, retP_some, parP_2, ownP_some, ownLP_some, setKP_int, loP_nx, loP_ct, loP_bk, loP_rt, oo_some, oo_none, oo_map, oo_bind, oo_if, ↓ho_bindM, ↓ho_pureM, ↓ho_liftM, ↓ho_cM, ↓ho_bin, ↓ho_una, ↓ho_varM, ↓ho_getM, ↓ho_nilM, ↓ho_consM, ↓ho_tupM, ↓ho_lstM, ↓ho_callM, ↓ho_boolM, ↓ho_testM, ↓ho_notM, ↓ho_ite, ↓ho_andM, ↓ho_orM, ↓ho_blM, ↓ho_andV, ↓ho_orV, ↓ho_notV, ↓ho_ifM, ↓ho_chainM, ↓ho_chain3M, ↓ho_ixVM, ↓ho_partM, ↓ho_sliceM, ↓ho_seqM, ↓ho_rngM, ↓ho_putM, ↓ho_putO, ↓ho_gsNil, ↓ho_gsCons, ↓ho_tupG, ↓ho_yesM, ↓ho_wipeM, ↓ho_seqS, ↓ho_dropS, ↓ho_retS, ↓ho_retF, ↓ho_retV, ↓ho_setS, ↓ho_asgS, ↓ho_parS, ↓ho_ifS, ↓ho_ownM, ↓ho_ownL, ↓ho_appendM, ↓ho_setLS, ↓ho_callRM, ↓ho_forS, ↓ho_lcM, ↓ho_lc2M, rtP_rt, rtP_nx, rmP_rt, rmP_nx, sl_fz, sl_ow, o_add, o_addT, o_addL, o_addS, o_sub, o_mul, o_fdiv, o_mod, o_pow, o_neg, o_cmp, o_eq, o_ne, o_eqS, o_neS, o_lenL, o_lenT, o_min, o_max, o_toInt, o_tupL, o_tupT, o_lstL, o_lstT, o_seqL, o_seqT, o_part, o_slL, o_slT, o_memL, o_memT, o_ixL, o_ixT, o_rng1, o_rng2, o_enum, ↓ho_peekM, fl_int, fl_str, fl_bool, List.getElem?_cons_zero, List.getElem?_cons_succ, List.set_cons_zero, List.set_cons_succ, List.length_cons, List.length_nil, decide_eq_true_eq, true_and, and_true, Bool.not_true, Bool.not_false, if_true, if_false, ↓reduceIte, Bool.false_eq_true, Nat.reduceAdd, Int.reduceToNat, Int.reducePow, Int.reduceAdd, Int.reduceSub, Int.reduceNeg, Int.reduceMul, Int.reduceDiv, Int.reduceMod, Int.reduceLT, Int.reduceLE, Nat.reduceLeDiff, Nat.reduceEqDiff, decide_true, decide_false, and_self, wipeR, restR, List.getD_cons_succ, List.getD_cons_zero]
          refine take_ok hp (by omega) (by omega) (bb (by omega)) fun n1 d a0 a1 hp => ?_
          simp only [varP_fz, varP_ow, getP_some, blP_b, flP_nx, flP_bk, flP_ct, flP_rt, retP_some, parP_2, ownP_some, ownLP_some, setKP_int, loP_nx, loP_ct, loP_bk, loP_rt, oo_some, oo_none, oo_map, oo_bind, oo_if, ↓ho_bindM, ↓ho_pureM, ↓ho_liftM, ↓ho_cM, ↓ho_bin, ↓ho_una, ↓ho_varM, ↓ho_getM, ↓ho_nilM, ↓ho_consM, ↓ho_tupM, ↓ho_lstM, ↓ho_callM, ↓ho_boolM, ↓ho_testM, ↓ho_notM, ↓ho_ite, ↓ho_andM, ↓ho_orM, ↓ho_blM, ↓ho_andV, ↓ho_orV, ↓ho_notV, ↓ho_ifM, ↓ho_chainM, ↓ho_chain3M, ↓ho_ixVM, ↓ho_partM, ↓ho_sliceM, ↓ho_seqM, ↓ho_rngM, ↓ho_putM, ↓ho_putO, ↓ho_gsNil, ↓ho_gsCons, ↓ho_tupG, ↓ho_yesM, ↓ho_wipeM, ↓ho_seqS, ↓ho_dropS, ↓ho_retS, ↓ho_retF, ↓ho_retV, ↓ho_setS, ↓ho_asgS, ↓ho_parS, ↓ho_ifS, ↓ho_ownM, ↓ho_ownL, ↓ho_appendM, ↓ho_setLS, ↓ho_callRM, ↓ho_forS, ↓ho_lcM, ↓ho_lc2M, rtP_rt, rtP_nx, rmP_rt, rmP_nx, sl_fz, sl_ow, o_add, o_addT, o_addL, o_addS, o_sub, o_mul, o_fdiv, o_mod, o_pow, o_neg, o_cmp, o_eq, o_ne, o_eqS, o_neS, o_lenL, o_lenT, o_min, o_max, o_toInt, o_tupL, o_tupT, o_lstL, o_lstT, o_seqL, o_seqT, o_part, o_slL, o_slT, o_memL, o_memT, o_ixL, o_ixT, o_rng1, o_rng2, o_enum, ↓ho_peekM, fl_int, fl_str, fl_bool, List.getElem?_cons_zero, List.getElem?_cons_succ, List.set_cons_zero, List.set_cons_succ, List.length_cons, List.length_nil, decide_eq_true_eq, true_and, and_true, Bool.not_true, Bool.not_false, if_true, if_false, ↓reduceIte, Bool.false_eq_true, Nat.reduceAdd, Int.reduceToNat, Int.reducePow, Int.reduceAdd, Int.reduceSub, Int.reduceNeg, Int.reduceMul, Int.reduceDiv, Int.reduceMod, Int.reduceLT, Int.reduceLE, Nat.reduceLeDiff, Nat.reduceEqDiff, decide_true, decide_false, and_self, wipeR, restR, List.getD_cons_succ, List.getD_cons_zero]
          refine ⟨by decide, by decide, ?_⟩
          refine take_ok hp (by omega) (by omega) (bb (by omega)) fun n2 d b0 b1 hp => ?_
          simp only [varP_fz, varP_ow, getP_some, blP_b, flP_nx, flP_bk, flP_ct, flP_rt, retP_some, parP_2, ownP_some, ownLP_some, setKP_int, loP_nx, loP_ct, loP_bk, loP_rt, oo_some, oo_none, oo_map, oo_bind, oo_if, ↓ho_bindM, ↓ho_pureM, ↓ho_liftM, ↓ho_cM, ↓ho_bin, ↓ho_una, ↓ho_varM, ↓ho_getM, ↓ho_nilM, ↓ho_consM, ↓ho_tupM, ↓ho_lstM, ↓ho_callM, ↓ho_boolM, ↓ho_testM, ↓ho_notM, ↓ho_ite, ↓ho_andM, ↓ho_orM, ↓ho_blM, ↓ho_andV, ↓ho_orV, ↓ho_notV, ↓ho_ifM, ↓ho_chainM, ↓ho_chain3M, ↓ho_ixVM, ↓ho_partM, ↓ho_sliceM, ↓ho_seqM, ↓ho_rngM, ↓ho_putM, ↓ho_putO, ↓ho_gsNil, ↓ho_gsCons, ↓ho_tupG, ↓ho_yesM, ↓ho_wipeM, ↓ho_seqS, ↓ho_dropS, ↓ho_retS, ↓ho_retF, ↓ho_retV, ↓ho_setS, ↓ho_asgS, ↓ho_parS, ↓ho_ifS, ↓ho_ownM, ↓ho_ownL, ↓ho_appendM, ↓ho_setLS, ↓ho_callRM, ↓ho_forS, ↓ho_lcM, ↓ho_lc2M, rtP_rt, rtP_nx, rmP_rt, rmP_nx, sl_fz, sl_ow, o_add, o_addT, o_addL, o_addS, o_sub, o_mul, o_fdiv, o_mod, o_pow, o_neg, o_cmp, o_eq, o_ne, o_eqS, o_neS, o_lenL, o_lenT, o_min, o_max, o_toInt, o_tupL, o_tupT, o_lstL, o_lstT, o_seqL, o_seqT, o_part, o_slL, o_slT, o_memL, o_memT, o_ixL, o_ixT, o_rng1, o_rng2, o_enum, ↓ho_peekM, fl_int, fl_str, fl_bool, List.getElem?_cons_zero, List.getElem?_cons_succ, List.set_cons_zero, List.set_cons_succ, List.length_cons, List.length_nil, decide_eq_true_eq, true_and, and_true, Bool.not_true, Bool.not_false, if_true, if_false, ↓reduceIte, Bool.false_eq_true, Nat.reduceAdd, Int.reduceToNat, Int.reducePow, Int.reduceAdd, Int.reduceSub, Int.reduceNeg, Int.reduceMul, Int.reduceDiv, Int.reduceMod, Int.reduceLT, Int.reduceLE, Nat.reduceLeDiff, Nat.reduceEqDiff, decide_true, decide_false, and_self, wipeR, restR, List.getD_cons_succ, List.getD_cons_zero]
          refine ⟨by decide, ?_⟩
          refine pick_ok hp (by omega) (by simp only [List.length_cons]; omega) (by simp only [List.length_cons, List.length_nil]; omega) fun k y d hk hy hp => ?_
          obtain ⟨n, rfl, n0, nb⟩ : ∃ n : Int, y = .int n ∧ 0 ≤ n ∧ n < 2 ^ 140 := by
            have hk' : k < 6 := hk
            rcases k with _ | _ | _ | _ | _ | _ | k
            · exact ⟨_, (Option.some.inj hy).symm, by decide, by decide⟩
            · exact ⟨_, (Option.some.inj hy).symm, by decide, by decide⟩
            · exact ⟨_, (Option.some.inj hy).symm, by decide, by decide⟩
            · exact ⟨_, (Option.some.inj hy).symm, a0, by omega⟩
            · exact ⟨_, (Option.some.inj hy).symm, by decide, by decide⟩
            · exact ⟨_, (Option.some.inj hy).symm, b0, by omega⟩
            · omega
          simp only [varP_fz, varP_ow, getP_some, blP_b, flP_nx, flP_bk, flP_ct, flP_rt, retP_some, parP_2, ownP_some, ownLP_some, setKP_int, loP_nx, loP_ct, loP_bk, loP_rt, oo_some, oo_none, oo_map, oo_bind, oo_if, ↓ho_bindM, ↓ho_pureM, ↓ho_liftM, ↓ho_cM, ↓ho_bin, ↓ho_una, ↓ho_varM, ↓ho_getM, ↓ho_nilM, ↓ho_consM, ↓ho_tupM, ↓ho_lstM, ↓ho_callM, ↓ho_boolM, ↓ho_testM, ↓ho_notM, ↓ho_ite, ↓ho_andM, ↓ho_orM, ↓ho_blM, ↓ho_andV, ↓ho_orV, ↓ho_notV, ↓ho_ifM, ↓ho_chainM, ↓ho_chain3M, ↓ho_ixVM, ↓ho_partM, ↓ho_sliceM, ↓ho_seqM, ↓ho_rngM, ↓ho_putM, ↓ho_putO, ↓ho_gsNil, ↓ho_gsCons, ↓ho_tupG, ↓ho_yesM, ↓ho_wipeM, ↓ho_seqS, ↓ho_dropS, ↓ho_retS, ↓ho_retF, ↓ho_retV, ↓ho_setS, ↓ho_asgS, ↓ho_parS, ↓ho_ifS, ↓ho_ownM, ↓ho_ownL, ↓ho_appendM, ↓ho_setLS, ↓ho_callRM, ↓ho_forS, ↓ho_lcM, ↓ho_lc2M, rtP_rt, rtP_nx, rmP_rt, rmP_nx, sl_fz, sl_ow, o_add, o_addT, o_addL, o_addS, o_sub, o_mul, o_fdiv, o_mod, o_pow, o_neg, o_cmp, o_eq, o_ne, o_eqS, o_neS, o_lenL, o_lenT, o_min, o_max, o_toInt, o_tupL, o_tupT, o_lstL, o_lstT, o_seqL, o_seqT, o_part, o_slL, o_slT, o_memL, o_memT, o_ixL, o_ixT, o_rng1, o_rng2, o_enum, ↓ho_peekM, fl_int, fl_str, fl_bool, List.getElem?_cons_zero, List.getElem?_cons_succ, List.set_cons_zero, List.set_cons_succ, List.length_cons, List.length_nil, decide_eq_true_eq, true_and, and_true, Bool.not_true, Bool.not_false, if_true, if_false, ↓reduceIte, Bool.false_eq_true, Nat.reduceAdd, Int.reduceToNat, Int.reducePow, Int.reduceAdd, Int.reduceSub, Int.reduceNeg, Int.reduceMul, Int.reduceDiv, Int.reduceMod, Int.reduceLT, Int.reduceLE, Nat.reduceLeDiff, Nat.reduceEqDiff, decide_true, decide_false, and_self, wipeR, restR, List.getD_cons_succ, List.getD_cons_zero]
          refine ⟨by decide, ?_⟩
          refine take_ok hp (by omega) (by omega) (bb (by omega)) fun n3 d c0 c1 hp => ?_
          simp only [varP_fz, varP_ow, getP_some, blP_b, flP_nx, flP_bk, flP_ct, flP_rt, retP_some, parP_2, ownP_some, ownLP_some, setKP_int, loP_nx, loP_ct, loP_bk, loP_rt, oo_some, oo_none, oo_map, oo_bind, oo_if, ↓ho_bindM, ↓ho_pureM, ↓ho_liftM, ↓ho_cM, ↓ho_bin, ↓ho_una, ↓ho_varM, ↓ho_getM, ↓ho_nilM, ↓ho_consM, ↓ho_tupM, ↓ho_lstM, ↓ho_callM, ↓ho_boolM, ↓ho_testM, ↓ho_notM, ↓ho_ite, ↓ho_andM, ↓ho_orM, ↓ho_blM, ↓ho_andV, ↓ho_orV, ↓ho_notV, ↓ho_ifM, ↓ho_chainM, ↓ho_chain3M, ↓ho_ixVM, ↓ho_partM, ↓ho_sliceM, ↓ho_seqM, ↓ho_rngM, ↓ho_putM, ↓ho_putO, ↓ho_gsNil, ↓ho_gsCons, ↓ho_tupG, ↓ho_yesM, ↓ho_wipeM, ↓ho_seqS, ↓ho_dropS, ↓ho_retS, ↓ho_retF, ↓ho_retV, ↓ho_setS, ↓ho_asgS, ↓ho_parS, ↓ho_ifS, ↓ho_ownM, ↓ho_ownL, ↓ho_appendM, ↓ho_setLS, ↓ho_callRM, ↓ho_forS, ↓ho_lcM, ↓ho_lc2M, rtP_rt, rtP_nx, rmP_rt, rmP_nx, sl_fz, sl_ow, o_add, o_addT, o_addL, o_addS, o_sub, o_mul, o_fdiv, o_mod, o_pow, o_neg, o_cmp, o_eq, o_ne, o_eqS, o_neS, o_lenL, o_lenT, o_min, o_max, o_toInt, o_tupL, o_tupT, o_lstL, o_lstT, o_seqL, o_seqT, o_part, o_slL, o_slT, o_memL, o_memT, o_ixL, o_ixT, o_rng1, o_rng2, o_enum, ↓ho_peekM, fl_int, fl_str, fl_bool, List.getElem?_cons_zero, List.getElem?_cons_succ, List.set_cons_zero, List.set_cons_succ, List.length_cons, List.length_nil, decide_eq_true_eq, true_and, and_true, Bool.not_true, Bool.not_false, if_true, if_false, ↓reduceIte, Bool.false_eq_true, Nat.reduceAdd, Int.reduceToNat, Int.reducePow, Int.reduceAdd, Int.reduceSub, Int.reduceNeg, Int.reduceMul, Int.reduceDiv, Int.reduceMod, Int.reduceLT, Int.reduceLE, Nat.reduceLeDiff, Nat.reduceEqDiff, decide_true, decide_false, and_self, wipeR, restR, List.getD_cons_succ, List.getD_cons_zero]
          refine ⟨by decide, by decide, ?_⟩
          refine take_ok hp (by omega) (by omega) (bb (by omega)) fun n4 d d0 d1 hp => ?_
          simp only [varP_fz, varP_ow, getP_some, blP_b, flP_nx, flP_bk, flP_ct, flP_rt, retP_some, parP_2, ownP_some, ownLP_some, setKP_int, loP_nx, loP_ct, loP_bk, loP_rt, oo_some, oo_none, oo_map, oo_bind, oo_if, ↓ho_bindM, ↓ho_pureM, ↓ho_liftM, ↓ho_cM, ↓ho_bin, ↓ho_una, ↓ho_varM, ↓ho_getM, ↓ho_nilM, ↓ho_consM, ↓ho_tupM, ↓ho_lstM, ↓ho_callM, ↓ho_boolM, ↓ho_testM, ↓ho_notM, ↓ho_ite, ↓ho_andM, ↓ho_orM, ↓ho_blM, ↓ho_andV, ↓ho_orV, ↓ho_notV, ↓ho_ifM, ↓ho_chainM, ↓ho_chain3M, ↓ho_ixVM, ↓ho_partM, ↓ho_sliceM, ↓ho_seqM, ↓ho_rngM, ↓ho_putM, ↓ho_putO, ↓ho_gsNil, ↓ho_gsCons, ↓ho_tupG, ↓ho_yesM, ↓ho_wipeM, ↓ho_seqS, ↓ho_dropS, ↓ho_retS, ↓ho_retF, ↓ho_retV, ↓ho_setS, ↓ho_asgS, ↓ho_parS, ↓ho_ifS, ↓ho_ownM, ↓ho_ownL, ↓ho_appendM, ↓ho_setLS, ↓ho_callRM, ↓ho_forS, ↓ho_lcM, ↓ho_lc2M, rtP_rt, rtP_nx, rmP_rt, rmP_nx, sl_fz, sl_ow, o_add, o_addT, o_addL, o_addS, o_sub, o_mul, o_fdiv, o_mod, o_pow, o_neg, o_cmp, o_eq, o_ne, o_eqS, o_neS, o_lenL, o_lenT, o_min, o_max, o_toInt, o_tupL, o_tupT, o_lstL, o_lstT, o_seqL, o_seqT, o_part, o_slL, o_slT, o_memL, o_memT, o_ixL, o_ixT, o_rng1, o_rng2, o_enum, ↓ho_peekM, fl_int, fl_str, fl_bool, List.getElem?_cons_zero, List.getElem?_cons_succ, List.set_cons_zero, List.set_cons_succ, List.length_cons, List.length_nil, decide_eq_true_eq, true_and, and_true, Bool.not_true, Bool.not_false, if_true, if_false, ↓reduceIte, Bool.false_eq_true, Nat.reduceAdd, Int.reduceToNat, Int.reducePow, Int.reduceAdd, Int.reduceSub, Int.reduceNeg, Int.reduceMul, Int.reduceDiv, Int.reduceMod, Int.reduceLT, Int.reduceLE, Nat.reduceLeDiff, Nat.reduceEqDiff, decide_true, decide_false, and_self, wipeR, restR, List.getD_cons_succ, List.getD_cons_zero]
          refine ⟨by decide, ?_⟩
          refine pick_ok hp (by omega) (by simp only [List.length_cons]; omega) (by simp only [List.length_cons, List.length_nil]; omega) fun k y d hk hy hp => ?_
          obtain ⟨m, rfl, m0, mb⟩ : ∃ m : Int, y = .int m ∧ 1 ≤ m ∧ m < 2 ^ 140 := by
            have hk' : k < 8 := hk
            rcases k with _ | _ | _ | _ | _ | _ | _ | _ | k
            · exact ⟨_, (Option.some.inj hy).symm, by decide, by decide⟩
            · exact ⟨_, (Option.some.inj hy).symm, by decide, by decide⟩
            · exact ⟨_, (Option.some.inj hy).symm, by decide, by decide⟩
            · exact ⟨_, (Option.some.inj hy).symm, by decide, by decide⟩
            · exact ⟨_, (Option.some.inj hy).symm, by decide, by decide⟩
            · exact ⟨_, (Option.some.inj hy).symm, by omega, by omega⟩
            · exact ⟨_, (Option.some.inj hy).symm, by decide, by decide⟩
            · exact ⟨_, (Option.some.inj hy).symm, by omega, by omega⟩
            · omega
          simp only [varP_fz, varP_ow, getP_some, blP_b, flP_nx, flP_bk, flP_ct, flP_rt, retP_some, parP_2, ownP_some, ownLP_some, setKP_int, loP_nx, loP_ct, loP_bk, loP_rt, oo_some, oo_none, oo_map, oo_bind, oo_if, ↓ho_bindM, ↓ho_pureM, ↓ho_liftM, ↓ho_cM, ↓ho_bin, ↓ho_una, ↓ho_varM, ↓ho_getM, ↓ho_nilM, ↓ho_consM, ↓ho_tupM, ↓ho_lstM, ↓ho_callM, ↓ho_boolM, ↓ho_testM, ↓ho_notM, ↓ho_ite, ↓ho_andM, ↓ho_orM, ↓ho_blM, ↓ho_andV, ↓ho_orV, ↓ho_notV, ↓ho_ifM, ↓ho_chainM, ↓ho_chain3M, ↓ho_ixVM, ↓ho_partM, ↓ho_sliceM, ↓ho_seqM, ↓ho_rngM, ↓ho_putM, ↓ho_putO, ↓ho_gsNil, ↓ho_gsCons, ↓ho_tupG, ↓ho_yesM, ↓ho_wipeM, ↓ho_seqS, ↓ho_dropS, ↓ho_retS, ↓ho_retF, ↓ho_retV, ↓ho_setS, ↓ho_asgS, ↓ho_parS, ↓ho_ifS, ↓ho_ownM, ↓ho_ownL, ↓ho_appendM, ↓ho_setLS, ↓ho_callRM, ↓ho_forS, ↓ho_lcM, ↓ho_lc2M, rtP_rt, rtP_nx, rmP_rt, rmP_nx, sl_fz, sl_ow, o_add, o_addT, o_addL, o_addS, o_sub, o_mul, o_fdiv, o_mod, o_pow, o_neg, o_cmp, o_eq, o_ne, o_eqS, o_neS, o_lenL, o_lenT, o_min, o_max, o_toInt, o_tupL, o_tupT, o_lstL, o_lstT, o_seqL, o_seqT, o_part, o_slL, o_slT, o_memL, o_memT, o_ixL, o_ixT, o_rng1, o_rng2, o_enum, ↓ho_peekM, fl_int, fl_str, fl_bool, List.getElem?_cons_zero, List.getElem?_cons_succ, List.set_cons_zero, List.set_cons_succ, List.length_cons, List.length_nil, decide_eq_true_eq, true_and, and_true, Bool.not_true, Bool.not_false, if_true, if_false, ↓reduceIte, Bool.false_eq_true, Nat.reduceAdd, Int.reduceToNat, Int.reducePow, Int.reduceAdd, Int.reduceSub, Int.reduceNeg, Int.reduceMul, Int.reduceDiv, Int.reduceMod, Int.reduceLT, Int.reduceLE, Nat.reduceLeDiff, Nat.reduceEqDiff, decide_true, decide_false, and_self, wipeR, restR, List.getD_cons_succ, List.getD_cons_zero]
          refine pieces_ok hp (by omega) n0 nb m0 mb fun d hp => ?_
          simp only [varP_fz, varP_ow, getP_some, blP_b, flP_nx, flP_bk, flP_ct, flP_rt, retP_some, parP_2, ownP_some, ownLP_some, setKP_int, loP_nx, loP_ct, loP_bk, loP_rt, oo_some, oo_none, oo_map, oo_bind, oo_if, ↓ho_bindM, ↓ho_pureM, ↓ho_liftM, ↓ho_cM, ↓ho_bin, ↓ho_una, ↓ho_varM, ↓ho_getM, ↓ho_nilM, ↓ho_consM, ↓ho_tupM, ↓ho_lstM, ↓ho_callM, ↓ho_boolM, ↓ho_testM, ↓ho_notM, ↓ho_ite, ↓ho_andM, ↓ho_orM, ↓ho_blM, ↓ho_andV, ↓ho_orV, ↓ho_notV, ↓ho_ifM, ↓ho_chainM, ↓ho_chain3M, ↓ho_ixVM, ↓ho_partM, ↓ho_sliceM, ↓ho_seqM, ↓ho_rngM, ↓ho_putM, ↓ho_putO, ↓ho_gsNil, ↓ho_gsCons, ↓ho_tupG, ↓ho_yesM, ↓ho_wipeM, ↓ho_seqS, ↓ho_dropS, ↓ho_retS, ↓ho_retF, ↓ho_retV, ↓ho_setS, ↓ho_asgS, ↓ho_parS, ↓ho_ifS, ↓ho_ownM, ↓ho_ownL, ↓ho_appendM, ↓ho_setLS, ↓ho_callRM, ↓ho_forS, ↓ho_lcM, ↓ho_lc2M, rtP_rt, rtP_nx, rmP_rt, rmP_nx, sl_fz, sl_ow, o_add, o_addT, o_addL, o_addS, o_sub, o_mul, o_fdiv, o_mod, o_pow, o_neg, o_cmp, o_eq, o_ne, o_eqS, o_neS, o_lenL, o_lenT, o_min, o_max, o_toInt, o_tupL, o_tupT, o_lstL, o_lstT, o_seqL, o_seqT, o_part, o_slL, o_slT, o_memL, o_memT, o_ixL, o_ixT, o_rng1, o_rng2, o_enum, ↓ho_peekM, fl_int, fl_str, fl_bool, List.getElem?_cons_zero, List.getElem?_cons_succ, List.set_cons_zero, List.set_cons_succ, List.length_cons, List.length_nil, decide_eq_true_eq, true_and, and_true, Bool.not_true, Bool.not_false, if_true, if_false, ↓reduceIte, Bool.false_eq_true, Nat.reduceAdd, Int.reduceToNat, Int.reducePow, Int.reduceAdd, Int.reduceSub, Int.reduceNeg, Int.reduceMul, Int.reduceDiv, Int.reduceMod, Int.reduceLT, Int.reduceLE, Nat.reduceLeDiff, Nat.reduceEqDiff, decide_true, decide_false, and_self, wipeR, restR, List.getD_cons_succ, List.getD_cons_zero]
          exact ⟨d, hp.le (by omega), _, _, _, _, _, _, rfl⟩
      · simp only [varP_fz, varP_ow, getP_some, blP_b, flP_nx, flP_bk, flP_ct, flP_rt, retP_some, parP_2, ownP_some, ownLP_some, setKP_int, loP_nx, loP_ct, loP_bk, loP_rt, oo_some, oo_none, oo_map, oo_bind, oo_if, ↓ho_bindM, ↓ho_pureM, ↓ho_liftM, ↓ho_cM, ↓ho_bin, ↓ho_una, ↓ho_varM, ↓ho_getM, ↓ho_nilM, ↓ho_consM, ↓ho_tupM, ↓ho_lstM, ↓ho_callM, ↓ho_boolM, ↓ho_testM, ↓ho_notM, ↓ho_ite, ↓ho_andM, ↓ho_orM, ↓ho_blM, ↓ho_andV, ↓ho_orV, ↓ho_notV, ↓ho_ifM, ↓ho_chainM, ↓ho_chain3M, ↓ho_ixVM, ↓ho_partM, ↓ho_sliceM, ↓ho_seqM, ↓ho_rngM, ↓ho_putM, ↓ho_putO, ↓ho_gsNil, ↓ho_gsCons, ↓ho_tupG, ↓ho_yesM, ↓ho_wipeM, ↓ho_seqS, ↓ho_dropS, ↓ho_retS, ↓ho_retF, ↓ho_retV, ↓ho_setS, ↓ho_asgS, ↓ho_parS, ↓ho_ifS, ↓ho_ownM, ↓ho_ownL, ↓ho_appendM, ↓ho_setLS, ↓ho_callRM, ↓ho_forS, ↓ho_lcM, ↓ho_lc2M, rtP_rt, rtP_nx, rmP_rt, rmP_nx, sl_fz, sl_ow, o_add, o_addT, o_addL, o_addS, o_sub, o_mul, o_fdiv, o_mod, o_pow, o_neg, o_cmp, o_eq, o_ne, o_eqS, o_neS, o_lenL, o_lenT, o_min, o_max, o_toInt, o_tupL, o_tupT, o_lstL, o_lstT, o_seqL, o_seqT, o_part, o_slL, o_slT, o_memL, o_memT, o_ixL, o_ixT, o_rng1, o_rng2, o_enum, ↓ho_peekM, fl_int, fl_str, fl_bool, List.getElem?_cons_zero, List.getElem?_cons_succ, List.set_cons_zero, List.set_cons_succ, List.length_cons, List.length_nil, decide_eq_true_eq, true_and, and_true, Bool.not_true, Bool.not_false, if_true, if_false, ↓reduceIte, Bool.false_eq_true, Nat.reduceAdd, Int.reduceToNat, Int.reducePow, Int.reduceAdd, Int.reduceSub, Int.reduceNeg, Int.reduceMul, Int.reduceDiv, Int.reduceMod, Int.reduceLT, Int.reduceLE, Nat.reduceLeDiff, Nat.reduceEqDiff, decide_true, decide_false, and_self, wipeR, restR, List.getD_cons_succ, List.getD_cons_zero, h64]
        have hc : Fx.cutD (gs.map PyData.int) none (some 1) = (gs.take 1).map PyData.int := by
          have := g.l1
          unfold Fx.cutD HT.sIx
          simp [List.map_take]
        rw [hc]
        obtain ⟨g, h64⟩ := grid_cut g
        generalize gs.take 1 = gs at *
        have rep : reprD [.list (wkD gs)] = some (.fz (.str (PyData.list (wkD gs)).shown)) := by
          have a := wk_ok (gs := gs) (fun x hx => (g.g x hx).2) gs.length (by omega)
          rw [List.take_length] at a
          have l3 := g.l3
          have := p8 g.l3
          exact wkD_repr (by have := a.len; omega) (fun o ho => by rw [a.wid o ho]; exact l3) a.num
        have wlen : ((wkD gs).length : Int) = prodI gs := by rw [wkD, List.length_map]; exact wk_len fun x hx => by have := (g.g x hx).1; omega
        have wl : (wkD gs).length < sizeLine := by
          have : (prodI gs : Int) ≤ 64 := h64
          unfold sizeLine; omega
        refine ho_for_all (fun t ρ => ∃ s4 s7, ρ = [some (.fz (.list (ns.map PyData.int))), some (.ow d), some (.fz x), some (.fz (tupI gs)), s4, s5, s6, s7, none]) _ _ 0 _ ⟨_, _, rfl⟩ ?_ ?_
        · rintro k y ρ1 hy ⟨s4, s7, rfl⟩
          simp only [varP_fz, varP_ow, getP_some, blP_b, flP_nx, flP_bk, flP_ct, flP_rt, retP_some, parP_2, ownP_some, ownLP_some, setKP_int, loP_nx, loP_ct, loP_bk, loP_rt, oo_some, oo_none, oo_map, oo_bind, oo_if, ↓ho_bindM, ↓ho_pureM, ↓ho_liftM, ↓ho_cM, ↓ho_bin, ↓ho_una, ↓ho_varM, ↓ho_getM, ↓ho_nilM, ↓ho_consM, ↓ho_tupM, ↓ho_lstM, ↓ho_callM, ↓ho_boolM, ↓ho_testM, ↓ho_notM, ↓ho_ite, ↓ho_andM, ↓ho_orM, ↓ho_blM, ↓ho_andV, ↓ho_orV, ↓ho_notV, ↓ho_ifM, ↓ho_chainM, ↓ho_chain3M, ↓ho_ixVM, ↓ho_partM, ↓ho_sliceM, ↓ho_seqM, ↓ho_rngM, ↓ho_putM, ↓ho_putO, ↓ho_gsNil, ↓ho_gsCons, ↓ho_tupG, ↓ho_yesM, ↓ho_wipeM, ↓ho_seqS, ↓ho_dropS, ↓ho_retS, ↓ho_retF, ↓ho_retV, ↓ho_setS, ↓ho_asgS, ↓ho_parS, ↓ho_ifS, ↓ho_ownM, ↓ho_ownL, ↓ho_appendM, ↓ho_setLS, ↓ho_callRM, ↓ho_forS, ↓ho_lcM, ↓ho_lc2M, rtP_rt, rtP_nx, rmP_rt, rmP_nx, sl_fz, sl_ow, o_add, o_addT, o_addL, o_addS, o_sub, o_mul, o_fdiv, o_mod, o_pow, o_neg, o_cmp, o_eq, o_ne, o_eqS, o_neS, o_lenL, o_lenT, o_min, o_max, o_toInt, o_tupL, o_tupT, o_lstL, o_lstT, o_seqL, o_seqT, o_part, o_slL, o_slT, o_memL, o_memT, o_ixL, o_ixT, o_rng1, o_rng2, o_enum, ↓ho_peekM, fl_int, fl_str, fl_bool, List.getElem?_cons_zero, List.getElem?_cons_succ, List.set_cons_zero, List.set_cons_succ, List.length_cons, List.length_nil, decide_eq_true_eq, true_and, and_true, Bool.not_true, Bool.not_false, if_true, if_false, ↓reduceIte, Bool.false_eq_true, Nat.reduceAdd, Int.reduceToNat, Int.reducePow, Int.reduceAdd, Int.reduceSub, Int.reduceNeg, Int.reduceMul, Int.reduceDiv, Int.reduceMod, Int.reduceLT, Int.reduceLE, Nat.reduceLeDiff, Nat.reduceEqDiff, decide_true, decide_false, and_self, wipeR, restR, List.getD_cons_succ, List.getD_cons_zero]
          refine workers_ok g h64 ?_
          simp only [varP_fz, varP_ow, getP_some, blP_b, flP_nx, flP_bk, flP_ct, flP_rt, retP_some, parP_2, ownP_some, ownLP_some, setKP_int, loP_nx, loP_ct, loP_bk, loP_rt, oo_some, oo_none, oo_map, oo_bind, oo_if, ↓ho_bindM, ↓ho_pureM, ↓ho_liftM, ↓ho_cM, ↓ho_bin, ↓ho_una, ↓ho_varM, ↓ho_getM, ↓ho_nilM, ↓ho_consM, ↓ho_tupM, ↓ho_lstM, ↓ho_callM, ↓ho_boolM, ↓ho_testM, ↓ho_notM, ↓ho_ite, ↓ho_andM, ↓ho_orM, ↓ho_blM, ↓ho_andV, ↓ho_orV, ↓ho_notV, ↓ho_ifM, ↓ho_chainM, ↓ho_chain3M, ↓ho_ixVM, ↓ho_partM, ↓ho_sliceM, ↓ho_seqM, ↓ho_rngM, ↓ho_putM, ↓ho_putO, ↓ho_gsNil, ↓ho_gsCons, ↓ho_tupG, ↓ho_yesM, ↓ho_wipeM, ↓ho_seqS, ↓ho_dropS, ↓ho_retS, ↓ho_retF, ↓ho_retV, ↓ho_setS, ↓ho_asgS, ↓ho_parS, ↓ho_ifS, ↓ho_ownM, ↓ho_ownL, ↓ho_appendM, ↓ho_setLS, ↓ho_callRM, ↓ho_forS, ↓ho_lcM, ↓ho_lc2M, rtP_rt, rtP_nx, rmP_rt, rmP_nx, sl_fz, sl_ow, o_add, o_addT, o_addL, o_addS, o_sub, o_mul, o_fdiv, o_mod, o_pow, o_neg, o_cmp, o_eq, o_ne, o_eqS, o_neS, o_lenL, o_lenT, o_min, o_max, o_toInt, o_tupL, o_tupT, o_lstL, o_lstT, o_seqL, o_seqT, o_part, o_slL, o_slT, o_memL, o_memT, o_ixL, o_ixT, o_rng1, o_rng2, o_enum, ↓ho_peekM, fl_int, fl_str, fl_bool, List.getElem?_cons_zero, List.getElem?_cons_succ, List.set_cons_zero, List.set_cons_succ, List.length_cons, List.length_nil, decide_eq_true_eq, true_and, and_true, Bool.not_true, Bool.not_false, if_true, if_false, ↓reduceIte, Bool.false_eq_true, Nat.reduceAdd, Int.reduceToNat, Int.reducePow, Int.reduceAdd, Int.reduceSub, Int.reduceNeg, Int.reduceMul, Int.reduceDiv, Int.reduceMod, Int.reduceLT, Int.reduceLE, Nat.reduceLeDiff, Nat.reduceEqDiff, decide_true, decide_false, and_self, wipeR, restR, List.getD_cons_succ, List.getD_cons_zero, rep]
          refine law_workers_ok g.l3 g.g fun s hs => ?_
          rw [hs]
          simp only [varP_fz, varP_ow, getP_some, blP_b, flP_nx, flP_bk, flP_ct, flP_rt, retP_some, parP_2, ownP_some, ownLP_some, setKP_int, loP_nx, loP_ct, loP_bk, loP_rt, oo_some, oo_none, oo_map, oo_bind, oo_if, ↓ho_bindM, ↓ho_pureM, ↓ho_liftM, ↓ho_cM, ↓ho_bin, ↓ho_una, ↓ho_varM, ↓ho_getM, ↓ho_nilM, ↓ho_consM, ↓ho_tupM, ↓ho_lstM, ↓ho_callM, ↓ho_boolM, ↓ho_testM, ↓ho_notM, ↓ho_ite, ↓ho_andM, ↓ho_orM, ↓ho_blM, ↓ho_andV, ↓ho_orV, ↓ho_notV, ↓ho_ifM, ↓ho_chainM, ↓ho_chain3M, ↓ho_ixVM, ↓ho_partM, ↓ho_sliceM, ↓ho_seqM, ↓ho_rngM, ↓ho_putM, ↓ho_putO, ↓ho_gsNil, ↓ho_gsCons, ↓ho_tupG, ↓ho_yesM, ↓ho_wipeM, ↓ho_seqS, ↓ho_dropS, ↓ho_retS, ↓ho_retF, ↓ho_retV, ↓ho_setS, ↓ho_asgS, ↓ho_parS, ↓ho_ifS, ↓ho_ownM, ↓ho_ownL, ↓ho_appendM, ↓ho_setLS, ↓ho_callRM, ↓ho_forS, ↓ho_lcM, ↓ho_lc2M, rtP_rt, rtP_nx, rmP_rt, rmP_nx, sl_fz, sl_ow, o_add, o_addT, o_addL, o_addS, o_sub, o_mul, o_fdiv, o_mod, o_pow, o_neg, o_cmp, o_eq, o_ne, o_eqS, o_neS, o_lenL, o_lenT, o_min, o_max, o_toInt, o_tupL, o_tupT, o_lstL, o_lstT, o_seqL, o_seqT, o_part, o_slL, o_slT, o_memL, o_memT, o_ixL, o_ixT, o_rng1, o_rng2, o_enum, ↓ho_peekM, fl_int, fl_str, fl_bool, List.getElem?_cons_zero, List.getElem?_cons_succ, List.set_cons_zero, List.set_cons_succ, List.length_cons, List.length_nil, decide_eq_true_eq, true_and, and_true, Bool.not_true, Bool.not_false, if_true, if_false, ↓reduceIte, Bool.false_eq_true, Nat.reduceAdd, Int.reduceToNat, Int.reducePow, Int.reduceAdd, Int.reduceSub, Int.reduceNeg, Int.reduceMul, Int.reduceDiv, Int.reduceMod, Int.reduceLT, Int.reduceLE, Nat.reduceLeDiff, Nat.reduceEqDiff, decide_true, decide_false, and_self, wipeR, restR, List.getD_cons_succ, List.getD_cons_zero, rep, BEq.rfl, flatD]
          refine law_product_ok g.l3 g.g ?_
          simp only [varP_fz, varP_ow, getP_some, blP_b, flP_nx, flP_bk, flP_ct, flP_rt, retP_some, parP_2, ownP_some, ownLP_some, setKP_int, loP_nx, loP_ct, loP_bk, loP_rt, oo_some, oo_none, oo_map, oo_bind, oo_if, ↓ho_bindM, ↓ho_pureM, ↓ho_liftM, ↓ho_cM, ↓ho_bin, ↓ho_una, ↓ho_varM, ↓ho_getM, ↓ho_nilM, ↓ho_consM, ↓ho_tupM, ↓ho_lstM, ↓ho_callM, ↓ho_boolM, ↓ho_testM, ↓ho_notM, ↓ho_ite, ↓ho_andM, ↓ho_orM, ↓ho_blM, ↓ho_andV, ↓ho_orV, ↓ho_notV, ↓ho_ifM, ↓ho_chainM, ↓ho_chain3M, ↓ho_ixVM, ↓ho_partM, ↓ho_sliceM, ↓ho_seqM, ↓ho_rngM, ↓ho_putM, ↓ho_putO, ↓ho_gsNil, ↓ho_gsCons, ↓ho_tupG, ↓ho_yesM, ↓ho_wipeM, ↓ho_seqS, ↓ho_dropS, ↓ho_retS, ↓ho_retF, ↓ho_retV, ↓ho_setS, ↓ho_asgS, ↓ho_parS, ↓ho_ifS, ↓ho_ownM, ↓ho_ownL, ↓ho_appendM, ↓ho_setLS, ↓ho_callRM, ↓ho_forS, ↓ho_lcM, ↓ho_lc2M, rtP_rt, rtP_nx, rmP_rt, rmP_nx, sl_fz, sl_ow, o_add, o_addT, o_addL, o_addS, o_sub, o_mul, o_fdiv, o_mod, o_pow, o_neg, o_cmp, o_eq, o_ne, o_eqS, o_neS, o_lenL, o_lenT, o_min, o_max, o_toInt, o_tupL, o_tupT, o_lstL, o_lstT, o_seqL, o_seqT, o_part, o_slL, o_slT, o_memL, o_memT, o_ixL, o_ixT, o_rng1, o_rng2, o_enum, ↓ho_peekM, fl_int, fl_str, fl_bool, List.getElem?_cons_zero, List.getElem?_cons_succ, List.set_cons_zero, List.set_cons_succ, List.length_cons, List.length_nil, decide_eq_true_eq, true_and, and_true, Bool.not_true, Bool.not_false, if_true, if_false, ↓reduceIte, Bool.false_eq_true, Nat.reduceAdd, Int.reduceToNat, Int.reducePow, Int.reduceAdd, Int.reduceSub, Int.reduceNeg, Int.reduceMul, Int.reduceDiv, Int.reduceMod, Int.reduceLT, Int.reduceLE, Nat.reduceLeDiff, Nat.reduceEqDiff, decide_true, decide_false, and_self, wipeR, restR, List.getD_cons_succ, List.getD_cons_zero, wlen, wl, BEq.rfl]
          exact ⟨_, _, rfl⟩
        · rintro ρ1 ⟨s4, s7, rfl⟩
          simp only [varP_fz, varP_ow, getP_some, blP_b, flP_nx, flP_bk, flP_ct, flP_rt, retP_some, parP_2, ownP_some, ownLP_some, setKP_int, loP_nx, loP_ct, loP_bk, loP_rt, oo_some, oo_none, oo_map, oo_bind, oo_if, ↓ho_bindM, ↓ho_pureM, ↓ho_liftM, ↓ho_cM, ↓ho_bin, ↓ho_una, ↓ho_varM, ↓ho_getM, ↓ho_nilM, ↓ho_consM, ↓ho_tupM, ↓ho_lstM, ↓ho_callM, ↓ho_boolM, ↓ho_testM, ↓ho_notM, ↓ho_ite, ↓ho_andM, ↓ho_orM, ↓ho_blM, ↓ho_andV, ↓ho_orV, ↓ho_notV, ↓ho_ifM, ↓ho_chainM, ↓ho_chain3M, ↓ho_ixVM, ↓ho_partM, ↓ho_sliceM, ↓ho_seqM, ↓ho_rngM, ↓ho_putM, ↓ho_putO, ↓ho_gsNil, ↓ho_gsCons, ↓ho_tupG, ↓ho_yesM, ↓ho_wipeM, ↓ho_seqS, ↓ho_dropS, ↓ho_retS, ↓ho_retF, ↓ho_retV, ↓ho_setS, ↓ho_asgS, ↓ho_parS, ↓ho_ifS, ↓ho_ownM, ↓ho_ownL, ↓ho_appendM, ↓ho_setLS, ↓ho_callRM, ↓ho_forS, ↓ho_lcM, ↓ho_lc2M, rtP_rt, rtP_nx, rmP_rt, rmP_nx, sl_fz, sl_ow, o_add, o_addT, o_addL, o_addS, o_sub, o_mul, o_fdiv, o_mod, o_pow, o_neg, o_cmp, o_eq, o_ne, o_eqS, o_neS, o_lenL, o_lenT, o_min, o_max, o_toInt, o_tupL, o_tupT, o_lstL, o_lstT, o_seqL, o_seqT, o_part, o_slL, o_slT, o_memL, o_memT, o_ixL, o_ixT, o_rng1, o_rng2, o_enum, ↓ho_peekM, fl_int, fl_str, fl_bool, List.getElem?_cons_zero, List.getElem?_cons_succ, List.set_cons_zero, List.set_cons_succ, List.length_cons, List.length_nil, decide_eq_true_eq, true_and, and_true, Bool.not_true, Bool.not_false, if_true, if_false, ↓reduceIte, Bool.false_eq_true, Nat.reduceAdd, Int.reduceToNat, Int.reducePow, Int.reduceAdd, Int.reduceSub, Int.reduceNeg, Int.reduceMul, Int.reduceDiv, Int.reduceMod, Int.reduceLT, Int.reduceLE, Nat.reduceLeDiff, Nat.reduceEqDiff, decide_true, decide_false, and_self, wipeR, restR, List.getD_cons_succ, List.getD_cons_zero]
          refine take_ok hp (by omega) (by omega) (bb (by omega)) fun n1 d a0 a1 hp => ?_
          simp only [varP_fz, varP_ow, getP_some, blP_b, flP_nx, flP_bk, flP_ct, flP_rt, retP_some, parP_2, ownP_some, ownLP_some, setKP_int, loP_nx, loP_ct, loP_bk, loP_rt, oo_some, oo_none, oo_map, oo_bind, oo_if, ↓ho_bindM, ↓ho_pureM, ↓ho_liftM, ↓ho_cM, ↓ho_bin, ↓ho_una, ↓ho_varM, ↓ho_getM, ↓ho_nilM, ↓ho_consM, ↓ho_tupM, ↓ho_lstM, ↓ho_callM, ↓ho_boolM, ↓ho_testM, ↓ho_notM, ↓ho_ite, ↓ho_andM, ↓ho_orM, ↓ho_blM, ↓ho_andV, ↓ho_orV, ↓ho_notV, ↓ho_ifM, ↓ho_chainM, ↓ho_chain3M, ↓ho_ixVM, ↓ho_partM, ↓ho_sliceM, ↓ho_seqM, ↓ho_rngM, ↓ho_putM, ↓ho_putO, ↓ho_gsNil, ↓ho_gsCons, ↓ho_tupG, ↓ho_yesM, ↓ho_wipeM, ↓ho_seqS, ↓ho_dropS, ↓ho_retS, ↓ho_retF, ↓ho_retV, ↓ho_setS, ↓ho_asgS, ↓ho_parS, ↓ho_ifS, ↓ho_ownM, ↓ho_ownL, ↓ho_appendM, ↓ho_setLS, ↓ho_callRM, ↓ho_forS, ↓ho_lcM, ↓ho_lc2M, rtP_rt, rtP_nx, rmP_rt, rmP_nx, sl_fz, sl_ow, o_add, o_addT, o_addL, o_addS, o_sub, o_mul, o_fdiv, o_mod, o_pow, o_neg, o_cmp, o_eq, o_ne, o_eqS, o_neS, o_lenL, o_lenT, o_min, o_max, o_toInt, o_tupL, o_tupT, o_lstL, o_lstT, o_seqL, o_seqT, o_part, o_slL, o_slT, o_memL, o_memT, o_ixL, o_ixT, o_rng1, o_rng2, o_enum, ↓ho_peekM, fl_int, fl_str, fl_bool, List.getElem?_cons_zero, List.getElem?_cons_succ, List.set_cons_zero, List.set_cons_succ, List.length_cons, List.length_nil, decide_eq_true_eq, true_and, and_true, Bool.not_true, Bool.not_false, if_true, if_false, ↓reduceIte, Bool.false_eq_true, Nat.reduceAdd, Int.reduceToNat, Int.reducePow, Int.reduceAdd, Int.reduceSub, Int.reduceNeg, Int.reduceMul, Int.reduceDiv, Int.reduceMod, Int.reduceLT, Int.reduceLE, Nat.reduceLeDiff, Nat.reduceEqDiff, decide_true, decide_false, and_self, wipeR, restR, List.getD_cons_succ, List.getD_cons_zero]
          refine ⟨by decide, by decide, ?_⟩
          refine take_ok hp (by omega) (by omega) (bb (by omega)) fun n2 d b0 b1 hp => ?_
          simp only [varP_fz, varP_ow, getP_some, blP_b, flP_nx, flP_bk, flP_ct, flP_rt, retP_some, parP_2, ownP_some, ownLP_some, setKP_int, loP_nx, loP_ct, loP_bk, loP_rt, oo_some, oo_none, oo_map, oo_bind, oo_if, ↓ho_bindM, ↓ho_pureM, ↓ho_liftM, ↓ho_cM, ↓ho_bin, ↓ho_una, ↓ho_varM, ↓ho_getM, ↓ho_nilM, ↓ho_consM, ↓ho_tupM, ↓ho_lstM, ↓ho_callM, ↓ho_boolM, ↓ho_testM, ↓ho_notM, ↓ho_ite, ↓ho_andM, ↓ho_orM, ↓ho_blM, ↓ho_andV, ↓ho_orV, ↓ho_notV, ↓ho_ifM, ↓ho_chainM, ↓ho_chain3M, ↓ho_ixVM, ↓ho_partM, ↓ho_sliceM, ↓ho_seqM, ↓ho_rngM, ↓ho_putM, ↓ho_putO, ↓ho_gsNil, ↓ho_gsCons, ↓ho_tupG, ↓ho_yesM, ↓ho_wipeM, ↓ho_seqS, ↓ho_dropS, ↓ho_retS, ↓ho_retF, ↓ho_retV, ↓ho_setS, ↓ho_asgS, ↓ho_parS, ↓ho_ifS, ↓ho_ownM, ↓ho_ownL, ↓ho_appendM, ↓ho_setLS, ↓ho_callRM, ↓ho_forS, ↓ho_lcM, ↓ho_lc2M, rtP_rt, rtP_nx, rmP_rt, rmP_nx, sl_fz, sl_ow, o_add, o_addT, o_addL, o_addS, o_sub, o_mul, o_fdiv, o_mod, o_pow, o_neg, o_cmp, o_eq, o_ne, o_eqS, o_neS, o_lenL, o_lenT, o_min, o_max, o_toInt, o_tupL, o_tupT, o_lstL, o_lstT, o_seqL, o_seqT, o_part, o_slL, o_slT, o_memL, o_memT, o_ixL, o_ixT, o_rng1, o_rng2, o_enum, ↓ho_peekM, fl_int, fl_str, fl_bool, List.getElem?_cons_zero, List.getElem?_cons_succ, List.set_cons_zero, List.set_cons_succ, List.length_cons, List.length_nil, decide_eq_true_eq, true_and, and_true, Bool.not_true, Bool.not_false, if_true, if_false, ↓reduceIte, Bool.false_eq_true, Nat.reduceAdd, Int.reduceToNat, Int.reducePow, Int.reduceAdd, Int.reduceSub, Int.reduceNeg, Int.reduceMul, Int.reduceDiv, Int.reduceMod, Int.reduceLT, Int.reduceLE, Nat.reduceLeDiff, Nat.reduceEqDiff, decide_true, decide_false, and_self, wipeR, restR, List.getD_cons_succ, List.getD_cons_zero]
          refine ⟨by decide, ?_⟩
          refine pick_ok hp (by omega) (by simp only [List.length_cons]; omega) (by simp only [List.length_cons, List.length_nil]; omega) fun k y d hk hy hp => ?_
          obtain ⟨n, rfl, n0, nb⟩ : ∃ n : Int, y = .int n ∧ 0 ≤ n ∧ n < 2 ^ 140 := by
            have hk' : k < 6 := hk
            rcases k with _ | _ | _ | _ | _ | _ | k
            · exact ⟨_, (Option.some.inj hy).symm, by decide, by decide⟩
            · exact ⟨_, (Option.some.inj hy).symm, by decide, by decide⟩
            · exact ⟨_, (Option.some.inj hy).symm, by decide, by decide⟩
            · exact ⟨_, (Option.some.inj hy).symm, a0, by omega⟩
            · exact ⟨_, (Option.some.inj hy).symm, by decide, by decide⟩
            · exact ⟨_, (Option.some.inj hy).symm, b0, by omega⟩
            · omega
          simp only [varP_fz, varP_ow, getP_some, blP_b, flP_nx, flP_bk, flP_ct, flP_rt, retP_some, parP_2, ownP_some, ownLP_some, setKP_int, loP_nx, loP_ct, loP_bk, loP_rt, oo_some, oo_none, oo_map, oo_bind, oo_if, ↓ho_bindM, ↓ho_pureM, ↓ho_liftM, ↓ho_cM, ↓ho_bin, ↓ho_una, ↓ho_varM, ↓ho_getM, ↓ho_nilM, ↓ho_consM, ↓ho_tupM, ↓ho_lstM, ↓ho_callM, ↓ho_boolM, ↓ho_testM, ↓ho_notM, ↓ho_ite, ↓ho_andM, ↓ho_orM, ↓ho_blM, ↓ho_andV, ↓ho_orV, ↓ho_notV, ↓ho_ifM, ↓ho_chainM, ↓ho_chain3M, ↓ho_ixVM, ↓ho_partM, ↓ho_sliceM, ↓ho_seqM, ↓ho_rngM, ↓ho_putM, ↓ho_putO, ↓ho_gsNil, ↓ho_gsCons, ↓ho_tupG, ↓ho_yesM, ↓ho_wipeM, ↓ho_seqS, ↓ho_dropS, ↓ho_retS, ↓ho_retF, ↓ho_retV, ↓ho_setS, ↓ho_asgS, ↓ho_parS, ↓ho_ifS, ↓ho_ownM, ↓ho_ownL, ↓ho_appendM, ↓ho_setLS, ↓ho_callRM, ↓ho_forS, ↓ho_lcM, ↓ho_lc2M, rtP_rt, rtP_nx, rmP_rt, rmP_nx, sl_fz, sl_ow, o_add, o_addT, o_addL, o_addS, o_sub, o_mul, o_fdiv, o_mod, o_pow, o_neg, o_cmp, o_eq, o_ne, o_eqS, o_neS, o_lenL, o_lenT, o_min, o_max, o_toInt, o_tupL, o_tupT, o_lstL, o_lstT, o_seqL, o_seqT, o_part, o_slL, o_slT, o_memL, o_memT, o_ixL, o_ixT, o_rng1, o_rng2, o_enum, ↓ho_peekM, fl_int, fl_str, fl_bool, List.getElem?_cons_zero, List.getElem?_cons_succ, List.set_cons_zero, List.set_cons_succ, List.length_cons, List.length_nil, decide_eq_true_eq, true_and, and_true, Bool.not_true, Bool.not_false, if_true, if_false, ↓reduceIte, Bool.false_eq_true, Nat.reduceAdd, Int.reduceToNat, Int.reducePow, Int.reduceAdd, Int.reduceSub, Int.reduceNeg, Int.reduceMul, Int.reduceDiv, Int.reduceMod, Int.reduceLT, Int.reduceLE, Nat.reduceLeDiff, Nat.reduceEqDiff, decide_true, decide_false, and_self, wipeR, restR, List.getD_cons_succ, List.getD_cons_zero]
          refine ⟨by decide, ?_⟩
          refine take_ok hp (by omega) (by omega) (bb (by omega)) fun n3 d c0 c1 hp => ?_
          simp only [varP_fz, varP_ow, getP_some, blP_b, flP_nx, flP_bk, flP_ct, flP_rt, retP_some, parP_2, ownP_some, ownLP_some, setKP_int, loP_nx, loP_ct, loP_bk, loP_rt, oo_some, oo_none, oo_map, oo_bind, oo_if, ↓ho_bindM, ↓ho_pureM, ↓ho_liftM, ↓ho_cM, ↓ho_bin, ↓ho_una, ↓ho_varM, ↓ho_getM, ↓ho_nilM, ↓ho_consM, ↓ho_tupM, ↓ho_lstM, ↓ho_callM, ↓ho_boolM, ↓ho_testM, ↓ho_notM, ↓ho_ite, ↓ho_andM, ↓ho_orM, ↓ho_blM, ↓ho_andV, ↓ho_orV, ↓ho_notV, ↓ho_ifM, ↓ho_chainM, ↓ho_chain3M, ↓ho_ixVM, ↓ho_partM, ↓ho_sliceM, ↓ho_seqM, ↓ho_rngM, ↓ho_putM, ↓ho_putO, ↓ho_gsNil, ↓ho_gsCons, ↓ho_tupG, ↓ho_yesM, ↓ho_wipeM, ↓ho_seqS, ↓ho_dropS, ↓ho_retS, ↓ho_retF, ↓ho_retV, ↓ho_setS, ↓ho_asgS, ↓ho_parS, ↓ho_ifS, ↓ho_ownM, ↓ho_ownL, ↓ho_appendM, ↓ho_setLS, ↓ho_callRM, ↓ho_forS, ↓ho_lcM, ↓ho_lc2M, rtP_rt, rtP_nx, rmP_rt, rmP_nx, sl_fz, sl_ow, o_add, o_addT, o_addL, o_addS, o_sub, o_mul, o_fdiv, o_mod, o_pow, o_neg, o_cmp, o_eq, o_ne, o_eqS, o_neS, o_lenL, o_lenT, o_min, o_max, o_toInt, o_tupL, o_tupT, o_lstL, o_lstT, o_seqL, o_seqT, o_part, o_slL, o_slT, o_memL, o_memT, o_ixL, o_ixT, o_rng1, o_rng2, o_enum, ↓ho_peekM, fl_int, fl_str, fl_bool, List.getElem?_cons_zero, List.getElem?_cons_succ, List.set_cons_zero, List.set_cons_succ, List.length_cons, List.length_nil, decide_eq_true_eq, true_and, and_true, Bool.not_true, Bool.not_false, if_true, if_false, ↓reduceIte, Bool.false_eq_true, Nat.reduceAdd, Int.reduceToNat, Int.reducePow, Int.reduceAdd, Int.reduceSub, Int.reduceNeg, Int.reduceMul, Int.reduceDiv, Int.reduceMod, Int.reduceLT, Int.reduceLE, Nat.reduceLeDiff, Nat.reduceEqDiff, decide_true, decide_false, and_self, wipeR, restR, List.getD_cons_succ, List.getD_cons_zero]
          refine ⟨by decide, by decide, ?_⟩
          refine take_ok hp (by omega) (by omega) (bb (by omega)) fun n4 d d0 d1 hp => ?_
          simp only [varP_fz, varP_ow, getP_some, blP_b, flP_nx, flP_bk, flP_ct, flP_rt, retP_some, parP_2, ownP_some, ownLP_some, setKP_int, loP_nx, loP_ct, loP_bk, loP_rt, oo_some, oo_none, oo_map, oo_bind, oo_if, ↓ho_bindM, ↓ho_pureM, ↓ho_liftM, ↓ho_cM, ↓ho_bin, ↓ho_una, ↓ho_varM, ↓ho_getM, ↓ho_nilM, ↓ho_consM, ↓ho_tupM, ↓ho_lstM, ↓ho_callM, ↓ho_boolM, ↓ho_testM, ↓ho_notM, ↓ho_ite, ↓ho_andM, ↓ho_orM, ↓ho_blM, ↓ho_andV, ↓ho_orV, ↓ho_notV, ↓ho_ifM, ↓ho_chainM, ↓ho_chain3M, ↓ho_ixVM, ↓ho_partM, ↓ho_sliceM, ↓ho_seqM, ↓ho_rngM, ↓ho_putM, ↓ho_putO, ↓ho_gsNil, ↓ho_gsCons, ↓ho_tupG, ↓ho_yesM, ↓ho_wipeM, ↓ho_seqS, ↓ho_dropS, ↓ho_retS, ↓ho_retF, ↓ho_retV, ↓ho_setS, ↓ho_asgS, ↓ho_parS, ↓ho_ifS, ↓ho_ownM, ↓ho_ownL, ↓ho_appendM, ↓ho_setLS, ↓ho_callRM, ↓ho_forS, ↓ho_lcM, ↓ho_lc2M, rtP_rt, rtP_nx, rmP_rt, rmP_nx, sl_fz, sl_ow, o_add, o_addT, o_addL, o_addS, o_sub, o_mul, o_fdiv, o_mod, o_pow, o_neg, o_cmp, o_eq, o_ne, o_eqS, o_neS, o_lenL, o_lenT, o_min, o_max, o_toInt, o_tupL, o_tupT, o_lstL, o_lstT, o_seqL, o_seqT, o_part, o_slL, o_slT, o_memL, o_memT, o_ixL, o_ixT, o_rng1, o_rng2, o_enum, ↓ho_peekM, fl_int, fl_str, fl_bool, List.getElem?_cons_zero, List.getElem?_cons_succ, List.set_cons_zero, List.set_cons_succ, List.length_cons, List.length_nil, decide_eq_true_eq, true_and, and_true, Bool.not_true, Bool.not_false, if_true, if_false, ↓reduceIte, Bool.false_eq_true, Nat.reduceAdd, Int.reduceToNat, Int.reducePow, Int.reduceAdd, Int.reduceSub, Int.reduceNeg, Int.reduceMul, Int.reduceDiv, Int.reduceMod, Int.reduceLT, Int.reduceLE, Nat.reduceLeDiff, Nat.reduceEqDiff, decide_true, decide_false, and_self, wipeR, restR, List.getD_cons_succ, List.getD_cons_zero]
          refine ⟨by decide, ?_⟩
          refine pick_ok hp (by omega) (by simp only [List.length_cons]; omega) (by simp only [List.length_cons, List.length_nil]; omega) fun k y d hk hy hp => ?_
          obtain ⟨m, rfl, m0, mb⟩ : ∃ m : Int, y = .int m ∧ 1 ≤ m ∧ m < 2 ^ 140 := by
            have hk' : k < 8 := hk
            rcases k with _ | _ | _ | _ | _ | _ | _ | _ | k
            · exact ⟨_, (Option.some.inj hy).symm, by decide, by decide⟩
            · exact ⟨_, (Option.some.inj hy).symm, by decide, by decide⟩
            · exact ⟨_, (Option.some.inj hy).symm, by decide, by decide⟩
            · exact ⟨_, (Option.some.inj hy).symm, by decide, by decide⟩
            · exact ⟨_, (Option.some.inj hy).symm, by decide, by decide⟩
            · exact ⟨_, (Option.some.inj hy).symm, by omega, by omega⟩
            · exact ⟨_, (Option.some.inj hy).symm, by decide, by decide⟩
            · exact ⟨_, (Option.some.inj hy).symm, by omega, by omega⟩
            · omega
          simp only [varP_fz, varP_ow, getP_some, blP_b, flP_nx, flP_bk, flP_ct, flP_rt, retP_some, parP_2, ownP_some, ownLP_some, setKP_int, loP_nx, loP_ct, loP_bk, loP_rt, oo_some, oo_none, oo_map, oo_bind, oo_if, ↓ho_bindM, ↓ho_pureM, ↓ho_liftM, ↓ho_cM, ↓ho_bin, ↓ho_una, ↓ho_varM, ↓ho_getM, ↓ho_nilM, ↓ho_consM, ↓ho_tupM, ↓ho_lstM, ↓ho_callM, ↓ho_boolM, ↓ho_testM, ↓ho_notM, ↓ho_ite, ↓ho_andM, ↓ho_orM, ↓ho_blM, ↓ho_andV, ↓ho_orV, ↓ho_notV, ↓ho_ifM, ↓ho_chainM, ↓ho_chain3M, ↓ho_ixVM, ↓ho_partM, ↓ho_sliceM, ↓ho_seqM, ↓ho_rngM, ↓ho_putM, ↓ho_putO, ↓ho_gsNil, ↓ho_gsCons, ↓ho_tupG, ↓ho_yesM, ↓ho_wipeM, ↓ho_seqS, ↓ho_dropS, ↓ho_retS, ↓ho_retF, ↓ho_retV, ↓ho_setS, ↓ho_asgS, ↓ho_parS, ↓ho_ifS, ↓ho_ownM, ↓ho_ownL, ↓ho_appendM, ↓ho_setLS, ↓ho_callRM, ↓ho_forS, ↓ho_lcM, ↓ho_lc2M, rtP_rt, rtP_nx, rmP_rt, rmP_nx, sl_fz, sl_ow, o_add, o_addT, o_addL, o_addS, o_sub, o_mul, o_fdiv, o_mod, o_pow, o_neg, o_cmp, o_eq, o_ne, o_eqS, o_neS, o_lenL, o_lenT, o_min, o_max, o_toInt, o_tupL, o_tupT, o_lstL, o_lstT, o_seqL, o_seqT, o_part, o_slL, o_slT, o_memL, o_memT, o_ixL, o_ixT, o_rng1, o_rng2, o_enum, ↓ho_peekM, fl_int, fl_str, fl_bool, List.getElem?_cons_zero, List.getElem?_cons_succ, List.set_cons_zero, List.set_cons_succ, List.length_cons, List.length_nil, decide_eq_true_eq, true_and, and_true, Bool.not_true, Bool.not_false, if_true, if_false, ↓reduceIte, Bool.false_eq_true, Nat.reduceAdd, Int.reduceToNat, Int.reducePow, Int.reduceAdd, Int.reduceSub, Int.reduceNeg, Int.reduceMul, Int.reduceDiv, Int.reduceMod, Int.reduceLT, Int.reduceLE, Nat.reduceLeDiff, Nat.reduceEqDiff, decide_true, decide_false, and_self, wipeR, restR, List.getD_cons_succ, List.getD_cons_zero]
          refine pieces_ok hp (by omega) n0 nb m0 mb fun d hp => ?_
          simp only [varP_fz, varP_ow, getP_some, blP_b, flP_nx, flP_bk, flP_ct, flP_rt, retP_some, parP_2, ownP_some, ownLP_some, setKP_int, loP_nx, loP_ct, loP_bk, loP_rt, oo_some, oo_none, oo_map, oo_bind, oo_if, ↓ho_bindM, ↓ho_pureM, ↓ho_liftM, ↓ho_cM, ↓ho_bin, ↓ho_una, ↓ho_varM, ↓ho_getM, ↓ho_nilM, ↓ho_consM, ↓ho_tupM, ↓ho_lstM, ↓ho_callM, ↓ho_boolM, ↓ho_testM, ↓ho_notM, ↓ho_ite, ↓ho_andM, ↓ho_orM, ↓ho_blM, ↓ho_andV, ↓ho_orV, ↓ho_notV, ↓ho_ifM, ↓ho_chainM, ↓ho_chain3M, ↓ho_ixVM, ↓ho_partM, ↓ho_sliceM, ↓ho_seqM, ↓ho_rngM, ↓ho_putM, ↓ho_putO, ↓ho_gsNil, ↓ho_gsCons, ↓ho_tupG, ↓ho_yesM, ↓ho_wipeM, ↓ho_seqS, ↓ho_dropS, ↓ho_retS, ↓ho_retF, ↓ho_retV, ↓ho_setS, ↓ho_asgS, ↓ho_parS, ↓ho_ifS, ↓ho_ownM, ↓ho_ownL, ↓ho_appendM, ↓ho_setLS, ↓ho_callRM, ↓ho_forS, ↓ho_lcM, ↓ho_lc2M, rtP_rt, rtP_nx, rmP_rt, rmP_nx, sl_fz, sl_ow, o_add, o_addT, o_addL, o_addS, o_sub, o_mul, o_fdiv, o_mod, o_pow, o_neg, o_cmp, o_eq, o_ne, o_eqS, o_neS, o_lenL, o_lenT, o_min, o_max, o_toInt, o_tupL, o_tupT, o_lstL, o_lstT, o_seqL, o_seqT, o_part, o_slL, o_slT, o_memL, o_memT, o_ixL, o_ixT, o_rng1, o_rng2, o_enum, ↓ho_peekM, fl_int, fl_str, fl_bool, List.getElem?_cons_zero, List.getElem?_cons_succ, List.set_cons_zero, List.set_cons_succ, List.length_cons, List.length_nil, decide_eq_true_eq, true_and, and_true, Bool.not_true, Bool.not_false, if_true, if_false, ↓reduceIte, Bool.false_eq_true, Nat.reduceAdd, Int.reduceToNat, Int.reducePow, Int.reduceAdd, Int.reduceSub, Int.reduceNeg, Int.reduceMul, Int.reduceDiv, Int.reduceMod, Int.reduceLT, Int.reduceLE, Nat.reduceLeDiff, Nat.reduceEqDiff, decide_true, decide_false, and_self, wipeR, restR, List.getD_cons_succ, List.getD_cons_zero]
          exact ⟨d, hp.le (by omega), _, _, _, _, _, _, rfl⟩
  · rintro ρ1 ⟨d, hp, s2, s3, s4, s5, s6, s7, rfl⟩
    simp only [varP_fz, varP_ow, getP_some, blP_b, flP_nx, flP_bk, flP_ct, flP_rt, retP_some, parP_2, ownP_some, ownLP_some, setKP_int, loP_nx, loP_ct, loP_bk, loP_rt, oo_some, oo_none, oo_map, oo_bind, oo_if, ↓ho_bindM, ↓ho_pureM, ↓ho_liftM, ↓ho_cM, ↓ho_bin, ↓ho_una, ↓ho_varM, ↓ho_getM, ↓ho_nilM, ↓ho_consM, ↓ho_tupM, ↓ho_lstM, ↓ho_callM, ↓ho_boolM, ↓ho_testM, ↓ho_notM, ↓ho_ite, ↓ho_andM, ↓ho_orM, ↓ho_blM, ↓ho_andV, ↓ho_orV, ↓ho_notV, ↓ho_ifM, ↓ho_chainM, ↓ho_chain3M, ↓ho_ixVM, ↓ho_partM, ↓ho_sliceM, ↓ho_seqM, ↓ho_rngM, ↓ho_putM, ↓ho_putO, ↓ho_gsNil, ↓ho_gsCons, ↓ho_tupG, ↓ho_yesM, ↓ho_wipeM, ↓ho_seqS, ↓ho_dropS, ↓ho_retS, ↓ho_retF, ↓ho_retV, ↓ho_setS, ↓ho_asgS, ↓ho_parS, ↓ho_ifS, ↓ho_ownM, ↓ho_ownL, ↓ho_appendM, ↓ho_setLS, ↓ho_callRM, ↓ho_forS, ↓ho_lcM, ↓ho_lc2M, rtP_rt, rtP_nx, rmP_rt, rmP_nx, sl_fz, sl_ow, o_add, o_addT, o_addL, o_addS, o_sub, o_mul, o_fdiv, o_mod, o_pow, o_neg, o_cmp, o_eq, o_ne, o_eqS, o_neS, o_lenL, o_lenT, o_min, o_max, o_toInt, o_tupL, o_tupT, o_lstL, o_lstT, o_seqL, o_seqT, o_part, o_slL, o_slT, o_memL, o_memT, o_ixL, o_ixT, o_rng1, o_rng2, o_enum, ↓ho_peekM, fl_int, fl_str, fl_bool, List.getElem?_cons_zero, List.getElem?_cons_succ, List.set_cons_zero, List.set_cons_succ, List.length_cons, List.length_nil, decide_eq_true_eq, true_and, and_true, Bool.not_true, Bool.not_false, if_true, if_false, ↓reduceIte, Bool.false_eq_true, Nat.reduceAdd, Int.reduceToNat, Int.reducePow, Int.reduceAdd, Int.reduceSub, Int.reduceNeg, Int.reduceMul, Int.reduceDiv, Int.reduceMod, Int.reduceLT, Int.reduceLE, Nat.reduceLeDiff, Nat.reduceEqDiff, decide_true, decide_false, and_self, wipeR, restR, List.getD_cons_succ, List.getD_cons_zero]
end Lw

namespace Lw
open PySem PySem.Spec PyProof.Rows L2 Fx
def topS (i : Nat) : Stmt := PySem.Challenge.pw_gridspread_k31_workers_and_pieces.main.body.getD i (.Pass ⟨0, 0, 0, 0⟩)
abbrev s_is_integer : Stmt := topS 8
theorem sc_is_integer : FnScope N_is_integer ["thing", "least", "most"] (defScope s_is_integer) := ⟨rfl, rfl, rfl, by decide +kernel, rfl, by decide +kernel, by decide +kernel⟩
abbrev s_product : Stmt := topS 9
theorem sc_product : FnScope N_product ["numbers"] (defScope s_product) := ⟨rfl, rfl, rfl, by decide +kernel, rfl, by decide +kernel, by decide +kernel⟩
abbrev s_is_grid : Stmt := topS 10
theorem sc_is_grid : FnScope N_is_grid ["thing"] (defScope s_is_grid) := ⟨rfl, rfl, rfl, by decide +kernel, rfl, by decide +kernel, by decide +kernel⟩
abbrev s_need_grid : Stmt := topS 11
theorem sc_need_grid : FnScope N_need_grid ["grid"] (defScope s_need_grid) := ⟨rfl, rfl, rfl, by decide +kernel, rfl, by decide +kernel, by decide +kernel⟩
abbrev s_raw_workers : Stmt := topS 12
theorem sc_raw_workers : FnScope N_raw_workers ["grid"] (defScope s_raw_workers) := ⟨rfl, rfl, rfl, by decide +kernel, rfl, by decide +kernel, by decide +kernel⟩
abbrev s_workers_of : Stmt := topS 13
theorem sc_workers_of : FnScope N_workers_of ["grid"] (defScope s_workers_of) := ⟨rfl, rfl, rfl, by decide +kernel, rfl, by decide +kernel, by decide +kernel⟩
abbrev s_raw_piece : Stmt := topS 14
theorem sc_raw_piece : FnScope N_raw_piece ["n", "k", "i"] (defScope s_raw_piece) := ⟨rfl, rfl, rfl, by decide +kernel, rfl, by decide +kernel, by decide +kernel⟩
abbrev s_piece_of : Stmt := topS 15
theorem sc_piece_of : FnScope N_piece_of ["n", "k", "i"] (defScope s_piece_of) := ⟨rfl, rfl, rfl, by decide +kernel, rfl, by decide +kernel, by decide +kernel⟩
abbrev s__law_spread : Stmt := topS 17
theorem sc__law_spread : FnScope N__law_spread ["_law_cell", "_law_at"] (defScope s__law_spread) := ⟨rfl, rfl, rfl, by decide +kernel, rfl, by decide +kernel, by decide +kernel⟩
abbrev s__law_open : Stmt := topS 18
theorem sc__law_open : FnScope N__law_open ["_law_script"] (defScope s__law_open) := ⟨rfl, rfl, rfl, by decide +kernel, rfl, by decide +kernel, by decide +kernel⟩
abbrev s__law_take : Stmt := topS 19
theorem sc__law_take : FnScope N__law_take ["_law_pen", "_law_many"] (defScope s__law_take) := ⟨rfl, rfl, rfl, by decide +kernel, rfl, by decide +kernel, by decide +kernel⟩
abbrev s__law_w_pick : Stmt := topS 20
theorem sc__law_w_pick : FnScope N__law_w_pick ["_law_pen", "_law_some"] (defScope s__law_w_pick) := ⟨rfl, rfl, rfl, by decide +kernel, rfl, by decide +kernel, by decide +kernel⟩
abbrev s__law_w_workers : Stmt := topS 21
theorem sc__law_w_workers : FnScope N__law_w_workers ["_law_grid"] (defScope s__law_w_workers) := ⟨rfl, rfl, rfl, by decide +kernel, rfl, by decide +kernel, by decide +kernel⟩
abbrev s__law_w_product : Stmt := topS 22
theorem sc__law_w_product : FnScope N__law_w_product ["_law_numbers"] (defScope s__law_w_product) := ⟨rfl, rfl, rfl, by decide +kernel, rfl, by decide +kernel, by decide +kernel⟩
abbrev s__law_w_pieces_right : Stmt := topS 23
theorem sc__law_w_pieces_right : FnScope N__law_w_pieces_right ["_law_pen", "_law_n", "_law_k"] (defScope s__law_w_pieces_right) := ⟨rfl, rfl, rfl, by decide +kernel, rfl, by decide +kernel, by decide +kernel⟩
abbrev s_law : Stmt := topS 24
theorem sc_law : FnScope N_law ["_law_script"] (defScope s_law) := ⟨rfl, rfl, rfl, by decide +kernel, rfl, by decide +kernel, by decide +kernel⟩
/-- what the top has left -/
structure Top (K : PySem.W.Frag) (mg : Str → Option Value) where
  a_is_integer : Addr
  d_is_integer : FuncData
  F_is_integer : Fun K "is_integer" "is_integer" s_is_integer a_is_integer d_is_integer
  b_is_integer : Binds K d_is_integer ["thing", "least", "most"] []
  g_is_integer : mg "is_integer" = some (.ref a_is_integer)
  a_product : Addr
  d_product : FuncData
  F_product : Fun K "product" "product" s_product a_product d_product
  b_product : Binds K d_product ["numbers"] []
  g_product : mg "product" = some (.ref a_product)
  a_is_grid : Addr
  d_is_grid : FuncData
  F_is_grid : Fun K "is_grid" "is_grid" s_is_grid a_is_grid d_is_grid
  b_is_grid : Binds K d_is_grid ["thing"] []
  g_is_grid : mg "is_grid" = some (.ref a_is_grid)
  a_need_grid : Addr
  d_need_grid : FuncData
  F_need_grid : Fun K "need_grid" "need_grid" s_need_grid a_need_grid d_need_grid
  b_need_grid : Binds K d_need_grid ["grid"] []
  g_need_grid : mg "need_grid" = some (.ref a_need_grid)
  a_raw_workers : Addr
  d_raw_workers : FuncData
  F_raw_workers : Fun K "raw_workers" "raw_workers" s_raw_workers a_raw_workers d_raw_workers
  b_raw_workers : Binds K d_raw_workers ["grid"] []
  g_raw_workers : mg "raw_workers" = some (.ref a_raw_workers)
  a_workers_of : Addr
  d_workers_of : FuncData
  F_workers_of : Fun K "workers_of" "workers_of" s_workers_of a_workers_of d_workers_of
  b_workers_of : Binds K d_workers_of ["grid"] []
  g_workers_of : mg "workers_of" = some (.ref a_workers_of)
  a_raw_piece : Addr
  d_raw_piece : FuncData
  F_raw_piece : Fun K "raw_piece" "raw_piece" s_raw_piece a_raw_piece d_raw_piece
  b_raw_piece : Binds K d_raw_piece ["n", "k", "i"] []
  g_raw_piece : mg "raw_piece" = some (.ref a_raw_piece)
  a_piece_of : Addr
  d_piece_of : FuncData
  F_piece_of : Fun K "piece_of" "piece_of" s_piece_of a_piece_of d_piece_of
  b_piece_of : Binds K d_piece_of ["n", "k", "i"] []
  g_piece_of : mg "piece_of" = some (.ref a_piece_of)
  a__law_spread : Addr
  d__law_spread : FuncData
  F__law_spread : Fun K "_law_spread" "_law_spread" s__law_spread a__law_spread d__law_spread
  b__law_spread : Binds K d__law_spread ["_law_cell", "_law_at"] []
  g__law_spread : mg "_law_spread" = some (.ref a__law_spread)
  a__law_open : Addr
  d__law_open : FuncData
  F__law_open : Fun K "_law_open" "_law_open" s__law_open a__law_open d__law_open
  b__law_open : Binds K d__law_open ["_law_script"] []
  g__law_open : mg "_law_open" = some (.ref a__law_open)
  a__law_take : Addr
  d__law_take : FuncData
  F__law_take : Fun K "_law_take" "_law_take" s__law_take a__law_take d__law_take
  b__law_take : Binds K d__law_take ["_law_pen", "_law_many"] []
  g__law_take : mg "_law_take" = some (.ref a__law_take)
  a__law_w_pick : Addr
  d__law_w_pick : FuncData
  F__law_w_pick : Fun K "_law_w_pick" "_law_w_pick" s__law_w_pick a__law_w_pick d__law_w_pick
  b__law_w_pick : Binds K d__law_w_pick ["_law_pen", "_law_some"] []
  g__law_w_pick : mg "_law_w_pick" = some (.ref a__law_w_pick)
  a__law_w_workers : Addr
  d__law_w_workers : FuncData
  F__law_w_workers : Fun K "_law_w_workers" "_law_w_workers" s__law_w_workers a__law_w_workers d__law_w_workers
  b__law_w_workers : Binds K d__law_w_workers ["_law_grid"] []
  g__law_w_workers : mg "_law_w_workers" = some (.ref a__law_w_workers)
  a__law_w_product : Addr
  d__law_w_product : FuncData
  F__law_w_product : Fun K "_law_w_product" "_law_w_product" s__law_w_product a__law_w_product d__law_w_product
  b__law_w_product : Binds K d__law_w_product ["_law_numbers"] []
  g__law_w_product : mg "_law_w_product" = some (.ref a__law_w_product)
  a__law_w_pieces_right : Addr
  d__law_w_pieces_right : FuncData
  F__law_w_pieces_right : Fun K "_law_w_pieces_right" "_law_w_pieces_right" s__law_w_pieces_right a__law_w_pieces_right d__law_w_pieces_right
  b__law_w_pieces_right : Binds K d__law_w_pieces_right ["_law_pen", "_law_n", "_law_k"] []
  g__law_w_pieces_right : mg "_law_w_pieces_right" = some (.ref a__law_w_pieces_right)
  a_law : Addr
  d_law : FuncData
  F_law : Fun K "law" "law" s_law a_law d_law
  b_law : Binds K d_law ["_law_script"] []
  g_law : mg "law" = some (.ref a_law)
  t_MOST_SIDE : Tok
  c_MOST_SIDE : mg "MOST_SIDE" = some (.int 8 t_MOST_SIDE)
  t_MOST_SIDES : Tok
  c_MOST_SIDES : mg "MOST_SIDES" = some (.int 3 t_MOST_SIDES)
  t_MOST_WORKERS : Tok
  c_MOST_WORKERS : mg "MOST_WORKERS" = some (.int 64 t_MOST_WORKERS)
  n_all : mg "all" = none
  n_bool : mg "bool" = none
  n_enumerate : mg "enumerate" = none
  n_int : mg "int" = none
  n_isinstance : mg "isinstance" = none
  n_len : mg "len" = none
  n_list : mg "list" = none
  n_min : mg "min" = none
  n_range : mg "range" = none
  n_repr : mg "repr" = none
  n_tuple : mg "tuple" = none
section
variable {P : Program} {w : World} {K : PySem.W.Frag} {mg : Str → Option Value} {base : Heap}
theorem ok_is_integer (T : Top K mg) : FnF P w K mg base 1 T.a_is_integer T.d_is_integer ["thing", "least", "most"] F_is_integer :=
  fn_ok (m := m_is_integer) T.F_is_integer sc_is_integer fun cdv A outer s H E hr hgd =>
      fss_cons (fs_if (ft_w (fw_or (ft_not (ft_val (fe_isi "int" (fe_var 0) (by rfl) T.n_isinstance (by rfl) T.n_int (by decide +kernel)))) (fw_or (ft_val (fe_isi "bool" (fe_var 0) (by rfl) T.n_isinstance (by rfl) T.n_bool (by decide +kernel))) (fw_or1 (ft_cmp opr_ltD (fe_var 0) (fe_var 1) (nomark _)))))) (fss_one (fs_ret (fe_bl))) (fss_nil))
      (fss_one (fs_ret (fe_or (fe_isN (fe_var 2)) (fe_one (fe_cmp opr_leD (fe_var 0) (fe_var 2) (nomark _))))))
theorem ok_product (T : Top K mg) : FnF P w K mg base 1 T.a_product T.d_product ["numbers"] F_product :=
  fn_ok (m := m_product) T.F_product sc_product fun cdv A outer s H E hr hgd =>
      fss_cons (fs_set 1 (fe_int) sc_product.nd rfl (Or.inl rfl))
      (fss_cons (fs_for PassesOwn.never rfl (fi_seq (fe_var 0)) (fg_name 2 sc_product.nd rfl (Or.inl rfl)) (fss_one (fs_set 1 (fe_op opr_mulD (fe_var 1) (fe_var 2)) sc_product.nd rfl (Or.inl rfl))))
      (fss_one (fs_retV 1)))
theorem ok_is_grid (T : Top K mg) : FnF P w K mg base 2 T.a_is_grid T.d_is_grid ["thing"] F_is_grid :=
  fn_ok (m := m_is_grid) T.F_is_grid sc_is_grid fun cdv A outer s H E hr hgd =>
      fss_cons (fs_if (ft_w (fw_or (ft_not (ft_val (fe_isi "tuple" (fe_var 0) (by rfl) T.n_isinstance (by rfl) T.n_tuple (by decide +kernel)))) (fw_or1 (ft_not (ft_chain opr_leD opr_leD (fe_int) (fe_callBP 0 cr_lenD (by rfl) T.n_len (by decide +kernel)) (fe_gint (by rfl) T.c_MOST_SIDES) cmpI_bool))))) (fss_one (fs_ret (fe_bl))) (fss_nil))
      (fss_one (fs_ret (fe_and (fe_callB (cr_allD (by rfl)) (by rfl) T.n_all (by decide +kernel) (fa_cons (fe_lc rfl sc_is_grid.nd (fi_seq (fe_var 0)) (blkOk_by (own := [("one", 1)]) (N := N_is_grid) (sc := defScope s_is_grid) (by decide +kernel)) (fun _ _ _ _ _ => fg_name 1 sc_is_grid.nd rfl (by first | exact Or.inl rfl | exact Or.inr rfl)) (fun _ _ _ _ _ => fts_nil) (fun _ _ _ _ _ => fe_call (ok_is_integer T) (hr.mono (by decide)) hgd (by rfl) T.g_is_integer T.F_is_integer.kp T.b_is_integer (fa_cons (fe_var 1) (fa_cons (fe_int) (fa_cons (fe_gint (by rfl) T.c_MOST_SIDE) (fa_nil)))))) (fa_nil))) (fe_one (fe_cmp opr_leD (fe_call (ok_product T) (hr.mono (by decide)) hgd (by rfl) T.g_product T.F_product.kp T.b_product (fa_cons (fe_var 0) (fa_nil))) (fe_gint (by rfl) T.c_MOST_WORKERS) (nomark _))))))
theorem ok_need_grid (T : Top K mg) : FnF P w K mg base 3 T.a_need_grid T.d_need_grid ["grid"] F_need_grid :=
  fn_ok (m := m_need_grid) T.F_need_grid sc_need_grid fun cdv A outer s H E hr hgd =>
      fss_one (fs_if (ft_not (ft_val (fe_call (ok_is_grid T) (hr.mono (by decide)) hgd (by rfl) T.g_is_grid T.F_is_grid.kp T.b_is_grid (fa_cons (fe_var 0) (fa_nil))))) (fss_one (fs_nev)) (fss_nil))
theorem ok_raw_workers (T : Top K mg) : FnF P w K mg base 1 T.a_raw_workers T.d_raw_workers ["grid"] F_raw_workers :=
  fn_ok (m := m_raw_workers) T.F_raw_workers sc_raw_workers fun cdv A outer s H E hr hgd =>
      fss_cons (fs_set 1 (fe_lst (fa_cons (fe_tup (fa_nil)) (fa_nil))) sc_raw_workers.nd rfl (Or.inl rfl))
      (fss_cons (fs_for PassesOwn.never rfl (fi_seq (fe_var 0)) (fg_name 2 sc_raw_workers.nd rfl (Or.inr rfl)) (fss_one (fs_setLc2 1 (vs1 := [4]) rfl sc_raw_workers.nd rfl rfl (sw_true rfl rfl rfl (by decide +kernel)) (fi_seq (fe_var 1)) (blkOk_by (own := [("one", 3), ("at", 4)]) (N := N_raw_workers) (sc := defScope s_raw_workers) (by decide +kernel)) (fun _ _ _ _ _ => fg_name 3 sc_raw_workers.nd rfl (by first | exact Or.inl rfl | exact Or.inr rfl)) (fun _ _ _ _ _ => fts_nil) (fun _ _ _ _ _ => fi_range1 (by rfl) T.n_range (fa_cons (fe_var 2) (fa_nil))) (fun _ _ _ _ _ => fg_name 4 sc_raw_workers.nd rfl (by first | exact Or.inl rfl | exact Or.inr rfl)) (fun _ _ _ _ _ => fts_nil) (fun _ _ _ _ _ => fe_op opr_addD (fe_var 3) (fe_tup (fa_cons (fe_var 4) (fa_nil)))))))
      (fss_one (fs_retV 1)))
theorem ok_workers_of (T : Top K mg) : FnF P w K mg base 4 T.a_workers_of T.d_workers_of ["grid"] F_workers_of :=
  fn_ok (m := m_workers_of) T.F_workers_of sc_workers_of fun cdv A outer s H E hr hgd =>
      fss_cons (fs_expr (fe_call (ok_need_grid T) (hr.mono (by decide)) hgd (by rfl) T.g_need_grid T.F_need_grid.kp T.b_need_grid (fa_cons (fe_var 0) (fa_nil))))
      (fss_one (fs_ret (fe_call (ok_raw_workers T) (hr.mono (by decide)) hgd (by rfl) T.g_raw_workers T.F_raw_workers.kp T.b_raw_workers (fa_cons (fe_var 0) (fa_nil)))))
theorem ok_raw_piece (T : Top K mg) : FnF P w K mg base 1 T.a_raw_piece T.d_raw_piece ["n", "k", "i"] F_raw_piece :=
  fn_ok (m := m_raw_piece) T.F_raw_piece sc_raw_piece fun cdv A outer s H E hr hgd =>
      fss_one (fs_ret (fe_tup (fa_cons (fe_op opr_fdivD (fe_op opr_mulD (fe_var 2) (fe_var 0)) (fe_var 1)) (fa_cons (fe_op opr_fdivD (fe_op opr_mulD (fe_op opr_addD (fe_var 2) (fe_int)) (fe_var 0)) (fe_var 1)) (fa_nil)))))
theorem ok_piece_of (T : Top K mg) : FnF P w K mg base 2 T.a_piece_of T.d_piece_of ["n", "k", "i"] F_piece_of :=
  fn_ok (m := m_piece_of) T.F_piece_of sc_piece_of fun cdv A outer s H E hr hgd =>
      fss_cons (fs_if (ft_not (ft_val (fe_call (ok_is_integer T) (hr.mono (by decide)) hgd (by rfl) T.g_is_integer T.F_is_integer.kp T.b_is_integer (fa_cons (fe_var 0) (fa_cons (fe_int) (fa_cons (fe_non) (fa_nil))))))) (fss_one (fs_nev)) (fss_nil))
      (fss_cons (fs_if (ft_not (ft_val (fe_call (ok_is_integer T) (hr.mono (by decide)) hgd (by rfl) T.g_is_integer T.F_is_integer.kp T.b_is_integer (fa_cons (fe_var 1) (fa_cons (fe_int) (fa_cons (fe_non) (fa_nil))))))) (fss_one (fs_nev)) (fss_nil))
      (fss_cons (fs_if (ft_not (ft_val (fe_call (ok_is_integer T) (hr.mono (by decide)) hgd (by rfl) T.g_is_integer T.F_is_integer.kp T.b_is_integer (fa_cons (fe_var 2) (fa_cons (fe_int) (fa_cons (fe_op opr_subD (fe_var 1) (fe_int)) (fa_nil))))))) (fss_one (fs_nev)) (fss_nil))
      (fss_one (fs_ret (fe_call (ok_raw_piece T) (hr.mono (by decide)) hgd (by rfl) T.g_raw_piece T.F_raw_piece.kp T.b_raw_piece (fa_cons (fe_var 0) (fa_cons (fe_var 1) (fa_cons (fe_var 2) (fa_nil)))))))))
theorem ok__law_spread (T : Top K mg) : FnF P w K mg base 1 T.a__law_spread T.d__law_spread ["_law_cell", "_law_at"] F__law_spread :=
  fn_ok (m := m__law_spread) T.F__law_spread sc__law_spread fun cdv A outer s H E hr hgd =>
      fss_cons (fs_if (ft_cmp opr_geD (fe_var 0) (fe_op opr_powD (fe_int) (fe_int)) (nomark _)) (fss_one (fs_retV 0)) (fss_nil))
      (fss_cons (fs_set 2 (fe_lst (fa_cons (fe_int) (fa_cons (fe_int) (fa_cons (fe_int) (fa_cons (fe_int) (fa_cons (fe_int) (fa_cons (fe_int) (fa_cons (fe_int) (fa_cons (fe_int) (fa_nil)))))))))) sc__law_spread.nd rfl (Or.inl rfl))
      (fss_cons (fs_set 2 (fe_op opr_addD (fe_var 2) (fe_lst (fa_cons (fe_int) (fa_cons (fe_int) (fa_cons (fe_int) (fa_cons (fe_int) (fa_cons (fe_int) (fa_nil)))))))) sc__law_spread.nd rfl (Or.inl rfl))
      (fss_cons (fs_set 3 (fe_op opr_mulD (fe_op opr_modD (fe_callTy cr_intD (by rfl) T.n_int (by decide +kernel) (fa_cons (fe_var 0) (fa_nil))) (fe_int)) (fe_op opr_addD (fe_op opr_mulD (fe_int) (fe_var 1)) (fe_int))) sc__law_spread.nd rfl (Or.inl rfl))
      (fss_cons (fs_set 3 (fe_op opr_modD (fe_callTy cr_intD (by rfl) T.n_int (by decide +kernel) (fa_cons (fe_op opr_powD (fe_op opr_addD (fe_op opr_addD (fe_var 3) (fe_op opr_mulD (fe_var 1) (fe_int))) (fe_int)) (fe_int)) (fa_nil))) (fe_ixV 2 (fe_op opr_modD (fe_callTy cr_intD (by rfl) T.n_int (by decide +kernel) (fa_cons (fe_var 1) (fa_nil))) (fe_int)))) sc__law_spread.nd rfl (Or.inl rfl))
      (fss_cons (fs_set 4 (fe_op opr_modD (fe_callTy cr_intD (by rfl) T.n_int (by decide +kernel) (fa_cons (fe_op opr_powD (fe_op opr_addD (fe_op opr_addD (fe_op opr_mulD (fe_var 3) (fe_op opr_addD (fe_var 1) (fe_int))) (fe_op opr_modD (fe_callTy cr_intD (by rfl) T.n_int (by decide +kernel) (fa_cons (fe_var 0) (fa_nil))) (fe_int))) (fe_int)) (fe_int)) (fa_nil))) (fe_ixV 2 (fe_op opr_modD (fe_callTy cr_intD (by rfl) T.n_int (by decide +kernel) (fa_cons (fe_op opr_addD (fe_var 1) (fe_int)) (fa_nil))) (fe_int)))) sc__law_spread.nd rfl (Or.inl rfl))
      (fss_cons (fs_set 5 (fe_op opr_modD (fe_callTy cr_intD (by rfl) T.n_int (by decide +kernel) (fa_cons (fe_op opr_powD (fe_op opr_addD (fe_op opr_addD (fe_var 4) (fe_op opr_modD (fe_callTy cr_intD (by rfl) T.n_int (by decide +kernel) (fa_cons (fe_var 3) (fa_nil))) (fe_int))) (fe_var 1)) (fe_int)) (fa_nil))) (fe_ixV 2 (fe_op opr_modD (fe_callTy cr_intD (by rfl) T.n_int (by decide +kernel) (fa_cons (fe_op opr_addD (fe_var 1) (fe_int)) (fa_nil))) (fe_int)))) sc__law_spread.nd rfl (Or.inl rfl))
      (fss_one (fs_ret (fe_op opr_addD (fe_op opr_mulD (fe_op opr_addD (fe_op opr_mulD (fe_var 3) (fe_int)) (fe_var 4)) (fe_int)) (fe_var 5))))))))))
theorem ok__law_open (T : Top K mg) : FnF P w K mg base 1 T.a__law_open T.d__law_open ["_law_script"] F__law_open :=
  fn_ok (m := m__law_open) T.F__law_open sc__law_open fun cdv A outer s H E hr hgd =>
      fss_cons (fs_set 1 (fe_callTy cr_listD (by rfl) T.n_list (by decide +kernel) (fa_cons (fe_slice (fe_var 0) (fo_none) (fo_some (fe_int))) (fa_nil))) sc__law_open.nd rfl (Or.inl rfl))
      (fss_cons (fs_for PassesOwn.never rfl (fi_enum (by rfl) T.n_enumerate (fa_cons (fe_slice (fe_var 0) (fo_some (fe_int)) (fo_some (fe_int))) (fa_nil))) (fg_tup rfl (fgs_cons (fg_name 2 sc__law_open.nd rfl (Or.inl rfl)) (fgs_cons (fg_name 3 sc__law_open.nd rfl (Or.inl rfl)) (fgs_nil)))) (fss_one (fs_setL 1 (fe_op opr_addD (fe_ixV 1 (fe_op opr_modD (fe_callTy cr_intD (by rfl) T.n_int (by decide +kernel) (fa_cons (fe_var 2) (fa_nil))) (fe_int))) (fe_var 3)) (fe_op opr_modD (fe_callTy cr_intD (by rfl) T.n_int (by decide +kernel) (fa_cons (fe_var 2) (fa_nil))) (fe_int)))))
      (fss_one (fs_ret (fe_lst (fa_cons (fe_var 1) (fa_cons (fe_int) (fa_cons (fe_int) (fa_nil))))))))
theorem ok__law_take (T : Top K mg) : FnM P w K mg base 2 T.a__law_take T.d__law_take ["_law_pen", "_law_many"] F__law_take :=
  fnM_ok (m := m__law_take) T.F__law_take sc__law_take fun cdv A outer s H E hr hgd =>
      fss_cons (fs_if (ft_cmp opr_ltD (fe_ixV 0 (fe_int)) (fe_var 1) (nomark _)) (fss_cons (fs_set 3 (fe_ixV 0 (fe_int)) sc__law_take.nd rfl (Or.inl rfl))
      (fss_cons (fs_set 4 (fe_int) sc__law_take.nd rfl (Or.inl rfl))
      (fss_cons (fs_if (ft_cmp opr_ltD (fe_var 3) (fe_callB cr_lenD (by rfl) T.n_len (by decide +kernel) (fa_cons (fe_ixV 0 (fe_int)) (fa_nil))) (nomark _)) (fss_one (fs_set 4 (fe_ix (fe_ixV 0 (fe_int)) (fe_var 3)) sc__law_take.nd rfl (Or.inl rfl))) (fss_one (fs_if (ft_cmp opr_gtD (fe_callB cr_lenD (by rfl) T.n_len (by decide +kernel) (fa_cons (fe_ixV 0 (fe_int)) (fa_nil))) (fe_int) (nomark _)) (fss_one (fs_set 4 (fe_op opr_modD (fe_callTy cr_intD (by rfl) T.n_int (by decide +kernel) (fa_cons (fe_ix (fe_ixV 0 (fe_int)) (fe_op opr_modD (fe_callTy cr_intD (by rfl) T.n_int (by decide +kernel) (fa_cons (fe_op opr_addD (fe_op opr_mulD (fe_var 3) (fe_int)) (fe_int)) (fa_nil))) (fe_callB cr_lenD (by rfl) T.n_len (by decide +kernel) (fa_cons (fe_ixV 0 (fe_int)) (fa_nil))))) (fa_nil))) (fe_op opr_addD (fe_op opr_powD (fe_int) (fe_int)) (fe_var 3))) sc__law_take.nd rfl (Or.inl rfl))) (fss_nil))))
      (fss_cons (fs_setL 0 (fe_op opr_addD (fe_var 3) (fe_int)) (fe_int))
      (fss_one (fs_setL 0 (fe_call (ok__law_spread T) (hr.mono (by decide)) hgd (by rfl) T.g__law_spread T.F__law_spread.kp T.b__law_spread (fa_cons (fe_var 4) (fa_cons (fe_var 3) (fa_nil)))) (fe_int))))))) (fss_nil))
      (fss_cons (fs_set 2 (fe_op opr_modD (fe_callTy cr_intD (by rfl) T.n_int (by decide +kernel) (fa_cons (fe_ixV 0 (fe_int)) (fa_nil))) (fe_var 1)) sc__law_take.nd rfl (Or.inl rfl))
      (fss_cons (fs_setL 0 (fe_op opr_fdivD (fe_ixV 0 (fe_int)) (fe_var 1)) (fe_int))
      (fss_one (fs_ret (fe_var 2)))))
theorem ok__law_w_pick (T : Top K mg) : FnM P w K mg base 3 T.a__law_w_pick T.d__law_w_pick ["_law_pen", "_law_some"] F__law_w_pick :=
  fnM_ok (m := m__law_w_pick) T.F__law_w_pick sc__law_w_pick fun cdv A outer s H E hr hgd =>
      fss_one (fs_ret (fe_ixV 1 (fe_callR 0 (ok__law_take T) (hr.mono (by decide)) hgd (by rfl) T.g__law_take T.F__law_take.kp T.b__law_take (fa_cons (fe_callBP 1 cr_lenD (by rfl) T.n_len (by decide +kernel)) (fa_nil)))))
theorem ok__law_w_workers (T : Top K mg) : FnF P w K mg base 1 T.a__law_w_workers T.d__law_w_workers ["_law_grid"] F__law_w_workers :=
  fn_ok (m := m__law_w_workers) T.F__law_w_workers sc__law_w_workers fun cdv A outer s H E hr hgd =>
      fss_cons (fs_set 1 (fe_lst (fa_cons (fe_tup (fa_nil)) (fa_nil))) sc__law_w_workers.nd rfl (Or.inl rfl))
      (fss_cons (fs_for PassesOwn.never rfl (fi_seq (fe_var 0)) (fg_name 2 sc__law_w_workers.nd rfl (Or.inl rfl)) (fss_cons (fs_set 3 (fe_lst (fa_nil)) sc__law_w_workers.nd rfl (Or.inl rfl))
      (fss_cons (fs_for PassesOwn.never rfl (fi_seq (fe_var 1)) (fg_name 4 sc__law_w_workers.nd rfl (Or.inr rfl)) (fss_one (fs_set 3 (fe_op opr_addD (fe_var 3) (fe_lc rfl sc__law_w_workers.nd (fi_range1 (by rfl) T.n_range (fa_cons (fe_var 2) (fa_nil))) (blkOk_by (own := [("_law_at", 5)]) (N := N__law_w_workers) (sc := defScope s__law_w_workers) (by decide +kernel)) (fun _ _ _ _ _ => fg_name 5 sc__law_w_workers.nd rfl (by first | exact Or.inl rfl | exact Or.inr rfl)) (fun _ _ _ _ _ => fts_nil) (fun _ _ _ _ _ => fe_op opr_addD (fe_var 4) (fe_tup (fa_cons (fe_var 5) (fa_nil)))))) sc__law_w_workers.nd rfl (Or.inl rfl))))
      (fss_one (fs_set 1 (fe_var 3) sc__law_w_workers.nd rfl (Or.inl rfl))))))
      (fss_one (fs_retV 1)))
theorem ok__law_w_product (T : Top K mg) : FnF P w K mg base 1 T.a__law_w_product T.d__law_w_product ["_law_numbers"] F__law_w_product :=
  fn_ok (m := m__law_w_product) T.F__law_w_product sc__law_w_product fun cdv A outer s H E hr hgd =>
      fss_cons (fs_set 1 (fe_int) sc__law_w_product.nd rfl (Or.inl rfl))
      (fss_cons (fs_for PassesOwn.never rfl (fi_seq (fe_var 0)) (fg_name 2 sc__law_w_product.nd rfl (Or.inl rfl)) (fss_one (fs_set 1 (fe_op opr_mulD (fe_var 1) (fe_var 2)) sc__law_w_product.nd rfl (Or.inl rfl))))
      (fss_one (fs_retV 1)))
theorem ok__law_w_pieces_right (T : Top K mg) : FnM P w K mg base 3 T.a__law_w_pieces_right T.d__law_w_pieces_right ["_law_pen", "_law_n", "_law_k"] F__law_w_pieces_right :=
  fnM_ok (m := m__law_w_pieces_right) T.F__law_w_pieces_right sc__law_w_pieces_right fun cdv A outer s H E hr hgd =>
      fss_cons (fs_if (ft_w (fw_or (ft_cmp (opr_neD hr.units) (fe_ix (fe_call (ok_piece_of T) (hr.mono (by decide)) hgd (by rfl) T.g_piece_of T.F_piece_of.kp T.b_piece_of (fa_cons (fe_var 1) (fa_cons (fe_var 2) (fa_cons (fe_int) (fa_nil))))) (fe_int)) (fe_int) (nomark _)) (fw_or1 (ft_cmp (opr_neD hr.units) (fe_ix (fe_call (ok_piece_of T) (hr.mono (by decide)) hgd (by rfl) T.g_piece_of T.F_piece_of.kp T.b_piece_of (fa_cons (fe_var 1) (fa_cons (fe_var 2) (fa_cons (fe_op opr_subD (fe_var 2) (fe_int)) (fa_nil))))) (fe_int)) (fe_var 1) (nomark _))))) (fss_one (fs_ret (fe_bl))) (fss_nil))
      (fss_cons (fs_for PassesOwn.never rfl (fi_range1 (by rfl) T.n_range (fa_cons (fe_int) (fa_nil))) (fg_name 3 sc__law_w_pieces_right.nd rfl (Or.inl rfl)) (fss_cons (fs_set 4 (fe_callR 0 (ok__law_take T) (hr.mono (by decide)) hgd (by rfl) T.g__law_take T.F__law_take.kp T.b__law_take (fa_cons (fe_var 2) (fa_nil))) sc__law_w_pieces_right.nd rfl (Or.inl rfl))
      (fss_cons (fs_set 5 (fe_call (ok_piece_of T) (hr.mono (by decide)) hgd (by rfl) T.g_piece_of T.F_piece_of.kp T.b_piece_of (fa_cons (fe_var 1) (fa_cons (fe_var 2) (fa_cons (fe_var 4) (fa_nil))))) sc__law_w_pieces_right.nd rfl (Or.inl rfl))
      (fss_cons (fs_if (ft_w (fw_or (ft_cmp (opr_neD hr.units) (fe_callBP 5 (cr_reprD hgd hr.units) (by rfl) T.n_repr (by decide +kernel)) (fe_callB (cr_reprD hgd hr.units) (by rfl) T.n_repr (by decide +kernel) (fa_cons (fe_tup (fa_cons (fe_op opr_fdivD (fe_op opr_mulD (fe_var 4) (fe_var 1)) (fe_var 2)) (fa_cons (fe_op opr_fdivD (fe_op opr_mulD (fe_op opr_addD (fe_var 4) (fe_int)) (fe_var 1)) (fe_var 2)) (fa_nil)))) (fa_nil))) (nomark _)) (fw_or1 (ft_cmp (opr_notInD (hu65 hr)) (fe_op opr_subD (fe_ixV 5 (fe_int)) (fe_ixV 5 (fe_int))) (fe_lst (fa_cons (fe_op opr_fdivD (fe_var 1) (fe_var 2)) (fa_cons (fe_op opr_addD (fe_op opr_fdivD (fe_var 1) (fe_var 2)) (fe_int)) (fa_nil)))) (by rfl))))) (fss_one (fs_ret (fe_bl))) (fss_nil))
      (fss_cons (fs_if (ft_w (fw_and (ft_cmp opr_gtD (fe_var 4) (fe_int) (nomark _)) (fw_and1 (ft_cmp (opr_neD hr.units) (fe_ix (fe_call (ok_piece_of T) (hr.mono (by decide)) hgd (by rfl) T.g_piece_of T.F_piece_of.kp T.b_piece_of (fa_cons (fe_var 1) (fa_cons (fe_var 2) (fa_cons (fe_op opr_subD (fe_var 4) (fe_int)) (fa_nil))))) (fe_int)) (fe_ixV 5 (fe_int)) (nomark _))))) (fss_one (fs_ret (fe_bl))) (fss_nil))
      (fss_cons (fs_set 6 (fe_if (ft_cmp opr_gtD (fe_var 1) (fe_int) (nomark _)) (fe_callR 0 (ok__law_take T) (hr.mono (by decide)) hgd (by rfl) T.g__law_take T.F__law_take.kp T.b__law_take (fa_cons (fe_var 1) (fa_nil))) (fe_int)) sc__law_w_pieces_right.nd rfl (Or.inl rfl))
      (fss_cons (fs_set 4 (fe_if (ft_cmp opr_gtD (fe_var 1) (fe_int) (nomark _)) (fe_op opr_fdivD (fe_op opr_subD (fe_op opr_mulD (fe_op opr_addD (fe_var 6) (fe_int)) (fe_var 2)) (fe_int)) (fe_var 1)) (fe_int)) sc__law_w_pieces_right.nd rfl (Or.inl rfl))
      (fss_cons (fs_asg (fe_call (ok_piece_of T) (hr.mono (by decide)) hgd (by rfl) T.g_piece_of T.F_piece_of.kp T.b_piece_of (fa_cons (fe_var 1) (fa_cons (fe_var 2) (fa_cons (fe_callB (cr_minD (by rfl)) (by rfl) T.n_min (by decide +kernel) (fa_cons (fe_var 4) (fa_cons (fe_op opr_subD (fe_var 2) (fe_int)) (fa_nil)))) (fa_nil))))) (fg_tup rfl (fgs_cons (fg_name 7 sc__law_w_pieces_right.nd rfl (Or.inl rfl)) (fgs_cons (fg_name 8 sc__law_w_pieces_right.nd rfl (Or.inl rfl)) (fgs_nil)))))
      (fss_cons (fs_if (ft_w (fw_and (ft_cmp opr_gtD (fe_var 1) (fe_int) (nomark _)) (fw_and1 (ft_not (ft_chain opr_leD opr_ltD (fe_var 7) (fe_var 6) (fe_var 8) cmpI_bool))))) (fss_one (fs_ret (fe_bl))) (fss_nil))
      (fss_cons (fs_par (i := 9) (j := 10) rfl sc__law_w_pieces_right.nd rfl rfl (by decide) rfl rfl (fa_cons (fe_op opr_addD (fe_int) (fe_callR 0 (ok__law_take T) (hr.mono (by decide)) hgd (by rfl) T.g__law_take T.F__law_take.kp T.b__law_take (fa_cons (fe_int) (fa_nil)))) (fa_cons (fe_callR 0 (ok__law_take T) (hr.mono (by decide)) hgd (by rfl) T.g__law_take T.F__law_take.kp T.b__law_take (fa_cons (fe_int) (fa_nil))) (fa_nil))) (by rfl))
      (fss_cons (fs_par (i := 11) (j := 12) rfl sc__law_w_pieces_right.nd rfl rfl (by decide) rfl rfl (fa_cons (fe_call (ok_piece_of T) (hr.mono (by decide)) hgd (by rfl) T.g_piece_of T.F_piece_of.kp T.b_piece_of (fa_cons (fe_var 1) (fa_cons (fe_op opr_mulD (fe_var 2) (fe_var 9)) (fa_cons (fe_op opr_addD (fe_op opr_mulD (fe_var 4) (fe_var 9)) (fe_var 10)) (fa_nil))))) (fa_cons (fe_call (ok_piece_of T) (hr.mono (by decide)) hgd (by rfl) T.g_piece_of T.F_piece_of.kp T.b_piece_of (fa_cons (fe_var 1) (fa_cons (fe_var 2) (fa_cons (fe_callB (cr_minD (by rfl)) (by rfl) T.n_min (by decide +kernel) (fa_cons (fe_var 4) (fa_cons (fe_op opr_subD (fe_var 2) (fe_int)) (fa_nil)))) (fa_nil))))) (fa_nil))) (by rfl))
      (fss_one (fs_if (ft_w (fw_and (ft_cmp opr_ltD (fe_var 4) (fe_var 2) (nomark _)) (fw_and1 (ft_not (ft_chain3 opr_leD opr_leD opr_leD (fe_ixV 12 (fe_int)) (fe_ixV 11 (fe_int)) (fe_ixV 11 (fe_int)) (fe_ixV 12 (fe_int))))))) (fss_one (fs_ret (fe_bl))) (fss_nil))))))))))))))
      (fss_one (fs_ret (fe_bl))))
theorem ok_law (T : Top K mg) : FnF P w K mg base 5 T.a_law T.d_law ["_law_script"] F_law :=
  fn_ok (m := m_law) T.F_law sc_law fun cdv A outer s H E hr hgd =>
      fss_cons (fs_set 1 (fe_call (ok__law_open T) (hr.mono (by decide)) hgd (by rfl) T.g__law_open T.F__law_open.kp T.b__law_open (fa_cons (fe_var 0) (fa_nil))) sc_law.nd rfl (Or.inr rfl))
      (fss_cons (fs_for PassesOwn.never rfl (fi_range1 (by rfl) T.n_range (fa_cons (fe_int) (fa_nil))) (fg_name 2 sc_law.nd rfl (Or.inl rfl)) (fss_cons (fs_set 3 (fe_callTy cr_tupleD (by rfl) T.n_tuple (by decide +kernel) (fa_cons (fe_lc rfl sc_law.nd (fi_range1 (by rfl) T.n_range (fa_cons (fe_op opr_addD (fe_int) (fe_callR 1 (ok__law_take T) (hr.mono (by decide)) hgd (by rfl) T.g__law_take T.F__law_take.kp T.b__law_take (fa_cons (fe_int) (fa_nil)))) (fa_nil))) (blkOk_by (own := [("_law_side", 8)]) (N := N_law) (sc := defScope s_law) (by decide +kernel)) (fun _ _ _ _ _ => fg_name 8 sc_law.nd rfl (by first | exact Or.inl rfl | exact Or.inr rfl)) (fun _ _ _ _ _ => fts_nil) (fun _ _ _ _ _ => fe_op opr_addD (fe_int) (fe_callR 1 (ok__law_take T) (hr.mono (by decide)) hgd (by rfl) T.g__law_take T.F__law_take.kp T.b__law_take (fa_cons (fe_callR 1 (ok__law_w_pick T) (hr.mono (by decide)) hgd (by rfl) T.g__law_w_pick T.F__law_w_pick.kp T.b__law_w_pick (fa_cons (fe_lst (fa_cons (fe_int) (fa_cons (fe_int) (fa_cons (fe_int) (fa_nil))))) (fa_nil))) (fa_nil))))) (fa_nil))) sc_law.nd rfl (Or.inl rfl))
      (fss_cons (fs_set 3 (fe_if (ft_cmp opr_leD (fe_call (ok__law_w_product T) (hr.mono (by decide)) hgd (by rfl) T.g__law_w_product T.F__law_w_product.kp T.b__law_w_product (fa_cons (fe_var 3) (fa_nil))) (fe_int) (nomark _)) (fe_var 3) (fe_slice (fe_var 3) (fo_none) (fo_some (fe_int)))) sc_law.nd rfl (Or.inl rfl))
      (fss_cons (fs_for PassesOwn.never rfl (fi_range1 (by rfl) T.n_range (fa_cons (fe_int) (fa_nil))) (fg_name 4 sc_law.nd rfl (Or.inl rfl)) (fss_cons (fs_set 7 (fe_call (ok_workers_of T) (hr.mono (by decide)) hgd (by rfl) T.g_workers_of T.F_workers_of.kp T.b_workers_of (fa_cons (fe_var 3) (fa_nil))) sc_law.nd rfl (Or.inl rfl))
      (fss_cons (fs_if (ft_w (fw_or (ft_cmp (opr_neD hr.units) (fe_callBP 7 (cr_reprD hgd hr.units) (by rfl) T.n_repr (by decide +kernel)) (fe_callB (cr_reprD hgd hr.units) (by rfl) T.n_repr (by decide +kernel) (fa_cons (fe_call (ok__law_w_workers T) (hr.mono (by decide)) hgd (by rfl) T.g__law_w_workers T.F__law_w_workers.kp T.b__law_w_workers (fa_cons (fe_var 3) (fa_nil))) (fa_nil))) (nomark _)) (fw_or1 (ft_cmp (opr_neD hr.units) (fe_callBP 7 cr_lenD (by rfl) T.n_len (by decide +kernel)) (fe_call (ok__law_w_product T) (hr.mono (by decide)) hgd (by rfl) T.g__law_w_product T.F__law_w_product.kp T.b__law_w_product (fa_cons (fe_var 3) (fa_nil))) (nomark _))))) (fss_one (fs_ret (fe_bl))) (fss_nil))
      (fss_one (fs_expr (fe_append 7 (fe_non)))))))
      (fss_cons (fs_set 5 (fe_callR 1 (ok__law_w_pick T) (hr.mono (by decide)) hgd (by rfl) T.g__law_w_pick T.F__law_w_pick.kp T.b__law_w_pick (fa_cons (fe_lst (fa_cons (fe_int) (fa_cons (fe_int) (fa_cons (fe_int) (fa_cons (fe_callR 1 (ok__law_take T) (hr.mono (by decide)) hgd (by rfl) T.g__law_take T.F__law_take.kp T.b__law_take (fa_cons (fe_int) (fa_nil))) (fa_cons (fe_op opr_powD (fe_int) (fe_int)) (fa_cons (fe_callR 1 (ok__law_take T) (hr.mono (by decide)) hgd (by rfl) T.g__law_take T.F__law_take.kp T.b__law_take (fa_cons (fe_op opr_powD (fe_int) (fe_int)) (fa_nil))) (fa_nil)))))))) (fa_nil))) sc_law.nd rfl (Or.inl rfl))
      (fss_cons (fs_set 6 (fe_lst (fa_cons (fe_int) (fa_cons (fe_int) (fa_cons (fe_int) (fa_cons (fe_int) (fa_cons (fe_int) (fa_cons (fe_op opr_addD (fe_int) (fe_callR 1 (ok__law_take T) (hr.mono (by decide)) hgd (by rfl) T.g__law_take T.F__law_take.kp T.b__law_take (fa_cons (fe_op opr_powD (fe_int) (fe_int)) (fa_nil)))) (fa_cons (fe_op opr_powD (fe_int) (fe_int)) (fa_cons (fe_op opr_addD (fe_int) (fe_callR 1 (ok__law_take T) (hr.mono (by decide)) hgd (by rfl) T.g__law_take T.F__law_take.kp T.b__law_take (fa_cons (fe_op opr_powD (fe_int) (fe_int)) (fa_nil)))) (fa_nil)))))))))) sc_law.nd rfl (Or.inl rfl))
      (fss_one (fs_if (ft_not (ft_val (fe_callR 1 (ok__law_w_pieces_right T) (hr.mono (by decide)) hgd (by rfl) T.g__law_w_pieces_right T.F__law_w_pieces_right.kp T.b__law_w_pieces_right (fa_cons (fe_var 5) (fa_cons (fe_callR 1 (ok__law_w_pick T) (hr.mono (by decide)) hgd (by rfl) T.g__law_w_pick T.F__law_w_pick.kp T.b__law_w_pick (fa_cons (fe_var 6) (fa_nil))) (fa_nil)))))) (fss_one (fs_ret (fe_bl))) (fss_nil)))))))))
      (fss_one (fs_ret (fe_bl))))
end
/-- the facts, from the head -/
theorem all_mk {l : PySem.W.OpenLaw} {w : World} {K : PySem.W.Frag} {h : Heap} {mg : Str → Option Value} {fa : Addr} (X : K.In h) (G : h.Ns mainGlobals mg) (hfa : mg "law" = some (.ref fa))
    {x0 : Addr} {od0 an0 : Option Addr} {sl0 : Array (Option Value)} {oc0 kV0 dc0 pm0 cd0 ct0 : Value} (a0 : PySem.W.nsIn K mainGlobals "is_integer" = some (some (.ref x0))) (l0 : K.lookup x0 = some ⟨oc0, od0, .func (PySem.W.fnOf "is_integer" "is_integer" (defArgs s_is_integer) (defBody s_is_integer) (defScope s_is_integer) .none kV0 dc0 pm0 an0 cd0 ct0), sl0⟩) (c0 : PySem.W.codeIn K cd0 "is_integer" = true) (k0 : PySem.W.keepIn K (.ref x0) = true)
    {x1 : Addr} {od1 an1 : Option Addr} {sl1 : Array (Option Value)} {oc1 kV1 dc1 pm1 cd1 ct1 : Value} (a1 : PySem.W.nsIn K mainGlobals "product" = some (some (.ref x1))) (l1 : K.lookup x1 = some ⟨oc1, od1, .func (PySem.W.fnOf "product" "product" (defArgs s_product) (defBody s_product) (defScope s_product) .none kV1 dc1 pm1 an1 cd1 ct1), sl1⟩) (c1 : PySem.W.codeIn K cd1 "product" = true) (k1 : PySem.W.keepIn K (.ref x1) = true)
    {x2 : Addr} {od2 an2 : Option Addr} {sl2 : Array (Option Value)} {oc2 kV2 dc2 pm2 cd2 ct2 : Value} (a2 : PySem.W.nsIn K mainGlobals "is_grid" = some (some (.ref x2))) (l2 : K.lookup x2 = some ⟨oc2, od2, .func (PySem.W.fnOf "is_grid" "is_grid" (defArgs s_is_grid) (defBody s_is_grid) (defScope s_is_grid) .none kV2 dc2 pm2 an2 cd2 ct2), sl2⟩) (c2 : PySem.W.codeIn K cd2 "is_grid" = true) (k2 : PySem.W.keepIn K (.ref x2) = true)
    {x3 : Addr} {od3 an3 : Option Addr} {sl3 : Array (Option Value)} {oc3 kV3 dc3 pm3 cd3 ct3 : Value} (a3 : PySem.W.nsIn K mainGlobals "need_grid" = some (some (.ref x3))) (l3 : K.lookup x3 = some ⟨oc3, od3, .func (PySem.W.fnOf "need_grid" "need_grid" (defArgs s_need_grid) (defBody s_need_grid) (defScope s_need_grid) .none kV3 dc3 pm3 an3 cd3 ct3), sl3⟩) (c3 : PySem.W.codeIn K cd3 "need_grid" = true) (k3 : PySem.W.keepIn K (.ref x3) = true)
    {x4 : Addr} {od4 an4 : Option Addr} {sl4 : Array (Option Value)} {oc4 kV4 dc4 pm4 cd4 ct4 : Value} (a4 : PySem.W.nsIn K mainGlobals "raw_workers" = some (some (.ref x4))) (l4 : K.lookup x4 = some ⟨oc4, od4, .func (PySem.W.fnOf "raw_workers" "raw_workers" (defArgs s_raw_workers) (defBody s_raw_workers) (defScope s_raw_workers) .none kV4 dc4 pm4 an4 cd4 ct4), sl4⟩) (c4 : PySem.W.codeIn K cd4 "raw_workers" = true) (k4 : PySem.W.keepIn K (.ref x4) = true)
    {x5 : Addr} {od5 an5 : Option Addr} {sl5 : Array (Option Value)} {oc5 kV5 dc5 pm5 cd5 ct5 : Value} (a5 : PySem.W.nsIn K mainGlobals "workers_of" = some (some (.ref x5))) (l5 : K.lookup x5 = some ⟨oc5, od5, .func (PySem.W.fnOf "workers_of" "workers_of" (defArgs s_workers_of) (defBody s_workers_of) (defScope s_workers_of) .none kV5 dc5 pm5 an5 cd5 ct5), sl5⟩) (c5 : PySem.W.codeIn K cd5 "workers_of" = true) (k5 : PySem.W.keepIn K (.ref x5) = true)
    {x6 : Addr} {od6 an6 : Option Addr} {sl6 : Array (Option Value)} {oc6 kV6 dc6 pm6 cd6 ct6 : Value} (a6 : PySem.W.nsIn K mainGlobals "raw_piece" = some (some (.ref x6))) (l6 : K.lookup x6 = some ⟨oc6, od6, .func (PySem.W.fnOf "raw_piece" "raw_piece" (defArgs s_raw_piece) (defBody s_raw_piece) (defScope s_raw_piece) .none kV6 dc6 pm6 an6 cd6 ct6), sl6⟩) (c6 : PySem.W.codeIn K cd6 "raw_piece" = true) (k6 : PySem.W.keepIn K (.ref x6) = true)
    {x7 : Addr} {od7 an7 : Option Addr} {sl7 : Array (Option Value)} {oc7 kV7 dc7 pm7 cd7 ct7 : Value} (a7 : PySem.W.nsIn K mainGlobals "piece_of" = some (some (.ref x7))) (l7 : K.lookup x7 = some ⟨oc7, od7, .func (PySem.W.fnOf "piece_of" "piece_of" (defArgs s_piece_of) (defBody s_piece_of) (defScope s_piece_of) .none kV7 dc7 pm7 an7 cd7 ct7), sl7⟩) (c7 : PySem.W.codeIn K cd7 "piece_of" = true) (k7 : PySem.W.keepIn K (.ref x7) = true)
    {x8 : Addr} {od8 an8 : Option Addr} {sl8 : Array (Option Value)} {oc8 kV8 dc8 pm8 cd8 ct8 : Value} (a8 : PySem.W.nsIn K mainGlobals "_law_spread" = some (some (.ref x8))) (l8 : K.lookup x8 = some ⟨oc8, od8, .func (PySem.W.fnOf "_law_spread" "_law_spread" (defArgs s__law_spread) (defBody s__law_spread) (defScope s__law_spread) .none kV8 dc8 pm8 an8 cd8 ct8), sl8⟩) (c8 : PySem.W.codeIn K cd8 "_law_spread" = true) (k8 : PySem.W.keepIn K (.ref x8) = true)
    {x9 : Addr} {od9 an9 : Option Addr} {sl9 : Array (Option Value)} {oc9 kV9 dc9 pm9 cd9 ct9 : Value} (a9 : PySem.W.nsIn K mainGlobals "_law_open" = some (some (.ref x9))) (l9 : K.lookup x9 = some ⟨oc9, od9, .func (PySem.W.fnOf "_law_open" "_law_open" (defArgs s__law_open) (defBody s__law_open) (defScope s__law_open) .none kV9 dc9 pm9 an9 cd9 ct9), sl9⟩) (c9 : PySem.W.codeIn K cd9 "_law_open" = true) (k9 : PySem.W.keepIn K (.ref x9) = true)
    {x10 : Addr} {od10 an10 : Option Addr} {sl10 : Array (Option Value)} {oc10 kV10 dc10 pm10 cd10 ct10 : Value} (a10 : PySem.W.nsIn K mainGlobals "_law_take" = some (some (.ref x10))) (l10 : K.lookup x10 = some ⟨oc10, od10, .func (PySem.W.fnOf "_law_take" "_law_take" (defArgs s__law_take) (defBody s__law_take) (defScope s__law_take) .none kV10 dc10 pm10 an10 cd10 ct10), sl10⟩) (c10 : PySem.W.codeIn K cd10 "_law_take" = true) (k10 : PySem.W.keepIn K (.ref x10) = true)
    {x11 : Addr} {od11 an11 : Option Addr} {sl11 : Array (Option Value)} {oc11 kV11 dc11 pm11 cd11 ct11 : Value} (a11 : PySem.W.nsIn K mainGlobals "_law_w_pick" = some (some (.ref x11))) (l11 : K.lookup x11 = some ⟨oc11, od11, .func (PySem.W.fnOf "_law_w_pick" "_law_w_pick" (defArgs s__law_w_pick) (defBody s__law_w_pick) (defScope s__law_w_pick) .none kV11 dc11 pm11 an11 cd11 ct11), sl11⟩) (c11 : PySem.W.codeIn K cd11 "_law_w_pick" = true) (k11 : PySem.W.keepIn K (.ref x11) = true)
    {x12 : Addr} {od12 an12 : Option Addr} {sl12 : Array (Option Value)} {oc12 kV12 dc12 pm12 cd12 ct12 : Value} (a12 : PySem.W.nsIn K mainGlobals "_law_w_workers" = some (some (.ref x12))) (l12 : K.lookup x12 = some ⟨oc12, od12, .func (PySem.W.fnOf "_law_w_workers" "_law_w_workers" (defArgs s__law_w_workers) (defBody s__law_w_workers) (defScope s__law_w_workers) .none kV12 dc12 pm12 an12 cd12 ct12), sl12⟩) (c12 : PySem.W.codeIn K cd12 "_law_w_workers" = true) (k12 : PySem.W.keepIn K (.ref x12) = true)
    {x13 : Addr} {od13 an13 : Option Addr} {sl13 : Array (Option Value)} {oc13 kV13 dc13 pm13 cd13 ct13 : Value} (a13 : PySem.W.nsIn K mainGlobals "_law_w_product" = some (some (.ref x13))) (l13 : K.lookup x13 = some ⟨oc13, od13, .func (PySem.W.fnOf "_law_w_product" "_law_w_product" (defArgs s__law_w_product) (defBody s__law_w_product) (defScope s__law_w_product) .none kV13 dc13 pm13 an13 cd13 ct13), sl13⟩) (c13 : PySem.W.codeIn K cd13 "_law_w_product" = true) (k13 : PySem.W.keepIn K (.ref x13) = true)
    {x14 : Addr} {od14 an14 : Option Addr} {sl14 : Array (Option Value)} {oc14 kV14 dc14 pm14 cd14 ct14 : Value} (a14 : PySem.W.nsIn K mainGlobals "_law_w_pieces_right" = some (some (.ref x14))) (l14 : K.lookup x14 = some ⟨oc14, od14, .func (PySem.W.fnOf "_law_w_pieces_right" "_law_w_pieces_right" (defArgs s__law_w_pieces_right) (defBody s__law_w_pieces_right) (defScope s__law_w_pieces_right) .none kV14 dc14 pm14 an14 cd14 ct14), sl14⟩) (c14 : PySem.W.codeIn K cd14 "_law_w_pieces_right" = true) (k14 : PySem.W.keepIn K (.ref x14) = true)
    {x15 : Addr} {od15 an15 : Option Addr} {sl15 : Array (Option Value)} {oc15 kV15 dc15 pm15 cd15 ct15 : Value} (a15 : PySem.W.nsIn K mainGlobals "law" = some (some (.ref x15))) (l15 : K.lookup x15 = some ⟨oc15, od15, .func (PySem.W.fnOf "law" "law" (defArgs s_law) (defBody s_law) (defScope s_law) .none kV15 dc15 pm15 an15 cd15 ct15), sl15⟩) (c15 : PySem.W.codeIn K cd15 "law" = true) (k15 : PySem.W.keepIn K (.ref x15) = true)
    {tk0 : Tok} (q0 : PySem.W.nsIn K mainGlobals "MOST_SIDE" = some (some (.int 8 tk0)))
    {tk1 : Tok} (q1 : PySem.W.nsIn K mainGlobals "MOST_SIDES" = some (some (.int 3 tk1)))
    {tk2 : Tok} (q2 : PySem.W.nsIn K mainGlobals "MOST_WORKERS" = some (some (.int 64 tk2)))
    (z0 : PySem.W.nsIn K mainGlobals "all" = some none)
    (z1 : PySem.W.nsIn K mainGlobals "bool" = some none)
    (z2 : PySem.W.nsIn K mainGlobals "enumerate" = some none)
    (z3 : PySem.W.nsIn K mainGlobals "int" = some none)
    (z4 : PySem.W.nsIn K mainGlobals "isinstance" = some none)
    (z5 : PySem.W.nsIn K mainGlobals "len" = some none)
    (z6 : PySem.W.nsIn K mainGlobals "list" = some none)
    (z7 : PySem.W.nsIn K mainGlobals "min" = some none)
    (z8 : PySem.W.nsIn K mainGlobals "range" = some none)
    (z9 : PySem.W.nsIn K mainGlobals "repr" = some none)
    (z10 : PySem.W.nsIn K mainGlobals "tuple" = some none) :
    ∃ fd : FuncData, (∀ (s : Shared) (v : Value), BindsTo s fd ⟨[v], []⟩ [("_law_script", v)]) ∧ ∀ base : Heap, K.In base → base.Ns mainGlobals mg → FnF l.prog w K mg base 5 fa fd ["_law_script"] F_law := by
  have e := hfa.symm.trans (PySem.W.mg_of X G a15)
  cases e
  let T : Top K mg := {
    a_is_integer := x0, d_is_integer := _, F_is_integer := fun_mk (st := s_is_integer) l0 c0 k0, b_is_integer := (fun_mk (st := s_is_integer) l0 c0 k0).binds (fun _ _ _ _ _ _ us hl => match us, hl with | [_, _, _], _ => rfl), g_is_integer := PySem.W.mg_of X G a0,
    a_product := x1, d_product := _, F_product := fun_mk (st := s_product) l1 c1 k1, b_product := (fun_mk (st := s_product) l1 c1 k1).binds (fun _ _ _ _ _ _ us hl => match us, hl with | [_], _ => rfl), g_product := PySem.W.mg_of X G a1,
    a_is_grid := x2, d_is_grid := _, F_is_grid := fun_mk (st := s_is_grid) l2 c2 k2, b_is_grid := (fun_mk (st := s_is_grid) l2 c2 k2).binds (fun _ _ _ _ _ _ us hl => match us, hl with | [_], _ => rfl), g_is_grid := PySem.W.mg_of X G a2,
    a_need_grid := x3, d_need_grid := _, F_need_grid := fun_mk (st := s_need_grid) l3 c3 k3, b_need_grid := (fun_mk (st := s_need_grid) l3 c3 k3).binds (fun _ _ _ _ _ _ us hl => match us, hl with | [_], _ => rfl), g_need_grid := PySem.W.mg_of X G a3,
    a_raw_workers := x4, d_raw_workers := _, F_raw_workers := fun_mk (st := s_raw_workers) l4 c4 k4, b_raw_workers := (fun_mk (st := s_raw_workers) l4 c4 k4).binds (fun _ _ _ _ _ _ us hl => match us, hl with | [_], _ => rfl), g_raw_workers := PySem.W.mg_of X G a4,
    a_workers_of := x5, d_workers_of := _, F_workers_of := fun_mk (st := s_workers_of) l5 c5 k5, b_workers_of := (fun_mk (st := s_workers_of) l5 c5 k5).binds (fun _ _ _ _ _ _ us hl => match us, hl with | [_], _ => rfl), g_workers_of := PySem.W.mg_of X G a5,
    a_raw_piece := x6, d_raw_piece := _, F_raw_piece := fun_mk (st := s_raw_piece) l6 c6 k6, b_raw_piece := (fun_mk (st := s_raw_piece) l6 c6 k6).binds (fun _ _ _ _ _ _ us hl => match us, hl with | [_, _, _], _ => rfl), g_raw_piece := PySem.W.mg_of X G a6,
    a_piece_of := x7, d_piece_of := _, F_piece_of := fun_mk (st := s_piece_of) l7 c7 k7, b_piece_of := (fun_mk (st := s_piece_of) l7 c7 k7).binds (fun _ _ _ _ _ _ us hl => match us, hl with | [_, _, _], _ => rfl), g_piece_of := PySem.W.mg_of X G a7,
    a__law_spread := x8, d__law_spread := _, F__law_spread := fun_mk (st := s__law_spread) l8 c8 k8, b__law_spread := (fun_mk (st := s__law_spread) l8 c8 k8).binds (fun _ _ _ _ _ _ us hl => match us, hl with | [_, _], _ => rfl), g__law_spread := PySem.W.mg_of X G a8,
    a__law_open := x9, d__law_open := _, F__law_open := fun_mk (st := s__law_open) l9 c9 k9, b__law_open := (fun_mk (st := s__law_open) l9 c9 k9).binds (fun _ _ _ _ _ _ us hl => match us, hl with | [_], _ => rfl), g__law_open := PySem.W.mg_of X G a9,
    a__law_take := x10, d__law_take := _, F__law_take := fun_mk (st := s__law_take) l10 c10 k10, b__law_take := (fun_mk (st := s__law_take) l10 c10 k10).binds (fun _ _ _ _ _ _ us hl => match us, hl with | [_, _], _ => rfl), g__law_take := PySem.W.mg_of X G a10,
    a__law_w_pick := x11, d__law_w_pick := _, F__law_w_pick := fun_mk (st := s__law_w_pick) l11 c11 k11, b__law_w_pick := (fun_mk (st := s__law_w_pick) l11 c11 k11).binds (fun _ _ _ _ _ _ us hl => match us, hl with | [_, _], _ => rfl), g__law_w_pick := PySem.W.mg_of X G a11,
    a__law_w_workers := x12, d__law_w_workers := _, F__law_w_workers := fun_mk (st := s__law_w_workers) l12 c12 k12, b__law_w_workers := (fun_mk (st := s__law_w_workers) l12 c12 k12).binds (fun _ _ _ _ _ _ us hl => match us, hl with | [_], _ => rfl), g__law_w_workers := PySem.W.mg_of X G a12,
    a__law_w_product := x13, d__law_w_product := _, F__law_w_product := fun_mk (st := s__law_w_product) l13 c13 k13, b__law_w_product := (fun_mk (st := s__law_w_product) l13 c13 k13).binds (fun _ _ _ _ _ _ us hl => match us, hl with | [_], _ => rfl), g__law_w_product := PySem.W.mg_of X G a13,
    a__law_w_pieces_right := x14, d__law_w_pieces_right := _, F__law_w_pieces_right := fun_mk (st := s__law_w_pieces_right) l14 c14 k14, b__law_w_pieces_right := (fun_mk (st := s__law_w_pieces_right) l14 c14 k14).binds (fun _ _ _ _ _ _ us hl => match us, hl with | [_, _, _], _ => rfl), g__law_w_pieces_right := PySem.W.mg_of X G a14,
    a_law := fa, d_law := _, F_law := fun_mk (st := s_law) l15 c15 k15, b_law := (fun_mk (st := s_law) l15 c15 k15).binds (fun _ _ _ _ _ _ us hl => match us, hl with | [_], _ => rfl), g_law := PySem.W.mg_of X G a15,
    t_MOST_SIDE := tk0, c_MOST_SIDE := PySem.W.mg_of X G q0,
    t_MOST_SIDES := tk1, c_MOST_SIDES := PySem.W.mg_of X G q1,
    t_MOST_WORKERS := tk2, c_MOST_WORKERS := PySem.W.mg_of X G q2,
    n_all := PySem.W.mg_none_of X G z0,
    n_bool := PySem.W.mg_none_of X G z1,
    n_enumerate := PySem.W.mg_none_of X G z2,
    n_int := PySem.W.mg_none_of X G z3,
    n_isinstance := PySem.W.mg_none_of X G z4,
    n_len := PySem.W.mg_none_of X G z5,
    n_list := PySem.W.mg_none_of X G z6,
    n_min := PySem.W.mg_none_of X G z7,
    n_range := PySem.W.mg_none_of X G z8,
    n_repr := PySem.W.mg_none_of X G z9,
    n_tuple := PySem.W.mg_none_of X G z10 }
  exact ⟨_, fun s v => .of_eq rfl, fun base _ _ => ok_law (P := l.prog) (w := w) (base := base) T⟩
end Lw

open PySem PySem.W PyProof.Rows
theorem PySem.Challenge.cw_gridspread_k31_workers_and_pieces_holds : PySem.Challenge.rw_gridspread_k31_workers_and_pieces.Holds := by
  w_on; o_law; k_head; (case hw => w_witness2)
  k_fill
  refine Fx.walk_fx (l := PySem.Challenge.rw_gridspread_k31_workers_and_pieces) (n := 63) (k := 5) (x := "_law_script") (F := Lw.F_law) rfl (by decide) rfl ⟨rfl, by decide, by decide⟩ (fun w h Y => PySem.W.kIn_of Y) ?F Lw.law_true
  case F =>
    intro w mg fa h KX G hmg
    refine' Lw.all_mk KX G hmg ?a0 ?l0 ?c0 ?k0 ?a1 ?l1 ?c1 ?k1 ?a2 ?l2 ?c2 ?k2 ?a3 ?l3 ?c3 ?k3 ?a4 ?l4 ?c4 ?k4 ?a5 ?l5 ?c5 ?k5 ?a6 ?l6 ?c6 ?k6 ?a7 ?l7 ?c7 ?k7 ?a8 ?l8 ?c8 ?k8 ?a9 ?l9 ?c9 ?k9 ?a10 ?l10 ?c10 ?k10 ?a11 ?l11 ?c11 ?k11 ?a12 ?l12 ?c12 ?k12 ?a13 ?l13 ?c13 ?k13 ?a14 ?l14 ?c14 ?k14 ?a15 ?l15 ?c15 ?k15 ?q0 ?q1 ?q2 ?z0 ?z1 ?z2 ?z3 ?z4 ?z5 ?z6 ?z7 ?z8 ?z9 ?z10
    (case a0 => k_is); (case l0 => k_is); (case c0 => k_is); (case k0 => k_is); (case a1 => k_is); (case l1 => k_is); (case c1 => k_is); (case k1 => k_is); (case a2 => k_is); (case l2 => k_is); (case c2 => k_is); (case k2 => k_is); (case a3 => k_is); (case l3 => k_is); (case c3 => k_is); (case k3 => k_is); (case a4 => k_is); (case l4 => k_is); (case c4 => k_is); (case k4 => k_is); (case a5 => k_is); (case l5 => k_is); (case c5 => k_is); (case k5 => k_is); (case a6 => k_is); (case l6 => k_is); (case c6 => k_is); (case k6 => k_is); (case a7 => k_is); (case l7 => k_is); (case c7 => k_is); (case k7 => k_is); (case a8 => k_is); (case l8 => k_is); (case c8 => k_is); (case k8 => k_is); (case a9 => k_is); (case l9 => k_is); (case c9 => k_is); (case k9 => k_is); (case a10 => k_is); (case l10 => k_is); (case c10 => k_is); (case k10 => k_is); (case a11 => k_is); (case l11 => k_is); (case c11 => k_is); (case k11 => k_is); (case a12 => k_is); (case l12 => k_is); (case c12 => k_is); (case k12 => k_is); (case a13 => k_is); (case l13 => k_is); (case c13 => k_is); (case k13 => k_is); (case a14 => k_is); (case l14 => k_is); (case c14 => k_is); (case k14 => k_is); (case a15 => k_is); (case l15 => k_is); (case c15 => k_is); (case k15 => k_is); (case q0 => k_is); (case q1 => k_is); (case q2 => k_is); (case z0 => k_is); (case z1 => k_is); (case z2 => k_is); (case z3 => k_is); (case z4 => k_is); (case z5 => k_is); (case z6 => k_is); (case z7 => k_is); (case z8 => k_is); (case z9 => k_is); (case z10 => k_is)

