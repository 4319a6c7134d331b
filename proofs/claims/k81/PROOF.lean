import PyProof.Rows.All
import Wide.All
import OpenK.AllK
import Wide.FinOn
import HandS.ForMost
import HandS.Evl
import HandS.TupSets
import HandS.TupAny
import HandS.Deep
import HandS.Conv
import HandS.Style
import HandS.IsInst
import HandS.WrittenGet
import HandS.SetKeys
import HandS.DictComp
import HandS.Zip
import HandS.Small
import HandS.Wide
import PyProof.DictMoreH
import KE.GoesMore
import KE.GoesZip
import KE.KDictZip
import PySem.Challenge.RW_marchmend_k81_whole_turned_about
set_option Elab.async false
set_option linter.all false
set_option maxRecDepth 100000
set_option maxHeartbeats 4000000
namespace Tm
open PySem L2
open Evl (Ex)

/-! ### data, and what stands for it in a heap -/
abbrev D := PyData
def kD : Key → D
  | .inl i => .int i
  | .inr x => .str x
mutual
inductive At (H : Hp) : V → D → Prop
  | non : At H .non .none
  | bl (b : Bool) : At H (.bl b) (.bool b)
  | int (i : Int) : At H (.int i) (.int i)
  | str (x : Str) : At H (.str x) (.str x)
  | lst {a : Addr} {vs : List V} {ds : List D} : H a = some (.lst vs) → AtL H vs ds → At H (.ref a) (.list ds)
  | tup {a : Addr} {vs : List V} {ds : List D} : H a = some (.tup vs) → AtL H vs ds → At H (.ref a) (.tuple ds)
  | dk {a : Addr} {kvs : List (Key × V)} {es : List (D × D)} : Rd H a (.dK kvs) → AtK H kvs es → At H (.ref a) (.dict es)
  | dt {a : Addr} {kvs : List (List Key × V)} {es : List (D × D)} : Rd H a (.dT kvs) → AtT H kvs es → At H (.ref a) (.dict es)
inductive AtL (H : Hp) : List V → List D → Prop
  | nil : AtL H [] []
  | cons {v : V} {d : D} {vs : List V} {ds : List D} : At H v d → AtL H vs ds → AtL H (v :: vs) (d :: ds)
inductive AtK (H : Hp) : List (Key × V) → List (D × D) → Prop
  | nil : AtK H [] []
  | cons {k : Key} {v : V} {d : D} {vs : List (Key × V)} {ds : List (D × D)} : At H v d → AtK H vs ds → AtK H ((k, v) :: vs) ((kD k, d) :: ds)
inductive AtT (H : Hp) : List (List Key × V) → List (D × D) → Prop
  | nil : AtT H [] []
  | cons {k : List Key} {v : V} {d : D} {vs : List (List Key × V)} {ds : List (D × D)} : At H v d → AtT H vs ds → AtT H ((k, v) :: vs) ((.tuple (k.map kD), d) :: ds)
end
structure HLe (H H' : Hp) : Prop where
  lst : ∀ a vs, H a = some (.lst vs) → H' a = some (.lst vs)
  tup : ∀ a vs, H a = some (.tup vs) → H' a = some (.tup vs)
  rd : ∀ a u, (∀ o w, u ≠ .frz o w) → Rd H a u → Rd H' a u
theorem HLe.of {H H' : Hp} (e : Ex H H') : HLe H H' := ⟨fun a vs h => e a _ h, fun a vs h => e a _ h, fun a u _ h => Evl.ex_rd e h⟩
theorem HLe.refl (H : Hp) : HLe H H := HLe.of (Ex.refl H)
theorem HLe.trans {H H1 H2 : Hp} (a : HLe H H1) (b : HLe H1 H2) : HLe H H2 := ⟨fun x v h => b.lst x v (a.lst x v h), fun x v h => b.tup x v (a.tup x v h), fun x v n h => b.rd x v n (a.rd x v n h)⟩
theorem HLe.dk {H H' : Hp} (e : HLe H H') {a : Addr} {kvs : List (Key × V)} (h : Rd H a (.dK kvs)) : Rd H' a (.dK kvs) := e.rd _ _ (fun _ _ z => nomatch z) h
theorem HLe.dt {H H' : Hp} (e : HLe H H') {a : Addr} {kvs : List (List Key × V)} (h : Rd H a (.dT kvs)) : Rd H' a (.dT kvs) := e.rd _ _ (fun _ _ z => nomatch z) h
mutual
theorem At.le {H H' : Hp} (e : HLe H H') : ∀ {v : V} {d : D}, At H v d → At H' v d
  | _, _, .non => .non
  | _, _, .bl b => .bl b
  | _, _, .int b => .int b
  | _, _, .str b => .str b
  | _, _, .lst h t => .lst (e.lst _ _ h) (AtL.le e t)
  | _, _, .tup h t => .tup (e.tup _ _ h) (AtL.le e t)
  | _, _, .dk h t => .dk (e.dk h) (AtK.le e t)
  | _, _, .dt h t => .dt (e.dt h) (AtT.le e t)
theorem AtL.le {H H' : Hp} (e : HLe H H') : ∀ {v : List V} {d : List D}, AtL H v d → AtL H' v d
  | _, _, .nil => .nil
  | _, _, .cons h t => .cons (At.le e h) (AtL.le e t)
theorem AtK.le {H H' : Hp} (e : HLe H H') : ∀ {v : List (Key × V)} {d : List (D × D)}, AtK H v d → AtK H' v d
  | _, _, .nil => .nil
  | _, _, .cons h t => .cons (At.le e h) (AtK.le e t)
theorem AtT.le {H H' : Hp} (e : HLe H H') : ∀ {v : List (List Key × V)} {d : List (D × D)}, AtT H v d → AtT H' v d
  | _, _, .nil => .nil
  | _, _, .cons h t => .cons (At.le e h) (AtT.le e t)
end
theorem AtL.length {H : Hp} : ∀ {vs : List V} {ds : List D}, AtL H vs ds → vs.length = ds.length
  | _, _, .nil => rfl
  | _, _, .cons _ t => congrArg (· + 1) (AtL.length t)
theorem AtL.get {H : Hp} : ∀ {vs : List V} {ds : List D} {i : Nat} {d : D}, AtL H vs ds → ds[i]? = some d → ∃ v, vs[i]? = some v ∧ At H v d
  | _, _, i, _, .nil, e => by simp at e
  | _, _, 0, _, .cons h _, e => by
    simp at e
    subst e
    exact ⟨_, rfl, h⟩
  | _, _, i + 1, d, .cons _ t, e => by
    obtain ⟨v, h1, h2⟩ := AtL.get (i := i) (d := d) t (by simpa using e)
    exact ⟨v, by simpa using h1, h2⟩
theorem AtL.get' {H : Hp} : ∀ {vs : List V} {ds : List D} {i : Nat} {v : V}, AtL H vs ds → vs[i]? = some v → ∃ d, ds[i]? = some d ∧ At H v d
  | _, _, i, _, .nil, e => by simp at e
  | _, _, 0, _, .cons h _, e => by
    simp at e
    subst e
    exact ⟨_, rfl, h⟩
  | _, _, i + 1, v, .cons _ t, e => by
    obtain ⟨d, h1, h2⟩ := AtL.get' (i := i) (v := v) t (by simpa using e)
    exact ⟨d, by simpa using h1, h2⟩
theorem AtL.append {H : Hp} : ∀ {vs : List V} {ds : List D} {ws : List V} {es : List D}, AtL H vs ds → AtL H ws es → AtL H (vs ++ ws) (ds ++ es)
  | _, _, _, _, .nil, s => s
  | _, _, _, _, .cons h t, s => .cons h (AtL.append t s)
theorem AtL.take {H : Hp} : ∀ {vs : List V} {ds : List D} (n : Nat), AtL H vs ds → AtL H (vs.take n) (ds.take n)
  | _, _, 0, _ => .nil
  | _, _, _ + 1, .nil => .nil
  | _, _, n + 1, .cons h t => .cons h (AtL.take n t)
theorem AtL.drop {H : Hp} : ∀ {vs : List V} {ds : List D} (n : Nat), AtL H vs ds → AtL H (vs.drop n) (ds.drop n)
  | _, _, 0, r => r
  | _, _, _ + 1, .nil => .nil
  | _, _, n + 1, .cons _ t => AtL.drop n t
theorem AtL.reverse {H : Hp} {vs : List V} {ds : List D} (h : AtL H vs ds) : AtL H vs.reverse ds.reverse := by
  induction vs generalizing ds with
  | nil => cases h; exact .nil
  | cons v vs ih =>
    cases h with
    | cons h t =>
      rw [List.reverse_cons, List.reverse_cons]
      exact (ih t).append (.cons h .nil)
theorem AtL.snoc {H : Hp} {vs : List V} {ds : List D} {v : V} {d : D} (h : AtL H vs ds) (k : At H v d) : AtL H (vs ++ [v]) (ds ++ [d]) := h.append (.cons k .nil)
theorem AtL.mem {H : Hp} : ∀ {vs : List V} {ds : List D} {v : V}, AtL H vs ds → v ∈ vs → ∃ d, d ∈ ds ∧ At H v d
  | _, _, _, .nil, m => by cases m
  | _, _, v, .cons h t, m => by
    rcases List.mem_cons.mp m with e | m
    · subst e
      exact ⟨_, List.mem_cons_self, h⟩
    · obtain ⟨d, h1, h2⟩ := AtL.mem t m
      exact ⟨d, List.mem_cons_of_mem _ h1, h2⟩
theorem AtL.ints {H : Hp} : ∀ (ns : List Int), AtL H (ns.map V.int) (ns.map PyData.int)
  | [] => .nil
  | n :: ns => .cons (.int n) (AtL.ints ns)

/-! ### a heap with some addresses hidden -/
open Classical in
noncomputable def mask (S : Addr → Prop) (H : Hp) : Hp := fun a => if S a then none else H a
theorem mask_in {S : Addr → Prop} {H : Hp} {a : Addr} (h : S a) : mask S H a = none := by
  unfold mask
  rw [if_pos h]
theorem mask_out {S : Addr → Prop} {H : Hp} {a : Addr} (h : ¬ S a) : mask S H a = H a := by
  unfold mask
  rw [if_neg h]
theorem mask_some {S : Addr → Prop} {H : Hp} {a : Addr} {o : HO} (h : mask S H a = some o) : ¬ S a ∧ H a = some o := by
  by_cases q : S a
  · rw [mask_in q] at h
    cases h
  · rw [mask_out q] at h
    exact ⟨q, h⟩
theorem mask_ex {S S' : Addr → Prop} {H H' : Hp} (h : ∀ a o, ¬ S a → H a = some o → ¬ S' a ∧ H' a = some o) : Ex (mask S H) (mask S' H') := fun a o e => by
  obtain ⟨h1, h2⟩ := mask_some e
  obtain ⟨h3, h4⟩ := h a o h1 h2
  rw [mask_out h3]
  exact h4
theorem mask_sub (S : Addr → Prop) (H : Hp) : Ex (mask S H) H := fun a o e => (mask_some e).2
theorem mask_mono {S : Addr → Prop} {H H' : Hp} (e : Ex H H') : Ex (mask S H) (mask S H') := mask_ex fun a o h1 h2 => ⟨h1, e a o h2⟩

/-- hidden addresses: something stands there, no tuple, nothing locked -/
abbrev LvS (S : Addr → Prop) (H : Hp) : Prop := ∀ p, S p → ∃ o, H p = some o ∧ (∀ vs, o ≠ .tup vs) ∧ ∀ q u, o ≠ .frz q u

/-! ### slots -/
/-- what a slot holds: nothing told, data that no one changes, a list | dict of ours alone that we change, a Memory of ours, the script -/
inductive SD where
  | un | pu (d : D) | ol (ds : List D) | ok (es : List (D × D)) | ot (es : List (D × D)) | mo (fs : List (Str × D)) | sc (ns : List Int)
abbrev SE := List SD
def isOw : SD → Bool
  | .ol _ | .ok _ | .ot _ | .mo _ => true
  | _ => false
/-- the class of our objects, and where one of ours must lie -/
structure CA where
  cls : Addr
  pin : Option Addr
inductive AtF (H : Hp) : List (Str × V) → List (Str × D) → Prop
  | nil : AtF H [] []
  | cons {x : Str} {v : V} {d : D} {vs : List (Str × V)} {ds : List (Str × D)} : At H v d → AtF H vs ds → AtF H ((x, v) :: vs) ((x, d) :: ds)
theorem AtF.le {H H' : Hp} (e : HLe H H') : ∀ {v : List (Str × V)} {d : List (Str × D)}, AtF H v d → AtF H' v d
  | _, _, .nil => .nil
  | _, _, .cons h t => .cons (At.le e h) (AtF.le e t)
def OwAt (C : CA) (M H : Hp) (p : Addr) : SD → Prop
  | .ol ds => ∃ vs, H p = some (.lst vs) ∧ AtL M vs ds
  | .ok es => ∃ kvs, H p = some (.dK kvs) ∧ AtK M kvs es
  | .ot es => ∃ kvs, H p = some (.dT kvs) ∧ AtT M kvs es
  | .mo fs => ∃ dx vfs, H p = some (.ins C.cls dx vfs) ∧ AtF M vfs fs ∧ ∀ q, C.pin = some q → p = q
  | _ => False
theorem OwAt.le {C : CA} {p : Addr} {M M' H H' : Hp} (e : HLe M M') (e2 : H p = H' p) : ∀ {s : SD}, OwAt C M H p s → OwAt C M' H' p s
  | .ol _, ⟨vs, h, t⟩ => ⟨vs, e2 ▸ h, t.le e⟩
  | .ok _, ⟨vs, h, t⟩ => ⟨vs, e2 ▸ h, t.le e⟩
  | .ot _, ⟨vs, h, t⟩ => ⟨vs, e2 ▸ h, t.le e⟩
  | .mo _, ⟨dx, vfs, h, t, u⟩ => ⟨dx, vfs, e2 ▸ h, t.le e, u⟩
theorem OwAt.some {C : CA} {p : Addr} {M H : Hp} : ∀ {s : SD}, OwAt C M H p s → ∃ o, H p = Option.some o ∧ (∀ vs, o ≠ .tup vs) ∧ ∀ q u, o ≠ .frz q u
  | .ol _, ⟨vs, h, t⟩ => ⟨_, h, fun _ z => (nomatch z), fun _ _ z => (nomatch z)⟩
  | .ok _, ⟨vs, h, t⟩ => ⟨_, h, fun _ z => (nomatch z), fun _ _ z => (nomatch z)⟩
  | .ot _, ⟨vs, h, t⟩ => ⟨_, h, fun _ z => (nomatch z), fun _ _ z => (nomatch z)⟩
  | .mo _, ⟨dx, vfs, h, t, u⟩ => ⟨_, h, fun _ z => (nomatch z), fun _ _ z => (nomatch z)⟩
def SlotAt (K : PySem.W.Frag) (C : CA) (M H : Hp) (x : Option (Option V)) : SD → Prop
  | .un => True
  | .pu d => ∃ v, x = some (some v) ∧ At M v d
  | .sc ns => ∃ a, x = some (some (.ref a)) ∧ SqL K M a (ns.map V.int)
  | .ol ds => ∃ p, x = some (some (V.ref p)) ∧ OwAt C M H p (.ol ds)
  | .ok ds => ∃ p, x = some (some (V.ref p)) ∧ OwAt C M H p (.ok ds)
  | .ot ds => ∃ p, x = some (some (V.ref p)) ∧ OwAt C M H p (.ot ds)
  | .mo fs => ∃ p, x = some (some (V.ref p)) ∧ OwAt C M H p (.mo fs)
theorem SlotAt.ow {K : PySem.W.Frag} {C : CA} {M H : Hp} {x : Option (Option V)} : ∀ {s : SD}, isOw s = true → SlotAt K C M H x s → ∃ p, x = some (some (V.ref p)) ∧ OwAt C M H p s
  | .ol _, _, h => h
  | .ok _, _, h => h
  | .ot _, _, h => h
  | .mo _, _, h => h
theorem SlotAt.mk {K : PySem.W.Frag} {C : CA} {p : Addr} {M H : Hp} {x : Option (Option V)} : ∀ {s : SD}, isOw s = true → x = some (some (V.ref p)) → OwAt C M H p s → SlotAt K C M H x s
  | .ol _, _, e, h => ⟨p, e, h⟩
  | .ok _, _, e, h => ⟨p, e, h⟩
  | .ot _, _, e, h => ⟨p, e, h⟩
  | .mo _, _, e, h => ⟨p, e, h⟩
theorem sqL_le {K : PySem.W.Frag} {H H' : Hp} {a : Addr} {xs : List V} (e : HLe H H') (h : SqL K H a xs) : SqL K H' a xs := by
  rcases h with h | h
  · exact .inl (e.rd _ _ (fun _ _ z => nomatch z) h)
  · exact .inr h
theorem SlotAt.le {K : PySem.W.Frag} {C : CA} {M M' H H' : Hp} {x : Option (Option V)} (e : HLe M M') : ∀ {s : SD}, (∀ p, isOw s = true → x = some (some (V.ref p)) → H p = H' p) → SlotAt K C M H x s → SlotAt K C M' H' x s
  | .un, _, _ => trivial
  | .pu d, _, ⟨v, e1, h⟩ => ⟨v, e1, h.le e⟩
  | .sc ns, _, ⟨v, e1, h⟩ => ⟨v, e1, sqL_le e h⟩
  | .ol _, k, ⟨p, e1, h⟩ => ⟨p, e1, OwAt.le e (k p rfl e1) h⟩
  | .ok _, k, ⟨p, e1, h⟩ => ⟨p, e1, OwAt.le e (k p rfl e1) h⟩
  | .ot _, k, ⟨p, e1, h⟩ => ⟨p, e1, OwAt.le e (k p rfl e1) h⟩
  | .mo _, k, ⟨p, e1, h⟩ => ⟨p, e1, OwAt.le e (k p rfl e1) h⟩
/-- p is one that a slot owns -/
def Own (σ : St) (env : SE) (p : Addr) : Prop := ∃ (i : Nat) (s : SD), env[i]? = some s ∧ isOw s = true ∧ σ[i]? = some (some (V.ref p))
def SS (S0 : Addr → Prop) (σ : St) (env : SE) (p : Addr) : Prop := S0 p ∨ Own σ env p
structure EnvS (K : PySem.W.Frag) (C : CA) (B : Hp) (S0 : Addr → Prop) (H : Hp) (σ : St) (env : SE) : Prop where
  len : σ.length = env.length
  base : Ex B H
  nown : ∀ a o, B a = some o → ¬ Own σ env a
  live : ∀ p, S0 p → ∃ o, B p = some o ∧ (∀ vs, o ≠ .tup vs) ∧ ∀ q u, o ≠ .frz q u
  slot : ∀ (i : Nat) (s : SD), env[i]? = some s → SlotAt K C (mask (SS S0 σ env) H) H (σ[i]?) s
  inj : ∀ (i j : Nat) (s s' : SD) (p : Addr), env[i]? = some s → isOw s = true → env[j]? = some s' → isOw s' = true → σ[i]? = some (some (V.ref p)) → σ[j]? = some (some (V.ref p)) → i = j
section
variable {K : PySem.W.Frag} {C : CA} {B B' : Hp} {S0 : Addr → Prop} {H H' : Hp} {σ : St} {env : SE}
theorem EnvS.own (E : EnvS K C B S0 H σ env) {p : Addr} (h : Own σ env p) : ∃ o, H p = some o ∧ (∀ vs, o ≠ .tup vs) ∧ ∀ q u, o ≠ .frz q u := by
  obtain ⟨i, s, e1, e2, e3⟩ := h
  obtain ⟨q, e4, h⟩ := (E.slot i s e1).ow e2
  rw [e3] at e4
  cases e4
  exact h.some
theorem EnvS.lv (E : EnvS K C B S0 H σ env) : LvS (SS S0 σ env) H := fun p h => by
  rcases h with h | h
  · obtain ⟨o, e, n⟩ := E.live p h
    exact ⟨o, E.base p o e, n⟩
  · exact E.own h
/-- the heap has grown -/
theorem EnvS.ext (E : EnvS K C B S0 H σ env) (e : Ex H H') : EnvS K C B S0 H' σ env := by
  refine ⟨E.len, E.base.trans e, E.nown, E.live, fun i s h => ?_, E.inj⟩
  refine (E.slot i s h).le (HLe.of (mask_mono e)) fun p ho hp => ?_
  obtain ⟨o, e1, _⟩ := E.own ⟨i, s, h, ho, hp⟩
  rw [e1, e p o e1]
theorem Own.set_pu {i : Nat} {v : Option V} {s : SD} (hs : isOw s = false) {p : Addr} (h : Own (σ.set i v) (env.set i s) p) : Own σ env p := by
  obtain ⟨j, s', e1, e2, e3⟩ := h
  by_cases hj : i = j
  · subst hj
    rw [List.getElem?_set] at e1
    rw [if_pos rfl] at e1
    split at e1
    · cases e1
      rw [hs] at e2
      cases e2
    · cases e1
  · rw [List.getElem?_set_ne hj] at e1 e3
    exact ⟨j, s', e1, e2, e3⟩
theorem EnvS.set (E : EnvS K C B S0 H σ env) {i : Nat} {v : V} {d : D} (h : At (mask (SS S0 σ env) H) v d) : EnvS K C B S0 H (σ.set i (some v)) (env.set i (.pu d)) := by
  have sub : ∀ p, SS S0 (σ.set i (some v)) (env.set i (.pu d)) p → SS S0 σ env p := fun p q => q.imp id fun q => q.set_pu rfl
  have le : HLe (mask (SS S0 σ env) H) (mask (SS S0 (σ.set i (some v)) (env.set i (.pu d))) H) := HLe.of (mask_ex fun a o h1 h2 => ⟨fun q => h1 (sub a q), h2⟩)
  refine ⟨by rw [List.length_set, List.length_set, E.len], E.base, fun a o e q => E.nown a o e (q.set_pu rfl), E.live, fun j s e => ?_, fun j k s s' p e1 o1 e2 o2 e3 e4 => ?_⟩
  · by_cases hj : i = j
    · subst hj
      rw [List.getElem?_set, if_pos rfl] at e
      split at e
      · cases e
        rename_i hl
        refine ⟨v, ?_, h.le le⟩
        rw [List.getElem?_set_self (by rw [E.len]; exact hl)]
      · cases e
    · rw [List.getElem?_set_ne hj] at e ⊢
      exact (E.slot j s e).le le fun p _ _ => rfl
  · have nj : ∀ j s, (env.set i (.pu d))[j]? = some s → isOw s = true → i ≠ j := fun j s e o z => by
      subst z
      rw [List.getElem?_set, if_pos rfl] at e
      split at e
      · cases e
        cases o
      · cases e
    have n1 := nj j s e1 o1
    have n2 := nj k s' e2 o2
    rw [List.getElem?_set_ne n1] at e1 e3
    rw [List.getElem?_set_ne n2] at e2 e4
    exact E.inj j k s s' p e1 o1 e2 o2 e3 e4
/-- a slot forgotten -/
theorem EnvS.drop (E : EnvS K C B S0 H σ env) {i : Nat} {v : Option V} : EnvS K C B S0 H (σ.set i v) (env.set i .un) := by
  have sub : ∀ p, SS S0 (σ.set i v) (env.set i .un) p → SS S0 σ env p := fun p q => q.imp id fun q => q.set_pu rfl
  have le : HLe (mask (SS S0 σ env) H) (mask (SS S0 (σ.set i v) (env.set i .un)) H) := HLe.of (mask_ex fun a o h1 h2 => ⟨fun q => h1 (sub a q), h2⟩)
  refine ⟨by rw [List.length_set, List.length_set, E.len], E.base, fun a o e q => E.nown a o e (q.set_pu rfl), E.live, fun j s e => ?_, fun j k s s' p e1 o1 e2 o2 e3 e4 => ?_⟩
  · by_cases hj : i = j
    · subst hj
      rw [List.getElem?_set, if_pos rfl] at e
      split at e
      · cases e
        trivial
      · cases e
    · rw [List.getElem?_set_ne hj] at e ⊢
      exact (E.slot j s e).le le fun p _ _ => rfl
  · have nj : ∀ j s, (env.set i .un)[j]? = some s → isOw s = true → i ≠ j := fun j s e o z => by
      subst z
      rw [List.getElem?_set, if_pos rfl] at e
      split at e
      · cases e
        cases o
      · cases e
    have n1 := nj j s e1 o1
    have n2 := nj k s' e2 o2
    rw [List.getElem?_set_ne n1] at e1 e3
    rw [List.getElem?_set_ne n2] at e2 e4
    exact E.inj j k s s' p e1 o1 e2 o2 e3 e4
/-- a new object of ours -/
theorem EnvS.setNew (E : EnvS K C B S0 H σ env) {i : Nat} {p : Addr} {s : SD} (hn : H p = none) (e : Ex H H') (hs : isOw s = true) (h : OwAt C (mask (SS S0 σ env) H) H' p s) : EnvS K C B S0 H' (σ.set i (some (V.ref p))) (env.set i s) := by
  have own' : ∀ q, Own (σ.set i (some (V.ref p))) (env.set i s) q → q = p ∨ Own σ env q := fun q ⟨j, s', e1, e2, e3⟩ => by
    by_cases hj : i = j
    · subst hj
      rw [List.getElem?_set, if_pos rfl] at e3
      split at e3
      · cases e3
        exact .inl rfl
      · cases e3
    · rw [List.getElem?_set_ne hj] at e1 e3
      exact .inr ⟨j, s', e1, e2, e3⟩
  have le : HLe (mask (SS S0 σ env) H) (mask (SS S0 (σ.set i (some (V.ref p))) (env.set i s)) H') := HLe.of (mask_ex fun a o h1 h2 => ⟨fun q => by
    rcases q with q | q
    · exact h1 (.inl q)
    · rcases own' a q with q | q
      · subst q
        rw [hn] at h2
        cases h2
      · exact h1 (.inr q), e a o h2⟩)
  have np : ∀ j s', env[j]? = some s' → isOw s' = true → σ[j]? ≠ some (some (V.ref p)) := fun j s' e1 e2 e3 => by
    obtain ⟨o, z, _⟩ := E.own ⟨j, s', e1, e2, e3⟩
    rw [hn] at z
    cases z
  refine ⟨by rw [List.length_set, List.length_set, E.len], E.base.trans e, fun a o ea q => ?_, E.live, fun j s' ej => ?_, fun j k s1 s2 q e1 o1 e2 o2 e3 e4 => ?_⟩
  · rcases own' a q with q | q
    · subst q
      have := E.base a o ea
      rw [hn] at this
      cases this
    · exact E.nown a o ea q
  · by_cases hj : i = j
    · subst hj
      rw [List.getElem?_set, if_pos rfl] at ej
      split at ej
      · cases ej
        rename_i hl
        exact SlotAt.mk hs (List.getElem?_set_self (by rw [E.len]; exact hl)) (OwAt.le le rfl h)
      · cases ej
    · rw [List.getElem?_set_ne hj] at ej ⊢
      refine (E.slot j s' ej).le le fun q o1 e1 => ?_
      obtain ⟨o, z, _⟩ := E.own ⟨j, s', ej, o1, e1⟩
      rw [z, e q o z]
  · by_cases hj : i = j
    · by_cases hk : i = k
      · exact hj.symm.trans hk
      · subst hj
        rw [List.getElem?_set, if_pos rfl] at e3
        split at e3
        · cases e3
          rw [List.getElem?_set_ne hk] at e2 e4
          exact absurd e4 (np k s2 e2 o2)
        · cases e3
    · by_cases hk : i = k
      · subst hk
        rw [List.getElem?_set, if_pos rfl] at e4
        split at e4
        · cases e4
          rw [List.getElem?_set_ne hj] at e1 e3
          exact absurd e3 (np j s1 e1 o1)
        · cases e4
      · rw [List.getElem?_set_ne hj] at e1 e3
        rw [List.getElem?_set_ne hk] at e2 e4
        exact E.inj j k s1 s2 q e1 o1 e2 o2 e3 e4
/-- one of ours is changed -/
theorem EnvS.mut (E : EnvS K C B S0 H σ env) {i : Nat} {p : Addr} {s s' : SD} {o : HO} (hi : env[i]? = some s) (hs : isOw s = true) (hp : σ[i]? = some (some (V.ref p))) (hs' : isOw s' = true)
    (h : OwAt C (mask (SS S0 σ env) H) (upd H p o) p s') : EnvS K C B S0 (upd H p o) σ (env.set i s') := by
  have hl : i < env.length := (List.getElem?_eq_some_iff.mp hi).1
  have own' : ∀ q, Own σ (env.set i s') q ↔ Own σ env q := fun q => by
    constructor
    · rintro ⟨j, s1, e1, e2, e3⟩
      by_cases hj : i = j
      · subst hj
        exact ⟨i, s, hi, hs, e3⟩
      · rw [List.getElem?_set_ne hj] at e1
        exact ⟨j, s1, e1, e2, e3⟩
    · rintro ⟨j, s1, e1, e2, e3⟩
      by_cases hj : i = j
      · subst hj
        exact ⟨i, s', List.getElem?_set_self hl, hs', e3⟩
      · exact ⟨j, s1, by rw [List.getElem?_set_ne hj]; exact e1, e2, e3⟩
  have op : Own σ env p := ⟨i, s, hi, hs, hp⟩
  have le : HLe (mask (SS S0 σ env) H) (mask (SS S0 σ (env.set i s')) (upd H p o)) := HLe.of (mask_ex fun a u h1 h2 => ⟨fun q => h1 (q.imp id (own' a).mp), by
    rw [upd_ne (show a ≠ p from fun z => h1 (.inr (by rw [z]; exact op)))]
    exact h2⟩)
  refine ⟨by rw [List.length_set, E.len], fun a u e => ?_, fun a u e q => E.nown a u e ((own' a).mp q), E.live, fun j s1 e => ?_, fun j k s1 s2 q e1 o1 e2 o2 e3 e4 => ?_⟩
  · rw [upd_ne (show a ≠ p from fun z => E.nown a u e (by rw [z]; exact op))]
    exact E.base a u e
  · by_cases hj : i = j
    · subst hj
      rw [List.getElem?_set_self hl] at e
      cases e
      exact SlotAt.mk hs' hp (OwAt.le le rfl h)
    · rw [List.getElem?_set_ne hj] at e
      refine (E.slot j s1 e).le le fun q o1 e1 => ?_
      rw [upd_ne]
      intro z
      subst z
      exact hj (E.inj i j s s1 q hi hs e o1 hp e1)
  · have f : ∀ j s1, (env.set i s')[j]? = some s1 → isOw s1 = true → ∃ s2, env[j]? = some s2 ∧ isOw s2 = true := fun j s1 e o => by
      by_cases hj : i = j
      · subst hj
        exact ⟨s, hi, hs⟩
      · rw [List.getElem?_set_ne hj] at e
        exact ⟨s1, e, o⟩
    obtain ⟨t1, a1, b1⟩ := f j s1 e1 o1
    obtain ⟨t2, a2, b2⟩ := f k s2 e2 o2
    exact E.inj j k t1 t2 q a1 b1 a2 b2 e3 e4
/-- ours no longer changed: it is data from now on -/
def proD : SD → SD
  | .ol ds => .pu (.list ds)
  | .ok es => .pu (.dict es)
  | .ot es => .pu (.dict es)
  | s => s
def proOk : SD → Bool
  | .ol _ | .ok _ | .ot _ => true
  | _ => false
theorem OwAt.pu {p : Addr} {M M' : Hp} (e : HLe M M') (hp : ∀ o, H p = Option.some o → M' p = Option.some o) : ∀ {s : SD}, proOk s = true → OwAt C M H p s → ∃ d, proD s = .pu d ∧ At M' (.ref p) d
  | .ol ds, _, ⟨vs, h, t⟩ => ⟨_, rfl, .lst (hp _ h) (t.le e)⟩
  | .ok ds, _, ⟨vs, h, t⟩ => ⟨_, rfl, .dk (.inl (hp _ h)) (t.le e)⟩
  | .ot ds, _, ⟨vs, h, t⟩ => ⟨_, rfl, .dt (.inl (hp _ h)) (t.le e)⟩
theorem proOk_ow : ∀ {s : SD}, proOk s = true → isOw s = true
  | .ol _, _ => rfl
  | .ok _, _ => rfl
  | .ot _, _ => rfl
theorem proD_pu : ∀ {s : SD}, proOk s = true → isOw (proD s) = false
  | .ol _, _ => rfl
  | .ok _, _ => rfl
  | .ot _, _ => rfl
theorem EnvS.pro (E : EnvS K C B S0 H σ env) {i : Nat} {s : SD} (hi : env[i]? = some s) (hs : proOk s = true) : EnvS K C B S0 H σ (env.set i (proD s)) := by
  have hl : i < env.length := (List.getElem?_eq_some_iff.mp hi).1
  obtain ⟨p, hp, ho⟩ := (E.slot i s hi).ow (proOk_ow hs)
  have own' : ∀ q, Own σ (env.set i (proD s)) q → Own σ env q ∧ q ≠ p := fun q ⟨j, s1, e1, e2, e3⟩ => by
    by_cases hj : i = j
    · subst hj
      rw [List.getElem?_set_self hl] at e1
      cases e1
      rw [proD_pu hs] at e2
      cases e2
    · rw [List.getElem?_set_ne hj] at e1
      refine ⟨⟨j, s1, e1, e2, e3⟩, fun z => ?_⟩
      subst z
      exact hj (E.inj i j s s1 q hi (proOk_ow hs) e1 e2 hp e3)
  have op : Own σ env p := ⟨i, s, hi, proOk_ow hs, hp⟩
  have le : HLe (mask (SS S0 σ env) H) (mask (SS S0 σ (env.set i (proD s))) H) := HLe.of (mask_ex fun a u h1 h2 => ⟨fun q => h1 (q.imp id fun q => (own' a q).1), h2⟩)
  refine ⟨by rw [List.length_set, E.len], E.base, fun a u e q => E.nown a u e (own' a q).1, E.live, fun j s1 e => ?_, fun j k s1 s2 q e1 o1 e2 o2 e3 e4 => ?_⟩
  · by_cases hj : i = j
    · subst hj
      rw [List.getElem?_set_self hl] at e
      have hS : ¬ SS S0 σ (env.set i (proD s)) p := fun q => by
        rcases q with q | q
        · obtain ⟨o, e1, _⟩ := E.live p q
          exact E.nown p o e1 op
        · exact (own' p q).2 rfl
      obtain ⟨d, e5, h5⟩ := OwAt.pu (C := C) le (fun o z => by rw [mask_out hS]; exact z) hs ho
      cases e
      have g : ∀ M, At M (.ref p) d → SlotAt K C M H (σ[i]?) (proD s) := fun M h => by
        rw [e5]
        exact ⟨.ref p, hp, h⟩
      exact g _ h5
    · rw [List.getElem?_set_ne hj] at e
      exact (E.slot j s1 e).le le fun q o1 e1 => rfl
  · have f : ∀ j s1, (env.set i (proD s))[j]? = some s1 → isOw s1 = true → env[j]? = some s1 := fun j s1 e o => by
      by_cases hj : i = j
      · subst hj
        rw [List.getElem?_set_self hl] at e
        cases e
        rw [proD_pu hs] at o
        cases o
      · rw [List.getElem?_set_ne hj] at e
        exact e
    exact E.inj j k s1 s2 q (f j s1 e1 o1) o1 (f k s2 e2 o2) o2 e3 e4
/-- another base for what runs from here on -/
theorem EnvS.rebase (E : EnvS K C B S0 H σ env) : EnvS K C (mask (Own σ env) H) S0 H σ env :=
  ⟨E.len, mask_sub _ _, fun a o e => (mask_some e).1, fun p h => by
    obtain ⟨o, e, n⟩ := E.live p h
    exact ⟨o, by rw [mask_out (E.nown p o e)]; exact E.base p o e, n⟩, E.slot, E.inj⟩
theorem EnvS.le_base (E : EnvS K C B S0 H σ env) : Ex B (mask (Own σ env) H) := fun a o e => by
  rw [mask_out (E.nown a o e)]
  exact E.base a o e
theorem EnvS.unbase (E : EnvS K C B' S0 H σ env) (e : Ex B B') (live : ∀ p, S0 p → ∃ o, B p = some o ∧ (∀ vs, o ≠ .tup vs) ∧ ∀ q u, o ≠ .frz q u) : EnvS K C B S0 H σ env :=
  ⟨E.len, e.trans E.base, fun a o h => E.nown a o (e a o h), live, E.slot, E.inj⟩
end
end Tm

namespace Tm
open PySem L2
open Evl (Ex)

/-! ### what an expression comes to -/
def EvE (K : PySem.W.Frag) (C : CA) (t : TE) (f : SE → Option D) : Prop :=
  ∀ (B : Hp) (S0 : Addr → Prop) (H : Hp) (σ : St) (env : SE) (d : D), EnvS K C B S0 H σ env → f env = some d →
    ∀ Q : VK, (∀ v H2, Ex H H2 → At (mask (SS S0 σ env) H2) v d → Q v H2) → t σ H Q
def EvT (K : PySem.W.Frag) (C : CA) (t : TT) (f : SE → Option Bool) : Prop :=
  ∀ (B : Hp) (S0 : Addr → Prop) (H : Hp) (σ : St) (env : SE) (b : Bool), EnvS K C B S0 H σ env → f env = some b →
    ∀ Q : Bool → Hp → Prop, (∀ H2, Ex H H2 → Q b H2) → t σ H Q
def EvA (K : PySem.W.Frag) (C : CA) (t : TA) (f : SE → Option (List D)) : Prop :=
  ∀ (B : Hp) (S0 : Addr → Prop) (H : Hp) (σ : St) (env : SE) (ds : List D), EnvS K C B S0 H σ env → f env = some ds →
    ∀ Q : List V → Hp → Prop, (∀ vs H2, Ex H H2 → AtL (mask (SS S0 σ env) H2) vs ds → Q vs H2) → t σ H Q
def EvO (K : PySem.W.Frag) (C : CA) (t : TO) (f : SE → Option (Option Int)) : Prop :=
  ∀ (B : Hp) (S0 : Addr → Prop) (H : Hp) (σ : St) (env : SE) (o : Option Int), EnvS K C B S0 H σ env → f env = some o →
    ∀ Q : Option Int → Hp → Prop, (∀ H2, Ex H H2 → Q o H2) → t σ H Q
structure SemE (X : Cx) (C : CA) (e : Expr) (t : TE) (f : SE → Option D) : Prop where
  pe : PE X e t
  ev : EvE X.K C t f
structure SemT (X : Cx) (C : CA) (e : Expr) (t : TT) (f : SE → Option Bool) : Prop where
  pt : PT X e t
  ev : EvT X.K C t f
structure SemW (X : Cx) (C : CA) (e : Expr) (t : TT) (f : SE → Option Bool) : Prop where
  pw : PW X e t
  ev : EvT X.K C t f
structure SemA (X : Cx) (C : CA) (es : List Expr) (t : TA) (f : SE → Option (List D)) : Prop where
  pa : PA X es t
  ev : EvA X.K C t f
structure SemO (X : Cx) (C : CA) (e : Option Expr) (t : TO) (f : SE → Option (Option Int)) : Prop where
  po : PO X e t
  ev : EvO X.K C t f

theorem PE.or {X : Cx} {e : Expr} {t u : TE} (h : PE X e t) (k : PE X e u) : PE X e (fun σ H Q => t σ H Q ∨ u σ H Q) := ⟨fun pins s σ H Q I q => q.elim (h.run pins s σ H Q I) (k.run pins s σ H Q I)⟩
theorem OpR.or {X : Cx} {f : Value → Value → Sem Value} {r u : R2} (h : OpR X f r) (k : OpR X f u) : OpR X f (fun x y H Q => r x y H Q ∨ u x y H Q) :=
  fun pins s σ H x y v w Q I rx ry q => q.elim (h pins s σ H x y v w Q I rx ry) (k pins s σ H x y v w Q I rx ry)
theorem CallR.or {X : Cx} {f : Value} {r u : List V → Hp → VK → Prop} (h : CallR X f r) (k : CallR X f u) : CallR X f (fun xs H Q => r xs H Q ∨ u xs H Q) :=
  fun pins s σ H xs us Q I rx q => q.elim (h pins s σ H xs us Q I rx) (k pins s σ H xs us Q I rx)

section
variable {K : PySem.W.Frag} {C : CA} {B : Hp} {S0 : Addr → Prop} {H H2 : Hp} {σ : St} {env : SE}
theorem At.mk {S : Addr → Prop} {v : V} {d : D} (e : Ex H H2) (h : At (mask S H) v d) : At (mask S H2) v d := h.le (HLe.of (mask_mono e))
theorem AtL.mk {S : Addr → Prop} {v : List V} {d : List D} (e : Ex H H2) (h : AtL (mask S H) v d) : AtL (mask S H2) v d := h.le (HLe.of (mask_mono e))
theorem At.out {S : Addr → Prop} {v : V} {d : D} (h : At (mask S H) v d) : At H v d := h.le (HLe.of (mask_sub S H))
theorem AtL.out {S : Addr → Prop} {v : List V} {d : List D} (h : AtL (mask S H) v d) : AtL H v d := h.le (HLe.of (mask_sub S H))
/-- a new object is none of the hidden -/
theorem new_out {S : Addr → Prop} {p : Addr} (lv : ∀ p, S p → ∃ o, H p = some o) (hp : H p = none) : ¬ S p := fun s => by
  obtain ⟨o, e⟩ := lv p s
  rw [hp] at e
  cases e
theorem mask_new {S : Addr → Prop} {p : Addr} {o : HO} (lv : ∀ p, S p → ∃ o, H p = some o) (hp : H p = none) : mask S (upd H p o) p = some o := by
  rw [mask_out (new_out lv hp), upd_same]
end

/-! ### operations by values -/
abbrev Lv (S : Addr → Prop) (H : Hp) : Prop := ∀ p, S p → ∃ o, H p = some o
theorem LvS.lv {S : Addr → Prop} {H : Hp} (h : LvS S H) : Lv S H := fun p s => let ⟨o, e, _⟩ := h p s; ⟨o, e⟩
def RS (K : PySem.W.Frag) (r : R2) (g : D → D → Option D) : Prop := ∀ (S : Addr → Prop) (H : Hp) (x y : V) (d e z : D), Lv S H → At (mask S H) x d → At (mask S H) y e → g d e = some z →
  ∀ Q : VK, (∀ v H2, Ex H H2 → At (mask S H2) v z → Q v H2) → r x y H Q
def RS1 (K : PySem.W.Frag) (r : V → Hp → VK → Prop) (g : D → Option D) : Prop := ∀ (S : Addr → Prop) (H : Hp) (x : V) (d z : D), Lv S H → At (mask S H) x d → g d = some z →
  ∀ Q : VK, (∀ v H2, Ex H H2 → At (mask S H2) v z → Q v H2) → r x H Q
def CS (r : List V → Hp → VK → Prop) (g : List D → Option D) : Prop := ∀ (S : Addr → Prop) (H : Hp) (xs : List V) (ds : List D) (z : D), Lv S H → AtL (mask S H) xs ds → g ds = some z →
  ∀ Q : VK, (∀ v H2, Ex H H2 → At (mask S H2) v z → Q v H2) → r xs H Q
theorem EnvS.lvs {K : PySem.W.Frag} {C : CA} {B : Hp} {S0 : Addr → Prop} {H : Hp} {σ : St} {env : SE} (E : EnvS K C B S0 H σ env) : Lv (SS S0 σ env) H := fun p h =>
  let ⟨o, e, _⟩ := E.lv p h
  ⟨o, e⟩

/-! ### the words of the denotation -/
def eVar (i : Nat) : SE → Option D := fun env => match env[i]? with
  | some (.pu d) => some d
  | _ => none
def eC (d : D) : SE → Option D := fun _ => some d
def e1 (g : D → Option D) (f : SE → Option D) : SE → Option D := fun env => match f env with
  | some d => g d
  | none => none
def e2 (g : D → D → Option D) (f k : SE → Option D) : SE → Option D := fun env => match f env with
  | some d => (match k env with
    | some e => g d e
    | none => none)
  | none => none
def aNil : SE → Option (List D) := fun _ => some []
def aCons (f : SE → Option D) (k : SE → Option (List D)) : SE → Option (List D) := fun env => match f env with
  | some d => (match k env with
    | some e => some (d :: e)
    | none => none)
  | none => none
def eA (g : List D → Option D) (k : SE → Option (List D)) : SE → Option D := fun env => match k env with
  | some ds => g ds
  | none => none
def szOk (n : Nat) : Bool := decide (n ≤ 100000)
def mkTup (ds : List D) : Option D := if szOk ds.length then some (.tuple ds) else none
def mkLst (ds : List D) : Option D := if szOk ds.length then some (.list ds) else none
def bOf (f : SE → Option D) : SE → Option Bool := fun env => match f env with
  | some (.bool b) => some b
  | _ => none
def bAnd (f k : SE → Option Bool) : SE → Option Bool := fun env => match f env with
  | some true => k env
  | some false => some false
  | none => none
def bOr (f k : SE → Option Bool) : SE → Option Bool := fun env => match f env with
  | some true => some true
  | some false => k env
  | none => none
def bNot (f : SE → Option Bool) : SE → Option Bool := fun env => match f env with
  | some b => some (!b)
  | none => none
def eAnd (f k : SE → Option D) : SE → Option D := fun env => match f env with
  | some (.bool true) => k env
  | some (.bool false) => some (.bool false)
  | _ => none
def eOr (f k : SE → Option D) : SE → Option D := fun env => match f env with
  | some (.bool true) => some (.bool true)
  | some (.bool false) => k env
  | _ => none
def eNot (f : SE → Option D) : SE → Option D := fun env => match f env with
  | some (.bool b) => some (.bool (!b))
  | _ => none
def eIf (c : SE → Option Bool) (f k : SE → Option D) : SE → Option D := fun env => match c env with
  | some true => f env
  | some false => k env
  | none => none
def eChain (g g' : D → D → Option D) (f k l : SE → Option D) : SE → Option D := fun env => match f env with
  | some x => (match k env with
    | some y => (match g x y with
      | some (.bool true) => (match l env with
        | some z => g' y z
        | none => none)
      | some (.bool false) => some (.bool false)
      | _ => none)
    | none => none)
  | none => none
def oN : SE → Option (Option Int) := fun _ => some none
def oS (f : SE → Option D) : SE → Option (Option Int) := fun env => match f env with
  | some (.int i) => some (some i)
  | _ => none
def eSl (g : D → Option Int → Option Int → Option D) (f : SE → Option D) (l h : SE → Option (Option Int)) : SE → Option D := fun env => match f env with
  | some d => (match l env with
    | some a => (match h env with
      | some b => g d a b
      | none => none)
    | none => none)
  | none => none

section
variable {X : Cx} {C : CA} {e a b c : Expr} {es : List Expr} {te ta tb tc : TE} {tA tB' : TT} {t : TA} {f k l : SE → Option D} {fb kb : SE → Option Bool} {fs : SE → Option (List D)} {pos : Pos} {rest : List Expr}
/-! ### names, constants -/
theorem sv {x : Str} {pos : Pos} (i : Nat) (h : PE X (.Name x pos) (tVar i)) : SemE X C (.Name x pos) (tVar i) (eVar i) := by
  refine ⟨h, fun B S0 H σ env d E hf Q q => ?_⟩
  unfold eVar at hf
  split at hf
  · rename_i d' he
    cases hf
    obtain ⟨v, hv, hat⟩ := E.slot i _ he
    exact ⟨v, hv, q v H (Ex.refl H) hat⟩
  · cases hf
def vD : V → Option D
  | .non => some .none
  | .bl b => some (.bool b)
  | .int i => some (.int i)
  | .str x => some (.str x)
  | _ => none
theorem vD_at {H : Hp} {v : V} {d : D} (h : vD v = some d) : At H v d := by
  cases v <;> cases h <;> constructor
theorem sc_ {v : V} {d : D} (h : PE X e (tC v)) (hv : vD v = some d) : SemE X C e (tC v) (eC d) := ⟨h, fun B S0 H σ env z E hf Q q => by
  cases hf
  exact q v H (Ex.refl H) (vD_at hv)⟩
theorem s_int {i : Int} {j pos} : SemE X C (.Constant (.int i) j pos) (tC (.int i)) (eC (.int i)) := sc_ pe_int rfl
theorem s_str {i : Str} {j pos} : SemE X C (.Constant (.str i) j pos) (tC (.str i)) (eC (.str i)) := sc_ pe_str rfl
theorem s_bl {i : Bool} {j pos} : SemE X C (.Constant (.bool i) j pos) (tC (.bl i)) (eC (.bool i)) := sc_ pe_bl rfl
theorem s_non {j pos} : SemE X C (.Constant .none j pos) (tC .non) (eC .none) := sc_ pe_non rfl
/-! ### operations -/
theorem evE2 {K : PySem.W.Frag} {r : R2} {g : D → D → Option D} (hr : RS K r g) (ha : EvE K C ta f) (hb : EvE K C tb k) : EvE K C (tOp r ta tb) (e2 g f k) := fun B S0 H σ env d E hf Q q => by
  unfold e2 at hf
  cases h1 : f env with
  | none => rw [h1] at hf; cases hf
  | some x =>
    rw [h1] at hf
    cases h2 : k env with
    | none => rw [h2] at hf; cases hf
    | some y =>
      rw [h2] at hf
      refine ha B S0 H σ env x E h1 _ fun v H1 e1 a1 => ?_
      refine hb B S0 H1 σ env y (E.ext e1) h2 _ fun w H2 e2 a2 => ?_
      exact hr _ H2 v w x y d ((E.ext e1).ext e2).lvs (a1.mk e2) a2 hf Q fun z H3 e3 a3 => q z H3 ((e1.trans e2).trans e3) a3
theorem evE1 {K : PySem.W.Frag} {r : V → Hp → VK → Prop} {g : D → Option D} (hr : RS1 K r g) (ha : EvE K C ta f) : EvE K C (tUn r ta) (e1 g f) := fun B S0 H σ env d E hf Q q => by
  unfold e1 at hf
  cases h1 : f env with
  | none => rw [h1] at hf; cases hf
  | some x =>
    rw [h1] at hf
    refine ha B S0 H σ env x E h1 _ fun v H1 e1 a1 => ?_
    exact hr _ H1 v x d (E.ext e1).lvs a1 hf Q fun z H3 e3 a3 => q z H3 (e1.trans e3) a3
theorem s_op {op : Operator} {r : R2} {g : D → D → Option D} (ho : OpR X (binaryOp op) r) (hg : RS X.K r g) (ha : SemE X C a ta f) (hb : SemE X C b tb k) : SemE X C (.BinOp a op b pos) (tOp r ta tb) (e2 g f k) :=
  ⟨pe_op ho ha.pe hb.pe, evE2 hg ha.ev hb.ev⟩
theorem s_un {op : UnaryOp} {r : V → Hp → VK → Prop} {g : D → Option D} (ho : UnR X (unaryOp op) r) (hg : RS1 X.K r g) (ha : SemE X C a ta f) : SemE X C (.UnaryOp op a pos) (tUn r ta) (e1 g f) :=
  ⟨pe_un ho ha.pe, evE1 hg ha.ev⟩
theorem s_cmp {op : CmpOp} {r : R2} {g : D → D → Option D} (ho : OpR X (compareOp op) r) (hg : RS X.K r g) (ha : SemE X C a ta f) (hb : SemE X C b tb k) (hm : behindInMarks op b = false) : SemE X C (.Compare a [op] [b] pos) (tOp r ta tb) (e2 g f k) :=
  ⟨pe_cmpR ho ha.pe hb.pe hm, evE2 hg ha.ev hb.ev⟩
theorem evTest {K : PySem.W.Frag} (h : EvE K C te f) : EvT K C (tTest te) (bOf f) := fun B S0 H σ env d E hf Q q => by
  unfold bOf at hf
  split at hf
  · rename_i b hb
    cases hf
    refine h B S0 H σ env _ E hb _ fun v H1 e1 a1 => ?_
    cases a1
    exact ⟨_, rfl, q H1 e1⟩
  · cases hf
theorem evB {K : PySem.W.Frag} (h : EvE K C te f) : EvT K C (tB te) (bOf f) := evTest h
theorem t_cmp {op : CmpOp} {r : R2} {g : D → D → Option D} (ho : OpR X (compareOp op) r) (hg : RS X.K r g) (ha : SemE X C a ta f) (hb : SemE X C b tb k) (hm : behindInMarks op b = false) :
    SemT X C (.Compare a [op] [b] pos) (tTest (tOp r ta tb)) (bOf (e2 g f k)) := ⟨pt_cmpR ho ha.pe hb.pe hm, evTest (evE2 hg ha.ev hb.ev)⟩
theorem t_val (h : SemE X C e te f) (he : ∀ whole, isTrue e X.env whole = (do let v ← whole; standAt e.pos; holding [v] (truthy v)) := by intro _; rfl) : SemT X C e (tB te) (bOf f) := ⟨pt_val h.pe he, evB h.ev⟩
theorem evChain {K : PySem.W.Frag} {r r' : R2} {g g' : D → D → Option D} (hr : RS K r g) (hr' : RS K r' g') (ha : EvE K C ta f) (hb : EvE K C tb k) (hc : EvE K C tc l) : EvE K C (tChain r r' ta tb tc) (eChain g g' f k l) := fun B S0 H σ env d E hf Q q => by
  unfold eChain at hf
  cases h1 : f env with
  | none => rw [h1] at hf; cases hf
  | some x =>
    rw [h1] at hf
    cases h2 : k env with
    | none => rw [h2] at hf; cases hf
    | some y =>
      rw [h2] at hf
      refine ha B S0 H σ env x E h1 _ fun v H1 e1 a1 => ?_
      refine hb B S0 H1 σ env y (E.ext e1) h2 _ fun w H2 e2 a2 => ?_
      cases h3 : g x y with
      | none => simp only [h3] at hf; cases hf
      | some z =>
        simp only [h3] at hf
        refine hr _ H2 v w x y z ((E.ext e1).ext e2).lvs (a1.mk e2) a2 h3 _ fun u H3 e3 a3 => ?_
        cases z with
        | bool bb =>
          cases a3
          refine ⟨bb, rfl, ?_⟩
          cases bb with
          | true =>
            simp only at hf
            refine iteT ?_
            cases h4 : l env with
            | none => rw [h4] at hf; cases hf
            | some z' =>
              rw [h4] at hf
              refine hc B S0 H3 σ env z' (((E.ext e1).ext e2).ext e3) h4 _ fun u' H4 e4 a4 => ?_
              exact hr' _ H4 w u' y z' d ((((E.ext e1).ext e2).ext e3).ext e4).lvs (a2.mk (e3.trans e4)) a4 hf Q fun z5 H5 e5 a5 => q z5 H5 ((((e1.trans e2).trans e3).trans e4).trans e5) a5
          | false =>
            simp only at hf
            cases hf
            exact iteF (q _ H3 ((e1.trans e2).trans e3) (.bl false))
        | _ => cases hf
theorem s_chain {op op' : CmpOp} {r r' : R2} {g g' : D → D → Option D} (ho : OpR X (compareOp op) r) (ho' : OpR X (compareOp op') r') (hg : RS X.K r g) (hg' : RS X.K r' g') (ha : SemE X C a ta f) (hb : SemE X C b tb k) (hc : SemE X C c tc l)
    (hm : lastMarks [op, op'] [b, c] = false := by with_unfolding_all rfl) : SemE X C (.Compare a [op, op'] [b, c] pos) (tChain r r' ta tb tc) (eChain g g' f k l) := ⟨pe_chain ho ho' ha.pe hb.pe hc.pe hm, evChain hg hg' ha.ev hb.ev hc.ev⟩
theorem t_chain {op op' : CmpOp} {r r' : R2} {g g' : D → D → Option D} (ho : OpR X (compareOp op) r) (ho' : OpR X (compareOp op') r') (hg : RS X.K r g) (hg' : RS X.K r' g') (ha : SemE X C a ta f) (hb : SemE X C b tb k) (hc : SemE X C c tc l)
    (hm : lastMarks [op, op'] [b, c] = false := by with_unfolding_all rfl) : SemT X C (.Compare a [op, op'] [b, c] pos) (tTest (tChain r r' ta tb tc)) (bOf (eChain g g' f k l)) := ⟨pt_chain ho ho' ha.pe hb.pe hc.pe hm, evTest (evChain hg hg' ha.ev hb.ev hc.ev)⟩
/-! ### and, or, not -/
theorem evAnd {K : PySem.W.Frag} (h1 : EvT K C tA fb) (h2 : EvT K C tB' kb) : EvT K C (tAnd tA tB') (bAnd fb kb) := fun B S0 H σ env d E hf Q q => by
  unfold bAnd at hf
  cases h : fb env with
  | none => rw [h] at hf; cases hf
  | some x =>
    rw [h] at hf
    refine h1 B S0 H σ env x E h _ fun H1 e1 => ?_
    cases x with
    | true => exact iteT (h2 B S0 H1 σ env d (E.ext e1) hf Q fun H2 e2 => q H2 (e1.trans e2))
    | false =>
      cases hf
      exact iteF (q H1 e1)
theorem evOr {K : PySem.W.Frag} (h1 : EvT K C tA fb) (h2 : EvT K C tB' kb) : EvT K C (tOr tA tB') (bOr fb kb) := fun B S0 H σ env d E hf Q q => by
  unfold bOr at hf
  cases h : fb env with
  | none => rw [h] at hf; cases hf
  | some x =>
    rw [h] at hf
    refine h1 B S0 H σ env x E h _ fun H1 e1 => ?_
    cases x with
    | false => exact iteF (h2 B S0 H1 σ env d (E.ext e1) hf Q fun H2 e2 => q H2 (e1.trans e2))
    | true =>
      cases hf
      exact iteT (q H1 e1)
theorem evNot {K : PySem.W.Frag} (h1 : EvT K C tA fb) : EvT K C (tNot tA) (bNot fb) := fun B S0 H σ env d E hf Q q => by
  unfold bNot at hf
  cases h : fb env with
  | none => rw [h] at hf; cases hf
  | some x =>
    rw [h] at hf
    cases hf
    exact h1 B S0 H σ env x E h _ fun H1 e1 => q H1 e1
theorem w_and1 (h : SemT X C a tA fb) : SemW X C (.BoolOp .And [a] pos) tA fb := ⟨pw_and1 h.pt, h.ev⟩
theorem w_or1 (h : SemT X C a tA fb) : SemW X C (.BoolOp .Or [a] pos) tA fb := ⟨pw_or1 h.pt, h.ev⟩
theorem w_and (h : SemT X C a tA fb) (k : SemW X C (.BoolOp .And (b :: rest) pos) tB' kb) : SemW X C (.BoolOp .And (a :: b :: rest) pos) (tAnd tA tB') (bAnd fb kb) := ⟨pw_and h.pt k.pw, evAnd h.ev k.ev⟩
theorem w_or (h : SemT X C a tA fb) (k : SemW X C (.BoolOp .Or (b :: rest) pos) tB' kb) : SemW X C (.BoolOp .Or (a :: b :: rest) pos) (tOr tA tB') (bOr fb kb) := ⟨pw_or h.pt k.pw, evOr h.ev k.ev⟩
theorem SemW.tt (h : SemW X C e tA fb) : SemT X C e tA fb := ⟨h.pw.pt, h.ev⟩
theorem t_not (h : SemT X C a tA fb) : SemT X C (.UnaryOp .Not a pos) (tNot tA) (bNot fb) := ⟨pt_not h.pt, evNot h.ev⟩
theorem s_one {op} (h : SemE X C a te f) : SemE X C (.BoolOp op [a] pos) te f := ⟨pe_one h.pe, h.ev⟩
theorem s_and (h1 : SemE X C a ta f) (h2 : SemE X C (.BoolOp .And (b :: rest) pos) tb k) : SemE X C (.BoolOp .And (a :: b :: rest) pos) (tAndV ta tb) (eAnd f k) := ⟨pe_and h1.pe h2.pe, fun B S0 H σ env d E hf Q q => by
  unfold eAnd at hf
  split at hf
  · rename_i h
    refine h1.ev B S0 H σ env _ E h _ fun v H1 e1 a1 => ?_
    cases a1
    exact ⟨true, rfl, iteT (h2.ev B S0 H1 σ env d (E.ext e1) hf Q fun v H2 e2 => q v H2 (e1.trans e2))⟩
  · rename_i h
    cases hf
    refine h1.ev B S0 H σ env _ E h _ fun v H1 e1 a1 => ?_
    cases a1
    exact ⟨false, rfl, iteF (q _ H1 e1 (.bl false))⟩
  · cases hf⟩
theorem s_or (h1 : SemE X C a ta f) (h2 : SemE X C (.BoolOp .Or (b :: rest) pos) tb k) : SemE X C (.BoolOp .Or (a :: b :: rest) pos) (tOrV ta tb) (eOr f k) := ⟨pe_or h1.pe h2.pe, fun B S0 H σ env d E hf Q q => by
  unfold eOr at hf
  split at hf
  · rename_i h
    cases hf
    refine h1.ev B S0 H σ env _ E h _ fun v H1 e1 a1 => ?_
    cases a1
    exact ⟨true, rfl, iteT (q _ H1 e1 (.bl true))⟩
  · rename_i h
    refine h1.ev B S0 H σ env _ E h _ fun v H1 e1 a1 => ?_
    cases a1
    exact ⟨false, rfl, iteF (h2.ev B S0 H1 σ env d (E.ext e1) hf Q fun v H2 e2 => q v H2 (e1.trans e2))⟩
  · cases hf⟩
theorem s_not (h1 : SemE X C a ta f) : SemE X C (.UnaryOp .Not a pos) (tNotV ta) (eNot f) := ⟨pe_not h1.pe, fun B S0 H σ env d E hf Q q => by
  unfold eNot at hf
  split at hf
  · rename_i h
    cases hf
    refine h1.ev B S0 H σ env _ E h _ fun v H1 e1 a1 => ?_
    cases a1
    exact ⟨_, rfl, q _ H1 e1 (.bl _)⟩
  · cases hf⟩
theorem s_if {c : Expr} (hc : SemT X C c tA fb) (ha : SemE X C a ta f) (hb : SemE X C b tb k) : SemE X C (.IfExp c a b pos) (tIf tA ta tb) (eIf fb f k) := ⟨pe_ifExp hc.pt ha.pe hb.pe, fun B S0 H σ env d E hf Q q => by
  unfold eIf at hf
  split at hf
  · rename_i h
    exact hc.ev B S0 H σ env _ E h _ fun H1 e1 => iteT (ha.ev B S0 H1 σ env d (E.ext e1) hf Q fun v H2 e2 => q v H2 (e1.trans e2))
  · rename_i h
    exact hc.ev B S0 H σ env _ E h _ fun H1 e1 => iteF (hb.ev B S0 H1 σ env d (E.ext e1) hf Q fun v H2 e2 => q v H2 (e1.trans e2))
  · cases hf⟩
/-! ### lists of expressions -/
theorem a_nil : SemA X C [] tNil aNil := ⟨pa_nil, fun B S0 H σ env d E hf Q q => by
  cases hf
  exact q [] H (Ex.refl H) .nil⟩
theorem a_cons (ha : SemE X C e te f) (hr : SemA X C es t fs) (hs : starEach (e :: es) X.env = (false, eval e X.env) :: starEach es X.env := by rfl) : SemA X C (e :: es) (tCons te t) (aCons f fs) := ⟨pa_cons ha.pe hr.pa hs, fun B S0 H σ env d E hf Q q => by
  unfold aCons at hf
  cases h1 : f env with
  | none => rw [h1] at hf; cases hf
  | some x =>
    rw [h1] at hf
    cases h2 : fs env with
    | none => rw [h2] at hf; cases hf
    | some y =>
      rw [h2] at hf
      cases hf
      exact ha.ev B S0 H σ env x E h1 _ fun v H1 e1 a1 => hr.ev B S0 H1 σ env y (E.ext e1) h2 _ fun w H2 e2 a2 => q _ H2 (e1.trans e2) (.cons (a1.mk e2) a2)⟩
theorem sz_ok {n : Nat} (h : szOk n = true) : n ≤ sizeLine := Evl.sz_of (of_decide_eq_true h)
theorem s_tup {x1} (h : SemA X C es t fs) : SemE X C (.Tuple es x1 pos) (tTup t) (eA mkTup fs) := ⟨pe_tup h.pa, fun B S0 H σ env d E hf Q q => by
  unfold eA at hf
  cases h1 : fs env with
  | none => rw [h1] at hf; cases hf
  | some x =>
    simp only [h1, mkTup] at hf
    split at hf
    · rename_i hz
      cases hf
      refine h.ev B S0 H σ env x E h1 _ fun vs H1 e1 a1 => ⟨by rw [a1.length]; exact sz_ok hz, fun p hp => ?_⟩
      exact q _ _ (e1.trans (Ex.new hp)) (.tup (mask_new (E.ext e1).lvs hp) (a1.mk (Ex.new hp)))
    · cases hf⟩
theorem s_lst (h : SemA X C es t fs) : SemE X C (.List es pos) (tLst t) (eA mkLst fs) := ⟨pe_lst h.pa, fun B S0 H σ env d E hf Q q => by
  unfold eA at hf
  cases h1 : fs env with
  | none => rw [h1] at hf; cases hf
  | some x =>
    simp only [h1, mkLst] at hf
    split at hf
    · rename_i hz
      cases hf
      refine h.ev B S0 H σ env x E h1 _ fun vs H1 e1 a1 => ⟨by rw [a1.length]; exact sz_ok hz, fun p hp => ?_⟩
      exact q _ _ (e1.trans (Ex.new hp)) (.lst (mask_new (E.ext e1).lvs hp) (a1.mk (Ex.new hp)))
    · cases hf⟩
/-! ### built-ins called by name -/
theorem evCB {K : PySem.W.Frag} {r : List V → Hp → VK → Prop} {g : List D → Option D} (hr : CS r g) (ha : EvA K C t fs) : EvE K C (tCB r t) (eA g fs) := fun B S0 H σ env d E hf Q q => by
  unfold eA at hf
  cases h1 : fs env with
  | none => rw [h1] at hf; cases hf
  | some x =>
    rw [h1] at hf
    refine ha B S0 H σ env x E h1 _ fun vs H1 e1 a1 => ?_
    exact hr _ H1 vs x d (E.ext e1).lvs a1 hf Q fun z H3 e3 a3 => q z H3 (e1.trans e3) a3
theorem s_callB {id : String} {x : Str} {p : Pos} {r : List V → Hp → VK → Prop} {g : List D → Option D} (hc : CallR X (.builtin id) r) (hg : CS r g) (hgl : Gl X x) (hm : X.mg x = none) (hv : bootBuiltins x = some (.builtin id)) (ha : SemA X C (e :: es) t fs)
    (hn : x ≠ "__name__" := by decide) (hdb : (x == ("__debug__" : Str)) = false := by decide)
    (he : starEach (e :: es) X.env = (false, eval e X.env) :: starEach es X.env := by rfl) (hpl : (backTo pos (starEach es X.env)).any (·.1) = false := by rfl) : SemE X C (.Call (.Name x p) (e :: es) [] pos) (tCB r t) (eA g fs) :=
  ⟨pe_callB hc hgl hm hv ha.pa hn hdb he hpl, evCB hg ha.ev⟩
theorem s_callTy {T : String} {x : Str} {p : Pos} {r : List V → Hp → VK → Prop} {g : List D → Option D} (hc : CallR X (.type T) r) (hg : CS r g) (hgl : Gl X x) (hm : X.mg x = none) (hv : bootBuiltins x = some (.type T)) (ha : SemA X C (e :: es) t fs)
    (hn : x ≠ "__name__" := by decide) (hdb : (x == ("__debug__" : Str)) = false := by decide)
    (he : starEach (e :: es) X.env = (false, eval e X.env) :: starEach es X.env := by rfl) (hpl : (backTo pos (starEach es X.env)).any (·.1) = false := by rfl) : SemE X C (.Call (.Name x p) (e :: es) [] pos) (tCB r t) (eA g fs) :=
  ⟨pe_callTy hc hgl hm hv ha.pa hn hdb he hpl, evCB hg ha.ev⟩
/-! ### slices -/
theorem o_none : SemO X C none tNoPart oN := ⟨po_none, fun B S0 H σ env o E hf Q q => by
  cases hf
  exact q H (Ex.refl H)⟩
theorem o_some (h : SemE X C e te f) : SemO X C (some e) (tPart te) (oS f) := ⟨po_some h.pe, fun B S0 H σ env o E hf Q q => by
  unfold oS at hf
  split at hf
  · rename_i i h1
    cases hf
    refine h.ev B S0 H σ env _ E h1 _ fun v H1 e1 a1 => ?_
    cases a1
    exact ⟨_, rfl, q H1 e1⟩
  · cases hf⟩
def SLS (K : PySem.W.Frag) (r : V → Option Int → Option Int → Hp → VK → Prop) (g : D → Option Int → Option Int → Option D) : Prop := ∀ (S : Addr → Prop) (H : Hp) (x : V) (lo hi : Option Int) (d z : D), Lv S H → At (mask S H) x d → g d lo hi = some z →
  ∀ Q : VK, (∀ v H2, Ex H H2 → At (mask S H2) v z → Q v H2) → r x lo hi H Q
theorem s_slice {lo hi : Option Expr} {tl th : TO} {fl fh : SE → Option (Option Int)} {p2 : Pos} {r : V → Option Int → Option Int → Hp → VK → Prop} {g : D → Option Int → Option Int → Option D} (hr : SlR X r) (hg : SLS X.K r g) (he : SemE X C e te f) (hl : SemO X C lo tl fl) (hu : SemO X C hi th fh) :
    SemE X C (.Subscript e (.Slice lo hi none p2) pos) (tSl r te tl th) (eSl g f fl fh) := ⟨pe_slice hr he.pe hl.po hu.po, fun B S0 H σ env d E hf Q q => by
  unfold eSl at hf
  cases h1 : f env with
  | none => rw [h1] at hf; cases hf
  | some x =>
    rw [h1] at hf
    cases h2 : fl env with
    | none => rw [h2] at hf; cases hf
    | some y =>
      rw [h2] at hf
      cases h3 : fh env with
      | none => rw [h3] at hf; cases hf
      | some z =>
        rw [h3] at hf
        refine he.ev B S0 H σ env x E h1 _ fun v H1 e1 a1 => hl.ev B S0 H1 σ env y (E.ext e1) h2 _ fun H2 e2 => hu.ev B S0 H2 σ env z ((E.ext e1).ext e2) h3 _ fun H3 e3 => ?_
        exact hg _ H3 v y z x d (((E.ext e1).ext e2).ext e3).lvs (a1.mk (e2.trans e3)) hf Q fun u H4 e4 a4 => q u H4 (((e1.trans e2).trans e3).trans e4) a4⟩
/-! ### subscripts -/
theorem s_ix {r : R2} {g : D → D → Option D} (hr : IxR X r) (hg : RS X.K r g) (ha : SemE X C a ta f) (hb : SemE X C b tb k) (hs : PlainIx b) : SemE X C (.Subscript a b pos) (tOp r ta tb) (e2 g f k) :=
  ⟨pe_ix hr ha.pe hb.pe hs, evE2 hg ha.ev hb.ev⟩
end
end Tm

namespace Tm
open PySem L2
open Evl (Ex)
section
variable {K : PySem.W.Frag}
theorem RS.or {r u : R2} {g h : D → D → Option D} (a : RS K r g) (b : RS K u h) : RS K (fun x y H Q => r x y H Q ∨ u x y H Q) (fun d e => (g d e).or (h d e)) := fun S H x y d e z lv p q hz Q k => by
  have hz : (g d e).or (h d e) = some z := hz
  cases hg : g d e with
  | some z' =>
    rw [hg] at hz
    cases hz
    exact .inl (a S H x y d e _ lv p q hg Q k)
  | none =>
    rw [hg] at hz
    exact .inr (b S H x y d e _ lv p q (by simpa using hz) Q k)
theorem CS.or {r u : List V → Hp → VK → Prop} {g h : List D → Option D} (a : CS r g) (b : CS u h) : CS (fun xs H Q => r xs H Q ∨ u xs H Q) (fun ds => (g ds).or (h ds)) := fun S H xs ds z lv p hz Q k => by
  have hz : (g ds).or (h ds) = some z := hz
  cases hg : g ds with
  | some z' =>
    rw [hg] at hz
    cases hz
    exact .inl (a S H xs ds _ lv p hg Q k)
  | none =>
    rw [hg] at hz
    exact .inr (b S H xs ds _ lv p (by simpa using hz) Q k)
/-! ### ints -/
def gI (c : Int → Int → Bool) (g : Int → Int → D) : D → D → Option D := fun d e => match d, e with
  | .int i, .int j => if c i j then some (g i j) else none
  | _, _ => none
theorem rs_I {cc : Int → Int → Prop} {gv : Int → Int → V} {c : Int → Int → Bool} {g : Int → Int → D} (hc : ∀ i j, c i j = true → cc i j) (hg : ∀ H i j, At H (gv i j) (g i j)) : RS K (rI cc gv) (gI c g) := fun S H x y d e z lv p q hz Q k => by
  unfold gI at hz
  split at hz
  · rename_i i j
    split at hz
    · rename_i h
      cases hz
      cases p
      cases q
      exact ⟨i, j, rfl, rfl, hc i j h, k _ H (Ex.refl H) (hg _ i j)⟩
    · cases hz
  · cases hz
theorem rs_I0 {gv : Int → Int → V} {g : Int → Int → D} (hg : ∀ H i j, At H (gv i j) (g i j)) : RS K (rI0 gv) (gI (fun _ _ => true) g) := fun S H x y d e z lv p q hz Q k => by
  unfold gI at hz
  split at hz
  · rename_i i j
    split at hz
    · rename_i h
      cases hz
      cases p
      cases q
      exact ⟨i, j, rfl, rfl, k _ H (Ex.refl H) (hg _ i j)⟩
    · cases hz
  · cases hz
def gSub : D → D → Option D := gI (fun _ _ => true) fun i j => .int (i - j)
def gMod : D → D → Option D := gI (fun _ j => decide (0 < j)) fun i j => .int (i % j)
def gDiv : D → D → Option D := gI (fun _ j => decide (0 < j ∧ j < 1073741824)) fun i j => .int (i / j)
def gPow : D → D → Option D := gI (fun i j => decide (0 ≤ j ∧ j ≤ 1000000 ∧ i.natAbs < 2 ^ 64)) fun i j => .int (i ^ j.toNat)
def gLt : D → D → Option D := gI (fun _ _ => true) fun i j => .bool (decide (i < j))
def gLe : D → D → Option D := gI (fun _ _ => true) fun i j => .bool (decide (i ≤ j))
def gGt : D → D → Option D := gI (fun _ _ => true) fun i j => .bool (decide (j < i))
def gGe : D → D → Option D := gI (fun _ _ => true) fun i j => .bool (decide (j ≤ i))
theorem rs_sub : RS K (rI0 fun i j => .int (i - j)) gSub := rs_I0 fun _ _ _ => .int _
theorem rs_mod : RS K (rI (fun _ j => 0 < j) fun i j => .int (i % j)) gMod := rs_I (fun i j h => of_decide_eq_true h) fun _ _ _ => .int _
theorem rs_div : RS K (rI CDivN fun i j => .int (i.fdiv j)) gDiv := fun S H x y d e z lv p q hz Q k => by
  unfold gDiv gI at hz
  split at hz
  · rename_i i j
    split at hz
    · rename_i h
      have h' : 0 < j ∧ j < 1073741824 := of_decide_eq_true h
      cases hz
      cases p
      cases q
      refine ⟨i, j, rfl, rfl, ⟨by omega, by omega⟩, ?_⟩
      show Q (.int (i.fdiv j)) H
      rw [Int.fdiv_eq_ediv_of_nonneg i (show 0 ≤ j by omega)]
      exact k _ H (Ex.refl H) (.int _)
    · cases hz
  · cases hz
theorem rs_pow : RS K (rI CPow fun i j => .int (i ^ j.toNat)) gPow := rs_I (fun i j h => (of_decide_eq_true h : 0 ≤ j ∧ j ≤ 1000000 ∧ i.natAbs < 2 ^ 64)) fun _ _ _ => .int _
theorem rs_lt : RS K (rI0 fun i j => .bl (decide (i < j))) gLt := rs_I0 fun _ _ _ => .bl _
theorem rs_le : RS K (rI0 fun i j => .bl (decide (i ≤ j))) gLe := rs_I0 fun _ _ _ => .bl _
theorem rs_gt : RS K (rI0 fun i j => .bl (decide (j < i))) gGt := rs_I0 fun _ _ _ => .bl _
theorem rs_ge : RS K (rI0 fun i j => .bl (decide (j ≤ i))) gGe := rs_I0 fun _ _ _ => .bl _
def gNeg : D → Option D
  | .int i => some (.int (-i))
  | _ => none
theorem rs_neg : RS1 K (rU fun i => .int (-i)) gNeg := fun S H x d z lv p hz Q k => by
  unfold gNeg at hz
  split at hz
  · cases hz
    cases p
    exact ⟨_, rfl, k _ H (Ex.refl H) (.int _)⟩
  · cases hz
/-! ### lists and tuples joined -/
def gCatT : D → D → Option D := fun d e => match d, e with
  | .tuple a, .tuple b => if szOk (a.length + b.length) then some (.tuple (a ++ b)) else none
  | _, _ => none
def gCatL : D → D → Option D := fun d e => match d, e with
  | .list a, .list b => if szOk (a.length + b.length) then some (.list (a ++ b)) else none
  | _, _ => none
theorem rs_catT : RS K (rCatA K) gCatT := fun S H x y d e z lv p q hz Q k => by
  unfold gCatT at hz
  split at hz
  · rename_i a b
    split at hz
    · rename_i h
      cases hz
      cases p with
      | tup p1 p2 =>
        cases q with
        | tup q1 q2 =>
          rename_i pa va pb vb
          have e1 := (mask_some p1).2
          have e2 := (mask_some q1).2
          refine ⟨pa, pb, va, vb, rfl, rfl, SqT.of e1, SqT.of e2, by rw [p2.length, q2.length]; exact sz_ok h, fun z => ?_, fun _ z => ?_, fun _ _ r hr => ?_⟩
          · subst z
            cases p2
            exact k _ H (Ex.refl H) (.tup q1 q2)
          · subst z
            cases q2
            exact k _ H (Ex.refl H) (by rw [List.append_nil]; exact .tup p1 p2)
          · exact k _ _ (Ex.new hr) (.tup (mask_new lv hr) ((p2.mk (Ex.new hr)).append (q2.mk (Ex.new hr))))
    · cases hz
  · cases hz
theorem rs_catL : RS K rCat gCatL := fun S H x y d e z lv p q hz Q k => by
  unfold gCatL at hz
  split at hz
  · rename_i a b
    split at hz
    · rename_i h
      cases hz
      cases p with
      | lst p1 p2 =>
        cases q with
        | lst q1 q2 =>
          rename_i pa va pb vb
          have e1 := (mask_some p1).2
          have e2 := (mask_some q1).2
          exact ⟨pa, pb, va, vb, rfl, rfl, e1, e2, by rw [p2.length, q2.length]; exact sz_ok h, fun r hr => k _ _ (Ex.new hr) (.lst (mask_new lv hr) ((p2.mk (Ex.new hr)).append (q2.mk (Ex.new hr))))⟩
    · cases hz
  · cases hz
def gAdd : D → D → Option D := fun d e => (gI (fun _ _ => true) (fun i j => .int (i + j)) d e).or ((gCatT d e).or (gCatL d e))
abbrev rAddA (K : PySem.W.Frag) : R2 := fun x y H Q => rI0 (fun i j => .int (i + j)) x y H Q ∨ (rCatA K x y H Q ∨ rCat x y H Q)
theorem rs_add : RS K (rAddA K) gAdd := RS.or (rs_I0 fun _ _ _ => .int _) (RS.or rs_catT rs_catL)
theorem op_addA {X : Cx} : OpR X (binaryOp .Add) (rAddA X.K) := OpR.or op_add (OpR.or op_catA op_cat)
def repD (n : Nat) (ds : List D) : List D := (List.replicate n ds).flatten
theorem atL_rep {H : Hp} {vs : List V} {ds : List D} (h : AtL H vs ds) : ∀ n, AtL H (List.replicate n vs).flatten (repD n ds)
  | 0 => .nil
  | n + 1 => by
    show AtL H (List.replicate (n + 1) vs).flatten (List.replicate (n + 1) ds).flatten
    rw [List.replicate_succ, List.replicate_succ, List.flatten_cons, List.flatten_cons]
    exact h.append (atL_rep h n)
def gRep : D → D → Option D := fun d e => match d, e with
  | .list a, .int n => if decide (0 ≤ n ∧ n ≤ 100 ∧ a.length ≤ 100) then some (.list (repD n.toNat a)) else none
  | _, _ => none
theorem rs_rep : RS K rRep gRep := fun S H x y d e z lv p q hz Q k => by
  unfold gRep at hz
  split at hz
  · rename_i a n
    split at hz
    · rename_i h
      have h' : 0 ≤ n ∧ n ≤ 100 ∧ a.length ≤ 100 := of_decide_eq_true h
      cases hz
      cases p with
      | lst p1 p2 =>
        cases q
        rename_i pa va
        have e1 := (mask_some p1).2
        refine ⟨pa, n, va, rfl, rfl, e1, by omega, by omega, ?_, fun r hr => k _ _ (Ex.new hr) (.lst (mask_new lv hr) (atL_rep (p2.mk (Ex.new hr)) _))⟩
        rw [p2.length]
        refine Nat.le_trans (Nat.mul_le_mul h'.2.2 (show n.toNat ≤ 100 by omega)) ?_
        decide
    · cases hz
  · cases hz
def gMulI : D → D → Option D := gI (fun i _ => decide (-(2 ^ 64) < i ∧ i < 2 ^ 64)) fun i j => .int (i * j)
def gMul : D → D → Option D := fun d e => (gMulI d e).or (gRep d e)
theorem rs_mulI : RS K (rI CMul fun i j => .int (i * j)) gMulI := rs_I (fun i j h => .inl (of_decide_eq_true h)) fun _ _ _ => .int _
abbrev rMulA : R2 := fun x y H Q => rI CMul (fun i j => .int (i * j)) x y H Q ∨ rRep x y H Q
theorem rs_mul : RS K rMulA gMul := RS.or rs_mulI rs_rep
theorem op_mulA {X : Cx} : OpR X (binaryOp .Mult) rMulA := OpR.or op_mul op_rep
/-! ### == -/
mutual
theorem At.dp {H : Hp} : ∀ {v : V} {d : D}, At H v d → d.canLay0 = true → Dp K H v d
  | _, _, .non, _ => .non
  | _, _, .bl b, _ => .bl b
  | _, _, .int b, _ => .int b
  | _, _, .str b, _ => .str b
  | _, _, .lst h t, c => .lst (SqL.of h) (AtL.dp t (by rw [PyData.canLay0] at c; exact c))
  | _, _, .tup h t, c => .tup (SqT.of h) (AtL.dp t (by rw [PyData.canLay0] at c; exact c))
  | _, _, .dk h t, c => by rw [PyData.canLay0] at c; cases c
  | _, _, .dt h t, c => by rw [PyData.canLay0] at c; cases c
theorem AtL.dp {H : Hp} : ∀ {v : List V} {d : List D}, AtL H v d → PyData.canLayAll0 d = true → DpAll K H v d
  | _, _, .nil, _ => .nil
  | _, _, .cons h t, c => by
    rw [PyData.canLayAll0, Bool.and_eq_true] at c
    exact .cons (At.dp h c.1) (AtL.dp t c.2)
end
def gEq : D → D → Option D := fun d e => if SeqAt.shaped d && SeqAt.shaped e then some (.bool (PyData.eqv d e)) else none
def gNe : D → D → Option D := fun d e => if SeqAt.shaped d && SeqAt.shaped e then some (.bool (!PyData.eqv d e)) else none
theorem rs_eq : RS K (rEqD K) gEq := fun S H x y d e z lv p q hz Q k => by
  unfold gEq at hz
  split at hz
  · rename_i h
    rw [Bool.and_eq_true] at h
    cases hz
    exact ⟨d, e, At.dp p.out (SeqAt.canLay_of_shaped h.1), At.dp q.out (SeqAt.canLay_of_shaped h.2), h.1, h.2, k _ H (Ex.refl H) (.bl _)⟩
  · cases hz
theorem rs_ne : RS K (rNeD K) gNe := fun S H x y d e z lv p q hz Q k => by
  unfold gNe at hz
  split at hz
  · rename_i h
    rw [Bool.and_eq_true] at h
    cases hz
    exact ⟨d, e, At.dp p.out (SeqAt.canLay_of_shaped h.1), At.dp q.out (SeqAt.canLay_of_shaped h.2), h.1, h.2, k _ H (Ex.refl H) (.bl _)⟩
  · cases hz
/-! ### is None -/
def isNone : D → Bool
  | .none => true
  | _ => false
def gIs : D → D → Option D := fun d e => match e with
  | .none => some (.bool (isNone d))
  | _ => none
def gIsNot : D → D → Option D := fun d e => match e with
  | .none => some (.bool (!isNone d))
  | _ => none
theorem at_none {H : Hp} {x : V} {d : D} (h : At H x d) : decide (x = .non) = isNone d := by
  cases h <;> rfl
theorem rs_is : RS K (fun x y H Q => y = .non ∧ Q (.bl (decide (x = .non))) H) gIs := fun S H x y d e z lv p q hz Q k => by
  unfold gIs at hz
  split at hz
  · cases hz
    cases q
    refine ⟨rfl, ?_⟩
    rw [at_none p]
    exact k _ H (Ex.refl H) (.bl _)
  · cases hz
theorem rs_isNot : RS K (fun x y H Q => y = .non ∧ Q (.bl (!decide (x = .non))) H) gIsNot := fun S H x y d e z lv p q hz Q k => by
  unfold gIsNot at hz
  split at hz
  · cases hz
    cases q
    refine ⟨rfl, ?_⟩
    rw [at_none p]
    exact k _ H (Ex.refl H) (.bl _)
  · cases hz
/-! ### in -/
def flatD : D → Bool
  | .none | .bool _ | .int _ | .str _ => true
  | _ => false
theorem flat_at {H : Hp} {x : V} {d : D} (h : At H x d) : flatV x = flatD d := by cases h <;> rfl
theorem eqv_flat {H : Hp} {x y : V} {d e : D} (h : At H x d) (k : At H y e) (f : flatD d = true) (f' : flatD e = true) : eqV x y = PyData.eqv d e := by
  cases h <;> cases k <;> first | rfl | cases f | cases f' | (simp only [eqV, PyData.eqv] <;> rfl)
def inD (d : D) (ds : List D) : Bool := ds.any fun z => PyData.eqv z d
theorem in_flat {H : Hp} {x : V} {d : D} (h : At H x d) (f : flatD d = true) : ∀ {vs : List V} {ds : List D}, AtL H vs ds → ds.all flatD = true → vs.all flatV = true ∧ inV x vs = inD d ds
  | _, _, .nil, _ => ⟨rfl, rfl⟩
  | _, _, .cons k t, c => by
    rw [List.all_cons, Bool.and_eq_true] at c
    obtain ⟨h1, h2⟩ := in_flat h f t c.2
    refine ⟨by rw [List.all_cons, flat_at k, c.1, h1]; rfl, ?_⟩
    unfold inV inD
    rw [List.any_cons, List.any_cons, eqv_flat k h c.1 f]
    unfold inV inD at h2
    rw [h2]
def gInT (neg : Bool) : D → D → Option D := fun d e => match e with
  | .tuple ds => if flatD d && ds.all flatD then some (.bool (if neg then !inD d ds else inD d ds)) else none
  | _ => none
theorem rs_inT {neg : Bool} : RS K (rIn K neg) (gInT neg) := fun S H x y d e z lv p q hz Q k => by
  unfold gInT at hz
  split at hz
  · rename_i ds
    split at hz
    · rename_i h
      rw [Bool.and_eq_true] at h
      cases hz
      cases q with
      | tup q1 q2 =>
        obtain ⟨h1, h2⟩ := in_flat p h.1 q2 h.2
        refine ⟨_, _, rfl, .inr (SqT.of (mask_some q1).2), by rw [flat_at p]; exact h.1, h1, ?_⟩
        rw [h2]
        exact k _ H (Ex.refl H) (.bl _)
    · cases hz
  · cases hz
def gInL (neg : Bool) : D → D → Option D := fun d e => match e with
  | .list ds => if SeqAt.shaped d && SeqAt.shaped (.list ds) then some (.bool (if neg then !inD d ds else inD d ds)) else none
  | _ => none
theorem rs_inL : RS K (rInD K) (gInL false) := fun S H x y d e z lv p q hz Q k => by
  unfold gInL at hz
  split at hz
  · rename_i ds
    split at hz
    · rename_i h
      rw [Bool.and_eq_true] at h
      cases hz
      exact ⟨d, ds, At.dp p.out (SeqAt.canLay_of_shaped h.1), At.dp q.out (SeqAt.canLay_of_shaped h.2), h.1, h.2, k _ H (Ex.refl H) (.bl _)⟩
    · cases hz
  · cases hz
theorem rs_ninL : RS K (rNotInD K) (gInL true) := fun S H x y d e z lv p q hz Q k => by
  unfold gInL at hz
  split at hz
  · rename_i ds
    split at hz
    · rename_i h
      rw [Bool.and_eq_true] at h
      cases hz
      exact ⟨d, ds, At.dp p.out (SeqAt.canLay_of_shaped h.1), At.dp q.out (SeqAt.canLay_of_shaped h.2), h.1, h.2, k _ H (Ex.refl H) (.bl _)⟩
    · cases hz
  · cases hz
def gIn : D → D → Option D := fun d e => (gInT false d e).or (gInL false d e)
def gNin : D → D → Option D := fun d e => (gInT true d e).or (gInL true d e)
abbrev rInA (K : PySem.W.Frag) : R2 := fun x y H Q => rIn K false x y H Q ∨ rInD K x y H Q
abbrev rNinA (K : PySem.W.Frag) : R2 := fun x y H Q => rIn K true x y H Q ∨ rNotInD K x y H Q
theorem rs_in : RS K (rInA K) gIn := RS.or rs_inT rs_inL
theorem rs_nin : RS K (rNinA K) gNin := RS.or rs_inT rs_ninL
theorem op_inA {X : Cx} (hu : X.A.units + 65 < cLine) : OpR X (compareOp .In) (rInA X.K) := OpR.or op_in_seq (op_inD hu)
theorem op_ninA {X : Cx} (hu : X.A.units + 65 < cLine) : OpR X (compareOp .NotIn) (rNinA X.K) := OpR.or op_notIn_seq (op_notInD hu)
/-! ### dicts read -/
def keyOf : D → Option Key
  | .int i => some (.inl i)
  | .str x => some (.inr x)
  | _ => none
theorem keyOf_at {H : Hp} {v : V} {d : D} {k : Key} (h : At H v d) (e : keyOf d = some k) : v = kV k := by
  cases h <;> cases e <;> rfl
theorem keyOf_kD {d : D} {k : Key} (e : keyOf d = some k) : d = kD k := by
  cases d <;> cases e <;> rfl
def keysOf : List D → Option (List Key)
  | [] => some []
  | d :: ds => match keyOf d, keysOf ds with
    | some k, some ks => some (k :: ks)
    | _, _ => none
theorem keysOf_at {H : Hp} : ∀ {vs : List V} {ds : List D} {ks : List Key}, AtL H vs ds → keysOf ds = some ks → vs = ks.map kV ∧ ds = ks.map kD
  | _, _, _, .nil, e => by cases e; exact ⟨rfl, rfl⟩
  | _, _, ks, .cons h t, e => by
    unfold keysOf at e
    split at e
    · rename_i k ks' e1 e2
      cases e
      obtain ⟨h1, h2⟩ := keysOf_at t e2
      exact ⟨by rw [List.map_cons, keyOf_at h e1, h1], by rw [List.map_cons, keyOf_kD e1, h2]⟩
    · cases e
theorem eqv_kD (a b : Key) : PyData.eqv (kD a) (kD b) = decide (a = b) := by
  cases a with
  | inl i => cases b with
    | inl j =>
      show (i == j) = _
      by_cases h : i = j
      · subst h; simp
      · rw [decide_eq_false (fun q => h (Sum.inl.inj q))]; exact beq_eq_false_iff_ne.mpr h
    | inr y => rfl
  | inr x => cases b with
    | inl j => rfl
    | inr y =>
      show (x == y) = _
      by_cases h : x = y
      · subst h; simp
      · rw [decide_eq_false (fun q => h (Sum.inr.inj q))]; exact beq_eq_false_iff_ne.mpr h
theorem eqv_kDs : ∀ (a b : List Key), PyData.eqvAll (a.map kD) (b.map kD) = decide (a = b)
  | [], [] => rfl
  | [], _ :: _ => rfl
  | _ :: _, [] => rfl
  | x :: a, y :: b => by
    rw [List.map_cons, List.map_cons, PyData.eqvAll, eqv_kD, eqv_kDs a b]
    by_cases h : x = y <;> by_cases h' : a = b <;> simp [h, h']
def lookD (es : List (D × D)) (y : D) : Option D := (es.find? fun e => PyData.eqv e.1 y).map (·.2)
def putD (es : List (D × D)) (y z : D) : List (D × D) := if es.any (fun e => PyData.eqv e.1 y) then es.map fun e => if PyData.eqv e.1 y then (e.1, z) else e else es ++ [(y, z)]
def ReD (H : Hp) : Option V → Option D → Prop
  | some v, some d => At H v d
  | none, none => True
  | _, _ => False
theorem AtK.look {H : Hp} (k : Key) : ∀ {kvs : List (Key × V)} {es : List (D × D)}, AtK H kvs es → ReD H (valV kvs k) (lookD es (kD k))
  | _, _, .nil => trivial
  | _, _, .cons (k := k') (v := v) (d := d) (vs := vs) (ds := ds) h t => by
    have ih := AtK.look k t
    unfold valV lookD at ih ⊢
    rw [List.find?_cons, List.find?_cons]
    simp only [eqv_kD]
    by_cases e : k' = k
    · rw [decide_eq_true e]; exact h
    · rw [decide_eq_false e]; exact ih
theorem AtT.look {H : Hp} (k : List Key) : ∀ {kvs : List (List Key × V)} {es : List (D × D)}, AtT H kvs es → ReD H (valV kvs k) (lookD es (.tuple (k.map kD)))
  | _, _, .nil => trivial
  | _, _, .cons (k := k') (v := v) (d := d) (vs := vs) (ds := ds) h t => by
    have ih := AtT.look k t
    unfold valV lookD at ih ⊢
    rw [List.find?_cons, List.find?_cons]
    simp only [PyData.eqv, eqv_kDs] at ih ⊢
    by_cases e : k' = k
    · rw [decide_eq_true e]; exact h
    · rw [decide_eq_false e]; exact ih
theorem AtK.any {H : Hp} (k : Key) {kvs : List (Key × V)} {es : List (D × D)} (t : AtK H kvs es) : (es.any fun e => PyData.eqv e.1 (kD k)) = (kvs.any fun e => decide (e.1 = k)) := by
  induction kvs generalizing es with
  | nil => cases t; rfl
  | cons x xs ih =>
    cases t with
    | cons h t => rw [List.any_cons, List.any_cons, ih t]; simp only [eqv_kD]
theorem AtT.any {H : Hp} (k : List Key) {kvs : List (List Key × V)} {es : List (D × D)} (t : AtT H kvs es) : (es.any fun e => PyData.eqv e.1 (.tuple (k.map kD))) = (kvs.any fun e => decide (e.1 = k)) := by
  induction kvs generalizing es with
  | nil => cases t; rfl
  | cons x xs ih =>
    cases t with
    | cons h t => rw [List.any_cons, List.any_cons, ih t]; simp only [PyData.eqv, eqv_kDs]
theorem AtK.map {H : Hp} (k : Key) {v : V} {d : D} (hv : At H v d) : ∀ {kvs : List (Key × V)} {es : List (D × D)}, AtK H kvs es → AtK H (kvs.map fun kv => if kv.1 = k then (kv.1, v) else kv) (es.map fun e => if PyData.eqv e.1 (kD k) then (e.1, d) else e)
  | _, _, .nil => .nil
  | _, _, .cons (k := k') h t => by
    rw [List.map_cons, List.map_cons]
    have ih := AtK.map k hv t
    simp only [eqv_kD]
    by_cases e : k' = k
    · rw [if_pos e, decide_eq_true e]; exact .cons hv ih
    · rw [if_neg e, decide_eq_false e]; exact .cons h ih
theorem AtT.map {H : Hp} (k : List Key) {v : V} {d : D} (hv : At H v d) : ∀ {kvs : List (List Key × V)} {es : List (D × D)}, AtT H kvs es → AtT H (kvs.map fun kv => if kv.1 = k then (kv.1, v) else kv) (es.map fun e => if PyData.eqv e.1 (.tuple (k.map kD)) then (e.1, d) else e)
  | _, _, .nil => .nil
  | _, _, .cons (k := k') h t => by
    rw [List.map_cons, List.map_cons]
    have ih := AtT.map k hv t
    simp only [PyData.eqv, eqv_kDs]
    by_cases e : k' = k
    · rw [if_pos e, decide_eq_true e]; exact .cons hv ih
    · rw [if_neg e, decide_eq_false e]; exact .cons h ih
theorem AtK.snoc {H : Hp} {k : Key} {v : V} {d : D} (hv : At H v d) : ∀ {kvs : List (Key × V)} {es : List (D × D)}, AtK H kvs es → AtK H (kvs ++ [(k, v)]) (es ++ [(kD k, d)])
  | _, _, .nil => .cons hv .nil
  | _, _, .cons h t => .cons h (AtK.snoc hv t)
theorem AtT.snoc {H : Hp} {k : List Key} {v : V} {d : D} (hv : At H v d) : ∀ {kvs : List (List Key × V)} {es : List (D × D)}, AtT H kvs es → AtT H (kvs ++ [(k, v)]) (es ++ [(.tuple (k.map kD), d)])
  | _, _, .nil => .cons hv .nil
  | _, _, .cons h t => .cons h (AtT.snoc hv t)
theorem AtK.put {H : Hp} {k : Key} {v : V} {d : D} (hv : At H v d) {kvs : List (Key × V)} {es : List (D × D)} (t : AtK H kvs es) : AtK H (putK kvs k v) (putD es (kD k) d) := by
  unfold putK putD
  rw [AtK.any k t]
  split
  · exact AtK.map k hv t
  · exact AtK.snoc hv t
theorem AtT.put {H : Hp} {k : List Key} {v : V} {d : D} (hv : At H v d) {kvs : List (List Key × V)} {es : List (D × D)} (t : AtT H kvs es) : AtT H (putK kvs k v) (putD es (.tuple (k.map kD)) d) := by
  unfold putK putD
  rw [AtT.any k t]
  split
  · exact AtT.map k hv t
  · exact AtT.snoc hv t
theorem AtK.length {H : Hp} : ∀ {kvs : List (Key × V)} {es : List (D × D)}, AtK H kvs es → kvs.length = es.length
  | _, _, .nil => rfl
  | _, _, .cons _ t => congrArg (· + 1) (AtK.length t)
theorem AtT.length {H : Hp} : ∀ {kvs : List (List Key × V)} {es : List (D × D)}, AtT H kvs es → kvs.length = es.length
  | _, _, .nil => rfl
  | _, _, .cons _ t => congrArg (· + 1) (AtT.length t)
/-- which keys a dict may be asked for -/
def keyish (y : D) : Bool := (keyOf y).isSome || (match y with
  | .tuple ds => (keysOf ds).isSome
  | _ => false)
def gDict : D → D → Option D := fun d y => match d with
  | .dict es => if keyish y then lookD es y else none
  | _ => none
/-- a dict asked by a key of the other sort is not answered by the rules: it has then no entries -/
def kindOk (es : List (D × D)) (y : D) : Bool := es.all fun e => (keyOf e.1).isSome == (keyOf y).isSome
theorem AtT.kind {H : Hp} : ∀ {kvs : List (List Key × V)} {es : List (D × D)} {k : Key} {z : D}, AtT H kvs es → lookD es (kD k) = some z → False
  | _, _, k, z, .nil, h => by cases h
  | _, _, k, z, .cons h t, e => by
    unfold lookD at e
    rw [List.find?_cons] at e
    have q : ∀ ks : List Key, PyData.eqv (.tuple (ks.map kD)) (kD k) = false := fun ks => by cases k <;> rfl
    simp only [q] at e
    exact AtT.kind (k := k) (z := z) t e
theorem AtK.kind {H : Hp} : ∀ {kvs : List (Key × V)} {es : List (D × D)} {k : List Key} {z : D}, AtK H kvs es → lookD es (.tuple (k.map kD)) = some z → False
  | _, _, k, z, .nil, h => by cases h
  | _, _, k, z, .cons h t, e => by
    unfold lookD at e
    rw [List.find?_cons] at e
    have q : ∀ k' : Key, PyData.eqv (kD k') (.tuple (k.map kD)) = false := fun ks => by cases ks <;> rfl
    simp only [q] at e
    exact AtK.kind (k := k) (z := z) t e
def rDGet : R2 := fun x y H Q => ∃ a v, x = .ref a ∧ DGet H a y (some v) ∧ Q v H
theorem rs_dict : RS K rDGet gDict := fun S H x y d e z lv p q hz Q k => by
  unfold gDict at hz
  split at hz
  · rename_i es
    split at hz
    · rename_i hk
      unfold keyish at hk
      cases hk1 : keyOf e with
      | some ky =>
        have e1 := keyOf_at q hk1
        have e2 := keyOf_kD hk1
        subst e1
        subst e2
        cases p with
        | dk p1 p2 =>
          have r := AtK.look ky p2
          rw [hz] at r
          cases hv : valV _ ky with
          | none => rw [hv] at r; cases r
          | some v =>
            rw [hv] at r
            refine ⟨_, v, rfl, .inl ⟨_, ky, Evl.ex_rd (mask_sub _ _) p1, rfl, hv.symm⟩, k v H (Ex.refl H) r⟩
        | dt p1 p2 => exact (AtT.kind p2 hz).elim
      | none =>
        rw [hk1] at hk
        cases e with
        | tuple ds =>
          simp only [Option.isSome_none, Bool.false_or] at hk
          obtain ⟨ks, hks⟩ := Option.isSome_iff_exists.mp hk
          cases q with
          | tup q1 q2 =>
            obtain ⟨e1, e2⟩ := keysOf_at q2 hks
            subst e1
            subst e2
            cases p with
            | dk p1 p2 => exact (AtK.kind p2 hz).elim
            | dt p1 p2 =>
              have r := AtT.look ks p2
              rw [hz] at r
              cases hv : valV _ ks with
              | none => rw [hv] at r; cases r
              | some v =>
                rw [hv] at r
                exact ⟨_, v, rfl, .inr ⟨_, ks, _, Evl.ex_rd (mask_sub _ _) p1, rfl, (mask_some q1).2, hv.symm⟩, k v H (Ex.refl H) r⟩
        | _ => cases hk
    · cases hz
  · cases hz
theorem ix_dict {X : Cx} (hu : X.A.units + 1 < cLine) : IxR X rDGet := by
  intro value slice pins s σ H x y v u Q I rx ry h hs
  obtain ⟨a, w, rfl, g, q⟩ := h
  obtain rfl : v = Value.ref a := rx
  exact PyProof.Rows.tail_any (dict_typeIs I g) PySem.F.slot_dict_getitem.lookup (d_getItem hu I g ry fun w' s3 I3 rw' => ⟨w, H, I3, rw', q⟩) hs
/-! ### subscripts -/
def gIxS : D → D → Option D := fun d e => match d, e with
  | .list ds, .int i => atI ds i
  | .tuple ds, .int i => atI ds i
  | .str z, .int i => if szOk z.length then (atI z.cps.toList i).map fun c => .str ⟨#[c]⟩ else none
  | _, _ => none
theorem atI_at {H : Hp} {vs : List V} {ds : List D} {i : Int} {d : D} (h : AtL H vs ds) (e : atI ds i = some d) : ∃ v, atI vs i = some v ∧ At H v d := by
  unfold atI at e ⊢
  rw [h.length]
  cases q : ixN ds.length i with
  | none => rw [q] at e; cases e
  | some j =>
    rw [q] at e
    exact h.get e
theorem rs_ixS : RS K (rIx K) gIxS := fun S H x y d e z lv p q hz Q k => by
  unfold gIxS at hz
  split at hz
  · cases p with
    | lst p1 p2 =>
      cases q
      obtain ⟨v, h1, h2⟩ := atI_at p2 hz
      exact .inl ⟨_, _, _, v, rfl, rfl, SqL.of (mask_some p1).2, h1, k v H (Ex.refl H) h2⟩
  · cases p with
    | tup p1 p2 =>
      cases q
      obtain ⟨v, h1, h2⟩ := atI_at p2 hz
      exact .inr (.inl ⟨_, _, _, v, rfl, rfl, SqT.of (mask_some p1).2, h1, k v H (Ex.refl H) h2⟩)
  · split at hz
    · rename_i hs
      cases p
      cases q
      obtain ⟨c, h1, h2⟩ := Option.map_eq_some_iff.mp hz
      subst h2
      exact .inr (.inr ⟨_, _, c, rfl, rfl, sz_ok hs, h1, k _ H (Ex.refl H) (.str _)⟩)
    · cases hz
  · cases hz
def gIx : D → D → Option D := fun d e => (gIxS d e).or (gDict d e)
abbrev rIxA (K : PySem.W.Frag) : R2 := fun x y H Q => rIx K x y H Q ∨ rDGet x y H Q
theorem rs_ix : RS K (rIxA K) gIx := RS.or rs_ixS rs_dict
theorem ix_A {X : Cx} (hu : X.A.units + 1 < cLine) : IxR X (rIxA X.K) := ix_seq.or (ix_dict hu)
/-! ### slices -/
def cutD (ds : List D) (lo hi : Option Int) : List D := (ds.drop (HT.sIx ds.length 0 lo)).take (HT.sIx ds.length ds.length hi - HT.sIx ds.length 0 lo)
theorem cut_at {H : Hp} {vs : List V} {ds : List D} (h : AtL H vs ds) (lo hi : Option Int) : AtL H (cutV vs lo hi) (cutD ds lo hi) := by
  unfold cutV cutD
  rw [h.length]
  exact (h.drop _).take _
def gSl : D → Option Int → Option Int → Option D := fun d lo hi => match d with
  | .list ds => some (.list (cutD ds lo hi))
  | .tuple ds => some (.tuple (cutD ds lo hi))
  | _ => none
theorem SlR.or {X : Cx} {r u : V → Option Int → Option Int → Hp → VK → Prop} (h : SlR X r) (k : SlR X u) : SlR X (fun x lo hi H Q => r x lo hi H Q ∨ u x lo hi H Q) := by
  intro pins s σ H a v lo hi vl vu sl Q I rx h1 h2 h3 q
  rcases q with q | q
  · exact h pins s σ H a v lo hi vl vu sl Q I rx h1 h2 h3 q
  · exact k pins s σ H a v lo hi vl vu sl Q I rx h1 h2 h3 q
abbrev rSlA' (K : PySem.W.Frag) : V → Option Int → Option Int → Hp → VK → Prop := fun x lo hi H Q => rSlL K x lo hi H Q ∨ rSlA K x lo hi H Q
theorem sls_A : SLS K (rSlA' K) gSl := fun S H x lo hi d z lv p hz Q k => by
  unfold gSl at hz
  split at hz
  · cases hz
    cases p with
    | lst p1 p2 => exact .inl ⟨_, _, rfl, SqL.of (mask_some p1).2, fun r hr => k _ _ (Ex.new hr) (.lst (mask_new lv hr) ((cut_at p2 lo hi).mk (Ex.new hr)))⟩
  · cases hz
    cases p with
    | tup p1 p2 =>
      rename_i ds a vs
      refine .inr ⟨_, _, rfl, SqT.of (mask_some p1).2, fun w => ?_, fun _ r hr => k _ _ (Ex.new hr) (.tup (mask_new lv hr) ((cut_at p2 lo hi).mk (Ex.new hr)))⟩
      have e : cutD ds lo hi = ds := by
        unfold cutD
        rw [← p2.length, w.1, w.2, List.drop_zero, Nat.sub_zero, p2.length, List.take_length]
      exact k _ H (Ex.refl H) (by rw [e]; exact .tup p1 p2)
  · cases hz
end
end Tm

namespace Tm
open PySem L2
open Evl (Ex)

/-! ### what is walked -/
/-- the iterator J gives ds, whatever else has been made since M -/
def Yields (M : Hp) (J : It) (ds : List D) : Prop := ∀ (S : Addr → Prop) (H : Hp), Ex M (mask S H) → LvS S H → ∀ i : Nat,
  (∀ d, ds[i]? = some d → J.go i H ∧ ∀ x H2, J.yld i H x H2 → Ex H H2 ∧ At (mask S H2) x d) ∧ (i = ds.length → J.stop i H)
def EvI (K : PySem.W.Frag) (C : CA) (wi : TI) (f : SE → Option (List D)) : Prop :=
  ∀ (B : Hp) (S0 : Addr → Prop) (H : Hp) (σ : St) (env : SE) (ds : List D), EnvS K C B S0 H σ env → f env = some ds →
    ∀ R : It → Hp → Prop, (∀ J H2, Ex H H2 → Yields (mask (SS S0 σ env) H2) J ds → R J H2) → wi σ H R
structure SemI (X : Cx) (C : CA) (tg iter : Expr) (wi : TI) (f : SE → Option (List D)) : Prop where
  pi : PI X tg iter wi
  ev : EvI X.K C wi f
def lstOf : D → Option (List D)
  | .list ds => some ds
  | _ => none
def tupOf : D → Option (List D)
  | .tuple ds => some ds
  | _ => none
theorem lstOf_eq {d : D} {ds : List D} (h : lstOf d = some ds) : d = .list ds := by
  cases d <;> cases h
  rfl
theorem tupOf_eq {d : D} {ds : List D} (h : tupOf d = some ds) : d = .tuple ds := by
  cases d <;> cases h
  rfl
def iOf (g : D → Option (List D)) (f : SE → Option D) : SE → Option (List D) := fun env => match f env with
  | some d => g d
  | none => none
def enumFrom : Nat → List D → List D
  | _, [] => []
  | n, d :: ds => .tuple [.int (n : Int), d] :: enumFrom (n + 1) ds
theorem enum_len : ∀ (n : Nat) (ds : List D), (enumFrom n ds).length = ds.length
  | _, [] => rfl
  | n, _ :: ds => congrArg (· + 1) (enum_len (n + 1) ds)
theorem enum_get : ∀ (n : Nat) (ds : List D) (i : Nat) (d : D), (enumFrom n ds)[i]? = some d → ∃ z, ds[i]? = some z ∧ d = .tuple [.int ((n + i : Nat) : Int), z]
  | _, [], i, d, h => by simp [enumFrom] at h
  | n, z :: ds, 0, d, h => by
    simp [enumFrom] at h
    exact ⟨z, rfl, h.symm⟩
  | n, z :: ds, i + 1, d, h => by
    obtain ⟨z', h1, h2⟩ := enum_get (n + 1) ds i d (by simpa [enumFrom] using h)
    exact ⟨z', by simpa using h1, by rw [h2]; congr 4; omega⟩
def zipD : List D → List D → List D
  | a :: as, b :: bs => .tuple [a, b] :: zipD as bs
  | _, _ => []
theorem zip_len : ∀ (as bs : List D), (zipD as bs).length = min as.length bs.length
  | [], _ => by simp [zipD]
  | _ :: _, [] => by simp [zipD]
  | a :: as, b :: bs => by
    simp only [zipD, List.length_cons, zip_len as bs]
    omega
theorem zip_get : ∀ (as bs : List D) (i : Nat) (d : D), (zipD as bs)[i]? = some d → ∃ a b, as[i]? = some a ∧ bs[i]? = some b ∧ d = .tuple [a, b]
  | [], _, i, d, h => by simp [zipD] at h
  | _ :: _, [], i, d, h => by simp [zipD] at h
  | a :: as, b :: bs, 0, d, h => by
    simp [zipD] at h
    exact ⟨a, b, rfl, rfl, h.symm⟩
  | a :: as, b :: bs, i + 1, d, h => by
    obtain ⟨x, y, h1, h2, h3⟩ := zip_get as bs i d (by simpa [zipD] using h)
    exact ⟨x, y, by simpa using h1, by simpa using h2, h3⟩
theorem new_lv {S : Addr → Prop} {H : Hp} {T : Addr} {o : HO} (lv : Lv S H) (hT : H T = none) : mask S (upd H T o) T = some o := mask_new lv hT
section
variable {X : Cx} {C : CA} {tg e e2 : Expr} {te ta tb : TE} {t : TA} {f k : SE → Option D} {fs : SE → Option (List D)} {pos tpos p : Pos} {elts : List Expr} {kk : Nat}
theorem yl_list {K : PySem.W.Frag} {S : Addr → Prop} {H : Hp} {a : Addr} {vs : List V} {ds : List D} (h : mask S H a = some (.lst vs)) (t : AtL (mask S H) vs ds) : Yields (mask S H) (Itl K a) ds := fun S' H' e lv i => by
  have hl : SqL K H' a vs := SqL.of (mask_some (e a _ h)).2
  refine ⟨fun d hd => ?_, fun hi => ⟨vs, hl, by rw [t.length]; exact Nat.le_of_eq hi.symm⟩⟩
  obtain ⟨v, h1, h2⟩ := t.get hd
  refine ⟨⟨vs, v, hl, h1⟩, fun x H2 y => ?_⟩
  obtain ⟨e1, y⟩ := y
  subst e1
  have := y vs hl
  rw [h1] at this
  cases this
  exact ⟨Ex.refl _, h2.le (HLe.of e)⟩
theorem i_list (h : SemE X C e te f) : SemI X C tg e (iList X.K te) (iOf lstOf f) := ⟨pi_list h.pe, fun B S0 H σ env ds E hf R r => by
  unfold iOf at hf
  cases h1 : f env with
  | none => rw [h1] at hf; cases hf
  | some d =>
    rw [h1] at hf
    have hd := lstOf_eq hf
    subst hd
    refine h.ev B S0 H σ env _ E h1 _ fun v H1 e1 a1 => ?_
    cases a1 with
    | lst p1 p2 => exact ⟨_, rfl, ⟨_, SqL.of (mask_some p1).2⟩, r _ H1 e1 (yl_list p1 p2)⟩⟩
theorem yl_tup {K : PySem.W.Frag} {S : Addr → Prop} {H : Hp} {a : Addr} {vs : List V} {ds : List D} (h : mask S H a = some (.tup vs)) (t : AtL (mask S H) vs ds) : Yields (mask S H) (Itt K a) ds := fun S' H' e lv i => by
  have hl : SqT K H' a vs := SqT.of (mask_some (e a _ h)).2
  refine ⟨fun d hd => ?_, fun hi => ⟨vs, hl, by rw [t.length]; exact Nat.le_of_eq hi.symm⟩⟩
  obtain ⟨v, h1, h2⟩ := t.get hd
  refine ⟨⟨vs, v, hl, h1⟩, fun x H2 y => ?_⟩
  obtain ⟨e1, y⟩ := y
  subst e1
  have := y vs hl
  rw [h1] at this
  cases this
  exact ⟨Ex.refl _, h2.le (HLe.of e)⟩
theorem i_tup (h : SemE X C e te f) : SemI X C tg e (iTup X.K te) (iOf tupOf f) := ⟨pi_tup h.pe, fun B S0 H σ env ds E hf R r => by
  unfold iOf at hf
  cases h1 : f env with
  | none => rw [h1] at hf; cases hf
  | some d =>
    rw [h1] at hf
    have hd := tupOf_eq hf
    subst hd
    refine h.ev B S0 H σ env _ E h1 _ fun v H1 e1 a1 => ?_
    cases a1 with
    | tup p1 p2 => exact ⟨_, rfl, ⟨_, SqT.of (mask_some p1).2⟩, r _ H1 e1 (yl_tup p1 p2)⟩⟩
/-- enumerate(list) -/
def iEnumD (f : SE → Option (List D)) : SE → Option (List D) := fun env => match f env with
  | some [.list ds] => some (enumFrom 0 ds)
  | _ => none
theorem yl_enum {K : PySem.W.Frag} {S : Addr → Prop} {H : Hp} {a : Addr} {vs : List V} {ds : List D} (h : mask S H a = some (.lst vs)) (t : AtL (mask S H) vs ds) : Yields (mask S H) (Ite K a) (enumFrom 0 ds) := fun S' H' e lv i => by
  have hl : SqL K H' a vs := SqL.of (mask_some (e a _ h)).2
  refine ⟨fun d hd => ?_, fun hi => ⟨vs, hl, by rw [t.length]; rw [enum_len] at hi; exact Nat.le_of_eq hi.symm⟩⟩
  obtain ⟨z, hz, rfl⟩ := enum_get 0 ds i d hd
  obtain ⟨v, h1, h2⟩ := t.get hz
  refine ⟨⟨vs, v, hl, h1⟩, fun x H2 y => ?_⟩
  obtain ⟨T, w, rfl, hT, rfl, y⟩ := y
  have := y vs hl
  rw [h1] at this
  cases this
  refine ⟨Ex.new hT, .tup (mask_new (LvS.lv lv) hT) (.cons ?_ (.cons ((h2.le (HLe.of e)).mk (Ex.new hT)) .nil))⟩
  rw [Nat.zero_add]
  exact .int _
theorem i_enum (hg : Gl X "enumerate") (hm : X.mg "enumerate" = none) (h : SemA X C [e] t fs) (hs : starEach [e] X.env = [(false, eval e X.env)] := by rfl) :
    SemI X C (.Tuple elts kk tpos) (.Call (.Name "enumerate" p) [e] [] pos) (iEnum X.K t) (iEnumD fs) := ⟨pi_enum hg hm h.pa hs, fun B S0 H σ env ds E hf R r => by
  unfold iEnumD at hf
  split at hf
  · rename_i l h1
    cases hf
    refine h.ev B S0 H σ env _ E h1 _ fun vs H1 e1 a1 => ?_
    cases a1 with
    | cons a1 a2 =>
      cases a2
      cases a1 with
      | lst p1 p2 => exact ⟨_, _, rfl, SqL.of (mask_some p1).2, r _ H1 e1 (yl_enum p1 p2)⟩
  · cases hf⟩
/-- zip of two lists, of two tuples -/
def iZipD (f : SE → Option (List D)) : SE → Option (List D) := fun env => match f env with
  | some [.list as, .list bs] => some (zipD as bs)
  | some [.tuple as, .tuple bs] => some (zipD as bs)
  | _ => none
theorem yl_zip {K : PySem.W.Frag} {S : Addr → Prop} {H : Hp} {a b : Addr} {vs ws : List V} {ds es : List D} (h : mask S H a = some (.lst vs)) (t : AtL (mask S H) vs ds) (h' : mask S H b = some (.lst ws)) (t' : AtL (mask S H) ws es) : Yields (mask S H) (Itz K a b) (zipD ds es) := fun S' H' e lv i => by
  have hl : SqL K H' a vs := SqL.of (mask_some (e a _ h)).2
  have hl' : SqL K H' b ws := SqL.of (mask_some (e b _ h')).2
  refine ⟨fun d hd => ?_, fun hi => ⟨vs, ws, hl, hl', by rw [t.length, t'.length]; rw [zip_len] at hi; omega⟩⟩
  obtain ⟨y, z, hy, hz, rfl⟩ := zip_get ds es i d hd
  obtain ⟨v, h1, h2⟩ := t.get hy
  obtain ⟨w, h3, h4⟩ := t'.get hz
  refine ⟨⟨vs, ws, v, w, hl, hl', h1, h3⟩, fun x H2 y => ?_⟩
  obtain ⟨T, w1, w2, rfl, hT, rfl, y1, y2⟩ := y
  have e1 := y1 vs hl
  rw [h1] at e1
  cases e1
  have e2 := y2 ws hl'
  rw [h3] at e2
  cases e2
  exact ⟨Ex.new hT, .tup (mask_new (LvS.lv lv) hT) (.cons ((h2.le (HLe.of e)).mk (Ex.new hT)) (.cons ((h4.le (HLe.of e)).mk (Ex.new hT)) .nil))⟩
theorem yl_zipT {K : PySem.W.Frag} {S : Addr → Prop} {H : Hp} {a b : Addr} {vs ws : List V} {ds es : List D} (h : mask S H a = some (.tup vs)) (t : AtL (mask S H) vs ds) (h' : mask S H b = some (.tup ws)) (t' : AtL (mask S H) ws es) : Yields (mask S H) (RZ.ItzT K a b) (zipD ds es) := fun S' H' e lv i => by
  have hl : SqT K H' a vs := SqT.of (mask_some (e a _ h)).2
  have hl' : SqT K H' b ws := SqT.of (mask_some (e b _ h')).2
  refine ⟨fun d hd => ?_, fun hi => ⟨vs, ws, hl, hl', by rw [t.length, t'.length]; rw [zip_len] at hi; omega⟩⟩
  obtain ⟨y, z, hy, hz, rfl⟩ := zip_get ds es i d hd
  obtain ⟨v, h1, h2⟩ := t.get hy
  obtain ⟨w, h3, h4⟩ := t'.get hz
  refine ⟨⟨vs, ws, v, w, hl, hl', h1, h3⟩, fun x H2 y => ?_⟩
  obtain ⟨T, w1, w2, rfl, hT, rfl, y1, y2⟩ := y
  have e1 := y1 vs hl
  rw [h1] at e1
  cases e1
  have e2 := y2 ws hl'
  rw [h3] at e2
  cases e2
  exact ⟨Ex.new hT, .tup (mask_new (LvS.lv lv) hT) (.cons ((h2.le (HLe.of e)).mk (Ex.new hT)) (.cons ((h4.le (HLe.of e)).mk (Ex.new hT)) .nil))⟩
theorem i_zip (hg : Gl X "zip") (hm : X.mg "zip" = none) (ha : SemA X C [e, e2] t fs)
    (hs : starEach [e, e2] X.env = (false, eval e X.env) :: starEach [e2] X.env := by rfl) (hpl : (backTo pos (starEach [e2] X.env)).any (·.1) = false := by rfl) :
    SemI X C (.Tuple elts kk tpos) (.Call (.Name "zip" p) [e, e2] [] pos) (RZ.iZipA X.K t) (iZipD fs) := ⟨RZ.pi_zipA hg hm ha.pa hs hpl, fun B S0 H σ env ds E hf R r => by
  unfold iZipD at hf
  split at hf
  · rename_i as bs h1
    cases hf
    refine ha.ev B S0 H σ env _ E h1 _ fun vs H1 e1 a1 => ?_
    cases a1 with
    | cons a1 a2 => cases a2 with
      | cons a2 a3 =>
        cases a3
        cases a1 with
        | lst p1 p2 => cases a2 with
          | lst p3 p4 => exact ⟨_, _, _, _, rfl, .inl ⟨SqL.of (mask_some p1).2, SqL.of (mask_some p3).2, r _ H1 e1 (yl_zip p1 p2 p3 p4)⟩⟩
  · rename_i as bs h1
    cases hf
    refine ha.ev B S0 H σ env _ E h1 _ fun vs H1 e1 a1 => ?_
    cases a1 with
    | cons a1 a2 => cases a2 with
      | cons a2 a3 =>
        cases a3
        cases a1 with
        | tup p1 p2 => cases a2 with
          | tup p3 p4 => exact ⟨_, _, _, _, rfl, .inr ⟨SqT.of (mask_some p1).2, SqT.of (mask_some p3).2, r _ H1 e1 (yl_zipT p1 p2 p3 p4)⟩⟩
  · cases hf⟩
/-- range(n) -/
def upto (n : Nat) : List D := (List.range n).map fun (i : Nat) => PyData.int (i : Int)
def iRange1 (f : SE → Option (List D)) : SE → Option (List D) := fun env => match f env with
  | some [.int n] => if decide (0 ≤ n ∧ n ≤ 100000) then some (upto n.toNat) else none
  | _ => none
theorem yl_range {M : Hp} {n : Nat} : Yields M (Itr 0 n) (upto n) := fun S' H' e lv i => by
  refine ⟨fun d hd => ?_, fun hi => (show n ≤ i by unfold upto at hi; simp at hi; omega)⟩
  unfold upto at hd
  rw [List.getElem?_map] at hd
  obtain ⟨j, h1, h2⟩ := Option.map_eq_some_iff.mp hd
  obtain ⟨h3, h4⟩ := List.getElem?_eq_some_iff.mp h1
  simp at h3 h4
  subst h4
  refine ⟨h3, fun x H2 y => ?_⟩
  obtain ⟨e1, e2⟩ := y
  subst e1
  subst e2
  rw [← h2, Int.zero_add]
  exact ⟨Ex.refl _, .int _⟩
theorem i_range1 (hg : Gl X "range") (hm : X.mg "range" = none) (h : SemA X C [e] t fs) (hs : starEach [e] X.env = [(false, eval e X.env)] := by rfl) :
    SemI X C tg (.Call (.Name "range" p) [e] [] pos) (iRng1 t) (iRange1 fs) := ⟨pi_range1 hg hm h.pa hs, fun B S0 H σ env ds E hf R r => by
  unfold iRange1 at hf
  split at hf
  · rename_i n h1
    split at hf
    · rename_i hn
      have hn' : 0 ≤ n ∧ n ≤ 100000 := of_decide_eq_true hn
      cases hf
      refine h.ev B S0 H σ env _ E h1 _ fun vs H1 e1 a1 => ?_
      cases a1 with
      | cons a1 a2 =>
        cases a2
        cases a1
        exact ⟨n, rfl, by omega, by omega, r _ H1 e1 yl_range⟩
    · cases hf
  · cases hf⟩
end
end Tm

namespace Tm
open PySem L2
open Evl (Ex)

/-! ### targets -/
structure SemG (X : Cx) (C : CA) (tg : Expr) (g : TG) (ts : List Nat) (a : D → SE → Option SE) : Prop where
  pg : PG X tg g
  ev : ∀ (B : Hp) (S0 : Addr → Prop) (H : Hp) (σ : St) (env env' : SE) (x : V) (d : D), EnvS X.K C B S0 H σ env → At (mask (SS S0 σ env) H) x d → a d env = some env' →
    ∀ Q : St → Hp → Prop, (∀ σ' H', EnvS X.K C B S0 H' σ' env' → HLe (mask (SS S0 σ env) H) (mask (SS S0 σ' env') H') → (∀ j, j ∉ ts → σ'[j]? = σ[j]? ∧ env'[j]? = env[j]?) → σ'.length = σ.length → Ex H H' → Q σ' H') → g x σ H Q
structure SemGs (X : Cx) (C : CA) (tg : List Expr) (g : TGs) (ts : List Nat) (a : List D → SE → Option SE) : Prop where
  pg : PGs X tg g
  ev : ∀ (B : Hp) (S0 : Addr → Prop) (H : Hp) (σ : St) (env env' : SE) (xs : List V) (ds : List D), EnvS X.K C B S0 H σ env → AtL (mask (SS S0 σ env) H) xs ds → a ds env = some env' →
    ∀ Q : St → Hp → Prop, (∀ σ' H', EnvS X.K C B S0 H' σ' env' → HLe (mask (SS S0 σ env) H) (mask (SS S0 σ' env') H') → (∀ j, j ∉ ts → σ'[j]? = σ[j]? ∧ env'[j]? = env[j]?) → σ'.length = σ.length → Ex H H' → Q σ' H') → g xs σ H Q
def aName (i : Nat) : D → SE → Option SE := fun d env => some (env.set i (.pu d))
def gsNil : List D → SE → Option SE := fun ds env => match ds with
  | [] => some env
  | _ => none
def gsCons (a : D → SE → Option SE) (b : List D → SE → Option SE) : List D → SE → Option SE := fun ds env => match ds with
  | d :: r => (match a d env with
    | some env' => b r env'
    | none => none)
  | [] => none
def aTup (n : Nat) (b : List D → SE → Option SE) : D → SE → Option SE := fun d env => match d with
  | .tuple ds => if ds.length == n then b ds env else none
  | _ => none
section
variable {X : Cx} {C : CA} {tg e : Expr} {g : TG} {gs : TGs} {ts us : List Nat} {a : D → SE → Option SE} {b : List D → SE → Option SE} {pos : Pos} {es : List Expr} {k : Nat}
theorem g_name {x : Str} {pos : Pos} (i : Nat) (h : PG X (.Name x pos) (gName i)) : SemG X C (.Name x pos) (gName i) [i] (aName i) := ⟨h, fun B S0 H σ env env' x d E hx ha Q q => by
  cases ha
  refine q _ H (E.set hx) (HLe.of (mask_ex fun a o h1 h2 => ⟨fun z => h1 (z.imp id fun z => z.set_pu rfl), h2⟩)) (fun j hj => ?_) (by rw [List.length_set]) (Ex.refl H)
  have : i ≠ j := fun z => hj (by simp [z])
  rw [List.getElem?_set_ne this, List.getElem?_set_ne this]
  exact ⟨rfl, rfl⟩⟩
theorem gs_nil : SemGs X C [] gNil [] gsNil := ⟨pgs_nil, fun B S0 H σ env env' x d E hx ha Q q => by
  unfold gsNil at ha
  split at ha
  · cases ha
    cases hx
    exact ⟨rfl, q σ H E (HLe.refl _) (fun _ _ => ⟨rfl, rfl⟩) rfl (Ex.refl H)⟩
  · cases ha⟩
theorem gs_cons (h1 : SemG X C e g ts a) (h2 : SemGs X C es gs us b) (hs : (assignEach (e :: es) X.env).map (·.2) = assign e X.env :: (assignEach es X.env).map (·.2) := by rfl) : SemGs X C (e :: es) (gCons g gs) (ts ++ us) (gsCons a b) :=
  ⟨pgs_cons h1.pg h2.pg hs, fun B S0 H σ env env' xs ds E hx ha Q q => by
  unfold gsCons at ha
  cases hx with
  | nil => cases ha
  | cons h t =>
    rename_i v d vs ds
    cases hd : a d env with
    | none => simp only [hd] at ha; cases ha
    | some env1 =>
      simp only [hd] at ha
      refine ⟨v, vs, rfl, ?_⟩
      refine h1.ev B S0 H σ env env1 v d E h hd _ fun σ1 H1 E1 le1 k1 l1 x1 => ?_
      refine h2.ev B S0 H1 σ1 env1 env' vs ds E1 (t.le le1) ha _ fun σ2 H2 E2 le2 k2 l2 x2 => ?_
      refine q σ2 H2 E2 (le1.trans le2) (fun j hj => ?_) (l2.trans l1) (x1.trans x2)
      rw [List.mem_append, not_or] at hj
      exact ⟨(k2 j hj.2).1.trans (k1 j hj.1).1, (k2 j hj.2).2.trans (k1 j hj.1).2⟩⟩
theorem g_tup {n : Nat} (hc : X.calm = true) (h : SemGs X C es gs ts b)
    (hn : (assignEach es X.env).length = n := by rfl) (hst : (assignEach es X.env).findIdx? (·.1) = none := by rfl) : SemG X C (.Tuple es k pos) (gTup X.K n gs) ts (aTup n b) := ⟨pg_tup hc h.pg hn hst, fun B S0 H σ env env' x d E hx ha Q q => by
  unfold aTup at ha
  split at ha
  · rename_i ds
    split at ha
    · rename_i hl
      cases hx with
      | tup p1 p2 =>
        refine ⟨_, _, rfl, SqT.of (mask_some p1).2, by rw [p2.length]; exact eq_of_beq hl, ?_⟩
        exact h.ev B S0 H σ env env' _ ds E p2 ha _ fun σ2 H2 E2 le2 k2 l2 x2 => q σ2 H2 E2 le2 k2 l2 x2
    · cases ha
  · cases ha⟩
end

/-! ### statements -/
inductive Out where
  | next (env : SE) | brk (env : SE) | cont (env : SE) | ret (d : D) | rets (d : D) (env : SE)
def Post (K : PySem.W.Frag) (C : CA) (D : Ends) (B : Hp) (S0 : Addr → Prop) : Out → Prop
  | .next env => ∀ σ H, EnvS K C B S0 H σ env → D.nx σ H
  | .brk env => ∀ σ H, EnvS K C B S0 H σ env → D.bk σ H
  | .cont env => ∀ σ H, EnvS K C B S0 H σ env → D.ct σ H
  | .ret d => ∀ v H, Ex B H → At (mask S0 H) v d → D.rt v H
  | .rets d env => ∀ v σ H, EnvS K C B S0 H σ env → At (mask (SS S0 σ env) H) v d → D.rt v H
def EvS (K : PySem.W.Frag) (C : CA) (t : TS) (F : SE → Option Out) : Prop :=
  ∀ (D : Ends) (B : Hp) (S0 : Addr → Prop) (H : Hp) (σ : St) (env : SE) (o : Out), EnvS K C B S0 H σ env → F env = some o → Post K C D B S0 o → t D σ H
structure SemS (X : Cx) (C : CA) (st : Stmt) (t : TS) (F : SE → Option Out) : Prop where
  ps : PS X st t
  ev : EvS X.K C t F
structure SemSs (X : Cx) (C : CA) (st : List Stmt) (t : TS) (F : SE → Option Out) : Prop where
  ps : PSs X st t
  ev : EvS X.K C t F
def cNext : SE → Option Out := fun env => some (.next env)
def cSeq (F G : SE → Option Out) : SE → Option Out := fun env => match F env with
  | some (.next e) => G e
  | o => o
def cAsg (f : SE → Option D) (a : D → SE → Option SE) : SE → Option Out := fun env => match f env with
  | some d => (match a d env with
    | some e => some (.next e)
    | none => none)
  | none => none
def cDrop (f : SE → Option D) : SE → Option Out := fun env => match f env with
  | some _ => some (.next env)
  | none => none
def cRet (f : SE → Option D) : SE → Option Out := fun env => match f env with
  | some d => some (.ret d)
  | none => none
def cIf (c : SE → Option Bool) (F G : SE → Option Out) : SE → Option Out := fun env => match c env with
  | some true => F env
  | some false => G env
  | none => none
def cNever : SE → Option Out := fun _ => none
/-- all that is ours becomes data -/
def proAll (env : SE) : SE := env.map proD
def noMo (env : SE) : Bool := env.all fun s => match s with
  | .mo _ => false
  | _ => true
def cPro (F : SE → Option Out) : SE → Option Out := fun env => if noMo env then F (proAll env) else none
def cPro1 (i : Nat) (F : SE → Option Out) : SE → Option Out := fun env => match env[i]? with
  | some s => if proOk s then F (env.set i (proD s)) else none
  | none => none
def forRun (a : D → SE → Option SE) (F : SE → Option Out) : List D → SE → Option Out
  | [], env => some (.next env)
  | d :: ds, env => match a d env with
    | none => none
    | some e => (match F e with
      | some (.next e) => forRun a F ds e
      | some (.cont e) => forRun a F ds e
      | some (.brk e) => some (.next e)
      | some (.ret d) => some (.ret d)
      | some (.rets d e) => some (.rets d e)
      | none => none)
def cFor (fi : SE → Option (List D)) (a : D → SE → Option SE) (F : SE → Option Out) : SE → Option Out := fun env => match fi env with
  | some ds => forRun a F ds env
  | none => none
section
variable {K : PySem.W.Frag} {C : CA} {B : Hp} {S0 : Addr → Prop} {H : Hp} {σ : St} {env : SE}
theorem EnvS.proN (E : EnvS K C B S0 H σ env) (hm : noMo env = true) : ∀ n, EnvS K C B S0 H σ ((env.take n).map proD ++ env.drop n)
  | 0 => by simpa using E
  | n + 1 => by
    have ih := E.proN hm n
    by_cases hn : n < env.length
    · have e1 : (env.take (n + 1)).map proD ++ env.drop (n + 1) = ((env.take n).map proD ++ env.drop n).set n (proD env[n]) := by
        have hl : ((env.take n).map proD).length = n := by simp; omega
        rw [List.set_append_right _ _ (by omega), hl, Nat.sub_self, List.drop_eq_getElem_cons hn, List.set_cons_zero, List.take_succ_eq_append_getElem hn, List.map_append, List.append_assoc]
        rfl
      rw [e1]
      have e2 : ((env.take n).map proD ++ env.drop n)[n]? = some env[n] := by
        have hl : ((env.take n).map proD).length = n := by simp; omega
        rw [List.getElem?_append_right (by omega), hl, Nat.sub_self, List.drop_eq_getElem_cons hn]
        rfl
      by_cases hp : proOk env[n] = true
      · exact ih.pro e2 hp
      · have e3 : proD env[n] = env[n] := by
          have hmo : (match env[n] with | .mo _ => false | _ => true) = true := List.all_eq_true.mp hm _ (List.getElem_mem hn)
          cases hc : env[n] <;> rw [hc] at hp <;> first | rfl | exact absurd rfl hp
        rw [e3]
        have e4 : ((env.take n).map proD ++ env.drop n).set n env[n] = (env.take n).map proD ++ env.drop n := by
          obtain ⟨h1, h2⟩ := List.getElem?_eq_some_iff.mp e2
          conv => lhs; rw [← h2]
          exact List.set_getElem_self h1
        rw [e4]
        exact ih
    · have e1 : env.take (n + 1) = env.take n := by rw [List.take_of_length_le (by omega), List.take_of_length_le (by omega)]
      have e2 : env.drop (n + 1) = env.drop n := by rw [List.drop_of_length_le (by omega), List.drop_of_length_le (by omega)]
      rw [e1, e2]
      exact ih
theorem EnvS.proA (E : EnvS K C B S0 H σ env) (hm : noMo env = true) : EnvS K C B S0 H σ (proAll env) := by
  have h := E.proN hm env.length
  rw [List.take_length, List.drop_length, List.append_nil] at h
  exact h
theorem proAll_own {env : SE} (hm : noMo env = true) : ∀ p, ¬ Own σ (proAll env) p := fun p ⟨i, s, e1, e2, _⟩ => by
  unfold proAll at e1
  rw [List.getElem?_map] at e1
  obtain ⟨s', h1, h2⟩ := Option.map_eq_some_iff.mp e1
  subst h2
  obtain ⟨h3, h4⟩ := List.getElem?_eq_some_iff.mp h1
  have hmo := List.all_eq_true.mp hm s' (by rw [← h4]; exact List.getElem_mem h3)
  cases s' <;> first | (cases e2; done) | (cases hmo; done)
end
section
variable {X : Cx} {C : CA} {st : Stmt} {rest : List Stmt} {t u : TS} {F G : SE → Option Out} {e tg : Expr} {te : TE} {g : TG} {ts : List Nat} {f : SE → Option D} {a : D → SE → Option SE} {pos : Pos} {tc : TT} {c : Expr} {fb : SE → Option Bool}
theorem ss_nil : SemSs X C [] tNext cNext := ⟨pss_nil, fun D B S0 H σ env o E hf P => by
  cases hf
  exact P σ H E⟩
theorem ss_cons (h1 : SemS X C st t F) (h2 : SemSs X C rest u G) : SemSs X C (st :: rest) (tSeq t u) (cSeq F G) := ⟨pss_cons h1.ps h2.ps, fun D B S0 H σ env o E hf P => by
  unfold cSeq at hf
  show t { D with nx := u D } σ H
  cases h : F env with
  | none => rw [h] at hf; cases hf
  | some w =>
    rw [h] at hf
    cases w with
    | next e => exact h1.ev _ B S0 H σ env _ E h fun σ' H' E' => h2.ev D B S0 H' σ' e o E' hf P
    | brk e =>
      cases hf
      exact h1.ev _ B S0 H σ env _ E h P
    | cont e =>
      cases hf
      exact h1.ev _ B S0 H σ env _ E h P
    | ret d =>
      cases hf
      exact h1.ev _ B S0 H σ env _ E h P
    | rets d e =>
      cases hf
      exact h1.ev _ B S0 H σ env _ E h P⟩
theorem ss_one (h1 : SemS X C st t F) : SemSs X C [st] t F := ⟨pss_one h1.ps, h1.ev⟩
theorem st_asg (he : SemE X C e te f) (hg : SemG X C tg g ts a) (hs : swapsWithSole [tg] e pos.line X.env = pure false := by rfl) (hw : swappedStores [tg] e X.env = pure none := by rfl)
    (h1 : (assignEach [tg] X.env).map (·.2) = [assign tg X.env] := by rfl) : SemS X C (.Assign [tg] e pos) (tAsg te g) (cAsg f a) := ⟨ps_asg he.pe hg.pg hs hw h1, fun D B S0 H σ env o E hf P => by
  unfold cAsg at hf
  cases h : f env with
  | none => rw [h] at hf; cases hf
  | some d =>
    simp only [h] at hf
    cases h' : a d env with
    | none => rw [h'] at hf; cases hf
    | some env' =>
      rw [h'] at hf
      cases hf
      exact he.ev B S0 H σ env d E h _ fun v H1 e1 a1 => hg.ev B S0 H1 σ env env' v d (E.ext e1) a1 h' _ fun σ2 H2 E2 _ _ _ _ => P σ2 H2 E2⟩
theorem st_expr (he : SemE X C e te f) (hs : swapsWith e none pos.line X.env = pure false := by rfl) : SemS X C (.Expr e pos) (tDrop te) (cDrop f) := ⟨ps_expr he.pe hs, fun D B S0 H σ env o E hf P => by
  unfold cDrop at hf
  cases h : f env with
  | none => rw [h] at hf; cases hf
  | some d =>
    rw [h] at hf
    cases hf
    exact he.ev B S0 H σ env d E h _ fun v H1 e1 a1 => P σ H1 (E.ext e1)⟩
theorem EvS.pro {K : PySem.W.Frag} (h : EvS K C t F) : EvS K C t (cPro F) := fun D B S0 H σ env o E hf P => by
  unfold cPro at hf
  split at hf
  · rename_i hm
    exact h D B S0 H σ _ o (E.proA hm) hf P
  · cases hf
theorem EvS.pro1 {K : PySem.W.Frag} (i : Nat) (h : EvS K C t F) : EvS K C t (cPro1 i F) := fun D B S0 H σ env o E hf P => by
  unfold cPro1 at hf
  cases hi : env[i]? with
  | none => simp only [hi] at hf; cases hf
  | some s =>
    simp only [hi] at hf
    split at hf
    · rename_i hp
      exact h D B S0 H σ _ o (E.pro hi hp) hf P
    · cases hf
theorem SemS.pro1 (i : Nat) (h : SemS X C st t F) : SemS X C st t (cPro1 i F) := ⟨h.ps, h.ev.pro1 i⟩
theorem ev_ret {K : PySem.W.Frag} (he : EvE K C te f) : EvS K C (tRet te) (cPro (cRet f)) := fun D B S0 H σ env o E hf P => by
  unfold cPro at hf
  split at hf
  · rename_i hm
    unfold cRet at hf
    cases h : f (proAll env) with
    | none => rw [h] at hf; cases hf
    | some d =>
      rw [h] at hf
      cases hf
      refine he B S0 H σ _ d (E.proA hm) h _ fun v H1 e1 a1 => P v H1 ((E.ext e1).base) (a1.le (HLe.of (mask_ex fun a o h1 h2 => ⟨fun z => h1 (.inl z), h2⟩)))
  · cases hf
theorem st_ret (he : SemE X C e te f) : SemS X C (.Return (some e) pos) (tRet te) (cPro (cRet f)) := ⟨ps_ret he.pe, ev_ret he.ev⟩
theorem st_if {p q : List Stmt} (hc : SemT X C c tc fb) (ha : SemSs X C p t F) (hb : SemSs X C q u G) : SemS X C (.If c p q pos) (tIfS tc t u) (cIf fb F G) := ⟨ps_if hc.pt ha.ps hb.ps, fun D B S0 H σ env o E hf P => by
  unfold cIf at hf
  split at hf
  · rename_i h
    exact hc.ev B S0 H σ env _ E h _ fun H1 e1 => iteT (ha.ev D B S0 H1 σ env o (E.ext e1) hf P)
  · rename_i h
    exact hc.ev B S0 H σ env _ E h _ fun H1 e1 => iteF (hb.ev D B S0 H1 σ env o (E.ext e1) hf P)
  · cases hf⟩
theorem st_never : SemS X C st tNever cNever := ⟨ps_never, fun D B S0 H σ env o E hf P => by cases hf⟩
theorem ss_never {sts : List Stmt} : SemSs X C sts tNever cNever := ⟨pss_never, fun D B S0 H σ env o E hf P => by cases hf⟩
/-! ### for -/
theorem ev_for1 {K : PySem.W.Frag} {wi : TI} {D : Ends} {B : Hp} {S0 : Addr → Prop} {H : Hp} {σ : St} {env : SE} {o : Out} {ds : List PyData} (E : EnvS K C B S0 H σ env)
    (hi : ∀ R : It → Hp → Prop, (∀ J H2, Ex H H2 → Yields (mask (SS S0 σ env) H2) J ds → R J H2) → wi σ H R)
    (hg : ∀ (B : Hp) (S0 : Addr → Prop) (H : Hp) (σ : St) (env env' : SE) (x : V) (d : PyData), EnvS K C B S0 H σ env → At (mask (SS S0 σ env) H) x d → a d env = some env' → ∀ Q : St → Hp → Prop, (∀ σ' H', EnvS K C B S0 H' σ' env' → Q σ' H') → g x σ H Q)
    (hb : EvS K C t F) (hf : forRun a F ds env = some o) (P : Post K C D B S0 o) : tFor wi g t D σ H := by
  show wi σ H _
  refine hi _ fun J H2 e2 Y => ?_
  have E2 := E.ext e2
  let B' := mask (Own σ env) H2
  have EB : Ex B B' := E2.le_base
  have back : ∀ {σ' H' env'}, EnvS K C B' S0 H' σ' env' → EnvS K C B S0 H' σ' env' := fun E' => E'.unbase EB E.live
  refine ⟨fun i m σ' H' => ∃ env', m = ds.length - i ∧ i ≤ ds.length ∧ EnvS K C B' S0 H' σ' env' ∧ forRun a F (ds.drop i) env' = some o, ⟨ds.length, env, rfl, Nat.zero_le _, E2.rebase, by rw [List.drop_zero]; exact hf⟩, ?_⟩
  rintro i m σ' H' ⟨env', rfl, hi, E', hr⟩
  have hM : Ex (mask (SS S0 σ env) H2) (mask (SS S0 σ' env') H') := mask_ex fun x o h1 h2 => by
    have hB : B' x = some o := by
      show mask (Own σ env) H2 x = some o
      rw [mask_out fun z => h1 (.inr z)]
      exact h2
    exact ⟨fun z => z.elim (fun z => h1 (.inl z)) (E'.nown x o hB), E'.base x o hB⟩
  obtain ⟨y1, y2⟩ := Y (SS S0 σ' env') H' hM E'.lv i
  by_cases hlt : i < ds.length
  · rw [List.drop_eq_getElem_cons hlt] at hr
    unfold forRun at hr
    obtain ⟨hgo, hy⟩ := y1 ds[i] (List.getElem?_eq_getElem hlt)
    cases ha : a ds[i] env' with
    | none => simp only [ha] at hr; cases hr
    | some env1 =>
      simp only [ha] at hr
      cases hF : F env1 with
      | none => simp only [hF] at hr; cases hr
      | some w =>
        simp only [hF] at hr
        refine .inr ⟨hgo, fun σ2 H2 => ∃ env2, EnvS K C B' S0 H2 σ2 env2 ∧ forRun a F (ds.drop (i + 1)) env2 = some o, fun σ2 H2 ⟨env2, E3, r3⟩ => ⟨ds.length - (i + 1), by omega, env2, rfl, hlt, E3, r3⟩, fun x H3 hx => ?_⟩
        obtain ⟨ex, ax⟩ := hy x H3 hx
        refine hg B' S0 H3 σ' env' env1 x ds[i] (E'.ext ex) ax ha _ fun σ4 H4 E4 => ?_
        cases w with
        | next e4 => exact hb _ B' S0 H4 σ4 env1 _ E4 hF fun σ5 H5 E5 => ⟨e4, E5, hr⟩
        | cont e4 => exact hb _ B' S0 H4 σ4 env1 _ E4 hF fun σ5 H5 E5 => ⟨e4, E5, hr⟩
        | brk e4 =>
          cases hr
          exact hb _ B' S0 H4 σ4 env1 _ E4 hF fun σ5 H5 E5 => P σ5 H5 (back E5)
        | ret d =>
          cases hr
          exact hb _ B' S0 H4 σ4 env1 _ E4 hF fun v H5 e5 a5 => P v H5 (EB.trans e5) a5
        | rets d e4 =>
          cases hr
          exact hb _ B' S0 H4 σ4 env1 _ E4 hF fun v σ5 H5 E5 a5 => P v σ5 H5 (back E5) a5
  · have hi' : i = ds.length := by omega
    subst hi'
    rw [List.drop_length] at hr
    unfold forRun at hr
    cases hr
    exact .inl ⟨y2 rfl, P σ' H' (back E')⟩
theorem ev_for {K : PySem.W.Frag} {wi : TI} {fi : SE → Option (List D)} (hi : EvI K C wi fi)
    (hg : ∀ (B : Hp) (S0 : Addr → Prop) (H : Hp) (σ : St) (env env' : SE) (x : V) (d : D), EnvS K C B S0 H σ env → At (mask (SS S0 σ env) H) x d → a d env = some env' → ∀ Q : St → Hp → Prop, (∀ σ' H', EnvS K C B S0 H' σ' env' → Q σ' H') → g x σ H Q)
    (hb : EvS K C t F) : EvS K C (tFor wi g t) (cFor fi a F) := fun D B S0 H σ env o E hf P => by
  unfold cFor at hf
  cases h : fi env with
  | none => rw [h] at hf; cases hf
  | some ds =>
    simp only [h] at hf
    exact ev_for1 E (hi B S0 H σ env ds E h) hg hb hf P
theorem st_for {iter : Expr} {body : List Stmt} {wi : TI} {fi : SE → Option (List D)} (hp : PassesOwn (model X.prog X.w) X.A X.env X.xe) (hc : X.calm = true) (hi : SemI X C tg iter wi fi) (hg : SemG X C tg g ts a) (hb : SemSs X C body t F)
    (hs : ∀ x, foldedSetIterable iter X.env x = pure x := by intro _; rfl) : SemS X C (.For tg iter body [] pos) (tFor wi g t) (cFor fi a F) :=
  ⟨ps_for hp hc hi.pi hg.pg hb.ps hs, ev_for hi.ev (fun B S0 H σ env env' x d E hx ha Q q => hg.ev B S0 H σ env env' x d E hx ha Q fun σ' H' E' _ _ _ _ => q σ' H' E') hb.ev⟩
end
end Tm

namespace Tm
open PySem L2
open Evl (Ex)

/-! ### comprehensions -/
def wipeE (env : SE) : List Nat → SE
  | [] => env
  | v :: vs => (wipeE env vs).set v .un
def notOw (env : SE) (vs : List Nat) : Bool := vs.all fun v => match env[v]? with
  | some s => !isOw s
  | none => true
def lcRun (vs : List Nat) (a : D → SE → Option SE) (ft : SE → Option Bool) (fe : SE → Option D) (env : SE) : List D → Option (List D)
  | [] => some []
  | d :: ds => match a d (wipeE env vs) with
    | none => none
    | some e => (match ft e with
      | none => none
      | some false => lcRun vs a ft fe env ds
      | some true => (match fe e with
        | none => none
        | some x => (match lcRun vs a ft fe env ds with
          | none => none
          | some r => some (x :: r))))
def eLc (vs : List Nat) (fi : SE → Option (List D)) (a : D → SE → Option SE) (ft : SE → Option Bool) (fe : SE → Option D) : SE → Option D := fun env =>
  if notOw env vs then (match fi env with
    | some ds => if szOk ds.length then (match lcRun vs a ft fe env ds with
      | some r => some (.list r)
      | none => none) else none
    | none => none) else none
structure SemTs (X : Cx) (C : CA) (ifs : List Expr) (t : TT) (f : SE → Option Bool) : Prop where
  pt : PTs X ifs t
  ev : EvT X.K C t f
theorem ts_nil {X : Cx} {C : CA} : SemTs X C [] tYes (fun _ => some true) := ⟨pts_nil, fun B S0 H σ env b E hf Q q => by
  cases hf
  exact q H (Ex.refl H)⟩
theorem ts_one {X : Cx} {C : CA} {c : Expr} {t : TT} {f : SE → Option Bool} (h : SemT X C c t f) : SemTs X C [c] t f := ⟨pts_one h.pt, h.ev⟩
theorem wipe_at {σ : St} : ∀ {vs : List Nat} {j : Nat}, j ∉ vs → (wipe σ vs)[j]? = σ[j]?
  | [], _, _ => rfl
  | v :: vs, j, h => by
    rw [List.mem_cons, not_or] at h
    unfold wipe
    rw [List.getElem?_set_ne (fun z => h.1 z.symm)]
    exact wipe_at h.2
theorem wipeE_at {env : SE} : ∀ {vs : List Nat} {j : Nat}, j ∉ vs → (wipeE env vs)[j]? = env[j]?
  | [], _, _ => rfl
  | v :: vs, j, h => by
    rw [List.mem_cons, not_or] at h
    unfold wipeE
    rw [List.getElem?_set_ne (fun z => h.1 z.symm)]
    exact wipeE_at h.2
theorem wipe_in {σ : St} : ∀ {vs : List Nat} {j : Nat}, j ∈ vs → j < σ.length → (wipe σ vs)[j]? = some none
  | v :: vs, j, h, hl => by
    unfold wipe
    by_cases e : v = j
    · subst e
      exact List.getElem?_set_self (by rw [wipe_length]; exact hl)
    · rw [List.getElem?_set_ne e]
      exact wipe_in ((List.mem_cons.mp h).resolve_left (fun z => e z.symm)) hl
theorem wipe_same {σ σ2 : St} {vs : List Nat} (hl : σ2.length = σ.length) (h : ∀ j, j ∉ vs → σ2[j]? = σ[j]?) : wipe σ2 vs = wipe σ vs := by
  apply List.ext_getElem?
  intro j
  by_cases hj : j ∈ vs
  · by_cases hj2 : j < σ.length
    · rw [wipe_in hj hj2, wipe_in hj (by omega)]
    · rw [List.getElem?_eq_none (by rw [wipe_length]; omega), List.getElem?_eq_none (by rw [wipe_length]; omega)]
  · rw [wipe_at hj, wipe_at hj, h j hj]
section
variable {K : PySem.W.Frag} {C : CA} {B : Hp} {S0 : Addr → Prop} {H H' : Hp} {σ : St} {env : SE}
theorem EnvS.wipe (E : EnvS K C B S0 H σ env) : ∀ vs : List Nat, EnvS K C B S0 H (L2.wipe σ vs) (wipeE env vs)
  | [] => E
  | v :: vs => (E.wipe vs).drop
/-- a list made meanwhile is none of ours -/
theorem EnvS.foreign (E : EnvS K C B S0 H σ env) {p : Addr} {xs : List V} (hp : H p = none) (e : Ex H H') (hp' : H' p = some (.lst xs)) : EnvS K C (mask (Own σ env) H') (fun q => S0 q ∨ q = p) H' σ env := by
  have no : ¬ Own σ env p := fun z => by
    obtain ⟨o, h, _⟩ := E.own z
    rw [hp] at h
    cases h
  have E' := (E.ext e).rebase
  have le : HLe (mask (SS S0 σ env) H) (mask (SS (fun q => S0 q ∨ q = p) σ env) H') := HLe.of (mask_ex fun a o h1 h2 => ⟨fun z => by
    rcases z with (z | z) | z
    · exact h1 (.inl z)
    · subst z
      rw [hp] at h2
      cases h2
    · exact h1 (.inr z), e a o h2⟩)
  refine ⟨E.len, mask_sub _ _, fun a o h => (mask_some h).1, fun q h => ?_, fun i s h => ?_, E.inj⟩
  · rcases h with h | h
    · exact E'.live q h
    · subst h
      exact ⟨.lst xs, by rw [mask_out no]; exact hp', fun _ z => (nomatch z), fun _ _ z => (nomatch z)⟩
  · refine (E.slot i s h).le le fun q ho hq => ?_
    obtain ⟨o, e1, _⟩ := E.own ⟨i, s, h, ho, hq⟩
    rw [e1, e q o e1]
end
section
variable {X : Cx} {C : CA} {elt tg iter : Expr} {ifs : List Expr} {scope : Scope} {own : List (Str × Nat)} {pos : Pos} {wi : TI} {g : TG} {tt : TT} {te : TE} {ts : List Nat} {fi : SE → Option (List D)} {a : D → SE → Option SE} {ft : SE → Option Bool} {fe : SE → Option D}
theorem ev_lc {vs : List Nat} (hi : EvI X.K C wi fi)
    (hg : ∀ (B : Hp) (S0 : Addr → Prop) (H : Hp) (σ : St) (env env' : SE) (x : V) (d : D), EnvS X.K C B S0 H σ env → At (mask (SS S0 σ env) H) x d → a d env = some env' →
      ∀ Q : St → Hp → Prop, (∀ σ' H', EnvS X.K C B S0 H' σ' env' → (∀ j, j ∉ ts → σ'[j]? = σ[j]? ∧ env'[j]? = env[j]?) → σ'.length = σ.length → Ex H H' → Q σ' H') → g x σ H Q)
    (hv : ∀ i ∈ ts, i ∈ vs) (ht : EvT X.K C tt ft) (he : EvE X.K C te fe) : EvE X.K C (tLc wi g tt te vs) (eLc vs fi a ft fe) := fun B S0 H σ env d E hf Q q => by
  unfold eLc at hf
  split at hf
  case isFalse => cases hf
  rename_i hno
  cases h : fi env with
  | none => rw [h] at hf; cases hf
  | some ds =>
    simp only [h] at hf
    split at hf
    case isFalse => cases hf
    rename_i hz
    have hz' : ds.length ≤ 100000 := of_decide_eq_true hz
    cases hr : lcRun vs a ft fe env ds with
    | none => rw [hr] at hf; cases hf
    | some r =>
      rw [hr] at hf
      cases hf
      refine hi B S0 H σ env ds E h _ fun J H1 e1 Y Dl hD => ?_
      have E1 := E.ext e1
      have noD : ¬ Own σ env Dl := fun z => by
        obtain ⟨o, h, _⟩ := E1.own z
        rw [hD] at h
        cases h
      have noS : ¬ S0 Dl := fun z => by
        obtain ⟨o, h, _⟩ := E1.live Dl z
        rw [E1.base _ _ h] at hD
        cases hD
      let S' : Addr → Prop := fun p => S0 p ∨ p = Dl
      refine ⟨fun i m H' => m = ds.length - i ∧ i ≤ ds.length ∧ Ex H1 H' ∧ ∃ acc dacc rs, H' Dl = some (.lst acc) ∧ AtL (mask (SS S' σ env) H') acc dacc ∧ lcRun vs a ft fe env (ds.drop i) = some rs ∧ dacc ++ rs = r ∧ acc.length ≤ i,
        ⟨ds.length, rfl, Nat.zero_le _, Ex.new hD, [], [], r, upd_same, .nil, by rw [List.drop_zero]; exact hr, rfl, Nat.le_refl _⟩, ?_⟩
      rintro i m H' ⟨rfl, hi2, x1, acc, dacc, rs, hl, hacc, hrs, hrr, hlen⟩
      have EF := E1.foreign hD x1 hl
      have hM : Ex (mask (SS S0 σ env) H1) (mask (SS S' σ env) H') := mask_ex fun b o h1 h2 => ⟨fun z => by
        rcases z with (z | z) | z
        · exact h1 (.inl z)
        · subst z
          rw [hD] at h2
          cases h2
        · exact h1 (.inr z), x1 b o h2⟩
      obtain ⟨y1, y2⟩ := Y (SS S' σ env) H' hM EF.lv i
      by_cases hlt : i < ds.length
      · rw [List.drop_eq_getElem_cons hlt] at hrs
        unfold lcRun at hrs
        obtain ⟨hgo, hy⟩ := y1 ds[i] (List.getElem?_eq_getElem hlt)
        cases ha : a ds[i] (wipeE env vs) with
        | none => simp only [ha] at hrs; cases hrs
        | some env1 =>
          simp only [ha] at hrs
          refine .inr ⟨hgo, fun H2 => ∃ m', m' = ds.length - (i + 1) ∧ i + 1 ≤ ds.length ∧ Ex H1 H2 ∧ ∃ acc dacc rs, H2 Dl = some (.lst acc) ∧ AtL (mask (SS S' σ env) H2) acc dacc ∧ lcRun vs a ft fe env (ds.drop (i + 1)) = some rs ∧ dacc ++ rs = r ∧ acc.length ≤ i + 1,
            fun H2 ⟨m', h1, h2⟩ => ⟨m', by omega, h1, h2⟩, fun x H3 hx => ?_⟩
          obtain ⟨ex, ax⟩ := hy x H3 hx
          have EW := (EF.ext ex).wipe vs
          have sub : ∀ p, SS S' (L2.wipe σ vs) (wipeE env vs) p → SS S' σ env p := fun p z => z.imp id fun ⟨j, s, z1, z2, z3⟩ => by
            by_cases hj : j ∈ vs
            · have hjl : j < env.length := by
                have h9 := (List.getElem?_eq_some_iff.mp z3).1
                rw [wipe_length, E.len] at h9
                exact h9
              rw [wipe_in hj (by rw [E.len]; exact hjl)] at z3
              cases z3
            · rw [wipeE_at hj] at z1
              rw [wipe_at hj] at z3
              exact ⟨j, s, z1, z2, z3⟩
          refine hg _ S' H3 _ _ env1 x ds[i] EW (ax.le (HLe.of (mask_ex fun b o h1 h2 => ⟨fun z => h1 (sub b z), h2⟩))) ha _ fun σ4 H4 E4 k4 l4 x4 => ?_
          have ew : L2.wipe σ4 vs = L2.wipe σ vs := wipe_same (l4.trans (wipe_length σ vs)) fun j hj => (k4 j fun z => hj (hv j z)).1.trans (wipe_at hj)
          have up : ∀ p, SS S' σ env p → SS S' σ4 env1 p := fun p z => z.imp id fun ⟨j, s, z1, z2, z3⟩ => by
            have hj : j ∉ vs := fun hj => by
              have h9 := List.all_eq_true.mp hno j hj
              rw [z1] at h9
              simp only [z2] at h9
              cases h9
            have hj2 : j ∉ ts := fun z => hj (hv j z)
            exact ⟨j, s, by rw [(k4 j hj2).2, wipeE_at hj]; exact z1, z2, by rw [(k4 j hj2).1, wipe_at hj]; exact z3⟩
          have x14 : Ex H1 H4 := x1.trans (ex.trans x4)
          have l14 : H4 Dl = some (.lst acc) := x4 _ _ (ex _ _ hl)
          have acc4 : AtL (mask (SS S' σ env) H4) acc dacc := hacc.mk (ex.trans x4)
          refine ⟨ew, ?_⟩
          cases hft : ft env1 with
          | none => simp only [hft] at hrs; cases hrs
          | some bb =>
            simp only [hft] at hrs
            refine ht _ S' H4 σ4 env1 bb E4 hft _ fun H5 x5 => ?_
            cases bb with
            | false =>
              simp only at hrs
              exact iteF ⟨_, rfl, hlt, x14.trans x5, acc, dacc, rs, x5 _ _ l14, acc4.mk x5, hrs, hrr, by omega⟩
            | true =>
              simp only at hrs
              refine iteT ?_
              cases hfe : fe env1 with
              | none => simp only [hfe] at hrs; cases hrs
              | some z =>
                simp only [hfe] at hrs
                cases hrest : lcRun vs a ft fe env (ds.drop (i + 1)) with
                | none => simp only [hrest] at hrs; cases hrs
                | some r' =>
                  simp only [hrest] at hrs
                  cases hrs
                  refine he _ S' H5 σ4 env1 z (E4.ext x5) hfe _ fun v H6 x6 a6 => ?_
                  have l6 : H6 Dl = some (.lst acc) := x6 _ _ (x5 _ _ l14)
                  have hSD : SS S' σ env Dl := .inl (.inr rfl)
                  have mk6 : Ex (mask (SS S' σ env) H6) (mask (SS S' σ env) (upd H6 Dl (.lst (acc ++ [v])))) := mask_ex fun b o h1 h2 => ⟨h1, by
                    rw [upd_ne (show b ≠ Dl from fun z => h1 (by rw [z]; exact hSD))]
                    exact h2⟩
                  refine ⟨acc, l6, Evl.sz_lt (by omega), _, rfl, hlt, fun b o h2 => ?_, acc ++ [v], dacc ++ [z], r', upd_same, ?_, (by first | exact hrest | rfl), by rw [List.append_assoc]; exact hrr, by rw [List.length_append, List.length_singleton]; omega⟩
                  · rw [upd_ne (ne_of_none h2 hD)]
                    exact x6 _ _ (x5 _ _ (x14 _ _ h2))
                  · exact (((acc4.mk x5).mk x6).snoc (a6.le (HLe.of (mask_ex fun b o h1 h2 => ⟨fun z => h1 (up b z), h2⟩)))).le (HLe.of mk6)
      · have hi' : i = ds.length := by omega
        subst hi'
        rw [List.drop_length] at hrs
        unfold lcRun at hrs
        cases hrs
        rw [List.append_nil] at hrr
        subst hrr
        refine .inl ⟨y2 rfl, q _ H' (e1.trans x1) (.lst (vs := acc) ?_ (hacc.le (HLe.of (mask_ex fun b o h1 h2 => ⟨fun z => h1 (z.imp .inl id), h2⟩))))⟩
        rw [mask_out fun z => z.elim noS noD]
        exact hl
theorem s_lc (hc : X.calm = true) (hN : X.N.Nodup) (hi : SemI X C tg iter wi fi) (ok : BlkOk X.N X.env.scope scope own)
    (hg : ∀ (s : Shared) (H : Hp) (C' : Addr) (cl : List (Str × Addr)) (fp : List Addr), SemG (X.blk s H scope (compEnvC scope cl C' X.env) fp) C tg g ts a) (hv : ∀ i ∈ ts, i ∈ own.map (·.2))
    (ht : ∀ (s : Shared) (H : Hp) (C' : Addr) (cl : List (Str × Addr)) (fp : List Addr), SemTs (X.blk s H scope (compEnvC scope cl C' X.env) fp) C ifs tt ft)
    (he : ∀ (s : Shared) (H : Hp) (C' : Addr) (cl : List (Str × Addr)) (fp : List Addr), SemE (X.blk s H scope (compEnvC scope cl C' X.env) fp) C elt te fe) (hs : ∀ x, foldedSetIterable iter X.env x = pure x := by intro _; rfl) :
    SemE X C (.ListComp elt [⟨tg, iter, ifs, 0⟩] scope pos) (tLc wi g tt te (own.map (·.2))) (eLc (own.map (·.2)) fi a ft fe) :=
  ⟨pe_lc hc hN hi.pi ok (fun s H C' cl fp => (hg s H C' cl fp).pg) (fun s H C' cl fp => (ht s H C' cl fp).pt) (fun s H C' cl fp => (he s H C' cl fp).pe) hs,
    ev_lc hi.ev (fun B S0 H σ env env' x d E hx ha Q q => (hg (PySem.start X.prog).1 H 0 [] []).ev B S0 H σ env env' x d E hx ha Q fun σ' H' E' _ k l x' => q σ' H' E' k l x') hv
      ((ht (PySem.start X.prog).1 (fun _ => none) 0 [] []).ev) ((he (PySem.start X.prog).1 (fun _ => none) 0 [] []).ev)⟩
/-- name = [..], the name a local -/
theorem st_setLc {i : Nat} {y : Str} {py spos : Pos} (hc : X.calm = true) (hN : X.N.Nodup) (hy : X.N[i]? = some y) (hyl : X.env.scope.names.lookup y = some .local)
    (hsw : swapsWith (.ListComp elt [⟨tg, iter, ifs, 0⟩] scope pos) (some (.Name y py)) spos.line X.env = pure true) (hi : SemI X C tg iter wi fi) (ok : BlkOk X.N X.env.scope scope own)
    (hg : ∀ (s : Shared) (H : Hp) (C' : Addr) (cl : List (Str × Addr)) (fp : List Addr), SemG (X.blk s H scope (compEnvC scope cl C' X.env) fp) C tg g ts a) (hv : ∀ i ∈ ts, i ∈ own.map (·.2))
    (ht : ∀ (s : Shared) (H : Hp) (C' : Addr) (cl : List (Str × Addr)) (fp : List Addr), SemTs (X.blk s H scope (compEnvC scope cl C' X.env) fp) C ifs tt ft)
    (he : ∀ (s : Shared) (H : Hp) (C' : Addr) (cl : List (Str × Addr)) (fp : List Addr), SemE (X.blk s H scope (compEnvC scope cl C' X.env) fp) C elt te fe) (hs : ∀ x, foldedSetIterable iter X.env x = pure x := by intro _; rfl) :
    SemS X C (.Assign [.Name y py] (.ListComp elt [⟨tg, iter, ifs, 0⟩] scope pos) spos) (tAsg (tLc wi g tt te (own.map (·.2))) (gName i)) (cAsg (eLc (own.map (·.2)) fi a ft fe) (aName i)) :=
  ⟨ps_setLc hc hN hy hyl hsw hi.pi ok (fun s H C' cl fp => (hg s H C' cl fp).pg) (fun s H C' cl fp => (ht s H C' cl fp).pt) (fun s H C' cl fp => (he s H C' cl fp).pe) hs,
    fun D B S0 H σ env o E hf P => by
      have hev := ev_lc (X := X) hi.ev (fun B S0 H σ env env' x d E hx ha Q q => (hg (PySem.start X.prog).1 H 0 [] []).ev B S0 H σ env env' x d E hx ha Q fun σ' H' E' _ k l x' => q σ' H' E' k l x') hv
        ((ht (PySem.start X.prog).1 (fun _ => none) 0 [] []).ev) ((he (PySem.start X.prog).1 (fun _ => none) 0 [] []).ev)
      unfold cAsg aName at hf
      cases h : eLc (own.map (·.2)) fi a ft fe env with
      | none => rw [h] at hf; cases hf
      | some d =>
        simp only [h] at hf
        cases hf
        exact hev B S0 H σ env d E h _ fun v H1 e1 a1 => P _ H1 ((E.ext e1).set a1)⟩
end
end Tm

namespace Tm
open PySem L2
open Evl (Ex)

/-! ### defs -/
def gN (n : Nat) (g : List D → Option D) : List D → Option D := fun ds => if ds.length == n then g ds else none
/-- called with data ds it gives g ds and changes nothing that was there -/
def SpD (n : Nat) (g : List D → Option D) : Sp := fun vs H Q _ => ∃ (S : Addr → Prop) (ds : List D) (d : D), LvS S H ∧ AtL (mask S H) vs ds ∧ gN n g ds = some d ∧ ∀ v H', Ex H H' → At (mask S H') v d → Q v H'
def env0 (N : Nat) (ds : List D) : SE := ds.map SD.pu ++ List.replicate (N - ds.length) .un
def runF (N : Nat) (F : SE → Option Out) : List D → Option D := fun ds => match F (env0 N ds) with
  | some (.ret d) => some d
  | some (.rets d _) => some d
  | some (.next _) => some .none
  | _ => none
theorem hu65 {A : Around} {k : Nat} (hr : Room k A) : A.units + 65 < cLine := by
  have := hr.un
  omega
theorem SpD.len {n : Nat} {g : List D → Option D} {vs : List V} {H : Hp} {Q : VK} {E : XK} (h : SpD n g vs H Q E) : vs.length = n := by
  obtain ⟨S, ds, d, _, a, e, _⟩ := h
  unfold gN at e
  split at e
  · rename_i hl
    rw [a.length]
    exact eq_of_beq hl
  · cases e
theorem env0_at {S : Addr → Prop} {H : Hp} {K : PySem.W.Frag} {C : CA} {N : List Str} {vs : List V} {ds : List D} (hl : ds.length ≤ N.length) (lv : LvS S H) (a : AtL (mask S H) vs ds) : EnvS K C H S H (L2.start N vs) (env0 N.length ds) := by
  have hv := a.length
  have no : ∀ p, ¬ Own (L2.start N vs) (env0 N.length ds) p := fun p ⟨i, s, e1, e2, e3⟩ => by
    have hm : s ∈ env0 N.length ds := List.mem_of_getElem? e1
    unfold env0 at hm
    rcases List.mem_append.mp hm with h | h
    · obtain ⟨d, _, rfl⟩ := List.mem_map.mp h
      cases e2
    · rw [(List.mem_replicate.mp h).2] at e2
      cases e2
  have le : HLe (mask S H) (mask (SS S (L2.start N vs) (env0 N.length ds)) H) := HLe.of (mask_ex fun b o h1 h2 => ⟨fun z => z.elim h1 (no b), h2⟩)
  refine ⟨?_, Ex.refl H, fun b o _ => no b, lv, fun i s e => ?_, fun i j s s' p e1 o1 e2 o2 e3 e4 => (no p ⟨i, s, e1, o1, e3⟩).elim⟩
  · unfold L2.start env0
    simp
    omega
  · unfold env0 at e
    by_cases hi : i < ds.length
    · rw [List.getElem?_append_left (by rw [List.length_map]; exact hi), List.getElem?_map] at e
      obtain ⟨d, h1, h2⟩ := Option.map_eq_some_iff.mp e
      subst h2
      obtain ⟨v, h3, h4⟩ := a.get h1
      refine ⟨v, ?_, h4.le le⟩
      unfold L2.start
      rw [List.getElem?_append_left (by rw [List.length_map]; omega), List.getElem?_map, h3]
      rfl
    · rw [List.getElem?_append_right (by rw [List.length_map]; omega)] at e
      have := List.mem_of_getElem? e
      rw [(List.mem_replicate.mp this).2]
      trivial
section
variable {P : Program} {w : World} {K : PySem.W.Frag} {mg : Str → Option Value} {base : Heap}
theorem fn_D {cls : Addr} {x qual : Str} {st : Stmt} {f : Addr} {fd : FuncData} {N ps : List Str} {k n : Nat} {Fb : SE → Option Out} (F : Fun K x qual st f fd) (S : FnScope N ps (defScope st)) (hn : ps.length = n) (hN : n ≤ N.length)
    (hb : ∀ (cdv : Value) (A : Around) (outer : List Env) (s : Shared) (H : Hp) (E : XK), Room k (A.deeper (PyProof.Rows.envOfC qual (defScope st) s.heap.objs.size f cdv)) →
      ∃ t, SemSs (cxOf CX0 P w K mg base N qual (defScope st) f cdv A outer s H E).nox ⟨cls, none⟩ (defBody st) t Fb) : FnOk P w K mg base CX0 (k + 1) f fd ps (SpD n (runF N.length Fb)) := by
  refine F.ok S (fun vs H Q E h => h.len.trans hn.symm) (fun cdv A outer s H vs Q E hr h => ?_)
  obtain ⟨t, ht⟩ := hb cdv A outer s H E hr
  have hvl := h.len
  obtain ⟨S0, ds, d, lv, a, e, q⟩ := h
  unfold gN at e
  split at e
  case isFalse => cases e
  rename_i hl
  have hl' : ds.length = n := eq_of_beq hl
  refine ⟨t, ht.ps, ?_⟩
  have E0 : EnvS K ⟨cls, none⟩ H S0 H (L2.start N vs) (env0 N.length ds) := env0_at (by omega) lv a
  unfold runF at e
  cases hF : Fb (env0 N.length ds) with
  | none => rw [hF] at e; cases e
  | some o =>
    rw [hF] at e
    refine ht.ev _ H S0 H _ _ o E0 hF ?_
    cases o with
    | ret d' =>
      cases e
      exact q
    | next env' =>
      cases e
      exact fun σ H' E' => q .non H' E'.base .non
    | brk _ => cases e
    | cont _ => cases e
    | rets d' env' =>
      cases e
      exact fun v σ H' E' a' => q v H' E'.base (a'.le (HLe.of (mask_ex fun a o h1 h2 => ⟨fun z => h1 (.inl z), h2⟩)))
end
section
variable {X : Cx} {C : CA} {e : Expr} {es : List Expr} {t : TA} {fs : SE → Option (List D)} {pos p : Pos} {x : Str}
theorem s_call {k n : Nat} {f : Addr} {fd : FuncData} {ps : List Str} {g : List D → Option D} (F : FnOk X.prog X.w X.K X.mg X.base CX0 k f fd ps (SpD n g)) (hr : Room k X.A) (hg : Gl X x) (hm : X.mg x = some (.ref f)) (hk : PySem.W.keepIn X.K (.ref f) = true) (hb : Binds X.K fd ps [])
    (ha : SemA X C (e :: es) t fs) (hdb : (x == ("__debug__" : Str)) = false := by decide) (he : starEach (e :: es) X.env = (false, eval e X.env) :: starEach es X.env := by rfl) (hpl : (backTo pos (starEach es X.env)).any (·.1) = false := by rfl) :
    SemE X C (.Call (.Name x p) (e :: es) [] pos) (tCall (SpD n g) [] E0 t) (eA (gN n g) fs) := ⟨pe_call F hr hg hm hk hb .nil pass0 ha.pa hdb he hpl, fun B S0 H σ env d E hf Q q => by
  unfold eA at hf
  cases h1 : fs env with
  | none => rw [h1] at hf; cases hf
  | some ds =>
    simp only [h1] at hf
    refine ha.ev B S0 H σ env ds E h1 _ fun vs H1 e1 a1 => ?_
    refine ⟨SS S0 σ env, ds, d, (E.ext e1).lv, by rw [List.append_nil]; exact a1, hf, fun v H2 e2 a2 => q v H2 (e1.trans e2) a2⟩⟩
end

/-! ### what we own -/
def cOwn (i : Nat) (s : SD) : SE → Option Out := fun env => some (.next (env.set i s))
def cApp (i : Nat) (f : SE → Option D) : SE → Option Out := fun env => match env[i]? with
  | some (.ol ds) => (match f env with
    | some d => if szOk (ds.length + 1) then some (.next (env.set i (.ol (ds ++ [d])))) else none
    | none => none)
  | _ => none
def cExt (i : Nat) (f : SE → Option D) : SE → Option Out := fun env => match env[i]? with
  | some (.ol ds) => (match f env with
    | some (.list es) => if szOk (ds.length + es.length) then some (.next (env.set i (.ol (ds ++ es)))) else none
    | _ => none)
  | _ => none
section
variable {X : Cx} {C : CA} {e : Expr} {te : TE} {f : SE → Option D} {pos px : Pos} {x : Str} {i : Nat}
theorem ev_own {K : PySem.W.Frag} {s : SD} (hs : isOw s = true) (ht : ∀ (M H : Hp) (σ : St) (Q : VK), (∀ p H2, H p = none → Ex H H2 → OwAt C M H2 p s → Q (.ref p) H2) → te σ H Q) : EvS K C (tAsg te (gName i)) (cOwn i s) := fun D B S0 H σ env o E hf P => by
  cases hf
  exact ht (mask (SS S0 σ env) H) H σ _ fun p H2 hp e2 ho => P _ H2 (E.setNew hp e2 hs ho)
theorem st_newL (hN : X.N.Nodup) (hi : X.N[i]? = some x) (hx : Loc X.env.scope x) {pl : Pos}
    (h : PS X (.Assign [.Name x px] (.List [] pl) pos) (tAsg (tLst tNil) (gName i))) : SemS X C (.Assign [.Name x px] (.List [] pl) pos) (tAsg (tLst tNil) (gName i)) (cOwn i (.ol [])) := ⟨h,
  ev_own rfl fun M H σ Q q => ⟨Nat.zero_le _, fun p hp => q p _ hp (Ex.new hp) ⟨[], upd_same, .nil⟩⟩⟩
theorem st_newT (h : PS X (.Assign [.Name x px] e pos) (tAsg tDNewT (gName i))) : SemS X C (.Assign [.Name x px] e pos) (tAsg tDNewT (gName i)) (cOwn i (.ot [])) := ⟨h,
  ev_own rfl fun M H σ Q q => fun p hp => q p _ hp (Ex.new hp) ⟨[], upd_same, .nil⟩⟩
/-- what a slot of ours holds when something has been evaluated meanwhile -/
theorem EnvS.got {K : PySem.W.Frag} {B : Hp} {S0 : Addr → Prop} {H : Hp} {σ : St} {env : SE} (E : EnvS K C B S0 H σ env) {s : SD} (hi : env[i]? = some s) (hs : isOw s = true) : ∃ p, σ[i]? = some (some (V.ref p)) ∧ OwAt C (mask (SS S0 σ env) H) H p s ∧ Own σ env p :=
  let ⟨p, e, h⟩ := (E.slot i s hi).ow hs
  ⟨p, e, h, i, s, hi, hs, e⟩
theorem st_app {pa pc : Pos} (hv : PE X (.Name x px) (tVar i)) (he : SemE X C e te f) (hs : swapsWith (.Call (.Attribute (.Name x px) "append" pa) [e] [] pc) none pos.line X.env = pure false := by rfl)
    (hb : PE X (.Call (.Attribute (.Name x px) "append" pa) [e] [] pc) (tBM X.K "list" rAppend (tVar i) (tCons te tNil))) :
    SemS X C (.Expr (.Call (.Attribute (.Name x px) "append" pa) [e] [] pc) pos) (tDrop (tBM X.K "list" rAppend (tVar i) (tCons te tNil))) (cApp i f) := ⟨ps_expr hb hs, fun D B S0 H σ env o E hf P => by
  unfold cApp at hf
  split at hf
  case h_2 => cases hf
  rename_i ds hi
  cases h1 : f env with
  | none => rw [h1] at hf; cases hf
  | some d =>
    simp only [h1] at hf
    split at hf
    case isFalse => cases hf
    rename_i hz
    cases hf
    obtain ⟨p, hp, ⟨vs, hl, ha⟩, ho⟩ := E.got hi rfl
    refine ⟨.ref p, hp, .inl ⟨rfl, vs, SqL.of hl⟩, ?_⟩
    refine he.ev B S0 H σ env d E h1 _ fun v H1 e1 a1 => ⟨p, vs, v, rfl, rfl, e1 _ _ hl, ?_, ?_⟩
    · rw [ha.length]
      have h9 : ds.length + 1 ≤ 100000 := of_decide_eq_true hz
      exact Evl.sz_lt (by omega)
    · exact P σ _ ((E.ext e1).mut hi rfl hp rfl ⟨_, upd_same, (ha.mk e1).snoc a1⟩)⟩
theorem st_ext {pa pc : Pos} (hv : PE X (.Name x px) (tVar i)) (he : SemE X C e te f) (hs : swapsWith (.Call (.Attribute (.Name x px) "extend" pa) [e] [] pc) none pos.line X.env = pure false := by rfl)
    (hb : PE X (.Call (.Attribute (.Name x px) "extend" pa) [e] [] pc) (tBM X.K "list" rExtend (tVar i) (tCons te tNil))) :
    SemS X C (.Expr (.Call (.Attribute (.Name x px) "extend" pa) [e] [] pc) pos) (tDrop (tBM X.K "list" rExtend (tVar i) (tCons te tNil))) (cExt i f) := ⟨ps_expr hb hs, fun D B S0 H σ env o E hf P => by
  unfold cExt at hf
  split at hf
  case h_2 => cases hf
  rename_i ds hi
  split at hf
  case h_2 => cases hf
  rename_i es h1
  split at hf
  case isFalse => cases hf
  rename_i hz
  cases hf
  obtain ⟨p, hp, ⟨vs, hl, ha⟩, ho⟩ := E.got hi rfl
  refine ⟨.ref p, hp, .inl ⟨rfl, vs, SqL.of hl⟩, ?_⟩
  refine he.ev B S0 H σ env _ E h1 _ fun v H1 e1 a1 => ?_
  cases a1 with
  | lst p1 p2 =>
    refine ⟨p, _, vs, _, rfl, rfl, e1 _ _ hl, (mask_some p1).2, ?_, ?_⟩
    · rw [ha.length, p2.length]
      have h9 : ds.length + es.length ≤ 100000 := of_decide_eq_true hz
      exact Evl.sz_of h9
    · exact P σ _ ((E.ext e1).mut hi rfl hp rfl ⟨_, upd_same, (ha.mk e1).append p2⟩)⟩
end

/-! ### for over a dict, locked meanwhile -/
def dItems (i : Nat) : SE → Option (List D) := fun env => match env[i]? with
  | some (.pu (.dict es)) => some (es.map (·.1))
  | _ => none
theorem PS.or {X : Cx} {st : Stmt} {t u : TS} (h : PS X st t) (k : PS X st u) : PS X st (fun D σ H => t D σ H ∨ u D σ H) := ⟨fun pins s σ H D I q => q.elim (h.run pins s σ H D I) (k.run pins s σ H D I)⟩
theorem yl_keysT {M : Hp} {p : Addr} {od : Obj} {kvs : List (List Key × V)} {es : List (D × D)} {H0 : Hp} (h : M p = some (.frz od (.dT kvs))) (t : AtT H0 kvs es) : Yields M (Itkt p od kvs) (es.map (·.1)) := fun S H e lv i => by
  have hp := (mask_some (e p _ h)).2
  have key : ∀ {kvs : List (List Key × V)} {es : List (D × D)} {i : Nat} {d : D}, AtT H0 kvs es → (es.map (·.1))[i]? = some d → ∃ k v, kvs[i]? = some (k, v) ∧ d = .tuple (k.map kD) := by
    intro kvs
    induction kvs with
    | nil => intro es i d t h; cases t; simp at h
    | cons x xs ih =>
      intro es i d t h
      cases t with
      | cons h1 t1 =>
        cases i with
        | zero => simp at h; exact ⟨_, _, rfl, h.symm⟩
        | succ i =>
          obtain ⟨k, v, e1, e2⟩ := ih (i := i) t1 (by simpa using h)
          exact ⟨k, v, by simpa using e1, e2⟩
  refine ⟨fun d hd => ?_, fun hi => ⟨hp, by rw [t.length]; simp at hi; omega⟩⟩
  obtain ⟨k, v, h1, rfl⟩ := key t hd
  refine ⟨⟨hp, (List.getElem?_eq_some_iff.mp h1).1⟩, fun x H2 y => ?_⟩
  obtain ⟨e1, k', v', q, h2, rfl, h3⟩ := y
  subst e1
  rw [h1] at h2
  cases h2
  refine ⟨Ex.refl _, .tup (vs := k.map kV) ?_ ?_⟩
  · rw [mask_out fun z => by
      obtain ⟨o, z1, z2, _⟩ := lv q z
      rw [h3] at z1
      exact z2 _ (Option.some.inj z1).symm]
    exact h3
  · have : ∀ ks : List Key, AtL (mask S H2) (ks.map kV) (ks.map kD) := fun ks => by
      induction ks with
      | nil => exact .nil
      | cons a r ih =>
        refine .cons ?_ ih
        cases a with
        | inl i => exact .int i
        | inr x => exact .str x
    exact this k
theorem yl_keysK {M : Hp} {p : Addr} {od : Obj} {kvs : List (Key × V)} {es : List (D × D)} {H0 : Hp} (h : M p = some (.frz od (.dK kvs))) (t : AtK H0 kvs es) : Yields M (Itk p od kvs) (es.map (·.1)) := fun S H e lv i => by
  have hp := (mask_some (e p _ h)).2
  have key : ∀ {kvs : List (Key × V)} {es : List (D × D)} {i : Nat} {d : D}, AtK H0 kvs es → (es.map (·.1))[i]? = some d → ∃ k v, kvs[i]? = some (k, v) ∧ d = kD k := by
    intro kvs
    induction kvs with
    | nil => intro es i d t h; cases t; simp at h
    | cons x xs ih =>
      intro es i d t h
      cases t with
      | cons h1 t1 =>
        cases i with
        | zero => simp at h; exact ⟨_, _, rfl, h.symm⟩
        | succ i =>
          obtain ⟨k, v, e1, e2⟩ := ih (i := i) t1 (by simpa using h)
          exact ⟨k, v, by simpa using e1, e2⟩
  refine ⟨fun d hd => ?_, fun hi => ⟨hp, by rw [t.length]; simp at hi; omega⟩⟩
  obtain ⟨k, v, h1, rfl⟩ := key t hd
  refine ⟨⟨hp, (List.getElem?_eq_some_iff.mp h1).1⟩, fun x H2 y => ?_⟩
  obtain ⟨e1, k', v', h2, rfl⟩ := y
  subst e1
  rw [h1] at h2
  cases h2
  refine ⟨Ex.refl _, ?_⟩
  cases k with
  | inl i => exact .int i
  | inr x => exact .str x
section
variable {K : PySem.W.Frag} {C : CA} {B : Hp} {S0 : Addr → Prop} {H H' : Hp} {σ σ' : St} {env env' : SE}
theorem lock_le {S : Addr → Prop} {p : Addr} {u : HO} {od : Obj} (hp : H p = some u) (n1 : ∀ vs, u ≠ .lst vs) (n2 : ∀ vs, u ≠ .tup vs) (n3 : ∀ o w, u ≠ .frz o w) : HLe (mask S H) (mask S (upd H p (.frz od u))) := by
  have ne : ∀ a w, mask S H a = some w → w ≠ u → mask S (upd H p (.frz od u)) a = some w := fun a w h n => by
    obtain ⟨h1, h2⟩ := mask_some h
    rw [mask_out h1, upd_ne]
    · exact h2
    · intro z
      subst z
      rw [hp] at h2
      exact n (Option.some.inj h2).symm
  refine ⟨fun a vs h => ne a _ h fun z => n1 vs z.symm, fun a vs h => ne a _ h fun z => n2 vs z.symm, fun a w hw h => ?_⟩
  rcases h with h | ⟨o, h⟩
  · by_cases ha : a = p
    · subst ha
      obtain ⟨h1, h2⟩ := mask_some h
      rw [hp] at h2
      cases h2
      exact .inr ⟨od, by rw [mask_out h1, upd_same]⟩
    · exact .inl (by
        obtain ⟨h1, h2⟩ := mask_some h
        rw [mask_out h1, upd_ne ha]
        exact h2)
  · exact .inr ⟨o, ne a _ h fun z => n3 _ _ z.symm⟩
theorem unlock_le {S : Addr → Prop} {p : Addr} {u : HO} {od : Obj} (hp : H p = some (.frz od u)) (n3 : ∀ o w, u ≠ .frz o w) : HLe (mask S H) (mask S (upd H p u)) := by
  have ne : ∀ a w, mask S H a = some w → w ≠ .frz od u → mask S (upd H p u) a = some w := fun a w h n => by
    obtain ⟨h1, h2⟩ := mask_some h
    rw [mask_out h1, upd_ne]
    · exact h2
    · intro z
      subst z
      rw [hp] at h2
      exact n (Option.some.inj h2).symm
  refine ⟨fun a vs h => ne a _ h fun z => (nomatch z), fun a vs h => ne a _ h fun z => (nomatch z), fun a w hw h => ?_⟩
  rcases h with h | ⟨o, h⟩
  · exact .inl (ne a w h fun z => hw _ _ z)
  · by_cases ha : a = p
    · subst ha
      obtain ⟨h1, h2⟩ := mask_some h
      rw [hp] at h2
      cases h2
      exact .inl (by rw [mask_out h1, upd_same])
    · exact .inr ⟨o, by
        obtain ⟨h1, h2⟩ := mask_some h
        rw [mask_out h1, upd_ne ha]
        exact h2⟩
/-- the dict at p is locked -/
theorem EnvS.lock (E : EnvS K C B S0 H σ env) {p : Addr} {u : HO} {od : Obj} (hp : H p = some u) (hS : ¬ SS S0 σ env p) (n1 : ∀ vs, u ≠ .lst vs) (n2 : ∀ vs, u ≠ .tup vs) (n3 : ∀ o w, u ≠ .frz o w) : EnvS K C (mask (Own σ env) (upd H p (.frz od u))) S0 (upd H p (.frz od u)) σ env := by
  refine ⟨E.len, mask_sub _ _, fun a o h => (mask_some h).1, fun q h => ?_, fun i s h => ?_, E.inj⟩
  · obtain ⟨o, e, n⟩ := E.live q h
    have hq : q ≠ p := fun z => hS (.inl (z ▸ h))
    exact ⟨o, by rw [mask_out (E.nown q o e), upd_ne hq]; exact E.base q o e, n⟩
  · refine (E.slot i s h).le (lock_le hp n1 n2 n3) fun q ho hq => ?_
    rw [upd_ne]
    intro z
    exact hS (.inr (z ▸ ⟨i, s, h, ho, hq⟩))
theorem EnvS.unlock (E : EnvS K C B S0 H σ env) {p : Addr} {u : HO} {od : Obj} (hp : H p = some u) (hS : ¬ SS S0 σ env p) (n3 : ∀ o w, u ≠ .frz o w) (E' : EnvS K C (mask (Own σ env) (upd H p (.frz od u))) S0 H' σ' env') : H' p = some (.frz od u) ∧ EnvS K C B S0 (upd H' p u) σ' env' := by
  have hB : mask (Own σ env) (upd H p (.frz od u)) p = some (.frz od u) := by
    rw [mask_out fun z => hS (.inr z), upd_same]
  have hp' := E'.base _ _ hB
  have np := E'.nown _ _ hB
  refine ⟨hp', E'.len, fun a o h => ?_, fun a o h => ?_, E.live, fun i s h => ?_, E'.inj⟩
  · by_cases ha : a = p
    · subst ha
      rw [upd_same, ← hp]
      exact E.base a o h
    · rw [upd_ne ha]
      refine E'.base a o ?_
      rw [mask_out (E.nown a o h), upd_ne ha]
      exact E.base a o h
  · by_cases ha : a = p
    · subst ha
      exact np
    · refine E'.nown a o ?_
      rw [mask_out (E.nown a o h), upd_ne ha]
      exact E.base a o h
  · refine (E'.slot i s h).le (unlock_le hp' n3) fun q ho hq => ?_
    rw [upd_ne]
    intro z
    exact np (z ▸ ⟨i, s, h, ho, hq⟩)
end
section
variable {X : Cx} {C : CA} {tg : Expr} {body : List Stmt} {g : TG} {ts : List Nat} {a : D → SE → Option SE} {t : TS} {F : SE → Option Out} {x : Str} {px pos : Pos} {i : Nat}
theorem ev_forD {K : PySem.W.Frag}
    (hg : ∀ (B : Hp) (S0 : Addr → Prop) (H : Hp) (σ : St) (env env' : SE) (x : V) (d : D), EnvS K C B S0 H σ env → At (mask (SS S0 σ env) H) x d → a d env = some env' → ∀ Q : St → Hp → Prop, (∀ σ' H', EnvS K C B S0 H' σ' env' → Q σ' H') → g x σ H Q)
    (hb : EvS K C t F) : EvS K C (fun D σ H => tLock (tFor (iKeys (tVar i)) g t) D σ H ∨ tFor (iKeys (tVar i)) g t D σ H) (cFor (dItems i) a F) := fun D B S0 H σ env o E hf P => by
  have hdi : ∃ es, env[i]? = some (.pu (.dict es)) := by
    unfold cFor dItems at hf
    split at hf
    · rename_i h
      split at h
      · rename_i es h2
        exact ⟨es, h2⟩
      · cases h
    · cases hf
  obtain ⟨es, hes⟩ := hdi
  obtain ⟨v, hv, hat⟩ := E.slot i _ hes
  have hr : forRun a F (es.map (·.1)) env = some o := by
    unfold cFor dItems at hf
    simp only [hes] at hf
    exact hf
  -- exact: locked here
  have locked : ∀ (p : Addr) (u : HO), v = .ref p → mask (SS S0 σ env) H p = some u → Mut (some u) → (∀ vs, u ≠ .lst vs) → (∀ vs, u ≠ .tup vs) → (∀ o w, u ≠ .frz o w) →
      (∀ od : Obj, ∀ R : It → Hp → Prop, (∀ J H2, Ex (upd H p (.frz od u)) H2 → Yields (mask (SS S0 σ env) H2) J (es.map (·.1)) → R J H2) → iKeys (tVar i) σ (upd H p (.frz od u)) R) → tLock (tFor (iKeys (tVar i)) g t) D σ H := by
    intro p u ev hp mu n1 n2 n3 hi
    obtain ⟨hS, hp⟩ := mask_some hp
    refine ⟨p, u, hp, mu, fun od => ?_⟩
    have EL := E.lock (od := od) hp hS n1 n2 n3
    refine ev_for1 EL (hi od) hg hb hr ?_
    cases o with
    | next env' => exact fun σ' H' E' => let ⟨h1, h2⟩ := E.unlock hp hS n3 E'; ⟨h1, P σ' _ h2⟩
    | brk env' => exact fun σ' H' E' => let ⟨h1, h2⟩ := E.unlock hp hS n3 E'; ⟨h1, P σ' _ h2⟩
    | cont env' => exact fun σ' H' E' => let ⟨h1, h2⟩ := E.unlock hp hS n3 E'; ⟨h1, P σ' _ h2⟩
    | ret d =>
      intro v' H' e' a'
      have hB : mask (Own σ env) (upd H p (.frz od u)) p = some (.frz od u) := by
        rw [mask_out fun z => hS (.inr z), upd_same]
      have hp' := e' _ _ hB
      refine ⟨hp', P v' _ (fun b o h => ?_) (a'.le (unlock_le hp' n3))⟩
      by_cases hb' : b = p
      · subst hb'
        rw [upd_same, ← hp]
        exact E.base b o h
      · rw [upd_ne hb']
        refine e' b o ?_
        rw [mask_out (E.nown b o h), upd_ne hb']
        exact E.base b o h
    | rets d env' =>
      intro v' σ' H' E' a'
      obtain ⟨h1, h2⟩ := E.unlock hp hS n3 E'
      exact ⟨h1, P v' σ' _ h2 (a'.le (unlock_le h1 n3))⟩
  cases hat with
  | dk p1 p2 =>
    rename_i p kvs
    rcases p1 with p1 | ⟨od, p1⟩
    · refine .inl (locked p _ rfl p1 trivial (fun _ z => nomatch z) (fun _ z => nomatch z) (fun _ _ z => nomatch z) fun od R r => ?_)
      obtain ⟨hS, hp⟩ := mask_some p1
      refine ⟨.ref p, hv, p, od, rfl, .inl ⟨kvs, upd_same, r _ _ (Ex.refl _) (yl_keysK (by rw [mask_out hS, upd_same]) p2)⟩⟩
    · refine .inr (ev_for1 E (fun R r => ?_) hg hb hr P)
      exact ⟨.ref p, hv, p, od, rfl, .inl ⟨kvs, (mask_some p1).2, r _ _ (Ex.refl _) (yl_keysK p1 p2)⟩⟩
  | dt p1 p2 =>
    rename_i p kvs
    rcases p1 with p1 | ⟨od, p1⟩
    · refine .inl (locked p _ rfl p1 trivial (fun _ z => nomatch z) (fun _ z => nomatch z) (fun _ _ z => nomatch z) fun od R r => ?_)
      obtain ⟨hS, hp⟩ := mask_some p1
      refine ⟨.ref p, hv, p, od, rfl, .inr ⟨kvs, upd_same, r _ _ (Ex.refl _) (yl_keysT (by rw [mask_out hS, upd_same]) p2)⟩⟩
    · refine .inr (ev_for1 E (fun R r => ?_) hg hb hr P)
      exact ⟨.ref p, hv, p, od, rfl, .inr ⟨kvs, (mask_some p1).2, r _ _ (Ex.refl _) (yl_keysT p1 p2)⟩⟩
theorem st_forD (hp : PassesOwn (model X.prog X.w) X.A X.env X.xe) (hc : X.calm = true) (hv : PE X (.Name x px) (tVar i)) (hg : SemG X C tg g ts a) (hb : SemSs X C body t F)
    (hs : ∀ z, foldedSetIterable (.Name x px) X.env z = pure z := by intro _; rfl) : SemS X C (.For tg (.Name x px) body [] pos) (fun D σ H => tLock (tFor (iKeys (tVar i)) g t) D σ H ∨ tFor (iKeys (tVar i)) g t D σ H) (cFor (dItems i) a F) :=
  ⟨PS.or (ps_lock (ps_for hp hc (pi_keys hv) hg.pg hb.ps hs)) (ps_for hp hc (pi_keys hv) hg.pg hb.ps hs),
    ev_forD (fun B S0 H σ env env' x d E hx ha Q q => hg.ev B S0 H σ env env' x d E hx ha Q fun σ' H' E' _ _ _ _ => q σ' H' E') hb.ev⟩
end
end Tm

namespace Tm
open PySem L2
open Evl (Ex)

/-! ### built-ins by values -/
def gLen : List D → Option D
  | [.list ds] => some (.int ds.length)
  | [.tuple ds] => some (.int ds.length)
  | [.str z] => if szOk z.length then some (.int z.length) else none
  | _ => none
section
variable {K : PySem.W.Frag}
theorem cs_len : CS (fun xs H Q => ∃ x n, xs = [x] ∧ LenV K x H n ∧ Q (.int n) H) gLen := fun S H xs ds z lv p hz Q k => by
  unfold gLen at hz
  split at hz
  · cases hz
    cases p with
    | cons p1 p2 =>
      cases p2
      cases p1 with
      | lst p1 p2 => exact ⟨_, _, rfl, .inl ⟨_, SqL.of (mask_some p1).2, p2.length.symm⟩, k _ H (Ex.refl H) (.int _)⟩
  · cases hz
    cases p with
    | cons p1 p2 =>
      cases p2
      cases p1 with
      | tup p1 p2 => exact ⟨_, _, rfl, .inr ⟨_, SqT.of (mask_some p1).2, p2.length.symm⟩, k _ H (Ex.refl H) (.int _)⟩
  · split at hz
    · rename_i hs
      cases hz
      cases p with
      | cons p1 p2 =>
        cases p2
        cases p1
        exact ⟨_, _, rfl, ⟨sz_ok hs, rfl⟩, k _ H (Ex.refl H) (.int _)⟩
    · cases hz
  · cases hz
def gAbs : List D → Option D
  | [.int i] => some (.int (if i < 0 then -i else i))
  | _ => none
theorem cs_abs : CS (fun xs H Q => ∃ i, xs = [.int i] ∧ Q (.int (if i < 0 then -i else i)) H) gAbs := fun S H xs ds z lv p hz Q k => by
  unfold gAbs at hz
  split at hz
  · cases hz
    cases p with
    | cons p1 p2 =>
      cases p2
      cases p1
      exact ⟨_, rfl, k _ H (Ex.refl H) (.int _)⟩
  · cases hz
def allInts : List D → Option (List Int)
  | [] => some []
  | .int i :: r => (match allInts r with
    | some ns => some (i :: ns)
    | none => none)
  | _ => none
theorem allInts_eq : ∀ {ds : List D} {ns : List Int}, allInts ds = some ns → ds = ns.map PyData.int
  | [], ns, h => by cases h; rfl
  | .int i :: r, ns, h => by
    unfold allInts at h
    split at h
    · rename_i ns' h'
      cases h
      rw [allInts_eq h']
      rfl
    · cases h
  | .none :: r, ns, h => by cases h
  | .bool _ :: r, ns, h => by cases h
  | .str _ :: r, ns, h => by cases h
  | .list _ :: r, ns, h => by cases h
  | .tuple _ :: r, ns, h => by cases h
  | .dict _ :: r, ns, h => by cases h
theorem atL_ints {H : Hp} : ∀ {vs : List V} {ns : List Int}, AtL H vs (ns.map PyData.int) → vs = ns.map V.int
  | [], [], _ => rfl
  | _ :: _, [], h => by cases h
  | [], _ :: _, h => by cases h
  | v :: vs, n :: ns, h => by
    cases h with
    | cons h t =>
      cases h
      rw [List.map_cons, atL_ints t]
def maxI : List Int → Int
  | [] => 0
  | [x] => x
  | x :: r => if maxI r > x then maxI r else x
def minI : List Int → Int
  | [] => 0
  | [x] => x
  | x :: r => if minI r < x then minI r else x
theorem maxI_spec : ∀ {ns : List Int}, 0 < ns.length → maxI ns ∈ ns ∧ ∀ y ∈ ns, y ≤ maxI ns
  | [x], _ => ⟨by simp [maxI], fun y hy => by simp at hy; subst hy; exact Int.le_refl _⟩
  | x :: y :: r, _ => by
    obtain ⟨h1, h2⟩ := maxI_spec (ns := y :: r) (by simp)
    unfold maxI
    split
    · refine ⟨List.mem_cons_of_mem _ h1, fun z hz => ?_⟩
      rcases List.mem_cons.mp hz with e | e
      · omega
      · exact h2 z e
    · refine ⟨List.mem_cons_self, fun z hz => ?_⟩
      rcases List.mem_cons.mp hz with e | e
      · omega
      · have := h2 z e
        omega
theorem minI_spec : ∀ {ns : List Int}, 0 < ns.length → minI ns ∈ ns ∧ ∀ y ∈ ns, minI ns ≤ y
  | [x], _ => ⟨by simp [minI], fun y hy => by simp at hy; subst hy; exact Int.le_refl _⟩
  | x :: y :: r, _ => by
    obtain ⟨h1, h2⟩ := minI_spec (ns := y :: r) (by simp)
    unfold minI
    split
    · refine ⟨List.mem_cons_of_mem _ h1, fun z hz => ?_⟩
      rcases List.mem_cons.mp hz with e | e
      · omega
      · exact h2 z e
    · refine ⟨List.mem_cons_self, fun z hz => ?_⟩
      rcases List.mem_cons.mp hz with e | e
      · omega
      · have := h2 z e
        omega
def gMax : List D → Option D
  | [.int i, .int j] => some (.int (if j > i then j else i))
  | [.list ds] => (match allInts ds with
    | some (x :: r) => some (.int (maxI (x :: r)))
    | _ => none)
  | _ => none
def gMin : List D → Option D
  | [.int i, .int j] => some (.int (if j < i then j else i))
  | [.list ds] => (match allInts ds with
    | some (x :: r) => some (.int (minI (x :: r)))
    | _ => none)
  | _ => none
abbrev rMaxA (K : PySem.W.Frag) : List V → Hp → VK → Prop := fun xs H Q => (∃ i j, xs = [.int i, .int j] ∧ Q (.int (if j > i then j else i)) H) ∨ rMax K xs H Q
abbrev rMinA (K : PySem.W.Frag) : List V → Hp → VK → Prop := fun xs H Q => (∃ i j, xs = [.int i, .int j] ∧ Q (.int (if j < i then j else i)) H) ∨ rMin K xs H Q
theorem cs_max : CS (rMaxA K) gMax := fun S H xs ds z lv p hz Q k => by
  unfold gMax at hz
  split at hz
  · cases hz
    cases p with
    | cons p1 p2 => cases p2 with
      | cons p2 p3 =>
        cases p3
        cases p1
        cases p2
        exact .inl ⟨_, _, rfl, k _ H (Ex.refl H) (.int _)⟩
  · split at hz
    · rename_i x r he
      cases hz
      cases p with
      | cons p1 p2 =>
        cases p2
        cases p1 with
        | lst p1 p2 =>
          rw [allInts_eq he] at p2
          rw [atL_ints p2] at p1
          obtain ⟨h1, h2⟩ := maxI_spec (ns := x :: r) (by simp)
          refine .inr ⟨_, x :: r, rfl, SqL.of (mask_some p1).2, by simp, fun m hm hm2 => ?_⟩
          have e : m = maxI (x :: r) := Int.le_antisymm (h2 m hm) (hm2 _ h1)
          subst e
          exact k _ H (Ex.refl H) (.int _)
    · cases hz
  · cases hz
theorem cs_min : CS (rMinA K) gMin := fun S H xs ds z lv p hz Q k => by
  unfold gMin at hz
  split at hz
  · cases hz
    cases p with
    | cons p1 p2 => cases p2 with
      | cons p2 p3 =>
        cases p3
        cases p1
        cases p2
        exact .inl ⟨_, _, rfl, k _ H (Ex.refl H) (.int _)⟩
  · split at hz
    · rename_i x r he
      cases hz
      cases p with
      | cons p1 p2 =>
        cases p2
        cases p1 with
        | lst p1 p2 =>
          rw [allInts_eq he] at p2
          rw [atL_ints p2] at p1
          obtain ⟨h1, h2⟩ := minI_spec (ns := x :: r) (by simp)
          refine .inr ⟨_, x :: r, rfl, SqL.of (mask_some p1).2, by simp, fun m hm hm2 => ?_⟩
          have e : m = minI (x :: r) := Int.le_antisymm (hm2 _ h1) (h2 m hm)
          subst e
          exact k _ H (Ex.refl H) (.int _)
    · cases hz
  · cases hz
theorem cr_maxA {X : Cx} (hc : X.calm = true) : CallR X (.builtin "max") (rMaxA X.K) := CallR.or (call_max2 hc) (cr_max hc)
theorem cr_minA {X : Cx} (hc : X.calm = true) : CallR X (.builtin "min") (rMinA X.K) := CallR.or (call_min2 hc) (cr_min hc)
def gInt : List D → Option D
  | [.int i] => some (.int i)
  | [.bool b] => some (.int (if b then 1 else 0))
  | _ => none
theorem cs_int : CS (fun xs H Q => (∃ i, xs = [.int i] ∧ Q (.int i) H) ∨ ∃ k, xs = [.bl k] ∧ Q (.int (if k then 1 else 0)) H) gInt := fun S H xs ds z lv p hz Q k => by
  unfold gInt at hz
  split at hz
  · cases hz
    cases p with
    | cons p1 p2 =>
      cases p2
      cases p1
      exact .inl ⟨_, rfl, k _ H (Ex.refl H) (.int _)⟩
  · cases hz
    cases p with
    | cons p1 p2 =>
      cases p2
      cases p1
      exact .inr ⟨_, rfl, k _ H (Ex.refl H) (.int _)⟩
  · cases hz
def gList : List D → Option D
  | [.list ds] => some (.list ds)
  | [.tuple ds] => some (.list ds)
  | _ => none
theorem cs_list : CS (fun xs H Q => ∃ p ys, xs = [.ref p] ∧ (SqL K H p ys ∨ SqT K H p ys) ∧ ∀ l, H l = none → Q (.ref l) (upd H l (.lst ys))) gList := fun S H xs ds z lv p hz Q k => by
  unfold gList at hz
  split at hz
  · cases hz
    cases p with
    | cons p1 p2 =>
      cases p2
      cases p1 with
      | lst p1 p2 => exact ⟨_, _, rfl, .inl (SqL.of (mask_some p1).2), fun l hl => k _ _ (Ex.new hl) (.lst (mask_new lv hl) (p2.mk (Ex.new hl)))⟩
  · cases hz
    cases p with
    | cons p1 p2 =>
      cases p2
      cases p1 with
      | tup p1 p2 => exact ⟨_, _, rfl, .inr (SqT.of (mask_some p1).2), fun l hl => k _ _ (Ex.new hl) (.lst (mask_new lv hl) (p2.mk (Ex.new hl)))⟩
  · cases hz
def gTuple : List D → Option D
  | [.list ds] => some (.tuple ds)
  | [.tuple ds] => some (.tuple ds)
  | _ => none
theorem cs_tuple : CS (fun xs H Q => ∃ p ys, xs = [.ref p] ∧ ((SqL K H p ys ∧ ∀ l, H l = none → Q (.ref l) (upd H l (.tup ys))) ∨ (SqT K H p ys ∧ Q (.ref p) H))) gTuple := fun S H xs ds z lv p hz Q k => by
  unfold gTuple at hz
  split at hz
  · cases hz
    cases p with
    | cons p1 p2 =>
      cases p2
      cases p1 with
      | lst p1 p2 => exact ⟨_, _, rfl, .inl ⟨SqL.of (mask_some p1).2, fun l hl => k _ _ (Ex.new hl) (.tup (mask_new lv hl) (p2.mk (Ex.new hl)))⟩⟩
  · cases hz
    cases p with
    | cons p1 p2 =>
      cases p2
      cases p1 with
      | tup p1 p2 => exact ⟨_, _, rfl, .inr ⟨SqT.of (mask_some p1).2, k _ H (Ex.refl H) (.tup p1 p2)⟩⟩
  · cases hz
def allBools : List D → Option (List Bool)
  | [] => some []
  | .bool i :: r => (match allBools r with
    | some ns => some (i :: ns)
    | none => none)
  | _ => none
theorem atL_bools {H : Hp} : ∀ {vs : List V} {ds : List D} {bs : List Bool}, AtL H vs ds → allBools ds = some bs → vs = bs.map V.bl
  | _, _, bs, .nil, h => by cases h; rfl
  | _, _, bs, .cons (d := d) h t, e => by
    cases h with
    | bl b =>
      unfold allBools at e
      split at e
      · rename_i ns' h'
        cases e
        rw [atL_bools t h']
        rfl
      · cases e
    | _ => cases e
def gAll : List D → Option D
  | [.list ds] => (match allBools ds with
    | some bs => some (.bool (bs.all id))
    | none => none)
  | _ => none
theorem cs_all : CS (rAll K) gAll := fun S H xs ds z lv p hz Q k => by
  unfold gAll at hz
  split at hz
  · split at hz
    · rename_i bs he
      cases hz
      cases p with
      | cons p1 p2 =>
        cases p2
        cases p1 with
        | lst p1 p2 =>
          rw [atL_bools p2 he] at p1
          exact ⟨_, bs, rfl, SqL.of (mask_some p1).2, k _ H (Ex.refl H) (.bl _)⟩
    · cases hz
  · cases hz
/-! ### sorted -/
def insI (x : Int) : List Int → List Int
  | [] => [x]
  | y :: r => if x ≤ y then x :: y :: r else y :: insI x r
def sortI : List Int → List Int
  | [] => []
  | x :: r => insI x (sortI r)
theorem insI_perm (x : Int) : ∀ r : List Int, (insI x r).Perm (x :: r)
  | [] => .refl _
  | y :: r => by
    unfold insI
    split
    · exact .refl _
    · exact ((insI_perm x r).cons y).trans (.swap x y r)
theorem sortI_perm : ∀ r : List Int, (sortI r).Perm r
  | [] => .refl _
  | x :: r => (insI_perm x (sortI r)).trans ((sortI_perm r).cons x)
theorem insI_sorted (x : Int) : ∀ {r : List Int}, r.Pairwise (· ≤ ·) → (insI x r).Pairwise (· ≤ ·)
  | [], _ => List.pairwise_singleton _ _
  | y :: r, h => by
    obtain ⟨h1, h2⟩ := List.pairwise_cons.mp h
    unfold insI
    split
    · rename_i hxy
      refine List.pairwise_cons.mpr ⟨fun z hz => ?_, h⟩
      rcases List.mem_cons.mp hz with e | e
      · omega
      · have := h1 z e
        omega
    · rename_i hxy
      refine List.pairwise_cons.mpr ⟨fun z hz => ?_, insI_sorted x h2⟩
      rcases List.mem_cons.mp ((insI_perm x r).mem_iff.mp hz) with e | e
      · omega
      · exact h1 z e
theorem sortI_sorted : ∀ r : List Int, (sortI r).Pairwise (· ≤ ·)
  | [] => .nil
  | x :: r => insI_sorted x (sortI_sorted r)
theorem sorted_uniq {α : Type} {R : α → α → Prop} : ∀ {l m : List α}, (∀ a ∈ l, ∀ b ∈ l, R a b → R b a → a = b) → l.Perm m → l.Pairwise R → m.Pairwise R → l = m
  | [], m, _, p, _, _ => (p.nil_eq)
  | x :: l, [], _, p, _, _ => by have := p.length_eq; simp at this
  | x :: l, y :: m, an, p, h, k => by
    obtain ⟨h1, h2⟩ := List.pairwise_cons.mp h
    obtain ⟨k1, k2⟩ := List.pairwise_cons.mp k
    have e : x = y := by
      have hx : x ∈ y :: m := p.mem_iff.mp List.mem_cons_self
      have hy : y ∈ x :: l := p.mem_iff.mpr List.mem_cons_self
      rcases List.mem_cons.mp hx with e | e
      · exact e
      · rcases List.mem_cons.mp hy with e' | e'
        · exact e'.symm
        · exact an x List.mem_cons_self y hy (h1 y e') (k1 x e)
    subst e
    rw [sorted_uniq (fun a ha b hb => an a (List.mem_cons_of_mem _ ha) b (List.mem_cons_of_mem _ hb)) ((List.perm_cons x).mp p) h2 k2]
theorem sortI_uniq {ns ms : List Int} (p : ms.Perm ns) (h : ms.Pairwise (· ≤ ·)) : ms = sortI ns :=
  sorted_uniq (fun a _ b _ h1 h2 => Int.le_antisymm h1 h2) (p.trans (sortI_perm ns).symm) h (sortI_sorted ns)
def gSortI : List D → Option D
  | [.list ds] => (match allInts ds with
    | some ns => if decide (ns.length < 64) then some (.list ((sortI ns).map PyData.int)) else none
    | none => none)
  | _ => none
theorem cs_sortI : CS (rSorted K) gSortI := fun S H xs ds z lv p hz Q k => by
  unfold gSortI at hz
  split at hz
  · split at hz
    · rename_i ns he
      split at hz
      · rename_i h64
        cases hz
        cases p with
        | cons p1 p2 =>
          cases p2
          cases p1 with
          | lst p1 p2 =>
            rw [allInts_eq he] at p2
            rw [atL_ints p2] at p1
            refine ⟨_, ns, rfl, SqL.of (mask_some p1).2, of_decide_eq_true h64, fun ns' q hp hs hq => ?_⟩
            rw [sortI_uniq hp hs]
            exact k _ _ (Ex.new hq) (.lst (mask_new lv hq) (AtL.ints _))
      · cases hz
    · cases hz
  · cases hz
end
end Tm

namespace Tm
open PySem PySem.Spec PyProof.Rows L2
open Evl (Ex)

/-! ### sorted of a dict with tuple keys -/
section
variable {X : Cx}
/-- the keys' own tuples, by the code B = 2 -/
def rSortDT (K : PySem.W.Frag) : List V → Hp → VK → Prop := fun xs H Q => ∃ (a : Addr) (kvs : List (List Key × V)) (d : Nat), xs = [.ref a] ∧ Rd H a (.dT kvs) ∧ kvs.length < 64 ∧ 1 ≤ d ∧
  (∀ p ∈ kvs, ∃ ns : List Int, p.1 = ns.map Sum.inl ∧ ns.length = d ∧ TS.Bd 2 ns) ∧
  ∀ (bs : List Addr) (ys : List V) (p : Addr), IsKeys H kvs bs → ys.Perm (bs.map V.ref) → ys.Pairwise (fun x y => ∀ n m, TupI K H x n → TupI K H y m → TS.code 2 n ≤ TS.code 2 m) → H p = none → Q (.ref p) (upd H p (.lst ys))
theorem keys_ints {H : Hp} {kvs : List (List Key × V)} {bs : List Addr} {d : Nat} (h : IsKeys H kvs bs) (hk : ∀ p ∈ kvs, ∃ ns : List Int, p.1 = ns.map Sum.inl ∧ ns.length = d ∧ TS.Bd 2 ns) : ∀ b ∈ bs, ∃ ns : List Int, H b = some (.tup (ns.map V.int)) ∧ ns.length = d ∧ TS.Bd 2 ns := by
  unfold IsKeys at h
  induction h with
  | nil => intro b hb; cases hb
  | @cons p b ps bs h1 t ih =>
    intro b' hb
    rcases List.mem_cons.mp hb with e | e
    · subst e
      obtain ⟨ns, e1, e2, e3⟩ := hk p List.mem_cons_self
      refine ⟨ns, ?_, e2, e3⟩
      rw [h1, e1, List.map_map]
      rfl
    · exact ih (fun p hp => hk p (List.mem_cons_of_mem _ hp)) b' e
theorem call_sortedDT (hc : X.calm = true) : CallR X (.builtin "sorted") (rSortDT X.K) := by
  intro pins s σ H xs us Q I r q
  obtain ⟨a, kvs, d, rfl, hd, h64, h1, hk, q⟩ := q
  obtain ⟨u, rfl, rx⟩ := vals1 r
  cases rx
  obtain ⟨z, hs, ks, pr, o, es, ep, ho, hx, hdt, he, hn⟩ := (show ObjOk X.prog X.w H s.heap a (.dT kvs) from hd.ok I.hok)
  have l1 : es.size = ks.length := size_of_entries he
  have l2 : kvs.length = ks.length := Paired.length pr
  have hkeys : IsKeys H kvs (ks.map fun x => x.2.1) := isKeys_of pr
  refine Calls.call_function_entry PyProof.Rows.kind_sorted PyProof.Rows.plain_sorted PyProof.Rows.entry_sorted (PyProof.Rows.args_sorted1 _) ?_
  unfold Builtin.«sorted»
  refine wpAny_bind (m := checkCount "sorted" 1 1 _) (wpAny_pure ?_)
  refine wpAny_bind (PySem.W.kdu_collect (A := X.A.in1) (kdl_raw hs hx hdt) (I.ok.hd hc) ho (by omega) fun h' tk acc hkp hacc => ?_)
  have ea : acc.toList = (ks.map fun x => x.2.1).map Value.ref := by
    rw [List.map_map]
    have hl : acc.toList.length = ks.length := by rw [Array.length_toList, hacc.1]; exact l1
    apply List.ext_getElem?
    intro j
    rw [List.getElem?_map]
    cases hj : acc.toList[j]? with
    | none =>
      have h1 := List.getElem?_eq_none_iff.mp hj
      rw [List.getElem?_eq_none (by omega)]
      all_goals rfl
    | some v =>
      obtain ⟨en, hen, hv⟩ := hacc.2 j v (by rw [← Array.getElem?_toList]; exact hj)
      have qe := entry_at he j
      rw [hen] at qe
      cases hb : ks[j]? with
      | none =>
        rw [hb] at qe
        exact nomatch (show some en = none from qe)
      | some b =>
        rw [hb] at qe
        have e2 : en = entryOfKey (tupleKind (mixKind X.prog X.w)) b := Option.some.inj qe
        rw [hv, e2]
        all_goals rfl
  have hal : acc.toList.length = kvs.length := by rw [ea, List.length_map, List.length_map, l2]
  have I1 : Inv X pins σ H { s with heap := h', toks := tk } := I.kept hkp
  refine wpAny_bind (wpAny_newList ?_ (by rw [hal, sizeLine_eq]; omega))
  have hoL : (h'.push (seqObj "list" acc.toList.toArray 0)).get? h'.objs.size = some (seqObj "list" acc.toList.toArray 0) := Heap.get?_push_size _ rfl
  show wpAny _ _ _ _ _ { s with heap := h'.push (seqObj "list" acc.toList.toArray 0), toks := tk }
  have hin : ∀ v ∈ acc.toList, ∃ b ns, v = Value.ref b ∧ H b = some (.tup (ns.map V.int)) ∧ ns.length = d ∧ TS.Bd 2 ns := fun v hv => by
    rw [ea] at hv
    obtain ⟨b, hb, e⟩ := List.mem_map.mp hv
    obtain ⟨ns, h1, h2, h3⟩ := keys_ints hkeys hk b hb
    exact ⟨b, ns, e.symm, h1, h2, h3⟩
  have I2 : ∀ b ns, H b = some (.tup (ns.map V.int)) → TS.TupInts (h'.push (seqObj "list" acc.toList.toArray 0)) (.ref b) ns := fun b ns hb =>
    TS.TupInts.keeps (tupI_raw I1 (SqT.of hb)) fun c o e _ => Heap.get?_push_of_some _ e
  refine wpAny_bind (wpAny_holding (wpAny_call_entry PyProof.Rows.slot_list_sort ⟨_, hoL, rfl⟩ PyProof.Rows.entry_list_sort
    (TS.sort_tups (s := { s with heap := h'.push (seqObj "list" acc.toList.toArray 0), toks := tk }) (B := 2) hoL (by rw [hal]; exact h64) h1 (fun v hv => ?_) (fun v => TS.code 2 (TS.intsOf (h'.push (seqObj "list" acc.toList.toArray 0)) v)) (fun v hv ns t => ?_) fun out g1 g2 => ⟨_, rfl, ?_⟩) (PyProof.Rows.args_list_sort _)))
  · obtain ⟨b, ns, e, e1, e2, e3⟩ := hin v hv
    subst e
    exact ⟨ns, I2 b ns e1, e2, e3⟩
  · show TS.code 2 (TS.intsOf (h'.push (seqObj "list" acc.toList.toArray 0)) v) = TS.code 2 ns
    rw [t.ints]
  · obtain ⟨e', he'⟩ := PyProof.Rows.sortedHeap_at (vs := acc.toList) (out := out) hoL
    have h3 : ∀ u ∈ out.toList, ∃ a, u = Value.ref a := fun u hu => by
      obtain ⟨b, ns, e, _⟩ := hin u (g1.mem_iff.mp hu)
      exact ⟨b, e⟩
    have hp : (out.toList.map bkV).Perm ((ks.map fun x => x.2.1).map V.ref) := by
      have := g1.map bkV
      rw [ea, List.map_map (f := Value.ref) (g := bkV)] at this
      exact this
    have hlen : (out.toList.map bkV).length ≤ sizeLine := by
      rw [List.length_map, g1.length_eq, hal]
      exact Nat.le_trans (Nat.le_of_lt h64) (by decide)
    refine wpAny_pure ⟨_, rfl, .ref h'.objs.size, upd H h'.objs.size (.lst (out.toList.map bkV)), I1.laid (t' := tk) (fun b u e => ?_) (Nat.le_refl _)
      (show ObjOk X.prog X.w _ _ _ (.lst (out.toList.map bkV)) from ⟨hlen, out.toList, e', bkV_vals h3, by rw [Array.toArray_toList]; exact he'⟩), rfl, q _ _ _ hkeys hp ?_ (I1.hok.fresh (Nat.le_refl _))⟩
    · have hb : b < h'.objs.size := Heap.lt_size e
      rw [PyProof.Rows.sortedHeap_old (Nat.ne_of_lt hb) (by rw [size_push']; exact Nat.lt_succ_of_lt hb)]
      exact Heap.get?_push_of_some _ e
    · rw [List.pairwise_map]
      refine List.Pairwise.imp (fun {u v} huv n m hn hm => ?_) g2
      obtain ⟨t, et, ht⟩ := hn
      obtain ⟨t', et', ht'⟩ := hm
      have eu := bkV_ref et
      have ev := bkV_ref et'
      have i1 : TS.intsOf (h'.push (seqObj "list" acc.toList.toArray 0)) u = n := by
        rw [eu]
        exact (TS.TupInts.keeps (tupI_raw I1 ht) fun c o e _ => Heap.get?_push_of_some _ e).ints
      have i2 : TS.intsOf (h'.push (seqObj "list" acc.toList.toArray 0)) v = m := by
        rw [ev]
        exact (TS.TupInts.keeps (tupI_raw I1 ht') fun c o e _ => Heap.get?_push_of_some _ e).ints
      rw [← i1, ← i2]
      exact huv
end
/-! ### the order of tuples of bits -/
theorem code_inj : ∀ {n m : List Int}, n.length = m.length → TS.Bd 2 n → TS.Bd 2 m → TS.code 2 n ≤ TS.code 2 m → TS.code 2 m ≤ TS.code 2 n → n = m
  | [], [], _, _, _, _, _ => rfl
  | [], _ :: _, h, _, _, _, _ => by cases h
  | _ :: _, [], h, _, _, _, _ => by cases h
  | a :: n, b :: m, h, h1, h2, h3, h4 => by
    have hl : n.length = m.length := by simpa using h
    rcases Int.lt_trichotomy a b with c | c | c
    · have := TS.code_lt hl h1.tail h2.tail c
      omega
    · subst c
      have e : n = m := by
        refine code_inj hl h1.tail h2.tail ?_ ?_
        · rcases Int.lt_or_le (TS.code 2 m) (TS.code 2 n) with z | z
          · have := (TS.code_same (B := 2) (d := a) hl.symm).mpr z
            omega
          · exact z
        · rcases Int.lt_or_le (TS.code 2 n) (TS.code 2 m) with z | z
          · have := (TS.code_same (B := 2) (d := a) hl).mpr z
            omega
          · exact z
      rw [e]
    · have := TS.code_lt hl.symm h2.tail h1.tail c
      omega
def insB (x : List Int) : List (List Int) → List (List Int)
  | [] => [x]
  | y :: r => if TS.code 2 x ≤ TS.code 2 y then x :: y :: r else y :: insB x r
def sortB : List (List Int) → List (List Int)
  | [] => []
  | x :: r => insB x (sortB r)
theorem insB_perm (x : List Int) : ∀ r : List (List Int), (insB x r).Perm (x :: r)
  | [] => .refl _
  | y :: r => by
    unfold insB
    split
    · exact .refl _
    · exact ((insB_perm x r).cons y).trans (.swap x y r)
theorem sortB_perm : ∀ r : List (List Int), (sortB r).Perm r
  | [] => .refl _
  | x :: r => (insB_perm x (sortB r)).trans ((sortB_perm r).cons x)
theorem insB_sorted (x : List Int) : ∀ {r : List (List Int)}, r.Pairwise (fun a b => TS.code 2 a ≤ TS.code 2 b) → (insB x r).Pairwise (fun a b => TS.code 2 a ≤ TS.code 2 b)
  | [], _ => List.pairwise_singleton _ _
  | y :: r, h => by
    obtain ⟨h1, h2⟩ := List.pairwise_cons.mp h
    unfold insB
    split
    · rename_i hxy
      refine List.pairwise_cons.mpr ⟨fun z hz => ?_, h⟩
      rcases List.mem_cons.mp hz with e | e
      · subst e; exact hxy
      · have := h1 z e
        omega
    · rename_i hxy
      refine List.pairwise_cons.mpr ⟨fun z hz => ?_, insB_sorted x h2⟩
      rcases List.mem_cons.mp ((insB_perm x r).mem_iff.mp hz) with e | e
      · subst e; omega
      · exact h1 z e
theorem sortB_sorted : ∀ r : List (List Int), (sortB r).Pairwise (fun a b => TS.code 2 a ≤ TS.code 2 b)
  | [] => .nil
  | x :: r => insB_sorted x (sortB_sorted r)
/-- tuples of ints, all of one length, of bits -/
def bitsOk (d : Nat) (ns : List Int) : Bool := ns.length == d && ns.all fun m => decide (0 ≤ m ∧ m < 2)
theorem bitsOk_spec {d : Nat} {ns : List Int} (h : bitsOk d ns = true) : ns.length = d ∧ TS.Bd 2 ns := by
  unfold bitsOk at h
  rw [Bool.and_eq_true] at h
  exact ⟨eq_of_beq h.1, fun m hm => of_decide_eq_true (List.all_eq_true.mp h.2 m hm)⟩
def allTups : List D → Option (List (List Int))
  | [] => some []
  | .tuple ds :: r => (match allInts ds, allTups r with
    | some ns, some t => some (ns :: t)
    | _, _ => none)
  | _ => none
def tupI (ns : List Int) : D := .tuple (ns.map PyData.int)
theorem allTups_eq : ∀ {ds : List D} {ns : List (List Int)}, allTups ds = some ns → ds = ns.map tupI
  | [], ns, h => by cases h; rfl
  | .tuple i :: r, ns, h => by
    unfold allTups at h
    split at h
    · rename_i a b h1 h2
      cases h
      rw [List.map_cons, ← allTups_eq h2, allInts_eq h1]
      rfl
    · cases h
  | .none :: r, ns, h => by cases h
  | .bool _ :: r, ns, h => by cases h
  | .int _ :: r, ns, h => by cases h
  | .str _ :: r, ns, h => by cases h
  | .list _ :: r, ns, h => by cases h
  | .dict _ :: r, ns, h => by cases h
def sortT (ds : List D) : Option D := match allTups ds with
  | some [] => some (.list [])
  | some (x :: r) => if decide (r.length < 63) && decide (1 ≤ x.length) && (x :: r).all (bitsOk x.length) then some (.list ((sortB (x :: r)).map tupI)) else none
  | none => none
theorem AtL.perm {H : Hp} {vs ws : List V} (p : ws.Perm vs) : ∀ {ds : List D}, AtL H vs ds → ∃ es, es.Perm ds ∧ AtL H ws es := by
  induction p with
  | nil => intro ds h; cases h; exact ⟨[], .refl _, .nil⟩
  | cons x p ih =>
    intro ds h
    cases h with
    | cons h t =>
      obtain ⟨es, p1, p2⟩ := ih t
      exact ⟨_ :: es, p1.cons _, .cons h p2⟩
  | swap x y l =>
    intro ds h
    cases h with
    | cons h t => cases t with
      | cons h' t => exact ⟨_, .swap _ _ _, .cons h' (.cons h t)⟩
  | trans p1 p2 ih1 ih2 =>
    intro ds h
    obtain ⟨es, q1, q2⟩ := ih2 h
    obtain ⟨fs, q3, q4⟩ := ih1 q2
    exact ⟨fs, q3.trans q1, q4⟩
theorem at_tupI {K : PySem.W.Frag} {H : Hp} {v : V} {ns : List Int} (h : At H v (tupI ns)) : TupI K H v ns := by
  unfold tupI at h
  cases h with
  | tup h1 h2 =>
    rw [atL_ints h2] at h1
    exact ⟨_, rfl, SqT.of h1⟩
theorem perm_tupI : ∀ {ns : List (List Int)} {es : List D}, es.Perm (ns.map tupI) → ∃ ms : List (List Int), ms.Perm ns ∧ es = ms.map tupI := fun {ns es} p => by
  have inj : ∀ a b : List Int, a.map PyData.int = b.map PyData.int → a = b := fun a => by
    induction a with
    | nil => intro b h; cases b with
      | nil => rfl
      | cons _ _ => cases h
    | cons x a ih => intro b h; cases b with
      | nil => cases h
      | cons y b =>
        injection h with h1 h2
        injection h1 with h1
        rw [h1, ih b h2]
  have all : ∀ e ∈ es, ∃ n, e = tupI n := fun e he => by
    obtain ⟨n, _, h⟩ := List.mem_map.mp (p.mem_iff.mp he)
    exact ⟨n, h.symm⟩
  let un : D → List Int := fun d => match d with
    | .tuple ds => (allInts ds).getD []
    | _ => []
  have un_i : ∀ n : List Int, allInts (n.map PyData.int) = some n := fun n => by
    induction n with
    | nil => rfl
    | cons x n ih => rw [List.map_cons]; unfold allInts; rw [ih]
  have hu : ∀ n, un (tupI n) = n := fun n => by
    show (allInts (n.map PyData.int)).getD [] = n
    rw [un_i]
    rfl
  refine ⟨es.map un, ?_, ?_⟩
  · have := p.map un
    rw [List.map_map] at this
    have e : (un ∘ tupI) = id := funext fun n => hu n
    rw [e, List.map_id] at this
    exact this
  · rw [List.map_map]
    conv => lhs; rw [← List.map_id es]
    refine List.map_congr_left fun e he => ?_
    obtain ⟨n, rfl⟩ := all e he
    show tupI n = tupI (un (tupI n))
    rw [hu]
theorem sortB_uniq {ns ms : List (List Int)} {d : Nat} (hb : ∀ n ∈ ns, n.length = d ∧ TS.Bd 2 n) (p : ms.Perm ns) (h : ms.Pairwise (fun a b => TS.code 2 a ≤ TS.code 2 b)) : ms = sortB ns :=
  sorted_uniq (fun a ha b hb' h1 h2 => by
    obtain ⟨a1, a2⟩ := hb a (p.mem_iff.mp ha)
    obtain ⟨b1, b2⟩ := hb b (p.mem_iff.mp hb')
    exact code_inj (a1.trans b1.symm) a2 b2 h1 h2) (p.trans (sortB_perm ns).symm) h (sortB_sorted ns)
/-- a sorted list of what was there -/
theorem sortT_at {K : PySem.W.Frag} {H M : Hp} {vs ys : List V} {ns : List (List Int)} {d : Nat} (hM : Ex M H) (h : AtL M vs (ns.map tupI)) (hb : ∀ n ∈ ns, n.length = d ∧ TS.Bd 2 n) (p : ys.Perm vs)
    (hs : ys.Pairwise (fun x y => ∀ n m, TupI K H x n → TupI K H y m → TS.code 2 n ≤ TS.code 2 m)) : AtL M ys ((sortB ns).map tupI) := by
  obtain ⟨es, p1, p2⟩ := AtL.perm p h
  obtain ⟨ms, p3, rfl⟩ := perm_tupI p1
  have e : ms = sortB ns := by
    refine sortB_uniq hb p3 ?_
    have hpw : ∀ {ys : List V} {ms : List (List Int)}, AtL M ys (ms.map tupI) → ys.Pairwise (fun x y => ∀ n m, TupI K H x n → TupI K H y m → TS.code 2 n ≤ TS.code 2 m) → ms.Pairwise (fun a b => TS.code 2 a ≤ TS.code 2 b) := by
      intro ys
      induction ys with
      | nil => intro ms h _; cases ms with
        | nil => exact .nil
        | cons _ _ => cases h
      | cons y ys ih =>
        intro ms h hp
        cases ms with
        | nil => cases h
        | cons m ms =>
          cases h with
          | cons h t =>
            obtain ⟨q1, q2⟩ := List.pairwise_cons.mp hp
            refine List.pairwise_cons.mpr ⟨fun m' hm' => ?_, ih t q2⟩
            obtain ⟨i, hi⟩ := List.getElem?_of_mem (List.mem_map_of_mem (f := tupI) hm')
            obtain ⟨v, hv, ha⟩ := t.get hi
            exact q1 v (List.mem_of_getElem? hv) m m' (at_tupI (h.le (HLe.of hM))) (at_tupI (ha.le (HLe.of hM)))
    exact hpw p2 hs
  rw [← e]
  exact p2
def rSortTA (K : PySem.W.Frag) : List V → Hp → VK → Prop := fun xs H Q => ∃ d, 1 ≤ d ∧ rSortU K d 2 xs H Q
theorem cr_sortTA {X : Cx} : CallR X (.builtin "sorted") (rSortTA X.K) := fun pins s σ H xs us Q I rx q => by
  obtain ⟨d, h1, q⟩ := q
  exact cr_sortT h1 pins s σ H xs us Q I rx q
def gSortT : List D → Option D
  | [.list ds] => sortT ds
  | _ => none
def gSortD : List D → Option D
  | [.dict es] => sortT (es.map (·.1))
  | _ => none
section
variable {K : PySem.W.Frag}
theorem sortT_eq {ds : List D} {z : D} (h : sortT ds = some z) : ∃ ns, ds = ns.map tupI ∧ z = .list ((sortB ns).map tupI) ∧ ns.length < 64 ∧ (ns = [] ∨ ∃ d, 1 ≤ d ∧ ∀ n ∈ ns, n.length = d ∧ TS.Bd 2 n) := by
  unfold sortT at h
  split at h
  · rename_i h1
    cases h
    exact ⟨[], allTups_eq h1, rfl, by decide, .inl rfl⟩
  · rename_i x r h1
    split at h
    · rename_i h2
      cases h
      rw [Bool.and_eq_true, Bool.and_eq_true] at h2
      refine ⟨x :: r, allTups_eq h1, rfl, ?_, .inr ⟨x.length, of_decide_eq_true h2.1.2, fun n hn => bitsOk_spec (List.all_eq_true.mp h2.2 n hn)⟩⟩
      have := of_decide_eq_true h2.1.1
      rw [List.length_cons]
      omega
    · cases h
  · cases h
theorem atL_nil {H : Hp} {vs : List V} (h : AtL H vs []) : vs = [] := by cases h; rfl
theorem cs_sortT : CS (rSortTA K) gSortT := fun S H xs ds z lv p hz Q k => by
  unfold gSortT at hz
  split at hz
  · rename_i l
    obtain ⟨ns, rfl, rfl, h64, hb⟩ := sortT_eq hz
    cases p with
    | cons p1 p2 =>
      cases p2
      cases p1 with
      | lst p1 p2 =>
        rename_i a vs
        have hl : vs.length = ns.length := by rw [p2.length, List.length_map]
        rcases hb with e | ⟨d, hd, hb⟩
        · subst e
          have := atL_nil p2
          subst this
          refine ⟨1, Nat.le_refl _, a, [], rfl, SqL.of (mask_some p1).2, by decide, (fun x hx => nomatch hx), fun ys q hp _ hq => ?_⟩
          rw [List.Perm.eq_nil hp]
          exact k _ _ (Ex.new hq) (.lst (mask_new lv hq) .nil)
        · refine ⟨d, hd, a, vs, rfl, SqL.of (mask_some p1).2, by omega, fun x hx => ?_, fun ys q hp hs hq => ?_⟩
          · obtain ⟨e, he, ha⟩ := p2.mem hx
            obtain ⟨n, hn, rfl⟩ := List.mem_map.mp he
            exact ⟨n, at_tupI ha.out, hb n hn⟩
          · exact k _ _ (Ex.new hq) (.lst (mask_new lv hq) ((sortT_at (mask_sub S H) p2 hb hp hs).mk (Ex.new hq)))
  · cases hz
/-- its keys, where they are -/
theorem keysAt {H : Hp} {S : Addr → Prop} (lv : LvS S H) : ∀ {kvs : List (List Key × V)} {es : List (D × D)} {bs : List Addr}, AtT (mask S H) kvs es → IsKeys H kvs bs → AtL (mask S H) (bs.map V.ref) (es.map (·.1))
  | _, _, _, .nil, h => by cases h; exact .nil
  | _, _, _, .cons (k := k) h t, hk => by
    cases hk with
    | cons h1 t1 =>
      rename_i b bs
      refine .cons (.tup (vs := k.map kV) ?_ ?_) (keysAt lv t t1)
      · rw [mask_out fun z => by
          obtain ⟨o, z1, z2, _⟩ := lv b z
          rw [h1] at z1
          exact z2 _ (Option.some.inj z1).symm]
        exact h1
      · have : ∀ ks : List Key, AtL (mask S H) (ks.map kV) (ks.map kD) := fun ks => by
          induction ks with
          | nil => exact .nil
          | cons a r ih =>
            refine .cons ?_ ih
            cases a with
            | inl i => exact .int i
            | inr x => exact .str x
        exact this k
abbrev rSortDA (K : PySem.W.Frag) : List V → Hp → VK → Prop := fun xs H Q => rSortDT K xs H Q ∨ ∃ (a : Addr) (kvs : List (Key × V)) (ks : List Int), xs = [.ref a] ∧ Rd H a (.dK kvs) ∧ kvs.map (·.1) = ks.map Sum.inl ∧ ks.length < 64 ∧
    ∀ (ys : List Int) (p : Addr), ys.Perm ks → ys.Pairwise (· ≤ ·) → H p = none → Q (.ref p) (upd H p (.lst (ys.map V.int)))
theorem call_sortedDA {X : Cx} (hc : X.calm = true) : CallR X (.builtin "sorted") (rSortDA X.K) := CallR.or (call_sortedDT hc) (call_sortedDI hc)
/-- as CS, the hidden addresses told better -/
def CSs (r : List V → Hp → VK → Prop) (g : List D → Option D) : Prop := ∀ (S : Addr → Prop) (H : Hp) (xs : List V) (ds : List D) (z : D), LvS S H → AtL (mask S H) xs ds → g ds = some z →
  ∀ Q : VK, (∀ v H2, Ex H H2 → At (mask S H2) v z → Q v H2) → r xs H Q
theorem CS.s {r : List V → Hp → VK → Prop} {g : List D → Option D} (h : CS r g) : CSs r g := fun S H xs ds z lv => h S H xs ds z lv.lv
theorem CSs.or {r u : List V → Hp → VK → Prop} {g h : List D → Option D} (a : CSs r g) (b : CSs u h) : CSs (fun xs H Q => r xs H Q ∨ u xs H Q) (fun ds => (g ds).or (h ds)) := fun S H xs ds z lv p hz Q k => by
  have hz : (g ds).or (h ds) = some z := hz
  cases hg : g ds with
  | some z' =>
    rw [hg] at hz
    cases hz
    exact .inl (a S H xs ds _ lv p hg Q k)
  | none =>
    rw [hg] at hz
    exact .inr (b S H xs ds _ lv p (by simpa using hz) Q k)
theorem cs_sortD : CSs (rSortDA K) gSortD := fun S H xs ds z lv p hz Q k => by
  unfold gSortD at hz
  split at hz
  · rename_i es
    obtain ⟨ns, he, rfl, h64, hb⟩ := sortT_eq hz
    cases p with
    | cons p1 p2 =>
      cases p2
      cases p1 with
      | dk p1 p2 =>
        rename_i a kvs
        have hn : ns = [] ∧ kvs = [] := by
          cases p2 with
          | nil =>
            cases ns with
            | nil => exact ⟨rfl, rfl⟩
            | cons _ _ => cases he
          | cons h t =>
            cases ns with
            | nil => cases he
            | cons n ns =>
              injection he with h1 h2
              have no : ∀ k : Key, kD k ≠ tupI n := fun k h => by cases k <;> cases h
              exact absurd h1 (no _)
        obtain ⟨e1, e2⟩ := hn
        subst e1
        subst e2
        refine .inr ⟨a, [], [], rfl, Evl.ex_rd (mask_sub _ _) p1, rfl, by decide, fun ys q hp _ hq => ?_⟩
        rw [List.Perm.eq_nil hp]
        exact k _ _ (Ex.new hq) (.lst (mask_new lv.lv hq) .nil)
      | dt p1 p2 =>
        rename_i a kvs
        have hl : kvs.length = ns.length := by
          rw [p2.length, ← List.length_map (f := fun e : D × D => e.1) (as := es), he, List.length_map]
        have keys : ∀ {kvs : List (List Key × V)} {es : List (D × D)} {ns : List (List Int)}, AtT (mask S H) kvs es → es.map (·.1) = ns.map tupI → ∀ p ∈ kvs, ∃ n ∈ ns, p.1 = n.map Sum.inl := by
          intro kvs
          induction kvs with
          | nil => intro es ns _ _ p hp; cases hp
          | cons x xs ih =>
            intro es ns t he p hp
            cases t with
            | cons h t =>
              cases ns with
              | nil => cases he
              | cons n ns =>
                injection he with h1 h2
                rcases List.mem_cons.mp hp with e | e
                · subst e
                  refine ⟨n, List.mem_cons_self, ?_⟩
                  unfold tupI at h1
                  injection h1 with h1
                  have : ∀ (ks : List Key) (n : List Int), ks.map kD = n.map PyData.int → ks = n.map Sum.inl := by
                    intro ks
                    induction ks with
                    | nil => intro n h; cases n with
                      | nil => rfl
                      | cons _ _ => cases h
                    | cons a ks ih => intro n h; cases n with
                      | nil => cases h
                      | cons b n =>
                        injection h with h1 h2
                        rw [List.map_cons, ← ih n h2]
                        cases a <;> cases h1
                        rfl
                  exact this _ _ h1
                · obtain ⟨m, hm, e2⟩ := ih t h2 p e
                  exact ⟨m, List.mem_cons_of_mem _ hm, e2⟩
        rcases hb with e | ⟨d, hd, hb⟩
        · subst e
          have e0 : kvs = [] := List.eq_nil_of_length_eq_zero (by rw [hl]; rfl)
          subst e0
          refine .inl ⟨a, [], 1, rfl, Evl.ex_rd (mask_sub _ _) p1, by decide, Nat.le_refl _, (fun p hp => nomatch hp), fun bs ys q hk hp _ hq => ?_⟩
          cases hk
          rw [List.Perm.eq_nil hp]
          exact k _ _ (Ex.new hq) (.lst (mask_new lv.lv hq) .nil)
        · refine .inl ⟨a, kvs, d, rfl, Evl.ex_rd (mask_sub _ _) p1, by omega, hd, fun p hp => ?_, fun bs ys q hk hp hs hq => ?_⟩
          · obtain ⟨n, hn, e⟩ := keys p2 he p hp
            exact ⟨n, e, hb n hn⟩
          · have ha := keysAt lv p2 hk
            rw [he] at ha
            exact k _ _ (Ex.new hq) (.lst (mask_new lv.lv hq) ((sortT_at (mask_sub S H) ha hb hp hs).mk (Ex.new hq)))
  · cases hz
def gSorted : List D → Option D := fun ds => (gSortI ds).or ((gSortT ds).or (gSortD ds))
abbrev rSortA (K : PySem.W.Frag) : List V → Hp → VK → Prop := fun xs H Q => rSorted K xs H Q ∨ (rSortTA K xs H Q ∨ rSortDA K xs H Q)
theorem cs_sorted : CSs (rSortA K) gSorted := CSs.or cs_sortI.s (CSs.or cs_sortT.s cs_sortD)
theorem cr_sortA {X : Cx} (hc : X.calm = true) : CallR X (.builtin "sorted") (rSortA X.K) := CallR.or cr_sorted (CallR.or cr_sortTA (call_sortedDA hc))
end
section
variable {X : Cx} {C : CA} {e : Expr} {es : List Expr} {t : TA} {fs : SE → Option (List D)} {pos : Pos}
theorem s_callBs {id : String} {x : Str} {p : Pos} {r : List V → Hp → VK → Prop} {g : List D → Option D} (hc : CallR X (.builtin id) r) (hg : CSs r g) (hgl : Gl X x) (hm : X.mg x = none) (hv : bootBuiltins x = some (.builtin id)) (ha : SemA X C (e :: es) t fs)
    (hn : x ≠ "__name__" := by decide) (hdb : (x == ("__debug__" : Str)) = false := by decide)
    (he : starEach (e :: es) X.env = (false, eval e X.env) :: starEach es X.env := by rfl) (hpl : (backTo pos (starEach es X.env)).any (·.1) = false := by rfl) : SemE X C (.Call (.Name x p) (e :: es) [] pos) (tCB r t) (eA g fs) :=
  ⟨pe_callB hc hgl hm hv ha.pa hn hdb he hpl, fun B S0 H σ env d E hf Q q => by
  unfold eA at hf
  cases h1 : fs env with
  | none => rw [h1] at hf; cases hf
  | some x =>
    rw [h1] at hf
    refine ha.ev B S0 H σ env x E h1 _ fun vs H1 e1 a1 => ?_
    exact hg _ H1 vs x d (E.ext e1).lv a1 hf Q fun z H3 e3 a3 => q z H3 (e1.trans e3) a3⟩
end
end Tm

namespace Tm
open PySem PySem.Spec PyProof.Rows L2
open Evl (Ex)

/-! ### a dict against an empty one -/
section
variable {prog : Program} {w : World} {A : Around} {E : Value → Shared → Prop} {s : Shared}
theorem same_empty {nm : String} {a b : Addr} {oa ob : Obj} {es : Array DictEntry} {ep ep' : Nat} {Q : Bool → Shared → Prop} (ha : (a == sysModules) = false) (hb : (b == sysModules) = false)
    (hoa : s.heap.get? a = some oa) (hda : oa.data = .dict es ep) (hob : s.heap.get? b = some ob) (hdb : ob.data = .dict #[] ep') (h : Q (es.size == 0) s) :
    wpAny (model prog w) A (Builtin.Dict.samePairs nm a b) Q E s := by
  unfold Builtin.Dict.samePairs Builtin.Dict.showsAll
  rw [if_neg (show ¬ (a == sysModules) = true by rw [ha]; exact Bool.false_ne_true), if_neg (show ¬ (b == sysModules) = true by rw [hb]; exact Bool.false_ne_true)]
  refine wpAny_bind (wpAny_pure (wpAny_bind (wpAny_pure ?_)))
  refine wpAny_bind (wpAny_dictEntries hoa hda ?_)
  dsimp only
  refine wpAny_bind (wpAny_dictEntries hob hdb ?_)
  by_cases hsz : es.size = 0
  case neg =>
    rw [if_pos (by simpa using hsz)]
    have hbf : (es.size == 0) = false := by simpa using hsz
    rw [hbf] at h
    exact wpAny_bind (wpAny_rule (wpAny_pure h))
  case pos =>
    have h' : Q true s := by simpa [hsz] using h
    rw [if_neg (by rw [hsz]; simp)]
    refine wpAny_bind (wpAny_dictEpoch hoa hda ?_)
    refine wpAny_bind ?_
    rw [Std.Legacy.Range.forIn_eq_forIn_range', hsz]
    simp only [Std.Legacy.Range.size, Nat.sub_zero, Nat.add_sub_cancel, Nat.div_one, List.range'_zero]
    exact wpAny_pure (wpAny_pure h')
theorem eq_empty {a b : Addr} {oa ob : Obj} {es : Array DictEntry} {ep ep' : Nat} {Q : Value → Shared → Prop} (ha : (a == sysModules) = false) (hb : (b == sysModules) = false)
    (hoa : s.heap.get? a = some oa) (ca : oa.cls = .type "dict") (hda : oa.data = .dict es ep) (hob : s.heap.get? b = some ob) (cb : ob.cls = .type "dict") (hdb : ob.data = .dict #[] ep') (hu : A.units < cLine) (h : Q (.bool (es.size == 0)) s) :
    wpAny (model prog w) A (compareOp .Eq (.ref a) (.ref b)) Q E s := by
  have ta : s.TypeIs (.ref a) "dict" := ⟨oa, hoa, ca⟩
  have tb : s.TypeIs (.ref b) "dict" := ⟨ob, hob, cb⟩
  refine wpAny_richCompare_same_room (op := .Eq) ta tb PySem.F.slot_dict_eq (wpAny_call_entry PySem.F.slot_dict_eq ta PySem.F.entry_dict_eq ?_ (PySem.F.args_dict_eq_2 _ _)) hu
  show wpAny _ _ (Builtin.Dict.dictSlotArgs "__eq__" ⟨[.ref a, .ref b], []⟩ >>= _) _ _ s
  refine wpAny_bind ?_
  unfold Builtin.Dict.dictSlotArgs
  refine wpAny_bind (wpAny_notOrdered_dict ta ?_)
  show wpAny _ _ (pure (Value.ref a, Value.ref b)) _ _ s
  refine wpAny_pure ?_
  refine wpAny_bind (wpAny_isInstance (T := "dict") tb PySem.F.sub_dict_dict ?_)
  simp only [Bool.not_true, Bool.false_eq_true, if_false]
  refine wpAny_bind (wpAny_pure (wpAny_bind (wpAny_pure ?_)))
  refine wpAny_bind (same_empty ha hb hoa hda hob hdb ?_)
  refine wpAny_pure ⟨_, rfl, ?_, ?_⟩
  · exact fun x => nomatch x
  · simpa using h
end
section
variable {X : Cx}
/-- d == {} -/
def rEqE : R2 := fun x y H Q => ∃ a b, x = .ref a ∧ y = .ref b ∧ ((∃ kvs, Rd H a (.dT kvs) ∧ H b = some (.dT []) ∧ Q (.bl (kvs.length == 0)) H) ∨ ∃ kvs, Rd H a (.dK kvs) ∧ H b = some (.dT []) ∧ Q (.bl (kvs.length == 0)) H)
theorem dT_raw {P : Program} {w : World} {H : Hp} {h : Heap} {a : Addr} {kvs : List (List Key × V)} (ok : HOk P w H h) (e : Rd H a (.dT kvs)) : (a == sysModules) = false ∧ ∃ o es ep, h.get? a = some o ∧ o.cls = .type "dict" ∧ o.data = .dict es ep ∧ es.size = kvs.length := by
  obtain ⟨z, hs, ks, pr, o, es, ep, ho, hx, hdt, he, hn⟩ := (show ObjOk P w H h a (.dT kvs) from e.ok ok)
  exact ⟨hs, o, es, ep, ho, hx.1, hdt, by rw [size_of_entries he, Paired.length pr]⟩
theorem dK_raw {P : Program} {w : World} {H : Hp} {h : Heap} {a : Addr} {kvs : List (Key × V)} (ok : HOk P w H h) (e : Rd H a (.dK kvs)) : (a == sysModules) = false ∧ ∃ o es ep, h.get? a = some o ∧ o.cls = .type "dict" ∧ o.data = .dict es ep ∧ es.size = kvs.length := by
  obtain ⟨z, hs, vs, rk, o, es, ep, ho, hx, hdt, hk, hp, hn⟩ := (show ObjOk P w H h a (.dK kvs) from e.ok ok)
  exact ⟨hs, o, es, ep, ho, hx.1, hdt, by rw [Paired.length rk, ← hp.length, Array.length_toList]⟩
theorem op_eqE (hu : X.A.units < cLine) : OpR X (compareOp .Eq) rEqE := by
  intro pins s σ H x y v u Q I rx ry h
  obtain ⟨a, b, rfl, rfl, h⟩ := h
  obtain rfl : v = Value.ref a := rx
  obtain rfl : u = Value.ref b := ry
  rcases h with ⟨kvs, ea, eb, q⟩ | ⟨kvs, ea, eb, q⟩
  · obtain ⟨ha, oa, es, ep, h1, h2, h3, h4⟩ := dT_raw I.hok ea
    obtain ⟨hb, ob, es', ep', g1, g2, g3, g4⟩ := dT_raw I.hok (.inl eb)
    have e0 : es' = #[] := Array.eq_empty_of_size_eq_zero g4
    subst e0
    exact eq_empty ha hb h1 h2 h3 g1 g2 g3 hu ⟨.bl _, H, I, rfl, by rw [h4]; exact q⟩
  · obtain ⟨ha, oa, es, ep, h1, h2, h3, h4⟩ := dK_raw I.hok ea
    obtain ⟨hb, ob, es', ep', g1, g2, g3, g4⟩ := dT_raw I.hok (.inl eb)
    have e0 : es' = #[] := Array.eq_empty_of_size_eq_zero g4
    subst e0
    exact eq_empty ha hb h1 h2 h3 g1 g2 g3 hu ⟨.bl _, H, I, rfl, by rw [h4]; exact q⟩
end
def eEmp (f : SE → Option D) : SE → Option Bool := fun env => match f env with
  | some (.dict es) => some (es.length == 0)
  | _ => none
theorem t_emp {X : Cx} {C : CA} {e : Expr} {te : TE} {f : SE → Option D} {pe_ pos : Pos} (hu : X.A.units < cLine) (h : SemE X C e te f) (hd : PE X (.Dict [] [] pe_) tDNewT) (hm : behindInMarks .Eq (.Dict [] [] pe_) = false := by rfl) :
    SemT X C (.Compare e [.Eq] [.Dict [] [] pe_] pos) (tTest (tOp rEqE te tDNewT)) (eEmp f) := ⟨pt_cmpR (op_eqE hu) h.pe hd hm, fun B S0 H σ env b E hf Q q => by
  unfold eEmp at hf
  split at hf
  case h_2 => cases hf
  rename_i es h1
  cases hf
  refine h.ev B S0 H σ env _ E h1 _ fun v H1 e1 a1 => ?_
  intro p hp
  cases a1 with
  | dk p1 p2 =>
    refine ⟨_, p, rfl, rfl, .inr ⟨_, Evl.ex_rd (Ex.new hp) (Evl.ex_rd (mask_sub _ _) p1), upd_same, _, rfl, ?_⟩⟩
    rw [p2.length]
    exact q _ (e1.trans (Ex.new hp))
  | dt p1 p2 =>
    refine ⟨_, p, rfl, rfl, .inl ⟨_, Evl.ex_rd (Ex.new hp) (Evl.ex_rd (mask_sub _ _) p1), upd_same, _, rfl, ?_⟩⟩
    rw [p2.length]
    exact q _ (e1.trans (Ex.new hp))⟩

/-! ### d.setdefault(k, x), tuple keys -/
section
variable {X : Cx} {pins : List (Addr × Obj)} {σ : L2.St} {H : Hp} {s : Shared} {a b : Addr} {u r : Value} {d : V} {k : List Key} {A : Around} {E : Value → Shared → Prop}
def tDSetdT (td ty tx : TE) : TE := fun σ H Q => td σ H fun x H1 => ∃ a, x = .ref a ∧ IsD H1 a ∧ ty σ H1 fun y H2 => tx σ H2 fun z H3 => ∃ (kvs : List (List Key × V)) (k : List Key) (b : Addr), H3 a = some (.dT kvs) ∧ y = .ref b ∧ H3 b = some (.tup (k.map kV)) ∧ kvs.length < sizeLine ∧
  (∀ v, valV kvs k = some v → Q v H3) ∧ (valV kvs k = none → Q z (upd H3 a (.dT (putK kvs k z))))
theorem d_setdT {kvs : List (List Key × V)} {Q : Value → Shared → Prop} (hu : A.units + 1 < cLine) (I : Inv X pins σ H s) (e : H a = some (.dT kvs)) (eb : H b = some (.tup (k.map kV))) (rd : RelV d r) (hl : kvs.length < sizeLine)
    (h1 : ∀ v, valV kvs k = some v → ∀ (w' : Value) (s' : Shared), Inv X pins σ H s' → RelV v w' → Q w' s') (h2 : valV kvs k = none → ∀ (w' : Value) (s' : Shared), Inv X pins σ (upd H a (.dT (putK kvs k d))) s' → RelV d w' → Q w' s') :
    wpAny (model X.prog X.w) A (call (.builtin "dict.setdefault") [.ref a, .ref b, r]) Q E s := by
  obtain ⟨z, hd, xs, rel, dd⟩ := dt_of I.hok e
  have hz : xs.length ≤ sizeLine := by rw [← Paired.length rel]; exact z
  refine call_setdefault_heap (hsz := hz) (tupleKind_room_in1 hu) (key_of I.hok eb) hd dd (fun p hp => ?_) (fun hn h' dd' hs => ?_)
  · have q := rel.val k
    rw [hp] at q
    cases q0 : valV kvs k with
    | none =>
      rw [q0] at q
      exact (show False from q).elim
    | some v0 =>
      rw [q0] at q
      exact h1 v0 q0 _ _ (I.tok _) q
  · have q := rel.val k
    rw [hn] at q
    cases q0 : valV kvs k with
    | some v0 =>
      rw [q0] at q
      exact (show False from q).elim
    | none =>
      have hl2 : (putK kvs k d).length ≤ sizeLine := by
        have := length_putK kvs k d
        omega
      obtain ⟨o, es, ep, hq, g2, g3, g4, _, g5⟩ := dd'
      refine h2 q0 _ _ (d_write (t' := _) I (by rw [e]; exact True.intro) hs ⟨o, hq⟩ ⟨hl2, hd, _, (rel.put k eb rd).keeps fun c ys ec => ?_, o, es, ep, hq, g2, g3, g4, g5⟩) rd
      rw [upd_ne (ne_of ec e (fun z => nomatch z))]
      exact ec
end
section
variable {X : Cx} {C : CA} {o e f : Expr} {td ty tx : TE} {apos cpos pos px : Pos} {x : Str} {i : Nat} {fk fv : SE → Option D}
theorem pe_dsetdT (hu : X.A.units + 1 < cLine) (ho : PE X o td) (he : PE X e ty) (hf : PE X f tx) (m : M2 X o "setdefault" apos e f cpos) : PE X (.Call (.Attribute o "setdefault" apos) [e, f] [] cpos) (tDSetdT td ty tx) := by
  refine ⟨fun pins s σ H Q I h => ?_⟩
  refine wpAny_Call_method m.base m.few m.line PySem.F.plainAttrs_dict PySem.F.slot_dict_setdefault PySem.F.type_dict_setdefault (thn (ho.run pins s σ H _ I h) fun u s1 ⟨x, H1, I1, rx, a, ex, d, q1⟩ => ?_)
  subst ex
  obtain rfl : u = Value.ref a := rx
  obtain ⟨t1, t2, _⟩ := isD_at I1 d
  refine ⟨t1, t2, ?_⟩
  rw [m.trees]
  refine Calls.callWith_builtin rfl (Calls.evalArgs_plain (Calls.spliced_cons (thn (he.run pins s1 σ H1 _ I1 q1) fun iv s2 ⟨y, H2, I2, ry, q2⟩ =>
    Calls.spliced_cons (thn (hf.run pins s2 σ H2 _ I2 q2) fun fv s3 ⟨z, H3, I3, rz, kvs, k, b, ea, ey, eb, hl, q3, q4⟩ => Calls.spliced_nil ?_))))
  subst ey
  obtain rfl : iv = Value.ref b := ry
  exact d_setdT hu I3 ea eb rz hl (fun v hv w' s4 I4 rw' => ⟨v, _, I4, rw', q3 v hv⟩) fun hn w' s4 I4 rw' => ⟨z, _, I4, rw', q4 hn⟩
def setdD (es : List (D × D)) (y z : D) : List (D × D) := match lookD es y with
  | some _ => es
  | none => es ++ [(y, z)]
def keyT : D → Bool
  | .tuple ds => (keysOf ds).isSome
  | _ => false
def cSetd (i : Nat) (fk fv : SE → Option D) : SE → Option Out := fun env => match env[i]? with
  | some (.ot es) => (match fk env with
    | some y => (match fv env with
      | some z => if keyT y && szOk (es.length + 1) then some (.next (env.set i (.ot (setdD es y z)))) else none
      | none => none)
    | none => none)
  | _ => none
theorem st_setd (hv : PE X (.Name x px) (tVar i)) (hu : X.A.units + 1 < cLine) (hk : SemE X C e ty fk) (hx : SemE X C f tx fv) (m : M2 X (.Name x px) "setdefault" apos e f cpos)
    (hs : swapsWith (.Call (.Attribute (.Name x px) "setdefault" apos) [e, f] [] cpos) none pos.line X.env = pure false := by rfl) :
    SemS X C (.Expr (.Call (.Attribute (.Name x px) "setdefault" apos) [e, f] [] cpos) pos) (tDrop (tDSetdT (tVar i) ty tx)) (cSetd i fk fv) := ⟨ps_expr (pe_dsetdT hu hv hk.pe hx.pe m) hs, fun D B S0 H σ env o E hf P => by
  unfold cSetd at hf
  split at hf
  case h_2 => cases hf
  rename_i es hi
  cases h1 : fk env with
  | none => simp only [h1] at hf; cases hf
  | some y =>
    simp only [h1] at hf
    cases h2 : fv env with
    | none => simp only [h2] at hf; cases hf
    | some z =>
      simp only [h2] at hf
      split at hf
      case isFalse => cases hf
      rename_i hc
      rw [Bool.and_eq_true] at hc
      cases hf
      obtain ⟨p, hp, ⟨kvs, hl, ha⟩, ho⟩ := E.got hi rfl
      refine ⟨.ref p, hp, p, rfl, .inr ⟨kvs, .inl hl⟩, ?_⟩
      refine hk.ev B S0 H σ env y E h1 _ fun vy H1 e1 a1 => hx.ev B S0 H1 σ env z (E.ext e1) h2 _ fun vz H2 e2 a2 => ?_
      have E2 := (E.ext e1).ext e2
      cases y with
      | tuple ds =>
        obtain ⟨ks, hks⟩ := Option.isSome_iff_exists.mp (show (keysOf ds).isSome = true from hc.1)
        have a1' := a1.mk e2
        cases a1' with
        | tup q1 q2 =>
          obtain ⟨g1, g2⟩ := keysOf_at q2 hks
          subst g1
          subst g2
          have hl2 := e2 _ _ (e1 _ _ hl)
          have ha2 := (ha.le (HLe.of (mask_mono e1))).le (HLe.of (mask_mono e2))
          have lk := AtT.look ks ha2
          refine ⟨kvs, ks, _, hl2, rfl, (mask_some q1).2, ?_, fun v hv' => ?_, fun hn => ?_⟩
          · rw [ha.length]
            have h9 : es.length + 1 ≤ 100000 := of_decide_eq_true hc.2
            exact Evl.sz_lt (by omega)
          · rw [hv'] at lk
            cases hlk : lookD es (.tuple (ks.map kD)) with
            | none => rw [hlk] at lk; cases lk
            | some z' =>
              have e0 : env.set i (.ot (setdD es (.tuple (ks.map kD)) z)) = env := by
                unfold setdD
                rw [hlk]
                obtain ⟨g1, g2⟩ := List.getElem?_eq_some_iff.mp hi
                show env.set i (SD.ot es) = env
                rw [← g2]
                exact List.set_getElem_self g1
              exact P σ H2 (by rw [e0]; exact E2)
          · rw [hn] at lk
            cases hlk : lookD es (.tuple (ks.map kD)) with
            | some z' => rw [hlk] at lk; cases lk
            | none =>
              refine P σ _ (E2.mut hi rfl hp rfl ⟨_, upd_same, ?_⟩)
              unfold setdD
              rw [hlk]
              have hpk : putK kvs ks vz = kvs ++ [(ks, vz)] := putK_new vz hn
              rw [hpk]
              exact AtT.snoc a2 ha2
      | _ => cases hc.1⟩
end
end Tm

namespace Tm
open PySem PySem.Spec PyProof.Rows L2
open Evl (Ex)

section
variable {X : Cx} {C : CA} {e a b c : Expr} {te ta tb : TE} {f k : SE → Option D} {p p' pos : Pos} {t : TA} {fs : SE → Option (List D)}
/-! ### list(range(n)), list(range(a, -1, -1)) -/
def eListR (f : SE → Option D) : SE → Option D := fun env => match f env with
  | some (.int n) => if decide (0 ≤ n ∧ n ≤ 100000) then some (.list (upto n.toNat)) else none
  | _ => none
theorem rg_upto {H : Hp} (n : Int) : AtL H (rgV 0 n) (upto n.toNat) := by
  unfold rgV upto
  rw [Int.sub_zero]
  generalize n.toNat = m
  have : ∀ l : List Nat, AtL H (l.map fun i : Nat => V.int (0 + (i : Int))) (l.map fun i : Nat => PyData.int (i : Int)) := fun l => by
    induction l with
    | nil => exact .nil
    | cons x l ih =>
      refine .cons (show At H (V.int (0 + (x : Int))) (PyData.int (x : Int)) from ?_) ih
      rw [Int.zero_add]
      exact .int _
  exact this _
theorem s_listR (hc : X.calm = true) (hg : Gl X "list") (hm : X.mg "list" = none) (hg2 : Gl X "range") (hm2 : X.mg "range" = none) (ha : SemE X C a ta f)
    (na : starEach [.Call (.Name "range" p') [a] [] p] X.env = (false, eval (.Call (.Name "range" p') [a] [] p) X.env) :: starEach [] X.env := by rfl) (na2 : starEach [a] X.env = (false, eval a X.env) :: starEach [] X.env := by rfl) :
    SemE X C (.Call (.Name "list" pos) [.Call (.Name "range" p') [a] [] p] [] p2) (tLstRg (tRg1 ta)) (eListR f) := ⟨pe_listRg hc hg hm (prg_1 hg2 hm2 ha.pe na2) na, fun B S0 H σ env d E hf Q q => by
  unfold eListR at hf
  split at hf
  case h_2 => cases hf
  rename_i n h1
  split at hf
  case isFalse => cases hf
  rename_i hn
  have hn' : 0 ≤ n ∧ n ≤ 100000 := of_decide_eq_true hn
  cases hf
  refine ha.ev B S0 H σ env _ E h1 _ fun v H1 e1 a1 => ?_
  cases a1
  refine ⟨n, rfl, RgOk.of_le (by omega) (by omega) (by omega) (by omega), fun r hr => ?_⟩
  exact q _ _ (e1.trans (Ex.new hr)) (.lst (mask_new (E.ext e1).lvs hr) (rg_upto n))⟩
/-- a, a - 1, .., 0 -/
def dnto (a : Int) : List D := (List.range (a + 1).toNat).map fun (i : Nat) => PyData.int (a - (i : Int))
def dnV (a : Int) : List V := (List.range (a + 1).toNat).map fun (i : Nat) => V.int (a + (i : Int) * (-1))
def tLstDn (t : TA) : TE := fun σ H Q => t σ H fun vs H1 => ∃ a : Int, vs = [.int a, .int (-1), .int (-1)] ∧ -1 ≤ a ∧ a ≤ 100000 ∧ ∀ q, H1 q = none → Q (.ref q) (upd H1 q (.lst (dnV a)))
theorem pe_listDn (hc : X.calm = true) (hg : Gl X "list") (hm : X.mg "list" = none) (hg2 : Gl X "range") (hm2 : X.mg "range" = none) (ha : PA X [a, b, c] t)
    (na : starEach [.Call (.Name "range" p') [a, b, c] [] p] X.env = (false, eval (.Call (.Name "range" p') [a, b, c] [] p) X.env) :: starEach [] X.env := by rfl)
    (hs : starEach [a, b, c] X.env = (false, eval a X.env) :: starEach [b, c] X.env := by rfl) (hpl : (backTo p (starEach [b, c] X.env)).any (·.1) = false := by rfl) :
    PE X (.Call (.Name "list" pos) [.Call (.Name "range" p') [a, b, c] [] p] [] p2) (tLstDn t) := by
  refine ⟨fun pins s σ H Q I h => ?_⟩
  refine Call_ (ld_blt I hg hm boot_list (PyProof.Rows.callWith_type1 (args_cons ?_ na) na))
  refine Call_ (ld_blt I hg2 hm2 boot_range (PyProof.Rows.callWith_type1 (thn (ha.run p pins s σ H _ I h) fun us s1 ⟨vs, H1, I1, r1, q1⟩ => ?_) hs hpl))
  obtain ⟨i, e, h1, h2, q⟩ := q1
  subst e
  cases r1 with
  | cons r rr => cases rr with
    | cons r' rr => cases rr with
      | cons r'' rr =>
        cases rr
        obtain ⟨t, rfl⟩ := r
        obtain ⟨t', rfl⟩ := r'
        obtain ⟨t'', rfl⟩ := r''
        obtain ⟨c0, c1, c2, c3⟩ := RgC.neg (i := i) (j := -1) (by omega) (by omega) (by omega) (by omega)
        refine call_range_3 c0 ?_ (.inl (PyProof.noPylong_small c1))
        have I2 : Inv X pins σ H1 { s1 with heap := s1.heap.push { cls := .type "range", data := .fields #[.int i t, .int (-1) t', .int (-1) t''] } } := I1.kept (t' := s1.toks) fun b o e => Heap.get?_push_of_some _ e
        refine args_nil ?_
        refine call_list_range (n := (i - -1).toNat) (I2.ok.hd hc) (IsRange.new ..) c2 c3 (by omega) fun h' tk acc c' hk e' hi => ?_
        have el : (i - -1).toNat = (i + 1).toNat := by omega
        rw [el] at hi
        refine ⟨.ref _, upd H1 _ (.lst (dnV i)), I2.laid hk (Nat.le_refl _) (show ObjOk X.prog X.w _ _ _ (.lst (dnV i)) from ⟨?_, acc.toList, c', ?_, ?_⟩), rfl, q _ (I2.hok.fresh (Nat.le_refl _))⟩
        · unfold dnV
          rw [List.length_map, List.length_range, sizeLine_eq]
          omega
        · have e : acc.toList.length = (i + 1).toNat := by rw [Array.length_toList]; exact hi.1
          unfold dnV
          rw [← e]
          refine vals_of_get acc.toList _ fun j u hj => ?_
          obtain ⟨t, rfl⟩ := hi.2 j u (by rw [← hj, Array.getElem?_toList])
          exact ⟨t, rfl⟩
        · rw [Array.toArray_toList]; exact e'
def eListDn (f : SE → Option (List D)) : SE → Option D := fun env => match f env with
  | some [.int a, .int b, .int c] => if decide (b = -1 ∧ c = -1 ∧ -1 ≤ a ∧ a ≤ 100000) then some (.list (dnto a)) else none
  | _ => none
theorem s_listDn (hc : X.calm = true) (hg : Gl X "list") (hm : X.mg "list" = none) (hg2 : Gl X "range") (hm2 : X.mg "range" = none) (ha : SemA X C [a, b, c] t fs)
    (na : starEach [.Call (.Name "range" p') [a, b, c] [] p] X.env = (false, eval (.Call (.Name "range" p') [a, b, c] [] p) X.env) :: starEach [] X.env := by rfl)
    (hs : starEach [a, b, c] X.env = (false, eval a X.env) :: starEach [b, c] X.env := by rfl) (hpl : (backTo p (starEach [b, c] X.env)).any (·.1) = false := by rfl) :
    SemE X C (.Call (.Name "list" pos) [.Call (.Name "range" p') [a, b, c] [] p] [] p2) (tLstDn t) (eListDn fs) := ⟨pe_listDn hc hg hm hg2 hm2 ha.pa na hs hpl, fun B S0 H σ env d E hf Q q => by
  unfold eListDn at hf
  split at hf
  case h_2 => cases hf
  rename_i i j l h1
  split at hf
  case isFalse => cases hf
  rename_i hn
  obtain ⟨e1, e2, h2, h3⟩ : j = -1 ∧ l = -1 ∧ -1 ≤ i ∧ i ≤ 100000 := of_decide_eq_true hn
  subst e1
  subst e2
  cases hf
  refine ha.ev B S0 H σ env _ E h1 _ fun vs H1 e1 a1 => ?_
  cases a1 with
  | cons a1 r => cases r with
    | cons a2 r => cases r with
      | cons a3 r =>
        cases r
        cases a1
        cases a2
        cases a3
        refine ⟨i, rfl, h2, h3, fun r hr => ?_⟩
        refine q _ _ (e1.trans (Ex.new hr)) (.lst (mask_new (E.ext e1).lvs hr) ?_)
        unfold dnV dnto
        have : ∀ l : List Nat, AtL (mask (SS S0 σ env) (upd H1 r (.lst (dnV i)))) (l.map fun n : Nat => V.int (i + (n : Int) * (-1))) (l.map fun n : Nat => PyData.int (i - (n : Int))) := fun l => by
          induction l with
          | nil => exact .nil
          | cons x l ih =>
            refine .cons (show At _ (V.int (i + (x : Int) * (-1))) (PyData.int (i - (x : Int))) from ?_) ih
            rw [show i + (x : Int) * (-1) = i - (x : Int) by omega]
            exact .int _
        exact this _⟩
/-! ### xs[::-1] -/
def gRev : D → Option D
  | .list ds => some (.list ds.reverse)
  | _ => none
theorem s_rev {kk : Nat} {p1 p2 p3 : Pos} (h : SemE X C e te f) : SemE X C (.Subscript e (.Slice none none (some (.UnaryOp .USub (.Constant (.int 1) kk p1) p2)) p3) pos) (tRevL X.K te) (e1 gRev f) := ⟨pe_revL h.pe, fun B S0 H σ env d E hf Q q => by
  unfold e1 at hf
  cases h1 : f env with
  | none => rw [h1] at hf; cases hf
  | some x =>
    rw [h1] at hf
    cases x with
    | list ds =>
      cases hf
      refine h.ev B S0 H σ env _ E h1 _ fun v H1 e1 a1 => ?_
      cases a1 with
      | lst p1 p2 => exact ⟨_, _, rfl, SqL.of (mask_some p1).2, fun r hr => q _ _ (e1.trans (Ex.new hr)) (.lst (mask_new (E.ext e1).lvs hr) (p2.mk (Ex.new hr)).reverse)⟩
    | _ => cases hf⟩
/-! ### isinstance -/
def tyN : D → Option String
  | .none => some "NoneType"
  | .bool _ => some "bool"
  | .int _ => some "int"
  | .str _ => some "str"
  | .list _ => some "list"
  | .tuple _ => some "tuple"
  | .dict _ => none
def eIsi (tab : String → Option Bool) (f : SE → Option D) : SE → Option D := fun env => match f env with
  | some d => (match tyN d with
    | some n => (match tab n with
      | some b => some (.bool b)
      | none => none)
    | none => none)
  | none => none
theorem tyN_at {K : PySem.W.Frag} {H : Hp} {v : V} {d : D} {n : String} (h : At H v d) (e : tyN d = some n) : TyX K H v (.type n) := by
  cases h with
  | non => cases e; exact .base .non
  | bl b => cases e; exact .base (.bl b)
  | int b => cases e; exact .base (.int b)
  | str b => cases e; exact .base (.str b)
  | lst p _ => cases e; exact .base (.lst p)
  | tup p _ => cases e; exact .base (.tup p)
  | dk _ _ => cases e
  | dt _ _ => cases e
theorem s_isi {T : String} {x : Str} {pT : Pos} {tab : String → Option Bool} (hgl : Gl X "isinstance") (hm : X.mg "isinstance" = none) (hT : Gl X x) (hmT : X.mg x = none) (hv : bootBuiltins x = some (.type T)) (htab : ∀ n b, tab n = some b → kitB n T = some b) (h : SemE X C e te f)
    (hxn : x ≠ "__name__" := by decide) (hxd : (x == ("__debug__" : Str)) = false := by decide) (hs0 : starEach [.Name x pT] X.env = (false, eval (.Name x pT) X.env) :: starEach [] X.env := by rfl)
    (he : starEach [e, .Name x pT] X.env = (false, eval e X.env) :: starEach [.Name x pT] X.env := by rfl) (hpl : (backTo pos (starEach [.Name x pT] X.env)).any (·.1) = false := by rfl) :
    SemE X C (.Call (.Name "isinstance" p) [e, .Name x pT] [] pos) (tCB (rIsi X.K) (tCons te (tCons (tC (.ty T)) tNil))) (eIsi tab f) :=
  ⟨pe_callB call_isi hgl hm boot_isinstance (pa_cons h.pe (pa_cons (pe_bltn hT hmT hv rfl hxn hxd) pa_nil hs0) he) (by decide) (by decide) he hpl, fun B S0 H σ env d E hf Q q => by
  unfold eIsi at hf
  cases h1 : f env with
  | none => simp only [h1] at hf; cases hf
  | some x =>
    simp only [h1] at hf
    cases h2 : tyN x with
    | none => simp only [h2] at hf; cases hf
    | some n =>
      simp only [h2] at hf
      cases h3 : tab n with
      | none => simp only [h3] at hf; cases hf
      | some b =>
        simp only [h3] at hf
        cases hf
        refine h.ev B S0 H σ env _ E h1 _ fun v H1 e1 a1 => ?_
        exact ⟨v, .ty T, .type n, .type T, b, rfl, .ty T, tyN_at a1.out h2, kit_ty (htab n b h3), q _ H1 e1 (.bl _)⟩⟩
def tabOf (T : String) : String → Option Bool := fun n => if n = "NoneType" ∨ n = "bool" ∨ n = "int" ∨ n = "str" ∨ n = "list" ∨ n = "tuple" then some (decide (n = T) || (decide (n = "bool") && decide (T = "int"))) else none
theorem tab_ok {T : String} (h1 : kitB "NoneType" T = tabOf T "NoneType") (h2 : kitB "bool" T = tabOf T "bool") (h3 : kitB "int" T = tabOf T "int") (h4 : kitB "str" T = tabOf T "str") (h5 : kitB "list" T = tabOf T "list") (h6 : kitB "tuple" T = tabOf T "tuple") :
    ∀ n b, tabOf T n = some b → kitB n T = some b := fun n b h => by
  by_cases e1 : n = "NoneType"
  · subst e1; rw [h1]; exact h
  by_cases e2 : n = "bool"
  · subst e2; rw [h2]; exact h
  by_cases e3 : n = "int"
  · subst e3; rw [h3]; exact h
  by_cases e4 : n = "str"
  · subst e4; rw [h4]; exact h
  by_cases e5 : n = "list"
  · subst e5; rw [h5]; exact h
  by_cases e6 : n = "tuple"
  · subst e6; rw [h6]; exact h
  unfold tabOf at h
  rw [if_neg (by simp [e1, e2, e3, e4, e5, e6])] at h
  cases h
theorem tab_int : ∀ n b, tabOf "int" n = some b → kitB n "int" = some b := tab_ok (by decide +kernel) (by decide +kernel) (by decide +kernel) (by decide +kernel) (by decide +kernel) (by decide +kernel)
theorem tab_bool : ∀ n b, tabOf "bool" n = some b → kitB n "bool" = some b := tab_ok (by decide +kernel) (by decide +kernel) (by decide +kernel) (by decide +kernel) (by decide +kernel) (by decide +kernel)
theorem tab_str : ∀ n b, tabOf "str" n = some b → kitB n "str" = some b := tab_ok (by decide +kernel) (by decide +kernel) (by decide +kernel) (by decide +kernel) (by decide +kernel) (by decide +kernel)
theorem tab_list : ∀ n b, tabOf "list" n = some b → kitB n "list" = some b := tab_ok (by decide +kernel) (by decide +kernel) (by decide +kernel) (by decide +kernel) (by decide +kernel) (by decide +kernel)
theorem tab_tuple : ∀ n b, tabOf "tuple" n = some b → kitB n "tuple" = some b := tab_ok (by decide +kernel) (by decide +kernel) (by decide +kernel) (by decide +kernel) (by decide +kernel) (by decide +kernel)
/-! ### the written part: FORMS, ORDERS -/
def formOf (z : Str) : Option Str :=
  if z = "stuck" then some "cv" else if z = "slow" then some "cv" else if z = "forgets" then some "cv" else if z = "misreads" then some "cv" else if z = "turns" then some "ccv"
  else if z = "sets" then some "ccvv" else if z = "keeps" then some "ccvv" else if z = "nowhere" then some "cv" else if z = "other" then some "cc" else if z = "both" then some "cch" else none
def FormsAt (K : PySem.W.Frag) (w : World) (a : Addr) : Prop := (a == sysModules) = false ∧ ∀ z u, formOf z = some u → KDct K w a z (.str u)
def eForm (f : SE → Option D) : SE → Option D := fun env => match f env with
  | some (.str z) => (match formOf z with
    | some u => some (.str u)
    | none => none)
  | _ => none
theorem s_form {F : Addr} {pF : Pos} (hF : FormsAt X.K X.w F) (hg : Gl X "FORMS") (hm : X.mg "FORMS" = some (.ref F)) (h : SemE X C e te f) (hs : PlainIx e) : SemE X C (.Subscript (.Name "FORMS" pF) e pos) (tOp (rIxD X.K X.w) (tC (.ref F)) te) (eForm f) :=
  ⟨pe_ix ix_kdict (pe_glob hg hm rfl) h.pe hs, fun B S0 H σ env d E hf Q q => by
  unfold eForm at hf
  split at hf
  case h_2 => cases hf
  rename_i z h1
  split at hf
  case h_2 => cases hf
  rename_i u h2
  cases hf
  refine h.ev B S0 H σ env _ E h1 _ fun v H1 e1 a1 => ?_
  cases a1
  exact ⟨F, z, .str u, rfl, rfl, hF.2 z u h2, q _ H1 e1 (.str _)⟩⟩
def rNotInK (K : PySem.W.Frag) (w : World) : R2 := fun x y H Q => ∃ p z v, x = .str z ∧ y = .ref p ∧ (p == sysModules) = false ∧ KDct K w p z v ∧ Q (.bl false) H
theorem op_notInK : OpR X (compareOp .NotIn) (rNotInK X.K X.w) := by
  intro pins s σ H x y v u Q I rx ry h
  obtain ⟨p, z, r, rfl, rfl, hp, ⟨es, n, u0, hl, hk, e, ru⟩, q⟩ := h
  obtain rfl : u = Value.ref p := ry
  obtain ⟨t, rfl⟩ := rx
  have hm := PySem.W.mapOf_K (prog := X.prog) (w := X.w) I.kIn hl hk
  refine wpAny_notIn_of (strKind_is X.prog X.w z t) hp hm ?_
  rw [PySem.W.find_K hl e]
  exact ⟨.bl false, H, I.tok _, rfl, q⟩
def bNoForm (f : SE → Option D) : SE → Option Bool := fun env => match f env with
  | some (.str z) => (match formOf z with
    | some _ => some false
    | none => none)
  | _ => none
theorem t_noForm {F : Addr} {pF : Pos} (hF : FormsAt X.K X.w F) (hg : Gl X "FORMS") (hm : X.mg "FORMS" = some (.ref F)) (h : SemE X C e te f) (hb : behindInMarks .NotIn (.Name "FORMS" pF) = false := by rfl) :
    SemT X C (.Compare e [.NotIn] [.Name "FORMS" pF] pos) (tTest (tOp (rNotInK X.K X.w) te (tC (.ref F)))) (bNoForm f) :=
  ⟨pt_cmpR op_notInK h.pe (pe_glob hg hm rfl) hb, fun B S0 H σ env d E hf Q q => by
  unfold bNoForm at hf
  split at hf
  case h_2 => cases hf
  rename_i z h1
  split at hf
  case h_2 => cases hf
  rename_i u h2
  cases hf
  refine h.ev B S0 H σ env _ E h1 _ fun v H1 e1 a1 => ?_
  cases a1
  exact ⟨F, z, .str u, rfl, rfl, hF.1, hF.2 z u h2, _, rfl, q H1 e1⟩⟩
def ordV : List V := [.str "up", .str "down", .str "any"]
def ordD : List D := [.str "up", .str "down", .str "any"]
def eInOrd (f : SE → Option D) : SE → Option D := fun env => match f env with
  | some d => if flatD d then some (.bool (inD d ordD)) else none
  | none => none
theorem s_inOrd {F : Addr} {pF : Pos} (hF : ∀ H, SqT X.K H F ordV) (hg : Gl X "ORDERS") (hm : X.mg "ORDERS" = some (.ref F)) (h : SemE X C e te f) (hb : behindInMarks .In (.Name "ORDERS" pF) = false := by rfl) :
    SemE X C (.Compare e [.In] [.Name "ORDERS" pF] pos) (tOp (rIn X.K false) te (tC (.ref F))) (eInOrd f) :=
  ⟨pe_cmpR op_in_seq h.pe (pe_glob hg hm rfl) hb, fun B S0 H σ env d E hf Q q => by
  unfold eInOrd at hf
  cases h1 : f env with
  | none => simp only [h1] at hf; cases hf
  | some x =>
    simp only [h1] at hf
    split at hf
    case isFalse => cases hf
    rename_i hx
    cases hf
    refine h.ev B S0 H σ env _ E h1 _ fun v H1 e1 a1 => ?_
    have ho : AtL (mask (SS S0 σ env) H1) ordV ordD := .cons (.str _) (.cons (.str _) (.cons (.str _) .nil))
    obtain ⟨g1, g2⟩ := in_flat a1 hx ho rfl
    refine ⟨F, ordV, rfl, .inr (hF _), by rw [flat_at a1]; exact hx, g1, ?_⟩
    rw [g2]
    exact q _ H1 e1 (.bl _)⟩
/-! ### the script -/
def eLenSc (i : Nat) : SE → Option D := fun env => match env[i]? with
  | some (.sc ns) => some (.int ns.length)
  | _ => none
theorem s_lenSc {x : Str} {px : Pos} {i : Nat} (hv : PE X (.Name x px) (tVar i)) (h : PE X (.Call (.Name "len" p) [.Name x px] [] pos) (tCB (fun xs H Q => ∃ p ys, xs = [.ref p] ∧ (SqL X.K H p ys ∨ SqT X.K H p ys) ∧ Q (.int ys.length) H) (tCons (tVar i) tNil))) :
    SemE X C (.Call (.Name "len" p) [.Name x px] [] pos) (tCB (fun xs H Q => ∃ p ys, xs = [.ref p] ∧ (SqL X.K H p ys ∨ SqT X.K H p ys) ∧ Q (.int ys.length) H) (tCons (tVar i) tNil)) (eLenSc i) := ⟨h, fun B S0 H σ env d E hf Q q => by
  unfold eLenSc at hf
  split at hf
  case h_2 => cases hf
  rename_i ns hi
  cases hf
  obtain ⟨a, ha, hs⟩ := E.slot i _ hi
  refine ⟨.ref a, ha, a, _, rfl, .inl (sqL_le (HLe.of (mask_sub _ _)) hs), ?_⟩
  rw [List.length_map]
  exact q _ H (Ex.refl H) (.int _)⟩
def eSlSc (i : Nat) (l h : SE → Option (Option Int)) : SE → Option D := fun env => match env[i]? with
  | some (.sc ns) => (match l env with
    | some a => (match h env with
      | some b => some (.list (cutD (ns.map PyData.int) a b))
      | none => none)
    | none => none)
  | _ => none
theorem s_slSc {x : Str} {px p2 : Pos} {i : Nat} {lo hi : Option Expr} {tl th : TO} {fl fh : SE → Option (Option Int)} (hv : PE X (.Name x px) (tVar i)) (hl : SemO X C lo tl fl) (hu : SemO X C hi th fh) :
    SemE X C (.Subscript (.Name x px) (.Slice lo hi none p2) pos) (tSl (rSlL X.K) (tVar i) tl th) (eSlSc i fl fh) := ⟨pe_slice sl_list hv hl.po hu.po, fun B S0 H σ env d E hf Q q => by
  unfold eSlSc at hf
  split at hf
  case h_2 => cases hf
  rename_i ns hi
  cases h2 : fl env with
  | none => simp only [h2] at hf; cases hf
  | some y =>
    simp only [h2] at hf
    cases h3 : fh env with
    | none => simp only [h3] at hf; cases hf
    | some z =>
      simp only [h3] at hf
      cases hf
      obtain ⟨a, ha, hs⟩ := E.slot i _ hi
      refine ⟨.ref a, ha, hl.ev B S0 H σ env y E h2 _ fun H2 e2 => hu.ev B S0 H2 σ env z (E.ext e2) h3 _ fun H3 e3 => ?_⟩
      have E3 := (E.ext e2).ext e3
      refine ⟨a, _, rfl, sqL_le (HLe.of ((mask_sub _ _).trans (e2.trans e3))) hs, fun r hr => ?_⟩
      exact q _ _ ((e2.trans e3).trans (Ex.new hr)) (.lst (mask_new E3.lvs hr) (cut_at (AtL.ints ns) y z))⟩
/-! ### range(0, n, 6) -/
def by6 (n : Nat) : List D := (List.range n).map fun (i : Nat) => PyData.int ((i : Int) * 6)
def iRange6 (f : SE → Option (List D)) : SE → Option (List D) := fun env => match f env with
  | some [.int a, .int j, .int c] => if decide (a = 0 ∧ c = 6 ∧ 1 ≤ j ∧ j ≤ 48) then some (by6 ((j.toNat + 5) / 6)) else none
  | _ => none
theorem rg6 : ∀ j : Fin 48, Builtin.Range.small 0 ((j.val + 1 : Nat) : Int) 6 = true ∧ Builtin.Range.rangeSize 0 ((j.val + 1 : Nat) : Int) 6 = (((j.val + 1 + 5) / 6 : Nat) : Int) := by decide +kernel
theorem yl_range6 {M : Hp} {n : Nat} : Yields M (Itc 0 6 n) (by6 n) := fun S' H' e lv i => by
  refine ⟨fun d hd => ?_, fun hi => (show n ≤ i by unfold by6 at hi; simp at hi; omega)⟩
  unfold by6 at hd
  rw [List.getElem?_map] at hd
  obtain ⟨j, h1, h2⟩ := Option.map_eq_some_iff.mp hd
  obtain ⟨h3, h4⟩ := List.getElem?_eq_some_iff.mp h1
  simp at h3 h4
  subst h4
  refine ⟨h3, fun x H2 y => ?_⟩
  obtain ⟨e1, e2⟩ := y
  subst e1
  subst e2
  rw [← h2, Int.zero_add]
  exact ⟨Ex.refl _, .int _⟩
theorem i_range6 {tg : Expr} (hg : Gl X "range") (hm : X.mg "range" = none) (h : SemA X C [a, b, c] t fs)
    (hs : starEach [a, b, c] X.env = (false, eval a X.env) :: starEach [b, c] X.env := by rfl) (hpl : (backTo pos (starEach [b, c] X.env)).any (·.1) = false := by rfl) :
    SemI X C tg (.Call (.Name "range" p) [a, b, c] [] pos) (iRng3 t) (iRange6 fs) := ⟨pi_range3 hg hm h.pa hs hpl, fun B S0 H σ env ds E hf R r => by
  unfold iRange6 at hf
  split at hf
  case h_2 => cases hf
  rename_i i j l h1
  split at hf
  case isFalse => cases hf
  rename_i hn
  obtain ⟨e1, e2, h2, h3⟩ : i = 0 ∧ l = 6 ∧ 1 ≤ j ∧ j ≤ 48 := of_decide_eq_true hn
  subst e1
  subst e2
  cases hf
  refine h.ev B S0 H σ env _ E h1 _ fun vs H1 e1 a1 => ?_
  cases a1 with
  | cons a1 r => cases r with
    | cons a2 r => cases r with
      | cons a3 r =>
        cases r
        cases a1
        cases a2
        cases a3
        have hj := rg6 ⟨j.toNat - 1, by omega⟩
        have ej : ((j.toNat - 1 + 1 : Nat) : Int) = j := by omega
        have en : (j.toNat - 1 + 1 + 5) / 6 = (j.toNat + 5) / 6 := by
          rw [show j.toNat - 1 + 1 = j.toNat by omega]
        simp only [ej, en] at hj
        exact ⟨0, j, 6, (j.toNat + 5) / 6, rfl, ⟨by decide, by decide, hj.1, hj.2⟩, r _ H1 e1 yl_range6⟩⟩
end
end Tm

namespace Tm
open PySem PySem.Spec PyProof.Rows L2
open Evl (Ex)

/-! ### zip of a tuple and a text -/
def ItzS (K : PySem.W.Frag) (a : Addr) (x : Str) : It :=
  ⟨fun i H => ∃ (xs : List V) (y : V) (c : Nat), SqT K H a xs ∧ xs[i]? = some y ∧ x.cps[i]? = some c,
    fun i H v H' => ∃ T y c, v = .ref T ∧ H T = none ∧ H' = upd H T (.tup [y, .str ⟨#[c]⟩]) ∧ (∀ xs, SqT K H a xs → xs[i]? = some y) ∧ x.cps[i]? = some c,
    fun i H => ∃ xs : List V, SqT K H a xs ∧ i = min xs.length x.cps.size⟩
theorem turn_zipS {P : Program} {w : World} {K : PySem.W.Frag} {elts : List Expr} {kk : Nat} {tpos : Pos} {a z TI TO i1 i2 : Addr} {x : Str} {t : Tok} (S : ZipSep2 z TI TO i1 i2 [i1, a] [i2]) (ha : a ≠ i1) :
    Turn P w K (.Tuple elts kk tpos) (ItzS K a x) [z, TI, TO, i1, i2] z
      (fun i h => IsZip h z TI TO .none ∧ IsTupOf2 h TI (.ref i1) (.ref i2) ∧ (∃ u v, IsTupOf2 h TO u v) ∧ h.IsTupleIter i1 a i ∧ h.IsStrIter i2 (strIterType x) x t i) where
  mem := by simp
  obj := fun i h st c hc => by
    obtain ⟨hz, hTI, ⟨u, v, hTO⟩, ⟨o1, g1, _, d1⟩, ⟨o2, g2, _, d2⟩⟩ := st
    simp only [List.mem_cons, List.not_mem_nil, or_false] at hc
    rcases hc with rfl | rfl | rfl | rfl | rfl
    · exact ⟨_, hz, fun v q => nomatch q⟩
    · exact ⟨_, hTI, fun v q => nomatch q⟩
    · exact ⟨_, hTO, fun v q => nomatch q⟩
    · exact ⟨o1, g1, fun v q => by rw [d1] at q; cases q⟩
    · exact ⟨o2, g2, fun v q => by rw [d2] at q; cases q⟩
  keep := fun i h h' st k => by
    obtain ⟨hz, hTI, ⟨u, v, hTO⟩, h1, ⟨o2, g2, r⟩⟩ := st
    exact ⟨k z (by simp) _ hz, k TI (by simp) _ hTI, ⟨u, v, k TO (by simp) _ hTO⟩, h1.at fun o q => k i1 (by simp) o q, ⟨o2, k i2 (by simp) o2 g2, r⟩⟩
  item := by
    intro X hP hw hK hc i pins s σ H E I hf st hg
    subst hP hw hK
    obtain ⟨hz, hTI, hTO, h1, h2⟩ := st
    obtain ⟨xs, y, c, hq, hy, hcx⟩ := hg
    obtain ⟨its, rv, p, _⟩ := I.tuple hq
    obtain ⟨u, hu, ru⟩ := rv.get hy
    have hh : X.A.in1.handled = none := I.ok.hd hc
    have W := WalksT.zipD2 S (Draws.tuple (prog := X.prog) (w := X.w) hh i1 a ha its.toArray) (Draws.text (prog := X.prog) (w := X.w) hh i2 x t)
    have hi1 : i < its.toArray.size := by
      have := (List.getElem?_eq_some_iff.mp hu).1
      simpa using this
    have hi2 : i < x.cps.size := (Array.getElem?_eq_some_iff.mp hcx).1
    refine W.item i s _ _ (by omega) ⟨hz, hTI, hTO, ⟨h1, p⟩, h2⟩ fun T vals h' tk hP hT hTup hMid hk => ?_
    obtain ⟨x1, x2, e1, ⟨c', tk', e2, rfl⟩, rfl⟩ := hP
    have eu : x1 = u := by
      have h9 : its.toArray[i]? = some u := by simpa using hu
      rw [h9] at e1
      exact (Option.some.inj e1).symm
    subst eu
    have ec : c' = c := by
      rw [hcx] at e2
      exact (Option.some.inj e2).symm
    subst ec
    have hT' := W.apart i T h' hMid
    refine ⟨_, rfl, W.go elts kk tpos i T { s with heap := h', toks := tk } _ _ hMid fun h'' st' hk' => ?_⟩
    obtain ⟨hz', hTI', hTO', ⟨h1', _⟩, h2'⟩ := st'
    obtain ⟨oT, gT, cT, nT, dT⟩ := hTup
    have new : ObjOk X.prog X.w (upd H T (.tup [y, .str ⟨#[c']⟩])) h'' T (.tup [y, .str ⟨#[c']⟩]) :=
      ⟨by show 2 ≤ sizeLine; decide, [x1, .str ⟨#[c']⟩ tk'], .cons ru (.cons ⟨_, rfl⟩ .nil), ⟨oT, hk' T oT hT' gT, cT, nT, dT⟩⟩
    have sub : ∀ b, b ∈ [z, TO, i1, i2] → b ∈ [z, TI, TO, i1, i2] := fun b hb => by
      simp only [List.mem_cons, List.not_mem_nil, or_false] at hb ⊢
      rcases hb with h | h | h | h
      · exact .inl h
      · exact .inr (.inr (.inl h))
      · exact .inr (.inr (.inr (.inl h)))
      · exact .inr (.inr (.inr (.inr h)))
    have I1 : Inv X pins σ (upd H T (.tup [y, .str ⟨#[c']⟩])) { s with heap := h'', toks := tk } :=
      I.turnedNew (t' := tk) (ch := [z, TO, i1, i2]) (fun b o hb q => hk' b o hb (hk b o hb q)) (fun b hb => hf b (sub b hb)) hT new
    refine ⟨.ref T, _, I1, rfl, ⟨T, y, c', rfl, I.hok.fresh hT, rfl, fun l hl => by rw [I.tuple_inj hl hq]; exact hy, hcx⟩, ⟨hz', hTI', hTO', h1', h2'⟩, fun b hb => ?_⟩
    have hlt : b < s.heap.objs.size := by
      obtain ⟨u', v', hTO⟩ := hTO
      simp only [List.mem_cons, List.not_mem_nil, or_false] at hb
      rcases hb with rfl | rfl | rfl | rfl | rfl
      · exact Heap.lt_size hz
      · exact Heap.lt_size hTI
      · exact Heap.lt_size hTO
      · obtain ⟨_, g, _⟩ := h1; exact Heap.lt_size g
      · obtain ⟨_, g, _⟩ := h2; exact Heap.lt_size g
    rw [upd_ne (Nat.ne_of_lt (Nat.lt_of_lt_of_le hlt hT))]
    exact (hf b hb).1
  done := by
    intro X hP hw hK hc i pins s σ H E I hf st hg
    subst hP hw hK
    obtain ⟨hz, hTI, ⟨u, v, hTO⟩, h1, h2⟩ := st
    obtain ⟨xs, hq, hend⟩ := hg
    obtain ⟨its, rv, p, _⟩ := I.tuple hq
    have hl := rv.length
    have hh : X.A.in1.handled = none := I.ok.hd hc
    refine wpAny_pyNext_zipD2_end S (Draws.tuple (prog := X.prog) (w := X.w) hh i1 a ha its.toArray) (Draws.text (prog := X.prog) (w := X.w) hh i2 x t) hz hTI hTO ⟨h1, p⟩ h2 (by rw [List.size_toArray]; omega) (by omega) (by rw [List.size_toArray]; omega) fun h' tk hk => ?_
    refine ⟨rfl, I.turnedL (t' := tk) (ch := [z, TO, i1, i2]) (fun c o hb q => hk c o (fun e => hb (by simp [e])) (fun e => hb (by simp [e])) (fun e => hb (by simp [e])) (fun e => hb (by simp [e])) q) fun b hb => hf b ?_⟩
    simp only [List.mem_cons, List.not_mem_nil, or_false] at hb ⊢
    rcases hb with h | h | h | h
    · exact .inl h
    · exact .inr (.inr (.inl h))
    · exact .inr (.inr (.inr (.inl h)))
    · exact .inr (.inr (.inr (.inr h)))
  self := fun A i s Q E st h => wpAny_pyIter_zip st.1 h
theorem zsep (k a : Nat) (h : a < k) : ZipSep2 (k + 4) (k + 2) (k + 3) k (k + 1) [k, a] [k + 1] := by
  have e : a ≠ k + 4 ∧ a ≠ k + 3 ∧ a ≠ k + 1 := ⟨by omega, by omega, by omega⟩
  obtain ⟨e1, e2, e3⟩ := e
  constructor <;> simp <;> first | exact e1.symm | exact e2.symm | exact e3.symm | exact ⟨by omega, e1.symm⟩ | skip
  all_goals trivial
theorem zle (k b : Nat) (h : b ∈ [k + 4, k + 2, k + 3, k, k + 1]) : k ≤ b := by
  simp at h
  omega
def iZipS (K : PySem.W.Frag) (ta : TA) : TI := fun σ H R => ta σ H fun vs H1 => ∃ a xs x, vs = [.ref a, .str x] ∧ SqT K H1 a xs ∧ R (ItzS K a x) H1
theorem pi_zipS {X : Cx} {e e2 : Expr} {ta : TA} {p pos tpos : Pos} {elts : List Expr} {kk : Nat} (hg : Gl X "zip") (hm : X.mg "zip" = none) (ha : PA X [e, e2] ta)
    (hs : starEach [e, e2] X.env = (false, eval e X.env) :: starEach [e2] X.env := by rfl) (hpl : (backTo pos (starEach [e2] X.env)).any (·.1) = false := by rfl) :
    PI X (.Tuple elts kk tpos) (.Call (.Name "zip" p) [e, e2] [] pos) (iZipS X.K ta) := by
  refine ⟨fun pins s σ H R I h => ?_⟩
  refine Call_ (ld_blt I hg hm PyProof.Rows.boot_zip (PyProof.Rows.callWith_type1 (thn (ha.run pos pins s σ H _ I h) fun us s1 ⟨vs, H1, I1, r1, q1⟩ => ?_) hs hpl))
  obtain ⟨a, xs, x, rfl, hq, q⟩ := q1
  cases r1 with
  | cons r rr =>
    cases rr with
    | cons r' rr =>
      cases rr
      cases r
      obtain ⟨t, rfl⟩ := r'
      obtain ⟨its, rv, p1, _⟩ := I1.tuple hq
      have hlt : a < s1.heap.objs.size := p1.lt
      refine zip_begins2 (begins_tuple a its.toArray) (begins_text x t) p1 trivial fun h' hz hTI hTO g1 g2 hsz hk => wpAny_pyIter_zip hz ?_
      have I2 : Inv X pins σ H1 { s1 with heap := h' } := I1.kept (t' := s1.toks) hk
      refine ⟨s1.heap.objs.size + 4, [s1.heap.objs.size + 4, s1.heap.objs.size + 2, s1.heap.objs.size + 3, s1.heap.objs.size, s1.heap.objs.size + 1], _, ItzS X.K a x, H1, rfl, I2,
        turn_zipS (t := t) (TI := s1.heap.objs.size + 2) (TO := s1.heap.objs.size + 3) (i1 := s1.heap.objs.size) (i2 := s1.heap.objs.size + 1) ?_ (Nat.ne_of_lt hlt), ⟨hz, hTI, ⟨_, _, hTO⟩, ⟨_, g1, rfl, rfl⟩, ⟨_, g2, rfl, rfl⟩⟩, fun b hb => ?_, q⟩
      · exact zsep _ _ hlt
      · have hle : s1.heap.objs.size ≤ b := zle _ _ hb
        exact I1.fpOk hle (I1.hok.fresh hle)
/-- the signs of a text, each as a text -/
def signs (x : Str) : List D := x.cps.toList.map fun c => .str ⟨#[c]⟩
def iZipSD (f : SE → Option (List D)) : SE → Option (List D) := fun env => match f env with
  | some [.tuple as, .str x] => some (zipD as (signs x))
  | _ => none
theorem yl_zipS {K : PySem.W.Frag} {S : Addr → Prop} {H : Hp} {a : Addr} {vs : List V} {ds : List D} {x : Str} (h : mask S H a = some (.tup vs)) (t : AtL (mask S H) vs ds) : Yields (mask S H) (ItzS K a x) (zipD ds (signs x)) := fun S' H' e lv i => by
  have hl : SqT K H' a vs := SqT.of (mask_some (e a _ h)).2
  refine ⟨fun d hd => ?_, fun hi => ⟨vs, hl, ?_⟩⟩
  · obtain ⟨y, z, hy, hz, rfl⟩ := zip_get ds (signs x) i d hd
    obtain ⟨v, h1, h2⟩ := t.get hy
    unfold signs at hz
    rw [List.getElem?_map] at hz
    obtain ⟨c, hc, rfl⟩ := Option.map_eq_some_iff.mp hz
    have hc' : x.cps[i]? = some c := by rw [← hc, Array.getElem?_toList]
    refine ⟨⟨vs, v, c, hl, h1, hc'⟩, fun w H2 y => ?_⟩
    obtain ⟨T, w1, c', rfl, hT, rfl, y1, y2⟩ := y
    have e1 := y1 vs hl
    rw [h1] at e1
    cases e1
    rw [hc'] at y2
    cases y2
    exact ⟨Ex.new hT, .tup (mask_new (LvS.lv lv) hT) (.cons ((h2.le (HLe.of e)).mk (Ex.new hT)) (.cons (.str _) .nil))⟩
  · rw [zip_len] at hi
    unfold signs at hi
    rw [List.length_map, Array.length_toList] at hi
    rw [t.length]
    exact hi
theorem i_zipS {X : Cx} {C : CA} {e e2 : Expr} {t : TA} {fs : SE → Option (List D)} {p pos tpos : Pos} {elts : List Expr} {kk : Nat} (hg : Gl X "zip") (hm : X.mg "zip" = none) (ha : SemA X C [e, e2] t fs)
    (hs : starEach [e, e2] X.env = (false, eval e X.env) :: starEach [e2] X.env := by rfl) (hpl : (backTo pos (starEach [e2] X.env)).any (·.1) = false := by rfl) :
    SemI X C (.Tuple elts kk tpos) (.Call (.Name "zip" p) [e, e2] [] pos) (iZipS X.K t) (iZipSD fs) := ⟨pi_zipS hg hm ha.pa hs hpl, fun B S0 H σ env ds E hf R r => by
  unfold iZipSD at hf
  split at hf
  case h_2 => cases hf
  rename_i as x h1
  cases hf
  refine ha.ev B S0 H σ env _ E h1 _ fun vs H1 e1 a1 => ?_
  cases a1 with
  | cons a1 a2 => cases a2 with
    | cons a2 a3 =>
      cases a3
      cases a2
      cases a1 with
      | tup p1 p2 => exact ⟨_, _, _, rfl, SqT.of (mask_some p1).2, r _ H1 e1 (yl_zipS p1 p2)⟩⟩
end Tm

namespace Tm
open PySem PySem.Spec PyProof.Rows L2
open Evl (Ex)

/-! ### dicts merged -/
def mergeD (es more : List (D × D)) : List (D × D) := more.foldl (fun acc e => putD acc e.1 e.2) es
theorem AtK.merge {H : Hp} : ∀ {ms : List (Key × V)} {ns : List (D × D)} {kvs : List (Key × V)} {es : List (D × D)}, AtK H ms ns → AtK H kvs es → AtK H (mergeK kvs ms) (mergeD es ns)
  | _, _, _, _, .nil, h => h
  | _, _, _, _, .cons a t, h => by
    rename_i k v d ms ns
    exact AtK.merge (kvs := putK _ k v) (es := putD _ (kD k) d) t (AtK.put a h)
def keyPairs : List D → List D → Option (List (D × D))
  | [], [] => some []
  | k :: ks, v :: vs => (match keyOf k, keyPairs ks vs with
    | some _, some r => some ((k, v) :: r)
    | _, _ => none)
  | _, _ => none
theorem keyPairs_at {H : Hp} : ∀ {ks vs : List D} {es : List (D × D)} {xs ys : List V}, keyPairs ks vs = some es → AtL H xs ks → AtL H ys vs → ∃ kk : List Key, xs = kk.map kV ∧ kk.length = ys.length ∧ AtK H (kk.zip ys) es
  | [], [], es, xs, ys, h, h1, h2 => by
    cases h
    cases h1
    cases h2
    exact ⟨[], rfl, rfl, .nil⟩
  | [], _ :: _, _, _, _, h, _, _ => by cases h
  | _ :: _, [], _, _, _, h, _, _ => by cases h
  | k :: ks, v :: vs, es, xs, ys, h, h1, h2 => by
    unfold keyPairs at h
    split at h
    · rename_i kk r e1 e2
      cases h
      cases h1 with
      | cons a1 t1 => cases h2 with
        | cons a2 t2 =>
          obtain ⟨kks, g1, g2, g3⟩ := keyPairs_at e2 t1 t2
          refine ⟨kk :: kks, by rw [List.map_cons, keyOf_at a1 e1, g1], by simp [g2], ?_⟩
          rw [keyOf_kD e1]
          exact .cons a2 g3
    · cases h
/-! ### dict(zip(xs, ys)) -/
section
variable {X : Cx} {C : CA} {e e2 : Expr} {ta : TA} {fs : SE → Option (List D)} {p p' pos pos' : Pos}
def tDictZip (K : PySem.W.Frag) (ta : TA) : TE := fun σ H Q => ta σ H fun vs H1 => ∃ (a b : Addr) (ks : List Key) (ys : List V), vs = [.ref a, .ref b] ∧ SqL K H1 a (ks.map kV) ∧ SqL K H1 b ys ∧ ks.length = ys.length ∧ ∀ q, H1 q = none → Q (.ref q) (upd H1 q (.dK (mergeK [] (ks.zip ys))))
theorem zip_rel (X : Cx) {ks : List Key} {us : List Value} (r : Vals (ks.map kV) us) : ∀ {i : Nat} {u : Value}, us[i]? = some u → ∃ k, ks[i]? = some k ∧ keyIs k u = true := by
  induction ks generalizing us with
  | nil =>
    intro i u h
    cases r
    simp at h
  | cons k ks ih =>
    intro i u h
    rw [List.map_cons] at r
    cases r with
    | cons r1 t =>
      cases i with
      | zero =>
        have e : _ = u := Option.some.inj h
        subst e
        exact ⟨k, rfl, kV_is (P := X.prog) (w := X.w) r1⟩
      | succ i => exact ih t h
theorem kv_zip : ∀ {ks : List Key} {ys : List V} {us : List Value}, Vals ys us → KV (ks.zip ys) (ks.zip us)
  | [], _, _, _ => .nil
  | _ :: _, _, _, .nil => .nil
  | k :: ks, _, _, .cons r t => .cons ⟨rfl, r⟩ (kv_zip t)
theorem pe_dictZip (hc : X.calm = true) (hg : Gl X "dict") (hm : X.mg "dict" = none) (hg2 : Gl X "zip") (hm2 : X.mg "zip" = none) (ha : PA X [e, e2] ta)
    (na : starEach [.Call (.Name "zip" p') [e, e2] [] pos'] X.env = (false, eval (.Call (.Name "zip" p') [e, e2] [] pos') X.env) :: starEach [] X.env := by rfl)
    (hs : starEach [e, e2] X.env = (false, eval e X.env) :: starEach [e2] X.env := by rfl) (hpl : (backTo pos' (starEach [e2] X.env)).any (·.1) = false := by rfl) :
    PE X (.Call (.Name "dict" p) [.Call (.Name "zip" p') [e, e2] [] pos'] [] pos) (tDictZip X.K ta) := by
  refine ⟨fun pins s σ H Q I h => ?_⟩
  refine Call_ (ld_blt I hg hm boot_dict (PyProof.Rows.callWith_type1 (args_cons ?_ na) na))
  refine Call_ (ld_blt I hg2 hm2 PyProof.Rows.boot_zip (PyProof.Rows.callWith_type1 (thn (ha.run pos' pins s σ H _ I h) fun us s1 ⟨vs, H1, I1, r1, q1⟩ => ?_) hs hpl))
  obtain ⟨a, b, ks, ys, rfl, hqx, hqy, hl, q⟩ := q1
  cases r1 with
  | cons r rr =>
    cases rr with
    | cons r' rr =>
      cases rr
      cases r
      cases r'
      obtain ⟨its, rv, p1, hz1⟩ := I1.list hqx
      obtain ⟨its2, rv2, p2, hz2⟩ := I1.list hqy
      have la : a < s1.heap.objs.size := p1.lt
      have lb : b < s1.heap.objs.size := p2.lt
      have l1 : its.length = ks.length := by rw [← rv.length, List.length_map]
      have l2 : its2.length = ys.length := rv2.length.symm
      refine call_zip_2 p1.isList p2.isList fun h' hz hTI hTO h1 h2 hsz hk => args_nil ?_
      have AP := PySem.W.ktu_apart s1.heap.objs.size a b la lb
      refine PySem.call_dict_pairs (knd := mixKind X.prog X.w) (kvs := ks.zip its2) (PairArg.zip _ _ _ _ _ _ _ AP its.toArray its2.toArray) (I1.ok.hd hc)
        ⟨hz, hTI, ⟨_, _, hTO⟩, h1, h2, p1.isList.at fun o e => hk _ o e, p2.isList.at fun o e => hk _ o e⟩ ⟨?_, fun i key v hi => ?_⟩ ?_ fun h'' tk hd hk' => ?_
      · rw [List.length_zip, List.size_toArray, List.size_toArray, l1]
      · obtain ⟨e1, e2⟩ := hi
        have e1' : its[i]? = some key := by simpa using e1
        have e2' : its2[i]? = some v := by simpa using e2
        obtain ⟨k, hk1, hk2⟩ := zip_rel X rv e1'
        exact ⟨k, by rw [List.getElem?_zip_eq_some]; exact ⟨hk1, e2'⟩, hk2⟩
      · rw [List.size_toArray, List.size_toArray]
        have h9 : ys.length ≤ sizeLine := hz2
        omega
      · have hne : (h'.objs.size == sysModules) = false := beq_eq_false_iff_ne.mpr (Nat.ne_of_gt (Nat.lt_of_lt_of_le I1.big (by rw [hsz]; exact Nat.le_add_right _ _)))
        have hle : (mergeK [] (ks.zip ys)).length ≤ sizeLine := by
          refine Nat.le_trans (length_mergeK _ []) ?_
          rw [List.length_nil, Nat.zero_add, List.length_zip]
          omega
        refine ⟨.ref h'.objs.size, upd H1 h'.objs.size (.dK (mergeK [] (ks.zip ys))), I1.laid (t' := tk) (fun c u e => ?_) (by omega) (show ObjOk X.prog X.w _ _ _ (.dK (mergeK [] (ks.zip ys))) from ⟨hle, hne, _, KV.merge (kv_zip rv2) .nil, hd⟩), rfl, q _ (I1.hok.fresh (by omega))⟩
        have hcl : c < s1.heap.objs.size := Heap.lt_size e
        refine hk' c u (fun hm => ?_) (hk c u e)
        have cases4 : c = s1.heap.objs.size + 4 ∨ c = s1.heap.objs.size + 3 ∨ c = s1.heap.objs.size ∨ c = s1.heap.objs.size + 1 := by simpa using hm
        have hcl' : (c : Nat) < s1.heap.objs.size := hcl
        rcases cases4 with z | z | z | z <;> (rw [z] at hcl'; exact absurd hcl' (by simp))
def eDictZip (f : SE → Option (List D)) : SE → Option D := fun env => match f env with
  | some [.list ks, .list vs] => (match keyPairs ks vs with
    | some es => some (.dict (mergeD [] es))
    | none => none)
  | _ => none
theorem s_dictZip (hc : X.calm = true) (hg : Gl X "dict") (hm : X.mg "dict" = none) (hg2 : Gl X "zip") (hm2 : X.mg "zip" = none) (ha : SemA X C [e, e2] ta fs)
    (na : starEach [.Call (.Name "zip" p') [e, e2] [] pos'] X.env = (false, eval (.Call (.Name "zip" p') [e, e2] [] pos') X.env) :: starEach [] X.env := by rfl)
    (hs : starEach [e, e2] X.env = (false, eval e X.env) :: starEach [e2] X.env := by rfl) (hpl : (backTo pos' (starEach [e2] X.env)).any (·.1) = false := by rfl) :
    SemE X C (.Call (.Name "dict" p) [.Call (.Name "zip" p') [e, e2] [] pos'] [] pos) (tDictZip X.K ta) (eDictZip fs) := ⟨pe_dictZip hc hg hm hg2 hm2 ha.pa na hs hpl, fun B S0 H σ env d E hf Q q => by
  unfold eDictZip at hf
  split at hf
  case h_2 => cases hf
  rename_i ks vs h1
  split at hf
  case h_2 => cases hf
  rename_i es h2
  cases hf
  refine ha.ev B S0 H σ env _ E h1 _ fun xs H1 e1 a1 => ?_
  cases a1 with
  | cons a1 a2 => cases a2 with
    | cons a2 a3 =>
      cases a3
      cases a1 with
      | lst p1 p2 => cases a2 with
        | lst p3 p4 =>
          obtain ⟨kk, g1, g2, g3⟩ := keyPairs_at h2 p2 p4
          subst g1
          refine ⟨_, _, kk, _, rfl, SqL.of (mask_some p1).2, SqL.of (mask_some p3).2, g2, fun r hr => ?_⟩
          exact q _ _ (e1.trans (Ex.new hr)) (.dk (.inl (mask_new (E.ext e1).lvs hr)) (AtK.merge (g3.le (HLe.of (mask_mono (Ex.new hr)))) .nil))⟩
end
/-! ### dict(pairs) -/
def pairsD : List D → Option (List (D × D))
  | [] => some []
  | .tuple [k, v] :: r => (match keyOf k, pairsD r with
    | some _, some t => some ((k, v) :: t)
    | _, _ => none)
  | _ => none
theorem pairsD_at {K : PySem.W.Frag} {H M : Hp} (hM : Ex M H) : ∀ {ds : List D} {es : List (D × D)} {xs : List V}, pairsD ds = some es → AtL M xs ds → ∃ (ps : List Addr) (kvs : List (Key × V)), xs = ps.map V.ref ∧ Paired (fun p kv => SqT K H p [kV kv.1, kv.2]) ps kvs ∧ AtK M kvs es
  | [], es, xs, h, h1 => by
    cases h
    cases h1
    exact ⟨[], [], rfl, .nil, .nil⟩
  | .tuple [k, v] :: r, es, xs, h, h1 => by
    unfold pairsD at h
    split at h
    · rename_i kk t e1 e2
      cases h
      cases h1 with
      | cons a1 t1 =>
        obtain ⟨ps, kvs, g1, g2, g3⟩ := pairsD_at hM e2 t1
        cases a1 with
        | tup b1 b2 => cases b2 with
          | cons b2 b3 => cases b3 with
            | cons b3 b4 =>
              cases b4
              have e3 := keyOf_at b2 e1
              subst e3
              refine ⟨_ :: ps, (kk, _) :: kvs, by rw [List.map_cons, g1], .cons (SqT.of (hM _ _ b1)) g2, ?_⟩
              rw [keyOf_kD e1]
              exact .cons b3 g3
    · cases h
  | .tuple [] :: r, es, xs, h, h1 => by cases h
  | .tuple [_] :: r, es, xs, h, h1 => by cases h
  | .tuple (_ :: _ :: _ :: _) :: r, es, xs, h, h1 => by cases h
  | .none :: r, es, xs, h, h1 => by cases h
  | .bool _ :: r, es, xs, h, h1 => by cases h
  | .int _ :: r, es, xs, h, h1 => by cases h
  | .str _ :: r, es, xs, h, h1 => by cases h
  | .list _ :: r, es, xs, h, h1 => by cases h
  | .dict _ :: r, es, xs, h, h1 => by cases h
def gDictP : List D → Option D
  | [.list ds] => (match pairsD ds with
    | some es => some (.dict (mergeD [] es))
    | none => none)
  | _ => none
theorem cs_dictP {K : PySem.W.Frag} : CS (fun xs H Q => ∃ (a : Addr) (ps : List Addr) (kvs : List (Key × V)), xs = [.ref a] ∧ SqL K H a (ps.map V.ref) ∧ Paired (fun p kv => SqT K H p [kV kv.1, kv.2]) ps kvs ∧
    ∀ p, H p = none → Q (.ref p) (upd H p (.dK (mergeK [] kvs)))) gDictP := fun S H xs ds z lv p hz Q k => by
  unfold gDictP at hz
  split at hz
  case h_2 => cases hz
  rename_i l
  split at hz
  case h_2 => cases hz
  rename_i es h2
  cases hz
  cases p with
  | cons p1 p2 =>
    cases p2
    cases p1 with
    | lst p1 p2 =>
      obtain ⟨ps, kvs, g1, g2, g3⟩ := pairsD_at (K := K) (mask_sub S H) h2 p2
      subst g1
      exact ⟨_, ps, kvs, rfl, SqL.of (mask_some p1).2, g2, fun r hr => k _ _ (Ex.new hr) (.dk (.inl (mask_new lv hr)) (AtK.merge (g3.le (HLe.of (mask_mono (Ex.new hr)))) .nil))⟩
/-! ### displays of constants -/
def cTrs (cs : List (Key × V)) : List (TE × TE) := cs.map fun c => (tC (kV c.1), tC c.2)
theorem pairs_c {Q : List (V × V) → Hp → Prop} : ∀ {cs : List (Key × V)} {σ : L2.St} {H : Hp}, Q (cs.map fun kv => (kV kv.1, kv.2)) H → tPairs (cTrs cs) σ H Q
  | [], _, _, h => h
  | c :: cs, σ, H, h => by
    show tPairs (cTrs cs) σ H fun ps H3 => Q ((kV c.1, c.2) :: ps) H3
    exact pairs_c h
section
variable {X : Cx} {C : CA} {pos : Pos} {keys : List (Option Expr)} {values : List Expr}
theorem s_disp {cs : List (Key × V)} {es : List (D × D)} (h : PE X (.Dict keys values pos) (tDisp (cTrs cs))) (hl : cs.length ≤ 15) (ha : ∀ H, AtK H (mergeK [] cs) es) : SemE X C (.Dict keys values pos) (tDisp (cTrs cs)) (eC (.dict es)) := ⟨h, fun B S0 H σ env d E hf Q q p hp => pairs_c ⟨upd_same, cs, rfl, hl, by
  cases hf
  rw [upd_upd]
  exact q _ _ (Ex.new hp) (.dk (.inl (mask_new E.lvs hp)) (ha _))⟩⟩
theorem st_newK {x : Str} {px spos : Pos} {i : Nat} {cs : List (Key × V)} {es : List (D × D)} (h : PS X (.Assign [.Name x px] (.Dict keys values pos) spos) (tAsg (tDisp (cTrs cs)) (gName i))) (hl : cs.length ≤ 15) (ha : ∀ H, AtK H (mergeK [] cs) es) :
    SemS X C (.Assign [.Name x px] (.Dict keys values pos) spos) (tAsg (tDisp (cTrs cs)) (gName i)) (cOwn i (.ok es)) := ⟨h,
  ev_own rfl fun M H σ Q q => fun p hp => pairs_c ⟨upd_same, cs, rfl, hl, by
    rw [upd_upd]
    exact q p _ hp (Ex.new hp) ⟨_, upd_same, ha _⟩⟩⟩
/-! ### d.get(k, x) of a display -/
def eGet2 (fd fy fz : SE → Option D) : SE → Option D := fun env => match fd env with
  | some (.dict es) => (match fy env with
    | some y => (match fz env with
      | some z => if (keyOf y).isSome && es.any (fun e => (keyOf e.1).isSome) then some ((lookD es y).getD z) else none
      | none => none)
    | none => none)
  | _ => none
theorem AtT.nokey {H : Hp} : ∀ {kvs : List (List Key × V)} {es : List (D × D)}, AtT H kvs es → es.any (fun e => (keyOf e.1).isSome) = false
  | _, _, .nil => rfl
  | _, _, .cons h t => by
    rw [List.any_cons, AtT.nokey t]
    rfl
theorem s_get2 {o e f : Expr} {td ty tx : TE} {apos cpos : Pos} {fd fy fz : SE → Option D} (hu : X.A.units + 1 < cLine) (ho : SemE X C o td fd) (he : SemE X C e ty fy) (hf' : SemE X C f tx fz) (m : M2 X o "get" apos e f cpos) :
    SemE X C (.Call (.Attribute o "get" apos) [e, f] [] cpos) (tDGet2 td ty tx) (eGet2 fd fy fz) := ⟨pe_dget2 hu ho.pe he.pe hf'.pe m, fun B S0 H σ env d E hf Q q => by
  unfold eGet2 at hf
  split at hf
  case h_2 => cases hf
  rename_i es h1
  cases h2 : fy env with
  | none => simp only [h2] at hf; cases hf
  | some y =>
    simp only [h2] at hf
    cases h3 : fz env with
    | none => simp only [h3] at hf; cases hf
    | some z =>
      simp only [h3] at hf
      split at hf
      case isFalse => cases hf
      rename_i hc
      rw [Bool.and_eq_true] at hc
      cases hf
      refine ho.ev B S0 H σ env _ E h1 _ fun v H1 e1 a1 => ?_
      cases a1 with
      | dk p1 p2 =>
        rename_i a kvs
        have p1' := Evl.ex_rd (mask_sub _ _) p1
        refine ⟨a, rfl, .inl ⟨kvs, p1'⟩, ?_⟩
        refine he.ev B S0 H1 σ env y (E.ext e1) h2 _ fun vy H2 e2 a2 => hf'.ev B S0 H2 σ env z ((E.ext e1).ext e2) h3 _ fun vz H3 e3 a3 => ?_
        obtain ⟨k, hk⟩ := Option.isSome_iff_exists.mp hc.1
        have g1 := keyOf_at a2 hk
        have g2 := keyOf_kD hk
        subst g1
        subst g2
        refine ⟨valV kvs k, .inl ⟨kvs, k, Evl.ex_rd (e2.trans e3) p1', rfl, rfl⟩, ?_⟩
        have lk := AtK.look k ((p2.le (HLe.of (mask_mono e2))).le (HLe.of (mask_mono e3)))
        refine q _ H3 ((e1.trans e2).trans e3) ?_
        cases hv : valV kvs k with
        | none =>
          rw [hv] at lk
          cases hl : lookD es (kD k) with
          | none => exact a3
          | some _ => rw [hl] at lk; cases lk
        | some v =>
          rw [hv] at lk
          cases hl : lookD es (kD k) with
          | none => rw [hl] at lk; cases lk
          | some _ =>
            rw [hl] at lk
            exact lk
      | dt p1 p2 =>
        rw [AtT.nokey p2] at hc
        cases hc.2⟩
/-! ### row[k], x = e -/
def cRow (i ik j : Nat) (f : SE → Option D) : SE → Option Out := fun env => match f env with
  | some (.tuple [v, w]) => (match env[i]? with
    | some (.ok es) => (match env[ik]? with
      | some (.pu k) => if (keyOf k).isSome && szOk (es.length + 1) && decide (i ≠ j) then some (.next ((env.set i (.ok (putD es k v))).set j (.pu w))) else none
      | _ => none)
    | _ => none)
  | _ => none
theorem st_row {e : Expr} {te : TE} {f : SE → Option D} {x y z : Str} {p1 p2 p3 p4 p5 : Pos} {kk : Nat} {i ik j : Nat} (hu : X.A.units + 1 < cLine) (he : SemE X C e te f) (hx : PE X (.Name x p1) (tVar i)) (hy : PE X (.Name y p2) (tVar ik)) (hz : PG X (.Name z p4) (gName j))
    (hps : PS X (.Assign [.Tuple [.Subscript (.Name x p1) (.Name y p2) p3, .Name z p4] kk p5] e pos) (tAsg te (gTup X.K 2 (gCons (L2.gSub (tVar i) (tVar ik) rSetD) (gCons (gName j) gNil))))) :
    SemS X C (.Assign [.Tuple [.Subscript (.Name x p1) (.Name y p2) p3, .Name z p4] kk p5] e pos) (tAsg te (gTup X.K 2 (gCons (L2.gSub (tVar i) (tVar ik) rSetD) (gCons (gName j) gNil)))) (cRow i ik j f) := ⟨hps, fun D B S0 H σ env o E hf P => by
  unfold cRow at hf
  split at hf
  case h_2 => cases hf
  rename_i v w h1
  split at hf
  case h_2 => cases hf
  rename_i es hi
  split at hf
  case h_2 => cases hf
  rename_i k hik
  split at hf
  case isFalse => cases hf
  rename_i hc
  rw [Bool.and_eq_true, Bool.and_eq_true] at hc
  cases hf
  refine he.ev B S0 H σ env _ E h1 _ fun u H1 e1 a1 => ?_
  have E1 := E.ext e1
  obtain ⟨p, hp, ⟨kvs, hl, ha⟩, ho⟩ := E1.got hi rfl
  obtain ⟨vk, hvk, hak⟩ := E1.slot ik _ hik
  obtain ⟨kk, hkk⟩ := Option.isSome_iff_exists.mp hc.1.1
  have g1 := keyOf_at hak hkk
  have g2 := keyOf_kD hkk
  subst g1
  subst g2
  cases a1 with
  | tup q1 q2 => cases q2 with
    | cons q2 q3 => cases q3 with
      | cons q3 q4 =>
        cases q4
        rename_i v1 v2
        refine ⟨_, _, rfl, SqT.of (mask_some q1).2, rfl, _, _, rfl, ?_⟩
        refine ⟨.ref p, hp, kV kk, hvk, p, _, rfl, DPut.k hl ?_, ?_⟩
        · rw [ha.length]
          have h9 : es.length + 1 ≤ 100000 := of_decide_eq_true hc.1.2
          exact Evl.sz_lt (by omega)
        · refine ⟨_, _, rfl, rfl, ?_⟩
          have E2 := E1.mut (s' := .ok (putD es (kD kk) v)) (o := .dK (putK kvs kk v1)) hi rfl hp rfl ⟨_, upd_same, ha.put q2⟩
          have le : ∀ b u, ¬ SS S0 σ env b → H1 b = some u → ¬ SS S0 σ (env.set i (.ok (putD es (kD kk) v))) b ∧ upd H1 p (.dK (putK kvs kk v1)) b = some u := fun b u h1 h2 => by
            refine ⟨fun z => h1 (z.imp id fun z => ?_), ?_⟩
            · obtain ⟨m, s, z1, z2, z3⟩ := z
              by_cases hm : i = m
              · subst hm
                exact ⟨i, _, hi, rfl, z3⟩
              · rw [List.getElem?_set_ne hm] at z1
                exact ⟨m, s, z1, z2, z3⟩
            · rw [upd_ne (show b ≠ p from fun z => h1 (.inr (by rw [z]; exact ho)))]
              exact h2
          exact P _ _ (E2.set (q3.le (HLe.of (mask_ex le))))⟩
end
end Tm

namespace Tm
open PySem L2
open Evl (Ex)

/-! ### the fields of an object of ours -/
def putFD (f : Str) (v : D) : List (Str × D) → List (Str × D)
  | [] => [(f, v)]
  | (g, x) :: r => if g = f then (g, v) :: r else (g, x) :: putFD f v r
theorem AtF.put {H : Hp} {f : Str} {v : V} {d : D} (hv : At H v d) : ∀ {vs : List (Str × V)} {ds : List (Str × D)}, AtF H vs ds → AtF H (putF f v vs) (putFD f d ds)
  | _, _, .nil => .cons hv .nil
  | _, _, .cons h t => by
    rename_i x v' d' vs ds
    unfold putF putFD
    by_cases e : x = f
    · rw [if_pos e, if_pos e]
      exact .cons hv t
    · rw [if_neg e, if_neg e]
      exact .cons h (AtF.put hv t)
theorem AtF.look {H : Hp} (f : Str) : ∀ {vs : List (Str × V)} {ds : List (Str × D)}, AtF H vs ds → (∀ d, ds.lookup f = some d → ∃ v, vs.lookup f = some v ∧ At H v d) ∧ (ds.lookup f = none → vs.lookup f = none)
  | _, _, .nil => ⟨fun d h => (nomatch h), fun _ => rfl⟩
  | _, _, .cons h t => by
    rename_i x v' d' vs ds
    rw [List.lookup_cons, List.lookup_cons]
    cases f == x with
    | true => exact ⟨fun d z => ⟨v', rfl, Option.some.inj z ▸ h⟩, fun z => (nomatch z)⟩
    | false => exact AtF.look f t
theorem AtF.length {H : Hp} : ∀ {vs : List (Str × V)} {ds : List (Str × D)}, AtF H vs ds → vs.length = ds.length
  | _, _, .nil => rfl
  | _, _, .cons _ t => congrArg (· + 1) (AtF.length t)
theorem AtF.mk {S : Addr → Prop} {H H2 : Hp} {v : List (Str × V)} {d : List (Str × D)} (e : Ex H H2) (h : AtF (mask S H) v d) : AtF (mask S H2) v d := h.le (HLe.of (mask_mono e))
section
variable {K : PySem.W.Frag} {C : CA} {B : Hp} {S0 : Addr → Prop} {H H' : Hp} {σ : St} {env : SE}
/-- an object of ours has changed, and nothing else that was there -/
theorem EnvS.mutX (E : EnvS K C B S0 H σ env) {i : Nat} {p : Addr} {s s' : SD} (hi : env[i]? = some s) (hs : isOw s = true) (hp : σ[i]? = some (some (V.ref p))) (hs' : isOw s' = true)
    (e : Ex (mask (fun a => a = p) H) H') (h : OwAt C (mask (SS S0 σ env) H') H' p s') : EnvS K C B S0 H' σ (env.set i s') := by
  have hl : i < env.length := (List.getElem?_eq_some_iff.mp hi).1
  have own' : ∀ q, Own σ (env.set i s') q ↔ Own σ env q := fun q => by
    constructor
    · rintro ⟨j, s1, e1, e2, e3⟩
      by_cases hj : i = j
      · subst hj
        exact ⟨i, s, hi, hs, e3⟩
      · rw [List.getElem?_set_ne hj] at e1
        exact ⟨j, s1, e1, e2, e3⟩
    · rintro ⟨j, s1, e1, e2, e3⟩
      by_cases hj : i = j
      · subst hj
        exact ⟨i, s', List.getElem?_set_self hl, hs', e3⟩
      · exact ⟨j, s1, by rw [List.getElem?_set_ne hj]; exact e1, e2, e3⟩
  have op : Own σ env p := ⟨i, s, hi, hs, hp⟩
  have ee : ∀ a o, a ≠ p → H a = some o → H' a = some o := fun a o n z => e a o (by rw [mask_out (S := fun a => a = p) n]; exact z)
  have le : HLe (mask (SS S0 σ env) H) (mask (SS S0 σ (env.set i s')) H') := HLe.of (mask_ex fun a u h1 h2 => ⟨fun q => h1 (q.imp id (own' a).mp), ee a u (fun z => h1 (.inr (by rw [z]; exact op))) h2⟩)
  have le2 : HLe (mask (SS S0 σ env) H') (mask (SS S0 σ (env.set i s')) H') := HLe.of (mask_ex fun a u h1 h2 => ⟨fun q => h1 (q.imp id (own' a).mp), h2⟩)
  refine ⟨by rw [List.length_set, E.len], fun a u z => ee a u (fun y => E.nown a u z (by rw [y]; exact op)) (E.base a u z), fun a u e q => E.nown a u e ((own' a).mp q), E.live, fun j s1 e => ?_, fun j k s1 s2 q e1 o1 e2 o2 e3 e4 => ?_⟩
  · by_cases hj : i = j
    · subst hj
      rw [List.getElem?_set_self hl] at e
      cases e
      exact SlotAt.mk hs' hp (OwAt.le le2 rfl h)
    · rw [List.getElem?_set_ne hj] at e
      refine (E.slot j s1 e).le le fun q o1 e1 => ?_
      obtain ⟨o, z, _⟩ := E.own ⟨j, s1, e, o1, e1⟩
      rw [z, ee q o (fun y => hj (E.inj i j s s1 p hi hs e o1 hp (by rw [← y]; exact e1))) z]
  · have f : ∀ j s1, (env.set i s')[j]? = some s1 → isOw s1 = true → ∃ s2, env[j]? = some s2 ∧ isOw s2 = true := fun j s1 e o => by
      by_cases hj : i = j
      · subst hj
        exact ⟨s, hi, hs⟩
      · rw [List.getElem?_set_ne hj] at e
        exact ⟨s1, e, o⟩
    obtain ⟨t1, a1, b1⟩ := f j s1 e1 o1
    obtain ⟨t2, a2, b2⟩ := f k s2 e2 o2
    exact E.inj j k t1 t2 q a1 b1 a2 b2 e3 e4
end

/-! ### defs that change an object given to them -/
/-- its j-th argument is an object that may change; nothing else does -/
def SpM (cls : Addr) (j n : Nat) (g : List (Str × D) → List D → Option (D × List (Str × D))) : Sp := fun vs H Q _ =>
  ∃ (S : Addr → Prop) (p dx : Addr) (vfs : List (Str × V)) (fs fs' : List (Str × D)) (ds : List D) (d : D), vs.length = n ∧ ds.length = n ∧ vs[j]? = some (.ref p) ∧ (∀ i v d, i ≠ j → vs[i]? = some v → ds[i]? = some d → At (mask S H) v d) ∧
    S p ∧ LvS S H ∧ H p = some (.ins cls dx vfs) ∧ AtF (mask S H) vfs fs ∧ g fs ds = some (d, fs') ∧
    ∀ v H' dx' vfs', Ex (mask (fun a => a = p) H) H' → H' p = some (.ins cls dx' vfs') → AtF (mask S H') vfs' fs' → At (mask S H') v d → Q v H'
def outM (j : Nat) : Option Out → Option (D × List (Str × D))
  | some (.rets d e) => (match e[j]? with
    | some (.mo fs) => some (d, fs)
    | _ => none)
  | some (.next e) => (match e[j]? with
    | some (.mo fs) => some (.none, fs)
    | _ => none)
  | _ => none
def runM (N j : Nat) (F : SE → Option Out) : List (Str × D) → List D → Option (D × List (Str × D)) := fun fs ds => outM j (F ((env0 N ds).set j (.mo fs)))
theorem envM_at {S : Addr → Prop} {H : Hp} {K : PySem.W.Frag} {cls p dx : Addr} {j : Nat} {N : List Str} {vs : List V} {ds : List D} {vfs : List (Str × V)} {fs : List (Str × D)} (hl : ds.length ≤ N.length) (hv : vs.length = ds.length) (hj : vs[j]? = some (.ref p))
    (lv : LvS S H) (a : ∀ i v d, i ≠ j → vs[i]? = some v → ds[i]? = some d → At (mask S H) v d) (sp : S p) (hp : H p = some (.ins cls dx vfs)) (hf : AtF (mask S H) vfs fs) :
    EnvS K ⟨cls, some p⟩ (mask (fun a => a = p) H) (fun q => S q ∧ q ≠ p) H (L2.start N vs) ((env0 N.length ds).set j (.mo fs)) := by
  have hjl : j < ds.length := by rw [← hv]; exact (List.getElem?_eq_some_iff.mp hj).1
  have hel : (env0 N.length ds).length = N.length := by
    unfold env0
    simp
    omega
  have hsj : (L2.start N vs)[j]? = some (some (.ref p)) := by
    unfold L2.start
    rw [List.getElem?_append_left (by rw [List.length_map]; omega), List.getElem?_map, hj]
    rfl
  have pure : ∀ (i : Nat) (s : SD), (env0 N.length ds)[i]? = some s → (∃ d, s = .pu d ∧ ds[i]? = some d) ∨ s = .un := fun i s e => by
    unfold env0 at e
    by_cases hi : i < ds.length
    · rw [List.getElem?_append_left (by rw [List.length_map]; exact hi), List.getElem?_map] at e
      obtain ⟨d, h1, h2⟩ := Option.map_eq_some_iff.mp e
      exact .inl ⟨d, h2.symm, h1⟩
    · rw [List.getElem?_append_right (by rw [List.length_map]; omega)] at e
      have := List.mem_of_getElem? e
      exact .inr (List.mem_replicate.mp this).2
  have ow : ∀ (i : Nat) (s : SD), ((env0 N.length ds).set j (.mo fs))[i]? = some s → isOw s = true → i = j := fun i s e o => by
    by_cases h : j = i
    · exact h.symm
    · rw [List.getElem?_set_ne h] at e
      rcases pure i s e with ⟨d, rfl, _⟩ | rfl <;> cases o
  have no : ∀ q, Own (L2.start N vs) ((env0 N.length ds).set j (.mo fs)) q → q = p := fun q ⟨i, s, e1, e2, e3⟩ => by
    rw [ow i s e1 e2, hsj] at e3
    cases e3
    rfl
  have le : HLe (mask S H) (mask (SS (fun q => S q ∧ q ≠ p) (L2.start N vs) ((env0 N.length ds).set j (.mo fs))) H) := HLe.of (mask_ex fun b o h1 h2 => ⟨fun z => z.elim (fun z => h1 z.1) fun z => h1 (by rw [no b z]; exact sp), h2⟩)
  refine ⟨?_, mask_sub _ _, fun b o h z => (mask_some h).1 (no b z), fun q h => ?_, fun i s e => ?_, fun i k s s' q e1 o1 e2 o2 e3 e4 => (ow i s e1 o1).trans (ow k s' e2 o2).symm⟩
  · rw [List.length_set, hel]
    unfold L2.start
    simp
    omega
  · obtain ⟨o, e, n⟩ := lv q h.1
    exact ⟨o, by rw [mask_out (S := fun a => a = p) h.2]; exact e, n⟩
  · by_cases h : j = i
    · subst h
      rw [List.getElem?_set_self (by rw [hel]; omega)] at e
      cases e
      exact ⟨p, hsj, dx, vfs, hp, hf.le le, fun q z => Option.some.inj z⟩
    · rw [List.getElem?_set_ne h] at e
      rcases pure i s e with ⟨d, rfl, hd⟩ | rfl
      · have hi : i < vs.length := by rw [hv]; exact (List.getElem?_eq_some_iff.mp hd).1
        refine ⟨vs[i], ?_, (a i vs[i] d (fun z => h z.symm) (List.getElem?_eq_getElem hi) hd).le le⟩
        unfold L2.start
        rw [List.getElem?_append_left (by rw [List.length_map]; omega), List.getElem?_map, List.getElem?_eq_getElem hi]
        rfl
      · trivial
section
variable {P : Program} {w : World} {K : PySem.W.Frag} {mg : Str → Option Value} {base : Heap}
theorem fnM_D {cls : Addr} {x qual : Str} {st : Stmt} {f : Addr} {fd : FuncData} {N ps : List Str} {k n j : Nat} {Fb : SE → Option Out} (F : Fun K x qual st f fd) (S : FnScope N ps (defScope st)) (hn : ps.length = n) (hN : n ≤ N.length)
    (hb : ∀ (C : CA) (cdv : Value) (A : Around) (outer : List Env) (s : Shared) (H : Hp) (E : XK), C.cls = cls → Room k (A.deeper (PyProof.Rows.envOfC qual (defScope st) s.heap.objs.size f cdv)) →
      ∃ t, SemSs (cxOf CX0 P w K mg base N qual (defScope st) f cdv A outer s H E).nox C (defBody st) t Fb) : FnOk P w K mg base CX0 (k + 1) f fd ps (SpM cls j n (runM N.length j Fb)) := by
  refine F.ok S (fun vs H Q E h => ?_) (fun cdv A outer s H vs Q E hr h => ?_)
  · obtain ⟨_, _, _, _, _, _, _, _, h, _⟩ := h
    exact h.trans hn.symm
  obtain ⟨S0, p, dx, vfs, fs, fs', ds, d, l1, l2, hj, ha, sp, lv, hp, hf, e, q⟩ := h
  obtain ⟨t, ht⟩ := hb ⟨cls, some p⟩ cdv A outer s H E rfl hr
  refine ⟨t, ht.ps, ?_⟩
  have E0 := envM_at (K := K) (N := N) (by omega) (l1.trans l2.symm) hj lv ha sp hp hf
  unfold runM at e
  have sub : ∀ (σ' : St) (env' : SE) a, S0 a → EnvS K ⟨cls, some p⟩ (mask (fun a => a = p) H) (fun q => S0 q ∧ q ≠ p) H σ' env' → True := fun _ _ _ _ _ => trivial
  cases hF : Fb ((env0 N.length ds).set j (.mo fs)) with
  | none => rw [hF] at e; cases e
  | some o =>
    rw [hF] at e
    refine ht.ev _ _ _ H _ _ o E0 hF ?_
    have fin : ∀ (v : V) (σ' : St) (H' : Hp) (env' : SE), EnvS K ⟨cls, some p⟩ (mask (fun a => a = p) H) (fun q => S0 q ∧ q ≠ p) H' σ' env' → env'[j]? = some (.mo fs') → At (mask (SS (fun q => S0 q ∧ q ≠ p) σ' env') H') v d → Q v H' := fun v σ' H' env' E' hm a' => by
      obtain ⟨p', hp', ⟨dx', vfs', h1, h2, h3⟩, ho⟩ := E'.got hm rfl
      have hpp := h3 p rfl
      subst hpp
      have le : HLe (mask (SS (fun q => S0 q ∧ q ≠ p') σ' env') H') (mask S0 H') := HLe.of (mask_ex fun a o z1 z2 => ⟨fun z => z1 (by
        by_cases hap : a = p'
        · exact .inr (by rw [hap]; exact ho)
        · exact .inl ⟨z, hap⟩), z2⟩)
      exact q v H' dx' vfs' E'.base h1 (h2.le le) (a'.le le)
    cases o with
    | ret d' => cases e
    | next env' =>
      have e : (match env'[j]? with
        | some (.mo fs) => some (PyData.none, fs)
        | _ => none) = some (d, fs') := e
      split at e
      · rename_i fs2 hm
        cases e
        exact fun σ' H' E' => fin .non σ' H' env' E' hm .non
      · cases e
    | brk _ => cases e
    | cont _ => cases e
    | rets d' env' =>
      have e : (match env'[j]? with
        | some (.mo fs) => some (d', fs)
        | _ => none) = some (d, fs') := e
      split at e
      · rename_i fs2 hm
        cases e
        exact fun v σ' H' E' a' => fin v σ' H' env' E' hm a'
      · cases e
end

/-! ### expressions that change an object of ours -/
def EvX (K : PySem.W.Frag) (C : CA) (t : TE) (f : SE → Option (D × SE)) : Prop :=
  ∀ (B : Hp) (S0 : Addr → Prop) (H : Hp) (σ : St) (env env' : SE) (d : D), EnvS K C B S0 H σ env → f env = some (d, env') →
    ∀ Q : VK, (∀ v H2, EnvS K C B S0 H2 σ env' → At (mask (SS S0 σ env') H2) v d → Q v H2) → t σ H Q
structure SemX (X : Cx) (C : CA) (e : Expr) (t : TE) (f : SE → Option (D × SE)) : Prop where
  pe : PE X e t
  ev : EvX X.K C t f
/-- written arguments, the j-th of them our object of slot i -/
structure SemAM (X : Cx) (C : CA) (es : List Expr) (t : TA) (i j : Nat) (fs : SE → Option (List D)) : Prop where
  pa : PA X es t
  ev : ∀ (B : Hp) (S0 : Addr → Prop) (H : Hp) (σ : St) (env : SE) (ds : List D) (p : Addr), EnvS X.K C B S0 H σ env → σ[i]? = some (some (.ref p)) → fs env = some ds →
    ∀ Q : List V → Hp → Prop, (∀ vs H2, Ex H H2 → vs.length = ds.length → vs[j]? = some (.ref p) → (∀ k v d, k ≠ j → vs[k]? = some v → ds[k]? = some d → At (mask (SS S0 σ env) H2) v d) → Q vs H2) → t σ H Q
section
variable {X : Cx} {C : CA} {e : Expr} {es : List Expr} {te : TE} {t : TA} {f : SE → Option D} {fs : SE → Option (List D)} {fx : SE → Option (D × SE)} {pos p px apos : Pos} {x m : Str} {i j : Nat}
def amHere (k : SE → Option (List D)) : SE → Option (List D) := aCons (eC .none) k
theorem am_here (hv : PE X (.Name x px) (tVar i)) (hr : SemA X C es t fs) (hs : starEach (.Name x px :: es) X.env = (false, eval (.Name x px) X.env) :: starEach es X.env := by rfl) : SemAM X C (.Name x px :: es) (tCons (tVar i) t) i 0 (amHere fs) :=
  ⟨pa_cons hv hr.pa hs, fun B S0 H σ env d p E hp hf Q q => by
  unfold amHere aCons eC at hf
  cases h2 : fs env with
  | none => simp only [h2] at hf; cases hf
  | some y =>
    simp only [h2] at hf
    cases hf
    refine ⟨.ref p, hp, ?_⟩
    refine hr.ev B S0 H σ env y E h2 _ fun w H2 e2 a2 => q _ H2 e2 (by simp [a2.length]) rfl fun k v d hk hv hd => ?_
    cases k with
    | zero => exact absurd rfl hk
    | succ k =>
      obtain ⟨d', h3, h4⟩ := a2.get' (i := k) (v := v) (by simpa using hv)
      have h5 : y[k]? = some d := by simpa using hd
      rw [h3] at h5
      cases h5
      exact h4⟩
theorem am_cons (ha : SemE X C e te f) (hr : SemAM X C es t i j fs) (hs : starEach (e :: es) X.env = (false, eval e X.env) :: starEach es X.env := by rfl) : SemAM X C (e :: es) (tCons te t) i (j + 1) (aCons f fs) :=
  ⟨pa_cons ha.pe hr.pa hs, fun B S0 H σ env d p E hp hf Q q => by
  unfold aCons at hf
  cases h1 : f env with
  | none => rw [h1] at hf; cases hf
  | some x =>
    rw [h1] at hf
    cases h2 : fs env with
    | none => rw [h2] at hf; cases hf
    | some y =>
      rw [h2] at hf
      cases hf
      refine ha.ev B S0 H σ env x E h1 _ fun v H1 e1 a1 => hr.ev B S0 H1 σ env y p (E.ext e1) hp h2 _ fun w H2 e2 l2 j2 a2 => q _ H2 (e1.trans e2) (by simp [l2]) (by simpa using j2) fun k v' d' hk hv hd => ?_
      cases k with
      | zero =>
        cases Option.some.inj hv
        cases Option.some.inj hd
        exact a1.mk e2
      | succ k => exact a2 k v' d' (by omega) (by simpa using hv) (by simpa using hd)⟩
def xMeth (i : Nat) (m : Str) (n : Nat) (g : List (Str × D) → List D → Option (D × List (Str × D))) (fs : SE → Option (List D)) : SE → Option (D × SE) := fun env => match env[i]? with
  | some (.mo fl) => if (fl.lookup m).isNone then (match fs env with
    | some ds => if ds.length + 1 == n then (match g fl (.none :: ds) with
      | some (d, fl') => some (d, env.set i (.mo fl'))
      | none => none) else none
    | none => none) else none
  | _ => none
theorem x_meth {cls : Addr} {k n : Nat} {f : Addr} {fd : FuncData} {ps : List Str} {g : List (Str × D) → List D → Option (D × List (Str × D))} {pl : Sem Bool} (hC : C.cls = cls) (hv : PE X (.Name x px) (tVar i)) (c : Cls X.K cls) (hm : Meth X.K cls m f)
    (F : FnOk X.prog X.w X.K X.mg X.base CX0 k f fd ps (SpM cls 0 n g)) (hr : Room k X.A) (hb : Binds X.K fd ps []) (ha : SemA X C (e :: es) t fs)
    (hst : starEach (e :: es) X.env = (false, eval e X.env) :: starEach es X.env := by rfl) (hpl : (backTo pos (starEach es X.env)).any (·.1) = false := by rfl)
    (ht : eval (.Call (.Attribute (.Name x px) m apos) (e :: es) [] pos) X.env = (do
      let ov ← eval (.Name x px) X.env
      standAt apos.atName
      let (f, first) ← holding [ov] (getMethod ov m pl)
      callWith pos f first (backTo pos (starEach (e :: es) X.env)) (backToKw pos (keywordEach [] X.env))) := by rfl) :
    SemX X C (.Call (.Attribute (.Name x px) m apos) (e :: es) [] pos) (tMeth cls m (SpM cls 0 n g) [] E0 (tVar i) t) (xMeth i m n g fs) := ⟨pe_meth hv c hm F hr hb .nil pass0 ha.pa hst hpl ht, fun B S0 H σ env env' d E hf Q q => by
  unfold xMeth at hf
  split at hf
  case h_2 => cases hf
  rename_i fl hi
  split at hf
  case isFalse => cases hf
  rename_i hn
  cases h1 : fs env with
  | none => simp only [h1] at hf; cases hf
  | some ds =>
    simp only [h1] at hf
    split at hf
    case isFalse => cases hf
    rename_i hln
    split at hf
    case h_2 => cases hf
    rename_i d' fl' hg
    cases hf
    obtain ⟨p, hp, ⟨dx, vfs, hH, hA, hpin⟩, ho⟩ := E.got hi rfl
    rw [hC] at hH
    refine ⟨.ref p, hp, p, dx, vfs, rfl, hH, (hA.look m).2 (Option.isNone_iff_eq_none.mp hn), ?_⟩
    refine ha.ev B S0 H σ env ds E h1 _ fun vs H1 e1 a1 => ?_
    have E1 := E.ext e1
    refine ⟨SS S0 σ env, p, dx, vfs, fl, fl', .none :: ds, d, ?_, ?_, rfl, fun k v d hk hv hd => ?_, .inr ho, E1.lv, e1 _ _ hH, hA.mk e1, hg, fun v H' dx' vfs' eX hp' hf' a' => ?_⟩
    · rw [List.append_nil, List.length_cons, a1.length]
      exact eq_of_beq hln
    · rw [List.length_cons]
      exact eq_of_beq hln
    · cases k with
      | zero => exact absurd rfl hk
      | succ k =>
        rw [List.append_nil] at hv
        obtain ⟨d', h3, h4⟩ := a1.get' (i := k) (v := v) (by simpa using hv)
        have h5 : ds[k]? = some d := by simpa using hd
        rw [h3] at h5
        cases h5
        exact h4
    · have E2 := E1.mutX (s' := .mo fl') hi rfl hp rfl eX ⟨dx', vfs', by rw [hC]; exact hp', hf', hpin⟩
      refine q v H' E2 (a'.le (HLe.of (mask_ex fun a o z1 z2 => ⟨fun z => z1 (z.imp id fun ⟨k, s, y1, y2, y3⟩ => ?_), z2⟩)))
      by_cases hk : i = k
      · subst hk
        exact ⟨i, _, hi, rfl, y3⟩
      · rw [List.getElem?_set_ne hk] at y1
        exact ⟨k, s, y1, y2, y3⟩⟩
def xCall (i j n : Nat) (g : List (Str × D) → List D → Option (D × List (Str × D))) (fs : SE → Option (List D)) : SE → Option (D × SE) := fun env => match env[i]? with
  | some (.mo fl) => (match fs env with
    | some ds => if ds.length == n then (match g fl ds with
      | some (d, fl') => some (d, env.set i (.mo fl'))
      | none => none) else none
    | none => none)
  | _ => none
theorem x_call {cls : Addr} {k n : Nat} {f : Addr} {fd : FuncData} {ps : List Str} {g : List (Str × D) → List D → Option (D × List (Str × D))} (hC : C.cls = cls)
    (F : FnOk X.prog X.w X.K X.mg X.base CX0 k f fd ps (SpM cls j n g)) (hr : Room k X.A) (hg : Gl X x) (hm : X.mg x = some (.ref f)) (hk : PySem.W.keepIn X.K (.ref f) = true) (hb : Binds X.K fd ps [])
    (ha : SemAM X C (e :: es) t i j fs) (hdb : (x == ("__debug__" : Str)) = false := by decide) (he : starEach (e :: es) X.env = (false, eval e X.env) :: starEach es X.env := by rfl) (hpl : (backTo pos (starEach es X.env)).any (·.1) = false := by rfl) :
    SemX X C (.Call (.Name x p) (e :: es) [] pos) (tCall (SpM cls j n g) [] E0 t) (xCall i j n g fs) := ⟨pe_call F hr hg hm hk hb .nil pass0 ha.pa hdb he hpl, fun B S0 H σ env env' d E hf Q q => by
  unfold xCall at hf
  split at hf
  case h_2 => cases hf
  rename_i fl hi
  cases h1 : fs env with
  | none => simp only [h1] at hf; cases hf
  | some ds =>
    simp only [h1] at hf
    split at hf
    case isFalse => cases hf
    rename_i hln
    split at hf
    case h_2 => cases hf
    rename_i d' fl' hg
    cases hf
    obtain ⟨p, hp, ⟨dx, vfs, hH, hA, hpin⟩, ho⟩ := E.got hi rfl
    rw [hC] at hH
    refine ha.ev B S0 H σ env ds p E hp h1 _ fun vs H1 e1 l1 j1 a1 => ?_
    have E1 := E.ext e1
    refine ⟨SS S0 σ env, p, dx, vfs, fl, fl', ds, d, ?_, eq_of_beq hln, by rw [List.append_nil]; exact j1, fun k v d hk hv hd => ?_, .inr ho, E1.lv, e1 _ _ hH, hA.mk e1, hg, fun v H' dx' vfs' eX hp' hf' a' => ?_⟩
    · rw [List.append_nil, l1]
      exact eq_of_beq hln
    · rw [List.append_nil] at hv
      exact a1 k v d hk hv hd
    · have E2 := E1.mutX (s' := .mo fl') hi rfl hp rfl eX ⟨dx', vfs', by rw [hC]; exact hp', hf', hpin⟩
      refine q v H' E2 (a'.le (HLe.of (mask_ex fun a o z1 z2 => ⟨fun z => z1 (z.imp id fun ⟨k, s, y1, y2, y3⟩ => ?_), z2⟩)))
      by_cases hk : i = k
      · subst hk
        exact ⟨i, _, hi, rfl, y3⟩
      · rw [List.getElem?_set_ne hk] at y1
        exact ⟨k, s, y1, y2, y3⟩⟩
/-! ### their statements -/
def cDropX (f : SE → Option (D × SE)) : SE → Option Out := fun env => match f env with
  | some (_, e) => some (.next e)
  | none => none
def cAsgX (f : SE → Option (D × SE)) (a : D → SE → Option SE) : SE → Option Out := fun env => match f env with
  | some (d, e) => (match a d e with
    | some e => some (.next e)
    | none => none)
  | none => none
def cRetX (f : SE → Option (D × SE)) : SE → Option Out := fun env => match f env with
  | some (d, e) => some (.rets d e)
  | none => none
def cRets (f : SE → Option D) : SE → Option Out := fun env => match f env with
  | some d => some (.rets d env)
  | none => none
theorem st_exprX (he : SemX X C e te fx) (hs : swapsWith e none pos.line X.env = pure false := by rfl) : SemS X C (.Expr e pos) (tDrop te) (cDropX fx) := ⟨ps_expr he.pe hs, fun D B S0 H σ env o E hf P => by
  unfold cDropX at hf
  split at hf
  · rename_i d e' h
    cases hf
    exact he.ev B S0 H σ env e' d E h _ fun v H1 E1 a1 => P σ H1 E1
  · cases hf⟩
theorem st_asgX {tg : Expr} {g : TG} {ts : List Nat} {a : D → SE → Option SE} (he : SemX X C e te fx) (hg : SemG X C tg g ts a) (hs : swapsWithSole [tg] e pos.line X.env = pure false := by rfl) (hw : swappedStores [tg] e X.env = pure none := by rfl)
    (h1 : (assignEach [tg] X.env).map (·.2) = [assign tg X.env] := by rfl) : SemS X C (.Assign [tg] e pos) (tAsg te g) (cAsgX fx a) := ⟨ps_asg he.pe hg.pg hs hw h1, fun D B S0 H σ env o E hf P => by
  unfold cAsgX at hf
  split at hf
  · rename_i d e' h
    split at hf
    · rename_i e2 h2
      cases hf
      exact he.ev B S0 H σ env e' d E h _ fun v H1 E1 a1 => hg.ev B S0 H1 σ e' e2 v d E1 a1 h2 _ fun σ2 H2 E2 _ _ _ _ => P σ2 H2 E2
    · cases hf
  · cases hf⟩
theorem st_retX (he : SemX X C e te fx) : SemS X C (.Return (some e) pos) (tRet te) (cRetX fx) := ⟨ps_ret he.pe, fun D B S0 H σ env o E hf P => by
  unfold cRetX at hf
  split at hf
  · rename_i d e' h
    cases hf
    exact he.ev B S0 H σ env e' d E h _ fun v H1 E1 a1 => P v σ H1 E1 a1
  · cases hf⟩
theorem st_rets (he : SemE X C e te f) : SemS X C (.Return (some e) pos) (tRet te) (cRets f) := ⟨ps_ret he.pe, fun D B S0 H σ env o E hf P => by
  unfold cRets at hf
  split at hf
  · rename_i d h
    cases hf
    exact he.ev B S0 H σ env d E h _ fun v H1 e1 a1 => P v σ H1 (E.ext e1) a1
  · cases hf⟩
/-! ### fields -/
def eFld (i : Nat) (m : Str) : SE → Option D := fun env => match env[i]? with
  | some (.mo fl) => fl.lookup m
  | _ => none
theorem s_fld {cls : Addr} (hC : C.cls = cls) (hv : PE X (.Name x px) (tVar i)) (c : Cls X.K cls) (n : NoAttr X.K cls m) (hb : attributeBase (.Name x px) m X.env (eval (.Name x px) X.env) = eval (.Name x px) X.env := by rfl) :
    SemE X C (.Attribute (.Name x px) m pos) (tFld X.K (tVar i) m) (eFld i m) := ⟨pe_fld hv hb, fun B S0 H σ env d E hf Q q => by
  unfold eFld at hf
  split at hf
  case h_2 => cases hf
  rename_i fl hi
  obtain ⟨p, hp, ⟨dx, vfs, hH, hA, hpin⟩, ho⟩ := E.got hi rfl
  rw [hC] at hH
  obtain ⟨v, h1, h2⟩ := (hA.look m).1 d hf
  exact ⟨.ref p, hp, p, cls, dx, vfs, v, rfl, hH, c, n, h1, q v H (Ex.refl H) h2⟩⟩
def cFld (i : Nat) (m : Str) (f : SE → Option D) : SE → Option Out := fun env => match f env with
  | some d => (match env[i]? with
    | some (.mo fl) => if fl.length < 1000 then some (.next (env.set i (.mo (putFD m d fl)))) else none
    | _ => none)
  | none => none
theorem upd_eX {H : Hp} {p : Addr} {o : HO} : Ex (mask (fun a => a = p) H) (upd H p o) := fun a u h => by
  obtain ⟨h1, h2⟩ := mask_some h
  rw [upd_ne h1]
  exact h2
theorem AtF.upd {S : Addr → Prop} {H : Hp} {p : Addr} {o : HO} {vs : List (Str × V)} {ds : List (Str × D)} (sp : S p) (h : AtF (mask S H) vs ds) : AtF (mask S (upd H p o)) vs ds := h.le (HLe.of (mask_ex fun a u h1 h2 => ⟨h1, by
  rw [upd_ne (fun z => h1 (by rw [z]; exact sp))]
  exact h2⟩))
theorem At.upd {S : Addr → Prop} {H : Hp} {p : Addr} {o : HO} {vs : V} {ds : D} (sp : S p) (h : At (mask S H) vs ds) : At (mask S (upd H p o)) vs ds := h.le (HLe.of (mask_ex fun a u h1 h2 => ⟨h1, by
  rw [upd_ne (fun z => h1 (by rw [z]; exact sp))]
  exact h2⟩))
theorem st_fldset {cls : Addr} (hC : C.cls = cls) (hv : PE X (.Name x px) (tVar i)) (c : Cls X.K cls) (n : NoAttr X.K cls m) (he : SemE X C e te f) (hs : swapsWith e (some (.Attribute (.Name x px) m apos)) pos.line X.env = pure false := by rfl) :
    SemS X C (.Assign [.Attribute (.Name x px) m apos] e pos) (sFld X.K (tVar i) te m) (cFld i m f) := ⟨ps_fld hv he.pe hs, fun D B S0 H σ env o E hf P => by
  unfold cFld at hf
  split at hf
  case h_2 => cases hf
  rename_i d h1
  split at hf
  case h_2 => cases hf
  rename_i fl hi
  split at hf
  case isFalse => cases hf
  rename_i hl
  cases hf
  refine he.ev B S0 H σ env d E h1 _ fun v H1 e1 a1 => ?_
  have E1 := E.ext e1
  obtain ⟨p, hp, ⟨dx, vfs, hH, hA, hpin⟩, ho⟩ := E1.got hi rfl
  rw [hC] at hH
  refine ⟨.ref p, hp, p, cls, dx, vfs, rfl, hH, c, n, by rw [hA.length]; exact hl, ?_⟩
  exact P σ _ (E1.mutX hi rfl hp rfl upd_eX ⟨dx, putF m v vfs, by rw [upd_same, hC], (hA.put a1).upd (.inr ho), hpin⟩)⟩
/-- o.f, a target -/
def gFld (K : PySem.W.Frag) (ta : TE) (m : Str) : TG := fun v σ H Q => ta σ H fun x H1 => ∃ a C dx fs, x = .ref a ∧ H1 a = some (.ins C dx fs) ∧ Cls K C ∧ NoAttr K C m ∧ fs.length < 1000 ∧ Q σ (upd H1 a (.ins C dx (putF m v fs)))
theorem pg_fld {o : Expr} {ta : TE} (ha : PE X o ta) : PG X (.Attribute o m pos) (gFld X.K ta m) := by
  refine ⟨fun pins s σ H v u Q I r h => ?_⟩
  rw [assign_Attribute]
  refine wpAny_bind (wpAny_holding (thn (ha.run pins s σ H _ I h) fun ov s1 ⟨x, H1, I1, rx, a, C, dx, fs, ex, ea, c, n, l, q1⟩ => ?_))
  subst ex
  obtain rfl : ov = Value.ref a := rx
  refine wpAny_bind (wpAny_standAt (wpAny_bind (wpAny_holding (setattr_ok I1 ea c n l r fun s3 I3 => ?_))))
  exact wpAny_release ⟨σ, _, I3, q1⟩
def cFldT (i : Nat) (m : Str) (j : Nat) (f : SE → Option D) : SE → Option Out := fun env => match f env with
  | some (.tuple [v, w]) => (match env[i]? with
    | some (.mo fl) => if fl.length < 1000 then some (.next ((env.set i (.mo (putFD m v fl))).set j (.pu w))) else none
    | _ => none)
  | _ => none
theorem st_fldT {cls : Addr} {z : Str} {pz tp : Pos} {kk : Nat} (hC : C.cls = cls) (hc : X.calm = true) (hv : PE X (.Name x px) (tVar i)) (c : Cls X.K cls) (n : NoAttr X.K cls m) (hz : PG X (.Name z pz) (gName j)) (he : SemE X C e te f)
    (hn : (assignEach [.Attribute (.Name x px) m apos, .Name z pz] X.env).length = 2 := by rfl) (hst : (assignEach [.Attribute (.Name x px) m apos, .Name z pz] X.env).findIdx? (·.1) = none := by rfl)
    (hs0 : (assignEach [.Attribute (.Name x px) m apos, .Name z pz] X.env).map (·.2) = assign (.Attribute (.Name x px) m apos) X.env :: (assignEach [.Name z pz] X.env).map (·.2) := by rfl)
    (hs1 : (assignEach [.Name z pz] X.env).map (·.2) = assign (.Name z pz) X.env :: (assignEach [] X.env).map (·.2) := by rfl)
    (hs : swapsWithSole [.Tuple [.Attribute (.Name x px) m apos, .Name z pz] kk tp] e pos.line X.env = pure false := by rfl) (hw : swappedStores [.Tuple [.Attribute (.Name x px) m apos, .Name z pz] kk tp] e X.env = pure none := by rfl)
    (h1 : (assignEach [.Tuple [.Attribute (.Name x px) m apos, .Name z pz] kk tp] X.env).map (·.2) = [assign (.Tuple [.Attribute (.Name x px) m apos, .Name z pz] kk tp) X.env] := by rfl) :
    SemS X C (.Assign [.Tuple [.Attribute (.Name x px) m apos, .Name z pz] kk tp] e pos) (tAsg te (gTup X.K 2 (gCons (gFld X.K (tVar i) m) (gCons (gName j) gNil)))) (cFldT i m j f) :=
  ⟨ps_asg he.pe (pg_tup hc (pgs_cons (pg_fld hv) (pgs_cons hz pgs_nil hs1) hs0) hn hst) hs hw h1, fun D B S0 H σ env o E hf P => by
  unfold cFldT at hf
  split at hf
  case h_2 => cases hf
  rename_i v w h1
  split at hf
  case h_2 => cases hf
  rename_i fl hi
  split at hf
  case isFalse => cases hf
  rename_i hl
  cases hf
  refine he.ev B S0 H σ env _ E h1 _ fun u H1 e1 a1 => ?_
  have E1 := E.ext e1
  obtain ⟨p, hp, ⟨dx, vfs, hH, hA, hpin⟩, ho⟩ := E1.got hi rfl
  rw [hC] at hH
  cases a1 with
  | tup q1 q2 => cases q2 with
    | cons q2 q3 => cases q3 with
      | cons q3 q4 =>
        cases q4
        rename_i v1 v2
        refine ⟨_, _, rfl, SqT.of (mask_some q1).2, rfl, _, _, rfl, ?_⟩
        refine ⟨.ref p, hp, p, cls, dx, vfs, rfl, hH, c, n, by rw [hA.length]; exact hl, ?_⟩
        refine ⟨_, _, rfl, rfl, ?_⟩
        have E2 := E1.mutX (s' := .mo (putFD m v fl)) (H' := upd H1 p (.ins cls dx (putF m v1 vfs))) hi rfl hp rfl upd_eX ⟨dx, putF m v1 vfs, by rw [upd_same, hC], (hA.put q2).upd (.inr ho), hpin⟩
        have le : ∀ b u, ¬ SS S0 σ env b → upd H1 p (.ins cls dx (putF m v1 vfs)) b = some u → ¬ SS S0 σ (env.set i (.mo (putFD m v fl))) b ∧ upd H1 p (.ins cls dx (putF m v1 vfs)) b = some u := fun b u h1 h2 => by
          refine ⟨fun z => h1 (z.imp id fun z => ?_), h2⟩
          obtain ⟨k, s, z1, z2, z3⟩ := z
          by_cases hk : i = k
          · subst hk
            exact ⟨i, _, hi, rfl, z3⟩
          · rw [List.getElem?_set_ne hk] at z1
            exact ⟨k, s, z1, z2, z3⟩
        exact P _ _ (E2.set ((q3.upd (.inr ho)).le (HLe.of (mask_ex le))))⟩
/-! ### a new object -/
def cMake (i n : Nat) (g : List (Str × D) → List D → Option (D × List (Str × D))) (fs : SE → Option (List D)) : SE → Option Out := fun env => match fs env with
  | some ds => if ds.length + 1 == n then (match g [] (.none :: ds) with
    | some (.none, fl) => some (.next (env.set i (.mo fl)))
    | _ => none) else none
  | none => none
theorem st_make {cls : Addr} {k n : Nat} {f : Addr} {fd : FuncData} {ps : List Str} {g : List (Str × D) → List D → Option (D × List (Str × D))} {y : Str} (hC : C = ⟨cls, none⟩) (M : Mk X.K cls f)
    (F : FnOk X.prog X.w X.K X.mg X.base CX0 k f fd ps (SpM cls 0 n g)) (hr : Room (k + 1) X.A) (hg : Gl X y) (hm : X.mg y = some (.ref cls)) (hb : Binds X.K fd ps [])
    (ha : SemA X C (e :: es) t fs) (hz : PG X (.Name x px) (gName i)) (hdb : (y == ("__debug__" : Str)) = false := by decide) (he : starEach (e :: es) X.env = (false, eval e X.env) :: starEach es X.env := by rfl) (hpl : (backTo apos (starEach es X.env)).any (·.1) = false := by rfl)
    (hs : swapsWithSole [.Name x px] (.Call (.Name y p) (e :: es) [] apos) pos.line X.env = pure false := by rfl) (hw : swappedStores [.Name x px] (.Call (.Name y p) (e :: es) [] apos) X.env = pure none := by rfl)
    (h1 : (assignEach [.Name x px] X.env).map (·.2) = [assign (.Name x px) X.env] := by rfl) :
    SemS X C (.Assign [.Name x px] (.Call (.Name y p) (e :: es) [] apos) pos) (tAsg (tMake cls (SpM cls 0 n g) [] E0 t) (gName i)) (cMake i n g fs) :=
  ⟨ps_asg (pe_make M F hr hg hm hb .nil pass0 ha.pa hdb he hpl) hz hs hw h1, fun D B S0 H σ env o E hf P => by
  subst hC
  unfold cMake at hf
  split at hf
  case h_2 => cases hf
  rename_i ds h1
  split at hf
  case isFalse => cases hf
  rename_i hln
  split at hf
  case h_2 => cases hf
  rename_i fl hg2
  cases hf
  refine ha.ev B S0 H σ env ds E h1 _ fun vs H1 e1 a1 => ?_
  have E1 := E.ext e1
  intro q dx hq hdx hne
  have eN : Ex H1 (upd (upd H1 dx (.own q)) q (.ins cls dx [])) := (Ex.new hdx).trans (Ex.new (by rw [upd_ne (fun z => hne z.symm)]; exact hq))
  have hqo : ∀ {a : Addr} {o : HO}, H1 a = some o → a ≠ q := fun h z => by
    rw [z, hq] at h
    cases h
  have leN : HLe (mask (SS S0 σ env) H1) (mask (fun a => SS S0 σ env a ∨ a = q) (upd (upd H1 dx (.own q)) q (.ins cls dx []))) := HLe.of (mask_ex fun a o z1 z2 => ⟨fun z => z.elim z1 (hqo z2), eN a o z2⟩)
  refine ⟨fun a => SS S0 σ env a ∨ a = q, q, dx, [], [], fl, .none :: ds, .none, ?_, ?_, rfl, fun k v d hk hv hd => ?_, .inr rfl, fun a z => ?_, upd_same, .nil, hg2, fun v H' dx' vfs' eX hp' hf' a' => ?_⟩
  · rw [List.append_nil, List.length_cons, a1.length]
    exact eq_of_beq hln
  · rw [List.length_cons]
    exact eq_of_beq hln
  · cases k with
    | zero => exact absurd rfl hk
    | succ k =>
      rw [List.append_nil] at hv
      obtain ⟨d', h3, h4⟩ := a1.get' (i := k) (v := v) (by simpa using hv)
      have h5 : ds[k]? = some d := by simpa using hd
      rw [h3] at h5
      cases h5
      exact h4.le leN
  · rcases z with z | z
    · obtain ⟨o, y1, y2⟩ := E1.lv a z
      exact ⟨o, eN a o y1, y2⟩
    · subst z
      exact ⟨_, upd_same, fun _ z => (nomatch z), fun _ _ z => (nomatch z)⟩
  · have hv : v = .non := by cases a'; rfl
    subst hv
    refine ⟨rfl, ?_⟩
    have eH : Ex H1 H' := fun a o z => eX a o (by rw [mask_out (S := fun a => a = q) (hqo z)]; exact eN a o z)
    have E2 := E1.setNew (i := i) (s := .mo []) (H' := upd H1 q (.ins cls dx [])) hq (Ex.new hq) rfl ⟨dx, [], upd_same, .nil, fun _ z => (nomatch z)⟩
    by_cases hi : i < env.length
    · have E3 := E2.mutX (i := i) (s := .mo []) (s' := .mo fl) (H' := H') (p := q) (List.getElem?_set_self hi) rfl (List.getElem?_set_self (by rw [E.len]; exact hi)) rfl (fun a o z => by
        obtain ⟨z1, z2⟩ := mask_some z
        rw [upd_ne z1] at z2
        exact eH a o z2) ⟨dx', vfs', hp', hf'.le (HLe.of (mask_ex fun a o z1 z2 => ⟨fun z => z1 ?_, z2⟩)), fun _ z => (nomatch z)⟩
      · rw [List.set_set] at E3
        exact P _ _ E3
      · rcases z with z | ⟨k, s, y1, y2, y3⟩
        · exact .inl (.inl z)
        · by_cases hk : i = k
          · subst hk
            rw [List.getElem?_set_self (by rw [E.len]; exact hi)] at y3
            cases y3
            exact .inr rfl
          · rw [List.getElem?_set_ne hk] at y1 y3
            exact .inl (.inr ⟨k, s, y1, y2, y3⟩)
    · have hi' : ¬ i < σ.length := by rw [E.len]; exact hi
      have P' := P (σ.set i (some (V.ref q))) H'
      rw [List.set_eq_of_length_le (by omega)] at P'
      rw [List.set_eq_of_length_le (by omega)] at P'
      show D.nx (σ.set i (some (V.ref q))) H'
      rw [List.set_eq_of_length_le (by omega)]
      exact P' (E1.ext eH)⟩
/-! ### o.size() -/
def SpSz (cls : Addr) : Sp := fun vs H Q _ => ∃ p dx vfs a xs, vs = [.ref p] ∧ H p = some (.ins cls dx vfs) ∧ vfs.lookup ("held" : Str) = some (.ref a) ∧ H a = some (.tup xs) ∧ Q (.int xs.length) H
def eSize (i : Nat) : SE → Option D := fun env => match env[i]? with
  | some (.mo fl) => (match fl.lookup ("size" : Str), fl.lookup ("held" : Str) with
    | none, some (.tuple ds) => some (.int ds.length)
    | _, _ => none)
  | _ => none
theorem s_size {cls : Addr} {k : Nat} {f : Addr} {fd : FuncData} {ps : List Str} {pl : Sem Bool} (hC : C.cls = cls) (hv : PE X (.Name x px) (tVar i)) (c : Cls X.K cls) (hm : Meth X.K cls "size" f) (F : FnOk X.prog X.w X.K X.mg X.base CX0 k f fd ps (SpSz cls)) (hr : Room k X.A) (hb : Binds X.K fd ps [])
    (ht : eval (.Call (.Attribute (.Name x px) "size" apos) [] [] pos) X.env = (do
      let ov ← eval (.Name x px) X.env
      standAt apos.atName
      let (f, first) ← holding [ov] (getMethod ov "size" pl)
      callWith pos f first (backTo pos (starEach [] X.env)) (backToKw pos (keywordEach [] X.env))) := by rfl) :
    SemE X C (.Call (.Attribute (.Name x px) "size" apos) [] [] pos) (tMeth cls "size" (SpSz cls) [] E0 (tVar i) tNil) (eSize i) := ⟨pe_meth0 hv c hm F hr hb .nil pass0 ht, fun B S0 H σ env d E hf Q q => by
  unfold eSize at hf
  split at hf
  case h_2 => cases hf
  rename_i fl hi
  split at hf
  case h_2 => cases hf
  rename_i ds h1 h2
  cases hf
  obtain ⟨p, hp, ⟨dx, vfs, hH, hA, hpin⟩, ho⟩ := E.got hi rfl
  rw [hC] at hH
  obtain ⟨v, h3, h4⟩ := (hA.look "held").1 _ h2
  refine ⟨.ref p, hp, p, dx, vfs, rfl, hH, (hA.look "size").2 h1, ?_⟩
  cases h4 with
  | tup q1 q2 =>
    refine ⟨p, dx, vfs, _, _, rfl, hH, h3, (mask_some q1).2, ?_⟩
    rw [q2.length]
    exact q _ H (Ex.refl H) (.int _)⟩
end
end Tm

namespace Tm
open PySem L2
open Evl (Ex)

/-! ### names of this text -/
/-- the def named x keeps the promise sp -/
structure Has (P : Program) (w : World) (K : PySem.W.Frag) (mg : Str → Option Value) (base : Heap) (x : Str) (k : Nat) (ps : List Str) (sp : Sp) : Prop where
  ex : ∃ (f : Addr) (fd : FuncData), FnOk P w K mg base CX0 k f fd ps sp ∧ mg x = some (.ref f) ∧ PySem.W.keepIn K (.ref f) = true ∧ Binds K fd ps []
/-- a constant of the text -/
def GI (mg : Str → Option Value) (x : Str) (v : Int) : Prop := ∃ u, mg x = some u ∧ RelV (.int v) u
/-- the def stands there -/
structure Def (K : PySem.W.Frag) (mg : Str → Option Value) (x : Str) (st : Stmt) (ps : List Str) : Prop where
  ex : ∃ (f : Addr) (fd : FuncData), Fun K x x st f fd ∧ mg x = some (.ref f) ∧ PySem.W.keepIn K (.ref f) = true ∧ Binds K fd ps []
theorem Def.has {P : Program} {w : World} {K : PySem.W.Frag} {mg : Str → Option Value} {base : Heap} {x : Str} {st : Stmt} {ps : List Str} {k : Nat} {sp : Sp} (d : Def K mg x st ps) (h : ∀ f fd, Fun K x x st f fd → FnOk P w K mg base CX0 k f fd ps sp) : Has P w K mg base x k ps sp :=
  let ⟨f, fd, F, a, b, c⟩ := d.ex
  ⟨f, fd, h f fd F, a, b, c⟩
/-- the method m of the class -/
structure MHas (P : Program) (w : World) (K : PySem.W.Frag) (mg : Str → Option Value) (base : Heap) (C : Addr) (m : Str) (k : Nat) (ps : List Str) (sp : Sp) : Prop where
  ex : ∃ (f : Addr) (fd : FuncData), FnOk P w K mg base CX0 k f fd ps sp ∧ Meth K C m f ∧ Binds K fd ps []
structure MDef (K : PySem.W.Frag) (C : Addr) (m qual : Str) (st : Stmt) (ps : List Str) : Prop where
  ex : ∃ (f : Addr) (fd : FuncData), Fun K m qual st f fd ∧ Meth K C m f ∧ Binds K fd ps []
theorem MDef.has {P : Program} {w : World} {K : PySem.W.Frag} {mg : Str → Option Value} {base : Heap} {C : Addr} {x qual : Str} {st : Stmt} {ps : List Str} {k : Nat} {sp : Sp} (d : MDef K C x qual st ps) (h : ∀ f fd, Fun K x qual st f fd → FnOk P w K mg base CX0 k f fd ps sp) : MHas P w K mg base C x k ps sp :=
  let ⟨f, fd, F, a, b⟩ := d.ex
  ⟨f, fd, h f fd F, a, b⟩
section
variable {X : Cx} {C : CA} {e : Expr} {es : List Expr} {te : TE} {t : TA} {f : SE → Option D} {fs : SE → Option (List D)} {pos p px apos : Pos} {x m y : Str} {i j k n : Nat} {ps : List Str}
theorem gv (i : Nat) (hN : X.N.Nodup) (hi : X.N[i]? = some x := by rfl) (hx : Loc X.env.scope x := by first | exact Or.inl rfl | exact Or.inr rfl) (hf : X.fn x = true ∨ X.env.scope.names.lookup x = some .local := by first | exact .inl rfl | exact .inr rfl) :
    SemG X C (.Name x pos) (gName i) [i] (aName i) := g_name i (pg_name hN hi hx hf)
theorem gn (i : Nat) (hN : X.N.Nodup) (hi : X.N[i]? = some x := by rfl) (hx : Loc X.env.scope x := by first | exact Or.inl rfl | exact Or.inr rfl) (hf : X.fn x = true ∨ X.env.scope.names.lookup x = some .local := by first | exact .inl rfl | exact .inr rfl) :
    PG X (.Name x pos) (gName i) := pg_name hN hi hx hf
theorem gt {n : Nat} {gs : TGs} {ts : List Nat} {b : List D → SE → Option SE} {kk : Nat} (h : SemGs X C es gs ts b) (hc : X.calm = true := by rfl)
    (hn : (assignEach es X.env).length = n := by rfl) (hst : (assignEach es X.env).findIdx? (·.1) = none := by rfl) : SemG X C (.Tuple es kk pos) (gTup X.K n gs) ts (aTup n b) := g_tup hc h hn hst
theorem vv (i : Nat) (hN : X.N[i]? = some x := by rfl) (hv : Vis X.env.scope x := by first | exact Or.inl rfl | exact Or.inr (Or.inl rfl) | exact Or.inr (Or.inr rfl)) (hd : (x == ("__debug__" : Str)) = false := by decide)
    (hcd : (x == ("__classdict__" : Str)) = false := by decide) : SemE X C (.Name x pos) (tVar i) (eVar i) := sv i (pe_var hN hv hd hcd)
theorem sgi {v : Int} (h : GI X.mg x v) (hg : Gl X x := by rfl) (hd : (x == ("__debug__" : Str)) = false := by decide) : SemE X C (.Name x pos) (tC (.int v)) (eC (.int v)) := let ⟨_, hm, r⟩ := h
  sc_ (pe_glob hg hm r hd) rfl
theorem cl {g : List D → Option D} (h : Has X.prog X.w X.K X.mg X.base x k ps (SpD n g)) (hr : Room k X.A) (ha : SemA X C (e :: es) t fs) (hg : Gl X x := by rfl) (hdb : (x == ("__debug__" : Str)) = false := by decide) (he : starEach (e :: es) X.env = (false, eval e X.env) :: starEach es X.env := by rfl) (hpl : (backTo pos (starEach es X.env)).any (·.1) = false := by rfl) :
    SemE X C (.Call (.Name x p) (e :: es) [] pos) (tCall (SpD n g) [] E0 t) (eA (gN n g) fs) :=
  let ⟨_, _, F, a, b, c⟩ := h.ex
  s_call F hr hg a b c ha hdb he hpl
theorem xm {cls : Addr} {g : List (Str × D) → List D → Option (D × List (Str × D))} {pl : Sem Bool} (h : MHas X.prog X.w X.K X.mg X.base cls m k ps (SpM cls 0 n g)) (hC : C.cls = cls) (c : Cls X.K cls) (hv : PE X (.Name x px) (tVar i)) (hr : Room k X.A) (ha : SemA X C (e :: es) t fs)
    (hst : starEach (e :: es) X.env = (false, eval e X.env) :: starEach es X.env := by rfl) (hpl : (backTo pos (starEach es X.env)).any (·.1) = false := by rfl)
    (ht : eval (.Call (.Attribute (.Name x px) m apos) (e :: es) [] pos) X.env = (do
      let ov ← eval (.Name x px) X.env
      standAt apos.atName
      let (f, first) ← holding [ov] (getMethod ov m pl)
      callWith pos f first (backTo pos (starEach (e :: es) X.env)) (backToKw pos (keywordEach [] X.env))) := by rfl) :
    SemX X C (.Call (.Attribute (.Name x px) m apos) (e :: es) [] pos) (tMeth cls m (SpM cls 0 n g) [] E0 (tVar i) t) (xMeth i m n g fs) :=
  let ⟨_, _, F, a, b⟩ := h.ex
  x_meth hC hv c a F hr b ha hst hpl ht
theorem xc {cls : Addr} {g : List (Str × D) → List D → Option (D × List (Str × D))} (h : Has X.prog X.w X.K X.mg X.base x k ps (SpM cls j n g)) (hC : C.cls = cls) (hr : Room k X.A) (ha : SemAM X C (e :: es) t i j fs) (hg : Gl X x := by rfl)
    (hdb : (x == ("__debug__" : Str)) = false := by decide) (he : starEach (e :: es) X.env = (false, eval e X.env) :: starEach es X.env := by rfl) (hpl : (backTo pos (starEach es X.env)).any (·.1) = false := by rfl) :
    SemX X C (.Call (.Name x p) (e :: es) [] pos) (tCall (SpM cls j n g) [] E0 t) (xCall i j n g fs) :=
  let ⟨_, _, F, a, b, c⟩ := h.ex
  x_call hC F hr hg a b c ha hdb he hpl
theorem sz {cls : Addr} {pl : Sem Bool} (h : MHas X.prog X.w X.K X.mg X.base cls "size" k ps (SpSz cls)) (hC : C.cls = cls) (c : Cls X.K cls) (hv : PE X (.Name x px) (tVar i)) (hr : Room k X.A)
    (ht : eval (.Call (.Attribute (.Name x px) "size" apos) [] [] pos) X.env = (do
      let ov ← eval (.Name x px) X.env
      standAt apos.atName
      let (f, first) ← holding [ov] (getMethod ov "size" pl)
      callWith pos f first (backTo pos (starEach [] X.env)) (backToKw pos (keywordEach [] X.env))) := by rfl) :
    SemE X C (.Call (.Attribute (.Name x px) "size" apos) [] [] pos) (tMeth cls "size" (SpSz cls) [] E0 (tVar i) tNil) (eSize i) :=
  let ⟨_, _, F, a, b⟩ := h.ex
  s_size hC hv c a F hr b ht
theorem mk {cls : Addr} {g : List (Str × D) → List D → Option (D × List (Str × D))} (h : MHas X.prog X.w X.K X.mg X.base cls "__init__" k ps (SpM cls 0 n g)) (hC : C = ⟨cls, none⟩) (hm : X.mg y = some (.ref cls)) (h1 : PySem.W.makesIn X.K cls = true) (h2 : PySem.W.keepIn X.K (.ref cls) = true) (hr : Room (k + 1) X.A) (ha : SemA X C (e :: es) t fs) (hz : PG X (.Name x px) (gName i))
    (hg : Gl X y := by rfl) (hdb : (y == ("__debug__" : Str)) = false := by decide) (he : starEach (e :: es) X.env = (false, eval e X.env) :: starEach es X.env := by rfl) (hpl : (backTo apos (starEach es X.env)).any (·.1) = false := by rfl)
    (hs : swapsWithSole [.Name x px] (.Call (.Name y p) (e :: es) [] apos) pos.line X.env = pure false := by rfl) (hw : swappedStores [.Name x px] (.Call (.Name y p) (e :: es) [] apos) X.env = pure none := by rfl)
    (h1' : (assignEach [.Name x px] X.env).map (·.2) = [assign (.Name x px) X.env] := by rfl) :
    SemS X C (.Assign [.Name x px] (.Call (.Name y p) (e :: es) [] apos) pos) (tAsg (tMake cls (SpM cls 0 n g) [] E0 t) (gName i)) (cMake i n g fs) :=
  let ⟨_, _, F, a, b⟩ := h.ex
  st_make hC ⟨h1, a.at_, a.fn, h2⟩ F hr hg hm b ha hz hdb he hpl hs hw h1'
end

/-! ### xs.extend(e), e with a look at xs -/
def isI : D → Bool
  | .int _ => true
  | _ => false
theorem AtL.ints_any {H H' : Hp} : ∀ {vs : List V} {ds : List D}, ds.all isI = true → AtL H vs ds → AtL H' vs ds
  | _, _, _, .nil => .nil
  | _, _, e, .cons h t => by
    rw [List.all_cons, Bool.and_eq_true] at e
    refine .cons ?_ (AtL.ints_any e.2 t)
    cases h <;> first | exact .int _ | (cases e.1; done)
def cExtS (i : Nat) (f : SE → Option D) : SE → Option Out := fun env => match env[i]? with
  | some (.ol ds) => (match f (env.set i (.pu (.list ds))) with
    | some (.list es) => if szOk (ds.length + es.length) && es.all isI then some (.next (env.set i (.ol (ds ++ es)))) else none
    | _ => none)
  | _ => none
section
variable {X : Cx} {C : CA} {e : Expr} {te : TE} {f : SE → Option D} {pos px : Pos} {x : Str} {i : Nat}
theorem st_extS {pa pc : Pos} (hv : PE X (.Name x px) (tVar i)) (he : SemE X C e te f) (hb : PE X (.Call (.Attribute (.Name x px) "extend" pa) [e] [] pc) (tBM X.K "list" rExtend (tVar i) (tCons te tNil))) (hs : swapsWith (.Call (.Attribute (.Name x px) "extend" pa) [e] [] pc) none pos.line X.env = pure false := by rfl) :
    SemS X C (.Expr (.Call (.Attribute (.Name x px) "extend" pa) [e] [] pc) pos) (tDrop (tBM X.K "list" rExtend (tVar i) (tCons te tNil))) (cExtS i f) := ⟨ps_expr hb hs, fun D B S0 H σ env o E hf P => by
  unfold cExtS at hf
  split at hf
  case h_2 => cases hf
  rename_i ds hi
  split at hf
  case h_2 => cases hf
  rename_i es h1
  split at hf
  case isFalse => cases hf
  rename_i hz
  rw [Bool.and_eq_true] at hz
  cases hf
  obtain ⟨p, hp, ⟨vs, hl, ha⟩, ho⟩ := E.got hi rfl
  refine ⟨.ref p, hp, .inl ⟨rfl, vs, SqL.of hl⟩, ?_⟩
  refine he.ev B S0 H σ _ _ (E.pro hi rfl) h1 _ fun v H1 e1 a1 => ?_
  cases a1 with
  | lst p1 p2 =>
    refine ⟨p, _, vs, _, rfl, rfl, e1 _ _ hl, (mask_some p1).2, ?_, ?_⟩
    · rw [ha.length, p2.length]
      have h9 : ds.length + es.length ≤ 100000 := of_decide_eq_true hz.1
      exact Evl.sz_of h9
    · exact P σ _ ((E.ext e1).mut hi rfl hp rfl ⟨_, upd_same, (ha.mk e1).append (p2.ints_any hz.2)⟩)⟩
/-! ### x.append, x.extend in short -/
theorem app (i : Nat) {pa pc : Pos} (hv : PE X (.Name x px) (tVar i)) (he : SemE X C e te f) (hs : swapsWith (.Call (.Attribute (.Name x px) "append" pa) [e] [] pc) none pos.line X.env = pure false := by rfl)
    (hbase : attributeBase (.Name x px) "append" X.env (eval (.Name x px) X.env) = eval (.Name x px) X.env := by rfl)
    (hfew : ((backTo pc (starEach [e] X.env)).all (fun x => !x.1) && (backToKw pc (keywordEach [] X.env)).all (fun x => x.1.isSome)
      && decide (([e] : List Expr).length + ([] : List Keyword).length + (if ([] : List Keyword).isEmpty then 0 else 1) < 30)) = true := by rfl)
    (hline : (pa.endLine == pc.line) = true := by rfl) (hs2 : starEach [e] X.env = (false, eval e X.env) :: starEach [] X.env := by rfl) (hplain : (backTo pc (starEach [] X.env)).any (·.1) = false := by rfl) :
    SemS X C (.Expr (.Call (.Attribute (.Name x px) "append" pa) [e] [] pc) pos) (tDrop (tBM X.K "list" rAppend (tVar i) (tCons te tNil))) (cApp i f) :=
  st_app hv he hs (pe_bm PySem.F.plainAttrs_list PySem.F.slot_list_append PySem.F.type_list_append mt_append hv (pa_cons he.pe pa_nil hs2) hbase hfew hline hs2 hplain)
theorem ext (i : Nat) {pa pc : Pos} (hv : PE X (.Name x px) (tVar i)) (he : SemE X C e te f) (hs : swapsWith (.Call (.Attribute (.Name x px) "extend" pa) [e] [] pc) none pos.line X.env = pure false := by rfl)
    (hbase : attributeBase (.Name x px) "extend" X.env (eval (.Name x px) X.env) = eval (.Name x px) X.env := by rfl)
    (hfew : ((backTo pc (starEach [e] X.env)).all (fun x => !x.1) && (backToKw pc (keywordEach [] X.env)).all (fun x => x.1.isSome)
      && decide (([e] : List Expr).length + ([] : List Keyword).length + (if ([] : List Keyword).isEmpty then 0 else 1) < 30)) = true := by rfl)
    (hline : (pa.endLine == pc.line) = true := by rfl) (hs2 : starEach [e] X.env = (false, eval e X.env) :: starEach [] X.env := by rfl) (hplain : (backTo pc (starEach [] X.env)).any (·.1) = false := by rfl) :
    SemS X C (.Expr (.Call (.Attribute (.Name x px) "extend" pa) [e] [] pc) pos) (tDrop (tBM X.K "list" rExtend (tVar i) (tCons te tNil))) (cExt i f) :=
  st_ext hv he hs (pe_bm PySem.F.plainAttrs_list PySem.F.slot_list_extend PySem.F.type_list_extend mt_extend hv (pa_cons he.pe pa_nil hs2) hbase hfew hline hs2 hplain)
theorem extS (i : Nat) {pa pc : Pos} (hv : PE X (.Name x px) (tVar i)) (he : SemE X C e te f) (hs : swapsWith (.Call (.Attribute (.Name x px) "extend" pa) [e] [] pc) none pos.line X.env = pure false := by rfl)
    (hbase : attributeBase (.Name x px) "extend" X.env (eval (.Name x px) X.env) = eval (.Name x px) X.env := by rfl)
    (hfew : ((backTo pc (starEach [e] X.env)).all (fun x => !x.1) && (backToKw pc (keywordEach [] X.env)).all (fun x => x.1.isSome)
      && decide (([e] : List Expr).length + ([] : List Keyword).length + (if ([] : List Keyword).isEmpty then 0 else 1) < 30)) = true := by rfl)
    (hline : (pa.endLine == pc.line) = true := by rfl) (hs2 : starEach [e] X.env = (false, eval e X.env) :: starEach [] X.env := by rfl) (hplain : (backTo pc (starEach [] X.env)).any (·.1) = false := by rfl) :
    SemS X C (.Expr (.Call (.Attribute (.Name x px) "extend" pa) [e] [] pc) pos) (tDrop (tBM X.K "list" rExtend (tVar i) (tCons te tNil))) (cExtS i f) :=
  st_extS hv he (pe_bm PySem.F.plainAttrs_list PySem.F.slot_list_extend PySem.F.type_list_extend mt_extend hv (pa_cons he.pe pa_nil hs2) hbase hfew hline hs2 hplain) hs
/-- x = [] and x = {}, made to be changed -/
theorem newL {pl : Pos} (hz : PG X (.Name x px) (gName i)) (hN : X.N.Nodup) (hi : X.N[i]? = some x := by rfl) (hx : Loc X.env.scope x := by first | exact Or.inl rfl | exact Or.inr rfl) (hs : swapsWithSole [.Name x px] (.List [] pl) pos.line X.env = pure false := by rfl) (hw : swappedStores [.Name x px] (.List [] pl) X.env = pure none := by rfl)
    (h1' : (assignEach [.Name x px] X.env).map (·.2) = [assign (.Name x px) X.env] := by rfl) : SemS X C (.Assign [.Name x px] (.List [] pl) pos) (tAsg (tLst tNil) (gName i)) (cOwn i (.ol [])) :=
  st_newL hN hi hx (ps_asg (pe_lst pa_nil) hz hs hw h1')
theorem newT {pl : Pos} (hz : PG X (.Name x px) (gName i)) (hs : swapsWithSole [.Name x px] (.Dict [] [] pl) pos.line X.env = pure false := by rfl) (hw : swappedStores [.Name x px] (.Dict [] [] pl) X.env = pure none := by rfl)
    (h1' : (assignEach [.Name x px] X.env).map (·.2) = [assign (.Name x px) X.env] := by rfl) : SemS X C (.Assign [.Name x px] (.Dict [] [] pl) pos) (tAsg tDNewT (gName i)) (cOwn i (.ot [])) :=
  st_newT (ps_asg pe_dnewT hz hs hw h1')
end
/-! ### what the built-in names are -/
theorem b_len : bootBuiltins "len" = some (.builtin "len") := by decide +kernel
theorem b_abs : bootBuiltins "abs" = some (.builtin "abs") := by decide +kernel
theorem b_all : bootBuiltins "all" = some (.builtin "all") := by decide +kernel
theorem b_max : bootBuiltins "max" = some (.builtin "max") := by decide +kernel
theorem b_min : bootBuiltins "min" = some (.builtin "min") := by decide +kernel
theorem b_sorted : bootBuiltins "sorted" = some (.builtin "sorted") := by decide +kernel
theorem b_int : bootBuiltins "int" = some (.type "int") := by decide +kernel
theorem b_bool : bootBuiltins "bool" = some (.type "bool") := by decide +kernel
theorem b_str : bootBuiltins "str" = some (.type "str") := by decide +kernel
theorem b_list : bootBuiltins "list" = some (.type "list") := by decide +kernel
theorem b_tuple : bootBuiltins "tuple" = some (.type "tuple") := by decide +kernel
theorem b_dict : bootBuiltins "dict" = some (.type "dict") := by decide +kernel
/-! ### def size -/
section
variable {P : Program} {w : World} {K : PySem.W.Frag} {mg : Str → Option Value} {base : Heap}
theorem fn_sc {x qual y : Str} {st : Stmt} {f : Addr} {fd : FuncData} {N : List Str} {k : Nat} {Fb : SE → Option Out} (F : Fun K x qual st f fd) (S : FnScope N [y] (defScope st)) (hN : 1 ≤ N.length)
    (hT : ∀ ns : List Int, ns.length ≤ 63 → Fb ((env0 N.length [.none]).set 0 (.sc ns)) = some (.ret (.bool true)))
    (hb : ∀ (cdv : Value) (A : Around) (outer : List Env) (s : Shared) (H : Hp) (E : XK), Room k (A.deeper (PyProof.Rows.envOfC qual (defScope st) s.heap.objs.size f cdv)) →
      ∃ t, SemSs (cxOf CX0 P w K mg base N qual (defScope st) f cdv A outer s H E).nox ⟨0, none⟩ (defBody st) t Fb) :
    FnOk P w K mg base CX0 (k + 1) f fd [y] (fun vs H Q _ => ∃ (a : Addr) (ns : List Int), vs = [.ref a] ∧ SqL K H a (ns.map V.int) ∧ ns.length ≤ 63 ∧ ∀ H', Q (.bl true) H') := by
  refine F.ok S (fun vs H Q E h => ?_) (fun cdv A outer s H vs Q E hr h => ?_)
  · obtain ⟨a, ns, rfl, _⟩ := h
    rfl
  obtain ⟨t, ht⟩ := hb cdv A outer s H E hr
  obtain ⟨a, ns, rfl, hS, hlen, q⟩ := h
  refine ⟨t, ht.ps, ?_⟩
  have no : ∀ p, ¬ Own (L2.start N [V.ref a]) ((env0 N.length [.none]).set 0 (.sc ns)) p := fun p ⟨i, s, e1, e2, e3⟩ => by
    unfold env0 at e1
    cases i with
    | zero =>
      simp at e1
      subst e1
      cases e2
    | succ i =>
      simp at e1
      have hm := List.mem_of_getElem? e1
      rw [(List.mem_replicate.mp hm).2] at e2
      cases e2
  have M0 : mask (SS (fun _ => False) (L2.start N [V.ref a]) ((env0 N.length [.none]).set 0 (.sc ns))) H = H := by
    funext b
    rw [mask_out]
    exact fun z => z.elim id (no b)
  have E0 : EnvS K ⟨0, none⟩ H (fun _ => False) H (L2.start N [V.ref a]) ((env0 N.length [.none]).set 0 (.sc ns)) := by
    refine ⟨?_, Ex.refl H, fun b o _ => no b, fun p h => h.elim, fun i s e => ?_, fun i j s s' p e1 o1 e2 o2 e3 e4 => (no p ⟨i, s, e1, o1, e3⟩).elim⟩
    · unfold L2.start env0
      simp
    · rw [M0]
      unfold env0 at e
      cases i with
      | zero =>
        simp at e
        subst e
        exact ⟨a, rfl, hS⟩
      | succ i =>
        simp at e
        have hm := List.mem_of_getElem? e
        rw [(List.mem_replicate.mp hm).2]
        trivial
  refine ht.ev _ H _ H _ _ _ E0 (hT ns hlen) fun v H' e a => ?_
  cases a
  exact q H'
end
end Tm

namespace Tm
open PySem L2
def top (i : Nat) : Stmt := PySem.Challenge.pw_marchmend_k81_whole_turned_about.main.body.getD i (.Pass ⟨0, 0, 0, 0⟩)
def compScope : Expr → Scope
  | .ListComp _ _ s _ => s
  | _ => { kind := .function, names := [], isGenerator := false, isCoroutine := false }
def retVal : List Stmt → Expr
  | [.Return (some e) _] => e
  | _ => .Constant .none 0 ⟨0, 0, 0, 0⟩
abbrev st_is_whole : Stmt := top 13
abbrev NN_is_whole : List Str := ["thing"]
theorem sc_is_whole : FnScope NN_is_whole ["thing"] (defScope st_is_whole) := ⟨rfl, rfl, rfl, by decide +kernel, rfl, by decide +kernel, by decide +kernel⟩
def d_is_whole : SE → Option Out := (cPro (cRet (eAnd (eIsi (tabOf "int") (eVar 0)) (eNot (eIsi (tabOf "bool") (eVar 0))))))
def g_is_whole : List D → Option D := runF 1 d_is_whole
abbrev st_is_bit : Stmt := top 14
abbrev NN_is_bit : List Str := ["thing"]
theorem sc_is_bit : FnScope NN_is_bit ["thing"] (defScope st_is_bit) := ⟨rfl, rfl, rfl, by decide +kernel, rfl, by decide +kernel, by decide +kernel⟩
def d_is_bit : SE → Option Out := (cPro (cRet (eAnd (eA (gN 1 g_is_whole) (aCons (eVar 0) aNil)) (eChain gLe gLe (eC (.int 0)) (eVar 0) (eC (.int 1))))))
def g_is_bit : List D → Option D := runF 1 d_is_bit
abbrev st_is_step : Stmt := top 15
abbrev NN_is_step : List Str := ["thing"]
theorem sc_is_step : FnScope NN_is_step ["thing"] (defScope st_is_step) := ⟨rfl, rfl, rfl, by decide +kernel, rfl, by decide +kernel, by decide +kernel⟩
def d_is_step : SE → Option Out := (cSeq (cIf (bOr (bNot (bOf (eIsi (tabOf "tuple") (eVar 0)))) (bOr (bOf (e2 gNe (eA gLen (aCons (eVar 0) aNil)) (eC (.int 2)))) (bNot (bOf (eIsi (tabOf "str") (e2 gIx (eVar 0) (eC (.int 0)))))))) (cPro (cRet (eC (.bool false)))) cNext)
  (cPro (cRet (eAnd (e2 gIn (e2 gIx (eVar 0) (eC (.int 0))) (eA mkTup (aCons (eC (.str "r")) (aCons (eC (.str "w")) aNil)))) (eA (gN 1 g_is_bit) (aCons (e2 gIx (eVar 0) (eC (.int 1))) aNil))))))
def g_is_step : List D → Option D := runF 1 d_is_step
abbrev st_is_formed : Stmt := top 16
abbrev NN_is_formed : List Str := ["thing"]
theorem sc_is_formed : FnScope NN_is_formed ["thing"] (defScope st_is_formed) := ⟨rfl, rfl, rfl, by decide +kernel, rfl, by decide +kernel, by decide +kernel⟩
def d_is_formed : SE → Option Out := (cSeq (cIf (bOr (bNot (bOf (eIsi (tabOf "tuple") (eVar 0)))) (bOr (bOf (e2 gNe (eA gLen (aCons (eVar 0) aNil)) (eC (.int 2)))) (bNot (bOf (eIsi (tabOf "str") (e2 gIx (eVar 0) (eC (.int 0)))))))) (cPro (cRet (eC (.bool false)))) cNext)
  (cPro (cRet (eAnd (eInOrd (e2 gIx (eVar 0) (eC (.int 0)))) (eAnd (eIsi (tabOf "list") (e2 gIx (eVar 0) (eC (.int 1)))) (eChain gLe gLe (eC (.int 1)) (eA gLen (aCons (e2 gIx (eVar 0) (eC (.int 1))) aNil)) (eC (.int 6))))))))
def g_is_formed : List D → Option D := runF 1 d_is_formed
abbrev st_look_at_test : Stmt := top 17
abbrev NN_look_at_test : List Str := ["thing", "number", "element", "at", "step"]
theorem sc_look_at_test : FnScope NN_look_at_test ["thing"] (defScope st_look_at_test) := ⟨rfl, rfl, rfl, by decide +kernel, rfl, by decide +kernel, by decide +kernel⟩
def b_look_at_test_1 : SE → Option Out := (cIf (bNot (bOf (eA (gN 1 g_is_step) (aCons (eVar 4) aNil)))) cNever cNext)
def b_look_at_test_2 : SE → Option Out := (cSeq (cIf (bNot (bOf (eA (gN 1 g_is_formed) (aCons (eVar 2) aNil)))) cNever cNext)
  (cFor (iEnumD (aCons (e2 gIx (eVar 2) (eC (.int 1))) aNil)) (aTup 2 (gsCons (aName 3) (gsCons (aName 4) gsNil)))
  b_look_at_test_1))
def d_look_at_test : SE → Option Out := (cSeq (cIf (bOr (bNot (bOf (eIsi (tabOf "list") (eVar 0)))) (bNot (bOf (eChain gLe gLe (eC (.int 1)) (eA gLen (aCons (eVar 0) aNil)) (eC (.int 8)))))) cNever cNext)
  (cFor (iEnumD (aCons (eVar 0) aNil)) (aTup 2 (gsCons (aName 1) (gsCons (aName 2) gsNil)))
  b_look_at_test_2))
def g_look_at_test : List D → Option D := runF 5 d_look_at_test
abbrev st_is_sure : Stmt := top 18
abbrev NN_is_sure : List Str := ["test", "known", "order", "steps", "word", "bit"]
theorem sc_is_sure : FnScope NN_is_sure ["test"] (defScope st_is_sure) := ⟨rfl, rfl, rfl, by decide +kernel, rfl, by decide +kernel, by decide +kernel⟩
def b_is_sure_1 : SE → Option Out := (cSeq (cIf (bAnd (bOf (e2 gEq (eVar 4) (eC (.str "r")))) (bOf (e2 gNe (eVar 5) (eVar 1)))) (cPro (cRet (eC (.bool false)))) cNext)
  (cAsg (eVar 5) (aName 1)))
def b_is_sure_2 : SE → Option Out := (cFor (iOf lstOf (eVar 3)) (aTup 2 (gsCons (aName 4) (gsCons (aName 5) gsNil)))
  b_is_sure_1)
def d_is_sure : SE → Option Out := (cSeq (cDrop (eA (gN 1 g_look_at_test) (aCons (eVar 0) aNil)))
  (cSeq (cAsg (eC .none) (aName 1))
  (cSeq (cFor (iOf lstOf (eVar 0)) (aTup 2 (gsCons (aName 2) (gsCons (aName 3) gsNil)))
  b_is_sure_2)
  (cPro (cRet (eC (.bool true)))))))
def g_is_sure : List D → Option D := runF 6 d_is_sure
abbrev st_is_part : Stmt := top 24
abbrev NN_is_part : List Str := ["thing", "form"]
theorem sc_is_part : FnScope NN_is_part ["thing", "form"] (defScope st_is_part) := ⟨rfl, rfl, rfl, by decide +kernel, rfl, by decide +kernel, by decide +kernel⟩
def d_is_part : SE → Option Out := (cSeq (cIf (bOf (e2 gEq (eVar 1) (eC (.str "c")))) (cPro (cRet (eAnd (eA (gN 1 g_is_whole) (aCons (eVar 0) aNil)) (eChain gLe gLe (eC (.int 0)) (eVar 0) (eC (.int 63)))))) cNext)
  (cSeq (cIf (bOf (e2 gEq (eVar 1) (eC (.str "v")))) (cPro (cRet (eA (gN 1 g_is_bit) (aCons (eVar 0) aNil)))) cNext)
  (cPro (cRet (eAnd (eIsi (tabOf "str") (eVar 0)) (e2 gIn (eVar 0) (eA mkTup (aCons (eC (.str "and")) (aCons (eC (.str "or")) aNil)))))))))
def g_is_part : List D → Option D := runF 2 d_is_part
abbrev st_is_harm : Stmt := top 25
abbrev NN_is_harm : List Str := ["thing", "form", "part", "kind"]
theorem sc_is_harm : FnScope NN_is_harm ["thing"] (defScope st_is_harm) := ⟨rfl, rfl, rfl, by decide +kernel, rfl, by decide +kernel, by decide +kernel⟩
def d_is_harm : SE → Option Out := (cSeq (cIf (bOr (bNot (bOf (eIsi (tabOf "tuple") (eVar 0)))) (bOr (bOf (e2 gEq (eVar 0) (eA mkTup aNil))) (bOr (bNot (bOf (eIsi (tabOf "str") (e2 gIx (eVar 0) (eC (.int 0)))))) (bNoForm (e2 gIx (eVar 0) (eC (.int 0))))))) (cPro (cRet (eC (.bool false)))) cNext)
  (cSeq (cAsg (eForm (e2 gIx (eVar 0) (eC (.int 0)))) (aName 1))
  (cSeq (cIf (bOf (e2 gNe (eA gLen (aCons (eVar 0) aNil)) (e2 gAdd (eC (.int 1)) (eA gLen (aCons (eVar 1) aNil))))) (cPro (cRet (eC (.bool false)))) cNext)
  (cSeq (cIf (bNot (bOf (eA gAll (aCons (eLc [2, 3] (iZipSD (aCons (eSl gSl (eVar 0) (oS (eC (.int 1))) oN) (aCons (eVar 1) aNil))) (aTup 2 (gsCons (aName 2) (gsCons (aName 3) gsNil))) (fun _ => some true) (eA (gN 2 g_is_part) (aCons (eVar 2) (aCons (eVar 3) aNil)))) aNil)))) (cPro (cRet (eC (.bool false)))) cNext)
  (cPro (cRet (eOr (e2 gNe (e2 gIx (eVar 1) (eC (.int 1))) (eC (.str "c"))) (e2 gNe (e2 gIx (eVar 0) (eC (.int 1))) (e2 gIx (eVar 0) (eC (.int 2)))))))))))
def g_is_harm : List D → Option D := runF 4 d_is_harm
abbrev st_cells_in : Stmt := top 26
abbrev NN_cells_in : List Str := ["harm", "part", "kind"]
theorem sc_cells_in : FnScope NN_cells_in ["harm"] (defScope st_cells_in) := ⟨rfl, rfl, rfl, by decide +kernel, rfl, by decide +kernel, by decide +kernel⟩
def d_cells_in : SE → Option Out := (cPro (cRet (eLc [1, 2] (iZipSD (aCons (eSl gSl (eVar 0) (oS (eC (.int 1))) oN) (aCons (eForm (e2 gIx (eVar 0) (eC (.int 0)))) aNil))) (aTup 2 (gsCons (aName 1) (gsCons (aName 2) gsNil))) (bOf (e2 gEq (eVar 2) (eC (.str "c")))) (eVar 1))))
def g_cells_in : List D → Option D := runF 3 d_cells_in
abbrev st_cells_among : Stmt := top 27
abbrev NN_cells_among : List Str := ["harms", "found", "harm", "cell"]
theorem sc_cells_among : FnScope NN_cells_among ["harms"] (defScope st_cells_among) := ⟨rfl, rfl, rfl, by decide +kernel, rfl, by decide +kernel, by decide +kernel⟩
def b_cells_among_1 : SE → Option Out := (cExtS 1 (eLc [3] (iOf lstOf (eA (gN 1 g_cells_in) (aCons (eVar 2) aNil))) (aName 3) (bOf (e2 gNin (eVar 3) (eVar 1))) (eVar 3)))
def d_cells_among : SE → Option Out := (cSeq (cOwn 1 (.ol []))
  (cSeq (cFor (iOf lstOf (eVar 0)) (aName 2)
  b_cells_among_1)
  (cPro (cRet (eA gSorted (aCons (eVar 1) aNil))))))
def g_cells_among : List D → Option D := runF 4 d_cells_among
abbrev st_look_at_harms : Stmt := top 28
abbrev NN_look_at_harms : List Str := ["thing", "number", "harm"]
theorem sc_look_at_harms : FnScope NN_look_at_harms ["thing"] (defScope st_look_at_harms) := ⟨rfl, rfl, rfl, by decide +kernel, rfl, by decide +kernel, by decide +kernel⟩
def b_look_at_harms_1 : SE → Option Out := (cIf (bOr (bNot (bOf (eA (gN 1 g_is_harm) (aCons (eVar 2) aNil)))) (bOf (e2 gGt (eA gLen (aCons (eA (gN 1 g_cells_among) (aCons (eSl gSl (eVar 0) oN (oS (e2 gAdd (eVar 1) (eC (.int 1))))) aNil)) aNil)) (eC (.int 3))))) cNever cNext)
def d_look_at_harms : SE → Option Out := (cSeq (cIf (bOr (bNot (bOf (eIsi (tabOf "list") (eVar 0)))) (bOf (e2 gGt (eA gLen (aCons (eVar 0) aNil)) (eC (.int 3))))) cNever cNext)
  (cFor (iEnumD (aCons (eVar 0) aNil)) (aTup 2 (gsCons (aName 1) (gsCons (aName 2) gsNil)))
  b_look_at_harms_1))
def g_look_at_harms : List D → Option D := runF 3 d_look_at_harms
abbrev st_cells_of : Stmt := top 29
abbrev NN_cells_of : List Str := ["harms"]
theorem sc_cells_of : FnScope NN_cells_of ["harms"] (defScope st_cells_of) := ⟨rfl, rfl, rfl, by decide +kernel, rfl, by decide +kernel, by decide +kernel⟩
def d_cells_of : SE → Option Out := (cSeq (cDrop (eA (gN 1 g_look_at_harms) (aCons (eVar 0) aNil)))
  (cPro (cRet (eA (gN 1 g_cells_among) (aCons (eVar 0) aNil)))))
def g_cells_of : List D → Option D := runF 1 d_cells_of
abbrev st_called : Stmt := top 30
abbrev NN_called : List Str := ["harm", "names", "form", "part", "kind"]
theorem sc_called : FnScope NN_called ["harm", "names"] (defScope st_called) := ⟨rfl, rfl, rfl, by decide +kernel, rfl, by decide +kernel, by decide +kernel⟩
def d_called : SE → Option Out := (cSeq (cAsg (eForm (e2 gIx (eVar 0) (eC (.int 0)))) (aName 2))
  (cPro (cRet (e2 gAdd (eA mkTup (aCons (e2 gIx (eVar 0) (eC (.int 0))) aNil)) (eA gTuple (aCons (eLc [3, 4] (iZipSD (aCons (eSl gSl (eVar 0) (oS (eC (.int 1))) oN) (aCons (eVar 2) aNil))) (aTup 2 (gsCons (aName 3) (gsCons (aName 4) gsNil))) (fun _ => some true) (eIf (bOf (e2 gEq (eVar 4) (eC (.str "c")))) (e2 gIx (eVar 1) (eVar 3)) (eVar 3))) aNil))))))
def g_called : List D → Option D := runF 5 d_called
abbrev st_little : Stmt := top 31
abbrev NN_little : List Str := ["harms", "names", "place", "cell", "harm"]
theorem sc_little : FnScope NN_little ["harms"] (defScope st_little) := ⟨rfl, rfl, rfl, by decide +kernel, rfl, by decide +kernel, by decide +kernel⟩
def d_little : SE → Option Out := (cSeq (cAsg (eA gDictP (aCons (eLc [2, 3] (iEnumD (aCons (eA (gN 1 g_cells_of) (aCons (eVar 0) aNil)) aNil)) (aTup 2 (gsCons (aName 2) (gsCons (aName 3) gsNil))) (fun _ => some true) (eA mkTup (aCons (eVar 3) (aCons (eVar 2) aNil)))) aNil)) (aName 1))
  (cPro (cRet (eLc [4] (iOf lstOf (eVar 0)) (aName 4) (fun _ => some true) (eA (gN 2 g_called) (aCons (eVar 4) (aCons (eVar 1) aNil)))))))
def g_little : List D → Option D := runF 5 d_little
abbrev st_placed : Stmt := top 32
abbrev NN_placed : List Str := ["harms", "cells", "names", "harm"]
theorem sc_placed : FnScope NN_placed ["harms", "cells"] (defScope st_placed) := ⟨rfl, rfl, rfl, by decide +kernel, rfl, by decide +kernel, by decide +kernel⟩
def d_placed : SE → Option Out := (cSeq (cAsg (eDictZip (aCons (eA (gN 1 g_cells_of) (aCons (eVar 0) aNil)) (aCons (eVar 1) aNil))) (aName 2))
  (cPro (cRet (eLc [3] (iOf lstOf (eVar 0)) (aName 3) (fun _ => some true) (eA (gN 2 g_called) (aCons (eVar 3) (aCons (eVar 2) aNil)))))))
def g_placed : List D → Option D := runF 4 d_placed
abbrev st_stuck_at : Stmt := top 34
abbrev NN_stuck_at : List Str := ["harms", "cell", "harm"]
theorem sc_stuck_at : FnScope NN_stuck_at ["harms", "cell"] (defScope st_stuck_at) := ⟨rfl, rfl, rfl, by decide +kernel, rfl, by decide +kernel, by decide +kernel⟩
def b_stuck_at_1 : SE → Option Out := (cIf (bAnd (bOf (e2 gEq (e2 gIx (eVar 2) (eC (.int 0))) (eC (.str "stuck")))) (bOf (e2 gEq (e2 gIx (eVar 2) (eC (.int 1))) (eVar 1)))) (cPro (cRet (e2 gIx (eVar 2) (eC (.int 2))))) cNext)
def d_stuck_at : SE → Option Out := (cSeq (cFor (iOf lstOf (eVar 0)) (aName 2)
  b_stuck_at_1)
  (cPro (cRet (eC .none))))
def g_stuck_at : List D → Option D := runF 3 d_stuck_at
abbrev st_with_bit : Stmt := top 35
abbrev NN_with_bit : List Str := ["harms", "contents", "cell", "bit"]
theorem sc_with_bit : FnScope NN_with_bit ["harms", "contents", "cell", "bit"] (defScope st_with_bit) := ⟨rfl, rfl, rfl, by decide +kernel, rfl, by decide +kernel, by decide +kernel⟩
def d_with_bit : SE → Option Out := (cSeq (cIf (bOf (e2 gIsNot (eA (gN 2 g_stuck_at) (aCons (eVar 0) (aCons (eVar 2) aNil))) (eC .none))) (cPro (cRet (eVar 1))) cNext)
  (cPro (cRet (e2 gAdd (e2 gAdd (eSl gSl (eVar 1) oN (oS (eVar 2))) (eA mkTup (aCons (eVar 3) aNil))) (eSl gSl (eVar 1) (oS (e2 gAdd (eVar 2) (eC (.int 1)))) oN)))))
def g_with_bit : List D → Option D := runF 4 d_with_bit
abbrev st_held_at_first : Stmt := top 36
abbrev NN_held_at_first : List Str := ["harms", "contents", "held", "cell", "bit", "harm"]
theorem sc_held_at_first : FnScope NN_held_at_first ["harms", "contents"] (defScope st_held_at_first) := ⟨rfl, rfl, rfl, by decide +kernel, rfl, by decide +kernel, by decide +kernel⟩
def b_held_at_first_1 : SE → Option Out := (cSeq (cAsg (eA (gN 2 g_stuck_at) (aCons (eVar 0) (aCons (eVar 3) aNil))) (aName 4))
  (cIf (bOf (e2 gIsNot (eVar 4) (eC .none))) (cAsg (e2 gAdd (e2 gAdd (eSl gSl (eVar 2) oN (oS (eVar 3))) (eA mkTup (aCons (eVar 4) aNil))) (eSl gSl (eVar 2) (oS (e2 gAdd (eVar 3) (eC (.int 1)))) oN)) (aName 2)) cNext))
def b_held_at_first_2 : SE → Option Out := (cIf (bAnd (bOf (e2 gEq (e2 gIx (eVar 5) (eC (.int 0))) (eC (.str "keeps")))) (bOf (e2 gEq (e2 gIx (eVar 2) (e2 gIx (eVar 5) (eC (.int 1)))) (e2 gIx (eVar 5) (eC (.int 3)))))) (cAsg (eA (gN 4 g_with_bit) (aCons (eVar 0) (aCons (eVar 2) (aCons (e2 gIx (eVar 5) (eC (.int 2))) (aCons (e2 gIx (eVar 5) (eC (.int 4))) aNil))))) (aName 2)) cNext)
def d_held_at_first : SE → Option Out := (cSeq (cAsg (eA gTuple (aCons (eVar 1) aNil)) (aName 2))
  (cSeq (cFor (iRange1 (aCons (eA gLen (aCons (eVar 2) aNil)) aNil)) (aName 3)
  b_held_at_first_1)
  (cSeq (cFor (iOf lstOf (eVar 0)) (aName 5)
  b_held_at_first_2)
  (cPro (cRet (eVar 2))))))
def g_held_at_first : List D → Option D := runF 6 d_held_at_first
abbrev st_address_harm : Stmt := top 37
abbrev NN_address_harm : List Str := ["harms", "address", "harm"]
theorem sc_address_harm : FnScope NN_address_harm ["harms", "address"] (defScope st_address_harm) := ⟨rfl, rfl, rfl, by decide +kernel, rfl, by decide +kernel, by decide +kernel⟩
def b_address_harm_1 : SE → Option Out := (cIf (bAnd (bOf (e2 gIn (e2 gIx (eVar 2) (eC (.int 0))) (eA mkTup (aCons (eC (.str "nowhere")) (aCons (eC (.str "other")) (aCons (eC (.str "both")) aNil)))))) (bOf (e2 gEq (e2 gIx (eVar 2) (eC (.int 1))) (eVar 1)))) (cPro (cRet (eVar 2))) cNext)
def d_address_harm : SE → Option Out := (cSeq (cFor (iOf lstOf (eVar 0)) (aName 2)
  b_address_harm_1)
  (cPro (cRet (eC .none))))
def g_address_harm : List D → Option D := runF 3 d_address_harm
abbrev st_reached : Stmt := top 38
abbrev NN_reached : List Str := ["harm", "address"]
theorem sc_reached : FnScope NN_reached ["harm", "address"] (defScope st_reached) := ⟨rfl, rfl, rfl, by decide +kernel, rfl, by decide +kernel, by decide +kernel⟩
def d_reached : SE → Option Out := (cSeq (cIf (bOf (e2 gIs (eVar 0) (eC .none))) (cPro (cRet (eA mkLst (aCons (eVar 1) aNil)))) cNext)
  (cSeq (cIf (bOf (e2 gEq (e2 gIx (eVar 0) (eC (.int 0))) (eC (.str "nowhere")))) (cPro (cRet (eA mkLst aNil))) cNext)
  (cSeq (cIf (bOf (e2 gEq (e2 gIx (eVar 0) (eC (.int 0))) (eC (.str "other")))) (cPro (cRet (eA mkLst (aCons (e2 gIx (eVar 0) (eC (.int 2))) aNil)))) cNext)
  (cPro (cRet (eA mkLst (aCons (eVar 1) (aCons (e2 gIx (eVar 0) (eC (.int 2))) aNil))))))))
def g_reached : List D → Option D := runF 2 d_reached
abbrev st_coming : Stmt := top 39
abbrev NN_coming : List Str := ["harms", "contents", "cell", "bit", "harm"]
theorem sc_coming : FnScope NN_coming ["harms", "contents", "cell", "bit"] (defScope st_coming) := ⟨rfl, rfl, rfl, by decide +kernel, rfl, by decide +kernel, by decide +kernel⟩
def b_coming_1 : SE → Option Out := (cIf (bAnd (bOf (e2 gEq (e2 gIx (eVar 4) (eC (.int 0))) (eC (.str "keeps")))) (bAnd (bOf (e2 gEq (e2 gIx (eVar 4) (eC (.int 2))) (eVar 2))) (bOf (e2 gEq (e2 gIx (eVar 1) (e2 gIx (eVar 4) (eC (.int 1)))) (e2 gIx (eVar 4) (eC (.int 3))))))) (cPro (cRet (e2 gIx (eVar 4) (eC (.int 4))))) cNext)
def d_coming : SE → Option Out := (cSeq (cIf (bAnd (bOf (e2 gNe (e2 gIx (eVar 1) (eVar 2)) (eVar 3))) (bOf (e2 gIn (eA mkTup (aCons (eC (.str "slow")) (aCons (eVar 2) (aCons (eVar 3) aNil)))) (eVar 0)))) (cPro (cRet (e2 gIx (eVar 1) (eVar 2)))) cNext)
  (cSeq (cFor (iOf lstOf (eVar 0)) (aName 4)
  b_coming_1)
  (cPro (cRet (eVar 3)))))
def g_coming : List D → Option D := runF 5 d_coming
abbrev st_written : Stmt := top 40
abbrev NN_written : List Str := ["harms", "contents", "cell", "bit", "later", "harm", "turned"]
theorem sc_written : FnScope NN_written ["harms", "contents", "cell", "bit"] (defScope st_written) := ⟨rfl, rfl, rfl, by decide +kernel, rfl, by decide +kernel, by decide +kernel⟩
def b_written_1 : SE → Option Out := (cIf (bAnd (bOf (e2 gIn (e2 gIx (eVar 5) (eC (.int 0))) (eA mkTup (aCons (eC (.str "turns")) (aCons (eC (.str "sets")) (aCons (eC (.str "keeps")) aNil)))))) (bAnd (bOf (e2 gEq (e2 gIx (eVar 5) (eC (.int 1))) (eVar 2))) (bOf (e2 gEq (e2 gIx (eVar 5) (eC (.int 3))) (e2 gIx (eVar 4) (eVar 2)))))) (cSeq (cAsg (e2 gSub (eC (.int 1)) (e2 gIx (eVar 4) (e2 gIx (eVar 5) (eC (.int 2))))) (aName 6))
  (cSeq (cIf (bOf (e2 gNe (e2 gIx (eVar 5) (eC (.int 0))) (eC (.str "turns")))) (cAsg (e2 gIx (eVar 5) (eC (.int 4))) (aName 6)) cNext)
  (cAsg (eA (gN 4 g_with_bit) (aCons (eVar 0) (aCons (eVar 4) (aCons (e2 gIx (eVar 5) (eC (.int 2))) (aCons (eVar 6) aNil))))) (aName 4)))) cNext)
def d_written : SE → Option Out := (cSeq (cAsg (eA (gN 4 g_with_bit) (aCons (eVar 0) (aCons (eVar 1) (aCons (eVar 2) (aCons (eA (gN 4 g_coming) (aCons (eVar 0) (aCons (eVar 1) (aCons (eVar 2) (aCons (eVar 3) aNil))))) aNil))))) (aName 4))
  (cSeq (cIf (bOf (e2 gEq (eVar 4) (eVar 1))) (cPro (cRet (eVar 1))) cNext)
  (cSeq (cFor (iOf lstOf (eVar 0)) (aName 5)
  b_written_1)
  (cPro (cRet (eVar 4))))))
def g_written : List D → Option D := runF 7 d_written
abbrev st_was_read : Stmt := top 41
abbrev NN_was_read : List Str := ["harms", "contents", "cell", "holds", "harm", "later"]
theorem sc_was_read : FnScope NN_was_read ["harms", "contents", "cell"] (defScope st_was_read) := ⟨rfl, rfl, rfl, by decide +kernel, rfl, by decide +kernel, by decide +kernel⟩
def b_was_read_1 : SE → Option Out := (cIf (bAnd (bOf (e2 gIn (e2 gIx (eVar 4) (eC (.int 0))) (eA mkTup (aCons (eC (.str "forgets")) (aCons (eC (.str "misreads")) aNil))))) (bAnd (bOf (e2 gEq (e2 gIx (eVar 4) (eC (.int 1))) (eVar 2))) (bOf (e2 gEq (e2 gIx (eVar 4) (eC (.int 2))) (eVar 3))))) (cSeq (cAsg (eA (gN 4 g_with_bit) (aCons (eVar 0) (aCons (eVar 1) (aCons (eVar 2) (aCons (e2 gSub (eC (.int 1)) (eVar 3)) aNil))))) (aName 5))
  (cSeq (cIf (bOf (e2 gEq (e2 gIx (eVar 4) (eC (.int 0))) (eC (.str "forgets")))) (cPro (cRet (eA mkTup (aCons (eVar 5) (aCons (eVar 3) aNil))))) cNext)
  (cPro (cRet (eA mkTup (aCons (eVar 5) (aCons (e2 gIx (eVar 5) (eVar 2)) aNil))))))) cNext)
def d_was_read : SE → Option Out := (cSeq (cAsg (e2 gIx (eVar 1) (eVar 2)) (aName 3))
  (cSeq (cFor (iOf lstOf (eVar 0)) (aName 4)
  b_was_read_1)
  (cPro (cRet (eA mkTup (aCons (eVar 1) (aCons (eVar 3) aNil)))))))
def g_was_read : List D → Option D := runF 6 d_was_read
abbrev st_read_bit : Stmt := top 42
abbrev NN_read_bit : List Str := ["harm", "bits"]
theorem sc_read_bit : FnScope NN_read_bit ["harm", "bits"] (defScope st_read_bit) := ⟨rfl, rfl, rfl, by decide +kernel, rfl, by decide +kernel, by decide +kernel⟩
def d_read_bit : SE → Option Out := (cSeq (cIf (bOf (e2 gEq (eVar 1) (eA mkLst aNil))) (cPro (cRet (e2 gIx (eVar 0) (eC (.int 2))))) cNext)
  (cSeq (cIf (bOf (e2 gEq (eA gLen (aCons (eVar 1) aNil)) (eC (.int 1)))) (cPro (cRet (e2 gIx (eVar 1) (eC (.int 0))))) cNext)
  (cSeq (cIf (bOf (e2 gEq (e2 gIx (eVar 0) (eC (.int 3))) (eC (.str "and")))) (cPro (cRet (eA gMin (aCons (eVar 1) aNil)))) cNext)
  (cPro (cRet (eA gMax (aCons (eVar 1) aNil)))))))
def g_read_bit : List D → Option D := runF 2 d_read_bit
abbrev st_acted : Stmt := top 43
abbrev NN_acted : List Str := ["harms", "contents", "address", "step", "harm", "bits", "cell", "bit"]
theorem sc_acted : FnScope NN_acted ["harms", "contents", "address", "step"] (defScope st_acted) := ⟨rfl, rfl, rfl, by decide +kernel, rfl, by decide +kernel, by decide +kernel⟩
def b_acted_1 : SE → Option Out := (cIf (bOf (e2 gEq (e2 gIx (eVar 3) (eC (.int 0))) (eC (.str "w")))) (cAsg (eA (gN 4 g_written) (aCons (eVar 0) (aCons (eVar 1) (aCons (eVar 6) (aCons (e2 gIx (eVar 3) (eC (.int 1))) aNil))))) (aName 1)) (cSeq (cAsg (eA (gN 3 g_was_read) (aCons (eVar 0) (aCons (eVar 1) (aCons (eVar 6) aNil)))) (aTup 2 (gsCons (aName 1) (gsCons (aName 7) gsNil))))
  (cApp 5 (eVar 7))))
def d_acted : SE → Option Out := (cSeq (cAsg (eA (gN 2 g_address_harm) (aCons (eVar 0) (aCons (eVar 2) aNil))) (aName 4))
  (cSeq (cOwn 5 (.ol []))
  (cSeq (cFor (iOf lstOf (eA (gN 2 g_reached) (aCons (eVar 4) (aCons (eVar 2) aNil)))) (aName 6)
  b_acted_1)
  (cSeq (cIf (bOf (e2 gEq (e2 gIx (eVar 3) (eC (.int 0))) (eC (.str "w")))) (cPro (cRet (eA mkTup (aCons (eVar 1) (aCons (eC .none) aNil))))) cNext)
  (cPro (cRet (eA mkTup (aCons (eVar 1) (aCons (eA (gN 2 g_read_bit) (aCons (eVar 4) (aCons (eVar 5) aNil))) aNil)))))))))
def g_acted : List D → Option D := runF 8 d_acted
abbrev st_look_at_memory : Stmt := top 46
abbrev NN_look_at_memory : List Str := ["size", "harms", "contents", "cell", "bit"]
theorem sc_look_at_memory : FnScope NN_look_at_memory ["size", "harms", "contents"] (defScope st_look_at_memory) := ⟨rfl, rfl, rfl, by decide +kernel, rfl, by decide +kernel, by decide +kernel⟩
def d_look_at_memory : SE → Option Out := (cSeq (cDrop (eA (gN 1 g_look_at_harms) (aCons (eVar 1) aNil)))
  (cSeq (cIf (bOr (bNot (bOf (eA (gN 1 g_is_whole) (aCons (eVar 0) aNil)))) (bNot (bOf (eChain gLe gLe (eC (.int 1)) (eVar 0) (eC (.int 64)))))) cNever cNext)
  (cSeq (cIf (bNot (bOf (eA gAll (aCons (eLc [3] (iOf lstOf (eA (gN 1 g_cells_among) (aCons (eVar 1) aNil))) (aName 3) (fun _ => some true) (e2 gLt (eVar 3) (eVar 0))) aNil)))) cNever cNext)
  (cIf (bOr (bNot (bOf (eIsi (tabOf "list") (eVar 2)))) (bOr (bOf (e2 gNe (eA gLen (aCons (eVar 2) aNil)) (eVar 0))) (bNot (bOf (eA gAll (aCons (eLc [4] (iOf lstOf (eVar 2)) (aName 4) (fun _ => some true) (eA (gN 1 g_is_bit) (aCons (eVar 4) aNil))) aNil)))))) cNever cNext))))
def g_look_at_memory : List D → Option D := runF 5 d_look_at_memory
abbrev st_m_init : Stmt := inClass (top 47) 0
abbrev NN_m_init : List Str := ["self", "size", "harms", "contents"]
theorem sc_m_init : FnScope NN_m_init ["self", "size", "harms", "contents"] (defScope st_m_init) := ⟨rfl, rfl, rfl, by decide +kernel, rfl, by decide +kernel, by decide +kernel⟩
def d_m_init : SE → Option Out := (cSeq (cDrop (eA (gN 3 g_look_at_memory) (aCons (eVar 1) (aCons (eVar 2) (aCons (eVar 3) aNil)))))
  (cSeq (cFld 0 "flaws" (eA gList (aCons (eVar 2) aNil)))
  (cFld 0 "held" (eA (gN 2 g_held_at_first) (aCons (eFld 0 "flaws") (aCons (eVar 3) aNil))))))
def g_m_init : List (Str × D) → List D → Option (D × List (Str × D)) := runM 4 0 d_m_init
abbrev st_m_look_at_address : Stmt := inClass (top 47) 1
abbrev NN_m_look_at_address : List Str := ["self", "address"]
theorem sc_m_look_at_address : FnScope NN_m_look_at_address ["self", "address"] (defScope st_m_look_at_address) := ⟨rfl, rfl, rfl, by decide +kernel, rfl, by decide +kernel, by decide +kernel⟩
def d_m_look_at_address : SE → Option Out := (cIf (bOr (bNot (bOf (eA (gN 1 g_is_whole) (aCons (eVar 1) aNil)))) (bNot (bOf (eChain gLe gLt (eC (.int 0)) (eVar 1) (eA gLen (aCons (eFld 0 "held") aNil)))))) cNever cNext)
def g_m_look_at_address : List (Str × D) → List D → Option (D × List (Str × D)) := runM 2 0 d_m_look_at_address
abbrev st_m_read : Stmt := inClass (top 47) 2
abbrev NN_m_read : List Str := ["self", "address", "bit"]
theorem sc_m_read : FnScope NN_m_read ["self", "address"] (defScope st_m_read) := ⟨rfl, rfl, rfl, by decide +kernel, rfl, by decide +kernel, by decide +kernel⟩
def d_m_read : SE → Option Out := (cSeq (cDropX (xMeth 0 "look_at_address" 2 g_m_look_at_address (aCons (eVar 1) aNil)))
  (cSeq (cFldT 0 "held" 2 (eA (gN 4 g_acted) (aCons (eFld 0 "flaws") (aCons (eFld 0 "held") (aCons (eVar 1) (aCons (eA mkTup (aCons (eC (.str "r")) (aCons (eC (.int 0)) aNil))) aNil))))))
  (cRets (eVar 2))))
def g_m_read : List (Str × D) → List D → Option (D × List (Str × D)) := runM 3 0 d_m_read
abbrev st_m_write : Stmt := inClass (top 47) 3
abbrev NN_m_write : List Str := ["self", "address", "bit", "none"]
theorem sc_m_write : FnScope NN_m_write ["self", "address", "bit"] (defScope st_m_write) := ⟨rfl, rfl, rfl, by decide +kernel, rfl, by decide +kernel, by decide +kernel⟩
def d_m_write : SE → Option Out := (cSeq (cDropX (xMeth 0 "look_at_address" 2 g_m_look_at_address (aCons (eVar 1) aNil)))
  (cSeq (cIf (bNot (bOf (eA (gN 1 g_is_bit) (aCons (eVar 2) aNil)))) cNever cNext)
  (cFldT 0 "held" 3 (eA (gN 4 g_acted) (aCons (eFld 0 "flaws") (aCons (eFld 0 "held") (aCons (eVar 1) (aCons (eA mkTup (aCons (eC (.str "w")) (aCons (eVar 2) aNil))) aNil))))))))
def g_m_write : List (Str × D) → List D → Option (D × List (Str × D)) := runM 4 0 d_m_write
abbrev st_m_size : Stmt := inClass (top 47) 5
theorem sc_m_size : FnScope ["self"] ["self"] (defScope st_m_size) := ⟨rfl, rfl, rfl, by decide +kernel, rfl, by decide +kernel, by decide +kernel⟩
abbrev st_look_at_orders : Stmt := top 49
abbrev NN_look_at_orders : List Str := ["test", "thing", "order", "wanted", "steps"]
theorem sc_look_at_orders : FnScope NN_look_at_orders ["test", "thing"] (defScope st_look_at_orders) := ⟨rfl, rfl, rfl, by decide +kernel, rfl, by decide +kernel, by decide +kernel⟩
def b_look_at_orders_1 : SE → Option Out := (cIf (bOr (bNot (bOf (eIsi (tabOf "str") (eVar 2)))) (bOr (bOf (e2 gNin (eVar 2) (eA mkTup (aCons (eC (.str "up")) (aCons (eC (.str "down")) aNil))))) (bOf (e2 gNin (eVar 3) (eA mkTup (aCons (eC (.str "any")) (aCons (eVar 2) aNil))))))) cNever cNext)
def d_look_at_orders : SE → Option Out := (cSeq (cIf (bOr (bNot (bOf (eIsi (tabOf "list") (eVar 1)))) (bOf (e2 gNe (eA gLen (aCons (eVar 1) aNil)) (eA gLen (aCons (eVar 0) aNil))))) cNever cNext)
  (cFor (iZipD (aCons (eVar 1) (aCons (eVar 0) aNil))) (aTup 2 (gsCons (aName 2) (gsCons (aTup 2 (gsCons (aName 3) (gsCons (aName 4) gsNil))) gsNil)))
  b_look_at_orders_1))
def g_look_at_orders : List D → Option D := runF 5 d_look_at_orders
abbrev st_in_order : Stmt := top 50
abbrev NN_in_order : List Str := ["size", "order"]
theorem sc_in_order : FnScope NN_in_order ["size", "order"] (defScope st_in_order) := ⟨rfl, rfl, rfl, by decide +kernel, rfl, by decide +kernel, by decide +kernel⟩
def d_in_order : SE → Option Out := (cSeq (cIf (bOf (e2 gEq (eVar 1) (eC (.str "up")))) (cPro (cRet (eListR (eVar 0)))) cNext)
  (cPro (cRet (eListDn (aCons (e2 gSub (eVar 0) (eC (.int 1))) (aCons (e1 gNeg (eC (.int 1))) (aCons (e1 gNeg (eC (.int 1))) aNil)))))))
def g_in_order : List D → Option D := runF 2 d_in_order
abbrev st_done_on : Stmt := top 51
abbrev NN_done_on : List Str := ["memory", "address", "step"]
theorem sc_done_on : FnScope NN_done_on ["memory", "address", "step"] (defScope st_done_on) := ⟨rfl, rfl, rfl, by decide +kernel, rfl, by decide +kernel, by decide +kernel⟩
def d_done_on : SE → Option Out := (cSeq (cIf (bOf (e2 gEq (e2 gIx (eVar 2) (eC (.int 0))) (eC (.str "r")))) (cRetX (xMeth 0 "read" 2 g_m_read (aCons (eVar 1) aNil))) cNext)
  (cSeq (cDropX (xMeth 0 "write" 3 g_m_write (aCons (eVar 1) (aCons (e2 gIx (eVar 2) (eC (.int 1))) aNil))))
  (cRets (eC .none))))
def g_done_on : List (Str × D) → List D → Option (D × List (Str × D)) := runM 3 0 d_done_on
abbrev st_all_reads : Stmt := top 52
abbrev NN_all_reads : List Str := ["test", "memory", "orders", "found", "number", "wanted", "steps", "address", "at", "step", "bit"]
theorem sc_all_reads : FnScope NN_all_reads ["test", "memory", "orders"] (defScope st_all_reads) := ⟨rfl, rfl, rfl, by decide +kernel, rfl, by decide +kernel, by decide +kernel⟩
def b_all_reads_1 : SE → Option Out := (cSeq (cAsgX (xCall 1 0 3 g_done_on (amHere (aCons (eVar 7) (aCons (eVar 9) aNil)))) (aName 10))
  (cIf (bOf (e2 gIsNot (eVar 10) (eC .none))) (cApp 3 (eA mkTup (aCons (eVar 4) (aCons (eVar 7) (aCons (eVar 8) (aCons (eVar 10) aNil)))))) cNext))
def b_all_reads_2 : SE → Option Out := (cFor (iEnumD (aCons (eVar 6) aNil)) (aTup 2 (gsCons (aName 8) (gsCons (aName 9) gsNil)))
  b_all_reads_1)
def b_all_reads_3 : SE → Option Out := (cFor (iOf lstOf (eA (gN 2 g_in_order) (aCons (eSize 1) (aCons (e2 gIx (eVar 2) (eVar 4)) aNil)))) (aName 7)
  b_all_reads_2)
def d_all_reads : SE → Option Out := (cSeq (cOwn 3 (.ol []))
  (cSeq (cFor (iEnumD (aCons (eVar 0) aNil)) (aTup 2 (gsCons (aName 4) (gsCons (aTup 2 (gsCons (aName 5) (gsCons (aName 6) gsNil))) gsNil)))
  b_all_reads_3)
  (cPro1 3 (cRets (eVar 3)))))
def g_all_reads : List (Str × D) → List D → Option (D × List (Str × D)) := runM 11 1 d_all_reads
abbrev st_reads_of : Stmt := top 53
abbrev NN_reads_of : List Str := ["test", "size", "harms", "contents", "orders", "memory"]
theorem sc_reads_of : FnScope NN_reads_of ["test", "size", "harms", "contents", "orders"] (defScope st_reads_of) := ⟨rfl, rfl, rfl, by decide +kernel, rfl, by decide +kernel, by decide +kernel⟩
def d_reads_of : SE → Option Out := (cSeq (cDrop (eA (gN 1 g_look_at_test) (aCons (eVar 0) aNil)))
  (cSeq (cMake 5 4 g_m_init (aCons (eVar 1) (aCons (eVar 2) (aCons (eVar 3) aNil))))
  (cSeq (cDrop (eA (gN 2 g_look_at_orders) (aCons (eVar 0) (aCons (eVar 4) aNil))))
  (cRetX (xCall 5 1 3 g_all_reads (aCons (eVar 0) (amHere (aCons (eVar 4) aNil))))))))
def g_reads_of : List D → Option D := runF 6 d_reads_of
abbrev st_first_shown : Stmt := top 54
abbrev NN_first_shown : List Str := ["test", "size", "harms", "contents", "orders", "number", "address", "at", "bit"]
theorem sc_first_shown : FnScope NN_first_shown ["test", "size", "harms", "contents", "orders"] (defScope st_first_shown) := ⟨rfl, rfl, rfl, by decide +kernel, rfl, by decide +kernel, by decide +kernel⟩
def b_first_shown_1 : SE → Option Out := (cIf (bOf (e2 gNe (eVar 8) (e2 gIx (e2 gIx (e2 gIx (e2 gIx (eVar 0) (eVar 5)) (eC (.int 1))) (eVar 7)) (eC (.int 1))))) (cPro (cRet (eA mkTup (aCons (eVar 5) (aCons (eVar 6) (aCons (eVar 7) aNil)))))) cNext)
def d_first_shown : SE → Option Out := (cSeq (cFor (iOf lstOf (eA (gN 5 g_reads_of) (aCons (eVar 0) (aCons (eVar 1) (aCons (eVar 2) (aCons (eVar 3) (aCons (eVar 4) aNil))))))) (aTup 4 (gsCons (aName 5) (gsCons (aName 6) (gsCons (aName 7) (gsCons (aName 8) gsNil)))))
  b_first_shown_1)
  (cPro (cRet (eC .none))))
def g_first_shown : List D → Option D := runF 9 d_first_shown
abbrev st_look_at_judged : Stmt := top 56
abbrev NN_look_at_judged : List Str := ["test", "harms"]
theorem sc_look_at_judged : FnScope NN_look_at_judged ["test", "harms"] (defScope st_look_at_judged) := ⟨rfl, rfl, rfl, by decide +kernel, rfl, by decide +kernel, by decide +kernel⟩
def d_look_at_judged : SE → Option Out := (cSeq (cDrop (eA (gN 1 g_look_at_test) (aCons (eVar 0) aNil)))
  (cSeq (cDrop (eA (gN 1 g_look_at_harms) (aCons (eVar 1) aNil)))
  (cSeq (cIf (bNot (bOf (eA (gN 1 g_is_sure) (aCons (eVar 0) aNil)))) cNever cNext)
  (cIf (bOf (e2 gEq (eVar 1) (eA mkLst aNil))) cNever cNext))))
def g_look_at_judged : List D → Option D := runF 2 d_look_at_judged
abbrev st_all_contents : Stmt := top 57
abbrev NN_all_contents : List Str := ["many", "found", "cell", "contents"]
theorem sc_all_contents : FnScope NN_all_contents ["many"] (defScope st_all_contents) := ⟨rfl, rfl, rfl, by decide +kernel, rfl, by decide +kernel, by decide +kernel⟩
def b_all_contents_1 : SE → Option Out := (cAsg (e2 gAdd (eLc [3] (iOf lstOf (eVar 1)) (aName 3) (fun _ => some true) (e2 gAdd (eVar 3) (eA mkTup (aCons (eC (.int 0)) aNil)))) (eLc [3] (iOf lstOf (eVar 1)) (aName 3) (fun _ => some true) (e2 gAdd (eVar 3) (eA mkTup (aCons (eC (.int 1)) aNil))))) (aName 1))
def d_all_contents : SE → Option Out := (cSeq (cAsg (eA mkLst (aCons (eA mkTup aNil) aNil)) (aName 1))
  (cSeq (cFor (iRange1 (aCons (eVar 0) aNil)) (aName 2)
  b_all_contents_1)
  (cPro (cRet (eA gSorted (aCons (eVar 1) aNil))))))
def g_all_contents : List D → Option D := runF 4 d_all_contents
abbrev st_steps_done : Stmt := top 58
abbrev NN_steps_done : List Str := ["many", "element", "order", "found", "address", "step"]
theorem sc_steps_done : FnScope NN_steps_done ["many", "element", "order"] (defScope st_steps_done) := ⟨rfl, rfl, rfl, by decide +kernel, rfl, by decide +kernel, by decide +kernel⟩
def b_steps_done_1 : SE → Option Out := (cExt 3 (eLc [5] (iOf lstOf (e2 gIx (eVar 1) (eC (.int 1)))) (aName 5) (fun _ => some true) (eA mkTup (aCons (eVar 4) (aCons (eVar 5) aNil)))))
def d_steps_done : SE → Option Out := (cSeq (cOwn 3 (.ol []))
  (cSeq (cFor (iOf lstOf (eA (gN 2 g_in_order) (aCons (eVar 0) (aCons (eVar 2) aNil)))) (aName 4)
  b_steps_done_1)
  (cPro (cRet (eVar 3)))))
def g_steps_done : List D → Option D := runF 6 d_steps_done
abbrev st_orders_for : Stmt := top 59
abbrev NN_orders_for : List Str := ["element"]
theorem sc_orders_for : FnScope NN_orders_for ["element"] (defScope st_orders_for) := ⟨rfl, rfl, rfl, by decide +kernel, rfl, by decide +kernel, by decide +kernel⟩
def d_orders_for : SE → Option Out := (cSeq (cIf (bOf (e2 gEq (e2 gIx (eVar 0) (eC (.int 0))) (eC (.str "any")))) (cPro (cRet (eA mkLst (aCons (eC (.str "up")) (aCons (eC (.str "down")) aNil))))) cNext)
  (cPro (cRet (eA mkLst (aCons (e2 gIx (eVar 0) (eC (.int 0))) aNil)))))
def g_orders_for : List D → Option D := runF 1 d_orders_for
abbrev st_beyond : Stmt := top 60
abbrev NN_beyond : List Str := ["harms", "stands", "address", "step", "found", "contents", "later", "bit"]
theorem sc_beyond : FnScope NN_beyond ["harms", "stands", "address", "step"] (defScope st_beyond) := ⟨rfl, rfl, rfl, by decide +kernel, rfl, by decide +kernel, by decide +kernel⟩
def b_beyond_1 : SE → Option Out := (cSeq (cAsg (eA (gN 4 g_acted) (aCons (eVar 0) (aCons (eVar 5) (aCons (eVar 2) (aCons (eVar 3) aNil))))) (aTup 2 (gsCons (aName 6) (gsCons (aName 7) gsNil))))
  (cIf (bOr (bOf (e2 gIs (eVar 7) (eC .none))) (bOf (e2 gEq (eVar 7) (e2 gIx (eVar 3) (eC (.int 1)))))) (cSetd 4 (eVar 6) (e2 gIx (eVar 1) (eVar 5))) cNext))
def d_beyond : SE → Option Out := (cSeq (cOwn 4 (.ot []))
  (cSeq (cFor (dItems 1) (aName 5)
  b_beyond_1)
  (cPro (cRet (eVar 4)))))
def g_beyond : List D → Option D := runF 8 d_beyond
abbrev st_gone_over : Stmt := top 61
abbrev NN_gone_over : List Str := ["harms", "many", "stands", "element", "order", "lists", "address", "step"]
theorem sc_gone_over : FnScope NN_gone_over ["harms", "many", "stands", "element", "order"] (defScope st_gone_over) := ⟨rfl, rfl, rfl, by decide +kernel, rfl, by decide +kernel, by decide +kernel⟩
def b_gone_over_1 : SE → Option Out := (cSeq (cApp 5 (eA gSorted (aCons (eVar 2) aNil)))
  (cAsg (eA (gN 4 g_beyond) (aCons (eVar 0) (aCons (eVar 2) (aCons (eVar 6) (aCons (eVar 7) aNil))))) (aName 2)))
def d_gone_over : SE → Option Out := (cSeq (cOwn 5 (.ol []))
  (cSeq (cFor (iOf lstOf (eA (gN 3 g_steps_done) (aCons (eVar 1) (aCons (eVar 3) (aCons (eVar 4) aNil))))) (aTup 2 (gsCons (aName 6) (gsCons (aName 7) gsNil)))
  b_gone_over_1)
  (cPro (cRet (eA mkTup (aCons (eVar 5) (aCons (eVar 2) aNil)))))))
def g_gone_over : List D → Option D := runF 8 d_gone_over
abbrev st_begun : Stmt := top 62
abbrev NN_begun : List Str := ["harms", "many", "found", "contents"]
theorem sc_begun : FnScope NN_begun ["harms", "many"] (defScope st_begun) := ⟨rfl, rfl, rfl, by decide +kernel, rfl, by decide +kernel, by decide +kernel⟩
def b_begun_1 : SE → Option Out := (cSetd 2 (eA (gN 2 g_held_at_first) (aCons (eVar 0) (aCons (eVar 3) aNil))) (eA mkTup (aCons (eVar 3) (aCons (eA mkLst aNil) aNil))))
def d_begun : SE → Option Out := (cSeq (cOwn 2 (.ot []))
  (cSeq (cFor (iOf lstOf (eA (gN 1 g_all_contents) (aCons (eVar 1) aNil))) (aName 3)
  b_begun_1)
  (cPro (cRet (eVar 2)))))
def g_begun : List D → Option D := runF 4 d_begun
abbrev st_judged : Stmt := top 63
abbrev NN_judged : List Str := ["test", "harms", "small", "many", "stands", "table", "element", "row", "later", "order", "ends", "contents", "first", "orders"]
theorem sc_judged : FnScope NN_judged ["test", "harms"] (defScope st_judged) := ⟨rfl, rfl, rfl, by decide +kernel, rfl, by decide +kernel, by decide +kernel⟩
def b_judged_1 : SE → Option Out := (cSeq (cAsg (e2 gIx (eVar 10) (eVar 11)) (aTup 2 (gsCons (aName 12) (gsCons (aName 13) gsNil))))
  (cSetd 8 (eVar 11) (eA mkTup (aCons (eVar 12) (aCons (e2 gAdd (eVar 13) (eA mkLst (aCons (eVar 9) aNil))) aNil)))))
def b_judged_2 : SE → Option Out := (cSeq (cRow 7 9 10 (eA (gN 5 g_gone_over) (aCons (eVar 2) (aCons (eVar 3) (aCons (eVar 4) (aCons (eVar 6) (aCons (eVar 9) aNil)))))))
  (cFor (dItems 10) (aName 11)
  b_judged_1))
def b_judged_3 : SE → Option Out := (cSeq (cOwn 7 (.ok [(.str "up", .none), (.str "down", .none)]))
  (cSeq (cOwn 8 (.ot []))
  (cSeq (cFor (iOf lstOf (eA (gN 1 g_orders_for) (aCons (eVar 6) aNil))) (aName 9)
  b_judged_2)
  (cSeq (cPro1 7 (cApp 5 (eA mkTup (aCons (eA gSorted (aCons (eVar 4) aNil)) (aCons (e2 gIx (eVar 7) (eC (.str "up"))) (aCons (e2 gIx (eVar 7) (eC (.str "down"))) aNil))))))
  (cPro1 8 (cAsg (eVar 8) (aName 4)))))))
def d_judged : SE → Option Out := (cSeq (cDrop (eA (gN 2 g_look_at_judged) (aCons (eVar 0) (aCons (eVar 1) aNil))))
  (cSeq (cAsg (eA (gN 1 g_little) (aCons (eVar 1) aNil)) (aName 2))
  (cSeq (cAsg (eA gLen (aCons (eA (gN 1 g_cells_of) (aCons (eVar 1) aNil)) aNil)) (aName 3))
  (cSeq (cAsg (eA (gN 2 g_begun) (aCons (eVar 2) (aCons (eVar 3) aNil))) (aName 4))
  (cSeq (cOwn 5 (.ol []))
  (cSeq (cFor (iOf lstOf (eVar 0)) (aName 6)
  b_judged_3)
  (cSeq (cIf (eEmp (eVar 4)) (cPro (cRet (eA mkTup (aCons (eC (.str "told")) (aCons (eVar 5) aNil))))) cNext)
  (cSeq (cAsg (e2 gIx (eVar 4) (e2 gIx (eA gSorted (aCons (eVar 4) aNil)) (eC (.int 0)))) (aTup 2 (gsCons (aName 12) (gsCons (aName 13) gsNil))))
  (cPro (cRet (eA mkTup (aCons (eC (.str "let")) (aCons (eVar 12) (aCons (eVar 13) aNil))))))))))))))
def g_judged : List D → Option D := runF 14 d_judged
abbrev st__law_cell_at : Stmt := top 65
abbrev NN__law_cell_at : List Str := ["_law_script", "_law_k"]
theorem sc__law_cell_at : FnScope NN__law_cell_at ["_law_script", "_law_k"] (defScope st__law_cell_at) := ⟨rfl, rfl, rfl, by decide +kernel, rfl, by decide +kernel, by decide +kernel⟩
def d__law_cell_at : SE → Option Out := (cSeq (cIf (bOf (e2 gLt (eVar 1) (eA gLen (aCons (eVar 0) aNil)))) (cPro (cRet (e2 gIx (eVar 0) (eVar 1)))) cNext)
  (cPro (cRet (eC (.int 0)))))
def g__law_cell_at : List D → Option D := runF 2 d__law_cell_at
abbrev st__law_digits : Stmt := top 66
abbrev NN__law_digits : List Str := ["_law_cell", "_law_turn", "_law_sizes", "_law_number", "_law_wide", "_law_seed", "_law_found", "_law_k", "_law_size"]
theorem sc__law_digits : FnScope NN__law_digits ["_law_cell", "_law_turn", "_law_sizes"] (defScope st__law_digits) := ⟨rfl, rfl, rfl, by decide +kernel, rfl, by decide +kernel, by decide +kernel⟩
def b__law_digits_1 : SE → Option Out := (cIf (bAnd (bOf (eVar 4)) (bOf (e2 gGt (eVar 3) (eC (.int 0))))) (cSeq (cApp 6 (e2 gMod (eVar 3) (eVar 8)))
  (cAsg (e2 gDiv (eVar 3) (eVar 8)) (aName 3))) (cSeq (cAsg (e2 gMod (e2 gPow (e2 gAdd (eVar 5) (e2 gMul (eC (.int 104729)) (e2 gAdd (eVar 7) (eC (.int 1))))) (eC (.int 2))) (eC (.int 2147483587))) (aName 5))
  (cApp 6 (e2 gMod (e2 gDiv (eVar 5) (eC (.int 16))) (eVar 8)))))
def d__law_digits : SE → Option Out := (cSeq (cAsg (eA gAbs (aCons (eVar 0) aNil)) (aName 3))
  (cSeq (cAsg (e2 gGe (eVar 3) (e2 gPow (eC (.int 10)) (eC (.int 18)))) (aName 4))
  (cSeq (cAsg (e2 gAdd (e2 gMod (eVar 3) (eC (.int 2147483647))) (e2 gMul (eC (.int 7919)) (eVar 1))) (aName 5))
  (cSeq (cOwn 6 (.ol []))
  (cSeq (cFor (iEnumD (aCons (eVar 2) aNil)) (aTup 2 (gsCons (aName 7) (gsCons (aName 8) gsNil)))
  b__law_digits_1)
  (cPro (cRet (eVar 6))))))))
def g__law_digits : List D → Option D := runF 9 d__law_digits
abbrev st__law_test : Stmt := top 67
abbrev NN__law_test : List Str := ["_law_cells", "_law_sure", "_law_known", "_law_test_here", "_law_turn", "_law_cell", "_law_d", "_law_steps", "_law_pick", "_law_step"]
theorem sc__law_test : FnScope NN__law_test ["_law_cells", "_law_sure"] (defScope st__law_test) := ⟨rfl, rfl, rfl, by decide +kernel, rfl, by decide +kernel, by decide +kernel⟩
def b__law_test_1 : SE → Option Out := (cSeq (cAsg (eA mkTup (aCons (eC (.str "w")) (aCons (e2 gMod (eVar 8) (eC (.int 2))) aNil))) (aName 9))
  (cSeq (cIf (bAnd (bOf (e2 gGt (eVar 8) (eC (.int 1)))) (bNot (bOf (eVar 1)))) (cAsg (eA mkTup (aCons (eC (.str "r")) (aCons (e2 gMod (eVar 8) (eC (.int 2))) aNil))) (aName 9)) (cIf (bAnd (bOf (e2 gGt (eVar 8) (eC (.int 1)))) (bOf (e2 gIsNot (eVar 2) (eC .none)))) (cAsg (eA mkTup (aCons (eC (.str "r")) (aCons (eVar 2) aNil))) (aName 9)) cNext))
  (cSeq (cAsg (e2 gIx (eVar 9) (eC (.int 1))) (aName 2))
  (cApp 7 (eVar 9)))))
def b__law_test_2 : SE → Option Out := (cSeq (cAsg (eA (gN 3 g__law_digits) (aCons (eVar 5) (aCons (e2 gAdd (eC (.int 20)) (eVar 4)) (aCons (e2 gAdd (eA mkLst (aCons (eC (.int 3)) (aCons (eC (.int 6)) aNil))) (e2 gMul (eA mkLst (aCons (eC (.int 4)) aNil)) (eC (.int 6)))) aNil)))) (aName 6))
  (cSeq (cOwn 7 (.ol []))
  (cSeq (cFor (iOf lstOf (eSl gSl (eVar 6) (oS (eC (.int 2))) (oS (e2 gAdd (eC (.int 3)) (e2 gIx (eVar 6) (eC (.int 1))))))) (aName 8)
  b__law_test_1)
  (cPro1 7 (cApp 3 (eA mkTup (aCons (e2 gIx (eA mkLst (aCons (eC (.str "up")) (aCons (eC (.str "down")) (aCons (eC (.str "any")) aNil)))) (e2 gIx (eVar 6) (eC (.int 0)))) (aCons (eVar 7) aNil))))))))
def d__law_test : SE → Option Out := (cSeq (cAsg (eC .none) (aName 2))
  (cSeq (cOwn 3 (.ol []))
  (cSeq (cFor (iEnumD (aCons (eVar 0) aNil)) (aTup 2 (gsCons (aName 4) (gsCons (aName 5) gsNil)))
  b__law_test_2)
  (cPro (cRet (eVar 3))))))
def g__law_test : List D → Option D := runF 10 d__law_test
abbrev st__law_orders : Stmt := top 68
abbrev NN__law_orders : List Str := ["_law_test_here", "_law_cell", "_law_d", "_law_k"]
theorem sc__law_orders : FnScope NN__law_orders ["_law_test_here", "_law_cell"] (defScope st__law_orders) := ⟨rfl, rfl, rfl, by decide +kernel, rfl, by decide +kernel, by decide +kernel⟩
def d__law_orders : SE → Option Out := (cSeq (cAsg (eA (gN 3 g__law_digits) (aCons (eVar 1) (aCons (eC (.int 61)) (aCons (e2 gMul (eA mkLst (aCons (eC (.int 2)) aNil)) (eC (.int 8))) aNil)))) (aName 2))
  (cPro (cRet (eLc [3] (iRange1 (aCons (eA gLen (aCons (eVar 0) aNil)) aNil)) (aName 3) (fun _ => some true) (eIf (bOf (e2 gEq (e2 gIx (e2 gIx (eVar 0) (eVar 3)) (eC (.int 0))) (eC (.str "any")))) (e2 gIx (eA mkLst (aCons (eC (.str "up")) (aCons (eC (.str "down")) aNil))) (e2 gIx (eVar 2) (eVar 3))) (e2 gIx (e2 gIx (eVar 0) (eVar 3)) (eC (.int 0))))))))
def g__law_orders : List D → Option D := runF 4 d__law_orders
abbrev st__law_harm : Stmt := top 69
abbrev NN__law_harm : List Str := ["_law_d", "_law_some", "_law_words", "_law_word", "_law_a", "_law_b", "_law_cell"]
theorem sc__law_harm : FnScope NN__law_harm ["_law_d", "_law_some"] (defScope st__law_harm) := ⟨rfl, rfl, rfl, by decide +kernel, rfl, by decide +kernel, by decide +kernel⟩
def d__law_harm : SE → Option Out := (cSeq (cAsg (eA mkLst (aCons (eC (.str "stuck")) (aCons (eC (.str "slow")) (aCons (eC (.str "forgets")) (aCons (eC (.str "misreads")) (aCons (eC (.str "turns")) (aCons (eC (.str "sets")) (aCons (eC (.str "keeps")) (aCons (eC (.str "nowhere")) (aCons (eC (.str "other")) (aCons (eC (.str "both")) aNil))))))))))) (aName 2))
  (cSeq (cAsg (e2 gIx (eVar 2) (e2 gIx (eVar 0) (eC (.int 0)))) (aName 3))
  (cSeq (cAsg (e2 gIx (eVar 1) (e2 gMod (e2 gIx (eVar 0) (eC (.int 1))) (eA gLen (aCons (eVar 1) aNil)))) (aName 4))
  (cSeq (cAsg (e2 gIx (eLc [6] (iOf lstOf (eVar 1)) (aName 6) (bOf (e2 gNe (eVar 6) (eVar 4))) (eVar 6)) (e2 gMod (e2 gIx (eVar 0) (eC (.int 2))) (e2 gSub (eA gLen (aCons (eVar 1) aNil)) (eC (.int 1))))) (aName 5))
  (cSeq (cIf (bOf (e2 gIn (eVar 3) (eA mkTup (aCons (eC (.str "stuck")) (aCons (eC (.str "slow")) (aCons (eC (.str "forgets")) (aCons (eC (.str "misreads")) (aCons (eC (.str "nowhere")) aNil)))))))) (cPro (cRet (eA mkTup (aCons (eVar 3) (aCons (eVar 4) (aCons (e2 gIx (eVar 0) (eC (.int 3))) aNil)))))) cNext)
  (cSeq (cIf (bOf (e2 gEq (eVar 3) (eC (.str "turns")))) (cPro (cRet (eA mkTup (aCons (eVar 3) (aCons (eVar 4) (aCons (eVar 5) (aCons (e2 gIx (eVar 0) (eC (.int 3))) aNil))))))) cNext)
  (cSeq (cIf (bOf (e2 gIn (eVar 3) (eA mkTup (aCons (eC (.str "sets")) (aCons (eC (.str "keeps")) aNil))))) (cPro (cRet (eA mkTup (aCons (eVar 3) (aCons (eVar 4) (aCons (eVar 5) (aCons (e2 gIx (eVar 0) (eC (.int 3))) (aCons (e2 gIx (eVar 0) (eC (.int 4))) aNil)))))))) cNext)
  (cPro (cRet (e2 gIx (eA mkLst (aCons (eA mkTup (aCons (eC (.str "other")) (aCons (eVar 4) (aCons (eVar 5) aNil)))) (aCons (eA mkTup (aCons (eC (.str "both")) (aCons (eVar 4) (aCons (eVar 5) (aCons (e2 gIx (eA mkLst (aCons (eC (.str "and")) (aCons (eC (.str "or")) aNil))) (e2 gIx (eVar 0) (eC (.int 3)))) aNil))))) aNil))) (eA gInt (aCons (e2 gEq (eVar 3) (eC (.str "both"))) aNil))))))))))))
def g__law_harm : List D → Option D := runF 7 d__law_harm
abbrev st__law_harms : Stmt := top 70
abbrev NN__law_harms : List Str := ["_law_cell", "_law_turn", "_law_size", "_law_most", "_law_d", "_law_some", "_law_k", "_law_free", "_law_one"]
theorem sc__law_harms : FnScope NN__law_harms ["_law_cell", "_law_turn", "_law_size", "_law_most"] (defScope st__law_harms) := ⟨rfl, rfl, rfl, by decide +kernel, rfl, by decide +kernel, by decide +kernel⟩
def b__law_harms_1 : SE → Option Out := (cSeq (cAsg (eLc [8] (iRange1 (aCons (eVar 2) aNil)) (aName 8) (bOf (e2 gNin (eVar 8) (eVar 5))) (eVar 8)) (aName 7))
  (cAsg (e2 gAdd (eVar 5) (eSl gSl (eSl gSl (eVar 7) (oS (e2 gMod (e2 gIx (eVar 4) (e2 gAdd (eC (.int 2)) (eVar 6))) (eA gMax (aCons (eC (.int 1)) (aCons (eA gLen (aCons (eVar 7) aNil)) aNil))))) oN) oN (oS (eC (.int 1))))) (aName 5)))
def d__law_harms : SE → Option Out := (cSeq (cAsg (eA (gN 3 g__law_digits) (aCons (eVar 0) (aCons (eVar 1) (aCons (e2 gAdd (eA mkLst (aCons (eVar 3) (aCons (eVar 2) (aCons (eVar 2) (aCons (eVar 2) aNil))))) (e2 gMul (eA mkLst (aCons (eC (.int 10)) (aCons (eC (.int 6)) (aCons (eC (.int 6)) (aCons (eC (.int 2)) (aCons (eC (.int 2)) aNil)))))) (eC (.int 3)))) aNil)))) (aName 4))
  (cSeq (cAsg (eA mkLst (aCons (e2 gIx (eVar 4) (eC (.int 1))) aNil)) (aName 5))
  (cSeq (cFor (iRange1 (aCons (eC (.int 2)) aNil)) (aName 6)
  b__law_harms_1)
  (cPro (cRet (eLc [6] (iRange1 (aCons (e2 gAdd (eC (.int 1)) (e2 gIx (eVar 4) (eC (.int 0)))) aNil)) (aName 6) (fun _ => some true) (eA (gN 2 g__law_harm) (aCons (eSl gSl (eVar 4) (oS (e2 gAdd (eC (.int 4)) (e2 gMul (eC (.int 5)) (eVar 6)))) (oS (e2 gAdd (eC (.int 9)) (e2 gMul (eC (.int 5)) (eVar 6))))) (aCons (eVar 5) aNil)))))))))
def g__law_harms : List D → Option D := runF 9 d__law_harms
abbrev st__law_ends : Stmt := top 71
abbrev NN__law_ends : List Str := ["_law_test_here", "_law_ways", "_law_order", "_law_steps"]
theorem sc__law_ends : FnScope NN__law_ends ["_law_test_here"] (defScope st__law_ends) := ⟨rfl, rfl, rfl, by decide +kernel, rfl, by decide +kernel, by decide +kernel⟩
def d__law_ends : SE → Option Out := (cSeq (cAsg (eC (.dict [(.str "up", .str "down"), (.str "down", .str "up"), (.str "any", .str "any")])) (aName 1))
  (cPro (cRet (eLc [2, 3] (iOf lstOf (eVar 0)) (aTup 2 (gsCons (aName 2) (gsCons (aName 3) gsNil))) (fun _ => some true) (eA mkTup (aCons (e2 gIx (eVar 1) (eVar 2)) (aCons (eVar 3) aNil)))))))
def g__law_ends : List D → Option D := runF 4 d__law_ends
abbrev st__law_bits : Stmt := top 72
abbrev NN__law_bits : List Str := ["_law_test_here", "_law_order", "_law_steps", "_law_word", "_law_bit"]
theorem sc__law_bits : FnScope NN__law_bits ["_law_test_here"] (defScope st__law_bits) := ⟨rfl, rfl, rfl, by decide +kernel, rfl, by decide +kernel, by decide +kernel⟩
def d__law_bits : SE → Option Out := (cPro (cRet (eLc [1, 2] (iOf lstOf (eVar 0)) (aTup 2 (gsCons (aName 1) (gsCons (aName 2) gsNil))) (fun _ => some true) (eA mkTup (aCons (eVar 1) (aCons (eLc [3, 4] (iOf lstOf (eVar 2)) (aTup 2 (gsCons (aName 3) (gsCons (aName 4) gsNil))) (fun _ => some true) (eA mkTup (aCons (eVar 3) (aCons (e2 gSub (eC (.int 1)) (eVar 4)) aNil)))) aNil))))))
def g__law_bits : List D → Option D := runF 5 d__law_bits
abbrev st__law_cells_turned : Stmt := top 73
abbrev NN__law_cells_turned : List Str := ["_law_harms_here", "_law_most", "_law_found", "_law_harm_here", "_law_two", "_law_cell"]
theorem sc__law_cells_turned : FnScope NN__law_cells_turned ["_law_harms_here", "_law_most"] (defScope st__law_cells_turned) := ⟨rfl, rfl, rfl, by decide +kernel, rfl, by decide +kernel, by decide +kernel⟩
def b__law_cells_turned_1 : SE → Option Out := (cSeq (cAsg (eA gInt (aCons (e2 gIn (e2 gIx (eVar 3) (eC (.int 0))) (eA mkTup (aCons (eC (.str "turns")) (aCons (eC (.str "sets")) (aCons (eC (.str "keeps")) (aCons (eC (.str "other")) (aCons (eC (.str "both")) aNil))))))) aNil)) (aName 4))
  (cApp 2 (e2 gAdd (e2 gAdd (eSl gSl (eVar 3) oN (oS (eC (.int 1)))) (eA gTuple (aCons (eLc [5] (iOf tupOf (eSl gSl (eVar 3) (oS (eC (.int 1))) (oS (e2 gAdd (eC (.int 2)) (eVar 4))))) (aName 5) (fun _ => some true) (e2 gSub (eVar 1) (eVar 5))) aNil))) (eSl gSl (eVar 3) (oS (e2 gAdd (eC (.int 2)) (eVar 4))) oN))))
def d__law_cells_turned : SE → Option Out := (cSeq (cOwn 2 (.ol []))
  (cSeq (cFor (iOf lstOf (eVar 0)) (aName 3)
  b__law_cells_turned_1)
  (cPro (cRet (eVar 2)))))
def g__law_cells_turned : List D → Option D := runF 6 d__law_cells_turned
abbrev st__law_bits_turned : Stmt := top 74
abbrev NN__law_bits_turned : List Str := ["_law_harms_here", "_law_found", "_law_harm_here", "_law_two", "_law_rest", "_law_part"]
theorem sc__law_bits_turned : FnScope NN__law_bits_turned ["_law_harms_here"] (defScope st__law_bits_turned) := ⟨rfl, rfl, rfl, by decide +kernel, rfl, by decide +kernel, by decide +kernel⟩
def b__law_bits_turned_1 : SE → Option Out := (cSeq (cAsg (eA gInt (aCons (e2 gIn (e2 gIx (eVar 2) (eC (.int 0))) (eA mkTup (aCons (eC (.str "turns")) (aCons (eC (.str "sets")) (aCons (eC (.str "keeps")) (aCons (eC (.str "other")) (aCons (eC (.str "both")) aNil))))))) aNil)) (aName 3))
  (cSeq (cAsg (eLc [5] (iOf tupOf (eSl gSl (eVar 2) (oS (e2 gAdd (eC (.int 2)) (eVar 3))) oN)) (aName 5) (fun _ => some true) (eGet2 (eC (.dict [(.str "and", .str "or"), (.str "or", .str "and")])) (eVar 5) (eVar 5))) (aName 4))
  (cSeq (cAsg (eLc [5] (iOf lstOf (eVar 4)) (aName 5) (fun _ => some true) (eIf (bOf (eIsi (tabOf "str") (eVar 5))) (eVar 5) (e2 gSub (eC (.int 1)) (eVar 5)))) (aName 4))
  (cApp 1 (e2 gAdd (eSl gSl (eVar 2) oN (oS (e2 gAdd (eC (.int 2)) (eVar 3)))) (eA gTuple (aCons (eVar 4) aNil)))))))
def d__law_bits_turned : SE → Option Out := (cSeq (cOwn 1 (.ol []))
  (cSeq (cFor (iOf lstOf (eVar 0)) (aName 2)
  b__law_bits_turned_1)
  (cPro (cRet (eVar 1)))))
def g__law_bits_turned : List D → Option D := runF 6 d__law_bits_turned
abbrev st__law_runs_alike : Stmt := top 75
abbrev NN__law_runs_alike : List Str := ["_law_test_here", "_law_harms_here", "_law_size", "_law_contents", "_law_orders_here", "_law_reads", "_law_back", "_law_turned", "_law_other", "_law_bits_here", "_law_one", "_law_order", "_law_row", "_law_bit"]
theorem sc__law_runs_alike : FnScope NN__law_runs_alike ["_law_test_here", "_law_harms_here", "_law_size", "_law_contents", "_law_orders_here"] (defScope st__law_runs_alike) := ⟨rfl, rfl, rfl, by decide +kernel, rfl, by decide +kernel, by decide +kernel⟩
def d__law_runs_alike : SE → Option Out := (cSeq (cAsg (eA (gN 5 g_reads_of) (aCons (eVar 0) (aCons (eVar 2) (aCons (eVar 1) (aCons (eVar 3) (aCons (eVar 4) aNil)))))) (aName 5))
  (cSeq (cAsg (eLc [11] (iOf lstOf (eVar 4)) (aName 11) (fun _ => some true) (e2 gIx (eC (.dict [(.str "up", .str "down"), (.str "down", .str "up")])) (eVar 11))) (aName 6))
  (cSeq (cAsg (eA (gN 2 g__law_cells_turned) (aCons (eVar 1) (aCons (e2 gSub (eVar 2) (eC (.int 1))) aNil))) (aName 7))
  (cSeq (cAsg (eA (gN 5 g_reads_of) (aCons (eA (gN 1 g__law_ends) (aCons (eVar 0) aNil)) (aCons (eVar 2) (aCons (eVar 7) (aCons (e1 gRev (eVar 3)) (aCons (eVar 6) aNil)))))) (aName 8))
  (cSeq (cIf (bOf (e2 gNe (eLc [12] (iOf lstOf (eVar 8)) (aName 12) (fun _ => some true) (eA mkTup (aCons (e2 gIx (eVar 12) (eC (.int 0))) (aCons (e2 gSub (e2 gSub (eVar 2) (eC (.int 1))) (e2 gIx (eVar 12) (eC (.int 1)))) (aCons (e2 gIx (eVar 12) (eC (.int 2))) (aCons (e2 gIx (eVar 12) (eC (.int 3))) aNil)))))) (eVar 5))) (cPro (cRet (eC (.bool false)))) cNext)
  (cSeq (cAsg (eA (gN 5 g_reads_of) (aCons (eA (gN 1 g__law_bits) (aCons (eVar 0) aNil)) (aCons (eVar 2) (aCons (eA (gN 1 g__law_bits_turned) (aCons (eVar 1) aNil)) (aCons (eLc [13] (iOf lstOf (eVar 3)) (aName 13) (fun _ => some true) (e2 gSub (eC (.int 1)) (eVar 13))) (aCons (eVar 4) aNil)))))) (aName 9))
  (cSeq (cIf (bOf (e2 gNe (eLc [12] (iOf lstOf (eVar 9)) (aName 12) (fun _ => some true) (e2 gAdd (eSl gSl (eVar 12) oN (oS (eC (.int 3)))) (eA mkTup (aCons (e2 gSub (eC (.int 1)) (e2 gIx (eVar 12) (eC (.int 3)))) aNil)))) (eVar 5))) (cPro (cRet (eC (.bool false)))) cNext)
  (cSeq (cAsg (eA (gN 5 g_first_shown) (aCons (eVar 0) (aCons (eVar 2) (aCons (eVar 1) (aCons (eVar 3) (aCons (eVar 4) aNil)))))) (aName 10))
  (cSeq (cAsg (eA (gN 5 g_first_shown) (aCons (eA (gN 1 g__law_ends) (aCons (eVar 0) aNil)) (aCons (eVar 2) (aCons (eVar 7) (aCons (e1 gRev (eVar 3)) (aCons (eVar 6) aNil)))))) (aName 8))
  (cSeq (cIf (bOf (e2 gIsNot (eVar 8) (eC .none))) (cAsg (eA mkTup (aCons (e2 gIx (eVar 8) (eC (.int 0))) (aCons (e2 gSub (e2 gSub (eVar 2) (eC (.int 1))) (e2 gIx (eVar 8) (eC (.int 1)))) (aCons (e2 gIx (eVar 8) (eC (.int 2))) aNil)))) (aName 8)) cNext)
  (cSeq (cIf (bOf (e2 gNe (eVar 8) (eVar 10))) (cPro (cRet (eC (.bool false)))) cNext)
  (cPro (cRet (e2 gEq (eA (gN 5 g_first_shown) (aCons (eA (gN 1 g__law_bits) (aCons (eVar 0) aNil)) (aCons (eVar 2) (aCons (eA (gN 1 g__law_bits_turned) (aCons (eVar 1) aNil)) (aCons (eLc [13] (iOf lstOf (eVar 3)) (aName 13) (fun _ => some true) (e2 gSub (eC (.int 1)) (eVar 13))) (aCons (eVar 4) aNil)))))) (eVar 10)))))))))))))))
def g__law_runs_alike : List D → Option D := runF 14 d__law_runs_alike
abbrev st_law : Stmt := top 76
abbrev NN_law : List Str := ["_law_script", "_law_at", "_law_cells", "_law_test_here", "_law_harms_here", "_law_word", "_law_turned", "_law_d", "_law_many", "_law_great"]
theorem sc_law : FnScope NN_law ["_law_script"] (defScope st_law) := ⟨rfl, rfl, rfl, by decide +kernel, rfl, by decide +kernel, by decide +kernel⟩
def b_law_1 : SE → Option Out := (cSeq (cAsg (eSlSc 0 (oS (eVar 1)) (oS (e2 gAdd (eVar 1) (eC (.int 6))))) (aName 2))
  (cSeq (cAsg (eA (gN 2 g__law_test) (aCons (eSl gSl (e2 gAdd (eSl gSl (eVar 2) oN (oS (eC (.int 5)))) (eA mkLst (aCons (eVar 1) aNil))) oN (oS (eA gMax (aCons (eC (.int 1)) (aCons (eA gMin (aCons (eC (.int 5)) (aCons (eA gLen (aCons (eVar 2) aNil)) aNil))) aNil))))) (aCons (eC (.bool true)) aNil))) (aName 3))
  (cSeq (cAsg (eA (gN 4 g__law_harms) (aCons (eA (gN 2 g__law_cell_at) (aCons (eVar 2) (aCons (eC (.int 5)) aNil))) (aCons (eC (.int 1)) (aCons (eC (.int 9)) (aCons (eC (.int 3)) aNil))))) (aName 4))
  (cSeq (cAsg (e2 gIx (eA (gN 2 g_judged) (aCons (eVar 3) (aCons (eVar 4) aNil))) (eC (.int 0))) (aName 5))
  (cSeq (cAsg (eA (gN 2 g__law_cells_turned) (aCons (eVar 4) (aCons (eC (.int 8)) aNil))) (aName 6))
  (cSeq (cIf (bOr (bOf (e2 gNe (e2 gIx (eA (gN 2 g_judged) (aCons (eA (gN 1 g__law_ends) (aCons (eVar 3) aNil)) (aCons (eVar 6) aNil))) (eC (.int 0))) (eVar 5))) (bOf (e2 gNe (e2 gIx (eA (gN 2 g_judged) (aCons (eA (gN 1 g__law_bits) (aCons (eVar 3) aNil)) (aCons (eA (gN 1 g__law_bits_turned) (aCons (eVar 4) aNil)) aNil))) (eC (.int 0))) (eVar 5)))) (cPro (cRet (eC (.bool false)))) cNext)
  (cSeq (cIf (bOf (e2 gNe (e2 gIx (eA (gN 2 g_judged) (aCons (eA (gN 1 g__law_bits) (aCons (eA (gN 1 g__law_ends) (aCons (eVar 3) aNil)) aNil)) (aCons (eA (gN 1 g__law_bits_turned) (aCons (eVar 6) aNil)) aNil))) (eC (.int 0))) (eVar 5))) (cPro (cRet (eC (.bool false)))) cNext)
  (cSeq (cAsg (eA (gN 3 g__law_digits) (aCons (eA (gN 2 g__law_cell_at) (aCons (eVar 2) (aCons (eC (.int 4)) aNil))) (aCons (eC (.int 9)) (aCons (e2 gAdd (eA mkLst (aCons (eC (.int 8)) (aCons (eC (.int 64)) aNil))) (e2 gMul (eA mkLst (aCons (eC (.int 2)) aNil)) (eC (.int 10)))) aNil)))) (aName 7))
  (cSeq (cAsg (eA gLen (aCons (eA (gN 1 g_cells_of) (aCons (eVar 4) aNil)) aNil)) (aName 8))
  (cSeq (cAsg (eA (gN 2 g_placed) (aCons (eVar 4) (aCons (eSl gSl (eA mkLst (aCons (eC (.int 0)) (aCons (e2 gAdd (eC (.int 1)) (e2 gMod (e2 gIx (eVar 7) (eC (.int 0))) (eC (.int 2)))) (aCons (e2 gAdd (eC (.int 2)) (e2 gIx (eVar 7) (eC (.int 0)))) aNil)))) oN (oS (eVar 8))) aNil))) (aName 9))
  (cIf (bNot (bOf (eA (gN 5 g__law_runs_alike) (aCons (eVar 3) (aCons (eVar 9) (aCons (e2 gAdd (eC (.int 3)) (e2 gIx (eVar 7) (eC (.int 0)))) (aCons (eSl gSl (eVar 7) (oS (eC (.int 2))) (oS (e2 gAdd (eC (.int 5)) (e2 gIx (eVar 7) (eC (.int 0)))))) (aCons (eA (gN 2 g__law_orders) (aCons (eVar 3) (aCons (e2 gIx (eVar 7) (eC (.int 1))) aNil))) aNil)))))))) (cPro (cRet (eC (.bool false)))) cNext)))))))))))
def d_law : SE → Option Out := (cSeq (cFor (iRange6 (aCons (eC (.int 0)) (aCons (eA gMax (aCons (eC (.int 1)) (aCons (eA gMin (aCons (eC (.int 48)) (aCons (eLenSc 0) aNil))) aNil))) (aCons (eC (.int 6)) aNil)))) (aName 1)
  b_law_1)
  (cPro (cRet (eC (.bool true)))))
/-- what the top has written -/
structure Txt (w : World) (K : PySem.W.Frag) (mg : Str → Option Value) (cls oF oO : Addr) : Prop where
  z_abs : mg "abs" = none
  z_all : mg "all" = none
  z_bool : mg "bool" = none
  z_dict : mg "dict" = none
  z_enumerate : mg "enumerate" = none
  z_int : mg "int" = none
  z_isinstance : mg "isinstance" = none
  z_len : mg "len" = none
  z_list : mg "list" = none
  z_max : mg "max" = none
  z_min : mg "min" = none
  z_range : mg "range" = none
  z_sorted : mg "sorted" = none
  z_str : mg "str" = none
  z_tuple : mg "tuple" = none
  z_zip : mg "zip" = none
  i_MOST_ELEMENTS : GI mg "MOST_ELEMENTS" 8
  i_MOST_STEPS : GI mg "MOST_STEPS" 6
  i_MOST_HARMS : GI mg "MOST_HARMS" 3
  i_MOST_CELLS : GI mg "MOST_CELLS" 3
  i_LAST_CELL : GI mg "LAST_CELL" 63
  i_MOST_SIZE : GI mg "MOST_SIZE" 64
  mgF : mg "FORMS" = some (.ref oF)
  forms : FormsAt K w oF
  mgO : mg "ORDERS" = some (.ref oO)
  ords : ∀ H, SqT K H oO ordV
  mgC : mg "Memory" = some (.ref cls)
  cl_ : Cls K cls
  n_flaws : NoAttr K cls "flaws"
  n_held : NoAttr K cls "held"
  mkC : PySem.W.makesIn K cls = true
  kpC : PySem.W.keepIn K (.ref cls) = true
  d_is_whole : Def K mg "is_whole" st_is_whole ["thing"]
  d_is_bit : Def K mg "is_bit" st_is_bit ["thing"]
  d_is_step : Def K mg "is_step" st_is_step ["thing"]
  d_is_formed : Def K mg "is_formed" st_is_formed ["thing"]
  d_look_at_test : Def K mg "look_at_test" st_look_at_test ["thing"]
  d_is_sure : Def K mg "is_sure" st_is_sure ["test"]
  d_is_part : Def K mg "is_part" st_is_part ["thing", "form"]
  d_is_harm : Def K mg "is_harm" st_is_harm ["thing"]
  d_cells_in : Def K mg "cells_in" st_cells_in ["harm"]
  d_cells_among : Def K mg "cells_among" st_cells_among ["harms"]
  d_look_at_harms : Def K mg "look_at_harms" st_look_at_harms ["thing"]
  d_cells_of : Def K mg "cells_of" st_cells_of ["harms"]
  d_called : Def K mg "called" st_called ["harm", "names"]
  d_little : Def K mg "little" st_little ["harms"]
  d_placed : Def K mg "placed" st_placed ["harms", "cells"]
  d_stuck_at : Def K mg "stuck_at" st_stuck_at ["harms", "cell"]
  d_with_bit : Def K mg "with_bit" st_with_bit ["harms", "contents", "cell", "bit"]
  d_held_at_first : Def K mg "held_at_first" st_held_at_first ["harms", "contents"]
  d_address_harm : Def K mg "address_harm" st_address_harm ["harms", "address"]
  d_reached : Def K mg "reached" st_reached ["harm", "address"]
  d_coming : Def K mg "coming" st_coming ["harms", "contents", "cell", "bit"]
  d_written : Def K mg "written" st_written ["harms", "contents", "cell", "bit"]
  d_was_read : Def K mg "was_read" st_was_read ["harms", "contents", "cell"]
  d_read_bit : Def K mg "read_bit" st_read_bit ["harm", "bits"]
  d_acted : Def K mg "acted" st_acted ["harms", "contents", "address", "step"]
  d_look_at_memory : Def K mg "look_at_memory" st_look_at_memory ["size", "harms", "contents"]
  d_m_init : MDef K cls "__init__" "Memory.__init__" st_m_init ["self", "size", "harms", "contents"]
  d_m_look_at_address : MDef K cls "look_at_address" "Memory.look_at_address" st_m_look_at_address ["self", "address"]
  d_m_read : MDef K cls "read" "Memory.read" st_m_read ["self", "address"]
  d_m_write : MDef K cls "write" "Memory.write" st_m_write ["self", "address", "bit"]
  d_m_size : MDef K cls "size" "Memory.size" st_m_size ["self"]
  d_look_at_orders : Def K mg "look_at_orders" st_look_at_orders ["test", "thing"]
  d_in_order : Def K mg "in_order" st_in_order ["size", "order"]
  d_done_on : Def K mg "done_on" st_done_on ["memory", "address", "step"]
  d_all_reads : Def K mg "all_reads" st_all_reads ["test", "memory", "orders"]
  d_reads_of : Def K mg "reads_of" st_reads_of ["test", "size", "harms", "contents", "orders"]
  d_first_shown : Def K mg "first_shown" st_first_shown ["test", "size", "harms", "contents", "orders"]
  d_look_at_judged : Def K mg "look_at_judged" st_look_at_judged ["test", "harms"]
  d_all_contents : Def K mg "all_contents" st_all_contents ["many"]
  d_steps_done : Def K mg "steps_done" st_steps_done ["many", "element", "order"]
  d_orders_for : Def K mg "orders_for" st_orders_for ["element"]
  d_beyond : Def K mg "beyond" st_beyond ["harms", "stands", "address", "step"]
  d_gone_over : Def K mg "gone_over" st_gone_over ["harms", "many", "stands", "element", "order"]
  d_begun : Def K mg "begun" st_begun ["harms", "many"]
  d_judged : Def K mg "judged" st_judged ["test", "harms"]
  d__law_cell_at : Def K mg "_law_cell_at" st__law_cell_at ["_law_script", "_law_k"]
  d__law_digits : Def K mg "_law_digits" st__law_digits ["_law_cell", "_law_turn", "_law_sizes"]
  d__law_test : Def K mg "_law_test" st__law_test ["_law_cells", "_law_sure"]
  d__law_orders : Def K mg "_law_orders" st__law_orders ["_law_test_here", "_law_cell"]
  d__law_harm : Def K mg "_law_harm" st__law_harm ["_law_d", "_law_some"]
  d__law_harms : Def K mg "_law_harms" st__law_harms ["_law_cell", "_law_turn", "_law_size", "_law_most"]
  d__law_ends : Def K mg "_law_ends" st__law_ends ["_law_test_here"]
  d__law_bits : Def K mg "_law_bits" st__law_bits ["_law_test_here"]
  d__law_cells_turned : Def K mg "_law_cells_turned" st__law_cells_turned ["_law_harms_here", "_law_most"]
  d__law_bits_turned : Def K mg "_law_bits_turned" st__law_bits_turned ["_law_harms_here"]
  d__law_runs_alike : Def K mg "_law_runs_alike" st__law_runs_alike ["_law_test_here", "_law_harms_here", "_law_size", "_law_contents", "_law_orders_here"]
end Tm

namespace Tm
open PySem L2
section
variable {P : Program} {w : World} {K : PySem.W.Frag} {mg : Str → Option Value} {base : Heap} {cls oF oO : Addr}
theorem h_is_whole (T : Txt w K mg cls oF oO) : Has P w K mg base "is_whole" 1 ["thing"] (SpD 1 g_is_whole) := T.d_is_whole.has fun f fd F => by
  refine fn_D (cls := 0) F sc_is_whole rfl (by decide) fun cdv A outer s H E hr => ?_
  have sc := sc_is_whole
  exact ⟨_, (ss_one (st_ret (s_and (s_isi rfl T.z_isinstance rfl T.z_int b_int tab_int (vv 0)) (s_one (s_not (s_isi rfl T.z_isinstance rfl T.z_bool b_bool tab_bool (vv 0)))))))⟩
theorem h_is_bit (T : Txt w K mg cls oF oO) : Has P w K mg base "is_bit" 2 ["thing"] (SpD 1 g_is_bit) := T.d_is_bit.has fun f fd F => by
  refine fn_D (cls := 0) F sc_is_bit rfl (by decide) fun cdv A outer s H E hr => ?_
  have sc := sc_is_bit
  exact ⟨_, (ss_one (st_ret (s_and (cl (h_is_whole (base := base) (P := P) T) (hr.mono (by decide)) (a_cons (vv 0) a_nil)) (s_one (s_chain op_le op_le rs_le rs_le s_int (vv 0) s_int)))))⟩
theorem h_is_step (T : Txt w K mg cls oF oO) : Has P w K mg base "is_step" 3 ["thing"] (SpD 1 g_is_step) := T.d_is_step.has fun f fd F => by
  refine fn_D (cls := 0) F sc_is_step rfl (by decide) fun cdv A outer s H E hr => ?_
  have sc := sc_is_step
  exact ⟨_, (ss_cons (st_if (SemW.tt (w_or (t_not (t_val (s_isi rfl T.z_isinstance rfl T.z_tuple b_tuple tab_tuple (vv 0)))) (w_or (t_cmp (op_neD hr.units) rs_ne (s_callB call_len cs_len rfl T.z_len b_len (a_cons (vv 0) a_nil)) s_int (nomark _)) (w_or1 (t_not (t_val (s_isi rfl T.z_isinstance rfl T.z_str b_str tab_str (s_ix (ix_A (hu_of hr)) rs_ix (vv 0) s_int (by intro _ _; rfl))))))))) (ss_one (st_ret s_bl)) ss_nil)
    (ss_one (st_ret (s_and (s_cmp (op_inA (hu65 hr)) rs_in (s_ix (ix_A (hu_of hr)) rs_ix (vv 0) s_int (by intro _ _; rfl)) (s_tup (a_cons s_str (a_cons s_str a_nil))) rfl) (s_one (cl (h_is_bit (base := base) (P := P) T) (hr.mono (by decide)) (a_cons (s_ix (ix_A (hu_of hr)) rs_ix (vv 0) s_int (by intro _ _; rfl)) a_nil)))))))⟩
theorem h_is_formed (T : Txt w K mg cls oF oO) : Has P w K mg base "is_formed" 1 ["thing"] (SpD 1 g_is_formed) := T.d_is_formed.has fun f fd F => by
  refine fn_D (cls := 0) F sc_is_formed rfl (by decide) fun cdv A outer s H E hr => ?_
  have sc := sc_is_formed
  exact ⟨_, (ss_cons (st_if (SemW.tt (w_or (t_not (t_val (s_isi rfl T.z_isinstance rfl T.z_tuple b_tuple tab_tuple (vv 0)))) (w_or (t_cmp (op_neD hr.units) rs_ne (s_callB call_len cs_len rfl T.z_len b_len (a_cons (vv 0) a_nil)) s_int (nomark _)) (w_or1 (t_not (t_val (s_isi rfl T.z_isinstance rfl T.z_str b_str tab_str (s_ix (ix_A (hu_of hr)) rs_ix (vv 0) s_int (by intro _ _; rfl))))))))) (ss_one (st_ret s_bl)) ss_nil)
    (ss_one (st_ret (s_and (s_inOrd T.ords rfl T.mgO (s_ix (ix_A (hu_of hr)) rs_ix (vv 0) s_int (by intro _ _; rfl))) (s_and (s_isi rfl T.z_isinstance rfl T.z_list b_list tab_list (s_ix (ix_A (hu_of hr)) rs_ix (vv 0) s_int (by intro _ _; rfl))) (s_one (s_chain op_le op_le rs_le rs_le s_int (s_callB call_len cs_len rfl T.z_len b_len (a_cons (s_ix (ix_A (hu_of hr)) rs_ix (vv 0) s_int (by intro _ _; rfl)) a_nil)) (sgi T.i_MOST_STEPS))))))))⟩
theorem h_look_at_test (T : Txt w K mg cls oF oO) : Has P w K mg base "look_at_test" 4 ["thing"] (SpD 1 g_look_at_test) := T.d_look_at_test.has fun f fd F => by
  refine fn_D (cls := 0) F sc_look_at_test rfl (by decide) fun cdv A outer s H E hr => ?_
  have sc := sc_look_at_test
  exact ⟨_, (ss_cons (st_if (SemW.tt (w_or (t_not (t_val (s_isi rfl T.z_isinstance rfl T.z_list b_list tab_list (vv 0)))) (w_or1 (t_not (t_chain op_le op_le rs_le rs_le s_int (s_callB call_len cs_len rfl T.z_len b_len (a_cons (vv 0) a_nil)) (sgi T.i_MOST_ELEMENTS)))))) ss_never ss_nil)
    (ss_one (st_for PassesOwn.never rfl (i_enum rfl T.z_enumerate (a_cons (vv 0) a_nil)) (gt (gs_cons (gv 1 sc.nd) (gs_cons (gv 2 sc.nd) gs_nil)))
    (ss_cons (st_if (t_not (t_val (cl (h_is_formed (base := base) (P := P) T) (hr.mono (by decide)) (a_cons (vv 2) a_nil)))) ss_never ss_nil)
    (ss_one (st_for PassesOwn.never rfl (i_enum rfl T.z_enumerate (a_cons (s_ix (ix_A (hu_of hr)) rs_ix (vv 2) s_int (by intro _ _; rfl)) a_nil)) (gt (gs_cons (gv 3 sc.nd) (gs_cons (gv 4 sc.nd) gs_nil)))
    (ss_one (st_if (t_not (t_val (cl (h_is_step (base := base) (P := P) T) (hr.mono (by decide)) (a_cons (vv 4) a_nil)))) ss_never ss_nil))))))))⟩
theorem h_is_sure (T : Txt w K mg cls oF oO) : Has P w K mg base "is_sure" 5 ["test"] (SpD 1 g_is_sure) := T.d_is_sure.has fun f fd F => by
  refine fn_D (cls := 0) F sc_is_sure rfl (by decide) fun cdv A outer s H E hr => ?_
  have sc := sc_is_sure
  exact ⟨_, (ss_cons (st_expr (cl (h_look_at_test (base := base) (P := P) T) (hr.mono (by decide)) (a_cons (vv 0) a_nil)))
    (ss_cons (st_asg s_non (gv 1 sc.nd))
    (ss_cons (st_for PassesOwn.never rfl (i_list (vv 0)) (gt (gs_cons (gv 2 sc.nd) (gs_cons (gv 3 sc.nd) gs_nil)))
    (ss_one (st_for PassesOwn.never rfl (i_list (vv 3)) (gt (gs_cons (gv 4 sc.nd) (gs_cons (gv 5 sc.nd) gs_nil)))
    (ss_cons (st_if (SemW.tt (w_and (t_cmp (op_eqD hr.units) rs_eq (vv 4) s_str (nomark _)) (w_and1 (t_cmp (op_neD hr.units) rs_ne (vv 5) (vv 1) (nomark _))))) (ss_one (st_ret s_bl)) ss_nil)
    (ss_one (st_asg (vv 5) (gv 1 sc.nd)))))))
    (ss_one (st_ret s_bl)))))⟩
theorem h_is_part (T : Txt w K mg cls oF oO) : Has P w K mg base "is_part" 3 ["thing", "form"] (SpD 2 g_is_part) := T.d_is_part.has fun f fd F => by
  refine fn_D (cls := 0) F sc_is_part rfl (by decide) fun cdv A outer s H E hr => ?_
  have sc := sc_is_part
  exact ⟨_, (ss_cons (st_if (t_cmp (op_eqD hr.units) rs_eq (vv 1) s_str (nomark _)) (ss_one (st_ret (s_and (cl (h_is_whole (base := base) (P := P) T) (hr.mono (by decide)) (a_cons (vv 0) a_nil)) (s_one (s_chain op_le op_le rs_le rs_le s_int (vv 0) (sgi T.i_LAST_CELL)))))) ss_nil)
    (ss_cons (st_if (t_cmp (op_eqD hr.units) rs_eq (vv 1) s_str (nomark _)) (ss_one (st_ret (cl (h_is_bit (base := base) (P := P) T) (hr.mono (by decide)) (a_cons (vv 0) a_nil)))) ss_nil)
    (ss_one (st_ret (s_and (s_isi rfl T.z_isinstance rfl T.z_str b_str tab_str (vv 0)) (s_one (s_cmp (op_inA (hu65 hr)) rs_in (vv 0) (s_tup (a_cons s_str (a_cons s_str a_nil))) rfl)))))))⟩
theorem h_is_harm (T : Txt w K mg cls oF oO) : Has P w K mg base "is_harm" 4 ["thing"] (SpD 1 g_is_harm) := T.d_is_harm.has fun f fd F => by
  refine fn_D (cls := 0) F sc_is_harm rfl (by decide) fun cdv A outer s H E hr => ?_
  have sc := sc_is_harm
  exact ⟨_, (ss_cons (st_if (SemW.tt (w_or (t_not (t_val (s_isi rfl T.z_isinstance rfl T.z_tuple b_tuple tab_tuple (vv 0)))) (w_or (t_cmp (op_eqD hr.units) rs_eq (vv 0) (s_tup a_nil) (nomark _)) (w_or (t_not (t_val (s_isi rfl T.z_isinstance rfl T.z_str b_str tab_str (s_ix (ix_A (hu_of hr)) rs_ix (vv 0) s_int (by intro _ _; rfl))))) (w_or1 (t_noForm T.forms rfl T.mgF (s_ix (ix_A (hu_of hr)) rs_ix (vv 0) s_int (by intro _ _; rfl)))))))) (ss_one (st_ret s_bl)) ss_nil)
    (ss_cons (st_asg (s_form T.forms rfl T.mgF (s_ix (ix_A (hu_of hr)) rs_ix (vv 0) s_int (by intro _ _; rfl)) (by intro _ _; rfl)) (gv 1 sc.nd))
    (ss_cons (st_if (t_cmp (op_neD hr.units) rs_ne (s_callB call_len cs_len rfl T.z_len b_len (a_cons (vv 0) a_nil)) (s_op op_addA rs_add s_int (s_callB call_len cs_len rfl T.z_len b_len (a_cons (vv 1) a_nil))) (nomark _)) (ss_one (st_ret s_bl)) ss_nil)
    (ss_cons (st_if (t_not (t_val (s_callB (cr_all rfl) cs_all rfl T.z_all b_all (a_cons (s_lc rfl sc.nd (i_zipS rfl T.z_zip (a_cons (s_slice (sl_list.or sl_tupA) sls_A (vv 0) (o_some s_int) o_none) (a_cons (vv 1) a_nil))) (g := (gTup K 2 (gCons (gName 2) (gCons (gName 3) gNil)))) (own := [("part", 2), ("kind", 3)]) (blkOk_by (N := NN_is_harm) (sc := (defScope st_is_harm)) (by decide +kernel)) (fun _ _ _ _ _ => (gt (gs_cons (gv 2 sc.nd) (gs_cons (gv 3 sc.nd) gs_nil)))) (by decide) (fun _ _ _ _ _ => ts_nil) (fun _ _ _ _ _ => (cl (h_is_part (base := base) (P := P) T) (hr.mono (by decide)) (a_cons (vv 2) (a_cons (vv 3) a_nil))))) a_nil)))) (ss_one (st_ret s_bl)) ss_nil)
    (ss_one (st_ret (s_or (s_cmp (op_neD hr.units) rs_ne (s_ix (ix_A (hu_of hr)) rs_ix (vv 1) s_int (by intro _ _; rfl)) s_str (nomark _)) (s_one (s_cmp (op_neD hr.units) rs_ne (s_ix (ix_A (hu_of hr)) rs_ix (vv 0) s_int (by intro _ _; rfl)) (s_ix (ix_A (hu_of hr)) rs_ix (vv 0) s_int (by intro _ _; rfl)) (nomark _))))))))))⟩
theorem h_cells_in (T : Txt w K mg cls oF oO) : Has P w K mg base "cells_in" 1 ["harm"] (SpD 1 g_cells_in) := T.d_cells_in.has fun f fd F => by
  refine fn_D (cls := 0) F sc_cells_in rfl (by decide) fun cdv A outer s H E hr => ?_
  have sc := sc_cells_in
  exact ⟨_, (ss_one (st_ret (s_lc rfl sc.nd (i_zipS rfl T.z_zip (a_cons (s_slice (sl_list.or sl_tupA) sls_A (vv 0) (o_some s_int) o_none) (a_cons (s_form T.forms rfl T.mgF (s_ix (ix_A (hu_of hr)) rs_ix (vv 0) s_int (by intro _ _; rfl)) (by intro _ _; rfl)) a_nil))) (g := (gTup K 2 (gCons (gName 1) (gCons (gName 2) gNil)))) (own := [("part", 1), ("kind", 2)]) (blkOk_by (N := NN_cells_in) (sc := (defScope st_cells_in)) (by decide +kernel)) (fun _ _ _ _ _ => (gt (gs_cons (gv 1 sc.nd) (gs_cons (gv 2 sc.nd) gs_nil)))) (by decide) (fun _ _ _ _ _ => (ts_one (t_cmp (op_eqD hr.units) rs_eq (vv 2) s_str (nomark _)))) (fun _ _ _ _ _ => (vv 1)))))⟩
theorem h_cells_among (T : Txt w K mg cls oF oO) : Has P w K mg base "cells_among" 2 ["harms"] (SpD 1 g_cells_among) := T.d_cells_among.has fun f fd F => by
  refine fn_D (cls := 0) F sc_cells_among rfl (by decide) fun cdv A outer s H E hr => ?_
  have sc := sc_cells_among
  exact ⟨_, (ss_cons (newL (gn 1 sc.nd) sc.nd)
    (ss_cons (st_for PassesOwn.never rfl (i_list (vv 0)) (gv 2 sc.nd)
    (ss_one (extS 1 (pv 1) (s_lc rfl sc.nd (i_list (cl (h_cells_in (base := base) (P := P) T) (hr.mono (by decide)) (a_cons (vv 2) a_nil))) (own := [("cell", 3)]) (blkOk_by (N := NN_cells_among) (sc := (defScope st_cells_among)) (by decide +kernel)) (fun _ _ _ _ _ => (gv 3 sc.nd)) (by decide) (fun _ _ _ _ _ => (ts_one (t_cmp (op_ninA (hu65 hr)) rs_nin (vv 3) (vv 1) rfl))) (fun _ _ _ _ _ => (vv 3))))))
    (ss_one (st_ret (s_callBs (cr_sortA rfl) cs_sorted rfl T.z_sorted b_sorted (a_cons (vv 1) a_nil))))))⟩
theorem h_look_at_harms (T : Txt w K mg cls oF oO) : Has P w K mg base "look_at_harms" 5 ["thing"] (SpD 1 g_look_at_harms) := T.d_look_at_harms.has fun f fd F => by
  refine fn_D (cls := 0) F sc_look_at_harms rfl (by decide) fun cdv A outer s H E hr => ?_
  have sc := sc_look_at_harms
  exact ⟨_, (ss_cons (st_if (SemW.tt (w_or (t_not (t_val (s_isi rfl T.z_isinstance rfl T.z_list b_list tab_list (vv 0)))) (w_or1 (t_cmp op_gt rs_gt (s_callB call_len cs_len rfl T.z_len b_len (a_cons (vv 0) a_nil)) (sgi T.i_MOST_HARMS) (nomark _))))) ss_never ss_nil)
    (ss_one (st_for PassesOwn.never rfl (i_enum rfl T.z_enumerate (a_cons (vv 0) a_nil)) (gt (gs_cons (gv 1 sc.nd) (gs_cons (gv 2 sc.nd) gs_nil)))
    (ss_one (st_if (SemW.tt (w_or (t_not (t_val (cl (h_is_harm (base := base) (P := P) T) (hr.mono (by decide)) (a_cons (vv 2) a_nil)))) (w_or1 (t_cmp op_gt rs_gt (s_callB call_len cs_len rfl T.z_len b_len (a_cons (cl (h_cells_among (base := base) (P := P) T) (hr.mono (by decide)) (a_cons (s_slice (sl_list.or sl_tupA) sls_A (vv 0) o_none (o_some (s_op op_addA rs_add (vv 1) s_int))) a_nil)) a_nil)) (sgi T.i_MOST_CELLS) (nomark _))))) ss_never ss_nil)))))⟩
theorem h_cells_of (T : Txt w K mg cls oF oO) : Has P w K mg base "cells_of" 6 ["harms"] (SpD 1 g_cells_of) := T.d_cells_of.has fun f fd F => by
  refine fn_D (cls := 0) F sc_cells_of rfl (by decide) fun cdv A outer s H E hr => ?_
  have sc := sc_cells_of
  exact ⟨_, (ss_cons (st_expr (cl (h_look_at_harms (base := base) (P := P) T) (hr.mono (by decide)) (a_cons (vv 0) a_nil)))
    (ss_one (st_ret (cl (h_cells_among (base := base) (P := P) T) (hr.mono (by decide)) (a_cons (vv 0) a_nil)))))⟩
end
end Tm

namespace Tm
open PySem L2
section
variable {P : Program} {w : World} {K : PySem.W.Frag} {mg : Str → Option Value} {base : Heap} {cls oF oO : Addr}
theorem h_called (T : Txt w K mg cls oF oO) : Has P w K mg base "called" 1 ["harm", "names"] (SpD 2 g_called) := T.d_called.has fun f fd F => by
  refine fn_D (cls := 0) F sc_called rfl (by decide) fun cdv A outer s H E hr => ?_
  have sc := sc_called
  exact ⟨_, (ss_cons (st_asg (s_form T.forms rfl T.mgF (s_ix (ix_A (hu_of hr)) rs_ix (vv 0) s_int (by intro _ _; rfl)) (by intro _ _; rfl)) (gv 2 sc.nd))
    (ss_one (st_ret (s_op op_addA rs_add (s_tup (a_cons (s_ix (ix_A (hu_of hr)) rs_ix (vv 0) s_int (by intro _ _; rfl)) a_nil)) (s_callTy call_tuple_of cs_tuple rfl T.z_tuple b_tuple (a_cons (s_lc rfl sc.nd (i_zipS rfl T.z_zip (a_cons (s_slice (sl_list.or sl_tupA) sls_A (vv 0) (o_some s_int) o_none) (a_cons (vv 2) a_nil))) (g := (gTup K 2 (gCons (gName 3) (gCons (gName 4) gNil)))) (own := [("part", 3), ("kind", 4)]) (blkOk_by (N := NN_called) (sc := (defScope st_called)) (by decide +kernel)) (fun _ _ _ _ _ => (gt (gs_cons (gv 3 sc.nd) (gs_cons (gv 4 sc.nd) gs_nil)))) (by decide) (fun _ _ _ _ _ => ts_nil) (fun _ _ _ _ _ => (s_if (t_cmp (op_eqD hr.units) rs_eq (vv 4) s_str (nomark _)) (s_ix (ix_A (hu_of hr)) rs_ix (vv 1) (vv 3) (by intro _ _; rfl)) (vv 3)))) a_nil))))))⟩
theorem h_little (T : Txt w K mg cls oF oO) : Has P w K mg base "little" 7 ["harms"] (SpD 1 g_little) := T.d_little.has fun f fd F => by
  refine fn_D (cls := 0) F sc_little rfl (by decide) fun cdv A outer s H E hr => ?_
  have sc := sc_little
  exact ⟨_, (ss_cons (st_asg (s_callTy (call_dictP rfl) cs_dictP rfl T.z_dict b_dict (a_cons (s_lc rfl sc.nd (i_enum rfl T.z_enumerate (a_cons (cl (h_cells_of (base := base) (P := P) T) (hr.mono (by decide)) (a_cons (vv 0) a_nil)) a_nil)) (g := (gTup K 2 (gCons (gName 2) (gCons (gName 3) gNil)))) (own := [("place", 2), ("cell", 3)]) (blkOk_by (N := NN_little) (sc := (defScope st_little)) (by decide +kernel)) (fun _ _ _ _ _ => (gt (gs_cons (gv 2 sc.nd) (gs_cons (gv 3 sc.nd) gs_nil)))) (by decide) (fun _ _ _ _ _ => ts_nil) (fun _ _ _ _ _ => (s_tup (a_cons (vv 3) (a_cons (vv 2) a_nil))))) a_nil)) (gv 1 sc.nd))
    (ss_one (st_ret (s_lc rfl sc.nd (i_list (vv 0)) (own := [("harm", 4)]) (blkOk_by (N := NN_little) (sc := (defScope st_little)) (by decide +kernel)) (fun _ _ _ _ _ => (gv 4 sc.nd)) (by decide) (fun _ _ _ _ _ => ts_nil) (fun _ _ _ _ _ => (cl (h_called (base := base) (P := P) T) (hr.mono (by decide)) (a_cons (vv 4) (a_cons (vv 1) a_nil))))))))⟩
theorem h_placed (T : Txt w K mg cls oF oO) : Has P w K mg base "placed" 7 ["harms", "cells"] (SpD 2 g_placed) := T.d_placed.has fun f fd F => by
  refine fn_D (cls := 0) F sc_placed rfl (by decide) fun cdv A outer s H E hr => ?_
  have sc := sc_placed
  exact ⟨_, (ss_cons (st_asg (s_dictZip rfl rfl T.z_dict rfl T.z_zip (a_cons (cl (h_cells_of (base := base) (P := P) T) (hr.mono (by decide)) (a_cons (vv 0) a_nil)) (a_cons (vv 1) a_nil))) (gv 2 sc.nd))
    (ss_one (st_ret (s_lc rfl sc.nd (i_list (vv 0)) (own := [("harm", 3)]) (blkOk_by (N := NN_placed) (sc := (defScope st_placed)) (by decide +kernel)) (fun _ _ _ _ _ => (gv 3 sc.nd)) (by decide) (fun _ _ _ _ _ => ts_nil) (fun _ _ _ _ _ => (cl (h_called (base := base) (P := P) T) (hr.mono (by decide)) (a_cons (vv 3) (a_cons (vv 2) a_nil))))))))⟩
theorem h_stuck_at (T : Txt w K mg cls oF oO) : Has P w K mg base "stuck_at" 1 ["harms", "cell"] (SpD 2 g_stuck_at) := T.d_stuck_at.has fun f fd F => by
  refine fn_D (cls := 0) F sc_stuck_at rfl (by decide) fun cdv A outer s H E hr => ?_
  have sc := sc_stuck_at
  exact ⟨_, (ss_cons (st_for PassesOwn.never rfl (i_list (vv 0)) (gv 2 sc.nd)
    (ss_one (st_if (SemW.tt (w_and (t_cmp (op_eqD hr.units) rs_eq (s_ix (ix_A (hu_of hr)) rs_ix (vv 2) s_int (by intro _ _; rfl)) s_str (nomark _)) (w_and1 (t_cmp (op_eqD hr.units) rs_eq (s_ix (ix_A (hu_of hr)) rs_ix (vv 2) s_int (by intro _ _; rfl)) (vv 1) (nomark _))))) (ss_one (st_ret (s_ix (ix_A (hu_of hr)) rs_ix (vv 2) s_int (by intro _ _; rfl)))) ss_nil)))
    (ss_one (st_ret s_non)))⟩
theorem h_with_bit (T : Txt w K mg cls oF oO) : Has P w K mg base "with_bit" 2 ["harms", "contents", "cell", "bit"] (SpD 4 g_with_bit) := T.d_with_bit.has fun f fd F => by
  refine fn_D (cls := 0) F sc_with_bit rfl (by decide) fun cdv A outer s H E hr => ?_
  have sc := sc_with_bit
  exact ⟨_, (ss_cons (st_if (t_cmp op_notN rs_isNot (cl (h_stuck_at (base := base) (P := P) T) (hr.mono (by decide)) (a_cons (vv 0) (a_cons (vv 2) a_nil))) s_non (nomark _)) (ss_one (st_ret (vv 1))) ss_nil)
    (ss_one (st_ret (s_op op_addA rs_add (s_op op_addA rs_add (s_slice (sl_list.or sl_tupA) sls_A (vv 1) o_none (o_some (vv 2))) (s_tup (a_cons (vv 3) a_nil))) (s_slice (sl_list.or sl_tupA) sls_A (vv 1) (o_some (s_op op_addA rs_add (vv 2) s_int)) o_none)))))⟩
theorem h_held_at_first (T : Txt w K mg cls oF oO) : Has P w K mg base "held_at_first" 3 ["harms", "contents"] (SpD 2 g_held_at_first) := T.d_held_at_first.has fun f fd F => by
  refine fn_D (cls := 0) F sc_held_at_first rfl (by decide) fun cdv A outer s H E hr => ?_
  have sc := sc_held_at_first
  exact ⟨_, (ss_cons (st_asg (s_callTy call_tuple_of cs_tuple rfl T.z_tuple b_tuple (a_cons (vv 1) a_nil)) (gv 2 sc.nd))
    (ss_cons (st_for PassesOwn.never rfl (i_range1 rfl T.z_range (a_cons (s_callB call_len cs_len rfl T.z_len b_len (a_cons (vv 2) a_nil)) a_nil)) (gv 3 sc.nd)
    (ss_cons (st_asg (cl (h_stuck_at (base := base) (P := P) T) (hr.mono (by decide)) (a_cons (vv 0) (a_cons (vv 3) a_nil))) (gv 4 sc.nd))
    (ss_one (st_if (t_cmp op_notN rs_isNot (vv 4) s_non (nomark _)) (ss_one (st_asg (s_op op_addA rs_add (s_op op_addA rs_add (s_slice (sl_list.or sl_tupA) sls_A (vv 2) o_none (o_some (vv 3))) (s_tup (a_cons (vv 4) a_nil))) (s_slice (sl_list.or sl_tupA) sls_A (vv 2) (o_some (s_op op_addA rs_add (vv 3) s_int)) o_none)) (gv 2 sc.nd))) ss_nil))))
    (ss_cons (st_for PassesOwn.never rfl (i_list (vv 0)) (gv 5 sc.nd)
    (ss_one (st_if (SemW.tt (w_and (t_cmp (op_eqD hr.units) rs_eq (s_ix (ix_A (hu_of hr)) rs_ix (vv 5) s_int (by intro _ _; rfl)) s_str (nomark _)) (w_and1 (t_cmp (op_eqD hr.units) rs_eq (s_ix (ix_A (hu_of hr)) rs_ix (vv 2) (s_ix (ix_A (hu_of hr)) rs_ix (vv 5) s_int (by intro _ _; rfl)) (by intro _ _; rfl)) (s_ix (ix_A (hu_of hr)) rs_ix (vv 5) s_int (by intro _ _; rfl)) (nomark _))))) (ss_one (st_asg (cl (h_with_bit (base := base) (P := P) T) (hr.mono (by decide)) (a_cons (vv 0) (a_cons (vv 2) (a_cons (s_ix (ix_A (hu_of hr)) rs_ix (vv 5) s_int (by intro _ _; rfl)) (a_cons (s_ix (ix_A (hu_of hr)) rs_ix (vv 5) s_int (by intro _ _; rfl)) a_nil))))) (gv 2 sc.nd))) ss_nil)))
    (ss_one (st_ret (vv 2))))))⟩
theorem h_address_harm (T : Txt w K mg cls oF oO) : Has P w K mg base "address_harm" 1 ["harms", "address"] (SpD 2 g_address_harm) := T.d_address_harm.has fun f fd F => by
  refine fn_D (cls := 0) F sc_address_harm rfl (by decide) fun cdv A outer s H E hr => ?_
  have sc := sc_address_harm
  exact ⟨_, (ss_cons (st_for PassesOwn.never rfl (i_list (vv 0)) (gv 2 sc.nd)
    (ss_one (st_if (SemW.tt (w_and (t_cmp (op_inA (hu65 hr)) rs_in (s_ix (ix_A (hu_of hr)) rs_ix (vv 2) s_int (by intro _ _; rfl)) (s_tup (a_cons s_str (a_cons s_str (a_cons s_str a_nil)))) rfl) (w_and1 (t_cmp (op_eqD hr.units) rs_eq (s_ix (ix_A (hu_of hr)) rs_ix (vv 2) s_int (by intro _ _; rfl)) (vv 1) (nomark _))))) (ss_one (st_ret (vv 2))) ss_nil)))
    (ss_one (st_ret s_non)))⟩
theorem h_reached (T : Txt w K mg cls oF oO) : Has P w K mg base "reached" 1 ["harm", "address"] (SpD 2 g_reached) := T.d_reached.has fun f fd F => by
  refine fn_D (cls := 0) F sc_reached rfl (by decide) fun cdv A outer s H E hr => ?_
  have sc := sc_reached
  exact ⟨_, (ss_cons (st_if (t_cmp op_isN rs_is (vv 0) s_non (nomark _)) (ss_one (st_ret (s_lst (a_cons (vv 1) a_nil)))) ss_nil)
    (ss_cons (st_if (t_cmp (op_eqD hr.units) rs_eq (s_ix (ix_A (hu_of hr)) rs_ix (vv 0) s_int (by intro _ _; rfl)) s_str (nomark _)) (ss_one (st_ret (s_lst a_nil))) ss_nil)
    (ss_cons (st_if (t_cmp (op_eqD hr.units) rs_eq (s_ix (ix_A (hu_of hr)) rs_ix (vv 0) s_int (by intro _ _; rfl)) s_str (nomark _)) (ss_one (st_ret (s_lst (a_cons (s_ix (ix_A (hu_of hr)) rs_ix (vv 0) s_int (by intro _ _; rfl)) a_nil)))) ss_nil)
    (ss_one (st_ret (s_lst (a_cons (vv 1) (a_cons (s_ix (ix_A (hu_of hr)) rs_ix (vv 0) s_int (by intro _ _; rfl)) a_nil))))))))⟩
theorem h_coming (T : Txt w K mg cls oF oO) : Has P w K mg base "coming" 1 ["harms", "contents", "cell", "bit"] (SpD 4 g_coming) := T.d_coming.has fun f fd F => by
  refine fn_D (cls := 0) F sc_coming rfl (by decide) fun cdv A outer s H E hr => ?_
  have sc := sc_coming
  exact ⟨_, (ss_cons (st_if (SemW.tt (w_and (t_cmp (op_neD hr.units) rs_ne (s_ix (ix_A (hu_of hr)) rs_ix (vv 1) (vv 2) (by intro _ _; rfl)) (vv 3) (nomark _)) (w_and1 (t_cmp (op_inA (hu65 hr)) rs_in (s_tup (a_cons s_str (a_cons (vv 2) (a_cons (vv 3) a_nil)))) (vv 0) rfl)))) (ss_one (st_ret (s_ix (ix_A (hu_of hr)) rs_ix (vv 1) (vv 2) (by intro _ _; rfl)))) ss_nil)
    (ss_cons (st_for PassesOwn.never rfl (i_list (vv 0)) (gv 4 sc.nd)
    (ss_one (st_if (SemW.tt (w_and (t_cmp (op_eqD hr.units) rs_eq (s_ix (ix_A (hu_of hr)) rs_ix (vv 4) s_int (by intro _ _; rfl)) s_str (nomark _)) (w_and (t_cmp (op_eqD hr.units) rs_eq (s_ix (ix_A (hu_of hr)) rs_ix (vv 4) s_int (by intro _ _; rfl)) (vv 2) (nomark _)) (w_and1 (t_cmp (op_eqD hr.units) rs_eq (s_ix (ix_A (hu_of hr)) rs_ix (vv 1) (s_ix (ix_A (hu_of hr)) rs_ix (vv 4) s_int (by intro _ _; rfl)) (by intro _ _; rfl)) (s_ix (ix_A (hu_of hr)) rs_ix (vv 4) s_int (by intro _ _; rfl)) (nomark _)))))) (ss_one (st_ret (s_ix (ix_A (hu_of hr)) rs_ix (vv 4) s_int (by intro _ _; rfl)))) ss_nil)))
    (ss_one (st_ret (vv 3)))))⟩
theorem h_written (T : Txt w K mg cls oF oO) : Has P w K mg base "written" 3 ["harms", "contents", "cell", "bit"] (SpD 4 g_written) := T.d_written.has fun f fd F => by
  refine fn_D (cls := 0) F sc_written rfl (by decide) fun cdv A outer s H E hr => ?_
  have sc := sc_written
  exact ⟨_, (ss_cons (st_asg (cl (h_with_bit (base := base) (P := P) T) (hr.mono (by decide)) (a_cons (vv 0) (a_cons (vv 1) (a_cons (vv 2) (a_cons (cl (h_coming (base := base) (P := P) T) (hr.mono (by decide)) (a_cons (vv 0) (a_cons (vv 1) (a_cons (vv 2) (a_cons (vv 3) a_nil))))) a_nil))))) (gv 4 sc.nd))
    (ss_cons (st_if (t_cmp (op_eqD hr.units) rs_eq (vv 4) (vv 1) (nomark _)) (ss_one (st_ret (vv 1))) ss_nil)
    (ss_cons (st_for PassesOwn.never rfl (i_list (vv 0)) (gv 5 sc.nd)
    (ss_one (st_if (SemW.tt (w_and (t_cmp (op_inA (hu65 hr)) rs_in (s_ix (ix_A (hu_of hr)) rs_ix (vv 5) s_int (by intro _ _; rfl)) (s_tup (a_cons s_str (a_cons s_str (a_cons s_str a_nil)))) rfl) (w_and (t_cmp (op_eqD hr.units) rs_eq (s_ix (ix_A (hu_of hr)) rs_ix (vv 5) s_int (by intro _ _; rfl)) (vv 2) (nomark _)) (w_and1 (t_cmp (op_eqD hr.units) rs_eq (s_ix (ix_A (hu_of hr)) rs_ix (vv 5) s_int (by intro _ _; rfl)) (s_ix (ix_A (hu_of hr)) rs_ix (vv 4) (vv 2) (by intro _ _; rfl)) (nomark _)))))) (ss_cons (st_asg (s_op op_sub rs_sub s_int (s_ix (ix_A (hu_of hr)) rs_ix (vv 4) (s_ix (ix_A (hu_of hr)) rs_ix (vv 5) s_int (by intro _ _; rfl)) (by intro _ _; rfl))) (gv 6 sc.nd))
    (ss_cons (st_if (t_cmp (op_neD hr.units) rs_ne (s_ix (ix_A (hu_of hr)) rs_ix (vv 5) s_int (by intro _ _; rfl)) s_str (nomark _)) (ss_one (st_asg (s_ix (ix_A (hu_of hr)) rs_ix (vv 5) s_int (by intro _ _; rfl)) (gv 6 sc.nd))) ss_nil)
    (ss_one (st_asg (cl (h_with_bit (base := base) (P := P) T) (hr.mono (by decide)) (a_cons (vv 0) (a_cons (vv 4) (a_cons (s_ix (ix_A (hu_of hr)) rs_ix (vv 5) s_int (by intro _ _; rfl)) (a_cons (vv 6) a_nil))))) (gv 4 sc.nd))))) ss_nil)))
    (ss_one (st_ret (vv 4))))))⟩
theorem h_was_read (T : Txt w K mg cls oF oO) : Has P w K mg base "was_read" 3 ["harms", "contents", "cell"] (SpD 3 g_was_read) := T.d_was_read.has fun f fd F => by
  refine fn_D (cls := 0) F sc_was_read rfl (by decide) fun cdv A outer s H E hr => ?_
  have sc := sc_was_read
  exact ⟨_, (ss_cons (st_asg (s_ix (ix_A (hu_of hr)) rs_ix (vv 1) (vv 2) (by intro _ _; rfl)) (gv 3 sc.nd))
    (ss_cons (st_for PassesOwn.never rfl (i_list (vv 0)) (gv 4 sc.nd)
    (ss_one (st_if (SemW.tt (w_and (t_cmp (op_inA (hu65 hr)) rs_in (s_ix (ix_A (hu_of hr)) rs_ix (vv 4) s_int (by intro _ _; rfl)) (s_tup (a_cons s_str (a_cons s_str a_nil))) rfl) (w_and (t_cmp (op_eqD hr.units) rs_eq (s_ix (ix_A (hu_of hr)) rs_ix (vv 4) s_int (by intro _ _; rfl)) (vv 2) (nomark _)) (w_and1 (t_cmp (op_eqD hr.units) rs_eq (s_ix (ix_A (hu_of hr)) rs_ix (vv 4) s_int (by intro _ _; rfl)) (vv 3) (nomark _)))))) (ss_cons (st_asg (cl (h_with_bit (base := base) (P := P) T) (hr.mono (by decide)) (a_cons (vv 0) (a_cons (vv 1) (a_cons (vv 2) (a_cons (s_op op_sub rs_sub s_int (vv 3)) a_nil))))) (gv 5 sc.nd))
    (ss_cons (st_if (t_cmp (op_eqD hr.units) rs_eq (s_ix (ix_A (hu_of hr)) rs_ix (vv 4) s_int (by intro _ _; rfl)) s_str (nomark _)) (ss_one (st_ret (s_tup (a_cons (vv 5) (a_cons (vv 3) a_nil))))) ss_nil)
    (ss_one (st_ret (s_tup (a_cons (vv 5) (a_cons (s_ix (ix_A (hu_of hr)) rs_ix (vv 5) (vv 2) (by intro _ _; rfl)) a_nil))))))) ss_nil)))
    (ss_one (st_ret (s_tup (a_cons (vv 1) (a_cons (vv 3) a_nil)))))))⟩
theorem h_read_bit (T : Txt w K mg cls oF oO) : Has P w K mg base "read_bit" 1 ["harm", "bits"] (SpD 2 g_read_bit) := T.d_read_bit.has fun f fd F => by
  refine fn_D (cls := 0) F sc_read_bit rfl (by decide) fun cdv A outer s H E hr => ?_
  have sc := sc_read_bit
  exact ⟨_, (ss_cons (st_if (t_cmp (op_eqD hr.units) rs_eq (vv 1) (s_lst a_nil) (nomark _)) (ss_one (st_ret (s_ix (ix_A (hu_of hr)) rs_ix (vv 0) s_int (by intro _ _; rfl)))) ss_nil)
    (ss_cons (st_if (t_cmp (op_eqD hr.units) rs_eq (s_callB call_len cs_len rfl T.z_len b_len (a_cons (vv 1) a_nil)) s_int (nomark _)) (ss_one (st_ret (s_ix (ix_A (hu_of hr)) rs_ix (vv 1) s_int (by intro _ _; rfl)))) ss_nil)
    (ss_cons (st_if (t_cmp (op_eqD hr.units) rs_eq (s_ix (ix_A (hu_of hr)) rs_ix (vv 0) s_int (by intro _ _; rfl)) s_str (nomark _)) (ss_one (st_ret (s_callB (cr_minA rfl) cs_min rfl T.z_min b_min (a_cons (vv 1) a_nil)))) ss_nil)
    (ss_one (st_ret (s_callB (cr_maxA rfl) cs_max rfl T.z_max b_max (a_cons (vv 1) a_nil)))))))⟩
theorem h_acted (T : Txt w K mg cls oF oO) : Has P w K mg base "acted" 4 ["harms", "contents", "address", "step"] (SpD 4 g_acted) := T.d_acted.has fun f fd F => by
  refine fn_D (cls := 0) F sc_acted rfl (by decide) fun cdv A outer s H E hr => ?_
  have sc := sc_acted
  exact ⟨_, (ss_cons (st_asg (cl (h_address_harm (base := base) (P := P) T) (hr.mono (by decide)) (a_cons (vv 0) (a_cons (vv 2) a_nil))) (gv 4 sc.nd))
    (ss_cons (newL (gn 5 sc.nd) sc.nd)
    (ss_cons (st_for PassesOwn.never rfl (i_list (cl (h_reached (base := base) (P := P) T) (hr.mono (by decide)) (a_cons (vv 4) (a_cons (vv 2) a_nil)))) (gv 6 sc.nd)
    (ss_one (st_if (t_cmp (op_eqD hr.units) rs_eq (s_ix (ix_A (hu_of hr)) rs_ix (vv 3) s_int (by intro _ _; rfl)) s_str (nomark _)) (ss_one (st_asg (cl (h_written (base := base) (P := P) T) (hr.mono (by decide)) (a_cons (vv 0) (a_cons (vv 1) (a_cons (vv 6) (a_cons (s_ix (ix_A (hu_of hr)) rs_ix (vv 3) s_int (by intro _ _; rfl)) a_nil))))) (gv 1 sc.nd))) (ss_cons (st_asg (cl (h_was_read (base := base) (P := P) T) (hr.mono (by decide)) (a_cons (vv 0) (a_cons (vv 1) (a_cons (vv 6) a_nil)))) (gt (gs_cons (gv 1 sc.nd) (gs_cons (gv 7 sc.nd) gs_nil))))
    (ss_one (app 5 (pv 5) (vv 7)))))))
    (ss_cons (st_if (t_cmp (op_eqD hr.units) rs_eq (s_ix (ix_A (hu_of hr)) rs_ix (vv 3) s_int (by intro _ _; rfl)) s_str (nomark _)) (ss_one (st_ret (s_tup (a_cons (vv 1) (a_cons s_non a_nil))))) ss_nil)
    (ss_one (st_ret (s_tup (a_cons (vv 1) (a_cons (cl (h_read_bit (base := base) (P := P) T) (hr.mono (by decide)) (a_cons (vv 4) (a_cons (vv 5) a_nil))) a_nil)))))))))⟩
end
end Tm

namespace Tm
open PySem L2
section
variable {P : Program} {w : World} {K : PySem.W.Frag} {mg : Str → Option Value} {base : Heap} {cls oF oO : Addr}
theorem h_look_at_memory (T : Txt w K mg cls oF oO) : Has P w K mg base "look_at_memory" 6 ["size", "harms", "contents"] (SpD 3 g_look_at_memory) := T.d_look_at_memory.has fun f fd F => by
  refine fn_D (cls := 0) F sc_look_at_memory rfl (by decide) fun cdv A outer s H E hr => ?_
  have sc := sc_look_at_memory
  exact ⟨_, (ss_cons (st_expr (cl (h_look_at_harms (base := base) (P := P) T) (hr.mono (by decide)) (a_cons (vv 1) a_nil)))
    (ss_cons (st_if (SemW.tt (w_or (t_not (t_val (cl (h_is_whole (base := base) (P := P) T) (hr.mono (by decide)) (a_cons (vv 0) a_nil)))) (w_or1 (t_not (t_chain op_le op_le rs_le rs_le s_int (vv 0) (sgi T.i_MOST_SIZE)))))) ss_never ss_nil)
    (ss_cons (st_if (t_not (t_val (s_callB (cr_all rfl) cs_all rfl T.z_all b_all (a_cons (s_lc rfl sc.nd (i_list (cl (h_cells_among (base := base) (P := P) T) (hr.mono (by decide)) (a_cons (vv 1) a_nil))) (own := [("cell", 3)]) (blkOk_by (N := NN_look_at_memory) (sc := (defScope st_look_at_memory)) (by decide +kernel)) (fun _ _ _ _ _ => (gv 3 sc.nd)) (by decide) (fun _ _ _ _ _ => ts_nil) (fun _ _ _ _ _ => (s_cmp op_lt rs_lt (vv 3) (vv 0) (nomark _)))) a_nil)))) ss_never ss_nil)
    (ss_one (st_if (SemW.tt (w_or (t_not (t_val (s_isi rfl T.z_isinstance rfl T.z_list b_list tab_list (vv 2)))) (w_or (t_cmp (op_neD hr.units) rs_ne (s_callB call_len cs_len rfl T.z_len b_len (a_cons (vv 2) a_nil)) (vv 0) (nomark _)) (w_or1 (t_not (t_val (s_callB (cr_all rfl) cs_all rfl T.z_all b_all (a_cons (s_lc rfl sc.nd (i_list (vv 2)) (own := [("bit", 4)]) (blkOk_by (N := NN_look_at_memory) (sc := (defScope st_look_at_memory)) (by decide +kernel)) (fun _ _ _ _ _ => (gv 4 sc.nd)) (by decide) (fun _ _ _ _ _ => ts_nil) (fun _ _ _ _ _ => (cl (h_is_bit (base := base) (P := P) T) (hr.mono (by decide)) (a_cons (vv 4) a_nil)))) a_nil)))))))) ss_never ss_nil)))))⟩
theorem h_m_init (T : Txt w K mg cls oF oO) : MHas P w K mg base cls "__init__" 7 ["self", "size", "harms", "contents"] (SpM cls 0 4 g_m_init) := T.d_m_init.has fun f fd F => by
  refine fnM_D (j := 0) F sc_m_init rfl (by decide) fun C cdv A outer s H E hC hr => ?_
  have sc := sc_m_init
  exact ⟨_, (ss_cons (st_expr (cl (h_look_at_memory (base := base) (P := P) T) (hr.mono (by decide)) (a_cons (vv 1) (a_cons (vv 2) (a_cons (vv 3) a_nil)))))
    (ss_cons (st_fldset hC (pv 0) T.cl_ T.n_flaws (s_callTy call_list_of cs_list rfl T.z_list b_list (a_cons (vv 2) a_nil)))
    (ss_one (st_fldset hC (pv 0) T.cl_ T.n_held (cl (h_held_at_first (base := base) (P := P) T) (hr.mono (by decide)) (a_cons (s_fld hC (pv 0) T.cl_ T.n_flaws) (a_cons (vv 3) a_nil)))))))⟩
theorem h_m_look_at_address (T : Txt w K mg cls oF oO) : MHas P w K mg base cls "look_at_address" 2 ["self", "address"] (SpM cls 0 2 g_m_look_at_address) := T.d_m_look_at_address.has fun f fd F => by
  refine fnM_D (j := 0) F sc_m_look_at_address rfl (by decide) fun C cdv A outer s H E hC hr => ?_
  have sc := sc_m_look_at_address
  exact ⟨_, (ss_one (st_if (SemW.tt (w_or (t_not (t_val (cl (h_is_whole (base := base) (P := P) T) (hr.mono (by decide)) (a_cons (vv 1) a_nil)))) (w_or1 (t_not (t_chain op_le op_lt rs_le rs_lt s_int (vv 1) (s_callB call_len cs_len rfl T.z_len b_len (a_cons (s_fld hC (pv 0) T.cl_ T.n_held) a_nil))))))) ss_never ss_nil))⟩
theorem h_m_read (T : Txt w K mg cls oF oO) : MHas P w K mg base cls "read" 5 ["self", "address"] (SpM cls 0 2 g_m_read) := T.d_m_read.has fun f fd F => by
  refine fnM_D (j := 0) F sc_m_read rfl (by decide) fun C cdv A outer s H E hC hr => ?_
  have sc := sc_m_read
  exact ⟨_, (ss_cons (st_exprX (xm (h_m_look_at_address (base := base) (P := P) T) hC T.cl_ (pv 0) (hr.mono (by decide)) (a_cons (vv 1) a_nil)))
    (ss_cons (st_fldT hC rfl (pv 0) T.cl_ T.n_held (gn 2 sc.nd) (cl (h_acted (base := base) (P := P) T) (hr.mono (by decide)) (a_cons (s_fld hC (pv 0) T.cl_ T.n_flaws) (a_cons (s_fld hC (pv 0) T.cl_ T.n_held) (a_cons (vv 1) (a_cons (s_tup (a_cons s_str (a_cons s_int a_nil))) a_nil))))))
    (ss_one (st_rets (vv 2)))))⟩
theorem h_m_write (T : Txt w K mg cls oF oO) : MHas P w K mg base cls "write" 5 ["self", "address", "bit"] (SpM cls 0 3 g_m_write) := T.d_m_write.has fun f fd F => by
  refine fnM_D (j := 0) F sc_m_write rfl (by decide) fun C cdv A outer s H E hC hr => ?_
  have sc := sc_m_write
  exact ⟨_, (ss_cons (st_exprX (xm (h_m_look_at_address (base := base) (P := P) T) hC T.cl_ (pv 0) (hr.mono (by decide)) (a_cons (vv 1) a_nil)))
    (ss_cons (st_if (t_not (t_val (cl (h_is_bit (base := base) (P := P) T) (hr.mono (by decide)) (a_cons (vv 2) a_nil)))) ss_never ss_nil)
    (ss_one (st_fldT hC rfl (pv 0) T.cl_ T.n_held (gn 3 sc.nd) (cl (h_acted (base := base) (P := P) T) (hr.mono (by decide)) (a_cons (s_fld hC (pv 0) T.cl_ T.n_flaws) (a_cons (s_fld hC (pv 0) T.cl_ T.n_held) (a_cons (vv 1) (a_cons (s_tup (a_cons s_str (a_cons (vv 2) a_nil))) a_nil)))))))))⟩
theorem h_m_size (T : Txt w K mg cls oF oO) : MHas P w K mg base cls "size" 1 ["self"] (SpSz cls) := T.d_m_size.has fun f fd F => by
  refine F.ok sc_m_size (fun vs H Q E h => ?_) (fun cdv A outer s H vs Q E hr h => ?_)
  · obtain ⟨p, dx, vfs, a, xs, rfl, _⟩ := h
    rfl
  · obtain ⟨p, dx, vfs, a, xs, rfl, h1, h2, h3, q⟩ := h
    exact ⟨_, pss_one (ps_ret (pe_callB call_len_seq rfl T.z_len b_len (pa_cons (pe_fld (pv 0) rfl) pa_nil))), _, rfl, p, cls, dx, vfs, _, rfl, h1, T.cl_, T.n_held, h2, a, xs, rfl, .inr (SqT.of h3), q⟩
theorem h_look_at_orders (T : Txt w K mg cls oF oO) : Has P w K mg base "look_at_orders" 1 ["test", "thing"] (SpD 2 g_look_at_orders) := T.d_look_at_orders.has fun f fd F => by
  refine fn_D (cls := 0) F sc_look_at_orders rfl (by decide) fun cdv A outer s H E hr => ?_
  have sc := sc_look_at_orders
  exact ⟨_, (ss_cons (st_if (SemW.tt (w_or (t_not (t_val (s_isi rfl T.z_isinstance rfl T.z_list b_list tab_list (vv 1)))) (w_or1 (t_cmp (op_neD hr.units) rs_ne (s_callB call_len cs_len rfl T.z_len b_len (a_cons (vv 1) a_nil)) (s_callB call_len cs_len rfl T.z_len b_len (a_cons (vv 0) a_nil)) (nomark _))))) ss_never ss_nil)
    (ss_one (st_for PassesOwn.never rfl (i_zip rfl T.z_zip (a_cons (vv 1) (a_cons (vv 0) a_nil))) (gt (gs_cons (gv 2 sc.nd) (gs_cons (gt (gs_cons (gv 3 sc.nd) (gs_cons (gv 4 sc.nd) gs_nil))) gs_nil)))
    (ss_one (st_if (SemW.tt (w_or (t_not (t_val (s_isi rfl T.z_isinstance rfl T.z_str b_str tab_str (vv 2)))) (w_or (t_cmp (op_ninA (hu65 hr)) rs_nin (vv 2) (s_tup (a_cons s_str (a_cons s_str a_nil))) rfl) (w_or1 (t_cmp (op_ninA (hu65 hr)) rs_nin (vv 3) (s_tup (a_cons s_str (a_cons (vv 2) a_nil))) rfl))))) ss_never ss_nil)))))⟩
theorem h_in_order (T : Txt w K mg cls oF oO) : Has P w K mg base "in_order" 1 ["size", "order"] (SpD 2 g_in_order) := T.d_in_order.has fun f fd F => by
  refine fn_D (cls := 0) F sc_in_order rfl (by decide) fun cdv A outer s H E hr => ?_
  have sc := sc_in_order
  exact ⟨_, (ss_cons (st_if (t_cmp (op_eqD hr.units) rs_eq (vv 1) s_str (nomark _)) (ss_one (st_ret (s_listR rfl rfl T.z_list rfl T.z_range (vv 0)))) ss_nil)
    (ss_one (st_ret (s_listDn rfl rfl T.z_list rfl T.z_range (a_cons (s_op op_sub rs_sub (vv 0) s_int) (a_cons (s_un un_neg rs_neg s_int) (a_cons (s_un un_neg rs_neg s_int) a_nil)))))))⟩
theorem h_done_on (T : Txt w K mg cls oF oO) : Has P w K mg base "done_on" 6 ["memory", "address", "step"] (SpM cls 0 3 g_done_on) := T.d_done_on.has fun f fd F => by
  refine fnM_D (j := 0) F sc_done_on rfl (by decide) fun C cdv A outer s H E hC hr => ?_
  have sc := sc_done_on
  exact ⟨_, (ss_cons (st_if (t_cmp (op_eqD hr.units) rs_eq (s_ix (ix_A (hu_of hr)) rs_ix (vv 2) s_int (by intro _ _; rfl)) s_str (nomark _)) (ss_one (st_retX (xm (h_m_read (base := base) (P := P) T) hC T.cl_ (pv 0) (hr.mono (by decide)) (a_cons (vv 1) a_nil)))) ss_nil)
    (ss_cons (st_exprX (xm (h_m_write (base := base) (P := P) T) hC T.cl_ (pv 0) (hr.mono (by decide)) (a_cons (vv 1) (a_cons (s_ix (ix_A (hu_of hr)) rs_ix (vv 2) s_int (by intro _ _; rfl)) a_nil))))
    (ss_one (st_rets s_non))))⟩
theorem h_all_reads (T : Txt w K mg cls oF oO) : Has P w K mg base "all_reads" 7 ["test", "memory", "orders"] (SpM cls 1 3 g_all_reads) := T.d_all_reads.has fun f fd F => by
  refine fnM_D (j := 1) F sc_all_reads rfl (by decide) fun C cdv A outer s H E hC hr => ?_
  have sc := sc_all_reads
  exact ⟨_, (ss_cons (newL (gn 3 sc.nd) sc.nd)
    (ss_cons (st_for PassesOwn.never rfl (i_enum rfl T.z_enumerate (a_cons (vv 0) a_nil)) (gt (gs_cons (gv 4 sc.nd) (gs_cons (gt (gs_cons (gv 5 sc.nd) (gs_cons (gv 6 sc.nd) gs_nil))) gs_nil)))
    (ss_one (st_for PassesOwn.never rfl (i_list (cl (h_in_order (base := base) (P := P) T) (hr.mono (by decide)) (a_cons (sz (h_m_size (base := base) (P := P) T) hC T.cl_ (pv 1) (hr.mono (by decide))) (a_cons (s_ix (ix_A (hu_of hr)) rs_ix (vv 2) (vv 4) (by intro _ _; rfl)) a_nil)))) (gv 7 sc.nd)
    (ss_one (st_for PassesOwn.never rfl (i_enum rfl T.z_enumerate (a_cons (vv 6) a_nil)) (gt (gs_cons (gv 8 sc.nd) (gs_cons (gv 9 sc.nd) gs_nil)))
    (ss_cons (st_asgX (xc (h_done_on (base := base) (P := P) T) hC (hr.mono (by decide)) (am_here (pv 1) (a_cons (vv 7) (a_cons (vv 9) a_nil)))) (gv 10 sc.nd))
    (ss_one (st_if (t_cmp op_notN rs_isNot (vv 10) s_non (nomark _)) (ss_one (app 3 (pv 3) (s_tup (a_cons (vv 4) (a_cons (vv 7) (a_cons (vv 8) (a_cons (vv 10) a_nil))))))) ss_nil))))))))
    (ss_one (SemS.pro1 3 (st_rets (vv 3))))))⟩
theorem h_reads_of (T : Txt w K mg cls oF oO) : Has P w K mg base "reads_of" 9 ["test", "size", "harms", "contents", "orders"] (SpD 5 g_reads_of) := T.d_reads_of.has fun f fd F => by
  refine fn_D (cls := cls) F sc_reads_of rfl (by decide) fun cdv A outer s H E hr => ?_
  have sc := sc_reads_of
  have hC : (CA.mk cls none) = ⟨cls, none⟩ := rfl
  exact ⟨_, (ss_cons (st_expr (cl (h_look_at_test (base := base) (P := P) T) (hr.mono (by decide)) (a_cons (vv 0) a_nil)))
    (ss_cons (mk (h_m_init (base := base) (P := P) T) hC T.mgC T.mkC T.kpC (hr.mono (by decide)) (a_cons (vv 1) (a_cons (vv 2) (a_cons (vv 3) a_nil))) (gn 5 sc.nd))
    (ss_cons (st_expr (cl (h_look_at_orders (base := base) (P := P) T) (hr.mono (by decide)) (a_cons (vv 0) (a_cons (vv 4) a_nil))))
    (ss_one (st_retX (xc (h_all_reads (base := base) (P := P) T) rfl (hr.mono (by decide)) (am_cons (vv 0) (am_here (pv 5) (a_cons (vv 4) a_nil)))))))))⟩
theorem h_first_shown (T : Txt w K mg cls oF oO) : Has P w K mg base "first_shown" 10 ["test", "size", "harms", "contents", "orders"] (SpD 5 g_first_shown) := T.d_first_shown.has fun f fd F => by
  refine fn_D (cls := 0) F sc_first_shown rfl (by decide) fun cdv A outer s H E hr => ?_
  have sc := sc_first_shown
  exact ⟨_, (ss_cons (st_for PassesOwn.never rfl (i_list (cl (h_reads_of (base := base) (P := P) T) (hr.mono (by decide)) (a_cons (vv 0) (a_cons (vv 1) (a_cons (vv 2) (a_cons (vv 3) (a_cons (vv 4) a_nil))))))) (gt (gs_cons (gv 5 sc.nd) (gs_cons (gv 6 sc.nd) (gs_cons (gv 7 sc.nd) (gs_cons (gv 8 sc.nd) gs_nil)))))
    (ss_one (st_if (t_cmp (op_neD hr.units) rs_ne (vv 8) (s_ix (ix_A (hu_of hr)) rs_ix (s_ix (ix_A (hu_of hr)) rs_ix (s_ix (ix_A (hu_of hr)) rs_ix (s_ix (ix_A (hu_of hr)) rs_ix (vv 0) (vv 5) (by intro _ _; rfl)) s_int (by intro _ _; rfl)) (vv 7) (by intro _ _; rfl)) s_int (by intro _ _; rfl)) (nomark _)) (ss_one (st_ret (s_tup (a_cons (vv 5) (a_cons (vv 6) (a_cons (vv 7) a_nil)))))) ss_nil)))
    (ss_one (st_ret s_non)))⟩
end
end Tm

namespace Tm
open PySem L2
section
variable {P : Program} {w : World} {K : PySem.W.Frag} {mg : Str → Option Value} {base : Heap} {cls oF oO : Addr}
theorem h_look_at_judged (T : Txt w K mg cls oF oO) : Has P w K mg base "look_at_judged" 6 ["test", "harms"] (SpD 2 g_look_at_judged) := T.d_look_at_judged.has fun f fd F => by
  refine fn_D (cls := 0) F sc_look_at_judged rfl (by decide) fun cdv A outer s H E hr => ?_
  have sc := sc_look_at_judged
  exact ⟨_, (ss_cons (st_expr (cl (h_look_at_test (base := base) (P := P) T) (hr.mono (by decide)) (a_cons (vv 0) a_nil)))
    (ss_cons (st_expr (cl (h_look_at_harms (base := base) (P := P) T) (hr.mono (by decide)) (a_cons (vv 1) a_nil)))
    (ss_cons (st_if (t_not (t_val (cl (h_is_sure (base := base) (P := P) T) (hr.mono (by decide)) (a_cons (vv 0) a_nil)))) ss_never ss_nil)
    (ss_one (st_if (t_cmp (op_eqD hr.units) rs_eq (vv 1) (s_lst a_nil) (nomark _)) ss_never ss_nil)))))⟩
theorem h_all_contents (T : Txt w K mg cls oF oO) : Has P w K mg base "all_contents" 1 ["many"] (SpD 1 g_all_contents) := T.d_all_contents.has fun f fd F => by
  refine fn_D (cls := 0) F sc_all_contents rfl (by decide) fun cdv A outer s H E hr => ?_
  have sc := sc_all_contents
  exact ⟨_, (ss_cons (st_asg (s_lst (a_cons (s_tup a_nil) a_nil)) (gv 1 sc.nd))
    (ss_cons (st_for PassesOwn.never rfl (i_range1 rfl T.z_range (a_cons (vv 0) a_nil)) (gv 2 sc.nd)
    (ss_one (st_asg (s_op op_addA rs_add (s_lc rfl sc.nd (i_list (vv 1)) (own := [("contents", 3)]) (blkOk_by (N := NN_all_contents) (sc := (defScope st_all_contents)) (by decide +kernel)) (fun _ _ _ _ _ => (gv 3 sc.nd)) (by decide) (fun _ _ _ _ _ => ts_nil) (fun _ _ _ _ _ => (s_op op_addA rs_add (vv 3) (s_tup (a_cons s_int a_nil))))) (s_lc rfl sc.nd (i_list (vv 1)) (own := [("contents", 3)]) (blkOk_by (N := NN_all_contents) (sc := (defScope st_all_contents)) (by decide +kernel)) (fun _ _ _ _ _ => (gv 3 sc.nd)) (by decide) (fun _ _ _ _ _ => ts_nil) (fun _ _ _ _ _ => (s_op op_addA rs_add (vv 3) (s_tup (a_cons s_int a_nil)))))) (gv 1 sc.nd))))
    (ss_one (st_ret (s_callBs (cr_sortA rfl) cs_sorted rfl T.z_sorted b_sorted (a_cons (vv 1) a_nil))))))⟩
theorem h_steps_done (T : Txt w K mg cls oF oO) : Has P w K mg base "steps_done" 2 ["many", "element", "order"] (SpD 3 g_steps_done) := T.d_steps_done.has fun f fd F => by
  refine fn_D (cls := 0) F sc_steps_done rfl (by decide) fun cdv A outer s H E hr => ?_
  have sc := sc_steps_done
  exact ⟨_, (ss_cons (newL (gn 3 sc.nd) sc.nd)
    (ss_cons (st_for PassesOwn.never rfl (i_list (cl (h_in_order (base := base) (P := P) T) (hr.mono (by decide)) (a_cons (vv 0) (a_cons (vv 2) a_nil)))) (gv 4 sc.nd)
    (ss_one (ext 3 (pv 3) (s_lc rfl sc.nd (i_list (s_ix (ix_A (hu_of hr)) rs_ix (vv 1) s_int (by intro _ _; rfl))) (own := [("step", 5)]) (blkOk_by (N := NN_steps_done) (sc := (defScope st_steps_done)) (by decide +kernel)) (fun _ _ _ _ _ => (gv 5 sc.nd)) (by decide) (fun _ _ _ _ _ => ts_nil) (fun _ _ _ _ _ => (s_tup (a_cons (vv 4) (a_cons (vv 5) a_nil))))))))
    (ss_one (st_ret (vv 3)))))⟩
theorem h_orders_for (T : Txt w K mg cls oF oO) : Has P w K mg base "orders_for" 1 ["element"] (SpD 1 g_orders_for) := T.d_orders_for.has fun f fd F => by
  refine fn_D (cls := 0) F sc_orders_for rfl (by decide) fun cdv A outer s H E hr => ?_
  have sc := sc_orders_for
  exact ⟨_, (ss_cons (st_if (t_cmp (op_eqD hr.units) rs_eq (s_ix (ix_A (hu_of hr)) rs_ix (vv 0) s_int (by intro _ _; rfl)) s_str (nomark _)) (ss_one (st_ret (s_lst (a_cons s_str (a_cons s_str a_nil))))) ss_nil)
    (ss_one (st_ret (s_lst (a_cons (s_ix (ix_A (hu_of hr)) rs_ix (vv 0) s_int (by intro _ _; rfl)) a_nil)))))⟩
theorem h_beyond (T : Txt w K mg cls oF oO) : Has P w K mg base "beyond" 5 ["harms", "stands", "address", "step"] (SpD 4 g_beyond) := T.d_beyond.has fun f fd F => by
  refine fn_D (cls := 0) F sc_beyond rfl (by decide) fun cdv A outer s H E hr => ?_
  have sc := sc_beyond
  exact ⟨_, (ss_cons (newT (gn 4 sc.nd))
    (ss_cons (st_forD PassesOwn.never rfl (pv 1) (gv 5 sc.nd)
    (ss_cons (st_asg (cl (h_acted (base := base) (P := P) T) (hr.mono (by decide)) (a_cons (vv 0) (a_cons (vv 5) (a_cons (vv 2) (a_cons (vv 3) a_nil))))) (gt (gs_cons (gv 6 sc.nd) (gs_cons (gv 7 sc.nd) gs_nil))))
    (ss_one (st_if (SemW.tt (w_or (t_cmp op_isN rs_is (vv 7) s_non (nomark _)) (w_or1 (t_cmp (op_eqD hr.units) rs_eq (vv 7) (s_ix (ix_A (hu_of hr)) rs_ix (vv 3) s_int (by intro _ _; rfl)) (nomark _))))) (ss_one (st_setd (pv 4) (hu_of hr) (vv 6) (s_ix (ix_A (hu_of hr)) rs_ix (vv 1) (vv 5) (by intro _ _; rfl)) ⟨rfl, rfl, rfl, rfl⟩)) ss_nil))))
    (ss_one (st_ret (vv 4)))))⟩
theorem h_gone_over (T : Txt w K mg cls oF oO) : Has P w K mg base "gone_over" 6 ["harms", "many", "stands", "element", "order"] (SpD 5 g_gone_over) := T.d_gone_over.has fun f fd F => by
  refine fn_D (cls := 0) F sc_gone_over rfl (by decide) fun cdv A outer s H E hr => ?_
  have sc := sc_gone_over
  exact ⟨_, (ss_cons (newL (gn 5 sc.nd) sc.nd)
    (ss_cons (st_for PassesOwn.never rfl (i_list (cl (h_steps_done (base := base) (P := P) T) (hr.mono (by decide)) (a_cons (vv 1) (a_cons (vv 3) (a_cons (vv 4) a_nil))))) (gt (gs_cons (gv 6 sc.nd) (gs_cons (gv 7 sc.nd) gs_nil)))
    (ss_cons (app 5 (pv 5) (s_callBs (cr_sortA rfl) cs_sorted rfl T.z_sorted b_sorted (a_cons (vv 2) a_nil)))
    (ss_one (st_asg (cl (h_beyond (base := base) (P := P) T) (hr.mono (by decide)) (a_cons (vv 0) (a_cons (vv 2) (a_cons (vv 6) (a_cons (vv 7) a_nil))))) (gv 2 sc.nd)))))
    (ss_one (st_ret (s_tup (a_cons (vv 5) (a_cons (vv 2) a_nil)))))))⟩
theorem h_begun (T : Txt w K mg cls oF oO) : Has P w K mg base "begun" 4 ["harms", "many"] (SpD 2 g_begun) := T.d_begun.has fun f fd F => by
  refine fn_D (cls := 0) F sc_begun rfl (by decide) fun cdv A outer s H E hr => ?_
  have sc := sc_begun
  exact ⟨_, (ss_cons (newT (gn 2 sc.nd))
    (ss_cons (st_for PassesOwn.never rfl (i_list (cl (h_all_contents (base := base) (P := P) T) (hr.mono (by decide)) (a_cons (vv 1) a_nil))) (gv 3 sc.nd)
    (ss_one (st_setd (pv 2) (hu_of hr) (cl (h_held_at_first (base := base) (P := P) T) (hr.mono (by decide)) (a_cons (vv 0) (a_cons (vv 3) a_nil))) (s_tup (a_cons (vv 3) (a_cons (s_lst a_nil) a_nil))) ⟨rfl, rfl, rfl, rfl⟩)))
    (ss_one (st_ret (vv 2)))))⟩
theorem h_judged (T : Txt w K mg cls oF oO) : Has P w K mg base "judged" 8 ["test", "harms"] (SpD 2 g_judged) := T.d_judged.has fun f fd F => by
  refine fn_D (cls := 0) F sc_judged rfl (by decide) fun cdv A outer s H E hr => ?_
  have sc := sc_judged
  exact ⟨_, (ss_cons (st_expr (cl (h_look_at_judged (base := base) (P := P) T) (hr.mono (by decide)) (a_cons (vv 0) (a_cons (vv 1) a_nil))))
    (ss_cons (st_asg (cl (h_little (base := base) (P := P) T) (hr.mono (by decide)) (a_cons (vv 1) a_nil)) (gv 2 sc.nd))
    (ss_cons (st_asg (s_callB call_len cs_len rfl T.z_len b_len (a_cons (cl (h_cells_of (base := base) (P := P) T) (hr.mono (by decide)) (a_cons (vv 1) a_nil)) a_nil)) (gv 3 sc.nd))
    (ss_cons (st_asg (cl (h_begun (base := base) (P := P) T) (hr.mono (by decide)) (a_cons (vv 2) (a_cons (vv 3) a_nil))) (gv 4 sc.nd))
    (ss_cons (newL (gn 5 sc.nd) sc.nd)
    (ss_cons (st_for PassesOwn.never rfl (i_list (vv 0)) (gv 6 sc.nd)
    (ss_cons (st_newK (cs := [(.inr "up", .non), (.inr "down", .non)]) (ps_asg (pe_disp (pps_cons pe_str pe_non (pps_cons pe_str pe_non pps_nil)) rfl rfl (by decide) (by decide)) (gn 7 sc.nd)) (by decide) (fun H => (.cons .non (.cons .non .nil))))
    (ss_cons (newT (gn 8 sc.nd))
    (ss_cons (st_for PassesOwn.never rfl (i_list (cl (h_orders_for (base := base) (P := P) T) (hr.mono (by decide)) (a_cons (vv 6) a_nil))) (gv 9 sc.nd)
    (ss_cons (st_row (hu_of hr) (cl (h_gone_over (base := base) (P := P) T) (hr.mono (by decide)) (a_cons (vv 2) (a_cons (vv 3) (a_cons (vv 4) (a_cons (vv 6) (a_cons (vv 9) a_nil)))))) (pv 7) (pv 9) (gn 10 sc.nd) (ps_asg (SemE.pe (C := ⟨0, none⟩) (cl (h_gone_over (base := base) (P := P) T) (hr.mono (by decide)) (a_cons (vv 2) (a_cons (vv 3) (a_cons (vv 4) (a_cons (vv 6) (a_cons (vv 9) a_nil))))))) (pg_tup rfl (pgs_cons (pg_sub (pv 7) (pv 9) (set_dict (hu_of hr))) (pgs_cons (gn 10 sc.nd) pgs_nil)))))
    (ss_one (st_forD PassesOwn.never rfl (pv 10) (gv 11 sc.nd)
    (ss_cons (st_asg (s_ix (ix_A (hu_of hr)) rs_ix (vv 10) (vv 11) (by intro _ _; rfl)) (gt (gs_cons (gv 12 sc.nd) (gs_cons (gv 13 sc.nd) gs_nil))))
    (ss_one (st_setd (pv 8) (hu_of hr) (vv 11) (s_tup (a_cons (vv 12) (a_cons (s_op op_addA rs_add (vv 13) (s_lst (a_cons (vv 9) a_nil))) a_nil))) ⟨rfl, rfl, rfl, rfl⟩)))))))
    (ss_cons (SemS.pro1 7 (app 5 (pv 5) (s_tup (a_cons (s_callBs (cr_sortA rfl) cs_sorted rfl T.z_sorted b_sorted (a_cons (vv 4) a_nil)) (a_cons (s_ix (ix_A (hu_of hr)) rs_ix (vv 7) s_str (by intro _ _; rfl)) (a_cons (s_ix (ix_A (hu_of hr)) rs_ix (vv 7) s_str (by intro _ _; rfl)) a_nil))))))
    (ss_one (SemS.pro1 8 (st_asg (vv 8) (gv 4 sc.nd)))))))))
    (ss_cons (st_if (t_emp (Nat.lt_of_succ_lt (hu_of hr)) (vv 4) pe_dnewT) (ss_one (st_ret (s_tup (a_cons s_str (a_cons (vv 5) a_nil))))) ss_nil)
    (ss_cons (st_asg (s_ix (ix_A (hu_of hr)) rs_ix (vv 4) (s_ix (ix_A (hu_of hr)) rs_ix (s_callBs (cr_sortA rfl) cs_sorted rfl T.z_sorted b_sorted (a_cons (vv 4) a_nil)) s_int (by intro _ _; rfl)) (by intro _ _; rfl)) (gt (gs_cons (gv 12 sc.nd) (gs_cons (gv 13 sc.nd) gs_nil))))
    (ss_one (st_ret (s_tup (a_cons s_str (a_cons (vv 12) (a_cons (vv 13) a_nil))))))))))))))⟩
end
end Tm

namespace Tm
open PySem L2
section
variable {P : Program} {w : World} {K : PySem.W.Frag} {mg : Str → Option Value} {base : Heap} {cls oF oO : Addr}
theorem h__law_cell_at (T : Txt w K mg cls oF oO) : Has P w K mg base "_law_cell_at" 1 ["_law_script", "_law_k"] (SpD 2 g__law_cell_at) := T.d__law_cell_at.has fun f fd F => by
  refine fn_D (cls := 0) F sc__law_cell_at rfl (by decide) fun cdv A outer s H E hr => ?_
  have sc := sc__law_cell_at
  exact ⟨_, (ss_cons (st_if (t_cmp op_lt rs_lt (vv 1) (s_callB call_len cs_len rfl T.z_len b_len (a_cons (vv 0) a_nil)) (nomark _)) (ss_one (st_ret (s_ix (ix_A (hu_of hr)) rs_ix (vv 0) (vv 1) (by intro _ _; rfl)))) ss_nil)
    (ss_one (st_ret s_int)))⟩
theorem h__law_digits (T : Txt w K mg cls oF oO) : Has P w K mg base "_law_digits" 1 ["_law_cell", "_law_turn", "_law_sizes"] (SpD 3 g__law_digits) := T.d__law_digits.has fun f fd F => by
  refine fn_D (cls := 0) F sc__law_digits rfl (by decide) fun cdv A outer s H E hr => ?_
  have sc := sc__law_digits
  exact ⟨_, (ss_cons (st_asg (s_callB call_abs cs_abs rfl T.z_abs b_abs (a_cons (vv 0) a_nil)) (gv 3 sc.nd))
    (ss_cons (st_asg (s_cmp op_ge rs_ge (vv 3) (s_op op_pow rs_pow s_int s_int) (nomark _)) (gv 4 sc.nd))
    (ss_cons (st_asg (s_op op_addA rs_add (s_op op_mod rs_mod (vv 3) s_int) (s_op op_mulA rs_mul s_int (vv 1))) (gv 5 sc.nd))
    (ss_cons (newL (gn 6 sc.nd) sc.nd)
    (ss_cons (st_for PassesOwn.never rfl (i_enum rfl T.z_enumerate (a_cons (vv 2) a_nil)) (gt (gs_cons (gv 7 sc.nd) (gs_cons (gv 8 sc.nd) gs_nil)))
    (ss_one (st_if (SemW.tt (w_and (t_val (vv 4)) (w_and1 (t_cmp op_gt rs_gt (vv 3) s_int (nomark _))))) (ss_cons (app 6 (pv 6) (s_op op_mod rs_mod (vv 3) (vv 8)))
    (ss_one (st_asg (s_op op_fdivN rs_div (vv 3) (vv 8)) (gv 3 sc.nd)))) (ss_cons (st_asg (s_op op_mod rs_mod (s_op op_pow rs_pow (s_op op_addA rs_add (vv 5) (s_op op_mulA rs_mul s_int (s_op op_addA rs_add (vv 7) s_int))) s_int) s_int) (gv 5 sc.nd))
    (ss_one (app 6 (pv 6) (s_op op_mod rs_mod (s_op op_fdivN rs_div (vv 5) s_int) (vv 8))))))))
    (ss_one (st_ret (vv 6))))))))⟩
theorem h__law_test (T : Txt w K mg cls oF oO) : Has P w K mg base "_law_test" 2 ["_law_cells", "_law_sure"] (SpD 2 g__law_test) := T.d__law_test.has fun f fd F => by
  refine fn_D (cls := 0) F sc__law_test rfl (by decide) fun cdv A outer s H E hr => ?_
  have sc := sc__law_test
  exact ⟨_, (ss_cons (st_asg s_non (gv 2 sc.nd))
    (ss_cons (newL (gn 3 sc.nd) sc.nd)
    (ss_cons (st_for PassesOwn.never rfl (i_enum rfl T.z_enumerate (a_cons (vv 0) a_nil)) (gt (gs_cons (gv 4 sc.nd) (gs_cons (gv 5 sc.nd) gs_nil)))
    (ss_cons (st_asg (cl (h__law_digits (base := base) (P := P) T) (hr.mono (by decide)) (a_cons (vv 5) (a_cons (s_op op_addA rs_add s_int (vv 4)) (a_cons (s_op op_addA rs_add (s_lst (a_cons s_int (a_cons s_int a_nil))) (s_op op_mulA rs_mul (s_lst (a_cons s_int a_nil)) s_int)) a_nil)))) (gv 6 sc.nd))
    (ss_cons (newL (gn 7 sc.nd) sc.nd)
    (ss_cons (st_for PassesOwn.never rfl (i_list (s_slice (sl_list.or sl_tupA) sls_A (vv 6) (o_some s_int) (o_some (s_op op_addA rs_add s_int (s_ix (ix_A (hu_of hr)) rs_ix (vv 6) s_int (by intro _ _; rfl)))))) (gv 8 sc.nd)
    (ss_cons (st_asg (s_tup (a_cons s_str (a_cons (s_op op_mod rs_mod (vv 8) s_int) a_nil))) (gv 9 sc.nd))
    (ss_cons (st_if (SemW.tt (w_and (t_cmp op_gt rs_gt (vv 8) s_int (nomark _)) (w_and1 (t_not (t_val (vv 1)))))) (ss_one (st_asg (s_tup (a_cons s_str (a_cons (s_op op_mod rs_mod (vv 8) s_int) a_nil))) (gv 9 sc.nd))) (ss_one (st_if (SemW.tt (w_and (t_cmp op_gt rs_gt (vv 8) s_int (nomark _)) (w_and1 (t_cmp op_notN rs_isNot (vv 2) s_non (nomark _))))) (ss_one (st_asg (s_tup (a_cons s_str (a_cons (vv 2) a_nil))) (gv 9 sc.nd))) ss_nil)))
    (ss_cons (st_asg (s_ix (ix_A (hu_of hr)) rs_ix (vv 9) s_int (by intro _ _; rfl)) (gv 2 sc.nd))
    (ss_one (app 7 (pv 7) (vv 9)))))))
    (ss_one (SemS.pro1 7 (app 3 (pv 3) (s_tup (a_cons (s_ix (ix_A (hu_of hr)) rs_ix (s_lst (a_cons s_str (a_cons s_str (a_cons s_str a_nil)))) (s_ix (ix_A (hu_of hr)) rs_ix (vv 6) s_int (by intro _ _; rfl)) (by intro _ _; rfl)) (a_cons (vv 7) a_nil))))))))))
    (ss_one (st_ret (vv 3))))))⟩
theorem h__law_orders (T : Txt w K mg cls oF oO) : Has P w K mg base "_law_orders" 2 ["_law_test_here", "_law_cell"] (SpD 2 g__law_orders) := T.d__law_orders.has fun f fd F => by
  refine fn_D (cls := 0) F sc__law_orders rfl (by decide) fun cdv A outer s H E hr => ?_
  have sc := sc__law_orders
  exact ⟨_, (ss_cons (st_asg (cl (h__law_digits (base := base) (P := P) T) (hr.mono (by decide)) (a_cons (vv 1) (a_cons s_int (a_cons (s_op op_mulA rs_mul (s_lst (a_cons s_int a_nil)) s_int) a_nil)))) (gv 2 sc.nd))
    (ss_one (st_ret (s_lc rfl sc.nd (i_range1 rfl T.z_range (a_cons (s_callB call_len cs_len rfl T.z_len b_len (a_cons (vv 0) a_nil)) a_nil)) (own := [("_law_k", 3)]) (blkOk_by (N := NN__law_orders) (sc := (defScope st__law_orders)) (by decide +kernel)) (fun _ _ _ _ _ => (gv 3 sc.nd)) (by decide) (fun _ _ _ _ _ => ts_nil) (fun _ _ _ _ _ => (s_if (t_cmp (op_eqD hr.units) rs_eq (s_ix (ix_A (hu_of hr)) rs_ix (s_ix (ix_A (hu_of hr)) rs_ix (vv 0) (vv 3) (by intro _ _; rfl)) s_int (by intro _ _; rfl)) s_str (nomark _)) (s_ix (ix_A (hu_of hr)) rs_ix (s_lst (a_cons s_str (a_cons s_str a_nil))) (s_ix (ix_A (hu_of hr)) rs_ix (vv 2) (vv 3) (by intro _ _; rfl)) (by intro _ _; rfl)) (s_ix (ix_A (hu_of hr)) rs_ix (s_ix (ix_A (hu_of hr)) rs_ix (vv 0) (vv 3) (by intro _ _; rfl)) s_int (by intro _ _; rfl))))))))⟩
theorem h__law_harm (T : Txt w K mg cls oF oO) : Has P w K mg base "_law_harm" 1 ["_law_d", "_law_some"] (SpD 2 g__law_harm) := T.d__law_harm.has fun f fd F => by
  refine fn_D (cls := 0) F sc__law_harm rfl (by decide) fun cdv A outer s H E hr => ?_
  have sc := sc__law_harm
  exact ⟨_, (ss_cons (st_asg (s_lst (a_cons s_str (a_cons s_str (a_cons s_str (a_cons s_str (a_cons s_str (a_cons s_str (a_cons s_str (a_cons s_str (a_cons s_str (a_cons s_str a_nil))))))))))) (gv 2 sc.nd))
    (ss_cons (st_asg (s_ix (ix_A (hu_of hr)) rs_ix (vv 2) (s_ix (ix_A (hu_of hr)) rs_ix (vv 0) s_int (by intro _ _; rfl)) (by intro _ _; rfl)) (gv 3 sc.nd))
    (ss_cons (st_asg (s_ix (ix_A (hu_of hr)) rs_ix (vv 1) (s_op op_mod rs_mod (s_ix (ix_A (hu_of hr)) rs_ix (vv 0) s_int (by intro _ _; rfl)) (s_callB call_len cs_len rfl T.z_len b_len (a_cons (vv 1) a_nil))) (by intro _ _; rfl)) (gv 4 sc.nd))
    (ss_cons (st_asg (s_ix (ix_A (hu_of hr)) rs_ix (s_lc rfl sc.nd (i_list (vv 1)) (own := [("_law_cell", 6)]) (blkOk_by (N := NN__law_harm) (sc := (defScope st__law_harm)) (by decide +kernel)) (fun _ _ _ _ _ => (gv 6 sc.nd)) (by decide) (fun _ _ _ _ _ => (ts_one (t_cmp (op_neD hr.units) rs_ne (vv 6) (vv 4) (nomark _)))) (fun _ _ _ _ _ => (vv 6))) (s_op op_mod rs_mod (s_ix (ix_A (hu_of hr)) rs_ix (vv 0) s_int (by intro _ _; rfl)) (s_op op_sub rs_sub (s_callB call_len cs_len rfl T.z_len b_len (a_cons (vv 1) a_nil)) s_int)) (by intro _ _; rfl)) (gv 5 sc.nd))
    (ss_cons (st_if (t_cmp (op_inA (hu65 hr)) rs_in (vv 3) (s_tup (a_cons s_str (a_cons s_str (a_cons s_str (a_cons s_str (a_cons s_str a_nil)))))) rfl) (ss_one (st_ret (s_tup (a_cons (vv 3) (a_cons (vv 4) (a_cons (s_ix (ix_A (hu_of hr)) rs_ix (vv 0) s_int (by intro _ _; rfl)) a_nil)))))) ss_nil)
    (ss_cons (st_if (t_cmp (op_eqD hr.units) rs_eq (vv 3) s_str (nomark _)) (ss_one (st_ret (s_tup (a_cons (vv 3) (a_cons (vv 4) (a_cons (vv 5) (a_cons (s_ix (ix_A (hu_of hr)) rs_ix (vv 0) s_int (by intro _ _; rfl)) a_nil))))))) ss_nil)
    (ss_cons (st_if (t_cmp (op_inA (hu65 hr)) rs_in (vv 3) (s_tup (a_cons s_str (a_cons s_str a_nil))) rfl) (ss_one (st_ret (s_tup (a_cons (vv 3) (a_cons (vv 4) (a_cons (vv 5) (a_cons (s_ix (ix_A (hu_of hr)) rs_ix (vv 0) s_int (by intro _ _; rfl)) (a_cons (s_ix (ix_A (hu_of hr)) rs_ix (vv 0) s_int (by intro _ _; rfl)) a_nil)))))))) ss_nil)
    (ss_one (st_ret (s_ix (ix_A (hu_of hr)) rs_ix (s_lst (a_cons (s_tup (a_cons s_str (a_cons (vv 4) (a_cons (vv 5) a_nil)))) (a_cons (s_tup (a_cons s_str (a_cons (vv 4) (a_cons (vv 5) (a_cons (s_ix (ix_A (hu_of hr)) rs_ix (s_lst (a_cons s_str (a_cons s_str a_nil))) (s_ix (ix_A (hu_of hr)) rs_ix (vv 0) s_int (by intro _ _; rfl)) (by intro _ _; rfl)) a_nil))))) a_nil))) (s_callTy call_int1 cs_int rfl T.z_int b_int (a_cons (s_cmp (op_eqD hr.units) rs_eq (vv 3) s_str (nomark _)) a_nil)) (by intro _ _; rfl)))))))))))⟩
theorem h__law_harms (T : Txt w K mg cls oF oO) : Has P w K mg base "_law_harms" 2 ["_law_cell", "_law_turn", "_law_size", "_law_most"] (SpD 4 g__law_harms) := T.d__law_harms.has fun f fd F => by
  refine fn_D (cls := 0) F sc__law_harms rfl (by decide) fun cdv A outer s H E hr => ?_
  have sc := sc__law_harms
  exact ⟨_, (ss_cons (st_asg (cl (h__law_digits (base := base) (P := P) T) (hr.mono (by decide)) (a_cons (vv 0) (a_cons (vv 1) (a_cons (s_op op_addA rs_add (s_lst (a_cons (vv 3) (a_cons (vv 2) (a_cons (vv 2) (a_cons (vv 2) a_nil))))) (s_op op_mulA rs_mul (s_lst (a_cons s_int (a_cons s_int (a_cons s_int (a_cons s_int (a_cons s_int a_nil)))))) s_int)) a_nil)))) (gv 4 sc.nd))
    (ss_cons (st_asg (s_lst (a_cons (s_ix (ix_A (hu_of hr)) rs_ix (vv 4) s_int (by intro _ _; rfl)) a_nil)) (gv 5 sc.nd))
    (ss_cons (st_for PassesOwn.never rfl (i_range1 rfl T.z_range (a_cons s_int a_nil)) (gv 6 sc.nd)
    (ss_cons (st_setLc rfl sc.nd rfl rfl rfl (i_range1 rfl T.z_range (a_cons (vv 2) a_nil)) (own := [("_law_one", 8)]) (blkOk_by (N := NN__law_harms) (sc := (defScope st__law_harms)) (by decide +kernel)) (fun _ _ _ _ _ => (gv 8 sc.nd)) (by decide) (fun _ _ _ _ _ => (ts_one (t_cmp (op_ninA (hu65 hr)) rs_nin (vv 8) (vv 5) rfl))) (fun _ _ _ _ _ => (vv 8)))
    (ss_one (st_asg (s_op op_addA rs_add (vv 5) (s_slice (sl_list.or sl_tupA) sls_A (s_slice (sl_list.or sl_tupA) sls_A (vv 7) (o_some (s_op op_mod rs_mod (s_ix (ix_A (hu_of hr)) rs_ix (vv 4) (s_op op_addA rs_add s_int (vv 6)) (by intro _ _; rfl)) (s_callB (cr_maxA rfl) cs_max rfl T.z_max b_max (a_cons s_int (a_cons (s_callB call_len cs_len rfl T.z_len b_len (a_cons (vv 7) a_nil)) a_nil))))) o_none) o_none (o_some s_int))) (gv 5 sc.nd)))))
    (ss_one (st_ret (s_lc rfl sc.nd (i_range1 rfl T.z_range (a_cons (s_op op_addA rs_add s_int (s_ix (ix_A (hu_of hr)) rs_ix (vv 4) s_int (by intro _ _; rfl))) a_nil)) (own := [("_law_k", 6)]) (blkOk_by (N := NN__law_harms) (sc := (defScope st__law_harms)) (by decide +kernel)) (fun _ _ _ _ _ => (gv 6 sc.nd)) (by decide) (fun _ _ _ _ _ => ts_nil) (fun _ _ _ _ _ => (cl (h__law_harm (base := base) (P := P) T) (hr.mono (by decide)) (a_cons (s_slice (sl_list.or sl_tupA) sls_A (vv 4) (o_some (s_op op_addA rs_add s_int (s_op op_mulA rs_mul s_int (vv 6)))) (o_some (s_op op_addA rs_add s_int (s_op op_mulA rs_mul s_int (vv 6))))) (a_cons (vv 5) a_nil))))))))))⟩
theorem h__law_ends (T : Txt w K mg cls oF oO) : Has P w K mg base "_law_ends" 1 ["_law_test_here"] (SpD 1 g__law_ends) := T.d__law_ends.has fun f fd F => by
  refine fn_D (cls := 0) F sc__law_ends rfl (by decide) fun cdv A outer s H E hr => ?_
  have sc := sc__law_ends
  exact ⟨_, (ss_cons (st_asg (s_disp (cs := [(.inr "up", .str "down"), (.inr "down", .str "up"), (.inr "any", .str "any")]) (pe_disp (pps_cons pe_str pe_str (pps_cons pe_str pe_str (pps_cons pe_str pe_str pps_nil))) rfl rfl (by decide) (by decide)) (by decide) (fun H => (.cons (.str _) (.cons (.str _) (.cons (.str _) .nil))))) (gv 1 sc.nd))
    (ss_one (st_ret (s_lc rfl sc.nd (i_list (vv 0)) (g := (gTup K 2 (gCons (gName 2) (gCons (gName 3) gNil)))) (own := [("_law_order", 2), ("_law_steps", 3)]) (blkOk_by (N := NN__law_ends) (sc := (defScope st__law_ends)) (by decide +kernel)) (fun _ _ _ _ _ => (gt (gs_cons (gv 2 sc.nd) (gs_cons (gv 3 sc.nd) gs_nil)))) (by decide) (fun _ _ _ _ _ => ts_nil) (fun _ _ _ _ _ => (s_tup (a_cons (s_ix (ix_A (hu_of hr)) rs_ix (vv 1) (vv 2) (by intro _ _; rfl)) (a_cons (vv 3) a_nil))))))))⟩
theorem h__law_bits (T : Txt w K mg cls oF oO) : Has P w K mg base "_law_bits" 1 ["_law_test_here"] (SpD 1 g__law_bits) := T.d__law_bits.has fun f fd F => by
  refine fn_D (cls := 0) F sc__law_bits rfl (by decide) fun cdv A outer s H E hr => ?_
  have sc := sc__law_bits
  exact ⟨_, (ss_one (st_ret (s_lc rfl sc.nd (i_list (vv 0)) (g := (gTup K 2 (gCons (gName 1) (gCons (gName 2) gNil)))) (te := tTup (tCons (tVar 1) (tCons (tLc (iList K (tVar 2)) (gTup K 2 (gCons (gName 3) (gCons (gName 4) gNil))) tYes (tTup (tCons (tVar 3) (tCons (tOp (rI0 fun i j => .int (i - j)) (tC (.int 1)) (tVar 4)) tNil))) [3, 4]) tNil))) (own := [("_law_order", 1), ("_law_steps", 2)]) (blkOk_by (N := NN__law_bits) (sc := (defScope st__law_bits)) (by decide +kernel)) (fun _ _ _ _ _ => (gt (gs_cons (gv 1 sc.nd) (gs_cons (gv 2 sc.nd) gs_nil)))) (by decide) (fun _ _ _ _ _ => ts_nil) (fun _ _ _ _ _ => (s_tup (a_cons (vv 1) (a_cons (s_lc rfl sc.nd (i_list (vv 2)) (g := (gTup K 2 (gCons (gName 3) (gCons (gName 4) gNil)))) (own := [("_law_word", 3), ("_law_bit", 4)]) (blkOk_by (N := NN__law_bits) (sc := (compScope (retVal (defBody st__law_bits)))) (by decide +kernel)) (fun _ _ _ _ _ => (gt (gs_cons (gv 3 sc.nd) (gs_cons (gv 4 sc.nd) gs_nil)))) (by decide) (fun _ _ _ _ _ => ts_nil) (fun _ _ _ _ _ => (s_tup (a_cons (vv 3) (a_cons (s_op op_sub rs_sub s_int (vv 4)) a_nil))))) a_nil)))))))⟩
theorem h__law_cells_turned (T : Txt w K mg cls oF oO) : Has P w K mg base "_law_cells_turned" 1 ["_law_harms_here", "_law_most"] (SpD 2 g__law_cells_turned) := T.d__law_cells_turned.has fun f fd F => by
  refine fn_D (cls := 0) F sc__law_cells_turned rfl (by decide) fun cdv A outer s H E hr => ?_
  have sc := sc__law_cells_turned
  exact ⟨_, (ss_cons (newL (gn 2 sc.nd) sc.nd)
    (ss_cons (st_for PassesOwn.never rfl (i_list (vv 0)) (gv 3 sc.nd)
    (ss_cons (st_asg (s_callTy call_int1 cs_int rfl T.z_int b_int (a_cons (s_cmp (op_inA (hu65 hr)) rs_in (s_ix (ix_A (hu_of hr)) rs_ix (vv 3) s_int (by intro _ _; rfl)) (s_tup (a_cons s_str (a_cons s_str (a_cons s_str (a_cons s_str (a_cons s_str a_nil)))))) rfl) a_nil)) (gv 4 sc.nd))
    (ss_one (app 2 (pv 2) (s_op op_addA rs_add (s_op op_addA rs_add (s_slice (sl_list.or sl_tupA) sls_A (vv 3) o_none (o_some s_int)) (s_callTy call_tuple_of cs_tuple rfl T.z_tuple b_tuple (a_cons (s_lc rfl sc.nd (i_tup (s_slice (sl_list.or sl_tupA) sls_A (vv 3) (o_some s_int) (o_some (s_op op_addA rs_add s_int (vv 4))))) (own := [("_law_cell", 5)]) (blkOk_by (N := NN__law_cells_turned) (sc := (defScope st__law_cells_turned)) (by decide +kernel)) (fun _ _ _ _ _ => (gv 5 sc.nd)) (by decide) (fun _ _ _ _ _ => ts_nil) (fun _ _ _ _ _ => (s_op op_sub rs_sub (vv 1) (vv 5)))) a_nil))) (s_slice (sl_list.or sl_tupA) sls_A (vv 3) (o_some (s_op op_addA rs_add s_int (vv 4))) o_none))))))
    (ss_one (st_ret (vv 2)))))⟩
theorem h__law_bits_turned (T : Txt w K mg cls oF oO) : Has P w K mg base "_law_bits_turned" 1 ["_law_harms_here"] (SpD 1 g__law_bits_turned) := T.d__law_bits_turned.has fun f fd F => by
  refine fn_D (cls := 0) F sc__law_bits_turned rfl (by decide) fun cdv A outer s H E hr => ?_
  have sc := sc__law_bits_turned
  exact ⟨_, (ss_cons (newL (gn 1 sc.nd) sc.nd)
    (ss_cons (st_for PassesOwn.never rfl (i_list (vv 0)) (gv 2 sc.nd)
    (ss_cons (st_asg (s_callTy call_int1 cs_int rfl T.z_int b_int (a_cons (s_cmp (op_inA (hu65 hr)) rs_in (s_ix (ix_A (hu_of hr)) rs_ix (vv 2) s_int (by intro _ _; rfl)) (s_tup (a_cons s_str (a_cons s_str (a_cons s_str (a_cons s_str (a_cons s_str a_nil)))))) rfl) a_nil)) (gv 3 sc.nd))
    (ss_cons (st_setLc rfl sc.nd rfl rfl rfl (i_tup (s_slice (sl_list.or sl_tupA) sls_A (vv 2) (o_some (s_op op_addA rs_add s_int (vv 3))) o_none)) (own := [("_law_part", 5)]) (blkOk_by (N := NN__law_bits_turned) (sc := (defScope st__law_bits_turned)) (by decide +kernel)) (fun _ _ _ _ _ => (gv 5 sc.nd)) (by decide) (fun _ _ _ _ _ => ts_nil) (fun _ _ _ _ _ => (s_get2 (hu_of hr) (s_disp (cs := [(.inr "and", .str "or"), (.inr "or", .str "and")]) (pe_disp (pps_cons pe_str pe_str (pps_cons pe_str pe_str pps_nil)) rfl rfl (by decide) (by decide)) (by decide) (fun H => (.cons (.str _) (.cons (.str _) .nil)))) (vv 5) (vv 5) ⟨rfl, rfl, rfl, rfl⟩)))
    (ss_cons (st_setLc rfl sc.nd rfl rfl rfl (i_list (vv 4)) (te := tIf (tB (tCB (rIsi K) (tCons (tVar 5) (tCons (tC (.ty "str")) tNil)))) (tVar 5) (tOp (rI0 fun i j => .int (i - j)) (tC (.int 1)) (tVar 5))) (own := [("_law_part", 5)]) (blkOk_by (N := NN__law_bits_turned) (sc := (defScope st__law_bits_turned)) (by decide +kernel)) (fun _ _ _ _ _ => (gv 5 sc.nd)) (by decide) (fun _ _ _ _ _ => ts_nil) (fun _ _ _ _ _ => (s_if (t_val (s_isi rfl T.z_isinstance rfl T.z_str b_str tab_str (vv 5))) (vv 5) (s_op op_sub rs_sub s_int (vv 5)))))
    (ss_one (app 1 (pv 1) (s_op op_addA rs_add (s_slice (sl_list.or sl_tupA) sls_A (vv 2) o_none (o_some (s_op op_addA rs_add s_int (vv 3)))) (s_callTy call_tuple_of cs_tuple rfl T.z_tuple b_tuple (a_cons (vv 4) a_nil)))))))))
    (ss_one (st_ret (vv 1)))))⟩
theorem h__law_runs_alike (T : Txt w K mg cls oF oO) : Has P w K mg base "_law_runs_alike" 11 ["_law_test_here", "_law_harms_here", "_law_size", "_law_contents", "_law_orders_here"] (SpD 5 g__law_runs_alike) := T.d__law_runs_alike.has fun f fd F => by
  refine fn_D (cls := 0) F sc__law_runs_alike rfl (by decide) fun cdv A outer s H E hr => ?_
  have sc := sc__law_runs_alike
  exact ⟨_, (ss_cons (st_asg (cl (h_reads_of (base := base) (P := P) T) (hr.mono (by decide)) (a_cons (vv 0) (a_cons (vv 2) (a_cons (vv 1) (a_cons (vv 3) (a_cons (vv 4) a_nil)))))) (gv 5 sc.nd))
    (ss_cons (st_setLc rfl sc.nd rfl rfl rfl (i_list (vv 4)) (own := [("_law_order", 11)]) (blkOk_by (N := NN__law_runs_alike) (sc := (defScope st__law_runs_alike)) (by decide +kernel)) (fun _ _ _ _ _ => (gv 11 sc.nd)) (by decide) (fun _ _ _ _ _ => ts_nil) (fun _ _ _ _ _ => (s_ix (ix_A (hu_of hr)) rs_ix (s_disp (cs := [(.inr "up", .str "down"), (.inr "down", .str "up")]) (pe_disp (pps_cons pe_str pe_str (pps_cons pe_str pe_str pps_nil)) rfl rfl (by decide) (by decide)) (by decide) (fun H => (.cons (.str _) (.cons (.str _) .nil)))) (vv 11) (by intro _ _; rfl))))
    (ss_cons (st_asg (cl (h__law_cells_turned (base := base) (P := P) T) (hr.mono (by decide)) (a_cons (vv 1) (a_cons (s_op op_sub rs_sub (vv 2) s_int) a_nil))) (gv 7 sc.nd))
    (ss_cons (st_asg (cl (h_reads_of (base := base) (P := P) T) (hr.mono (by decide)) (a_cons (cl (h__law_ends (base := base) (P := P) T) (hr.mono (by decide)) (a_cons (vv 0) a_nil)) (a_cons (vv 2) (a_cons (vv 7) (a_cons (s_rev (vv 3)) (a_cons (vv 6) a_nil)))))) (gv 8 sc.nd))
    (ss_cons (st_if (t_cmp (op_neD hr.units) rs_ne (s_lc rfl sc.nd (i_list (vv 8)) (own := [("_law_row", 12)]) (blkOk_by (N := NN__law_runs_alike) (sc := (defScope st__law_runs_alike)) (by decide +kernel)) (fun _ _ _ _ _ => (gv 12 sc.nd)) (by decide) (fun _ _ _ _ _ => ts_nil) (fun _ _ _ _ _ => (s_tup (a_cons (s_ix (ix_A (hu_of hr)) rs_ix (vv 12) s_int (by intro _ _; rfl)) (a_cons (s_op op_sub rs_sub (s_op op_sub rs_sub (vv 2) s_int) (s_ix (ix_A (hu_of hr)) rs_ix (vv 12) s_int (by intro _ _; rfl))) (a_cons (s_ix (ix_A (hu_of hr)) rs_ix (vv 12) s_int (by intro _ _; rfl)) (a_cons (s_ix (ix_A (hu_of hr)) rs_ix (vv 12) s_int (by intro _ _; rfl)) a_nil))))))) (vv 5) (nomark _)) (ss_one (st_ret s_bl)) ss_nil)
    (ss_cons (st_asg (cl (h_reads_of (base := base) (P := P) T) (hr.mono (by decide)) (a_cons (cl (h__law_bits (base := base) (P := P) T) (hr.mono (by decide)) (a_cons (vv 0) a_nil)) (a_cons (vv 2) (a_cons (cl (h__law_bits_turned (base := base) (P := P) T) (hr.mono (by decide)) (a_cons (vv 1) a_nil)) (a_cons (s_lc rfl sc.nd (i_list (vv 3)) (own := [("_law_bit", 13)]) (blkOk_by (N := NN__law_runs_alike) (sc := (defScope st__law_runs_alike)) (by decide +kernel)) (fun _ _ _ _ _ => (gv 13 sc.nd)) (by decide) (fun _ _ _ _ _ => ts_nil) (fun _ _ _ _ _ => (s_op op_sub rs_sub s_int (vv 13)))) (a_cons (vv 4) a_nil)))))) (gv 9 sc.nd))
    (ss_cons (st_if (t_cmp (op_neD hr.units) rs_ne (s_lc rfl sc.nd (i_list (vv 9)) (own := [("_law_row", 12)]) (blkOk_by (N := NN__law_runs_alike) (sc := (defScope st__law_runs_alike)) (by decide +kernel)) (fun _ _ _ _ _ => (gv 12 sc.nd)) (by decide) (fun _ _ _ _ _ => ts_nil) (fun _ _ _ _ _ => (s_op op_addA rs_add (s_slice (sl_list.or sl_tupA) sls_A (vv 12) o_none (o_some s_int)) (s_tup (a_cons (s_op op_sub rs_sub s_int (s_ix (ix_A (hu_of hr)) rs_ix (vv 12) s_int (by intro _ _; rfl))) a_nil))))) (vv 5) (nomark _)) (ss_one (st_ret s_bl)) ss_nil)
    (ss_cons (st_asg (cl (h_first_shown (base := base) (P := P) T) (hr.mono (by decide)) (a_cons (vv 0) (a_cons (vv 2) (a_cons (vv 1) (a_cons (vv 3) (a_cons (vv 4) a_nil)))))) (gv 10 sc.nd))
    (ss_cons (st_asg (cl (h_first_shown (base := base) (P := P) T) (hr.mono (by decide)) (a_cons (cl (h__law_ends (base := base) (P := P) T) (hr.mono (by decide)) (a_cons (vv 0) a_nil)) (a_cons (vv 2) (a_cons (vv 7) (a_cons (s_rev (vv 3)) (a_cons (vv 6) a_nil)))))) (gv 8 sc.nd))
    (ss_cons (st_if (t_cmp op_notN rs_isNot (vv 8) s_non (nomark _)) (ss_one (st_asg (s_tup (a_cons (s_ix (ix_A (hu_of hr)) rs_ix (vv 8) s_int (by intro _ _; rfl)) (a_cons (s_op op_sub rs_sub (s_op op_sub rs_sub (vv 2) s_int) (s_ix (ix_A (hu_of hr)) rs_ix (vv 8) s_int (by intro _ _; rfl))) (a_cons (s_ix (ix_A (hu_of hr)) rs_ix (vv 8) s_int (by intro _ _; rfl)) a_nil)))) (gv 8 sc.nd))) ss_nil)
    (ss_cons (st_if (t_cmp (op_neD hr.units) rs_ne (vv 8) (vv 10) (nomark _)) (ss_one (st_ret s_bl)) ss_nil)
    (ss_one (st_ret (s_cmp (op_eqD hr.units) rs_eq (cl (h_first_shown (base := base) (P := P) T) (hr.mono (by decide)) (a_cons (cl (h__law_bits (base := base) (P := P) T) (hr.mono (by decide)) (a_cons (vv 0) a_nil)) (a_cons (vv 2) (a_cons (cl (h__law_bits_turned (base := base) (P := P) T) (hr.mono (by decide)) (a_cons (vv 1) a_nil)) (a_cons (s_lc rfl sc.nd (i_list (vv 3)) (own := [("_law_bit", 13)]) (blkOk_by (N := NN__law_runs_alike) (sc := (defScope st__law_runs_alike)) (by decide +kernel)) (fun _ _ _ _ _ => (gv 13 sc.nd)) (by decide) (fun _ _ _ _ _ => ts_nil) (fun _ _ _ _ _ => (s_op op_sub rs_sub s_int (vv 13)))) (a_cons (vv 4) a_nil)))))) (vv 10) (nomark _)))))))))))))))⟩
theorem h_law (T : Txt w K mg cls oF oO) (hT : ∀ ns : List Int, ns.length ≤ 63 → d_law ((env0 10 [.none]).set 0 (.sc ns)) = some (.ret (.bool true))) {f : Addr} {fd : FuncData} (F : Fun K "law" "law" st_law f fd) : FnOk P w K mg base CX0 12 f fd ["_law_script"] (fun vs H Q _ => ∃ (a : Addr) (ns : List Int), vs = [.ref a] ∧ SqL K H a (ns.map V.int) ∧ ns.length ≤ 63 ∧ ∀ H', Q (.bl true) H') := by
  refine fn_sc F sc_law (by decide) hT fun cdv A outer s H E hr => ?_
  have sc := sc_law
  exact ⟨_, (ss_cons (st_for PassesOwn.never rfl (i_range6 rfl T.z_range (a_cons s_int (a_cons (s_callB (cr_maxA rfl) cs_max rfl T.z_max b_max (a_cons s_int (a_cons (s_callB (cr_minA rfl) cs_min rfl T.z_min b_min (a_cons s_int (a_cons (s_lenSc (pv 0) (pe_callB call_len_seq rfl T.z_len b_len (pa_cons (pv 0) pa_nil))) a_nil))) a_nil))) (a_cons s_int a_nil)))) (gv 1 sc.nd)
    (ss_cons (st_asg (s_slSc (pv 0) (o_some (vv 1)) (o_some (s_op op_addA rs_add (vv 1) s_int))) (gv 2 sc.nd))
    (ss_cons (st_asg (cl (h__law_test (base := base) (P := P) T) (hr.mono (by decide)) (a_cons (s_slice (sl_list.or sl_tupA) sls_A (s_op op_addA rs_add (s_slice (sl_list.or sl_tupA) sls_A (vv 2) o_none (o_some s_int)) (s_lst (a_cons (vv 1) a_nil))) o_none (o_some (s_callB (cr_maxA rfl) cs_max rfl T.z_max b_max (a_cons s_int (a_cons (s_callB (cr_minA rfl) cs_min rfl T.z_min b_min (a_cons s_int (a_cons (s_callB call_len cs_len rfl T.z_len b_len (a_cons (vv 2) a_nil)) a_nil))) a_nil))))) (a_cons s_bl a_nil))) (gv 3 sc.nd))
    (ss_cons (st_asg (cl (h__law_harms (base := base) (P := P) T) (hr.mono (by decide)) (a_cons (cl (h__law_cell_at (base := base) (P := P) T) (hr.mono (by decide)) (a_cons (vv 2) (a_cons s_int a_nil))) (a_cons s_int (a_cons s_int (a_cons s_int a_nil))))) (gv 4 sc.nd))
    (ss_cons (st_asg (s_ix (ix_A (hu_of hr)) rs_ix (cl (h_judged (base := base) (P := P) T) (hr.mono (by decide)) (a_cons (vv 3) (a_cons (vv 4) a_nil))) s_int (by intro _ _; rfl)) (gv 5 sc.nd))
    (ss_cons (st_asg (cl (h__law_cells_turned (base := base) (P := P) T) (hr.mono (by decide)) (a_cons (vv 4) (a_cons s_int a_nil))) (gv 6 sc.nd))
    (ss_cons (st_if (SemW.tt (w_or (t_cmp (op_neD hr.units) rs_ne (s_ix (ix_A (hu_of hr)) rs_ix (cl (h_judged (base := base) (P := P) T) (hr.mono (by decide)) (a_cons (cl (h__law_ends (base := base) (P := P) T) (hr.mono (by decide)) (a_cons (vv 3) a_nil)) (a_cons (vv 6) a_nil))) s_int (by intro _ _; rfl)) (vv 5) (nomark _)) (w_or1 (t_cmp (op_neD hr.units) rs_ne (s_ix (ix_A (hu_of hr)) rs_ix (cl (h_judged (base := base) (P := P) T) (hr.mono (by decide)) (a_cons (cl (h__law_bits (base := base) (P := P) T) (hr.mono (by decide)) (a_cons (vv 3) a_nil)) (a_cons (cl (h__law_bits_turned (base := base) (P := P) T) (hr.mono (by decide)) (a_cons (vv 4) a_nil)) a_nil))) s_int (by intro _ _; rfl)) (vv 5) (nomark _))))) (ss_one (st_ret s_bl)) ss_nil)
    (ss_cons (st_if (t_cmp (op_neD hr.units) rs_ne (s_ix (ix_A (hu_of hr)) rs_ix (cl (h_judged (base := base) (P := P) T) (hr.mono (by decide)) (a_cons (cl (h__law_bits (base := base) (P := P) T) (hr.mono (by decide)) (a_cons (cl (h__law_ends (base := base) (P := P) T) (hr.mono (by decide)) (a_cons (vv 3) a_nil)) a_nil)) (a_cons (cl (h__law_bits_turned (base := base) (P := P) T) (hr.mono (by decide)) (a_cons (vv 6) a_nil)) a_nil))) s_int (by intro _ _; rfl)) (vv 5) (nomark _)) (ss_one (st_ret s_bl)) ss_nil)
    (ss_cons (st_asg (cl (h__law_digits (base := base) (P := P) T) (hr.mono (by decide)) (a_cons (cl (h__law_cell_at (base := base) (P := P) T) (hr.mono (by decide)) (a_cons (vv 2) (a_cons s_int a_nil))) (a_cons s_int (a_cons (s_op op_addA rs_add (s_lst (a_cons s_int (a_cons s_int a_nil))) (s_op op_mulA rs_mul (s_lst (a_cons s_int a_nil)) s_int)) a_nil)))) (gv 7 sc.nd))
    (ss_cons (st_asg (s_callB call_len cs_len rfl T.z_len b_len (a_cons (cl (h_cells_of (base := base) (P := P) T) (hr.mono (by decide)) (a_cons (vv 4) a_nil)) a_nil)) (gv 8 sc.nd))
    (ss_cons (st_asg (cl (h_placed (base := base) (P := P) T) (hr.mono (by decide)) (a_cons (vv 4) (a_cons (s_slice (sl_list.or sl_tupA) sls_A (s_lst (a_cons s_int (a_cons (s_op op_addA rs_add s_int (s_op op_mod rs_mod (s_ix (ix_A (hu_of hr)) rs_ix (vv 7) s_int (by intro _ _; rfl)) s_int)) (a_cons (s_op op_addA rs_add s_int (s_ix (ix_A (hu_of hr)) rs_ix (vv 7) s_int (by intro _ _; rfl))) a_nil)))) o_none (o_some (vv 8))) a_nil))) (gv 9 sc.nd))
    (ss_one (st_if (t_not (t_val (cl (h__law_runs_alike (base := base) (P := P) T) (hr.mono (by decide)) (a_cons (vv 3) (a_cons (vv 9) (a_cons (s_op op_addA rs_add s_int (s_ix (ix_A (hu_of hr)) rs_ix (vv 7) s_int (by intro _ _; rfl))) (a_cons (s_slice (sl_list.or sl_tupA) sls_A (vv 7) (o_some s_int) (o_some (s_op op_addA rs_add s_int (s_ix (ix_A (hu_of hr)) rs_ix (vv 7) s_int (by intro _ _; rfl))))) (a_cons (cl (h__law_orders (base := base) (P := P) T) (hr.mono (by decide)) (a_cons (vv 3) (a_cons (s_ix (ix_A (hu_of hr)) rs_ix (vv 7) s_int (by intro _ _; rfl)) a_nil))) a_nil)))))))) (ss_one (st_ret s_bl)) ss_nil)))))))))))))
    (ss_one (st_ret s_bl)))⟩
end
end Tm

namespace Tm
open PySem L2
section
variable {w : World} {K : PySem.W.Frag} {mg : Str → Option Value} {h : Heap}
theorem def_of (X : K.In h) (G : h.Ns mainGlobals mg) {x : Str} {st : Stmt} {ps : List Str} {f : Addr} {oc : Value} {od an : Option Addr} {osl : Array (Option Value)} {kV doc pm cdv ct : Value}
    (a : PySem.W.nsIn K mainGlobals x = some (some (.ref f))) (l : K.lookup f = some ⟨oc, od, .func (PySem.W.fnOf x x (defArgs st) (defBody st) (defScope st) .none kV doc pm an cdv ct), osl⟩)
    (c : PySem.W.codeIn K cdv x = true) (k : PySem.W.keepIn K (.ref f) = true)
    (b : ∀ (kV doc pm : Value) (an : Option Addr) (cdv ct : Value) (us : List Value), us.length = ps.length → bindArgs (PySem.W.fnOf x x (defArgs st) (defBody st) (defScope st) .none kV doc pm an cdv ct) ⟨us, []⟩ = pure (ps.zip us)) : Def K mg x st ps :=
  ⟨f, _, fun_mk l c k, PySem.W.mg_of X G a, k, (fun_mk l c k).binds b⟩
theorem mdef_of {C : Addr} {x qual : Str} {st : Stmt} {ps : List Str} {f : Addr} {oc : Value} {od an : Option Addr} {osl : Array (Option Value)} {kV doc pm cdv ct : Value}
    (a : PySem.W.findIn K (.ref C) x = some (some (.ref f))) (i : PySem.W.isFn K (.ref f) = true) (l : K.lookup f = some ⟨oc, od, .func (PySem.W.fnOf x qual (defArgs st) (defBody st) (defScope st) .none kV doc pm an cdv ct), osl⟩)
    (c : PySem.W.codeIn K cdv qual = true) (k : PySem.W.keepIn K (.ref f) = true)
    (b : ∀ (kV doc pm : Value) (an : Option Addr) (cdv ct : Value) (us : List Value), us.length = ps.length → bindArgs (PySem.W.fnOf x qual (defArgs st) (defBody st) (defScope st) .none kV doc pm an cdv ct) ⟨us, []⟩ = pure (ps.zip us)) : MDef K C x qual st ps :=
  ⟨f, _, fun_mk l c k, ⟨a, i, k⟩, (fun_mk l c k).binds b⟩
theorem gi_of (X : K.In h) (G : h.Ns mainGlobals mg) {x : Str} {v : Int} {u : Value} (a : PySem.W.nsIn K mainGlobals x = some (some u)) (r : RelV (.int v) u) : GI mg x v := ⟨u, PySem.W.mg_of X G a, r⟩
theorem forms_of {a : Addr} {es : Array DictEntry} {n : Nat} {u1 u2 u3 u4 u5 u6 u7 u8 u9 u10 : Value} (hs : (a == sysModules) = false) (hl : K.lookup a = some ⟨.type "dict", none, .dict es n, #[]⟩) (hk : PySem.W.KeysLit w.params es.toList)
    (n1 : PySem.W.nsIn K a "stuck" = some (some u1)) (n2 : PySem.W.nsIn K a "slow" = some (some u2)) (n3 : PySem.W.nsIn K a "forgets" = some (some u3)) (n4 : PySem.W.nsIn K a "misreads" = some (some u4)) (n5 : PySem.W.nsIn K a "turns" = some (some u5))
    (n6 : PySem.W.nsIn K a "sets" = some (some u6)) (n7 : PySem.W.nsIn K a "keeps" = some (some u7)) (n8 : PySem.W.nsIn K a "nowhere" = some (some u8)) (n9 : PySem.W.nsIn K a "other" = some (some u9)) (n10 : PySem.W.nsIn K a "both" = some (some u10))
    (r1 : RelV (.str "cv") u1) (r2 : RelV (.str "cv") u2) (r3 : RelV (.str "cv") u3) (r4 : RelV (.str "cv") u4) (r5 : RelV (.str "ccv") u5) (r6 : RelV (.str "ccvv") u6) (r7 : RelV (.str "ccvv") u7) (r8 : RelV (.str "cv") u8) (r9 : RelV (.str "cc") u9) (r10 : RelV (.str "cch") u10) : FormsAt K w a := by
  refine ⟨hs, fun z u e => ?_⟩
  unfold formOf at e
  repeat' split at e
  all_goals first | (cases e; done) | (cases e; subst_vars; exact ⟨es, n, _, hl, hk, by assumption, by assumption⟩)
theorem ords_of {b : Addr} {dd : Option Addr} {its : Array Value} {n : Nat} {sl : Array (Option Value)} (hl : K.lookup b = some ⟨.type "tuple", dd, .seq its n, sl⟩) (hz : its.size = 3) (r : Vals ordV its.toList) : ∀ H, SqT K H b ordV := fun H =>
  .inr ⟨_, its, n, hl, rfl, rfl, by rw [hz, sizeLine_eq]; decide, r⟩
end
end Tm
namespace Tm
open PySem L2
theorem fin {l : PySem.W.OpenLaw} {w : World} {K : PySem.W.Frag} {h : Heap} {mg : Str → Option Value} {fa cls oF oO f : Addr} (X : K.In h) (G : h.Ns mainGlobals mg) (hfa : mg "law" = some (.ref fa)) (T : Txt w K mg cls oF oO)
    {oc : Value} {od an : Option Addr} {osl : Array (Option Value)} {kV doc pm cdv ct : Value}
    (a : PySem.W.nsIn K mainGlobals "law" = some (some (.ref f))) (lk : K.lookup f = some ⟨oc, od, .func (PySem.W.fnOf "law" "law" (defArgs st_law) (defBody st_law) (defScope st_law) .none kV doc pm an cdv ct), osl⟩)
    (c : PySem.W.codeIn K cdv "law" = true) (k : PySem.W.keepIn K (.ref f) = true)
    (hT : ∀ ns : List Int, ns.length ≤ 63 → d_law ((env0 NN_law.length [.none]).set 0 (.sc ns)) = some (.ret (.bool true))) :
    ∃ fd : FuncData, (∀ (s : Shared) (v : Value), BindsTo s fd ⟨[v], []⟩ [("_law_script", v)]) ∧ ∀ base : Heap, K.In base → base.Ns mainGlobals mg → FnOk l.prog w K mg base CX0 12 fa fd ["_law_script"] (fun vs H Q _ => ∃ (a : Addr) (ns : List Int), vs = [.ref a] ∧ SqL K H a (ns.map V.int) ∧ ns.length ≤ 63 ∧ ∀ H', Q (.bl true) H') := by
  have e := hfa.symm.trans (PySem.W.mg_of X G a)
  cases e
  exact ⟨PySem.W.fnOf "law" "law" (defArgs st_law) (defBody st_law) (defScope st_law) .none kV doc pm an cdv ct, fun s v => .of_eq rfl, fun base _ _ => h_law T hT (fun_mk lk c k)⟩
end Tm

namespace Tm
open PySem
/-! ### the words of the denotation, unfolded by simp -/
def nm (s : SD) : Bool := match s with
  | .mo _ => false
  | _ => true
section
variable (env : SE) (i j : Nat) (d : D) (f k l : SE → Option D) (fb kb : SE → Option Bool) (fs : SE → Option (List D)) (F G : SE → Option Out) (a : D → SE → Option SE) (b : List D → SE → Option SE)
@[simp] theorem eVar_s : eVar i env = (match env[i]? with | some (.pu d) => some d | _ => none) := rfl
@[simp] theorem eC_s : eC d env = some d := rfl
@[simp] theorem e1_s (g : D → Option D) : e1 g f env = (match f env with | some d => g d | none => none) := rfl
@[simp] theorem e2_s (g : D → D → Option D) : e2 g f k env = (match f env with | some d => (match k env with | some e => g d e | none => none) | none => none) := rfl
@[simp] theorem aNil_s : aNil env = some [] := rfl
@[simp] theorem aCons_s : aCons f fs env = (match f env with | some d => (match fs env with | some e => some (d :: e) | none => none) | none => none) := rfl
@[simp] theorem eA_s (g : List D → Option D) : eA g fs env = (match fs env with | some ds => g ds | none => none) := rfl
@[simp] theorem bOf_s : bOf f env = (match f env with | some (.bool b) => some b | _ => none) := rfl
@[simp] theorem bAnd_s : bAnd fb kb env = (match fb env with | some true => kb env | some false => some false | none => none) := rfl
@[simp] theorem bOr_s : bOr fb kb env = (match fb env with | some true => some true | some false => kb env | none => none) := rfl
@[simp] theorem bNot_s : bNot fb env = (match fb env with | some b => some (!b) | none => none) := rfl
@[simp] theorem eAnd_s : eAnd f k env = (match f env with | some (.bool true) => k env | some (.bool false) => some (.bool false) | _ => none) := rfl
@[simp] theorem eOr_s : eOr f k env = (match f env with | some (.bool true) => some (.bool true) | some (.bool false) => k env | _ => none) := rfl
@[simp] theorem eNot_s : eNot f env = (match f env with | some (.bool b) => some (.bool (!b)) | _ => none) := rfl
@[simp] theorem eIf_s : eIf fb f k env = (match fb env with | some true => f env | some false => k env | none => none) := rfl
@[simp] theorem eChain_s (g g' : D → D → Option D) : eChain g g' f k l env = (match f env with
  | some x => (match k env with
    | some y => (match g x y with
      | some (.bool true) => (match l env with
        | some z => g' y z
        | none => none)
      | some (.bool false) => some (.bool false)
      | _ => none)
    | none => none)
  | none => none) := rfl
@[simp] theorem oN_s : oN env = some none := rfl
@[simp] theorem oS_s : oS f env = (match f env with | some (.int i) => some (some i) | _ => none) := rfl
@[simp] theorem eSl_s (g : D → Option Int → Option Int → Option D) (lo hi : SE → Option (Option Int)) : eSl g f lo hi env = (match f env with
  | some d => (match lo env with
    | some a => (match hi env with
      | some b => g d a b
      | none => none)
    | none => none)
  | none => none) := rfl
@[simp] theorem cNext_s : cNext env = some (.next env) := rfl
@[simp] theorem cSeq_s : cSeq F G env = (match F env with | some (.next e) => G e | o => o) := rfl
@[simp] theorem cAsg_s : cAsg f a env = (match f env with | some d => (match a d env with | some e => some (.next e) | none => none) | none => none) := rfl
@[simp] theorem cDrop_s : cDrop f env = (match f env with | some _ => some (.next env) | none => none) := rfl
@[simp] theorem cRet_s : cRet f env = (match f env with | some d => some (.ret d) | none => none) := rfl
@[simp] theorem cIf_s : cIf fb F G env = (match fb env with | some true => F env | some false => G env | none => none) := rfl
@[simp] theorem cNever_s : cNever env = none := rfl
@[simp] theorem cPro_s : cPro F env = (if noMo env then F (proAll env) else none) := rfl
@[simp] theorem cPro1_s : cPro1 i F env = (match env[i]? with | some s => if proOk s then F (env.set i (proD s)) else none | none => none) := rfl
@[simp] theorem cFor_s (fi : SE → Option (List D)) : cFor fi a F env = (match fi env with | some ds => forRun a F ds env | none => none) := rfl
@[simp] theorem aName_s : aName i d env = some (env.set i (.pu d)) := rfl
@[simp] theorem gsNil_s : gsNil [] env = some env := rfl
@[simp] theorem gsCons_s (ds : List D) : gsCons a b (d :: ds) env = (match a d env with | some env' => b ds env' | none => none) := rfl
@[simp] theorem aTup_s (n : Nat) (ds : List D) : aTup n b (.tuple ds) env = (if ds.length == n then b ds env else none) := rfl
@[simp] theorem iOf_s (g : D → Option (List D)) : iOf g f env = (match f env with | some d => g d | none => none) := rfl
@[simp] theorem lstOf_s (ds : List D) : lstOf (.list ds) = some ds := rfl
@[simp] theorem tupOf_s (ds : List D) : tupOf (.tuple ds) = some ds := rfl
@[simp] theorem forRun_nil : forRun a F [] env = some (.next env) := rfl
theorem forRun_cons (ds : List D) : forRun a F (d :: ds) env = (match a d env with
    | none => none
    | some e => (match F e with
      | some (.next e) => forRun a F ds e
      | some (.cont e) => forRun a F ds e
      | some (.brk e) => some (.next e)
      | some (.ret d) => some (.ret d)
      | some (.rets d e) => some (.rets d e)
      | none => none)) := rfl
@[simp] theorem noMo_nil : noMo [] = true := rfl
@[simp] theorem noMo_cons (s : SD) : noMo (s :: env) = (nm s && noMo env) := rfl
@[simp] theorem nm_pu (d : D) : nm (.pu d) = true := rfl
@[simp] theorem nm_un : nm .un = true := rfl
@[simp] theorem nm_ol (d : List D) : nm (.ol d) = true := rfl
@[simp] theorem nm_ok (d : List (D × D)) : nm (.ok d) = true := rfl
@[simp] theorem nm_ot (d : List (D × D)) : nm (.ot d) = true := rfl
@[simp] theorem nm_sc (d : List Int) : nm (.sc d) = true := rfl
@[simp] theorem proAll_nil : proAll [] = [] := rfl
@[simp] theorem proAll_cons (s : SD) : proAll (s :: env) = proD s :: proAll env := rfl
@[simp] theorem proD_pu_s (d : D) : proD (.pu d) = .pu d := rfl
@[simp] theorem proD_un_s : proD .un = .un := rfl
@[simp] theorem proD_ol_s (ds : List D) : proD (.ol ds) = .pu (.list ds) := rfl
@[simp] theorem proD_ok_s (ds : List (D × D)) : proD (.ok ds) = .pu (.dict ds) := rfl
@[simp] theorem proD_ot_s (ds : List (D × D)) : proD (.ot ds) = .pu (.dict ds) := rfl
@[simp] theorem gN_s (n : Nat) (g : List D → Option D) (ds : List D) : gN n g ds = if ds.length == n then g ds else none := rfl
theorem runF_s (N : Nat) (ds : List D) : runF N F ds = (match F (env0 N ds) with
  | some (.ret d) => some d
  | some (.rets d _) => some d
  | some (.next _) => some .none
  | _ => none) := rfl
@[simp] theorem mkTup_s (ds : List D) : mkTup ds = if szOk ds.length then some (.tuple ds) else none := rfl
@[simp] theorem mkLst_s (ds : List D) : mkLst ds = if szOk ds.length then some (.list ds) else none := rfl
end
theorem szOk_le {n : Nat} (h : n ≤ 100000) : szOk n = true := decide_eq_true h
@[simp] theorem szOk_0 : szOk 0 = true := rfl
@[simp] theorem szOk_1 : szOk 1 = true := rfl
@[simp] theorem szOk_2 : szOk 2 = true := rfl
@[simp] theorem szOk_3 : szOk 3 = true := rfl
@[simp] theorem szOk_4 : szOk 4 = true := rfl
@[simp] theorem szOk_01 : szOk (0 + 1) = true := rfl
theorem fr_next {a : D → SE → Option SE} {F : SE → Option Out} {d : D} {ds : List D} {env e1 e2 : SE} (h1 : a d env = some e1) (h2 : F e1 = some (.next e2)) : forRun a F (d :: ds) env = forRun a F ds e2 := by
  rw [forRun_cons, h1]
  simp only [h2]
theorem fr_ret {a : D → SE → Option SE} {F : SE → Option Out} {d r : D} {ds : List D} {env e1 : SE} (h1 : a d env = some e1) (h2 : F e1 = some (.ret r)) : forRun a F (d :: ds) env = some (.ret r) := by
  rw [forRun_cons, h1]
  simp only [h2]
theorem for_fold {α β : Type} (en : α → D) (R : β → SE → Prop) (step : β → α → β) {a : D → SE → Option SE} {F : SE → Option Out} : ∀ (l : List α),
    (∀ s x env, x ∈ l → R s env → ∃ e1 e2, a (en x) env = some e1 ∧ F e1 = some (.next e2) ∧ R (step s x) e2) → ∀ s env, R s env → ∃ e, forRun a F (l.map en) env = some (.next e) ∧ R (l.foldl step s) e
  | [], _, s, env, r => ⟨env, rfl, r⟩
  | x :: l, h, s, env, r => by
    obtain ⟨e1, e2, h1, h2, h3⟩ := h s x env (by simp) r
    obtain ⟨e, h4, h5⟩ := for_fold en R step l (fun s y env m => h s y env (by simp [m])) _ _ h3
    exact ⟨e, by rw [List.map_cons, forRun_cons, h1]; simp only [h2]; exact h4, h5⟩
/-- with the number of turns behind -/
theorem for_foldN {α β : Type} (en : α → D) (R : Nat → β → SE → Prop) (step : β → α → β) {a : D → SE → Option SE} {F : SE → Option Out} : ∀ (l : List α) (n : Nat),
    (∀ i s x env, x ∈ l → i < n + l.length → R i s env → ∃ e1 e2, a (en x) env = some e1 ∧ F e1 = some (.next e2) ∧ R (i + 1) (step s x) e2) → ∀ s env, R n s env → ∃ e, forRun a F (l.map en) env = some (.next e) ∧ R (n + l.length) (l.foldl step s) e
  | [], n, _, s, env, r => ⟨env, rfl, r⟩
  | x :: l, n, h, s, env, r => by
    obtain ⟨e1, e2, h1, h2, h3⟩ := h n s x env (by simp) (by simp) r
    obtain ⟨e, h4, h5⟩ := for_foldN en R step l (n + 1) (fun i s y env m hi => h i s y env (by simp [m]) (by rw [List.length_cons]; omega)) _ _ h3
    exact ⟨e, by rw [List.map_cons, forRun_cons, h1]; simp only [h2]; exact h4, by rw [List.length_cons, List.foldl_cons, show n + (l.length + 1) = n + 1 + l.length by omega]; exact h5⟩
theorem lc_map {α : Type} (f : α → D) (p : α → Bool) (g : α → D) {vs : List Nat} {a : D → SE → Option SE} {ft : SE → Option Bool} {fe : SE → Option D} {env : SE} : ∀ (l : List α),
    (∀ x ∈ l, ∃ e, a (f x) (wipeE env vs) = some e ∧ ft e = some (p x) ∧ (p x = true → fe e = some (g x))) → lcRun vs a ft fe env (l.map f) = some ((l.filter p).map g)
  | [], _ => rfl
  | x :: l, h => by
    obtain ⟨e, h1, h2, h3⟩ := h x (by simp)
    have ih := lc_map f p g l fun y m => h y (by simp [m])
    rw [List.map_cons]
    unfold lcRun
    rw [h1]
    simp only [h2]
    rw [List.filter_cons]
    cases q : p x with
    | true =>
      simp only [h3 q, ih]
      rfl
    | false =>
      simp only [ih]
      rfl
/-! ### the operations -/
@[simp] theorem gEq_ii (i j : Int) : gEq (.int i) (.int j) = some (.bool (decide (i = j))) := rfl
@[simp] theorem gNe_ii (i j : Int) : gNe (.int i) (.int j) = some (.bool (!decide (i = j))) := rfl
@[simp] theorem gIsNot_n (d : D) : gIsNot d .none = some (.bool (!isNone d)) := rfl
@[simp] theorem gIs_n (d : D) : gIs d .none = some (.bool (isNone d)) := rfl
@[simp] theorem isNone_n : isNone .none = true := rfl
@[simp] theorem isNone_i (i : Int) : isNone (.int i) = false := rfl
@[simp] theorem isNone_t (i : List D) : isNone (.tuple i) = false := rfl
@[simp] theorem isNone_l (i : List D) : isNone (.list i) = false := rfl
@[simp] theorem gAdd_ii (i j : Int) : gAdd (.int i) (.int j) = some (.int (i + j)) := rfl
@[simp] theorem gSub_ii (i j : Int) : gSub (.int i) (.int j) = some (.int (i - j)) := rfl
@[simp] theorem gLt_ii (i j : Int) : gLt (.int i) (.int j) = some (.bool (decide (i < j))) := rfl
@[simp] theorem gLe_ii (i j : Int) : gLe (.int i) (.int j) = some (.bool (decide (i ≤ j))) := rfl
@[simp] theorem gGt_ii (i j : Int) : gGt (.int i) (.int j) = some (.bool (decide (j < i))) := rfl
@[simp] theorem gGe_ii (i j : Int) : gGe (.int i) (.int j) = some (.bool (decide (j ≤ i))) := rfl
@[simp] theorem gMod_ii (i j : Int) : gMod (.int i) (.int j) = if decide (0 < j) then some (.int (i % j)) else none := rfl
@[simp] theorem gDiv_ii (i j : Int) : gDiv (.int i) (.int j) = if decide (0 < j ∧ j < 1073741824) then some (.int (i / j)) else none := rfl
@[simp] theorem gAdd_tt (a b : List D) : gAdd (.tuple a) (.tuple b) = if szOk (a.length + b.length) then some (.tuple (a ++ b)) else none := by
  unfold gAdd gCatT gI
  simp
  split <;> rfl
@[simp] theorem gAdd_ll (a b : List D) : gAdd (.list a) (.list b) = if szOk (a.length + b.length) then some (.list (a ++ b)) else none := by
  unfold gAdd gCatT gCatL gI
  simp
theorem atI_n {α : Type} (l : List α) (n : Nat) : L2.atI l (n : Int) = l[n]? := by
  unfold L2.atI L2.ixN
  simp
  by_cases h : n < l.length
  · simp [h]
  · simp [h]
theorem gIx_t (l : List D) (n : Nat) : gIx (.tuple l) (.int (n : Int)) = l[n]? := by
  unfold gIx gIxS gDict
  simp [atI_n]
theorem gIx_l (l : List D) (n : Nat) : gIx (.list l) (.int (n : Int)) = l[n]? := by
  unfold gIx gIxS gDict
  simp [atI_n]
@[simp] theorem gIx_t0 (a : D) (l : List D) : gIx (.tuple (a :: l)) (.int 0) = some a := gIx_t (a :: l) 0
@[simp] theorem gIx_t1 (a b : D) (l : List D) : gIx (.tuple (a :: b :: l)) (.int 1) = some b := gIx_t (a :: b :: l) 1
@[simp] theorem gIx_t2 (a b c : D) (l : List D) : gIx (.tuple (a :: b :: c :: l)) (.int 2) = some c := gIx_t (a :: b :: c :: l) 2
@[simp] theorem gIx_t3 (a b c d : D) (l : List D) : gIx (.tuple (a :: b :: c :: d :: l)) (.int 3) = some d := gIx_t (a :: b :: c :: d :: l) 3
@[simp] theorem gIx_t4 (a b c d e : D) (l : List D) : gIx (.tuple (a :: b :: c :: d :: e :: l)) (.int 4) = some e := gIx_t (a :: b :: c :: d :: e :: l) 4
@[simp] theorem gLen_l (l : List D) : gLen [.list l] = some (.int l.length) := rfl
@[simp] theorem gLen_t (l : List D) : gLen [.tuple l] = some (.int l.length) := rfl
@[simp] theorem gTuple_l (l : List D) : gTuple [.list l] = some (.tuple l) := rfl
@[simp] theorem gTuple_t (l : List D) : gTuple [.tuple l] = some (.tuple l) := rfl
@[simp] theorem gList_l (l : List D) : gList [.list l] = some (.list l) := rfl
@[simp] theorem gList_t (l : List D) : gList [.tuple l] = some (.list l) := rfl
@[simp] theorem gSl_t (l : List D) (a b : Option Int) : gSl (.tuple l) a b = some (.tuple (cutD l a b)) := rfl
@[simp] theorem gSl_l (l : List D) (a b : Option Int) : gSl (.list l) a b = some (.list (cutD l a b)) := rfl
theorem cut_hi (l : List D) (n : Nat) : cutD l none (some (n : Int)) = l.take n := by
  unfold cutD
  rw [HT.sIx_nat, HT.sIx_none]
  simp
theorem cut_lo (l : List D) (n : Nat) : cutD l (some (n : Int)) none = l.drop n := by
  unfold cutD
  rw [HT.sIx_nat, HT.sIx_none]
  by_cases h : n ≤ l.length
  · rw [Nat.min_eq_left h, List.take_of_length_le (by simp)]
  · rw [Nat.min_eq_right (by omega), List.drop_of_length_le (by omega), List.drop_of_length_le (by omega)]
    simp
theorem cut_both (l : List D) (m n : Nat) : cutD l (some (m : Int)) (some (n : Int)) = (l.drop m).take (n - m) := by
  unfold cutD
  rw [HT.sIx_nat, HT.sIx_nat]
  by_cases h : m ≤ l.length
  · rw [Nat.min_eq_left h]
    by_cases h2 : n ≤ l.length
    · rw [Nat.min_eq_left h2]
    · rw [Nat.min_eq_right (by omega), List.take_of_length_le (by rw [List.length_drop]; omega), List.take_of_length_le (by rw [List.length_drop]; omega)]
  · rw [Nat.min_eq_right (show l.length ≤ m by omega), List.drop_of_length_le (Nat.le_refl _), List.drop_of_length_le (by omega)]
    simp
/-! ### typed data -/
inductive Nm where
  | stuck | slow | forgets | misreads | turns | sets | keeps | nowhere | other | both
  deriving DecidableEq, Repr
def nms : Nm → Str
  | .stuck => "stuck" | .slow => "slow" | .forgets => "forgets" | .misreads => "misreads" | .turns => "turns" | .sets => "sets" | .keeps => "keeps" | .nowhere => "nowhere" | .other => "other" | .both => "both"
structure Hm where
  k : Nm
  a : Nat
  b : Nat
  v : Bool
  w : Bool
def eb (b : Bool) : D := .int (if b then 1 else 0)
abbrev en (n : Nat) : D := .int (n : Int)
def tl (h : Hm) : List D := match h.k with
  | .stuck | .slow | .forgets | .misreads | .nowhere => [en h.a, eb h.v]
  | .turns => [en h.a, en h.b, eb h.v]
  | .sets | .keeps => [en h.a, en h.b, eb h.v, eb h.w]
  | .other => [en h.a, en h.b]
  | .both => [en h.a, en h.b, .str (if h.v then "and" else "or")]
def eh (h : Hm) : D := .tuple (.str (nms h.k) :: tl h)
def eH (hs : List Hm) : D := .list (hs.map eh)
def ec (c : List Bool) : D := .tuple (c.map eb)
def eo {α : Type} (f : α → D) : Option α → D
  | some x => f x
  | none => .none
@[simp] theorem eo_some {α : Type} (f : α → D) (x : α) : eo f (some x) = f x := rfl
@[simp] theorem eo_none {α : Type} (f : α → D) : eo f none = .none := rfl
@[simp] theorem isNone_eb (b : Bool) : isNone (eb b) = false := rfl
@[simp] theorem gEq_bb (a b : Bool) : gEq (eb a) (eb b) = some (.bool (decide (a = b))) := by cases a <;> cases b <;> rfl
@[simp] theorem gNe_bb (a b : Bool) : gNe (eb a) (eb b) = some (.bool (!decide (a = b))) := by cases a <;> cases b <;> rfl
@[simp] theorem gEq_nn (a b : Nat) : gEq (en a) (en b) = some (.bool (decide (a = b))) := by
  rw [gEq_ii]
  congr 2
  exact decide_eq_decide.mpr Int.ofNat_inj
@[simp] theorem ix0 (h : Hm) : gIx (eh h) (.int 0) = some (.str (nms h.k)) := gIx_t0 _ _
@[simp] theorem ix1 (h : Hm) : gIx (eh h) (.int 1) = some (en h.a) := by
  obtain ⟨k, a, b, v, w⟩ := h
  cases k <;> exact gIx_t1 _ _ _
theorem gEq_ss {a b : Str} (ha : PyData.strOk a = true) (hb : PyData.strOk b = true) : gEq (.str a) (.str b) = some (.bool (decide (a = b))) := by
  have h : ∀ x : Str, PyData.strOk x = true → SeqAt.shaped (.str x) = true := fun x hx => by
    unfold SeqAt.shaped
    simp only [PyData.canLay0, hx]
    rfl
  unfold gEq
  rw [h a ha, h b hb]
  rfl
theorem nms_ok (k : Nm) : PyData.strOk (nms k) = true := by cases k <;> decide +kernel
theorem nm_eq {k n : Nm} {x : Str} (hx : x = nms n) : gEq (.str (nms k)) (.str x) = some (.bool (decide (k = n))) := by
  subst hx
  rw [gEq_ss (nms_ok k) (nms_ok n)]
  cases k <;> cases n <;> (congr 2 <;> decide +kernel)
@[simp] theorem nm_stuck (k : Nm) : gEq (.str (nms k)) (.str "stuck") = some (.bool (decide (k = .stuck))) := nm_eq rfl
@[simp] theorem nm_keeps (k : Nm) : gEq (.str (nms k)) (.str "keeps") = some (.bool (decide (k = .keeps))) := nm_eq rfl
@[simp] theorem nm_nowhere (k : Nm) : gEq (.str (nms k)) (.str "nowhere") = some (.bool (decide (k = .nowhere))) := nm_eq rfl
@[simp] theorem nm_other (k : Nm) : gEq (.str (nms k)) (.str "other") = some (.bool (decide (k = .other))) := nm_eq rfl
@[simp] theorem nm_forgets (k : Nm) : gEq (.str (nms k)) (.str "forgets") = some (.bool (decide (k = .forgets))) := nm_eq rfl
end Tm

namespace Tm
/-! ### the machine, typed -/
def gb (ct : List Bool) (c : Nat) : Bool := ct.getD c false
def stuckAt : List Hm → Nat → Option Bool
  | [], _ => none
  | h :: r, c => if h.k = .stuck ∧ h.a = c then some h.v else stuckAt r c
def withBit (hs : List Hm) (ct : List Bool) (c : Nat) (b : Bool) : List Bool := if (stuckAt hs c).isSome then ct else ct.set c b
def fixStep (hs : List Hm) (held : List Bool) (c : Nat) : List Bool := match stuckAt hs c with
  | some b => held.set c b
  | none => held
def keepStep (hs : List Hm) (held : List Bool) (h : Hm) : List Bool := if h.k = .keeps ∧ gb held h.a = h.v then withBit hs held h.b h.w else held
def heldFirst (hs : List Hm) (ct : List Bool) : List Bool := hs.foldl (keepStep hs) ((List.range ct.length).foldl (fixStep hs) ct)
def adr (k : Nm) : Bool := match k with
  | .nowhere | .other | .both => true
  | _ => false
def addressHarm : List Hm → Nat → Option Hm
  | [], _ => none
  | h :: r, a => if adr h.k = true ∧ h.a = a then some h else addressHarm r a
def reachedT : Option Hm → Nat → List Nat
  | none, a => [a]
  | some h, a => if h.k = .nowhere then [] else if h.k = .other then [h.b] else [a, h.b]
def slowIn (hs : List Hm) (c : Nat) (b : Bool) : Bool := hs.any fun h => decide (h.k = .slow ∧ h.a = c ∧ h.v = b)
def keepAt (ct : List Bool) : List Hm → Nat → Option Bool
  | [], _ => none
  | h :: r, c => if h.k = .keeps ∧ h.b = c ∧ gb ct h.a = h.v then some h.w else keepAt ct r c
def comingT (hs : List Hm) (ct : List Bool) (c : Nat) (b : Bool) : Bool := if gb ct c ≠ b ∧ slowIn hs c b = true then gb ct c else (keepAt ct hs c).getD b
def chn (k : Nm) : Bool := match k with
  | .turns | .sets | .keeps => true
  | _ => false
def chStep (hs : List Hm) (c : Nat) (l : List Bool) (h : Hm) : List Bool := if chn h.k = true ∧ h.a = c ∧ h.v = gb l c then withBit hs l h.b (if h.k = .turns then !gb l h.b else h.w) else l
def writtenT (hs : List Hm) (ct : List Bool) (c : Nat) (b : Bool) : List Bool :=
  if withBit hs ct c (comingT hs ct c b) = ct then ct else hs.foldl (chStep hs c) (withBit hs ct c (comingT hs ct c b))
def rdr (k : Nm) : Bool := match k with
  | .forgets | .misreads => true
  | _ => false
def readAt (b : Bool) : List Hm → Nat → Option Hm
  | [], _ => none
  | h :: r, c => if rdr h.k = true ∧ h.a = c ∧ h.v = b then some h else readAt b r c
def wasReadT (hs : List Hm) (ct : List Bool) (c : Nat) : List Bool × Bool := match readAt (gb ct c) hs c with
  | some h => (withBit hs ct c (!gb ct c), if h.k = .forgets then gb ct c else gb (withBit hs ct c (!gb ct c)) c)
  | none => (ct, gb ct c)
def readBit (h : Option Hm) : List Bool → Bool
  | [] => (h.map (·.v)).getD false
  | [b] => b
  | l => if (h.map (·.v)).getD false then l.all id else l.any id
def actW (hs : List Hm) (b : Bool) (ct : List Bool) (cells : List Nat) : List Bool := cells.foldl (fun c cell => writtenT hs c cell b) ct
def rdStep (hs : List Hm) (s : List Bool × List Bool) (cell : Nat) : List Bool × List Bool := ((wasReadT hs s.1 cell).1, s.2 ++ [(wasReadT hs s.1 cell).2])
def actR (hs : List Hm) (ct : List Bool) (cells : List Nat) : List Bool × List Bool := cells.foldl (rdStep hs) (ct, [])
def actedT (hs : List Hm) (ct : List Bool) (a : Nat) (s : Bool × Bool) : List Bool × Option Bool :=
  if s.1 then ((actR hs ct (reachedT (addressHarm hs a) a)).1, some (readBit (addressHarm hs a) (actR hs ct (reachedT (addressHarm hs a) a)).2)) else (actW hs s.2 ct (reachedT (addressHarm hs a) a), none)

/-! ### its symmetries -/
structure Sy (n : Nat) where
  f : Nat → Nat
  x : Bool
  T : List Bool → List Bool
  flt : ∀ c, c < n → f c < n
  inj : ∀ c d, c < n → d < n → f c = f d → c = d
  len : ∀ ct : List Bool, ct.length = n → (T ct).length = n
  get : ∀ (ct : List Bool) c, ct.length = n → c < n → gb (T ct) (f c) = (gb ct c ^^ x)
  set : ∀ (ct : List Bool) c b, ct.length = n → c < n → T (ct.set c b) = (T ct).set (f c) (b ^^ x)
  tinj : ∀ ct cu : List Bool, ct.length = n → cu.length = n → T ct = T cu → ct = cu
  sur : ∀ ct : List Bool, ct.length = n → ∃ cu, cu.length = n ∧ T cu = ct
  fsur : ∀ c, c < n → ∃ d, d < n ∧ f d = c
def mapH (f : Nat → Nat) (x : Bool) (h : Hm) : Hm := ⟨h.k, f h.a, f h.b, h.v ^^ x, h.w ^^ x⟩
def HOk (n : Nat) (h : Hm) : Prop := h.a < n ∧ h.b < n
section
variable {n : Nat} (S : Sy n)
def mh (h : Hm) : Hm := mapH S.f S.x h
theorem feq {c d : Nat} (hc : c < n) (hd : d < n) : (S.f c = S.f d) ↔ c = d := ⟨S.inj c d hc hd, fun e => by rw [e]⟩
theorem xeq (a b x : Bool) : ((a ^^ x) = (b ^^ x)) ↔ a = b := by cases a <;> cases b <;> cases x <;> simp
variable {S}
theorem stuck_eq {hs : List Hm} (ok : ∀ h ∈ hs, HOk n h) {c : Nat} (hc : c < n) : stuckAt (hs.map (mh S)) (S.f c) = (stuckAt hs c).map (· ^^ S.x) := by
  induction hs with
  | nil => rfl
  | cons h r ih =>
    have o := ok h (by simp)
    simp only [List.map_cons, stuckAt, mh, mapH, feq S o.1 hc]
    split
    · rfl
    · exact ih fun h' m => ok h' (by simp [m])
theorem withBit_len {hs : List Hm} {ct : List Bool} {c : Nat} {b : Bool} : (withBit hs ct c b).length = ct.length := by
  unfold withBit
  split
  · rfl
  · simp
theorem withBit_eq {hs : List Hm} (ok : ∀ h ∈ hs, HOk n h) {ct : List Bool} {c : Nat} {b : Bool} (hl : ct.length = n) (hc : c < n) : withBit (hs.map (mh S)) (S.T ct) (S.f c) (b ^^ S.x) = S.T (withBit hs ct c b) := by
  unfold withBit
  rw [stuck_eq ok hc, Option.isSome_map]
  split
  · rfl
  · exact (S.set ct c b hl hc).symm
theorem fix_len {hs : List Hm} : ∀ {l : List Nat} {ct : List Bool}, (l.foldl (fixStep hs) ct).length = ct.length
  | [], _ => rfl
  | c :: l, ct => by
    rw [List.foldl_cons, fix_len]
    unfold fixStep
    split <;> simp
theorem keep_len {hs : List Hm} : ∀ {l : List Hm} {ct : List Bool}, (l.foldl (keepStep hs) ct).length = ct.length
  | [], _ => rfl
  | c :: l, ct => by
    rw [List.foldl_cons, keep_len]
    unfold keepStep
    split
    · exact withBit_len
    · rfl
theorem gb_set {ct : List Bool} {c d : Nat} {b : Bool} (hc : c < ct.length) : gb (ct.set c b) d = if c = d then b else gb ct d := by
  unfold gb
  rw [List.getD_eq_getElem?_getD, List.getD_eq_getElem?_getD]
  by_cases h : c = d
  · subst h
    rw [List.getElem?_set_self hc, if_pos rfl]
    rfl
  · rw [List.getElem?_set_ne h, if_neg h]
theorem gb_ext {ct cu : List Bool} (hl : ct.length = cu.length) (h : ∀ c, c < ct.length → gb ct c = gb cu c) : ct = cu := by
  apply List.ext_getElem hl
  intro i h1 h2
  have := h i h1
  unfold gb at this
  rw [List.getD_eq_getElem?_getD, List.getD_eq_getElem?_getD, List.getElem?_eq_getElem h1, List.getElem?_eq_getElem h2] at this
  exact this
theorem fix_get {hs : List Hm} : ∀ (l : List Nat) {ct : List Bool} (d : Nat), (∀ c ∈ l, c < ct.length) → gb (l.foldl (fixStep hs) ct) d = if d ∈ l then (stuckAt hs d).getD (gb ct d) else gb ct d
  | [], ct, d, _ => by simp
  | c :: l, ct, d, h => by
    have hc := h c (by simp)
    have hs' : (fixStep hs ct c).length = ct.length := by
      unfold fixStep
      split <;> simp
    rw [List.foldl_cons, fix_get l d fun e m => by rw [hs']; exact h e (by simp [m])]
    have hg : gb (fixStep hs ct c) d = if c = d then (stuckAt hs d).getD (gb ct d) else gb ct d := by
      unfold fixStep
      split
      · rename_i b e
        rw [gb_set hc]
        by_cases h2 : c = d
        · subst h2
          rw [if_pos rfl, if_pos rfl, e]
          rfl
        · rw [if_neg h2, if_neg h2]
      · rename_i e
        by_cases h2 : c = d
        · subst h2
          rw [if_pos rfl, e]
          rfl
        · rw [if_neg h2]
    rw [hg]
    by_cases h1 : c = d
    · subst h1
      rw [if_pos rfl]
      have : c ∈ c :: l := by simp
      rw [if_pos this]
      split
      · cases stuckAt hs c <;> rfl
      · rfl
    · rw [if_neg h1]
      have : d ∈ c :: l ↔ d ∈ l := by
        rw [List.mem_cons]
        exact ⟨fun z => z.resolve_left fun e => h1 e.symm, .inr⟩
      simp only [this]
theorem fixAll_eq {hs : List Hm} (ok : ∀ h ∈ hs, HOk n h) {ct : List Bool} (hl : ct.length = n) : (List.range (S.T ct).length).foldl (fixStep (hs.map (mh S))) (S.T ct) = S.T ((List.range ct.length).foldl (fixStep hs) ct) := by
  have hl2 := S.len ct hl
  have hl3 : ((List.range ct.length).foldl (fixStep hs) ct).length = n := fix_len.trans hl
  apply gb_ext
  · rw [fix_len, hl2, S.len _ hl3]
  · intro c hc
    rw [fix_len, hl2] at hc
    obtain ⟨d, hd, rfl⟩ := S.fsur c hc
    rw [S.get _ d hl3 hd, fix_get _ _ (fun e m => List.mem_range.mp m), fix_get _ _ (fun e m => List.mem_range.mp m), hl2, hl, if_pos (List.mem_range.mpr hc), if_pos (List.mem_range.mpr hd), stuck_eq ok hd, S.get ct d hl hd]
    cases stuckAt hs d <;> rfl
theorem keepAll_eq {hs : List Hm} (ok : ∀ h ∈ hs, HOk n h) : ∀ {l : List Hm} {ct : List Bool}, (∀ h ∈ l, HOk n h) → ct.length = n → (l.map (mh S)).foldl (keepStep (hs.map (mh S))) (S.T ct) = S.T (l.foldl (keepStep hs) ct)
  | [], _, _, _ => rfl
  | h :: l, ct, o, hl => by
    have oh := o h (by simp)
    have e : keepStep (hs.map (mh S)) (S.T ct) (mh S h) = S.T (keepStep hs ct h) := by
      unfold keepStep
      show (if h.k = .keeps ∧ gb (S.T ct) (S.f h.a) = (h.v ^^ S.x) then withBit (hs.map (mh S)) (S.T ct) (S.f h.b) (h.w ^^ S.x) else S.T ct) = _
      simp only [S.get ct h.a hl oh.1, xeq]
      split
      · exact withBit_eq ok hl oh.2
      · rfl
    rw [List.map_cons, List.foldl_cons, List.foldl_cons, e]
    refine keepAll_eq ok (fun h' m => o h' (by simp [m])) ?_
    unfold keepStep
    split
    · exact withBit_len.trans hl
    · exact hl
theorem held_len {hs : List Hm} {ct : List Bool} : (heldFirst hs ct).length = ct.length := by
  unfold heldFirst
  rw [keep_len, fix_len]
theorem held_eq {hs : List Hm} (ok : ∀ h ∈ hs, HOk n h) {ct : List Bool} (hl : ct.length = n) : heldFirst (hs.map (mh S)) (S.T ct) = S.T (heldFirst hs ct) := by
  unfold heldFirst
  rw [fixAll_eq ok hl, keepAll_eq ok ok (fix_len.trans hl)]
theorem adr_eq {hs : List Hm} (ok : ∀ h ∈ hs, HOk n h) {a : Nat} (ha : a < n) : addressHarm (hs.map (mh S)) (S.f a) = (addressHarm hs a).map (mh S) := by
  induction hs with
  | nil => rfl
  | cons h r ih =>
    have o := ok h (by simp)
    simp only [List.map_cons, addressHarm, mh, mapH, feq S o.1 ha]
    split
    · rfl
    · exact ih fun h' m => ok h' (by simp [m])
theorem adr_ok {hs : List Hm} (ok : ∀ h ∈ hs, HOk n h) {a : Nat} {h : Hm} (e : addressHarm hs a = some h) : HOk n h ∧ adr h.k = true := by
  induction hs with
  | nil => cases e
  | cons h' r ih =>
    unfold addressHarm at e
    split at e
    · rename_i q
      cases e
      exact ⟨ok _ (by simp), q.1⟩
    · exact ih (fun h' m => ok h' (by simp [m])) e
theorem reached_eq {h : Option Hm} {a : Nat} : reachedT (h.map (mh S)) (S.f a) = (reachedT h a).map S.f := by
  cases h with
  | none => rfl
  | some h =>
    simp only [Option.map_some, reachedT, mh, mapH]
    split
    · rfl
    · split <;> rfl
theorem reached_ok {h : Option Hm} {a : Nat} (ha : a < n) (ok : ∀ g, h = some g → HOk n g) : ∀ c ∈ reachedT h a, c < n := by
  intro c hc
  cases h with
  | none =>
    simp [reachedT] at hc
    omega
  | some h =>
    have o := ok h rfl
    unfold reachedT at hc
    simp only at hc
    split at hc
    · cases hc
    · split at hc
      · simp at hc
        have := o.2
        omega
      · simp at hc
        have := o.2
        omega
theorem slow_eq {hs : List Hm} (ok : ∀ h ∈ hs, HOk n h) {c : Nat} (hc : c < n) {b : Bool} : slowIn (hs.map (mh S)) (S.f c) (b ^^ S.x) = slowIn hs c b := by
  induction hs with
  | nil => rfl
  | cons h r ih =>
    have o := ok h (by simp)
    have ih := ih fun h' m => ok h' (by simp [m])
    unfold slowIn at ih ⊢
    rw [List.map_cons, List.any_cons, List.any_cons, ih]
    congr 1
    simp only [mh, mapH, feq S o.1 hc, xeq]
theorem keepAt_eq {ct : List Bool} (hl : ct.length = n) {hs : List Hm} (ok : ∀ h ∈ hs, HOk n h) {c : Nat} (hc : c < n) : keepAt (S.T ct) (hs.map (mh S)) (S.f c) = (keepAt ct hs c).map (· ^^ S.x) := by
  induction hs with
  | nil => rfl
  | cons h r ih =>
    have o := ok h (by simp)
    simp only [List.map_cons, keepAt, mh, mapH, feq S o.2 hc, S.get ct h.a hl o.1, xeq]
    split
    · rfl
    · exact ih fun h' m => ok h' (by simp [m])
theorem coming_eq {hs : List Hm} (ok : ∀ h ∈ hs, HOk n h) {ct : List Bool} (hl : ct.length = n) {c : Nat} (hc : c < n) {b : Bool} : comingT (hs.map (mh S)) (S.T ct) (S.f c) (b ^^ S.x) = (comingT hs ct c b ^^ S.x) := by
  unfold comingT
  rw [S.get ct c hl hc, slow_eq ok hc, keepAt_eq hl ok hc]
  simp only [ne_eq, xeq]
  split
  · rfl
  · cases keepAt ct hs c <;> rfl
theorem chStep_len {hs : List Hm} {c : Nat} {l : List Bool} {h : Hm} : (chStep hs c l h).length = l.length := by
  unfold chStep
  split
  · exact withBit_len
  · rfl
theorem chAll_len {hs : List Hm} {c : Nat} : ∀ {l : List Hm} {ct : List Bool}, (l.foldl (chStep hs c) ct).length = ct.length
  | [], _ => rfl
  | h :: l, ct => by rw [List.foldl_cons, chAll_len, chStep_len]
theorem chAll_eq {hs : List Hm} (ok : ∀ h ∈ hs, HOk n h) {c : Nat} (hc : c < n) : ∀ {l : List Hm} {ct : List Bool}, (∀ h ∈ l, HOk n h) → ct.length = n → (l.map (mh S)).foldl (chStep (hs.map (mh S)) (S.f c)) (S.T ct) = S.T (l.foldl (chStep hs c) ct)
  | [], _, _, _ => rfl
  | h :: l, ct, o, hl => by
    have oh := o h (by simp)
    have e : chStep (hs.map (mh S)) (S.f c) (S.T ct) (mh S h) = S.T (chStep hs c ct h) := by
      unfold chStep
      show (if chn h.k = true ∧ S.f h.a = S.f c ∧ (h.v ^^ S.x) = gb (S.T ct) (S.f c) then withBit (hs.map (mh S)) (S.T ct) (S.f h.b) (if h.k = .turns then !gb (S.T ct) (S.f h.b) else (h.w ^^ S.x)) else S.T ct) = _
      simp only [S.get ct c hl hc, S.get ct h.b hl oh.2, xeq, feq S oh.1 hc]
      split
      · have : (if h.k = .turns then !(gb ct h.b ^^ S.x) else (h.w ^^ S.x)) = ((if h.k = .turns then !gb ct h.b else h.w) ^^ S.x) := by
          split
          · cases gb ct h.b <;> cases S.x <;> rfl
          · rfl
        rw [this]
        exact withBit_eq ok hl oh.2
      · rfl
    rw [List.map_cons, List.foldl_cons, List.foldl_cons, e]
    exact chAll_eq ok hc (fun h' m => o h' (by simp [m])) (chStep_len.trans hl)
theorem written_len {hs : List Hm} {ct : List Bool} {c : Nat} {b : Bool} : (writtenT hs ct c b).length = ct.length := by
  unfold writtenT
  split
  · rfl
  · rw [chAll_len, withBit_len]
theorem written_eq {hs : List Hm} (ok : ∀ h ∈ hs, HOk n h) {ct : List Bool} (hl : ct.length = n) {c : Nat} (hc : c < n) {b : Bool} : writtenT (hs.map (mh S)) (S.T ct) (S.f c) (b ^^ S.x) = S.T (writtenT hs ct c b) := by
  unfold writtenT
  rw [coming_eq ok hl hc, withBit_eq ok hl hc]
  have hw : (withBit hs ct c (comingT hs ct c b)).length = n := withBit_len.trans hl
  by_cases h : withBit hs ct c (comingT hs ct c b) = ct
  · rw [if_pos h, if_pos (by rw [h])]
  · rw [if_neg h, if_neg fun e => h (S.tinj _ _ hw hl e)]
    exact chAll_eq ok hc ok hw
theorem readAt_eq {hs : List Hm} (ok : ∀ h ∈ hs, HOk n h) {c : Nat} (hc : c < n) {b : Bool} : readAt (b ^^ S.x) (hs.map (mh S)) (S.f c) = (readAt b hs c).map (mh S) := by
  induction hs with
  | nil => rfl
  | cons h r ih =>
    have o := ok h (by simp)
    simp only [List.map_cons, readAt, mh, mapH, feq S o.1 hc, xeq]
    split
    · rfl
    · exact ih fun h' m => ok h' (by simp [m])
theorem wasRead_len {hs : List Hm} {ct : List Bool} {c : Nat} : (wasReadT hs ct c).1.length = ct.length := by
  unfold wasReadT
  split
  · exact withBit_len
  · rfl
theorem wasRead_eq {hs : List Hm} (ok : ∀ h ∈ hs, HOk n h) {ct : List Bool} (hl : ct.length = n) {c : Nat} (hc : c < n) : wasReadT (hs.map (mh S)) (S.T ct) (S.f c) = (S.T (wasReadT hs ct c).1, ((wasReadT hs ct c).2 ^^ S.x)) := by
  unfold wasReadT
  rw [S.get ct c hl hc, readAt_eq ok hc]
  cases readAt (gb ct c) hs c with
  | none => rfl
  | some h =>
    simp only [Option.map_some]
    have e : (!(gb ct c ^^ S.x)) = (!gb ct c ^^ S.x) := by cases gb ct c <;> cases S.x <;> rfl
    have hw : (withBit hs ct c (!gb ct c)).length = n := withBit_len.trans hl
    rw [e, withBit_eq ok hl hc, S.get _ c hw hc]
    show (_, if h.k = .forgets then _ else _) = _
    split <;> rfl
theorem actW_len {hs : List Hm} {b : Bool} : ∀ {cells : List Nat} {ct : List Bool}, (actW hs b ct cells).length = ct.length
  | [], _ => rfl
  | c :: l, ct => by
    show (actW hs b (writtenT hs ct c b) l).length = _
    rw [actW_len, written_len]
theorem actW_eq {hs : List Hm} (ok : ∀ h ∈ hs, HOk n h) {b : Bool} : ∀ {cells : List Nat} {ct : List Bool}, ct.length = n → (∀ c ∈ cells, c < n) → actW (hs.map (mh S)) (b ^^ S.x) (S.T ct) (cells.map S.f) = S.T (actW hs b ct cells)
  | [], _, _, _ => rfl
  | c :: l, ct, hl, hc => by
    show actW (hs.map (mh S)) (b ^^ S.x) (writtenT (hs.map (mh S)) (S.T ct) (S.f c) (b ^^ S.x)) (l.map S.f) = S.T (actW hs b (writtenT hs ct c b) l)
    rw [written_eq ok hl (hc c (by simp))]
    exact actW_eq ok (written_len.trans hl) fun d m => hc d (by simp [m])
def rdAll (hs : List Hm) (s : List Bool × List Bool) (cells : List Nat) : List Bool × List Bool := cells.foldl (rdStep hs) s
theorem rd_len {hs : List Hm} : ∀ {cells : List Nat} {s : List Bool × List Bool}, (rdAll hs s cells).1.length = s.1.length ∧ (rdAll hs s cells).2.length = s.2.length + cells.length
  | [], _ => ⟨rfl, rfl⟩
  | c :: l, s => by
    have h := rd_len (hs := hs) (cells := l) (s := rdStep hs s c)
    show (rdAll hs (rdStep hs s c) l).1.length = _ ∧ (rdAll hs (rdStep hs s c) l).2.length = _
    rw [h.1, h.2]
    unfold rdStep
    simp [wasRead_len]
    omega
theorem rd_eq {hs : List Hm} (ok : ∀ h ∈ hs, HOk n h) : ∀ {cells : List Nat} {s : List Bool × List Bool}, s.1.length = n → (∀ c ∈ cells, c < n) → rdAll (hs.map (mh S)) (S.T s.1, s.2.map (· ^^ S.x)) (cells.map S.f) = (S.T (rdAll hs s cells).1, (rdAll hs s cells).2.map (· ^^ S.x))
  | [], _, _, _ => rfl
  | c :: l, s, hl, hc => by
    have e : rdStep (hs.map (mh S)) (S.T s.1, s.2.map (· ^^ S.x)) (S.f c) = (S.T (rdStep hs s c).1, (rdStep hs s c).2.map (· ^^ S.x)) := by
      unfold rdStep
      rw [wasRead_eq ok hl (hc c (by simp))]
      simp
    show rdAll (hs.map (mh S)) (rdStep (hs.map (mh S)) (S.T s.1, s.2.map (· ^^ S.x)) (S.f c)) (l.map S.f) = (S.T (rdAll hs (rdStep hs s c) l).1, (rdAll hs (rdStep hs s c) l).2.map (· ^^ S.x))
    rw [e]
    exact rd_eq ok (by unfold rdStep; exact wasRead_len.trans hl) fun d m => hc d (by simp [m])
theorem all_x : ∀ (l : List Bool) (x : Bool), (l.map (· ^^ x)).all id = (if x then !l.any id else l.all id) ∧ (l.map (· ^^ x)).any id = (if x then !l.all id else l.any id)
  | [], x => by cases x <;> simp
  | a :: l, x => by
    have ih := all_x l x
    cases x <;> simp_all
theorem readBit_eq {h : Option Hm} : ∀ {bits : List Bool}, (bits.length ≠ 1 → h.isSome = true) → readBit (h.map (mh S)) (bits.map (· ^^ S.x)) = (readBit h bits ^^ S.x)
  | [], q => by
    cases h with
    | none => exact absurd (q (by simp)) (by simp)
    | some h => rfl
  | [b], _ => rfl
  | b :: c :: l, q => by
    cases h with
    | none => exact absurd (q (by simp)) (by simp)
    | some h =>
      have e := all_x (b :: c :: l) S.x
      show (if (h.v ^^ S.x) then ((b :: c :: l).map (· ^^ S.x)).all id else ((b :: c :: l).map (· ^^ S.x)).any id) = ((if h.v then (b :: c :: l).all id else (b :: c :: l).any id) ^^ S.x)
      rw [e.1, e.2]
      generalize (b :: c :: l).all id = p
      generalize (b :: c :: l).any id = q
      cases h.v <;> cases S.x <;> cases p <;> cases q <;> rfl
theorem acted_len {hs : List Hm} {ct : List Bool} {a : Nat} {s : Bool × Bool} : (actedT hs ct a s).1.length = ct.length := by
  unfold actedT
  split
  · exact rd_len.1
  · exact actW_len
def flipS (x : Bool) (s : Bool × Bool) : Bool × Bool := (s.1, s.2 ^^ x)
theorem acted_eq {hs : List Hm} (ok : ∀ h ∈ hs, HOk n h) {ct : List Bool} (hl : ct.length = n) {a : Nat} (ha : a < n) {s : Bool × Bool} :
    actedT (hs.map (mh S)) (S.T ct) (S.f a) (flipS S.x s) = (S.T (actedT hs ct a s).1, (actedT hs ct a s).2.map (· ^^ S.x)) := by
  unfold actedT flipS
  have hc : ∀ c ∈ reachedT (addressHarm hs a) a, c < n := reached_ok ha fun g e => (adr_ok ok e).1
  rw [adr_eq ok ha, reached_eq]
  cases s.1 with
  | false => exact Prod.ext (actW_eq ok hl hc) rfl
  | true =>
    have e := rd_eq (S := S) (s := (ct, [])) ok hl hc
    have e' : actR (hs.map (mh S)) (S.T ct) ((reachedT (addressHarm hs a) a).map S.f) = (S.T (actR hs ct (reachedT (addressHarm hs a) a)).1, (actR hs ct (reachedT (addressHarm hs a) a)).2.map (· ^^ S.x)) := e
    simp only [if_true]
    rw [e']
    have hlen : (actR hs ct (reachedT (addressHarm hs a) a)).2.length = (reachedT (addressHarm hs a) a).length := by
      have := (rd_len (hs := hs) (cells := reachedT (addressHarm hs a) a) (s := (ct, []))).2
      exact this.trans (Nat.zero_add _)
    refine Prod.ext rfl ?_
    show some _ = some _
    rw [readBit_eq]
    intro q
    rw [hlen] at q
    cases h : addressHarm hs a with
    | none =>
      rw [h] at q
      exact absurd rfl q
    | some h => rfl
end
end Tm

namespace Tm
open PySem
/-! ### the machine's defs come to the typed machine -/
def oneC (k : Nm) : Bool := match k with
  | .stuck | .slow | .forgets | .misreads | .nowhere => true
  | _ => false
theorem ix2v {h : Hm} (hk : oneC h.k = true) : gIx (eh h) (.int 2) = some (eb h.v) := by
  obtain ⟨k, a, b, v, w⟩ := h
  cases k <;> first | (cases hk; done) | exact gIx_t2 _ _ _ _
theorem ix2b {h : Hm} (hk : oneC h.k = false) : gIx (eh h) (.int 2) = some (en h.b) := by
  obtain ⟨k, a, b, v, w⟩ := h
  cases k <;> first | (cases hk; done) | exact gIx_t2 _ _ _ _
theorem ix3v {h : Hm} (hk : chn h.k = true) : gIx (eh h) (.int 3) = some (eb h.v) := by
  obtain ⟨k, a, b, v, w⟩ := h
  cases k <;> first | (cases hk; done) | exact gIx_t3 _ _ _ _ _
theorem ix4w {h : Hm} (hk : chn h.k = true) (hk2 : h.k ≠ .turns) : gIx (eh h) (.int 4) = some (eb h.w) := by
  obtain ⟨k, a, b, v, w⟩ := h
  cases k <;> first | (cases hk; done) | (exact absurd rfl hk2) | exact gIx_t4 _ _ _ _ _ _
theorem ix3a {h : Hm} (hk : h.k = .both) : gIx (eh h) (.int 3) = some (.str (if h.v then "and" else "or")) := by
  obtain ⟨k, a, b, v, w⟩ := h
  cases hk
  exact gIx_t3 _ _ _ _ _
@[simp] theorem ix_c (ct : List Bool) (c : Nat) (hc : c < ct.length) : gIx (ec ct) (en c) = some (eb (gb ct c)) := by
  show gIx (.tuple (ct.map eb)) (.int (c : Int)) = _
  rw [gIx_t, List.getElem?_map, List.getElem?_eq_getElem hc]
  unfold gb
  rw [List.getD_eq_getElem?_getD, List.getElem?_eq_getElem hc]
  rfl
@[simp] theorem ii (a b : Nat) : ((a : Int) = (b : Int)) ↔ a = b := Int.ofNat_inj
theorem isNone_eo (o : Option Bool) : isNone (eo eb o) = !o.isSome := by cases o <;> rfl
theorem stuck_loop (hs : List Hm) (c : Nat) : ∀ (l : List Hm) (x : SD), nm x = true → ∃ z, nm z = true ∧ forRun (aName 2) b_stuck_at_1 (l.map eh) [.pu (eH hs), .pu (en c), x] = some (match stuckAt l c with
    | some b => .ret (eb b)
    | none => .next [.pu (eH hs), .pu (en c), z])
  | [], x, hx => ⟨x, hx, rfl⟩
  | h :: l, x, hx => by
    obtain ⟨z, hz, ih⟩ := stuck_loop hs c l (.pu (eh h)) rfl
    refine ⟨z, hz, ?_⟩
    rw [List.map_cons, forRun_cons]
    unfold stuckAt
    have e : b_stuck_at_1 [.pu (eH hs), .pu (en c), .pu (eh h)] = some (if h.k = .stuck ∧ h.a = c then .ret (eb h.v) else .next [.pu (eH hs), .pu (en c), .pu (eh h)]) := by
      by_cases h1 : h.k = .stuck
      · by_cases h2 : h.a = c
        · simp [b_stuck_at_1, h1, h2, ix2v (h := h) (by rw [h1]; rfl)]
        · simp [b_stuck_at_1, h1, h2]
      · simp [b_stuck_at_1, h1]
    simp only [aName_s, List.set_cons_succ, List.set_cons_zero, e]
    by_cases h1 : h.k = .stuck ∧ h.a = c
    · simp [h1]
    · simp [h1, ih]
@[simp] theorem lst_eH (hs : List Hm) : lstOf (eH hs) = some (hs.map eh) := rfl
@[simp] theorem L_stuck_at (hs : List Hm) (c : Nat) : g_stuck_at [eH hs, en c] = some (eo eb (stuckAt hs c)) := by
  obtain ⟨z, hz, h⟩ := stuck_loop hs c hs .un rfl
  unfold g_stuck_at
  rw [runF_s]
  simp [d_stuck_at, env0]
  rw [h]
  cases stuckAt hs c <;> simp [eo, hz]
theorem set_join (ct : List Bool) (c : Nat) (b : Bool) (hc : c < ct.length) : (ct.map eb).take c ++ [eb b] ++ (ct.map eb).drop (c + 1) = (ct.set c b).map eb := by
  rw [List.map_set, List.set_eq_take_append_cons_drop, if_pos (by simpa using hc)]
  simp
@[simp] theorem gSl_ec_hi (ct : List Bool) (c : Nat) : gSl (ec ct) none (some (c : Int)) = some (.tuple ((ct.map eb).take c)) := by
  show some (PyData.tuple (cutD (ct.map eb) none (some (c : Int)))) = _
  rw [cut_hi]
@[simp] theorem gSl_ec_lo (ct : List Bool) (c : Nat) : gSl (ec ct) (some ((c : Int) + 1)) none = some (.tuple ((ct.map eb).drop (c + 1))) := by
  show some (PyData.tuple (cutD (ct.map eb) (some ((c + 1 : Nat) : Int)) none)) = _
  rw [cut_lo]
theorem set_join2 (ct : List Bool) (c : Nat) (b : Bool) (hc : c < ct.length) (hz : ct.length ≤ 1000) : gAdd (.tuple ((ct.map eb).take c)) (.tuple [eb b]) = some (.tuple ((ct.map eb).take c ++ [eb b])) ∧
    gAdd (.tuple ((ct.map eb).take c ++ [eb b])) (.tuple ((ct.map eb).drop (c + 1))) = some (ec (ct.set c b)) := by
  rw [gAdd_tt, gAdd_tt, set_join ct c b hc, szOk_le, szOk_le]
  · exact ⟨rfl, rfl⟩
  · simp
    omega
  · simp
    omega
@[simp] theorem L_with_bit (hs : List Hm) (ct : List Bool) (c : Nat) (b : Bool) (hc : c < ct.length) (hz : ct.length ≤ 1000) : g_with_bit [eH hs, ec ct, en c, eb b] = some (ec (withBit hs ct c b)) := by
  unfold g_with_bit withBit
  rw [runF_s]
  simp [d_with_bit, env0, isNone_eo]
  cases h : stuckAt hs c with
  | some x => simp
  | none => simp [(set_join2 ct c b hc hz).1, (set_join2 ct c b hc hz).2]
/-! held_at_first -/
theorem upto_eq (n : Nat) : upto n = (List.range n).map en := rfl
theorem fixStep_len {hs : List Hm} {ct : List Bool} {c : Nat} : (fixStep hs ct c).length = ct.length := by
  unfold fixStep
  split <;> simp
theorem L_held (hs : List Hm) (ct : List Bool) (dc : D) (hdc : gTuple [dc] = some (ec ct)) (hz : ct.length ≤ 1000) (ok : ∀ h ∈ hs, HOk ct.length h) : g_held_at_first [eH hs, dc] = some (ec (heldFirst hs ct)) := by
  obtain ⟨e1, h1, y, z, hy, hz1, he, hl1⟩ := for_fold en (fun (held : List Bool) env => ∃ y z, nm y = true ∧ nm z = true ∧ env = [.pu (eH hs), .pu dc, .pu (ec held), y, z, .un] ∧ held.length = ct.length) (fixStep hs) (a := aName 3) (F := b_held_at_first_1) (List.range ct.length)
    (fun s x env m ⟨y, z, hy, hz', e, hl⟩ => by
      subst e
      have hx : x < s.length := by rw [hl]; exact List.mem_range.mp m
      refine ⟨_, [.pu (eH hs), .pu dc, .pu (ec (fixStep hs s x)), .pu (en x), .pu (eo eb (stuckAt hs x)), .un], rfl, ?_, _, _, rfl, rfl, rfl, by rw [fixStep_len, hl]⟩
      cases h : stuckAt hs x with
      | none => simp [b_held_at_first_1, h, fixStep, eo]
      | some b => simp [b_held_at_first_1, h, fixStep, eo, (set_join2 s x b hx (by omega)).1, (set_join2 s x b hx (by omega)).2]) ct [.pu (eH hs), .pu dc, .pu (ec ct), .un, .un, .un] ⟨.un, .un, rfl, rfl, rfl, rfl⟩
  subst he
  obtain ⟨e2, h2, y2, z2, x2, hy2, hz2, hx2, he2, hl2⟩ := for_fold eh (fun (held : List Bool) env => ∃ y z x, nm y = true ∧ nm z = true ∧ nm x = true ∧ env = [.pu (eH hs), .pu dc, .pu (ec held), y, z, x] ∧ held.length = ct.length) (keepStep hs) (a := aName 5) (F := b_held_at_first_2) hs
    (fun s h env m ⟨y, z, x, hy, hz', hx, e, hl⟩ => by
      subst e
      have o := ok h m
      refine ⟨_, [.pu (eH hs), .pu dc, .pu (ec (keepStep hs s h)), y, z, .pu (eh h)], rfl, ?_, _, _, _, hy, hz', rfl, rfl, ?_⟩
      · by_cases hk : h.k = .keeps
        · have hc : chn h.k = true := by rw [hk]; rfl
          by_cases hb : gb s h.a = h.v
          · simp [b_held_at_first_2, keepStep, hk, hb, ix2b (h := h) (by rw [hk]; rfl), ix3v hc, ix4w hc (by rw [hk]; decide), ix_c s h.a (by rw [hl]; exact o.1), L_with_bit hs s h.b h.w (by rw [hl]; exact o.2) (by omega)]
          · simp [b_held_at_first_2, keepStep, hk, hb, ix3v hc, ix_c s h.a (by rw [hl]; exact o.1)]
        · simp [b_held_at_first_2, keepStep, hk]
      · unfold keepStep
        split
        · exact withBit_len.trans hl
        · exact hl) _ [.pu (eH hs), .pu dc, .pu (ec ((List.range ct.length).foldl (fixStep hs) ct)), y, z, .un] ⟨y, z, .un, hy, hz1, rfl, rfl, hl1⟩
  subst he2
  unfold g_held_at_first heldFirst
  rw [runF_s]
  have hlen : gLen [ec ct] = some (.int ct.length) := by
    show some (PyData.int (ct.map eb).length) = _
    simp
  simp [d_held_at_first, env0, hdc, iRange1, hlen, upto_eq]
  rw [if_pos (by omega)]
  simp [h1, h2, hy2, hz2, hx2]
/-! ### equality of data -/
theorem depthAll_le {k : Nat} : ∀ {l : List D}, (∀ x ∈ l, x.depth ≤ k) → PyData.depthAll l ≤ k
  | [], _ => Nat.zero_le _
  | x :: l, h => by
    show max x.depth (PyData.depthAll l) ≤ k
    exact Nat.max_le.mpr ⟨h x (by simp), depthAll_le fun y m => h y (by simp [m])⟩
theorem canAll {l : List D} (h : ∀ x ∈ l, x.canLay0 = true) : PyData.canLayAll0 l = true := by
  induction l with
  | nil => rfl
  | cons x l ih =>
    show (x.canLay0 && PyData.canLayAll0 l) = true
    rw [h x (by simp), ih fun y m => h y (by simp [m])]
    rfl
/-- of depth k at most, and of what == compares -/
def Sh (k : Nat) (d : D) : Prop := d.canLay0 = true ∧ d.depth ≤ k
theorem Sh.mono {k m : Nat} {d : D} (h : Sh k d) (e : k ≤ m) : Sh m d := ⟨h.1, Nat.le_trans h.2 e⟩
theorem Sh.shaped {k : Nat} {d : D} (h : Sh k d) (e : k ≤ 64) : SeqAt.shaped d = true := by
  unfold SeqAt.shaped
  rw [h.1, decide_eq_true (Nat.le_trans h.2 e)]
  rfl
theorem sh_int (i : Int) : Sh 1 (.int i) := ⟨rfl, Nat.zero_le _⟩
theorem sh_bool (i : Bool) : Sh 1 (.bool i) := ⟨rfl, Nat.zero_le _⟩
theorem sh_none : Sh 1 .none := ⟨rfl, Nat.zero_le _⟩
theorem sh_str {x : Str} (h : PyData.strOk x = true) : Sh 1 (.str x) := ⟨h, Nat.zero_le _⟩
theorem sh_list {k : Nat} {l : List D} (h : ∀ x ∈ l, Sh k x) : Sh (k + 1) (.list l) := ⟨canAll fun x m => (h x m).1, Nat.succ_le_succ (depthAll_le fun x m => (h x m).2)⟩
theorem sh_tup {k : Nat} {l : List D} (h : ∀ x ∈ l, Sh k x) : Sh (k + 1) (.tuple l) := ⟨canAll fun x m => (h x m).1, Nat.succ_le_succ (depthAll_le fun x m => (h x m).2)⟩
theorem sh_eb (b : Bool) : Sh 1 (eb b) := sh_int _
theorem sh_ec (c : List Bool) : Sh 2 (ec c) := sh_tup fun x m => by
  obtain ⟨b, _, rfl⟩ := List.mem_map.mp m
  exact sh_eb b
theorem and_ok : PyData.strOk "and" = true := by decide +kernel
theorem or_ok : PyData.strOk "or" = true := by decide +kernel
theorem sh_eh (h : Hm) : Sh 2 (eh h) := sh_tup fun x m => by
  obtain ⟨k, a, b, v, w⟩ := h
  rcases List.mem_cons.mp m with rfl | m
  · exact sh_str (nms_ok _)
  · cases k <;> simp [tl] at m
    all_goals first
      | (rcases m with rfl | rfl | rfl | rfl <;> first | exact sh_int _ | exact sh_eb _)
      | (rcases m with rfl | rfl | rfl <;> first | exact sh_int _ | exact sh_eb _ | (cases v <;> first | exact sh_str and_ok | exact sh_str or_ok))
      | (rcases m with rfl | rfl <;> first | exact sh_int _ | exact sh_eb _)
theorem sh_eH (hs : List Hm) : Sh 3 (eH hs) := sh_list fun x m => by
  obtain ⟨b, _, rfl⟩ := List.mem_map.mp m
  exact sh_eh b
theorem gEq_sh {d e : D} (h : Sh 60 d) (k : Sh 60 e) : gEq d e = some (.bool (PyData.eqv d e)) := by
  unfold gEq
  rw [h.shaped (by decide), k.shaped (by decide)]
  rfl
theorem gNe_sh {d e : D} (h : Sh 60 d) (k : Sh 60 e) : gNe d e = some (.bool (!PyData.eqv d e)) := by
  unfold gNe
  rw [h.shaped (by decide), k.shaped (by decide)]
  rfl
theorem eqv_eb (a b : Bool) : PyData.eqv (eb a) (eb b) = decide (a = b) := by cases a <;> cases b <;> rfl
theorem eqv_map {α : Type} [DecidableEq α] {f : α → D} (hf : ∀ a b, PyData.eqv (f a) (f b) = decide (a = b)) : ∀ (a b : List α), PyData.eqvAll (a.map f) (b.map f) = decide (a = b)
  | [], [] => rfl
  | [], _ :: _ => rfl
  | _ :: _, [] => rfl
  | x :: a, y :: b => by
    show (PyData.eqv (f x) (f y) && PyData.eqvAll (a.map f) (b.map f)) = _
    rw [hf, eqv_map hf a b]
    by_cases h1 : x = y <;> by_cases h2 : a = b <;> simp [h1, h2]
theorem eqv_ec (a b : List Bool) : PyData.eqv (ec a) (ec b) = decide (a = b) := eqv_map eqv_eb a b
@[simp] theorem gEq_ec (a b : List Bool) : gEq (ec a) (ec b) = some (.bool (decide (a = b))) := by
  rw [gEq_sh ((sh_ec a).mono (by decide)) ((sh_ec b).mono (by decide)), eqv_ec]
theorem gIn_t (d : D) (ds : List D) (h : flatD d = true) (h2 : ds.all flatD = true) : gIn d (.tuple ds) = some (.bool (inD d ds)) := by
  unfold gIn gInT
  simp only [h, h2]
  rfl
theorem gIn_l {d : D} {ds : List D} (h : Sh 60 d) (h2 : Sh 60 (.list ds)) : gIn d (.list ds) = some (.bool (inD d ds)) := by
  show ((none : Option D).or (if (SeqAt.shaped d && SeqAt.shaped (.list ds)) then some (.bool (inD d ds)) else none)) = _
  rw [h.shaped (by decide), h2.shaped (by decide)]
  rfl
theorem gNin_l {d : D} {ds : List D} (h : Sh 60 d) (h2 : Sh 60 (.list ds)) : gNin d (.list ds) = some (.bool (!inD d ds)) := by
  show ((none : Option D).or (if (SeqAt.shaped d && SeqAt.shaped (.list ds)) then some (.bool (!inD d ds)) else none)) = _
  rw [h.shaped (by decide), h2.shaped (by decide)]
  rfl
@[simp] theorem gIn_adr (k : Nm) : gIn (.str (nms k)) (.tuple [.str "nowhere", .str "other", .str "both"]) = some (.bool (adr k)) := by
  rw [gIn_t _ _ rfl rfl]
  congr 2
  cases k <;> decide +kernel
@[simp] theorem gIn_chn (k : Nm) : gIn (.str (nms k)) (.tuple [.str "turns", .str "sets", .str "keeps"]) = some (.bool (chn k)) := by
  rw [gIn_t _ _ rfl rfl]
  congr 2
  cases k <;> decide +kernel
@[simp] theorem gIn_rdr (k : Nm) : gIn (.str (nms k)) (.tuple [.str "forgets", .str "misreads"]) = some (.bool (rdr k)) := by
  rw [gIn_t _ _ rfl rfl]
  congr 2
  cases k <;> decide +kernel
theorem slow_ok : PyData.strOk "slow" = true := by decide +kernel
theorem eqv_slow (h : Hm) (c : Nat) (b : Bool) : PyData.eqv (eh h) (.tuple [.str "slow", en c, eb b]) = decide (h.k = .slow ∧ h.a = c ∧ h.v = b) := by
  obtain ⟨k, a, b', v, w⟩ := h
  have hs : ∀ (k : Nm) (r : List D), k ≠ .slow → (((nms k : Str) == ("slow" : Str)) && PyData.eqvAll r [en c, eb b]) = false := fun k r hk => by
    have : ((nms k : Str) == ("slow" : Str)) = false := by cases k <;> first | exact absurd rfl hk | decide +kernel
    rw [this]
    rfl
  by_cases hk : k = .slow
  · subst hk
    show (((nms .slow : Str) == ("slow" : Str)) && ((PyData.eqv (en a) (en c)) && (PyData.eqv (eb v) (eb b) && true))) = _
    rw [show ((nms .slow : Str) == ("slow" : Str)) = true by decide +kernel, eqv_eb]
    show (true && (((a : Int) == (c : Int)) && (decide (v = b) && true))) = _
    by_cases h1 : a = c <;> by_cases h2 : v = b <;> simp [h1, h2]
  · show (((nms k : Str) == ("slow" : Str)) && PyData.eqvAll (tl _) [en c, eb b]) = _
    rw [hs k _ hk]
    simp [hk]
@[simp] theorem gIn_slow (hs : List Hm) (c : Nat) (b : Bool) : gIn (.tuple [.str "slow", en c, eb b]) (eH hs) = some (.bool (slowIn hs c b)) := by
  have : Sh 2 (.tuple [.str "slow", en c, eb b]) := sh_tup fun x m => by
    simp at m
    rcases m with rfl | rfl | rfl
    · exact sh_str slow_ok
    · exact sh_int _
    · exact sh_eb _
  show gIn _ (.list (hs.map eh)) = _
  rw [gIn_l (this.mono (by decide)) ((sh_eH hs).mono (by decide))]
  congr 2
  unfold inD slowIn
  rw [List.any_map]
  congr 1
  funext h
  exact eqv_slow h c b
@[simp] theorem nm_neturns (k : Nm) : gNe (.str (nms k)) (.str "turns") = some (.bool (!decide (k = .turns))) := by
  have h : gEq (.str (nms k)) (.str "turns") = some (.bool (decide (k = .turns))) := nm_eq rfl
  unfold gEq at h
  unfold gNe
  split at h
  · rename_i q
    rw [if_pos q]
    have := PyData.bool.inj (Option.some.inj h)
    rw [this]
  · cases h
@[simp] theorem gSub_1b (b : Bool) : gSub (.int 1) (eb b) = some (eb (!b)) := by cases b <;> rfl
/-! address_harm -/
theorem adr_loop (hs : List Hm) (c : Nat) : ∀ (l : List Hm) (x : SD), nm x = true → ∃ z, nm z = true ∧ forRun (aName 2) b_address_harm_1 (l.map eh) [.pu (eH hs), .pu (en c), x] = some (match addressHarm l c with
    | some b => .ret (eh b)
    | none => .next [.pu (eH hs), .pu (en c), z])
  | [], x, hx => ⟨x, hx, rfl⟩
  | h :: l, x, hx => by
    obtain ⟨z, hz, ih⟩ := adr_loop hs c l (.pu (eh h)) rfl
    refine ⟨z, hz, ?_⟩
    rw [List.map_cons, forRun_cons]
    unfold addressHarm
    have e : b_address_harm_1 [.pu (eH hs), .pu (en c), .pu (eh h)] = some (if adr h.k = true ∧ h.a = c then .ret (eh h) else .next [.pu (eH hs), .pu (en c), .pu (eh h)]) := by
      by_cases h1 : adr h.k = true
      · by_cases h2 : h.a = c <;> simp [b_address_harm_1, h1, h2]
      · simp [b_address_harm_1, h1]
    simp only [aName_s, List.set_cons_succ, List.set_cons_zero, e]
    by_cases h1 : adr h.k = true ∧ h.a = c
    · simp [h1]
    · simp [h1, ih]
@[simp] theorem L_address_harm (hs : List Hm) (c : Nat) : g_address_harm [eH hs, en c] = some (eo eh (addressHarm hs c)) := by
  obtain ⟨z, hz, h⟩ := adr_loop hs c hs .un rfl
  unfold g_address_harm
  rw [runF_s]
  simp [d_address_harm, env0]
  rw [h]
  cases addressHarm hs c <;> simp [eo, hz]
@[simp] theorem isNone_eh (h : Hm) : isNone (eh h) = false := rfl
theorem L_reached (h : Option Hm) (a : Nat) (ha : ∀ g, h = some g → adr g.k = true) : g_reached [eo eh h, en a] = some (.list ((reachedT h a).map en)) := by
  unfold g_reached
  rw [runF_s]
  cases h with
  | none => simp [d_reached, env0, eo, reachedT]
  | some h =>
    have h1 := ha h rfl
    by_cases hn : h.k = .nowhere
    · simp [d_reached, env0, eo, reachedT, hn]
    · have : oneC h.k = false := by
        cases hk : h.k <;> rw [hk] at h1 hn <;> first | rfl | (cases h1; done) | exact absurd rfl hn
      by_cases ho : h.k = .other
      · simp [d_reached, env0, eo, reachedT, ho, ix2b this]
      · simp [d_reached, env0, eo, reachedT, hn, ho, ix2b this]
/-! coming -/
theorem coming_loop (hs : List Hm) (ct : List Bool) (c : Nat) (b : Bool) : ∀ (l : List Hm) (x : SD), nm x = true → (∀ h ∈ l, HOk ct.length h) → ∃ z, nm z = true ∧ forRun (aName 4) b_coming_1 (l.map eh) [.pu (eH hs), .pu (ec ct), .pu (en c), .pu (eb b), x] = some (match keepAt ct l c with
    | some b => .ret (eb b)
    | none => .next [.pu (eH hs), .pu (ec ct), .pu (en c), .pu (eb b), z])
  | [], x, hx, _ => ⟨x, hx, rfl⟩
  | h :: l, x, hx, ok => by
    obtain ⟨z, hz, ih⟩ := coming_loop hs ct c b l (.pu (eh h)) rfl fun h' m => ok h' (by simp [m])
    have o := ok h (by simp)
    refine ⟨z, hz, ?_⟩
    rw [List.map_cons, forRun_cons]
    unfold keepAt
    have e : b_coming_1 [.pu (eH hs), .pu (ec ct), .pu (en c), .pu (eb b), .pu (eh h)] = some (if h.k = .keeps ∧ h.b = c ∧ gb ct h.a = h.v then .ret (eb h.w) else .next [.pu (eH hs), .pu (ec ct), .pu (en c), .pu (eb b), .pu (eh h)]) := by
      by_cases h1 : h.k = .keeps
      · have hc : chn h.k = true := by rw [h1]; rfl
        by_cases h2 : h.b = c
        · by_cases h3 : gb ct h.a = h.v
          · simp [b_coming_1, h1, h2, h3, ix2b (h := h) (by rw [h1]; rfl), ix3v hc, ix4w hc (by rw [h1]; decide), ix_c ct h.a o.1]
          · simp [b_coming_1, h1, h2, h3, ix2b (h := h) (by rw [h1]; rfl), ix3v hc, ix_c ct h.a o.1]
        · simp [b_coming_1, h1, h2, ix2b (h := h) (by rw [h1]; rfl)]
      · simp [b_coming_1, h1]
    simp only [aName_s, List.set_cons_succ, List.set_cons_zero, e]
    by_cases h1 : h.k = .keeps ∧ h.b = c ∧ gb ct h.a = h.v
    · simp [h1]
    · simp [h1, ih]
@[simp] theorem L_coming (hs : List Hm) (ct : List Bool) (c : Nat) (b : Bool) (hc : c < ct.length) (ok : ∀ h ∈ hs, HOk ct.length h) : g_coming [eH hs, ec ct, en c, eb b] = some (eb (comingT hs ct c b)) := by
  obtain ⟨z, hz, h⟩ := coming_loop hs ct c b hs .un rfl ok
  unfold g_coming comingT
  rw [runF_s]
  by_cases h1 : gb ct c = b
  · simp [d_coming, env0, ix_c ct c hc, h1]
    rw [h]
    cases keepAt ct hs c <;> simp [hz]
  · by_cases h2 : slowIn hs c b = true
    · simp [d_coming, env0, ix_c ct c hc, h1, h2]
    · simp [d_coming, env0, ix_c ct c hc, h1, h2]
      rw [h]
      cases keepAt ct hs c <;> simp [hz]
end Tm

namespace Tm
open PySem
theorem L_written (hs : List Hm) (ct : List Bool) (c : Nat) (b : Bool) (hc : c < ct.length) (hz : ct.length ≤ 1000) (ok : ∀ h ∈ hs, HOk ct.length h) : g_written [eH hs, ec ct, en c, eb b] = some (ec (writtenT hs ct c b)) := by
  have hl0 : (withBit hs ct c (comingT hs ct c b)).length = ct.length := withBit_len
  obtain ⟨e1, h1, y, z, hy, hz1, he, hl1⟩ := for_fold eh (fun (l : List Bool) env => ∃ y z, nm y = true ∧ nm z = true ∧ env = [.pu (eH hs), .pu (ec ct), .pu (en c), .pu (eb b), .pu (ec l), y, z] ∧ l.length = ct.length) (chStep hs c) (a := aName 5) (F := b_written_1) hs
    (fun s h env m ⟨y, z, hy, hz', e, hl⟩ => by
      subst e
      have o := ok h m
      by_cases hk : chn h.k = true
      · have ho : oneC h.k = false := by cases hk' : h.k <;> rw [hk'] at hk <;> first | rfl | cases hk
        by_cases ha : h.a = c
        · by_cases hv : h.v = gb s c
          · refine ⟨_, [.pu (eH hs), .pu (ec ct), .pu (en c), .pu (eb b), .pu (ec (chStep hs c s h)), .pu (eh h), .pu (eb (if h.k = .turns then !gb s h.b else h.w))], rfl, ?_, _, _, rfl, rfl, rfl, chStep_len.trans hl⟩
            have lw := fun (v : Bool) => L_with_bit hs s h.b v (by rw [hl]; exact o.2) (by omega)
            by_cases ht : h.k = .turns
            · simp [b_written_1, chStep, hk, ha, hv, ix3v hk, ix2b ho, ix_c s c (by rw [hl]; exact hc), ix_c s h.b (by rw [hl]; exact o.2), ht, lw]
              rw [ht] at hk
              simp [hk]
            · simp [b_written_1, chStep, hk, ha, hv, ix3v hk, ix2b ho, ix4w hk ht, ix_c s c (by rw [hl]; exact hc), ix_c s h.b (by rw [hl]; exact o.2), ht, lw]
          · refine ⟨_, [.pu (eH hs), .pu (ec ct), .pu (en c), .pu (eb b), .pu (ec (chStep hs c s h)), .pu (eh h), z], rfl, ?_, _, _, rfl, hz', rfl, chStep_len.trans hl⟩
            simp [b_written_1, chStep, hk, ha, hv, ix3v hk, ix_c s c (by rw [hl]; exact hc)]
        · refine ⟨_, [.pu (eH hs), .pu (ec ct), .pu (en c), .pu (eb b), .pu (ec (chStep hs c s h)), .pu (eh h), z], rfl, ?_, _, _, rfl, hz', rfl, chStep_len.trans hl⟩
          simp [b_written_1, chStep, hk, ha]
      · refine ⟨_, [.pu (eH hs), .pu (ec ct), .pu (en c), .pu (eb b), .pu (ec (chStep hs c s h)), .pu (eh h), z], rfl, ?_, _, _, rfl, hz', rfl, chStep_len.trans hl⟩
        simp [b_written_1, chStep, hk]) _ [.pu (eH hs), .pu (ec ct), .pu (en c), .pu (eb b), .pu (ec (withBit hs ct c (comingT hs ct c b))), .un, .un] ⟨.un, .un, rfl, rfl, rfl, hl0⟩
  subst he
  unfold g_written writtenT
  rw [runF_s]
  simp [d_written, env0, L_coming hs ct c b hc ok, L_with_bit hs ct c _ hc hz]
  by_cases h : withBit hs ct c (comingT hs ct c b) = ct
  · simp [h]
  · simp [h, h1, hy, hz1]
/-! was_read -/
theorem read_loop (hs : List Hm) (ct : List Bool) (c : Nat) (hc : c < ct.length) (hz : ct.length ≤ 1000) : ∀ (l : List Hm) (x : SD), nm x = true → ∃ z, nm z = true ∧ forRun (aName 4) b_was_read_1 (l.map eh) [.pu (eH hs), .pu (ec ct), .pu (en c), .pu (eb (gb ct c)), x, .un] = some (match readAt (gb ct c) l c with
    | some h => .ret (.tuple [ec (withBit hs ct c (!gb ct c)), eb (if h.k = .forgets then gb ct c else gb (withBit hs ct c (!gb ct c)) c)])
    | none => .next [.pu (eH hs), .pu (ec ct), .pu (en c), .pu (eb (gb ct c)), z, .un])
  | [], x, hx => ⟨x, hx, rfl⟩
  | h :: l, x, hx => by
    obtain ⟨z, hz', ih⟩ := read_loop hs ct c hc hz l (.pu (eh h)) rfl
    refine ⟨z, hz', ?_⟩
    rw [List.map_cons, forRun_cons]
    unfold readAt
    have e : b_was_read_1 [.pu (eH hs), .pu (ec ct), .pu (en c), .pu (eb (gb ct c)), .pu (eh h), .un] = some (if rdr h.k = true ∧ h.a = c ∧ h.v = gb ct c then .ret (.tuple [ec (withBit hs ct c (!gb ct c)), eb (if h.k = .forgets then gb ct c else gb (withBit hs ct c (!gb ct c)) c)]) else .next [.pu (eH hs), .pu (ec ct), .pu (en c), .pu (eb (gb ct c)), .pu (eh h), .un]) := by
      by_cases h1 : rdr h.k = true
      · have ho : oneC h.k = true := by cases hk' : h.k <;> rw [hk'] at h1 <;> first | rfl | cases h1
        by_cases h2 : h.a = c
        · by_cases h3 : h.v = gb ct c
          · have e5 := L_with_bit hs ct c (!gb ct c) hc hz
            by_cases h4 : h.k = .forgets
            · simp [b_was_read_1, h1, h2, h3, h4, ix2v ho, e5]
              rw [h4] at h1
              simp [h1]
            · simp [b_was_read_1, h1, h2, h3, h4, ix2v ho, e5, ix_c (withBit hs ct c (!gb ct c)) c (by rw [withBit_len]; exact hc)]
          · simp [b_was_read_1, h1, h2, h3, ix2v ho]
        · simp [b_was_read_1, h1, h2]
      · simp [b_was_read_1, h1]
    simp only [aName_s, List.set_cons_succ, List.set_cons_zero, e]
    by_cases h1 : rdr h.k = true ∧ h.a = c ∧ h.v = gb ct c
    · simp [h1]
    · simp [h1, ih]
theorem L_was_read (hs : List Hm) (ct : List Bool) (c : Nat) (hc : c < ct.length) (hz : ct.length ≤ 1000) : g_was_read [eH hs, ec ct, en c] = some (.tuple [ec (wasReadT hs ct c).1, eb (wasReadT hs ct c).2]) := by
  obtain ⟨z, hz', h⟩ := read_loop hs ct c hc hz hs .un rfl
  unfold g_was_read wasReadT
  rw [runF_s]
  simp [d_was_read, env0, ix_c ct c hc]
  rw [h]
  cases readAt (gb ct c) hs c <;> simp [hz']
/-! read_bit -/
theorem gEq_bits (bits : List Bool) : gEq (.list (bits.map eb)) (.list []) = some (.bool bits.isEmpty) := by
  rw [gEq_sh ((sh_list (k := 1) fun x m => by
    obtain ⟨b, _, rfl⟩ := List.mem_map.mp m
    exact sh_eb b).mono (by decide)) ⟨rfl, by decide⟩]
  cases bits <;> rfl
theorem allInts_bits : ∀ bits : List Bool, allInts (bits.map eb) = some (bits.map fun b => if b then 1 else 0)
  | [] => rfl
  | b :: l => by
    show (match allInts (l.map eb) with | some ns => some ((if b then (1 : Int) else 0) :: ns) | none => none) = _
    rw [allInts_bits l]
    rfl
theorem minI_bits : ∀ (b : Bool) (l : List Bool), minI ((b :: l).map fun b => if b then (1 : Int) else 0) = if (b :: l).all id then 1 else 0
  | b, [] => by cases b <;> rfl
  | b, c :: l => by
    have ih := minI_bits c l
    show (if minI ((c :: l).map fun b => if b then (1 : Int) else 0) < (if b then 1 else 0) then minI ((c :: l).map fun b => if b then (1 : Int) else 0) else (if b then 1 else 0)) = _
    rw [ih, show (b :: c :: l).all id = (b && (c :: l).all id) from rfl]
    cases b <;> cases (c :: l).all id <;> rfl
theorem maxI_bits : ∀ (b : Bool) (l : List Bool), maxI ((b :: l).map fun b => if b then (1 : Int) else 0) = if (b :: l).any id then 1 else 0
  | b, [] => by cases b <;> rfl
  | b, c :: l => by
    have ih := maxI_bits c l
    show (if maxI ((c :: l).map fun b => if b then (1 : Int) else 0) > (if b then 1 else 0) then maxI ((c :: l).map fun b => if b then (1 : Int) else 0) else (if b then 1 else 0)) = _
    rw [ih, show (b :: c :: l).any id = (b || (c :: l).any id) from rfl]
    cases b <;> cases (c :: l).any id <;> rfl
theorem gMin_bits (b : Bool) (l : List Bool) : gMin [.list ((b :: l).map eb)] = some (eb ((b :: l).all id)) := by
  show (match allInts ((b :: l).map eb) with | some (x :: r) => some (PyData.int (minI (x :: r))) | _ => none) = _
  rw [allInts_bits]
  show some (PyData.int (minI ((b :: l).map fun b => if b then (1 : Int) else 0))) = _
  rw [minI_bits]
  rfl
theorem gMax_bits (b : Bool) (l : List Bool) : gMax [.list ((b :: l).map eb)] = some (eb ((b :: l).any id)) := by
  show (match allInts ((b :: l).map eb) with | some (x :: r) => some (PyData.int (maxI (x :: r))) | _ => none) = _
  rw [allInts_bits]
  show some (PyData.int (maxI ((b :: l).map fun b => if b then (1 : Int) else 0))) = _
  rw [maxI_bits]
  rfl
@[simp] theorem q_aa : gEq (.str "and") (.str "and") = some (.bool true) := by
  rw [gEq_ss and_ok and_ok]
  first | done | (congr 2 <;> decide +kernel)
@[simp] theorem q_oa : gEq (.str "or") (.str "and") = some (.bool false) := by
  rw [gEq_ss or_ok and_ok]
  first | done | (congr 2 <;> decide +kernel)
theorem L_read_bit (h : Option Hm) (bits : List Bool) (h0 : bits = [] → ∃ g, h = some g ∧ g.k = .nowhere) (h2 : 2 ≤ bits.length → ∃ g, h = some g ∧ g.k = .both) : g_read_bit [eo eh h, .list (bits.map eb)] = some (eb (readBit h bits)) := by
  unfold g_read_bit
  rw [runF_s]
  match bits, h0, h2 with
  | [], h0, _ =>
    obtain ⟨g, rfl, hk⟩ := h0 rfl
    have := gEq_bits []
    simp at this
    simp [d_read_bit, env0, eo, this, ix2v (h := g) (by rw [hk]; rfl), readBit]
  | [b], _, _ =>
    have := gEq_bits [b]
    simp at this
    have e := gIx_l [eb b] 0
    simp at e
    simp [d_read_bit, env0, eo, this, e, readBit]
  | b :: c :: l, _, h2 =>
    obtain ⟨g, rfl, hk⟩ := h2 (by simp)
    have := gEq_bits (b :: c :: l)
    have e1 := gMin_bits b (c :: l)
    have e2 := gMax_bits b (c :: l)
    have e3 : ¬ ((l.length : Int) + 1 + 1 = 1) := by omega
    simp at this e1 e2
    cases hv : g.v <;> simp [d_read_bit, env0, eo, this, e3, ix3a hk, hv, e1, e2, readBit]
/-! acted -/
def es (s : Bool × Bool) : D := .tuple [.str (if s.1 then "r" else "w"), eb s.2]
theorem r_ok : PyData.strOk "r" = true := by decide +kernel
theorem w_ok : PyData.strOk "w" = true := by decide +kernel
@[simp] theorem es0 (s : Bool × Bool) : gIx (es s) (.int 0) = some (.str (if s.1 then "r" else "w")) := gIx_t0 _ _
@[simp] theorem es1 (s : Bool × Bool) : gIx (es s) (.int 1) = some (eb s.2) := gIx_t1 _ _ _
@[simp] theorem q_rw : gEq (.str "r") (.str "w") = some (.bool false) := by
  rw [gEq_ss r_ok w_ok]
  first | done | (congr 2 <;> decide +kernel)
@[simp] theorem q_ww : gEq (.str "w") (.str "w") = some (.bool true) := by
  rw [gEq_ss w_ok w_ok]
  first | done | (congr 2 <;> decide +kernel)
@[simp] theorem q_rr : gEq (.str "r") (.str "r") = some (.bool true) := by
  rw [gEq_ss r_ok r_ok]
  first | done | (congr 2 <;> decide +kernel)
@[simp] theorem q_wr : gEq (.str "w") (.str "r") = some (.bool false) := by
  rw [gEq_ss w_ok r_ok]
  first | done | (congr 2 <;> decide +kernel)
@[simp] theorem cApp_s (i : Nat) (f : SE → Option D) (env : SE) : cApp i f env = (match env[i]? with
  | some (.ol ds) => (match f env with
    | some d => if szOk (ds.length + 1) then some (.next (env.set i (.ol (ds ++ [d])))) else none
    | none => none)
  | _ => none) := rfl
@[simp] theorem cExt_s (i : Nat) (f : SE → Option D) (env : SE) : cExt i f env = (match env[i]? with
  | some (.ol ds) => (match f env with
    | some (.list es) => if szOk (ds.length + es.length) then some (.next (env.set i (.ol (ds ++ es)))) else none
    | _ => none)
  | _ => none) := rfl
@[simp] theorem cOwn_s (i : Nat) (s : SD) (env : SE) : cOwn i s env = some (.next (env.set i s)) := rfl
theorem reached_len (h : Option Hm) (a : Nat) : (reachedT h a).length ≤ 2 := by
  cases h with
  | none => simp [reachedT]
  | some h =>
    unfold reachedT
    simp only
    split
    · simp
    · split <;> simp
theorem L_acted (hs : List Hm) (ct : List Bool) (a : Nat) (s : Bool × Bool) (ha : a < ct.length) (hz : ct.length ≤ 1000) (ok : ∀ h ∈ hs, HOk ct.length h) :
    g_acted [eH hs, ec ct, en a, es s] = some (.tuple [ec (actedT hs ct a s).1, eo eb (actedT hs ct a s).2]) := by
  have hc : ∀ c ∈ reachedT (addressHarm hs a) a, c < ct.length := reached_ok ha fun g e => (adr_ok ok e).1
  have hre := L_reached (addressHarm hs a) a fun g e => (adr_ok ok e).2
  have hrl := reached_len (addressHarm hs a) a
  unfold g_acted actedT
  rw [runF_s]
  obtain ⟨rd, b⟩ := s
  cases rd with
  | false =>
    obtain ⟨e1, h1, y, z, hy, hz1, he, hl1⟩ := for_fold en (fun (c : List Bool) env => ∃ y z, nm y = true ∧ nm z = true ∧ env = [.pu (eH hs), .pu (ec c), .pu (en a), .pu (es (false, b)), .pu (eo eh (addressHarm hs a)), .ol [], y, z] ∧ c.length = ct.length) (fun c cell => writtenT hs c cell b) (a := aName 6) (F := b_acted_1) (reachedT (addressHarm hs a) a)
      (fun s x env m ⟨y, z, hy, hz', e, hl⟩ => by
        subst e
        refine ⟨_, [.pu (eH hs), .pu (ec (writtenT hs s x b)), .pu (en a), .pu (es (false, b)), .pu (eo eh (addressHarm hs a)), .ol [], .pu (en x), z], rfl, ?_, _, _, rfl, hz', rfl, written_len.trans hl⟩
        simp [b_acted_1, L_written hs s x b (by rw [hl]; exact hc x m) (by omega) (by rw [hl]; exact ok)]) ct [.pu (eH hs), .pu (ec ct), .pu (en a), .pu (es (false, b)), .pu (eo eh (addressHarm hs a)), .ol [], .un, .un] ⟨.un, .un, rfl, rfl, rfl, rfl⟩
    subst he
    simp [d_acted, env0, hre, h1, hy, hz1, actW]
  | true =>
    obtain ⟨e1, h1, y, z, hy, hz1, he, hl1, hl2⟩ := for_foldN en (fun i (c : List Bool × List Bool) env => ∃ y z, nm y = true ∧ nm z = true ∧ env = [.pu (eH hs), .pu (ec c.1), .pu (en a), .pu (es (true, b)), .pu (eo eh (addressHarm hs a)), .ol (c.2.map eb), y, z] ∧ c.1.length = ct.length ∧ c.2.length = i) (rdStep hs) (a := aName 6) (F := b_acted_1) (reachedT (addressHarm hs a) a) 0
      (fun i s x env m hi ⟨y, z, hy, hz', e, hl, hl2⟩ => by
        subst e
        have hw := L_was_read hs s.1 x (by rw [hl]; exact hc x m) (by rw [hl]; omega)
        refine ⟨_, [.pu (eH hs), .pu (ec (rdStep hs s x).1), .pu (en a), .pu (es (true, b)), .pu (eo eh (addressHarm hs a)), .ol ((rdStep hs s x).2.map eb), .pu (en x), .pu (eb (wasReadT hs s.1 x).2)], rfl, ?_, _, _, rfl, rfl, rfl, wasRead_len.trans hl, by simp [rdStep, hl2]⟩
        simp [b_acted_1, hw, rdStep, szOk_le (show s.2.length + 1 ≤ 100000 by omega)]) (ct, []) [.pu (eH hs), .pu (ec ct), .pu (en a), .pu (es (true, b)), .pu (eo eh (addressHarm hs a)), .ol [], .un, .un] ⟨.un, .un, rfl, rfl, rfl, rfl, rfl⟩
    subst he
    have e2 : (reachedT (addressHarm hs a) a).foldl (rdStep hs) (ct, []) = actR hs ct (reachedT (addressHarm hs a) a) := rfl
    rw [e2] at h1 hl2
    have hrb := L_read_bit (addressHarm hs a) (actR hs ct (reachedT (addressHarm hs a) a)).2 (fun q => by
      rw [q] at hl2
      cases h : addressHarm hs a with
      | none =>
        rw [h] at hl2
        simp [reachedT] at hl2
      | some g =>
        rw [h] at hl2
        refine ⟨g, rfl, ?_⟩
        by_cases hk : g.k = .nowhere
        · exact hk
        · simp [reachedT, hk] at hl2
          by_cases hk2 : g.k = .other <;> simp [hk2] at hl2) (fun q => by
      rw [hl2] at q
      cases h : addressHarm hs a with
      | none =>
        rw [h] at q
        simp [reachedT] at q
      | some g =>
        rw [h] at q
        refine ⟨g, rfl, ?_⟩
        have ha := (adr_ok ok h).2
        by_cases hk : g.k = .nowhere
        · simp [reachedT, hk] at q
        · by_cases hk2 : g.k = .other
          · simp [reachedT, hk, hk2] at q
          · cases hk' : g.k <;> rw [hk'] at ha hk hk2 <;> first | rfl | (cases ha; done) | exact absurd rfl hk | exact absurd rfl hk2)
    simp [d_acted, env0, hre, h1, hy, hz1, hrb]
end Tm

namespace Tm
open PySem
/-! ### tests -/
inductive Od where
  | up | down | any
  deriving DecidableEq, Repr
def ods : Od → Str
  | .up => "up" | .down => "down" | .any => "any"
abbrev El := Od × List (Bool × Bool)
def ee (e : El) : D := .tuple [.str (ods e.1), .list (e.2.map es)]
def et (t : List El) : D := .list (t.map ee)
def TOk (t : List El) : Prop := 1 ≤ t.length ∧ t.length ≤ 8 ∧ ∀ e ∈ t, 1 ≤ e.2.length ∧ e.2.length ≤ 6
theorem enum_map {α : Type} (f : α → D) : ∀ (l : List α) (n : Nat), enumFrom n (l.map f) = (l.zipIdx n).map fun p => .tuple [.int (p.2 : Int), f p.1]
  | [], _ => rfl
  | x :: l, n => by
    rw [List.map_cons, List.zipIdx_cons, List.map_cons, ← enum_map f l (n + 1)]
    rfl
@[simp] theorem eIsi_s (tab : String → Option Bool) (f : SE → Option D) (env : SE) : eIsi tab f env = (match f env with
  | some d => (match tyN d with
    | some n => (match tab n with
      | some b => some (.bool b)
      | none => none)
    | none => none)
  | none => none) := rfl
@[simp] theorem iEnumD_s (f : SE → Option (List D)) (env : SE) : iEnumD f env = (match f env with
  | some [.list ds] => some (enumFrom 0 ds)
  | _ => none) := rfl
@[simp] theorem iZipD_s (f : SE → Option (List D)) (env : SE) : iZipD f env = (match f env with
  | some [.list as, .list bs] => some (zipD as bs)
  | some [.tuple as, .tuple bs] => some (zipD as bs)
  | _ => none) := rfl
@[simp] theorem iZipSD_s (f : SE → Option (List D)) (env : SE) : iZipSD f env = (match f env with
  | some [.tuple as, .str x] => some (zipD as (signs x))
  | _ => none) := rfl
@[simp] theorem eInOrd_s (f : SE → Option D) (env : SE) : eInOrd f env = (match f env with
  | some d => if flatD d then some (.bool (inD d ordD)) else none
  | none => none) := rfl
@[simp] theorem eForm_s (f : SE → Option D) (env : SE) : eForm f env = (match f env with
  | some (.str z) => (match formOf z with
    | some u => some (.str u)
    | none => none)
  | _ => none) := rfl
@[simp] theorem t_ii : tabOf "int" "int" = some true := by decide
@[simp] theorem t_ib : tabOf "int" "bool" = some true := by decide
@[simp] theorem t_bi : tabOf "bool" "int" = some false := by decide
@[simp] theorem t_ss : tabOf "str" "str" = some true := by decide
@[simp] theorem t_si : tabOf "str" "int" = some false := by decide
@[simp] theorem t_tt : tabOf "tuple" "tuple" = some true := by decide
@[simp] theorem t_ll : tabOf "list" "list" = some true := by decide
@[simp] theorem ty_i (i : Int) : tyN (.int i) = some "int" := rfl
@[simp] theorem ty_s (i : Str) : tyN (.str i) = some "str" := rfl
@[simp] theorem ty_t (i : List D) : tyN (.tuple i) = some "tuple" := rfl
@[simp] theorem ty_l (i : List D) : tyN (.list i) = some "list" := rfl
@[simp] theorem ty_eb (b : Bool) : tyN (eb b) = some "int" := rfl
@[simp] theorem L_is_whole (i : Int) : g_is_whole [.int i] = some (.bool true) := by
  unfold g_is_whole
  rw [runF_s]
  simp [d_is_whole, env0]
@[simp] theorem L_is_bit (b : Bool) : g_is_bit [eb b] = some (.bool true) := by
  have h : g_is_whole [eb b] = some (.bool true) := L_is_whole _
  have e1 : gLe (.int 0) (eb b) = some (.bool true) := by cases b <;> rfl
  have e2 : gLe (eb b) (.int 1) = some (.bool true) := by cases b <;> rfl
  unfold g_is_bit
  rw [runF_s]
  simp [d_is_bit, env0, h, e1, e2]
@[simp] theorem ty_es (s : Bool × Bool) : tyN (es s) = some "tuple" := rfl
@[simp] theorem ty_ee (s : El) : tyN (ee s) = some "tuple" := rfl
@[simp] theorem ty_et (s : List El) : tyN (et s) = some "list" := rfl
@[simp] theorem len_es (s : Bool × Bool) : gLen [es s] = some (.int 2) := rfl
@[simp] theorem len_ee (s : El) : gLen [ee s] = some (.int 2) := rfl
@[simp] theorem len_et (t : List El) : gLen [et t] = some (.int t.length) := by
  show some (PyData.int (t.map ee).length) = _
  simp
@[simp] theorem ee0 (e : El) : gIx (ee e) (.int 0) = some (.str (ods e.1)) := gIx_t0 _ _
@[simp] theorem ee1 (e : El) : gIx (ee e) (.int 1) = some (.list (e.2.map es)) := gIx_t1 _ _ _
@[simp] theorem gIn_rw (v : Bool) : gIn (.str (if v then "r" else "w")) (.tuple [.str "r", .str "w"]) = some (.bool true) := by
  rw [gIn_t _ _ rfl rfl]
  congr 2
  cases v <;> decide +kernel
@[simp] theorem gIn_r : gIn (.str "r") (.tuple [.str "r", .str "w"]) = some (.bool true) := gIn_rw true
@[simp] theorem gIn_w : gIn (.str "w") (.tuple [.str "r", .str "w"]) = some (.bool true) := gIn_rw false
@[simp] theorem L_is_step (s : Bool × Bool) : g_is_step [es s] = some (.bool true) := by
  unfold g_is_step
  rw [runF_s]
  obtain ⟨rd, b⟩ := s
  cases rd <;> simp [d_is_step, env0]
theorem in_ord (o : Od) : inD (.str (ods o)) ordD = true := by cases o <;> decide +kernel
@[simp] theorem flat_s (x : Str) : flatD (.str x) = true := rfl
theorem L_is_formed (e : El) (h : 1 ≤ e.2.length ∧ e.2.length ≤ 6) : g_is_formed [ee e] = some (.bool true) := by
  have h1 : (1 : Int) ≤ e.2.length := by omega
  have h2 : (e.2.length : Int) ≤ 6 := by omega
  unfold g_is_formed
  rw [runF_s]
  simp [d_is_formed, env0, in_ord, h1, h2]
theorem L_look_at_test (t : List El) (h : TOk t) : g_look_at_test [et t] = some .none := by
  obtain ⟨h1, h2, h3⟩ := h
  have h1' : (1 : Int) ≤ t.length := by omega
  have h2' : (t.length : Int) ≤ 8 := by omega
  obtain ⟨e1, q, a, b, c, d, ha, hb, hc, hd, he⟩ := for_fold (fun p : El × Nat => .tuple [.int (p.2 : Int), ee p.1]) (fun (_ : Unit) env => ∃ a b c d, nm a = true ∧ nm b = true ∧ nm c = true ∧ nm d = true ∧ env = [.pu (et t), a, b, c, d]) (fun _ _ => ()) (a := aTup 2 (gsCons (aName 1) (gsCons (aName 2) gsNil))) (F := b_look_at_test_2) (t.zipIdx 0)
    (fun _ x env m ⟨a, b, c, d, ha, hb, hc, hd, e⟩ => by
      subst e
      have hx : x.1 ∈ t := by
        rw [(List.mem_zipIdx' m).2]
        exact List.getElem_mem _
      obtain ⟨e2, q2, c2, d2, hc2, hd2, he2⟩ := for_fold (fun p : (Bool × Bool) × Nat => .tuple [.int (p.2 : Int), es p.1]) (fun (_ : Unit) env => ∃ c d, nm c = true ∧ nm d = true ∧ env = [.pu (et t), .pu (.int (x.2 : Int)), .pu (ee x.1), c, d]) (fun _ _ => ()) (a := aTup 2 (gsCons (aName 3) (gsCons (aName 4) gsNil))) (F := b_look_at_test_1) (x.1.2.zipIdx 0)
        (fun _ y env m ⟨c, d, hc, hd, e⟩ => by
          subst e
          exact ⟨_, [.pu (et t), .pu (.int (x.2 : Int)), .pu (ee x.1), .pu (.int (y.2 : Int)), .pu (es y.1)], rfl, by simp [b_look_at_test_1], _, _, rfl, rfl, rfl⟩) () [.pu (et t), .pu (.int (x.2 : Int)), .pu (ee x.1), c, d] ⟨c, d, hc, hd, rfl⟩
      subst he2
      refine ⟨_, [.pu (et t), .pu (.int (x.2 : Int)), .pu (ee x.1), c2, d2], rfl, ?_, _, _, _, _, rfl, rfl, hc2, hd2, rfl⟩
      rw [← enum_map] at q2
      simp [b_look_at_test_2, L_is_formed _ (h3 _ hx), q2]) () [.pu (et t), .un, .un, .un, .un] ⟨.un, .un, .un, .un, rfl, rfl, rfl, rfl, rfl⟩
  subst he
  rw [← enum_map] at q
  unfold g_look_at_test
  rw [runF_s]
  have q' : forRun (aTup 2 (gsCons (aName 1) (gsCons (aName 2) gsNil))) b_look_at_test_2 (enumFrom 0 (t.map ee)) [.pu (et t), .un, .un, .un, .un] = some (.next [.pu (et t), a, b, c, d]) := q
  simp [d_look_at_test, env0, h1', h2']
  unfold et
  simp
  unfold et at q'
  rw [q']
/-! is_sure -/
def SureL : Option Bool → List (Bool × Bool) → Prop
  | _, [] => True
  | k, s :: r => (s.1 = true → k = some s.2) ∧ SureL (some s.2) r
def lastK : Option Bool → List (Bool × Bool) → Option Bool
  | k, [] => k
  | _, s :: r => lastK (some s.2) r
def SureT : Option Bool → List El → Prop
  | _, [] => True
  | k, e :: r => SureL k e.2 ∧ SureT (lastK k e.2) r
theorem gNe_eo (b : Bool) (k : Option Bool) : gNe (eb b) (eo eb k) = some (.bool (!decide (k = some b))) := by
  cases k with
  | none => cases b <;> rfl
  | some c => cases b <;> cases c <;> rfl
theorem sure_loop (T : D) (x y : SD) : ∀ (l : List (Bool × Bool)) (k : Option Bool) (a b : SD), nm a = true → nm b = true → SureL k l → ∃ a' b', nm a' = true ∧ nm b' = true ∧
    forRun (aTup 2 (gsCons (aName 4) (gsCons (aName 5) gsNil))) b_is_sure_1 (l.map es) [.pu T, .pu (eo eb k), x, y, a, b] = some (.next [.pu T, .pu (eo eb (lastK k l)), x, y, a', b'])
  | [], k, a, b, ha, hb, _ => ⟨a, b, ha, hb, rfl⟩
  | s :: l, k, a, b, ha, hb, h => by
    obtain ⟨a', b', h1, h2, h3⟩ := sure_loop T x y l (some s.2) (.pu (.str (if s.1 then "r" else "w"))) (.pu (eb s.2)) rfl rfl h.2
    refine ⟨a', b', h1, h2, ?_⟩
    have e : b_is_sure_1 [.pu T, .pu (eo eb k), x, y, .pu (.str (if s.1 then "r" else "w")), .pu (eb s.2)] = some (.next [.pu T, .pu (eb s.2), x, y, .pu (.str (if s.1 then "r" else "w")), .pu (eb s.2)]) := by
      obtain ⟨rd, c⟩ := s
      cases rd with
      | false => simp [b_is_sure_1]
      | true =>
        have hk := h.1 rfl
        subst hk
        simp [b_is_sure_1]
    rw [List.map_cons, fr_next (e1 := [.pu T, .pu (eo eb k), x, y, .pu (.str (if s.1 then "r" else "w")), .pu (eb s.2)]) (by simp [es]) e]
    exact h3
theorem sure_loop2 (T : D) : ∀ (t : List El) (k : Option Bool) (a b c d : SD), nm a = true → nm b = true → nm c = true → nm d = true → SureT k t → ∃ k' a' b' c' d', nm a' = true ∧ nm b' = true ∧ nm c' = true ∧ nm d' = true ∧
    forRun (aTup 2 (gsCons (aName 2) (gsCons (aName 3) gsNil))) b_is_sure_2 (t.map ee) [.pu T, .pu (eo eb k), a, b, c, d] = some (.next [.pu T, .pu k', a', b', c', d'])
  | [], k, a, b, c, d, ha, hb, hc, hd, _ => ⟨_, a, b, c, d, ha, hb, hc, hd, rfl⟩
  | e :: t, k, a, b, c, d, ha, hb, hc, hd, h => by
    obtain ⟨c', d', h1, h2, h3⟩ := sure_loop T (.pu (.str (ods e.1))) (.pu (.list (e.2.map es))) e.2 k c d hc hd h.1
    obtain ⟨k2, a2, b2, c2, d2, g1, g2, g3, g4, g5⟩ := sure_loop2 T t (lastK k e.2) (.pu (.str (ods e.1))) (.pu (.list (e.2.map es))) c' d' rfl rfl h1 h2 h.2
    refine ⟨k2, a2, b2, c2, d2, g1, g2, g3, g4, ?_⟩
    rw [List.map_cons, fr_next (e1 := [.pu T, .pu (eo eb k), .pu (.str (ods e.1)), .pu (.list (e.2.map es)), c, d]) (by simp [ee]) (show b_is_sure_2 _ = some (.next [.pu T, .pu (eo eb (lastK k e.2)), .pu (.str (ods e.1)), .pu (.list (e.2.map es)), c', d']) by simp [b_is_sure_2, h3])]
    exact g5
theorem L_is_sure (t : List El) (h : TOk t) (hs : SureT none t) : g_is_sure [et t] = some (.bool true) := by
  obtain ⟨k2, a2, b2, c2, d2, g1, g2, g3, g4, g5⟩ := sure_loop2 (et t) t none .un .un .un .un rfl rfl rfl rfl hs
  unfold g_is_sure
  rw [runF_s]
  simp [d_is_sure, env0, L_look_at_test t h]
  rw [show lstOf (et t) = some (t.map ee) from rfl]
  rw [eo_none] at g5
  simp only []
  rw [g5]
  simp [g1, g2, g3, g4]
end Tm

namespace Tm
open PySem
@[simp] theorem eLc_s (vs : List Nat) (fi : SE → Option (List D)) (a : D → SE → Option SE) (ft : SE → Option Bool) (fe : SE → Option D) (env : SE) : eLc vs fi a ft fe env = (if notOw env vs then (match fi env with
    | some ds => if szOk ds.length then (match lcRun vs a ft fe env ds with
      | some r => some (.list r)
      | none => none) else none
    | none => none) else none) := rfl
theorem lcRun_nil (vs : List Nat) (a : D → SE → Option SE) (ft : SE → Option Bool) (fe : SE → Option D) (env : SE) : lcRun vs a ft fe env [] = some [] := rfl
theorem lcRun_cons (vs : List Nat) (a : D → SE → Option SE) (ft : SE → Option Bool) (fe : SE → Option D) (env : SE) (d : D) (ds : List D) : lcRun vs a ft fe env (d :: ds) = (match a d (wipeE env vs) with
    | none => none
    | some e => (match ft e with
      | none => none
      | some false => lcRun vs a ft fe env ds
      | some true => (match fe e with
        | none => none
        | some x => (match lcRun vs a ft fe env ds with
          | none => none
          | some r => some (x :: r))))) := rfl
@[simp] theorem notOw_nil (env : SE) : notOw env [] = true := rfl
@[simp] theorem notOw_cons (env : SE) (v : Nat) (vs : List Nat) : notOw env (v :: vs) = ((match env[v]? with | some s => !isOw s | none => true) && notOw env vs) := rfl
@[simp] theorem wipeE_nil (env : SE) : wipeE env [] = env := rfl
@[simp] theorem wipeE_cons (env : SE) (v : Nat) (vs : List Nat) : wipeE env (v :: vs) = (wipeE env vs).set v .un := rfl
@[simp] theorem isOw_pu (d : D) : isOw (.pu d) = false := rfl
@[simp] theorem isOw_un : isOw .un = false := rfl
@[simp] theorem isOw_sc (n : List Int) : isOw (.sc n) = false := rfl
/-! ### harms -/
theorem sg_cv : signs "cv" = [.str "c", .str "v"] := by with_unfolding_all rfl
theorem sg_ccv : signs "ccv" = [.str "c", .str "c", .str "v"] := by with_unfolding_all rfl
theorem sg_ccvv : signs "ccvv" = [.str "c", .str "c", .str "v", .str "v"] := by with_unfolding_all rfl
theorem sg_cc : signs "cc" = [.str "c", .str "c"] := by with_unfolding_all rfl
theorem sg_cch : signs "cch" = [.str "c", .str "c", .str "h"] := by with_unfolding_all rfl
def frm (k : Nm) : Str := match k with
  | .stuck | .slow | .forgets | .misreads | .nowhere => "cv"
  | .turns => "ccv"
  | .sets | .keeps => "ccvv"
  | .other => "cc"
  | .both => "cch"
@[simp] theorem formOf_nm (k : Nm) : formOf (nms k) = some (frm k) := by cases k <;> decide +kernel
theorem c_ok : PyData.strOk "c" = true := by decide +kernel
theorem v_ok : PyData.strOk "v" = true := by decide +kernel
theorem h_ok : PyData.strOk "h" = true := by decide +kernel
@[simp] theorem q_cc : gEq (.str "c") (.str "c") = some (.bool true) := by
  rw [gEq_ss c_ok c_ok]
  first | done | (congr 2 <;> decide +kernel)
@[simp] theorem q_vc : gEq (.str "v") (.str "c") = some (.bool false) := by
  rw [gEq_ss v_ok c_ok]
  first | done | (congr 2 <;> decide +kernel)
@[simp] theorem q_vv : gEq (.str "v") (.str "v") = some (.bool true) := by
  rw [gEq_ss v_ok v_ok]
  first | done | (congr 2 <;> decide +kernel)
@[simp] theorem q_hc : gEq (.str "h") (.str "c") = some (.bool false) := by
  rw [gEq_ss h_ok c_ok]
  first | done | (congr 2 <;> decide +kernel)
@[simp] theorem q_hv : gEq (.str "h") (.str "v") = some (.bool false) := by
  rw [gEq_ss h_ok v_ok]
  first | done | (congr 2 <;> decide +kernel)
/-- what the harm's parts are, with their signs -/
def zt (h : Hm) : List D := zipD (tl h) (signs (frm h.k))
def cin (h : Hm) : List Nat := if oneC h.k then [h.a] else [h.a, h.b]
theorem sl1 (a : D) (l : List D) : gSl (.tuple (a :: l)) (some 1) none = some (.tuple l) := by
  show some (PyData.tuple (cutD (a :: l) (some ((1 : Nat) : Int)) none)) = _
  rw [cut_lo]
  rfl
@[simp] theorem sl_eh (h : Hm) : gSl (eh h) (some 1) none = some (.tuple (tl h)) := sl1 _ _
theorem zip_eh (h : Hm) : zipD (tl h) (signs (frm h.k)) = match h.k with
  | .stuck | .slow | .forgets | .misreads | .nowhere => [.tuple [en h.a, .str "c"], .tuple [eb h.v, .str "v"]]
  | .turns => [.tuple [en h.a, .str "c"], .tuple [en h.b, .str "c"], .tuple [eb h.v, .str "v"]]
  | .sets | .keeps => [.tuple [en h.a, .str "c"], .tuple [en h.b, .str "c"], .tuple [eb h.v, .str "v"], .tuple [eb h.w, .str "v"]]
  | .other => [.tuple [en h.a, .str "c"], .tuple [en h.b, .str "c"]]
  | .both => [.tuple [en h.a, .str "c"], .tuple [en h.b, .str "c"], .tuple [.str (if h.v then "and" else "or"), .str "h"]] := by
  obtain ⟨k, a, b, v, w⟩ := h
  cases k <;> simp only [tl, frm, sg_cv, sg_ccv, sg_ccvv, sg_cc, sg_cch] <;> rfl
@[simp] theorem szOk_5 : szOk 5 = true := rfl
theorem L_cells_in (h : Hm) : g_cells_in [eh h] = some (.list ((cin h).map en)) := by
  have hz := zip_eh h
  unfold g_cells_in
  rw [runF_s]
  obtain ⟨k, a, b, v, w⟩ := h
  cases k <;> simp [d_cells_in, env0, hz, lcRun_cons, lcRun_nil, cin, oneC]
/-! cells_among -/
def raw (hs : List Hm) : List Nat := hs.foldl (fun f h => f ++ (cin h).filter fun c => !f.contains c) []
def insN (x : Nat) : List Nat → List Nat
  | [] => [x]
  | y :: r => if x ≤ y then x :: y :: r else y :: insN x r
def sortN : List Nat → List Nat
  | [] => []
  | x :: r => insN x (sortN r)
theorem insN_i (x : Nat) : ∀ l : List Nat, insI (x : Int) (l.map fun n : Nat => (n : Int)) = (insN x l).map fun n : Nat => (n : Int)
  | [] => rfl
  | y :: r => by
    show (if (x : Int) ≤ y then _ else _) = _
    unfold insN
    by_cases h : x ≤ y
    · rw [if_pos h, if_pos (Int.ofNat_le.mpr h)]
      rfl
    · rw [if_neg h, if_neg fun e => h (Int.ofNat_le.mp e)]
      show (y : Int) :: insI (x : Int) (r.map fun n : Nat => (n : Int)) = _
      rw [insN_i x r]
      rfl
theorem sortN_i : ∀ l : List Nat, sortI (l.map fun n : Nat => (n : Int)) = (sortN l).map fun n : Nat => (n : Int)
  | [] => rfl
  | x :: r => by
    show insI (x : Int) (sortI (r.map fun n : Nat => (n : Int))) = _
    rw [sortN_i r, insN_i]
    rfl
def cellsN (hs : List Hm) : List Nat := sortN (raw hs)
theorem allInts_en : ∀ l : List Nat, allInts (l.map en) = some (l.map fun n : Nat => (n : Int))
  | [] => rfl
  | x :: r => by
    show (match allInts (r.map en) with | some ns => some ((x : Int) :: ns) | none => none) = _
    rw [allInts_en r]
    rfl
theorem gSorted_en (l : List Nat) (h : l.length < 64) : gSorted [.list (l.map en)] = some (.list ((sortN l).map en)) := by
  have e : gSortI [.list (l.map en)] = some (.list ((sortN l).map en)) := by
    show (match allInts (l.map en) with
      | some ns => if decide (ns.length < 64) then some (PyData.list ((sortI ns).map PyData.int)) else none
      | none => none) = _
    rw [allInts_en]
    simp only [List.length_map, h, decide_true, if_true, sortN_i, List.map_map]
    rfl
  unfold gSorted
  rw [e]
  rfl
theorem sh_ens (l : List Nat) : Sh 2 (.list (l.map en)) := sh_list fun x m => by
  obtain ⟨b, _, rfl⟩ := List.mem_map.mp m
  exact sh_int _
theorem inD_en (c : Nat) (l : List Nat) : inD (en c) (l.map en) = l.contains c := by
  unfold inD
  rw [List.any_map, List.contains_eq_any_beq]
  congr 1
  funext x
  show ((x : Int) == (c : Int)) = (c == x)
  by_cases h : x = c
  · subst h
    simp
  · rw [beq_eq_false_iff_ne.mpr fun e => h (Int.ofNat_inj.mp e), beq_eq_false_iff_ne.mpr fun e => h e.symm]
theorem gNin_en (c : Nat) (l : List Nat) : gNin (en c) (.list (l.map en)) = some (.bool (!l.contains c)) := by
  rw [gNin_l ((sh_int _).mono (by decide)) ((sh_ens l).mono (by decide)), inD_en]
theorem cin_len (h : Hm) : (cin h).length ≤ 2 := by
  unfold cin
  split <;> simp
@[simp] theorem isI_int (i : Int) : isI (.int i) = true := rfl
theorem L_cells_among (hs : List Hm) (hl : hs.length ≤ 20) : g_cells_among [eH hs] = some (.list ((cellsN hs).map en)) := by
  obtain ⟨e1, h1, x, y, hx, hy, he, hn⟩ := for_foldN eh (fun i (f : List Nat) env => ∃ x y, nm x = true ∧ nm y = true ∧ (env = [.pu (eH hs), .ol (f.map en), x, .un]) ∧ f.length ≤ 2 * i) (fun f h => f ++ (cin h).filter fun c => !f.contains c) (a := aName 2) (F := b_cells_among_1) hs 0
    (fun i f h env m hi ⟨x, y, hx, hy, e, hf⟩ => by
      subst e
      have hc := cin_len h
      have hcf : ((cin h).filter fun c => !f.contains c).length ≤ 2 := Nat.le_trans (List.length_filter_le _ _) hc
      have lc : lcRun [3] (aName 3) (bOf (e2 gNin (eVar 3) (eVar 1))) (eVar 3) [.pu (eH hs), .pu (.list (f.map en)), .pu (eh h), .un] ((cin h).map en) = some (((cin h).filter fun c => !f.contains c).map en) :=
        lc_map en (fun c => !f.contains c) en (cin h) fun c _ => ⟨[.pu (eH hs), .pu (.list (f.map en)), .pu (eh h), .pu (en c)], rfl, by simp [gNin_en], fun _ => rfl⟩
      refine ⟨_, [.pu (eH hs), .ol ((f ++ (cin h).filter fun c => !f.contains c).map en), .pu (eh h), .un], rfl, ?_, .pu (eh h), .un, rfl, rfl, rfl, ?_⟩
      · show cExtS 1 _ [.pu (eH hs), .ol (f.map en), .pu (eh h), .un] = _
        have ev : eLc [3] (iOf lstOf (eA (gN 1 g_cells_in) (aCons (eVar 2) aNil))) (aName 3) (bOf (e2 gNin (eVar 3) (eVar 1))) (eVar 3) [.pu (eH hs), .pu (.list (f.map en)), .pu (eh h), .un] = some (.list (((cin h).filter fun c => !f.contains c).map en)) := by
          simp only [eLc_s, notOw_cons, notOw_nil, iOf_s, eA_s, aCons_s, aNil_s, eVar_s]
          simp only [List.getElem?_cons_succ, List.getElem?_cons_zero, gN_s, List.length_cons, List.length_nil]
          simp only [L_cells_in, lstOf_s]
          simp
          refine ⟨szOk_le (by omega), ?_⟩
          rw [lc]
          simp
        unfold cExtS
        simp only [List.getElem?_cons_succ, List.getElem?_cons_zero, List.set_cons_succ, List.set_cons_zero, ev, List.length_map]
        rw [szOk_le (by omega)]
        simp
      · rw [List.length_append]
        omega) [] [.pu (eH hs), .ol [], .un, .un] ⟨.un, .un, rfl, rfl, rfl, by simp⟩
  subst he
  have er : hs.foldl (fun f h => f ++ (cin h).filter fun c => !f.contains c) [] = raw hs := rfl
  rw [er] at h1 hn
  have hs' := gSorted_en (raw hs) (by omega)
  unfold g_cells_among cellsN
  rw [runF_s]
  simp [d_cells_among, env0, h1, hx, hs']
/-! is_harm -/
theorem L_part_c (c : Nat) (h : c ≤ 63) : g_is_part [en c, .str "c"] = some (.bool true) := by
  unfold g_is_part
  rw [runF_s]
  have h1 : (c : Int) ≤ 63 := by omega
  simp [d_is_part, env0, h1]
theorem L_part_v (b : Bool) : g_is_part [eb b, .str "v"] = some (.bool true) := by
  unfold g_is_part
  rw [runF_s]
  simp [d_is_part, env0]
theorem L_part_h (b : Bool) : g_is_part [.str (if b then "and" else "or"), .str "h"] = some (.bool true) := by
  have e : gIn (.str (if b then "and" else "or")) (.tuple [.str "and", .str "or"]) = some (.bool true) := by
    rw [gIn_t _ _ rfl rfl]
    congr 2
    cases b <;> decide +kernel
  have e2 : ∀ x : Str, tyN (.str x) = some "str" := fun _ => rfl
  unfold g_is_part
  rw [runF_s]
  generalize (if b then ("and" : Str) else "or") = x at e
  simp [d_is_part, env0, e]
def HmOk (h : Hm) : Prop := h.a ≤ 63 ∧ h.b ≤ 63 ∧ (oneC h.k = false → h.a ≠ h.b)
theorem gEq_e0 (h : Hm) : gEq (eh h) (.tuple []) = some (.bool false) := by
  rw [gEq_sh ((sh_eh h).mono (by decide)) ⟨rfl, by decide⟩]
  rfl
@[simp] theorem ty_eh (h : Hm) : tyN (eh h) = some "tuple" := rfl
@[simp] theorem bNoForm_s (f : SE → Option D) (env : SE) : bNoForm f env = (match f env with
  | some (.str z) => (match formOf z with
    | some _ => some false
    | none => none)
  | _ => none) := rfl
theorem L_is_harm (h : Hm) (ok : HmOk h) : g_is_harm [eh h] = some (.bool true) := by
  have hz := zip_eh h
  have e0 := gEq_e0 h
  obtain ⟨h1, h2, h3⟩ := ok
  have pa := L_part_c h.a h1
  have pb := L_part_c h.b h2
  have pv := L_part_v h.v
  have pw := L_part_v h.w
  have ph := L_part_h h.v
  have fl : gLen [.str (frm h.k)] = some (.int (tl h).length) := by
    obtain ⟨k, a, b, v, w⟩ := h
    cases k <;> with_unfolding_all rfl
  have f1 : gIx (.str (frm h.k)) (.int 1) = some (.str (if oneC h.k then "v" else "c")) := by
    obtain ⟨k, a, b, v, w⟩ := h
    cases k <;> with_unfolding_all rfl
  have lt : gLen [eh h] = some (.int (1 + (tl h).length)) := by
    show some (PyData.int ((tl h).length + 1 : Nat)) = _
    congr 2
    omega
  have nvc : gNe (.str "v") (.str "c") = some (.bool true) := by with_unfolding_all rfl
  have ncc : gNe (.str "c") (.str "c") = some (.bool false) := by with_unfolding_all rfl
  have nab : oneC h.k = false → gNe (en h.a) (en h.b) = some (.bool true) := fun q => by
    rw [gNe_ii]
    simp [h3 q]
  have i2 := fun q => ix2b (h := h) q
  have al1 : gAll [.list [.bool true, .bool true]] = some (.bool true) := rfl
  have al2 : gAll [.list [.bool true, .bool true, .bool true]] = some (.bool true) := rfl
  have al3 : gAll [.list [.bool true, .bool true, .bool true, .bool true]] = some (.bool true) := rfl
  unfold g_is_harm
  rw [runF_s]
  have ii : ∀ n : Int, gNe (.int n) (.int n) = some (.bool false) := fun n => by
    rw [gNe_ii]
    simp
  by_cases ho : oneC h.k = true
  · simp only [ho, if_true] at f1
    have hz' : zipD (tl h) (signs (frm h.k)) = [.tuple [en h.a, .str "c"], .tuple [eb h.v, .str "v"]] := by
      rw [hz]
      cases hk : h.k <;> rw [hk] at ho <;> first | rfl | cases ho
    have lt' : (tl h).length = 2 := by
      obtain ⟨k, a, b, v, w⟩ := h
      cases k <;> first | rfl | cases ho
    rw [lt'] at lt fl
    clear hz i2 nab
    simp [d_is_harm, env0, e0, fl, lt, hz', lcRun_cons, lcRun_nil, pa, pv, al1, f1, nvc, ii]
  · have ho' : oneC h.k = false := by simpa using ho
    have nab := nab ho'
    have i2 := i2 ho'
    simp only [ho'] at f1
    obtain ⟨k, a, b, v, w⟩ := h
    cases k <;> first
      | (cases ho'; done)
      | (simp [tl] at fl lt f1
         simp [d_is_harm, env0, e0, fl, lt, hz, lcRun_cons, lcRun_nil, pa, pb, pv, pw, ph, al1, al2, al3, f1, ncc, nab, i2, ii])
end Tm

namespace Tm
open PySem
theorem nd_len : ∀ (l S : List Nat), l.Nodup → (∀ x ∈ l, x ∈ S) → l.length ≤ S.length
  | [], _, _, _ => Nat.zero_le _
  | x :: l, S, nd, h => by
    obtain ⟨h1, h2⟩ := List.nodup_cons.mp nd
    have hx := h x (by simp)
    have := nd_len l (S.erase x) h2 fun y m => (List.mem_erase_of_ne (show y ≠ x from fun e => h1 (e ▸ m))).mpr (h y (by simp [m]))
    rw [List.length_erase_of_mem hx] at this
    have : 0 < S.length := List.length_pos_of_mem hx
    rw [List.length_cons]
    omega
def rawStep (f : List Nat) (h : Hm) : List Nat := f ++ (cin h).filter fun c => !f.contains c
theorem raw_eq (hs : List Hm) : raw hs = hs.foldl rawStep [] := rfl
theorem rawStep_mem {f : List Nat} {h : Hm} {c : Nat} : c ∈ rawStep f h ↔ c ∈ f ∨ c ∈ cin h := by
  unfold rawStep
  rw [List.mem_append, List.mem_filter]
  by_cases hc : c ∈ f <;> simp [hc]
theorem rawAll_mem {c : Nat} : ∀ {hs : List Hm} {f : List Nat}, c ∈ hs.foldl rawStep f ↔ c ∈ f ∨ ∃ h ∈ hs, c ∈ cin h
  | [], f => by simp
  | h :: hs, f => by
    rw [List.foldl_cons, rawAll_mem, rawStep_mem]
    simp [or_assoc]
theorem raw_mem {hs : List Hm} {c : Nat} : c ∈ raw hs ↔ ∃ h ∈ hs, c ∈ cin h := by
  rw [raw_eq, rawAll_mem]
  simp
theorem cin_nd {h : Hm} (ok : HmOk h) : (cin h).Nodup := by
  unfold cin
  split
  · simp
  · rename_i q
    have := ok.2.2 (by simpa using q)
    simp [this]
theorem rawStep_nd {f : List Nat} {h : Hm} (hf : f.Nodup) (hh : (cin h).Nodup) : (rawStep f h).Nodup := by
  unfold rawStep
  rw [List.nodup_append]
  refine ⟨hf, hh.filter _, fun a ha b hb e => ?_⟩
  subst e
  have := (List.mem_filter.mp hb).2
  simp [ha] at this
theorem rawAll_nd : ∀ {hs : List Hm} {f : List Nat}, f.Nodup → (∀ h ∈ hs, (cin h).Nodup) → (hs.foldl rawStep f).Nodup
  | [], _, hf, _ => hf
  | h :: hs, f, hf, hh => rawAll_nd (f := rawStep f h) (rawStep_nd hf (hh h (by simp))) fun g m => hh g (by simp [m])
theorem raw_nd {hs : List Hm} (ok : ∀ h ∈ hs, HmOk h) : (raw hs).Nodup := rawAll_nd (by simp) fun h m => cin_nd (ok h m)
theorem insN_perm (x : Nat) : ∀ r : List Nat, (insN x r).Perm (x :: r)
  | [] => .refl _
  | y :: r => by
    unfold insN
    split
    · exact .refl _
    · exact ((insN_perm x r).cons y).trans (.swap x y r)
theorem sortN_perm : ∀ r : List Nat, (sortN r).Perm r
  | [] => .refl _
  | x :: r => (insN_perm x (sortN r)).trans ((sortN_perm r).cons x)
theorem insN_sorted (x : Nat) : ∀ {r : List Nat}, r.Pairwise (· ≤ ·) → (insN x r).Pairwise (· ≤ ·)
  | [], _ => List.pairwise_singleton _ _
  | y :: r, h => by
    obtain ⟨h1, h2⟩ := List.pairwise_cons.mp h
    unfold insN
    split
    · rename_i q
      refine List.pairwise_cons.mpr ⟨fun z m => ?_, h⟩
      rcases List.mem_cons.mp m with rfl | m
      · exact q
      · exact Nat.le_trans q (h1 z m)
    · rename_i q
      refine List.pairwise_cons.mpr ⟨fun z m => ?_, insN_sorted x h2⟩
      rcases List.mem_cons.mp ((insN_perm x r).mem_iff.mp m) with rfl | m
      · omega
      · exact h1 z m
theorem sortN_sorted : ∀ r : List Nat, (sortN r).Pairwise (· ≤ ·)
  | [] => .nil
  | x :: r => insN_sorted x (sortN_sorted r)
theorem cellsN_mem {hs : List Hm} {c : Nat} : c ∈ cellsN hs ↔ ∃ h ∈ hs, c ∈ cin h := (sortN_perm _).mem_iff.trans raw_mem
theorem cellsN_nd {hs : List Hm} (ok : ∀ h ∈ hs, HmOk h) : (cellsN hs).Nodup := (sortN_perm _).nodup_iff.mpr (raw_nd ok)
theorem cellsN_lt {hs : List Hm} (ok : ∀ h ∈ hs, HmOk h) : (cellsN hs).Pairwise (· < ·) := by
  have h := (sortN_sorted (raw hs)).and (cellsN_nd ok)
  exact h.imp fun ⟨a, b⟩ => Nat.lt_of_le_of_ne a b
/-- harms that the program takes -/
structure HsOk (hs : List Hm) (S : List Nat) : Prop where
  len : hs.length ≤ 3
  ok : ∀ h ∈ hs, HmOk h
  few : S.length ≤ 3
  sub : ∀ h ∈ hs, h.a ∈ S ∧ h.b ∈ S
theorem HsOk.cells {hs : List Hm} {S : List Nat} (o : HsOk hs S) : (cellsN hs).length ≤ 3 := by
  refine Nat.le_trans (nd_len _ S (cellsN_nd o.ok) fun c m => ?_) o.few
  obtain ⟨h, m1, m2⟩ := cellsN_mem.mp m
  unfold cin at m2
  split at m2
  · simp at m2
    rw [m2]
    exact (o.sub h m1).1
  · simp at m2
    rcases m2 with rfl | rfl
    · exact (o.sub h m1).1
    · exact (o.sub h m1).2
theorem HsOk.take {hs : List Hm} {S : List Nat} (o : HsOk hs S) (n : Nat) : HsOk (hs.take n) S :=
  ⟨by
    have := o.len
    rw [List.length_take]
    omega, fun h m => o.ok h (List.mem_of_mem_take m), o.few, fun h m => o.sub h (List.mem_of_mem_take m)⟩
theorem len_eH (hs : List Hm) : gLen [eH hs] = some (.int hs.length) := by
  show some (PyData.int (hs.map eh).length) = _
  simp
theorem L_look_at_harms (hs : List Hm) (S : List Nat) (o : HsOk hs S) : g_look_at_harms [eH hs] = some .none := by
  have hl := o.len
  have hl' : ¬ (3 : Int) < hs.length := by omega
  obtain ⟨e1, q, x, y, hx, hy, he⟩ := for_fold (fun p : Hm × Nat => .tuple [.int (p.2 : Int), eh p.1]) (fun (_ : Unit) env => ∃ x y, nm x = true ∧ nm y = true ∧ env = [.pu (eH hs), x, y]) (fun _ _ => ()) (a := aTup 2 (gsCons (aName 1) (gsCons (aName 2) gsNil))) (F := b_look_at_harms_1) (hs.zipIdx 0)
    (fun _ x env m ⟨u, y, hu, hy, e⟩ => by
      subst e
      have hx : x.1 ∈ hs := by
        rw [(List.mem_zipIdx' m).2]
        exact List.getElem_mem _
      have hsl : gSl (eH hs) none (some ((x.2 : Int) + 1)) = some (eH (hs.take (x.2 + 1))) := by
        show some (PyData.list (cutD (hs.map eh) none (some ((x.2 + 1 : Nat) : Int)))) = _
        rw [cut_hi, ← List.map_take]
        rfl
      have hc := (o.take (x.2 + 1)).cells
      have hc' : ¬ (3 : Int) < (cellsN (hs.take (x.2 + 1))).length := by omega
      have ha := L_cells_among (hs.take (x.2 + 1)) (Nat.le_trans (o.take (x.2 + 1)).len (by decide))
      refine ⟨_, [.pu (eH hs), .pu (.int (x.2 : Int)), .pu (eh x.1)], rfl, ?_, _, _, rfl, rfl, rfl⟩
      simp [b_look_at_harms_1, L_is_harm x.1 (o.ok _ hx), hsl, ha, hc']) () [.pu (eH hs), .un, .un] ⟨.un, .un, rfl, rfl, rfl⟩
  subst he
  rw [← enum_map] at q
  unfold g_look_at_harms
  rw [runF_s]
  simp [d_look_at_harms, env0, len_eH, hl', show tyN (eH hs) = some "list" from rfl]
  have q' : forRun (aTup 2 (gsCons (aName 1) (gsCons (aName 2) gsNil))) b_look_at_harms_1 (enumFrom 0 (hs.map eh)) [.pu (eH hs), .un, .un] = some (.next [.pu (eH hs), x, y]) := q
  unfold eH at q' ⊢
  simp [q']
theorem L_cells_of (hs : List Hm) (S : List Nat) (o : HsOk hs S) : g_cells_of [eH hs] = some (.list ((cellsN hs).map en)) := by
  unfold g_cells_of
  rw [runF_s]
  simp [d_cells_of, env0, L_look_at_harms hs S o, L_cells_among hs (Nat.le_trans o.len (by decide))]
/-! names -/
def encP (l : List (Nat × Nat)) : List (D × D) := l.map fun p => (en p.1, en p.2)
theorem put_new (l : List (Nat × Nat)) (c n : Nat) (h : c ∉ l.map (·.1)) : putD (encP l) (en c) (en n) = encP (l ++ [(c, n)]) := by
  unfold putD
  have : (encP l).any (fun e => PyData.eqv e.1 (en c)) = false := by
    rw [List.any_eq_false]
    intro e m
    obtain ⟨p, hp, rfl⟩ := List.mem_map.mp m
    show ¬ ((p.1 : Int) == (c : Int)) = true
    intro q
    have : p.1 = c := Int.ofNat_inj.mp (eq_of_beq q)
    exact h (List.mem_map.mpr ⟨p, hp, this⟩)
  rw [this]
  simp [encP]
theorem merge_nd : ∀ (l acc : List (Nat × Nat)), ((acc ++ l).map (·.1)).Nodup → mergeD (encP acc) (encP l) = encP (acc ++ l)
  | [], acc, _ => by
    rw [List.append_nil]
    rfl
  | p :: l, acc, nd => by
    show mergeD (putD (encP acc) (en p.1) (en p.2)) (encP l) = _
    have h : p.1 ∉ acc.map (·.1) := by
      rw [List.map_append, List.map_cons, List.nodup_append] at nd
      intro m
      exact nd.2.2 p.1 m p.1 (by simp) rfl
    rw [put_new acc p.1 p.2 h, merge_nd l (acc ++ [(p.1, p.2)]) (by simpa using nd)]
    simp
theorem look_enc (l : List (Nat × Nat)) (c : Nat) : gIx (.dict (encP l)) (en c) = (l.lookup c).map en := by
  have e : gIx (.dict (encP l)) (en c) = lookD (encP l) (en c) := rfl
  rw [e]
  unfold lookD
  induction l with
  | nil => rfl
  | cons p l ih =>
    show (List.find? _ ((en p.1, en p.2) :: encP l)).map _ = _
    rw [List.find?_cons, List.lookup_cons]
    have : PyData.eqv (en p.1) (en c) = (c == p.1) := by
      show ((p.1 : Int) == (c : Int)) = (c == p.1)
      by_cases h : p.1 = c
      · subst h
        simp
      · rw [beq_eq_false_iff_ne.mpr fun e => h (Int.ofNat_inj.mp e), beq_eq_false_iff_ne.mpr fun e => h e.symm]
    simp only [this]
    cases c == p.1 with
    | true => rfl
    | false => exact ih rfl
def mapC (g : Nat → Nat) (h : Hm) : Hm := ⟨h.k, g h.a, g h.b, h.v, h.w⟩
theorem L_called (h : Hm) (nd : D) (g : Nat → Nat) (hg : ∀ c ∈ cin h, gIx nd (en c) = some (en (g c))) : g_called [eh h, nd] = some (eh (mapC g h)) := by
  have hz := zip_eh h
  unfold g_called
  rw [runF_s]
  obtain ⟨k, a, b, v, w⟩ := h
  have hga := hg a
  have hgb := hg b
  cases k <;> simp [cin, oneC] at hga hgb <;> simp [d_called, env0, hz, lcRun_cons, lcRun_nil, hga, hgb] <;> rfl
end Tm

namespace Tm
open PySem
/-! ### the memory -/
def fm (hs : List Hm) (ct : List Bool) : List (Str × D) := [("flaws", eH hs), ("held", ec ct)]
theorem n_hf : (("held" : Str) == ("flaws" : Str)) = false := by decide +kernel
theorem n_fh' : ¬ (("flaws" : Str) = ("held" : Str)) := by decide +kernel
@[simp] theorem lk_flaws (hs : List Hm) (ct : List Bool) : (fm hs ct).lookup ("flaws" : Str) = some (eH hs) := by
  unfold fm
  rw [List.lookup_cons]
  simp
@[simp] theorem lk_held (hs : List Hm) (ct : List Bool) : (fm hs ct).lookup ("held" : Str) = some (ec ct) := by
  unfold fm
  rw [List.lookup_cons, n_hf]
  simp
theorem lk_no (hs : List Hm) (ct : List Bool) {m : Str} (h1 : (m == ("flaws" : Str)) = false) (h2 : (m == ("held" : Str)) = false) : (fm hs ct).lookup m = none := by
  unfold fm
  rw [List.lookup_cons, h1, List.lookup_cons, h2]
  rfl
@[simp] theorem lk_laa (hs : List Hm) (ct : List Bool) : (fm hs ct).lookup ("look_at_address" : Str) = none := lk_no hs ct (by decide +kernel) (by decide +kernel)
@[simp] theorem lk_read (hs : List Hm) (ct : List Bool) : (fm hs ct).lookup ("read" : Str) = none := lk_no hs ct (by decide +kernel) (by decide +kernel)
@[simp] theorem lk_write (hs : List Hm) (ct : List Bool) : (fm hs ct).lookup ("write" : Str) = none := lk_no hs ct (by decide +kernel) (by decide +kernel)
@[simp] theorem lk_size (hs : List Hm) (ct : List Bool) : (fm hs ct).lookup ("size" : Str) = none := lk_no hs ct (by decide +kernel) (by decide +kernel)
@[simp] theorem put_held (hs : List Hm) (ct cu : List Bool) : putFD "held" (ec cu) (fm hs ct) = fm hs cu := by
  unfold fm
  show (if ("flaws" : Str) = "held" then _ else (("flaws" : Str), eH hs) :: (if ("held" : Str) = "held" then [(("held" : Str), ec cu)] else _)) = _
  rw [if_neg n_fh', if_pos rfl]
@[simp] theorem fm_len (hs : List Hm) (ct : List Bool) : (fm hs ct).length = 2 := rfl
@[simp] theorem eFld_s (i : Nat) (m : Str) (env : SE) : eFld i m env = (match env[i]? with
  | some (.mo fl) => fl.lookup m
  | _ => none) := rfl
@[simp] theorem cFld_s (i : Nat) (m : Str) (f : SE → Option D) (env : SE) : cFld i m f env = (match f env with
  | some d => (match env[i]? with
    | some (.mo fl) => if fl.length < 1000 then some (.next (env.set i (.mo (putFD m d fl)))) else none
    | _ => none)
  | none => none) := rfl
@[simp] theorem cFldT_s (i : Nat) (m : Str) (j : Nat) (f : SE → Option D) (env : SE) : cFldT i m j f env = (match f env with
  | some (.tuple [v, w]) => (match env[i]? with
    | some (.mo fl) => if fl.length < 1000 then some (.next ((env.set i (.mo (putFD m v fl))).set j (.pu w))) else none
    | _ => none)
  | _ => none) := rfl
@[simp] theorem cDropX_s (f : SE → Option (D × SE)) (env : SE) : cDropX f env = (match f env with
  | some (_, e) => some (.next e)
  | none => none) := rfl
@[simp] theorem cAsgX_s (f : SE → Option (D × SE)) (a : D → SE → Option SE) (env : SE) : cAsgX f a env = (match f env with
  | some (d, e) => (match a d e with
    | some e => some (.next e)
    | none => none)
  | none => none) := rfl
@[simp] theorem cRetX_s (f : SE → Option (D × SE)) (env : SE) : cRetX f env = (match f env with
  | some (d, e) => some (.rets d e)
  | none => none) := rfl
@[simp] theorem cRets_s (f : SE → Option D) (env : SE) : cRets f env = (match f env with
  | some d => some (.rets d env)
  | none => none) := rfl
@[simp] theorem xMeth_s (i : Nat) (m : Str) (n : Nat) (g : List (Str × D) → List D → Option (D × List (Str × D))) (fs : SE → Option (List D)) (env : SE) : xMeth i m n g fs env = (match env[i]? with
  | some (.mo fl) => if (fl.lookup m).isNone then (match fs env with
    | some ds => if ds.length + 1 == n then (match g fl (.none :: ds) with
      | some (d, fl') => some (d, env.set i (.mo fl'))
      | none => none) else none
    | none => none) else none
  | _ => none) := rfl
@[simp] theorem xCall_s (i j n : Nat) (g : List (Str × D) → List D → Option (D × List (Str × D))) (fs : SE → Option (List D)) (env : SE) : xCall i j n g fs env = (match env[i]? with
  | some (.mo fl) => (match fs env with
    | some ds => if ds.length == n then (match g fl ds with
      | some (d, fl') => some (d, env.set i (.mo fl'))
      | none => none) else none
    | none => none)
  | _ => none) := rfl
@[simp] theorem amHere_s (k : SE → Option (List D)) (env : SE) : amHere k env = (match k env with | some e => some (.none :: e) | none => none) := rfl
@[simp] theorem cMake_s (i n : Nat) (g : List (Str × D) → List D → Option (D × List (Str × D))) (fs : SE → Option (List D)) (env : SE) : cMake i n g fs env = (match fs env with
  | some ds => if ds.length + 1 == n then (match g [] (.none :: ds) with
    | some (.none, fl) => some (.next (env.set i (.mo fl)))
    | _ => none) else none
  | none => none) := rfl
theorem runM_s (N j : Nat) (F : SE → Option Out) (fs : List (Str × D)) (ds : List D) : runM N j F fs ds = outM j (F ((env0 N ds).set j (.mo fs))) := rfl
@[simp] theorem outM_rets (j : Nat) (d : D) (e : SE) : outM j (some (.rets d e)) = (match e[j]? with
    | some (.mo fs) => some (d, fs)
    | _ => none) := rfl
@[simp] theorem outM_next (j : Nat) (e : SE) : outM j (some (.next e)) = (match e[j]? with
    | some (.mo fs) => some (.none, fs)
    | _ => none) := rfl
/-- a memory of size n with these harms -/
structure MOk (n : Nat) (hs : List Hm) (S : List Nat) : Prop where
  hsk : HsOk hs S
  lo : 1 ≤ n
  hi : n ≤ 64
  lt : ∀ h ∈ hs, HOk n h
theorem MOk.cells {n : Nat} {hs : List Hm} {S : List Nat} (m : MOk n hs S) : ∀ c ∈ cellsN hs, c < n := fun c h => by
  obtain ⟨g, m1, m2⟩ := cellsN_mem.mp h
  have o := m.lt g m1
  unfold cin at m2
  split at m2
  · simp at m2
    rw [m2]
    exact o.1
  · simp at m2
    rcases m2 with rfl | rfl
    · exact o.1
    · exact o.2
theorem gAll_t : ∀ n : Nat, gAll [.list (List.replicate n (.bool true))] = some (.bool true) := fun n => by
  have h : ∀ n : Nat, allBools (List.replicate n (PyData.bool true)) = some (List.replicate n true) := fun n => by
    induction n with
    | zero => rfl
    | succ n ih =>
      rw [List.replicate_succ]
      show (match allBools (List.replicate n (PyData.bool true)) with | some bs => some (true :: bs) | none => none) = _
      rw [ih]
      rfl
  show (match allBools (List.replicate n (PyData.bool true)) with | some bs => some (PyData.bool (bs.all id)) | none => none) = _
  rw [h]
  simp
theorem L_look_at_memory {n : Nat} {hs : List Hm} {S : List Nat} (m : MOk n hs S) (ct : List Bool) (hct : ct.length = n) : g_look_at_memory [en n, eH hs, .list (ct.map eb)] = some .none := by
  have h1 : (1 : Int) ≤ n := by have := m.lo; omega
  have h2 : (n : Int) ≤ 64 := by have := m.hi; omega
  have hc := m.hsk.cells
  have l1 : lcRun [3] (aName 3) (fun _ => some true) (e2 gLt (eVar 3) (eVar 0)) [.pu (en n), .pu (eH hs), .pu (.list (ct.map eb)), .un, .un] ((cellsN hs).map en) = some (((cellsN hs).filter fun _ => true).map fun _ => .bool true) :=
    lc_map en (fun _ => true) (fun _ => .bool true) (cellsN hs) fun c mc => ⟨[.pu (en n), .pu (eH hs), .pu (.list (ct.map eb)), .pu (en c), .un], rfl, rfl, fun _ => by
      have := m.cells c mc
      simp
      exact this⟩
  have l2 : lcRun [4] (aName 4) (fun _ => some true) (eA (gN 1 g_is_bit) (aCons (eVar 4) aNil)) [.pu (en n), .pu (eH hs), .pu (.list (ct.map eb)), .un, .un] (ct.map eb) = some ((ct.filter fun _ => true).map fun _ => .bool true) :=
    lc_map eb (fun _ => true) (fun _ => .bool true) ct fun c mc => ⟨[.pu (en n), .pu (eH hs), .pu (.list (ct.map eb)), .un, .pu (eb c)], rfl, rfl, fun _ => by simp⟩
  have rep : ∀ {α : Type} (l : List α), (l.filter fun _ => true).map (fun _ => PyData.bool true) = List.replicate l.length (.bool true) := fun l => by
    rw [List.filter_eq_self.mpr fun _ _ => rfl]
    induction l with
    | nil => rfl
    | cons x l ih => rw [List.map_cons, ih]; rfl
  rw [rep] at l1 l2
  have s1 : szOk (cellsN hs).length = true := szOk_le (by omega)
  have s2 : szOk n = true := szOk_le (by have := m.hi; omega)
  have nn : gNe (.int (n : Int)) (.int (n : Int)) = some (.bool false) := by
    rw [gNe_ii]
    simp
  unfold g_look_at_memory
  rw [runF_s]
  simp [d_look_at_memory, env0, L_look_at_harms hs S m.hsk, h1, h2, L_cells_among hs (Nat.le_trans m.hsk.len (by decide)), s1, l1, s2, l2, gAll_t, hct]
theorem L_m_init {n : Nat} {hs : List Hm} {S : List Nat} (m : MOk n hs S) (ct : List Bool) (hct : ct.length = n) : g_m_init [] [.none, en n, eH hs, .list (ct.map eb)] = some (.none, fm hs (heldFirst hs ct)) := by
  have hh := L_held hs ct (.list (ct.map eb)) rfl (by have := m.hi; omega) (by rw [hct]; exact m.lt)
  have lf : ∀ x : D, List.lookup ("flaws" : Str) (putFD "flaws" x []) = some x := fun x => by
    show List.lookup ("flaws" : Str) [(("flaws" : Str), x)] = _
    rw [List.lookup_cons]
    simp
  have l2 : ∀ x y : D, putFD "held" y (putFD "flaws" x []) = [(("flaws" : Str), x), (("held" : Str), y)] := fun x y => by
    show (if ("flaws" : Str) = "held" then _ else (("flaws" : Str), x) :: [(("held" : Str), y)]) = _
    rw [if_neg n_fh']
  have ll : ∀ x : D, (putFD "flaws" x []).length = 1 := fun _ => rfl
  have gl : gList [eH hs] = some (eH hs) := rfl
  unfold g_m_init
  rw [runM_s]
  simp [d_m_init, env0, L_look_at_memory m ct hct, gl, hh, lf, l2, ll]
  rfl
theorem len_ec (ct : List Bool) : gLen [ec ct] = some (.int ct.length) := by
  show some (PyData.int (ct.map eb).length) = _
  simp
theorem L_laa {n : Nat} {hs : List Hm} {S : List Nat} (m : MOk n hs S) {ct : List Bool} (hct : ct.length = n) {a : Nat} (ha : a < n) : g_m_look_at_address (fm hs ct) [.none, en a] = some (.none, fm hs ct) := by
  have h1 : (a : Int) < n := by omega
  unfold g_m_look_at_address
  rw [runM_s]
  simp [d_m_look_at_address, env0, len_ec, hct, ha]
theorem L_m_read {n : Nat} {hs : List Hm} {S : List Nat} (m : MOk n hs S) {ct : List Bool} (hct : ct.length = n) {a : Nat} (ha : a < n) (b : Bool) : g_m_read (fm hs ct) [.none, en a] = some (eo eb (actedT hs ct a (true, b)).2, fm hs (actedT hs ct a (true, b)).1) := by
  have h := L_acted hs ct a (true, false) (by omega) (by have := m.hi; omega) (by rw [hct]; exact m.lt)
  have h' : g_acted [eH hs, ec ct, .int (a : Int), .tuple [.str "r", .int 0]] = some (.tuple [ec (actedT hs ct a (true, b)).1, eo eb (actedT hs ct a (true, b)).2]) := h
  unfold g_m_read
  rw [runM_s]
  simp [d_m_read, env0, L_laa m hct ha, h']
theorem L_m_write {n : Nat} {hs : List Hm} {S : List Nat} (m : MOk n hs S) {ct : List Bool} (hct : ct.length = n) {a : Nat} (ha : a < n) (b : Bool) : g_m_write (fm hs ct) [.none, en a, eb b] = some (.none, fm hs (actedT hs ct a (false, b)).1) := by
  have h := L_acted hs ct a (false, b) (by omega) (by have := m.hi; omega) (by rw [hct]; exact m.lt)
  have h' : g_acted [eH hs, ec ct, .int (a : Int), .tuple [.str "w", eb b]] = some (.tuple [ec (actedT hs ct a (false, b)).1, eo eb (actedT hs ct a (false, b)).2]) := h
  unfold g_m_write
  rw [runM_s]
  simp [d_m_write, env0, L_laa m hct ha, h']
theorem L_done_on {n : Nat} {hs : List Hm} {S : List Nat} (m : MOk n hs S) {ct : List Bool} (hct : ct.length = n) {a : Nat} (ha : a < n) (s : Bool × Bool) : g_done_on (fm hs ct) [.none, en a, es s] = some (eo eb (actedT hs ct a s).2, fm hs (actedT hs ct a s).1) := by
  obtain ⟨rd, b⟩ := s
  unfold g_done_on
  rw [runM_s]
  cases rd with
  | true => simp [d_done_on, env0, L_m_read m hct ha b]
  | false =>
    simp [d_done_on, env0, L_m_write m hct ha b]
    rfl
end Tm

namespace Tm
open PySem
/-! ### orders -/
def inOrd (n : Nat) (up : Bool) : List Nat := if up then List.range n else (List.range n).map fun i => n - 1 - i
def eor (up : Bool) : D := .str (if up then "up" else "down")
theorem up_ok : PyData.strOk "up" = true := by decide +kernel
theorem down_ok : PyData.strOk "down" = true := by decide +kernel
@[simp] theorem q_uu : gEq (.str "up") (.str "up") = some (.bool true) := by
  rw [gEq_ss up_ok up_ok]
  first | done | (congr 2 <;> decide +kernel)
@[simp] theorem q_du : gEq (.str "down") (.str "up") = some (.bool false) := by
  rw [gEq_ss down_ok up_ok]
  first | done | (congr 2 <;> decide +kernel)
theorem L_in_order (n : Nat) (hn : n ≤ 1000) (up : Bool) : g_in_order [en n, eor up] = some (.list ((inOrd n up).map en)) := by
  unfold g_in_order
  rw [runF_s]
  cases up with
  | true =>
    have h2 : (n : Int) ≤ 100000 := by omega
    simp [d_in_order, env0, eor, eListR, h2, inOrd, upto]
  | false =>
    have h2 : (-1 : Int) ≤ (n : Int) - 1 ∧ (n : Int) - 1 ≤ 100000 := by omega
    have hg : gNeg (.int 1) = some (.int (-1)) := rfl
    have hd : dnto ((n : Int) - 1) = ((List.range n).map fun i => n - 1 - i).map en := by
      unfold dnto
      rw [show ((n : Int) - 1 + 1).toNat = n by omega, List.map_map]
      apply List.map_congr_left
      intro i hi
      have : i < n := List.mem_range.mp hi
      show PyData.int ((n : Int) - 1 - (i : Int)) = PyData.int ((n - 1 - i : Nat) : Int)
      congr 1
      omega
    simp [d_in_order, env0, eor, eListDn, h2, inOrd, hg, hd]
theorem zip_map {α β : Type} (f : α → D) (g : β → D) : ∀ (a : List α) (b : List β), zipD (a.map f) (b.map g) = (a.zip b).map fun p => .tuple [f p.1, g p.2]
  | [], _ => by simp [zipD]
  | _ :: _, [] => by simp [zipD]
  | x :: a, y :: b => by
    show PyData.tuple [f x, g y] :: zipD (a.map f) (b.map g) = _
    rw [zip_map f g a b]
    rfl
def odOf (up : Bool) : Od := if up then .up else .down
structure OOk (t : List El) (ords : List Bool) : Prop where
  len : ords.length = t.length
  fit : ∀ p ∈ ords.zip t, p.2.1 = .any ∨ p.2.1 = odOf p.1
theorem gNin_t (d : D) (ds : List D) (h : flatD d = true) (h2 : ds.all flatD = true) : gNin d (.tuple ds) = some (.bool (!inD d ds)) := by
  unfold gNin gInT
  simp only [h, h2]
  rfl
theorem L_look_at_orders (t : List El) (ords : List Bool) (o : OOk t ords) : g_look_at_orders [et t, .list (ords.map eor)] = some .none := by
  obtain ⟨e1, q, x, y, z, hx, hy, hz, he⟩ := for_fold (fun p : Bool × El => .tuple [eor p.1, ee p.2]) (fun (_ : Unit) env => ∃ x y z, nm x = true ∧ nm y = true ∧ nm z = true ∧ env = [.pu (et t), .pu (.list (ords.map eor)), x, y, z]) (fun _ _ => ()) (a := aTup 2 (gsCons (aName 2) (gsCons (aTup 2 (gsCons (aName 3) (gsCons (aName 4) gsNil))) gsNil))) (F := b_look_at_orders_1) (ords.zip t)
    (fun _ p env m ⟨x, y, z, hx, hy, hz, e⟩ => by
      subst e
      have hf := o.fit p m
      refine ⟨_, [.pu (et t), .pu (.list (ords.map eor)), .pu (eor p.1), .pu (.str (ods p.2.1)), .pu (.list (p.2.2.map es))], rfl, ?_, _, _, _, rfl, rfl, rfl, rfl⟩
      have h1 : gNin (eor p.1) (.tuple [.str "up", .str "down"]) = some (.bool false) := by
        rw [gNin_t _ _ rfl rfl]
        congr 2
        cases p.1 <;> decide +kernel
      have h2 : gNin (.str (ods p.2.1)) (.tuple [.str "any", eor p.1]) = some (.bool false) := by
        rw [gNin_t _ _ rfl rfl]
        congr 2
        rcases hf with h | h <;> rw [h] <;> cases p.1 <;> decide +kernel
      have h3 : tyN (eor p.1) = some "str" := rfl
      simp [b_look_at_orders_1, h1, h2, h3]) () [.pu (et t), .pu (.list (ords.map eor)), .un, .un, .un] ⟨.un, .un, .un, rfl, rfl, rfl, rfl⟩
  subst he
  rw [← zip_map] at q
  unfold g_look_at_orders
  rw [runF_s]
  have q' : forRun (aTup 2 (gsCons (aName 2) (gsCons (aTup 2 (gsCons (aName 3) (gsCons (aName 4) gsNil))) gsNil))) b_look_at_orders_1 (zipD (ords.map eor) (t.map ee)) [.pu (et t), .pu (.list (ords.map eor)), .un, .un, .un] = some (.next [.pu (et t), .pu (.list (ords.map eor)), x, y, z]) := q
  simp [d_look_at_orders, env0, o.len]
  unfold et at q' ⊢
  simp [q']
/-! ### reads -/
abbrev Rd4 := Nat × Nat × Nat × Bool
def er (r : Rd4) : D := .tuple [en r.1, en r.2.1, en r.2.2.1, eb r.2.2.2]
abbrev RS2 := List Bool × List Rd4
def stepR (hs : List Hm) (num addr : Nat) (s : RS2) (p : (Bool × Bool) × Nat) : RS2 :=
  ((actedT hs s.1 addr p.1).1, match (actedT hs s.1 addr p.1).2 with
    | some b => s.2 ++ [(num, addr, p.2, b)]
    | none => s.2)
def addrR (hs : List Hm) (num : Nat) (steps : List (Bool × Bool)) (s : RS2) (addr : Nat) : RS2 := (steps.zipIdx 0).foldl (stepR hs num addr) s
def elR (hs : List Hm) (n : Nat) (ords : List Bool) (s : RS2) (p : El × Nat) : RS2 := (inOrd n (ords.getD p.2 true)).foldl (addrR hs p.2 p.1.2) s
def readsT (hs : List Hm) (n : Nat) (t : List El) (ords : List Bool) (ct : List Bool) : List Rd4 := ((t.zipIdx 0).foldl (elR hs n ords) (ct, [])).2
theorem stepR_len {hs : List Hm} {num addr : Nat} {s : RS2} {p : (Bool × Bool) × Nat} : (stepR hs num addr s p).1.length = s.1.length := acted_len
theorem inOrd_lt {n : Nat} {up : Bool} : ∀ a ∈ inOrd n up, a < n := fun a m => by
  unfold inOrd at m
  split at m
  · exact List.mem_range.mp m
  · obtain ⟨i, hi, rfl⟩ := List.mem_map.mp m
    have := List.mem_range.mp hi
    omega
theorem inOrd_len {n : Nat} {up : Bool} : (inOrd n up).length = n := by
  unfold inOrd
  split <;> simp
@[simp] theorem isOw_mo (f : List (Str × D)) : isOw (.mo f) = true := rfl
theorem L_all_reads {n : Nat} {hs : List Hm} {S : List Nat} (m : MOk n hs S) (t : List El) (ht : TOk t) (ords : List Bool) (ho : OOk t ords) (ct : List Bool) (hct : ct.length = n) :
    ∃ cu, g_all_reads (fm hs ct) [et t, .none, .list (ords.map eor)] = some (.list ((readsT hs n t ords ct).map er), fm hs cu) := by
  have hn := m.hi
  let TO : D := .list (ords.map eor)
  obtain ⟨e1, q, x4, x5, x6, x7, x8, x9, x10, h4, h5, h6, h7, h8, h9, h10, he, hl, hb⟩ := for_foldN (fun p : El × Nat => .tuple [.int (p.2 : Int), ee p.1])
    (fun i (s : RS2) env => ∃ x4 x5 x6 x7 x8 x9 x10, nm x4 = true ∧ nm x5 = true ∧ nm x6 = true ∧ nm x7 = true ∧ nm x8 = true ∧ nm x9 = true ∧ nm x10 = true ∧ env = [.pu (et t), .mo (fm hs s.1), .pu TO, .ol (s.2.map er), x4, x5, x6, x7, x8, x9, x10] ∧ s.1.length = n ∧ s.2.length ≤ 400 * i)
    (elR hs n ords) (a := aTup 2 (gsCons (aName 4) (gsCons (aTup 2 (gsCons (aName 5) (gsCons (aName 6) gsNil))) gsNil))) (F := b_all_reads_3) (t.zipIdx 0) 0
    (fun i s p env mp hi ⟨x4, x5, x6, x7, x8, x9, x10, h4, h5, h6, h7, h8, h9, h10, e, hl, hb⟩ => by
      subst e
      have hp2 := (List.mem_zipIdx' mp).1
      have hp : p.1 ∈ t := by
        rw [(List.mem_zipIdx' mp).2]
        exact List.getElem_mem _
      have hst := (ht.2.2 p.1 hp).2
      obtain ⟨up, hup⟩ : ∃ up, up = ords.getD p.2 true := ⟨_, rfl⟩
      have hi8 : i < 8 := by
        have := ht.2.1
        rw [List.length_zipIdx] at hi
        omega
      obtain ⟨e2, q2, y7, y8, y9, y10, g7, g8, g9, g10, he2, hl2, hb2⟩ := for_foldN en
        (fun j (s2 : RS2) env => ∃ y7 y8 y9 y10, nm y7 = true ∧ nm y8 = true ∧ nm y9 = true ∧ nm y10 = true ∧ env = [.pu (et t), .mo (fm hs s2.1), .pu TO, .ol (s2.2.map er), .pu (en p.2), .pu (.str (ods p.1.1)), .pu (.list (p.1.2.map es)), y7, y8, y9, y10] ∧ s2.1.length = n ∧ s2.2.length ≤ s.2.length + 6 * j)
        (addrR hs p.2 p.1.2) (a := aName 7) (F := b_all_reads_2) (inOrd n up) 0
        (fun j s2 addr env ma hj ⟨y7, y8, y9, y10, g7, g8, g9, g10, e, hl2, hb2⟩ => by
          subst e
          have haddr := inOrd_lt addr ma
          rw [inOrd_len] at hj
          obtain ⟨e3, q3, z8, z9, z10, k8, k9, k10, he3, hl3, hb3⟩ := for_foldN (fun p : (Bool × Bool) × Nat => .tuple [.int (p.2 : Int), es p.1])
            (fun k (s3 : RS2) env => ∃ z8 z9 z10, nm z8 = true ∧ nm z9 = true ∧ nm z10 = true ∧ env = [.pu (et t), .mo (fm hs s3.1), .pu TO, .ol (s3.2.map er), .pu (en p.2), .pu (.str (ods p.1.1)), .pu (.list (p.1.2.map es)), .pu (en addr), z8, z9, z10] ∧ s3.1.length = n ∧ s3.2.length ≤ s2.2.length + k)
            (stepR hs p.2 addr) (a := aTup 2 (gsCons (aName 8) (gsCons (aName 9) gsNil))) (F := b_all_reads_1) (p.1.2.zipIdx 0) 0
            (fun k s3 st env ms hk ⟨z8, z9, z10, k8, k9, k10, e, hl3, hb3⟩ => by
              subst e
              rw [List.length_zipIdx] at hk
              have hd := L_done_on m hl3 haddr st.1
              refine ⟨_, [.pu (et t), .mo (fm hs (stepR hs p.2 addr s3 st).1), .pu TO, .ol ((stepR hs p.2 addr s3 st).2.map er), .pu (en p.2), .pu (.str (ods p.1.1)), .pu (.list (p.1.2.map es)), .pu (en addr), .pu (.int (st.2 : Int)), .pu (es st.1), .pu (eo eb (actedT hs s3.1 addr st.1).2)], rfl, ?_, _, _, _, rfl, rfl, rfl, rfl, stepR_len.trans hl3, ?_⟩
              · cases hbit : (actedT hs s3.1 addr st.1).2 with
                | none =>
                  rw [hbit] at hd
                  simp [b_all_reads_1, hd, stepR, hbit]
                | some b =>
                  rw [hbit] at hd
                  simp [b_all_reads_1, hd, stepR, hbit, szOk_le (show s3.2.length + 1 ≤ 100000 by omega), er]
              · unfold stepR
                simp only
                cases (actedT hs s3.1 addr st.1).2 with
                | none => exact Nat.le_trans hb3 (by omega)
                | some b =>
                  simp only [List.length_append, List.length_singleton]
                  omega) s2 [.pu (et t), .mo (fm hs s2.1), .pu TO, .ol (s2.2.map er), .pu (en p.2), .pu (.str (ods p.1.1)), .pu (.list (p.1.2.map es)), .pu (en addr), y8, y9, y10] ⟨y8, y9, y10, g8, g9, g10, rfl, hl2, by omega⟩
          subst he3
          rw [← enum_map] at q3
          rw [List.length_zipIdx] at hb3
          refine ⟨_, _, rfl, ?_, .pu (en addr), z8, z9, z10, rfl, k8, k9, k10, rfl, hl3, ?_⟩
          · simp [b_all_reads_2]
            rw [q3]
            rfl
          · show (((p.1.2.zipIdx 0).foldl (stepR hs p.2 addr) s2).2).length ≤ _
            omega) s [.pu (et t), .mo (fm hs s.1), .pu TO, .ol (s.2.map er), .pu (en p.2), .pu (.str (ods p.1.1)), .pu (.list (p.1.2.map es)), x7, x8, x9, x10] ⟨x7, x8, x9, x10, h7, h8, h9, h10, rfl, hl, by omega⟩
      subst he2
      rw [inOrd_len] at hb2
      have hix : gIx TO (en p.2) = some (eor up) := by
        show gIx (.list (ords.map eor)) (.int (p.2 : Int)) = _
        have hlt : p.2 < ords.length := by rw [ho.len]; exact hp2
        rw [hup, gIx_l, List.getElem?_map, List.getElem?_eq_getElem hlt, List.getD_eq_getElem?_getD, List.getElem?_eq_getElem hlt]
        rfl
      have hio := L_in_order n (by omega) up
      have hsz : eSize 1 [.pu (et t), .mo (fm hs s.1), .pu TO, .ol (s.2.map er), .pu (en p.2), .pu (.str (ods p.1.1)), .pu (.list (p.1.2.map es)), x7, x8, x9, x10] = some (en n) := by
        unfold eSize
        simp [ec, hl]
      refine ⟨_, _, rfl, ?_, .pu (en p.2), .pu (.str (ods p.1.1)), .pu (.list (p.1.2.map es)), y7, y8, y9, y10, rfl, rfl, rfl, g7, g8, g9, g10, rfl, (by rw [show elR hs n ords s p = (inOrd n up).foldl (addrR hs p.2 p.1.2) s by rw [hup]; rfl]; exact hl2), ?_⟩
      · have he : elR hs n ords s p = (inOrd n up).foldl (addrR hs p.2 p.1.2) s := by rw [hup]; rfl
        rw [he]
        simp [b_all_reads_3, hsz, hix, hio]
        rw [q2]
      · rw [show elR hs n ords s p = (inOrd n up).foldl (addrR hs p.2 p.1.2) s by rw [hup]; rfl]
        show ((inOrd n up).foldl (addrR hs p.2 p.1.2) s).2.length ≤ _
        omega) (ct, []) [.pu (et t), .mo (fm hs ct), .pu TO, .ol [], .un, .un, .un, .un, .un, .un, .un] ⟨.un, .un, .un, .un, .un, .un, .un, rfl, rfl, rfl, rfl, rfl, rfl, rfl, rfl, hct, by simp⟩
  subst he
  rw [← enum_map] at q
  refine ⟨((t.zipIdx 0).foldl (elR hs n ords) (ct, [])).1, ?_⟩
  have q' : forRun (aTup 2 (gsCons (aName 4) (gsCons (aTup 2 (gsCons (aName 5) (gsCons (aName 6) gsNil))) gsNil))) b_all_reads_3 (enumFrom 0 (t.map ee)) [.pu (et t), .mo (fm hs ct), .pu (.list (ords.map eor)), .ol [], .un, .un, .un, .un, .un, .un, .un] = _ := q
  unfold g_all_reads
  rw [runM_s]
  unfold et at q' ⊢
  simp [d_all_reads, env0]
  rw [q']
  simp [readsT, proOk]
end Tm

namespace Tm
open PySem
def readsOf (t : List El) (n : Nat) (hs : List Hm) (ct : List Bool) (ords : List Bool) : List Rd4 := readsT hs n t ords (heldFirst hs ct)
theorem L_reads_of {n : Nat} {hs : List Hm} {S : List Nat} (m : MOk n hs S) (t : List El) (ht : TOk t) (ords : List Bool) (ho : OOk t ords) (ct : List Bool) (hct : ct.length = n) :
    g_reads_of [et t, en n, eH hs, .list (ct.map eb), .list (ords.map eor)] = some (.list ((readsOf t n hs ct ords).map er)) := by
  obtain ⟨cu, h⟩ := L_all_reads m t ht ords ho (heldFirst hs ct) (held_len.trans hct)
  unfold g_reads_of
  rw [runF_s]
  simp [d_reads_of, env0, L_look_at_test t ht, L_m_init m ct hct, L_look_at_orders t ords ho, h]
  rfl
/-! ### what the reads name is there -/
def RdOk (t : List El) (r : Rd4) : Prop := ∃ e s, t[r.1]? = some e ∧ e.2[r.2.2.1]? = some s
def RdsOk (t : List El) (s : RS2) : Prop := ∀ r ∈ s.2, RdOk t r
theorem fold_inv {α β : Type} (I : β → Prop) (f : β → α → β) : ∀ (l : List α) (s : β), I s → (∀ s x, x ∈ l → I s → I (f s x)) → I (l.foldl f s)
  | [], s, h, _ => h
  | x :: l, s, h, k => fold_inv I f l (f s x) (k s x (by simp) h) fun s y m => k s y (by simp [m])
theorem zipIdx_get {α : Type} {l : List α} {p : α × Nat} (m : p ∈ l.zipIdx 0) : l[p.2]? = some p.1 := by
  obtain ⟨h1, h2⟩ := List.mem_zipIdx' m
  rw [List.getElem?_eq_getElem h1, h2]
theorem readsT_ok {hs : List Hm} {n : Nat} {t : List El} {ords : List Bool} {ct : List Bool} : ∀ r ∈ readsT hs n t ords ct, RdOk t r := by
  refine fold_inv (RdsOk t) (elR hs n ords) (t.zipIdx 0) (ct, []) (fun r m => by cases m) fun s p mp h => ?_
  refine fold_inv (RdsOk t) (addrR hs p.2 p.1.2) _ s h fun s addr ma h => ?_
  refine fold_inv (RdsOk t) (stepR hs p.2 addr) _ s h fun s st ms h => ?_
  intro r mr
  unfold stepR at mr
  simp only at mr
  split at mr
  · rename_i b hb
    rcases List.mem_append.mp mr with mr | mr
    · exact h r mr
    · simp at mr
      subst mr
      exact ⟨p.1, st.1, zipIdx_get mp, zipIdx_get ms⟩
  · exact h r mr
def wantB (t : List El) (r : Rd4) : Bool := match t[r.1]? with
  | some e => (match e.2[r.2.2.1]? with
    | some s => s.2
    | none => false)
  | none => false
abbrev Sh3 := Nat × Nat × Nat
def eSh (r : Sh3) : D := .tuple [en r.1, en r.2.1, en r.2.2]
def firstT (t : List El) : List Rd4 → Option Sh3
  | [] => none
  | r :: l => if r.2.2.2 = wantB t r then firstT t l else some (r.1, r.2.1, r.2.2.1)
theorem gNe_bb' (a b : Bool) : gNe (eb a) (eb b) = some (.bool (!decide (a = b))) := gNe_bb a b
theorem first_loop (t : List El) (A B C D' : SD) : ∀ (l : List Rd4) (x5 x6 x7 x8 : SD), nm x5 = true → nm x6 = true → nm x7 = true → nm x8 = true → (∀ r ∈ l, RdOk t r) → nm A = true → nm B = true → nm C = true → nm D' = true →
    ∃ y5 y6 y7 y8, nm y5 = true ∧ nm y6 = true ∧ nm y7 = true ∧ nm y8 = true ∧ forRun (aTup 4 (gsCons (aName 5) (gsCons (aName 6) (gsCons (aName 7) (gsCons (aName 8) gsNil))))) b_first_shown_1 (l.map er) [.pu (et t), A, B, C, D', x5, x6, x7, x8] = some (match firstT t l with
      | some r => .ret (eSh r)
      | none => .next [.pu (et t), A, B, C, D', y5, y6, y7, y8])
  | [], x5, x6, x7, x8, h5, h6, h7, h8, _, _, _, _, _ => ⟨x5, x6, x7, x8, h5, h6, h7, h8, rfl⟩
  | r :: l, x5, x6, x7, x8, h5, h6, h7, h8, ok, hA, hB, hC, hD => by
    obtain ⟨y5, y6, y7, y8, g5, g6, g7, g8, ih⟩ := first_loop t A B C D' l (.pu (en r.1)) (.pu (en r.2.1)) (.pu (en r.2.2.1)) (.pu (eb r.2.2.2)) rfl rfl rfl rfl (fun r m => ok r (by simp [m])) hA hB hC hD
    refine ⟨y5, y6, y7, y8, g5, g6, g7, g8, ?_⟩
    obtain ⟨e, s, he, hs⟩ := ok r (by simp)
    have w : wantB t r = s.2 := by
      unfold wantB
      simp only [he, hs]
    have i1 : gIx (et t) (en r.1) = some (ee e) := by
      show gIx (.list (t.map ee)) (.int (r.1 : Int)) = _
      rw [gIx_l, List.getElem?_map, he]
      rfl
    have i2 : gIx (.list (e.2.map es)) (en r.2.2.1) = some (es s) := by
      rw [gIx_l, List.getElem?_map, hs]
      rfl
    rw [List.map_cons]
    have ha : (aTup 4 (gsCons (aName 5) (gsCons (aName 6) (gsCons (aName 7) (gsCons (aName 8) gsNil))))) (er r) [.pu (et t), A, B, C, D', x5, x6, x7, x8] = some [.pu (et t), A, B, C, D', .pu (en r.1), .pu (en r.2.1), .pu (en r.2.2.1), .pu (eb r.2.2.2)] := rfl
    by_cases h : r.2.2.2 = s.2
    · have hf : firstT t (r :: l) = firstT t l := by
        show (if r.2.2.2 = wantB t r then _ else _) = _
        rw [w, if_pos h]
      rw [hf, fr_next ha (e2 := [.pu (et t), A, B, C, D', .pu (en r.1), .pu (en r.2.1), .pu (en r.2.2.1), .pu (eb r.2.2.2)]) (by simp [b_first_shown_1, i1, i2, h])]
      exact ih
    · have hf : firstT t (r :: l) = some (r.1, r.2.1, r.2.2.1) := by
        show (if r.2.2.2 = wantB t r then _ else _) = _
        rw [w, if_neg h]
      rw [hf, fr_ret ha (r := eSh (r.1, r.2.1, r.2.2.1)) (by simp [b_first_shown_1, i1, i2, h, hA, hB, hC, hD, eSh])]
def shownOf (t : List El) (n : Nat) (hs : List Hm) (ct : List Bool) (ords : List Bool) : Option Sh3 := firstT t (readsOf t n hs ct ords)
theorem L_first_shown {n : Nat} {hs : List Hm} {S : List Nat} (m : MOk n hs S) (t : List El) (ht : TOk t) (ords : List Bool) (ho : OOk t ords) (ct : List Bool) (hct : ct.length = n) :
    g_first_shown [et t, en n, eH hs, .list (ct.map eb), .list (ords.map eor)] = some (eo eSh (shownOf t n hs ct ords)) := by
  obtain ⟨y5, y6, y7, y8, g5, g6, g7, g8, h⟩ := first_loop t (.pu (en n)) (.pu (eH hs)) (.pu (.list (ct.map eb))) (.pu (.list (ords.map eor))) (readsOf t n hs ct ords) .un .un .un .un rfl rfl rfl rfl readsT_ok rfl rfl rfl rfl
  unfold g_first_shown shownOf
  rw [runF_s]
  simp [d_first_shown, env0, L_reads_of m t ht ords ho ct hct]
  rw [h]
  cases firstT t (readsOf t n hs ct ords) <;> simp [g5, g6, g7, g8, eo]
end Tm

namespace Tm
/-! ### the two symmetries -/
def revS (n : Nat) : Sy n where
  f c := n - 1 - c
  x := false
  T := List.reverse
  flt c h := by omega
  inj c d h1 h2 h := by omega
  len ct h := by rw [List.length_reverse, h]
  get ct c h hc := by
    unfold gb
    rw [List.getD_eq_getElem?_getD, List.getD_eq_getElem?_getD, List.getElem?_reverse (by omega), h]
    rw [show n - 1 - (n - 1 - c) = c by omega, Bool.xor_false]
  set ct c b h hc := by
    apply List.ext_getElem?
    intro i
    rw [Bool.xor_false]
    by_cases hi : i < n
    · rw [List.getElem?_reverse (by simp; omega), List.getElem?_set, List.getElem?_set, List.getElem?_reverse (by omega), List.length_set, List.length_reverse, h]
      by_cases e : c = n - 1 - i
      · rw [if_pos e, if_pos (by omega), if_pos (by omega), if_pos (by omega)]
      · rw [if_neg e, if_neg (by omega)]
    · rw [List.getElem?_eq_none (by simp; omega), List.getElem?_eq_none (by simp; omega)]
  tinj ct cu _ _ h := List.reverse_inj.mp h
  sur ct h := ⟨ct.reverse, by rw [List.length_reverse, h], List.reverse_reverse ct⟩
  fsur c h := ⟨n - 1 - c, by omega, by omega⟩
theorem nn_id (l : List Bool) : (l.map (!·)).map (!·) = l := by
  induction l with
  | nil => rfl
  | cons a l ih => rw [List.map_cons, List.map_cons, ih, Bool.not_not]
def notS (n : Nat) : Sy n where
  f c := c
  x := true
  T := List.map (!·)
  flt c h := h
  inj c d h1 h2 h := h
  len ct h := by rw [List.length_map, h]
  get ct c h hc := by
    unfold gb
    rw [List.getD_eq_getElem?_getD, List.getD_eq_getElem?_getD, List.getElem?_map, List.getElem?_eq_getElem (by omega)]
    simp
  set ct c b h hc := by rw [List.map_set, Bool.xor_true]
  tinj ct cu _ _ h := by
    have : (ct.map (!·)).map (!·) = (cu.map (!·)).map (!·) := by rw [h]
    rwa [nn_id, nn_id] at this
  sur ct h := ⟨ct.map (!·), by rw [List.length_map, h], nn_id ct⟩
  fsur c h := ⟨c, h, rfl⟩
section
variable {n : Nat} {S : Sy n}
def mu (S : Sy n) (r : Rd4) : Rd4 := (r.1, S.f r.2.1, r.2.2.1, r.2.2.2 ^^ S.x)
def mR (S : Sy n) (s : RS2) : RS2 := (S.T s.1, s.2.map (mu S))
theorem stepR_eq {hs : List Hm} (ok : ∀ h ∈ hs, HOk n h) {num addr : Nat} (ha : addr < n) {s : RS2} (hl : s.1.length = n) (p : (Bool × Bool) × Nat) : stepR (hs.map (mh S)) num (S.f addr) (mR S s) (flipS S.x p.1, p.2) = mR S (stepR hs num addr s p) := by
  unfold stepR
  show ((actedT (hs.map (mh S)) (S.T s.1) (S.f addr) (flipS S.x p.1)).1, match (actedT (hs.map (mh S)) (S.T s.1) (S.f addr) (flipS S.x p.1)).2 with
    | some b => (mR S s).2 ++ [(num, S.f addr, p.2, b)]
    | none => (mR S s).2) = _
  rw [acted_eq ok hl ha]
  cases (actedT hs s.1 addr p.1).2 with
  | none => rfl
  | some b =>
    unfold mR mu
    simp
theorem fold_map {α β γ δ : Type} (m : β → δ) (g : α → γ) (f : β → α → β) (f' : δ → γ → δ) (P : β → Prop) : ∀ (l : List α) (s : β), P s → (∀ s x, x ∈ l → P s → f' (m s) (g x) = m (f s x) ∧ P (f s x)) → (l.map g).foldl f' (m s) = m (l.foldl f s) ∧ P (l.foldl f s)
  | [], s, h, _ => ⟨rfl, h⟩
  | x :: l, s, h, k => by
    obtain ⟨h1, h2⟩ := k s x (by simp) h
    rw [List.map_cons, List.foldl_cons, List.foldl_cons, h1]
    exact fold_map m g f f' P l (f s x) h2 fun s y m => k s y (by simp [m])
theorem zipIdx_map' {α β : Type} (g : α → β) (l : List α) : (l.map g).zipIdx 0 = (l.zipIdx 0).map fun p => (g p.1, p.2) := by
  rw [List.zipIdx_map]
  rfl
theorem addrR_eq {hs : List Hm} (ok : ∀ h ∈ hs, HOk n h) {num addr : Nat} (ha : addr < n) {s : RS2} (hl : s.1.length = n) (steps : List (Bool × Bool)) :
    addrR (hs.map (mh S)) num (steps.map (flipS S.x)) (mR S s) (S.f addr) = mR S (addrR hs num steps s addr) ∧ (addrR hs num steps s addr).1.length = n := by
  unfold addrR
  rw [zipIdx_map']
  exact fold_map (mR S) _ (stepR hs num addr) (stepR (hs.map (mh S)) num (S.f addr)) (fun s => s.1.length = n) _ s hl fun s p _ hl => ⟨stepR_eq ok ha hl p, stepR_len.trans hl⟩
theorem elR_eq {hs : List Hm} (ok : ∀ h ∈ hs, HOk n h) {ords ords' : List Bool} {s : RS2} (hl : s.1.length = n) {p : El × Nat} {e' : El} (he : e'.2 = p.1.2.map (flipS S.x)) (ho : inOrd n (ords'.getD p.2 true) = (inOrd n (ords.getD p.2 true)).map S.f) :
    elR (hs.map (mh S)) n ords' (mR S s) (e', p.2) = mR S (elR hs n ords s p) ∧ (elR hs n ords s p).1.length = n := by
  unfold elR
  simp only
  rw [ho, he]
  exact fold_map (mR S) S.f (addrR hs p.2 p.1.2) _ (fun s => s.1.length = n) _ s hl fun s a ma hl => addrR_eq ok (inOrd_lt a ma) hl _
theorem readsT_eq {hs : List Hm} (ok : ∀ h ∈ hs, HOk n h) {t : List El} {g : El → El} (hg : ∀ e, (g e).2 = e.2.map (flipS S.x)) {ords ords' : List Bool} (ho : ∀ i, i < t.length → inOrd n (ords'.getD i true) = (inOrd n (ords.getD i true)).map S.f) {ct : List Bool} (hl : ct.length = n) :
    readsT (hs.map (mh S)) n (t.map g) ords' (S.T ct) = (readsT hs n t ords ct).map (mu S) := by
  unfold readsT
  rw [zipIdx_map']
  have := (fold_map (mR S) (fun p : El × Nat => (g p.1, p.2)) (elR hs n ords) (elR (hs.map (mh S)) n ords') (fun s => s.1.length = n) (t.zipIdx 0) (ct, []) hl fun s p mp hl => elR_eq ok hl (hg p.1) (ho p.2 (List.mem_zipIdx' mp).1)).1
  show ((List.map (fun p : El × Nat => (g p.1, p.2)) (t.zipIdx 0)).foldl (elR (hs.map (mh S)) n ords') (mR S (ct, []))).2 = _
  rw [this]
  rfl
theorem readsOf_eq {hs : List Hm} (ok : ∀ h ∈ hs, HOk n h) {t : List El} {g : El → El} (hg : ∀ e, (g e).2 = e.2.map (flipS S.x)) {ords ords' : List Bool} (ho : ∀ i, i < t.length → inOrd n (ords'.getD i true) = (inOrd n (ords.getD i true)).map S.f) {ct : List Bool} (hl : ct.length = n) :
    readsOf (t.map g) n (hs.map (mh S)) (S.T ct) ords' = (readsOf t n hs ct ords).map (mu S) := by
  unfold readsOf
  rw [held_eq ok hl]
  exact readsT_eq ok hg ho (held_len.trans hl)
theorem want_eq {t : List El} {g : El → El} (hg : ∀ e, (g e).2 = e.2.map (flipS S.x)) {r : Rd4} (ok : RdOk t r) : wantB (t.map g) (mu S r) = (wantB t r ^^ S.x) := by
  obtain ⟨e, s, h1, h2⟩ := ok
  have e1 : (t.map g)[r.1]? = some (g e) := by rw [List.getElem?_map, h1]; rfl
  have e2 : (g e).2[r.2.2.1]? = some (flipS S.x s) := by rw [hg, List.getElem?_map, h2]; rfl
  unfold wantB
  show (match (t.map g)[r.1]? with | some e => (match e.2[r.2.2.1]? with | some s => s.2 | none => false) | none => false) = _
  rw [e1, h1]
  simp only [e2, h2]
  rfl
def mS (S : Sy n) (r : Sh3) : Sh3 := (r.1, S.f r.2.1, r.2.2)
theorem first_eq {t : List El} {g : El → El} (hg : ∀ e, (g e).2 = e.2.map (flipS S.x)) : ∀ {l : List Rd4}, (∀ r ∈ l, RdOk t r) → firstT (t.map g) (l.map (mu S)) = (firstT t l).map (mS S)
  | [], _ => rfl
  | r :: l, ok => by
    rw [List.map_cons]
    show (if (r.2.2.2 ^^ S.x) = wantB (t.map g) (mu S r) then firstT (t.map g) (l.map (mu S)) else some (r.1, S.f r.2.1, r.2.2.1)) = (if r.2.2.2 = wantB t r then firstT t l else some (r.1, r.2.1, r.2.2.1)).map (mS S)
    simp only [want_eq hg (ok r (by simp)), xeq]
    split
    · exact first_eq hg fun r m => ok r (by simp [m])
    · rfl
theorem shown_eq {hs : List Hm} (ok : ∀ h ∈ hs, HOk n h) {t : List El} {g : El → El} (hg : ∀ e, (g e).2 = e.2.map (flipS S.x)) {ords ords' : List Bool} (ho : ∀ i, i < t.length → inOrd n (ords'.getD i true) = (inOrd n (ords.getD i true)).map S.f) {ct : List Bool} (hl : ct.length = n) :
    shownOf (t.map g) n (hs.map (mh S)) (S.T ct) ords' = (shownOf t n hs ct ords).map (mS S) := by
  unfold shownOf
  rw [readsOf_eq ok hg ho hl, first_eq hg (l := readsOf t n hs ct ords) readsT_ok]
end
theorem inOrd_rev (n : Nat) (up : Bool) : inOrd n (!up) = (inOrd n up).map (revS n).f := by
  unfold inOrd
  cases up with
  | true => rfl
  | false =>
    simp only [Bool.not_false, if_true, Bool.false_eq_true, if_false, List.map_map]
    have : ∀ l : List Nat, (∀ i ∈ l, i < n) → l = l.map ((revS n).f ∘ fun i => n - 1 - i) := fun l h => by
      induction l with
      | nil => rfl
      | cons a l ih =>
        rw [List.map_cons, ← ih fun i m => h i (by simp [m])]
        have := h a (by simp)
        show a :: l = (n - 1 - (n - 1 - a)) :: l
        rw [show n - 1 - (n - 1 - a) = a by omega]
    exact this _ fun i m => List.mem_range.mp m
theorem inOrd_not (n : Nat) (up : Bool) : inOrd n up = (inOrd n up).map (notS n).f := (List.map_id' _).symm
def endsO : Od → Od
  | .up => .down | .down => .up | .any => .any
def endsE (e : El) : El := (endsO e.1, e.2)
def bitsE (e : El) : El := (e.1, e.2.map (flipS true))
theorem endsE_2 (n : Nat) (e : El) : (endsE e).2 = e.2.map (flipS (revS n).x) := by
  show e.2 = e.2.map (flipS false)
  have : flipS false = id := by
    funext s
    obtain ⟨a, b⟩ := s
    simp [flipS]
  rw [this, List.map_id]
theorem bitsE_2 (n : Nat) (e : El) : (bitsE e).2 = e.2.map (flipS (notS n).x) := rfl
end Tm

namespace Tm
open PySem
/-! ### little -/
def rk (hs : List Hm) (c : Nat) : Nat := (cellsN hs).idxOf c
theorem lookup_idx {c : Nat} : ∀ (l : List Nat) (k : Nat), c ∈ l → (l.zipIdx k).lookup c = some (k + l.idxOf c)
  | x :: l, k, h => by
    rw [List.zipIdx_cons, List.lookup_cons, List.idxOf_cons]
    by_cases e : c = x
    · subst e
      simp
    · have h2 : c ∈ l := (List.mem_cons.mp h).resolve_left e
      have : (c == x) = false := beq_eq_false_iff_ne.mpr e
      have : (x == c) = false := beq_eq_false_iff_ne.mpr fun z => e z.symm
      simp only [*]
      rw [lookup_idx l (k + 1) h2]
      simp
      omega
theorem filt_true {α : Type} (l : List α) : l.filter (fun _ => true) = l := List.filter_eq_self.mpr fun _ _ => rfl
theorem pairsD_enc : ∀ l : List (Nat × Nat), pairsD (l.map fun p => .tuple [en p.1, en p.2]) = some (encP l)
  | [] => rfl
  | p :: l => by
    show (match keyOf (en p.1), pairsD (l.map fun p => .tuple [en p.1, en p.2]) with
      | some _, some t => some ((en p.1, en p.2) :: t)
      | _, _ => none) = _
    rw [pairsD_enc l]
    rfl
theorem zipIdx_fst (l : List Nat) (k : Nat) : (l.zipIdx k).map (·.1) = l := by
  induction l generalizing k with
  | nil => rfl
  | cons x l ih => rw [List.zipIdx_cons, List.map_cons, ih]
theorem cin_sub {hs : List Hm} {h : Hm} (m : h ∈ hs) {c : Nat} (hc : c ∈ cin h) : c ∈ cellsN hs := cellsN_mem.mpr ⟨h, m, hc⟩
theorem L_little (hs : List Hm) (S : List Nat) (o : HsOk hs S) : g_little [eH hs] = some (eH (hs.map (mapC (rk hs)))) := by
  have hc := o.cells
  let ND : D := .dict (encP ((cellsN hs).zipIdx 0))
  have l1 : lcRun [2, 3] (aTup 2 (gsCons (aName 2) (gsCons (aName 3) gsNil))) (fun _ => some true) (eA mkTup (aCons (eVar 3) (aCons (eVar 2) aNil))) [.pu (eH hs), .un, .un, .un, .un] (((cellsN hs).zipIdx 0).map fun p => .tuple [.int (p.2 : Int), en p.1]) = some ((((cellsN hs).zipIdx 0).filter fun _ => true).map fun p => .tuple [en p.1, en p.2]) :=
    lc_map (fun p : Nat × Nat => .tuple [.int (p.2 : Int), en p.1]) (fun _ => true) (fun p => .tuple [en p.1, en p.2]) _ fun p m => ⟨[.pu (eH hs), .un, .pu (.int (p.2 : Int)), .pu (en p.1), .un], rfl, rfl, fun _ => by simp⟩
  rw [filt_true, ← enum_map] at l1
  have nd : (((cellsN hs).zipIdx 0).map (·.1)).Nodup := by
    rw [zipIdx_fst]
    exact cellsN_nd o.ok
  have gd : gDictP [.list (((cellsN hs).zipIdx 0).map fun p => .tuple [en p.1, en p.2])] = some ND := by
    show (match pairsD (((cellsN hs).zipIdx 0).map fun p => .tuple [en p.1, en p.2]) with
      | some es => some (PyData.dict (mergeD [] es))
      | none => none) = _
    rw [pairsD_enc]
    have := merge_nd ((cellsN hs).zipIdx 0) [] nd
    show some (PyData.dict (mergeD (encP []) (encP ((cellsN hs).zipIdx 0)))) = _
    rw [this]
    rfl
  have l2 : lcRun [4] (aName 4) (fun _ => some true) (eA (gN 2 g_called) (aCons (eVar 4) (aCons (eVar 1) aNil))) [.pu (eH hs), .pu ND, .un, .un, .un] (hs.map eh) = some ((hs.filter fun _ => true).map fun h => eh (mapC (rk hs) h)) :=
    lc_map eh (fun _ => true) (fun h => eh (mapC (rk hs) h)) hs fun h m => ⟨[.pu (eH hs), .pu ND, .un, .un, .pu (eh h)], rfl, rfl, fun _ => by
      have hg : g_called [eh h, ND] = some (eh (mapC (rk hs) h)) := L_called h ND (rk hs) fun c mc => by
        rw [look_enc, lookup_idx _ _ (cin_sub m mc)]
        simp [rk]
      simp [hg]⟩
  rw [filt_true] at l2
  have hl := o.len
  have s1 : szOk (enumFrom 0 ((cellsN hs).map en)).length = true := by
    rw [enum_len, List.length_map]
    exact szOk_le (by omega)
  have s2 : szOk hs.length = true := szOk_le (by omega)
  unfold g_little
  rw [runF_s]
  simp [d_little, env0, L_cells_of hs S o, s1, l1, gd, s2, l2]
  unfold eH
  rw [List.map_map]
  rfl
/-! ### what a memory can hold -/
def allX : Nat → List (List Bool)
  | 0 => [[]]
  | 1 => [[false], [true]]
  | 2 => [[false, false], [false, true], [true, false], [true, true]]
  | _ => [[false, false, false], [false, false, true], [false, true, false], [false, true, true], [true, false, false], [true, false, true], [true, true, false], [true, true, true]]
theorem L_all_contents {m : Nat} (h1 : 1 ≤ m) (h3 : m ≤ 3) : g_all_contents [en m] = some (.list ((allX m).map ec)) := by
  match m, h1, h3 with
  | 1, _, _ => with_unfolding_all rfl
  | 2, _, _ => with_unfolding_all rfl
  | 3, _, _ => with_unfolding_all rfl
theorem allX_mem {m : Nat} (h1 : 1 ≤ m) (h3 : m ≤ 3) (c : List Bool) : c ∈ allX m ↔ c.length = m := by
  match m, h1, h3 with
  | 1, _, _ =>
    match c with
    | [] => simp [allX]
    | [a] => cases a <;> simp [allX]
    | a :: b :: l => simp [allX]
  | 2, _, _ =>
    match c with
    | [] => simp [allX]
    | [a] => simp [allX]
    | [a, b] => cases a <;> cases b <;> simp [allX]
    | a :: b :: c :: l => simp [allX]
  | 3, _, _ =>
    match c with
    | [] => simp [allX]
    | [a] => simp [allX]
    | [a, b] => simp [allX]
    | [a, b, c] => cases a <;> cases b <;> cases c <;> simp [allX]
    | a :: b :: c :: d :: l => simp [allX]
theorem allX_len {m : Nat} : (allX m).length ≤ 8 := by
  unfold allX
  split <;> decide
end Tm

namespace Tm
open PySem
/-! ### what may stand -/
abbrev Vl := D × List D
abbrev St2 := List (List Bool × Vl)
def ev (v : Vl) : D := .tuple [v.1, .list v.2]
def enS (s : St2) : List (D × D) := s.map fun p => (ec p.1, ev p.2)
def eS (s : St2) : D := .dict (enS s)
def keys (s : St2) : List (List Bool) := s.map (·.1)
structure SOk (m L : Nat) (s : St2) : Prop where
  nd : (keys s).Nodup
  len : ∀ k ∈ keys s, k.length = m
  lim : ∀ p ∈ s, p.2.2.length ≤ L
theorem nd_len' {α : Type} [DecidableEq α] : ∀ (l S : List α), l.Nodup → (∀ x ∈ l, x ∈ S) → l.length ≤ S.length
  | [], _, _, _ => Nat.zero_le _
  | x :: l, S, nd, h => by
    obtain ⟨h1, h2⟩ := List.nodup_cons.mp nd
    have hx := h x (by simp)
    have := nd_len' l (S.erase x) h2 fun y m => (List.mem_erase_of_ne (show y ≠ x from fun e => h1 (e ▸ m))).mpr (h y (by simp [m]))
    rw [List.length_erase_of_mem hx] at this
    have : 0 < S.length := List.length_pos_of_mem hx
    rw [List.length_cons]
    omega
theorem SOk.size {m L : Nat} {s : St2} (o : SOk m L s) (h1 : 1 ≤ m) (h3 : m ≤ 3) : s.length ≤ 8 := by
  have := nd_len' (keys s) (allX m) o.nd fun k hk => (allX_mem h1 h3 k).mpr (o.len k hk)
  unfold keys at this
  rw [List.length_map] at this
  exact Nat.le_trans this allX_len
theorem keysOf_bits : ∀ k : List Bool, (keysOf (k.map eb)).isSome = true
  | [] => rfl
  | b :: k => by
    have ih := keysOf_bits k
    obtain ⟨ks, e⟩ := Option.isSome_iff_exists.mp ih
    show (keysOf (eb b :: k.map eb)).isSome = true
    unfold keysOf
    rw [e]
    rfl
theorem keyT_ec (k : List Bool) : keyT (ec k) = true := keysOf_bits k
theorem keyish_ec (k : List Bool) : keyish (ec k) = true := by
  show (false || (keysOf (k.map eb)).isSome) = true
  rw [keysOf_bits]
  rfl
theorem look_S (s : St2) (k : List Bool) : lookD (enS s) (ec k) = (s.lookup k).map ev := by
  unfold lookD
  induction s with
  | nil => rfl
  | cons p s ih =>
    show (List.find? _ ((ec p.1, ev p.2) :: enS s)).map _ = _
    rw [List.find?_cons, List.lookup_cons]
    simp only [eqv_ec]
    by_cases h : p.1 = k
    · subst h
      simp
    · have h2 : (k == p.1) = false := beq_eq_false_iff_ne.mpr fun e => h e.symm
      simp only [h, h2, decide_false]
      exact ih
theorem gIx_S (s : St2) (k : List Bool) : gIx (eS s) (ec k) = (s.lookup k).map ev := by
  have : gIx (eS s) (ec k) = (if keyish (ec k) then lookD (enS s) (ec k) else none) := rfl
  rw [this, keyish_ec, if_pos rfl, look_S]
theorem lookup_nd : ∀ {s : St2}, (keys s).Nodup → ∀ p ∈ s, s.lookup p.1 = some p.2
  | q :: s, nd, p, m => by
    obtain ⟨h1, h2⟩ := List.nodup_cons.mp nd
    rw [List.lookup_cons]
    rcases List.mem_cons.mp m with rfl | m
    · simp
    · have : (p.1 == q.1) = false := beq_eq_false_iff_ne.mpr fun e => h1 (by
      show q.1 ∈ _
      rw [← e]
      exact List.mem_map.mpr ⟨p, m, rfl⟩)
      rw [this]
      exact lookup_nd h2 p m
def sdT (s : St2) (k : List Bool) (v : Vl) : St2 := if (s.lookup k).isSome then s else s ++ [(k, v)]
theorem lookup_key {s : St2} {k : List Bool} : (s.lookup k).isSome = true ↔ k ∈ keys s := by
  induction s with
  | nil => simp [keys]
  | cons p s ih =>
    rw [List.lookup_cons]
    unfold keys at ih ⊢
    by_cases h : k = p.1
    · subst h
      simp
    · have : (k == p.1) = false := beq_eq_false_iff_ne.mpr h
      simp only [this]
      rw [ih]
      simp [h]
theorem setd_S (s : St2) (k : List Bool) (v : Vl) : setdD (enS s) (ec k) (ev v) = enS (sdT s k v) := by
  unfold setdD sdT
  rw [look_S]
  cases h : s.lookup k with
  | none =>
    simp [enS]
  | some x => simp
theorem sdT_key {s : St2} {k k' : List Bool} {v : Vl} : k' ∈ keys (sdT s k v) ↔ k' ∈ keys s ∨ k' = k := by
  unfold sdT
  split
  · rename_i h
    have := lookup_key.mp h
    exact ⟨.inl, fun z => z.elim id fun e => e ▸ this⟩
  · unfold keys
    simp
theorem sdT_ok {m L : Nat} {s : St2} {k : List Bool} {v : Vl} (o : SOk m L s) (hk : k.length = m) (hv : v.2.length ≤ L) : SOk m L (sdT s k v) := by
  refine ⟨?_, fun k' h => ?_, fun p h => ?_⟩
  · unfold sdT
    split
    · exact o.nd
    · rename_i h
      have h' : k ∉ keys s := fun z => h (lookup_key.mpr z)
      unfold keys at h' ⊢
      rw [List.map_append, List.nodup_append]
      refine ⟨o.nd, by simp, fun a ha b hb e => ?_⟩
      simp at hb
      rw [e, hb] at ha
      exact h' ha
  · rcases sdT_key.mp h with h | rfl
    · exact o.len k' h
    · exact hk
  · unfold sdT at h
    split at h
    · exact o.lim p h
    · rcases List.mem_append.mp h with h | h
      · exact o.lim p h
      · simp at h
        subst h
        exact hv
theorem sdT_len {s : St2} {k : List Bool} {v : Vl} : (sdT s k v).length ≤ s.length + 1 := by
  unfold sdT
  split <;> simp
theorem nil_ok (m L : Nat) : SOk m L [] := ⟨by simp [keys], fun k h => by simp [keys] at h, fun p h => by cases h⟩
@[simp] theorem cSetd_s (i : Nat) (fk fv : SE → Option D) (env : SE) : cSetd i fk fv env = (match env[i]? with
  | some (.ot es) => (match fk env with
    | some y => (match fv env with
      | some z => if keyT y && szOk (es.length + 1) then some (.next (env.set i (.ot (setdD es y z)))) else none
      | none => none)
    | none => none)
  | _ => none) := rfl
@[simp] theorem dItems_s (i : Nat) (env : SE) : dItems i env = (match env[i]? with
  | some (.pu (.dict es)) => some (es.map (·.1))
  | _ => none) := rfl
theorem enS_len (s : St2) : (enS s).length = s.length := by simp [enS]
/-! beyond -/
def okB (o : Option Bool) (b : Bool) : Bool := match o with
  | none => true
  | some x => decide (x = b)
def beyStep (hs : List Hm) (a : Nat) (st : Bool × Bool) (f : St2) (p : List Bool × Vl) : St2 := if okB (actedT hs p.1 a st).2 st.2 then sdT f (actedT hs p.1 a st).1 p.2 else f
def beyT (hs : List Hm) (s : St2) (a : Nat) (st : Bool × Bool) : St2 := s.foldl (beyStep hs a st) []
theorem beyT_ok {m L : Nat} {hs : List Hm} {s : St2} {a : Nat} {st : Bool × Bool} (o : SOk m L s) : SOk m L (beyT hs s a st) := by
  refine fold_inv (SOk m L) (beyStep hs a st) s [] (nil_ok m L) fun f p mp hf => ?_
  unfold beyStep
  split
  · exact sdT_ok hf (acted_len.trans (o.len p.1 (List.mem_map.mpr ⟨p, mp, rfl⟩))) (o.lim p mp)
  · exact hf
theorem L_beyond {m L : Nat} {hs : List Hm} {s : St2} {a : Nat} {st : Bool × Bool} (h1 : 1 ≤ m) (h3 : m ≤ 3) (ok : ∀ h ∈ hs, HOk m h) (ha : a < m) (o : SOk m L s) : g_beyond [eH hs, eS s, en a, es st] = some (eS (beyT hs s a st)) := by
  have h8 := o.size h1 h3
  obtain ⟨e1, q, x5, x6, x7, k5, k6, k7, he, hl⟩ := for_foldN (fun p : List Bool × Vl => ec p.1) (fun i (f : St2) env => ∃ x5 x6 x7, nm x5 = true ∧ nm x6 = true ∧ nm x7 = true ∧ env = [.pu (eH hs), .pu (eS s), .pu (en a), .pu (es st), .ot (enS f), x5, x6, x7] ∧ f.length ≤ i)
    (beyStep hs a st) (a := aName 5) (F := b_beyond_1) s 0
    (fun i f p env mp hi ⟨x5, x6, x7, k5, k6, k7, e, hl⟩ => by
      subst e
      have hp : p.1.length = m := o.len p.1 (List.mem_map.mpr ⟨p, mp, rfl⟩)
      have hac := L_acted hs p.1 a st (by omega) (by omega) (by rw [hp]; exact ok)
      have hlk : gIx (eS s) (ec p.1) = some (ev p.2) := by
        rw [gIx_S, lookup_nd o.nd p mp]
        rfl
      have sz : szOk ((enS f).length + 1) = true := szOk_le (by rw [enS_len]; omega)
      refine ⟨_, [.pu (eH hs), .pu (eS s), .pu (en a), .pu (es st), .ot (enS (beyStep hs a st f p)), .pu (ec p.1), .pu (ec (actedT hs p.1 a st).1), .pu (eo eb (actedT hs p.1 a st).2)], rfl, ?_, _, _, _, rfl, rfl, rfl, rfl, ?_⟩
      · cases hb : (actedT hs p.1 a st).2 with
        | none =>
          rw [hb] at hac
          simp [b_beyond_1, hac, hlk, keyT_ec, sz, setd_S, beyStep, hb, okB]
        | some b =>
          rw [hb] at hac
          by_cases hbs : b = st.2
          · simp [b_beyond_1, hac, hlk, keyT_ec, sz, setd_S, beyStep, hb, okB, hbs]
          · simp [b_beyond_1, hac, hlk, keyT_ec, sz, setd_S, beyStep, hb, okB, hbs]
      · unfold beyStep
        split
        · exact Nat.le_trans sdT_len (by omega)
        · omega) [] [.pu (eH hs), .pu (eS s), .pu (en a), .pu (es st), .ot [], .un, .un, .un] ⟨.un, .un, .un, rfl, rfl, rfl, rfl, Nat.le_refl _⟩
  subst he
  have hk : (enS s).map (fun e : D × D => e.1) = s.map fun p => ec p.1 := by
    unfold enS
    rw [List.map_map]
    rfl
  unfold g_beyond
  rw [runF_s]
  have hd : ∀ env : SE, env[1]? = some (.pu (eS s)) → dItems 1 env = some (s.map fun p => ec p.1) := fun env h => by
    show (match env[1]? with
      | some (.pu (.dict es)) => some (es.map fun e : D × D => e.1)
      | _ => none) = _
    rw [h, ← hk]
    rfl
  simp only [d_beyond, env0, cSeq_s, cOwn_s, cFor_s]
  simp only [List.map_cons, List.map_nil, List.length_cons, List.length_nil, List.replicate, List.cons_append, List.nil_append, List.set_cons_succ, List.set_cons_zero]
  rw [hd _ rfl]
  simp only []
  rw [q]
  simp [k5, k6, k7]
  rfl
/-! sorted(stands) -/
def toI (c : List Bool) : List Int := c.map fun b => if b then 1 else 0
theorem ec_tup (c : List Bool) : ec c = tupI (toI c) := by
  unfold ec tupI toI
  rw [List.map_map]
  rfl
theorem allTups_ec : ∀ ks : List (List Bool), allTups (ks.map ec) = some (ks.map toI)
  | [] => rfl
  | k :: ks => by
    show (match allInts (k.map eb), allTups (ks.map ec) with
      | some ns, some t => some (ns :: t)
      | _, _ => none) = _
    rw [allInts_bits, allTups_ec ks]
    rfl
theorem bitsOk_toI {m : Nat} {k : List Bool} (h : k.length = m) : bitsOk m (toI k) = true := by
  unfold bitsOk toI
  simp [h]
theorem gSorted_S {m L : Nat} {s : St2} (h1 : 1 ≤ m) (h3 : m ≤ 3) (o : SOk m L s) : ∃ l, gSorted [eS s] = some (.list l) ∧ l.length = s.length ∧ ∀ x ∈ l, ∃ k ∈ keys s, x = ec k := by
  have h8 := o.size h1 h3
  have e1 : gSorted [eS s] = sortT ((keys s).map ec) := by
    show ((none : Option D).or ((none : Option D).or (sortT ((enS s).map (·.1))))) = _
    unfold enS keys
    rw [List.map_map, List.map_map]
    rfl
  have e2 : sortT ((keys s).map ec) = some (.list ((sortB ((keys s).map toI)).map tupI)) := by
    unfold sortT
    rw [allTups_ec]
    cases hk : keys s with
    | nil => rfl
    | cons k ks =>
      have hl := o.len
      rw [hk] at hl
      have hks : ks.length < 63 := by
        have : (keys s).length = s.length := by unfold keys; rw [List.length_map]
        rw [hk, List.length_cons] at this
        omega
      have hkl : (toI k).length = m := by
        unfold toI
        rw [List.length_map]
        exact hl k (by simp)
      simp only [List.map_cons, hkl]
      have ha : (toI k :: ks.map toI).all (bitsOk m) = true := by
        rw [List.all_eq_true]
        intro x hx
        rcases List.mem_cons.mp hx with rfl | hx
        · exact bitsOk_toI (hl k (by simp))
        · obtain ⟨c, hc, rfl⟩ := List.mem_map.mp hx
          exact bitsOk_toI (hl c (by simp [hc]))
      rw [ha, List.length_map, decide_eq_true hks, decide_eq_true h1]
      rfl
  refine ⟨_, e1.trans e2, ?_, fun x hx => ?_⟩
  · rw [List.length_map, (sortB_perm _).length_eq]
    unfold keys
    simp
  · obtain ⟨n, hn, rfl⟩ := List.mem_map.mp hx
    obtain ⟨c, hc, rfl⟩ := List.mem_map.mp ((sortB_perm _).mem_iff.mp hn)
    exact ⟨c, hc, (ec_tup c).symm⟩
end Tm

namespace Tm
open PySem
/-! steps_done -/
def stepsD (m : Nat) (up : Bool) (ss : List (Bool × Bool)) : List (Nat × (Bool × Bool)) := (inOrd m up).flatMap fun a => ss.map fun s => (a, s)
def eas (x : Nat × (Bool × Bool)) : D := .tuple [en x.1, es x.2]
theorem flat_fold {α β : Type} (f : α → List β) : ∀ (l : List α) (acc : List β), l.foldl (fun a x => a ++ f x) acc = acc ++ l.flatMap f
  | [], acc => by simp
  | x :: l, acc => by
    rw [List.foldl_cons, flat_fold f l]
    simp
theorem L_steps_done (m : Nat) (hm : m ≤ 3) (e : El) (he : e.2.length ≤ 6) (up : Bool) : g_steps_done [en m, ee e, eor up] = some (.list ((stepsD m up e.2).map eas)) := by
  obtain ⟨e1, q, x4, k4, hx, hl⟩ := for_foldN en (fun i (f : List (Nat × (Bool × Bool))) env => ∃ x4, nm x4 = true ∧ env = [.pu (en m), .pu (ee e), .pu (eor up), .ol (f.map eas), x4, .un] ∧ f.length ≤ 6 * i) (fun f a => f ++ e.2.map fun s => (a, s)) (a := aName 4) (F := b_steps_done_1) (inOrd m up) 0
    (fun i f a env ma hi ⟨x4, k4, hx, hl⟩ => by
      subst hx
      rw [inOrd_len] at hi
      have l1 : lcRun [5] (aName 5) (fun _ => some true) (eA mkTup (aCons (eVar 4) (aCons (eVar 5) aNil))) [.pu (en m), .pu (ee e), .pu (eor up), .ol (f.map eas), .pu (en a), .un] (e.2.map es) = some ((e.2.filter fun _ => true).map fun s => eas (a, s)) :=
        lc_map es (fun _ => true) (fun s => eas (a, s)) e.2 fun s _ => ⟨[.pu (en m), .pu (ee e), .pu (eor up), .ol (f.map eas), .pu (en a), .pu (es s)], rfl, rfl, fun _ => by simp [eas]⟩
      rw [filt_true] at l1
      have s1 : szOk e.2.length = true := szOk_le (by omega)
      have s2 : szOk (f.length + e.2.length) = true := szOk_le (by omega)
      refine ⟨_, [.pu (en m), .pu (ee e), .pu (eor up), .ol ((f ++ e.2.map fun s => (a, s)).map eas), .pu (en a), .un], rfl, ?_, _, rfl, rfl, ?_⟩
      · simp [b_steps_done_1, s1, l1, s2]
      · simp
        omega) [] [.pu (en m), .pu (ee e), .pu (eor up), .ol [], .un, .un] ⟨.un, rfl, rfl, Nat.le_refl _⟩
  subst hx
  have ef : (inOrd m up).foldl (fun f a => f ++ e.2.map fun s => (a, s)) [] = stepsD m up e.2 := by
    rw [flat_fold]
    rfl
  rw [ef] at q
  unfold g_steps_done
  rw [runF_s]
  simp [d_steps_done, env0, L_in_order m (by omega) up]
  rw [q]
  simp [k4]
theorem stepsD_lt {m : Nat} {up : Bool} {ss : List (Bool × Bool)} {x : Nat × (Bool × Bool)} (h : x ∈ stepsD m up ss) : x.1 < m := by
  obtain ⟨a, ha, hx⟩ := List.mem_flatMap.mp h
  obtain ⟨s, _, rfl⟩ := List.mem_map.mp hx
  exact inOrd_lt a ha
theorem stepsD_len {m : Nat} {up : Bool} {ss : List (Bool × Bool)} : (stepsD m up ss).length = m * ss.length := by
  unfold stepsD
  rw [List.length_flatMap]
  have h : ∀ l : List Nat, (l.map fun a => (ss.map fun s => (a, s)).length).sum = l.length * ss.length := fun l => by
    induction l with
    | nil => simp
    | cons a l ih =>
      rw [List.map_cons, List.sum_cons, ih, List.length_map, List.length_cons, Nat.add_mul, Nat.one_mul, Nat.add_comm]
  rw [h, inOrd_len]
/-! orders_for -/
def ordsFor : Od → List Bool
  | .any => [true, false]
  | .up => [true]
  | .down => [false]
theorem any_ok : PyData.strOk "any" = true := by decide +kernel
theorem ods_any (o : Od) : gEq (.str (ods o)) (.str "any") = some (.bool (decide (o = .any))) := by
  have h : PyData.strOk (ods o) = true := by cases o <;> decide +kernel
  rw [gEq_ss h any_ok]
  congr 2
  cases o <;> decide +kernel
theorem L_orders_for (e : El) : g_orders_for [ee e] = some (.list ((ordsFor e.1).map eor)) := by
  unfold g_orders_for
  rw [runF_s]
  obtain ⟨o, ss⟩ := e
  cases o <;> simp [d_orders_for, env0, ods_any] <;> rfl
/-! gone_over -/
def goT (hs : List Hm) (l : List (Nat × (Bool × Bool))) (s : St2) : St2 := l.foldl (fun s x => beyT hs s x.1 x.2) s
theorem goT_ok {m L : Nat} {hs : List Hm} {l : List (Nat × (Bool × Bool))} {s : St2} (o : SOk m L s) : SOk m L (goT hs l s) := fold_inv (SOk m L) _ l s o fun s x _ o => beyT_ok o
theorem L_gone_over {m L : Nat} {hs : List Hm} {s : St2} (h1 : 1 ≤ m) (h3 : m ≤ 3) (ok : ∀ h ∈ hs, HOk m h) (o : SOk m L s) (e : El) (he : e.2.length ≤ 6) (up : Bool) :
    ∃ l, g_gone_over [eH hs, en m, eS s, ee e, eor up] = some (.tuple [.list l, eS (goT hs (stepsD m up e.2) s)]) := by
  obtain ⟨e1, q, l, x6, x7, k6, k7, hx, hl, ho⟩ := for_foldN eas (fun i (s : St2) env => ∃ l x6 x7, nm x6 = true ∧ nm x7 = true ∧ env = [.pu (eH hs), .pu (en m), .pu (eS s), .pu (ee e), .pu (eor up), .ol l, x6, x7] ∧ l.length ≤ i ∧ SOk m L s) (fun s x => beyT hs s x.1 x.2) (a := aTup 2 (gsCons (aName 6) (gsCons (aName 7) gsNil))) (F := b_gone_over_1) (stepsD m up e.2) 0
    (fun i s x env mx hi ⟨l, x6, x7, k6, k7, hx, hl, ho⟩ => by
      subst hx
      obtain ⟨l2, hs2, _, _⟩ := gSorted_S h1 h3 ho
      have hi2 : i < 3 * 6 := by
        rw [stepsD_len] at hi
        have := Nat.mul_le_mul h3 he
        omega
      have hb := L_beyond (st := x.2) h1 h3 ok (stepsD_lt mx) ho
      refine ⟨_, [.pu (eH hs), .pu (en m), .pu (eS (beyT hs s x.1 x.2)), .pu (ee e), .pu (eor up), .ol (l ++ [.list l2]), .pu (en x.1), .pu (es x.2)], rfl, ?_, _, _, _, rfl, rfl, rfl, by simp; omega, beyT_ok ho⟩
      simp [b_gone_over_1, hs2, szOk_le (show l.length + 1 ≤ 100000 by omega), hb]) s [.pu (eH hs), .pu (en m), .pu (eS s), .pu (ee e), .pu (eor up), .ol [], .un, .un] ⟨[], .un, .un, rfl, rfl, rfl, Nat.le_refl _, o⟩
  subst hx
  refine ⟨l, ?_⟩
  unfold g_gone_over
  rw [runF_s]
  simp [d_gone_over, env0, L_steps_done m h3 e he up]
  rw [q]
  simp [k6, k7]
  rfl
/-! begun -/
def begStep (hs : List Hm) (f : St2) (c : List Bool) : St2 := sdT f (heldFirst hs c) (ec c, [])
def begT (hs : List Hm) (m : Nat) : St2 := (allX m).foldl (begStep hs) []
theorem begT_ok {m : Nat} (h1 : 1 ≤ m) (h3 : m ≤ 3) (hs : List Hm) : SOk m 0 (begT hs m) :=
  fold_inv (SOk m 0) (begStep hs) (allX m) [] (nil_ok m 0) fun f c mc o => sdT_ok o (held_len.trans ((allX_mem h1 h3 c).mp mc)) (Nat.le_refl _)
theorem L_begun {m : Nat} {hs : List Hm} (h1 : 1 ≤ m) (h3 : m ≤ 3) (ok : ∀ h ∈ hs, HOk m h) : g_begun [eH hs, en m] = some (eS (begT hs m)) := by
  obtain ⟨e1, q, x3, k3, hx, hl⟩ := for_foldN ec (fun i (f : St2) env => ∃ x3, nm x3 = true ∧ env = [.pu (eH hs), .pu (en m), .ot (enS f), x3] ∧ f.length ≤ i) (begStep hs) (a := aName 3) (F := b_begun_1) (allX m) 0
    (fun i f c env mc hi ⟨x3, k3, hx, hl⟩ => by
      subst hx
      have hc := (allX_mem h1 h3 c).mp mc
      have h8 := allX_len (m := m)
      have hh := L_held hs c (ec c) rfl (by omega) (by rw [hc]; exact ok)
      have sz : szOk ((enS f).length + 1) = true := szOk_le (by rw [enS_len]; omega)
      refine ⟨_, [.pu (eH hs), .pu (en m), .ot (enS (begStep hs f c)), .pu (ec c)], rfl, ?_, _, rfl, rfl, ?_⟩
      · have := setd_S f (heldFirst hs c) (ec c, [])
        unfold ev at this
        simp [b_begun_1, hh, keyT_ec, sz, begStep, this]
      · exact Nat.le_trans sdT_len (by omega)) [] [.pu (eH hs), .pu (en m), .ot [], .un] ⟨.un, rfl, rfl, Nat.le_refl _⟩
  subst hx
  unfold g_begun
  rw [runF_s]
  simp [d_begun, env0, L_all_contents h1 h3]
  rw [q]
  simp [k3]
  rfl
end Tm

namespace Tm
open PySem
/-! judged -/
def latStep (up : Bool) (l : St2) (p : List Bool × Vl) : St2 := sdT l p.1 (p.2.1, p.2.2 ++ [eor up])
def latT (up : Bool) (ends l : St2) : St2 := ends.foldl (latStep up) l
def elJ (hs : List Hm) (m : Nat) (s : St2) (e : El) : St2 := (ordsFor e.1).foldl (fun l up => latT up (goT hs (stepsD m up e.2) s) l) []
theorem latT_ok {m L : Nat} {up : Bool} {ends l : St2} (o : SOk m L ends) (ol : SOk m (L + 1) l) : SOk m (L + 1) (latT up ends l) :=
  fold_inv (SOk m (L + 1)) (latStep up) ends l ol fun l p mp ol => sdT_ok ol (o.len p.1 (List.mem_map.mpr ⟨p, mp, rfl⟩)) (by
    have := o.lim p mp
    simp
    omega)
theorem elJ_ok {m L : Nat} {hs : List Hm} {s : St2} {e : El} (o : SOk m L s) : SOk m (L + 1) (elJ hs m s e) :=
  fold_inv (SOk m (L + 1)) _ (ordsFor e.1) [] (nil_ok m (L + 1)) fun l up _ ol => latT_ok (goT_ok o) ol
theorem s_uu : PyData.eqv (.str "up") (.str "up") = true := by decide +kernel
theorem s_du : PyData.eqv (.str "down") (.str "up") = false := by decide +kernel
theorem s_ud : PyData.eqv (.str "up") (.str "down") = false := by decide +kernel
theorem s_dd : PyData.eqv (.str "down") (.str "down") = true := by decide +kernel
def row2 (a b : D) : List (D × D) := [(.str "up", a), (.str "down", b)]
theorem row_put (a b v : D) (up : Bool) : putD (row2 a b) (eor up) v = if up then row2 v b else row2 a v := by
  cases up with
  | true =>
    show putD (row2 a b) (.str "up") v = _
    unfold putD row2
    simp [s_uu, s_du]
  | false =>
    show putD (row2 a b) (.str "down") v = _
    unfold putD row2
    simp [s_ud, s_dd]
theorem row_up (a b : D) : gIx (.dict (row2 a b)) (.str "up") = some a := by
  show lookD (row2 a b) (.str "up") = _
  unfold lookD row2
  rw [List.find?_cons]
  simp [s_uu]
theorem row_down (a b : D) : gIx (.dict (row2 a b)) (.str "down") = some b := by
  show lookD (row2 a b) (.str "down") = _
  unfold lookD row2
  rw [List.find?_cons, List.find?_cons]
  simp [s_ud, s_dd]
theorem keyOf_eor (up : Bool) : (keyOf (eor up)).isSome = true := rfl
theorem lat_loop {m L : Nat} (h1 : 1 ≤ m) (h3 : m ≤ 3) (hL : L ≤ 100) (A0 A1 A2 A3 A4 A5 A6 A7 : SD) (up : Bool) {ends l : St2} (o : SOk m L ends) (ol : SOk m (L + 1) l) (x11 x12 x13 : SD) (n11 : nm x11 = true) (n12 : nm x12 = true) (n13 : nm x13 = true) :
    ∃ y11 y12 y13, nm y11 = true ∧ nm y12 = true ∧ nm y13 = true ∧ forRun (aName 11) b_judged_1 (ends.map fun p => ec p.1) [A0, A1, A2, A3, A4, A5, A6, A7, .ot (enS l), .pu (eor up), .pu (eS ends), x11, x12, x13] =
      some (.next [A0, A1, A2, A3, A4, A5, A6, A7, .ot (enS (latT up ends l)), .pu (eor up), .pu (eS ends), y11, y12, y13]) := by
  obtain ⟨e1, q, y11, y12, y13, k1, k2, k3, hx, _⟩ := for_foldN (fun p : List Bool × Vl => ec p.1) (fun i (l : St2) env => ∃ x11 x12 x13, nm x11 = true ∧ nm x12 = true ∧ nm x13 = true ∧ env = [A0, A1, A2, A3, A4, A5, A6, A7, .ot (enS l), .pu (eor up), .pu (eS ends), x11, x12, x13] ∧ SOk m (L + 1) l) (latStep up) (a := aName 11) (F := b_judged_1) ends 0
    (fun i l p env mp hi ⟨x11, x12, x13, k1, k2, k3, hx, ol⟩ => by
      subst hx
      have hlk : gIx (eS ends) (ec p.1) = some (.tuple [p.2.1, .list p.2.2]) := by
        rw [gIx_S, lookup_nd o.nd p mp]
        rfl
      have hlim := o.lim p mp
      have h8 := ol.size h1 h3
      have sz : szOk ((enS l).length + 1) = true := szOk_le (by rw [enS_len]; omega)
      have sz2 : szOk (p.2.2.length + 1) = true := szOk_le (by omega)
      have hset := setd_S l p.1 (p.2.1, p.2.2 ++ [eor up])
      unfold ev at hset
      refine ⟨_, [A0, A1, A2, A3, A4, A5, A6, A7, .ot (enS (latStep up l p)), .pu (eor up), .pu (eS ends), .pu (ec p.1), .pu p.2.1, .pu (.list p.2.2)], rfl, ?_, _, _, _, rfl, rfl, rfl, rfl, sdT_ok ol (o.len p.1 (List.mem_map.mpr ⟨p, mp, rfl⟩)) (by simp; omega)⟩
      simp [b_judged_1, hlk, keyT_ec, sz, sz2, latStep, hset]) l _ ⟨x11, x12, x13, n11, n12, n13, rfl, ol⟩
  subst hx
  exact ⟨y11, y12, y13, k1, k2, k3, q⟩
theorem dIt {env : SE} {s : St2} (i : Nat) (h : env[i]? = some (.pu (eS s))) : dItems i env = some (s.map fun p => ec p.1) := by
  show (match env[i]? with
    | some (.pu (.dict es)) => some (es.map fun e : D × D => e.1)
    | _ => none) = _
  rw [h]
  show some ((enS s).map fun e : D × D => e.1) = _
  unfold enS
  rw [List.map_map]
  rfl
theorem cRow_s (i ik j : Nat) (f : SE → Option D) (env : SE) : cRow i ik j f env = (match f env with
  | some (.tuple [v, w]) => (match env[i]? with
    | some (.ok es) => (match env[ik]? with
      | some (.pu k) => if (keyOf k).isSome && szOk (es.length + 1) && decide (i ≠ j) then some (.next ((env.set i (.ok (putD es k v))).set j (.pu w))) else none
      | _ => none)
    | _ => none)
  | _ => none) := rfl
theorem ord_loop {m L : Nat} (h1 : 1 ≤ m) (h3 : m ≤ 3) (hL : L ≤ 100) {hs : List Hm} (ok : ∀ h ∈ hs, HOk m h) (A0 A1 A5 : SD) {s : St2} (o : SOk m L s) (e : El) (he : e.2.length ≤ 6) : ∀ (ords : List Bool) (a b : D) (l : St2) (x9 x10 x11 x12 x13 : SD), SOk m (L + 1) l → nm x9 = true → nm x10 = true → nm x11 = true → nm x12 = true → nm x13 = true →
    ∃ a' b' y9 y10 y11 y12 y13, nm y9 = true ∧ nm y10 = true ∧ nm y11 = true ∧ nm y12 = true ∧ nm y13 = true ∧ forRun (aName 9) b_judged_2 (ords.map eor) [A0, A1, .pu (eH hs), .pu (en m), .pu (eS s), A5, .pu (ee e), .ok (row2 a b), .ot (enS l), x9, x10, x11, x12, x13] =
      some (.next [A0, A1, .pu (eH hs), .pu (en m), .pu (eS s), A5, .pu (ee e), .ok (row2 a' b'), .ot (enS (ords.foldl (fun l up => latT up (goT hs (stepsD m up e.2) s) l) l)), y9, y10, y11, y12, y13])
  | [], a, b, l, x9, x10, x11, x12, x13, _, n9, n10, n11, n12, n13 => ⟨a, b, x9, x10, x11, x12, x13, n9, n10, n11, n12, n13, rfl⟩
  | up :: ords, a, b, l, x9, x10, x11, x12, x13, ol, n9, n10, n11, n12, n13 => by
    obtain ⟨gl, hg⟩ := L_gone_over h1 h3 ok o e he up
    have og := goT_ok (l := stepsD m up e.2) (hs := hs) o
    obtain ⟨a2, b2, hr⟩ : ∃ a2 b2, putD (row2 a b) (eor up) (.list gl) = row2 a2 b2 := by
      rw [row_put]
      cases up
      · exact ⟨_, _, rfl⟩
      · exact ⟨_, _, rfl⟩
    obtain ⟨y11, y12, y13, k1, k2, k3, hl⟩ := lat_loop h1 h3 hL A0 A1 (.pu (eH hs)) (.pu (en m)) (.pu (eS s)) A5 (.pu (ee e)) (.ok (row2 a2 b2)) up og ol x11 x12 x13 n11 n12 n13
    obtain ⟨a', b', z9, z10, z11, z12, z13, g1, g2, g3, g4, g5, ih⟩ := ord_loop h1 h3 hL ok A0 A1 A5 o e he ords a2 b2 (latT up (goT hs (stepsD m up e.2) s) l) (.pu (eor up)) (.pu (eS (goT hs (stepsD m up e.2) s))) y11 y12 y13 (latT_ok og ol) rfl rfl k1 k2 k3
    refine ⟨a', b', z9, z10, z11, z12, z13, g1, g2, g3, g4, g5, ?_⟩
    rw [List.map_cons]
    have hb : b_judged_2 [A0, A1, .pu (eH hs), .pu (en m), .pu (eS s), A5, .pu (ee e), .ok (row2 a b), .ot (enS l), .pu (eor up), x10, x11, x12, x13] = some (.next [A0, A1, .pu (eH hs), .pu (en m), .pu (eS s), A5, .pu (ee e), .ok (row2 a2 b2), .ot (enS (latT up (goT hs (stepsD m up e.2) s) l)), .pu (eor up), .pu (eS (goT hs (stepsD m up e.2) s)), y11, y12, y13]) := by
      simp [-dItems_s, b_judged_2, cRow_s, hg, keyOf_eor, hr, show (row2 a b).length = 2 from rfl]
      rw [dIt (s := goT hs (stepsD m up e.2) s) 10 rfl]
      simp only []
      exact hl
    rw [fr_next (e1 := [A0, A1, .pu (eH hs), .pu (en m), .pu (eS s), A5, .pu (ee e), .ok (row2 a b), .ot (enS l), .pu (eor up), x10, x11, x12, x13]) rfl hb]
    exact ih
theorem L_look_at_judged {t : List El} (ht : TOk t) (hsr : SureT none t) {hs : List Hm} {S : List Nat} (o : HsOk hs S) (hn : hs ≠ []) : g_look_at_judged [et t, eH hs] = some .none := by
  have e : gEq (eH hs) (.list []) = some (.bool false) := by
    rw [gEq_sh ((sh_eH hs).mono (by decide)) ⟨rfl, by decide⟩]
    cases hs with
    | nil => exact absurd rfl hn
    | cons h hs => rfl
  unfold g_look_at_judged
  rw [runF_s]
  simp [d_look_at_judged, env0, L_look_at_test t ht, L_look_at_harms hs S o, L_is_sure t ht hsr, e]
def HNm (hs : List Hm) : Prop := ∀ h ∈ hs, oneC h.k = true → h.b = h.a
theorem cin_ab {hs : List Hm} (hn : HNm hs) {h : Hm} (m : h ∈ hs) : h.a ∈ cellsN hs ∧ h.b ∈ cellsN hs := by
  have ha : h.a ∈ cin h := by
    unfold cin
    split <;> simp
  refine ⟨cin_sub m ha, ?_⟩
  by_cases ho : oneC h.k = true
  · rw [hn h m ho]
    exact cin_sub m ha
  · refine cin_sub m ?_
    unfold cin
    rw [if_neg ho]
    simp
theorem small_ok {hs : List Hm} (hn : HNm hs) : ∀ h ∈ hs.map (mapC (rk hs)), HOk (cellsN hs).length h := fun h m => by
  obtain ⟨g, hg, rfl⟩ := List.mem_map.mp m
  obtain ⟨h1, h2⟩ := cin_ab hn hg
  exact ⟨List.idxOf_lt_length_of_mem h1, List.idxOf_lt_length_of_mem h2⟩
def finS (hs : List Hm) (m : Nat) (t : List El) : St2 := t.foldl (elJ hs m) (begT hs m)
def word (hs : List Hm) (t : List El) : Str := if (finS (hs.map (mapC (rk hs))) (cellsN hs).length t).isEmpty then "told" else "let"
theorem eS_emp (s : St2) (env : SE) (i : Nat) (h : env[i]? = some (.pu (eS s))) : eEmp (eVar i) env = some s.isEmpty := by
  unfold eEmp eVar
  rw [h]
  show some ((enS s).length == 0) = _
  rw [enS_len]
  cases s <;> rfl
theorem L_judged {t : List El} (ht : TOk t) (hsr : SureT none t) {hs : List Hm} {S : List Nat} (o : HsOk hs S) (hn : hs ≠ []) (hnm : HNm hs) : ∃ r, g_judged [et t, eH hs] = some (.tuple (.str (word hs t) :: r)) := by
  have h3 := o.cells
  have h1 : 1 ≤ (cellsN hs).length := by
    cases hs with
    | nil => exact absurd rfl hn
    | cons h hs => exact List.length_pos_of_mem (cin_ab hnm (h := h) (by simp)).1
  have ok := small_ok hnm
  have hlit := L_little hs S o
  have hcel := L_cells_of hs S o
  have hlen : gLen [.list ((cellsN hs).map en)] = some (en (cellsN hs).length) := by
    show some (PyData.int ((cellsN hs).map en).length) = _
    rw [List.length_map]
  have hw : word hs t = (if (finS (hs.map (mapC (rk hs))) (cellsN hs).length t).isEmpty then ("told" : Str) else ("let" : Str)) := rfl
  generalize hs.map (mapC (rk hs)) = sm at *
  generalize (cellsN hs).length = m at *
  obtain ⟨e1, q, tb, x6, x7, x8, x9, x10, x11, x12, x13, k6, k7, k8, k9, k10, k11, k12, k13, hx, hl, hok⟩ := for_foldN ee (fun i (s : St2) env => ∃ tb x6 x7 x8 x9 x10 x11 x12 x13, nm x6 = true ∧ nm x7 = true ∧ nm x8 = true ∧ nm x9 = true ∧ nm x10 = true ∧ nm x11 = true ∧ nm x12 = true ∧ nm x13 = true ∧
      env = [.pu (et t), .pu (eH hs), .pu (eH sm), .pu (en m), .pu (eS s), .ol tb, x6, x7, x8, x9, x10, x11, x12, x13] ∧ tb.length ≤ i ∧ SOk m i s) (elJ sm m) (a := aName 6) (F := b_judged_3) t 0
    (fun i s e env me hi ⟨tb, x6, x7, x8, x9, x10, x11, x12, x13, k6, k7, k8, k9, k10, k11, k12, k13, hx, hl, hok⟩ => by
      subst hx
      have hi8 : i < 8 := by
        have := ht.2.1
        omega
      obtain ⟨a', b', y9, y10, y11, y12, y13, g9, g10, g11, g12, g13, hq⟩ := ord_loop h1 h3 (show i ≤ 100 by omega) ok (.pu (et t)) (.pu (eH hs)) (.ol tb) hok e (ht.2.2 e me).2 (ordsFor e.1) .none .none [] x9 x10 x11 x12 x13 (nil_ok _ _) k9 k10 k11 k12 k13
      obtain ⟨sl, hsl, _, _⟩ := gSorted_S h1 h3 hok
      refine ⟨_, [.pu (et t), .pu (eH hs), .pu (eH sm), .pu (en m), .pu (eS (elJ sm m s e)), .ol (tb ++ [.tuple [.list sl, a', b']]), .pu (ee e), .pu (.dict (row2 a' b')), .pu (eS (elJ sm m s e)), y9, y10, y11, y12, y13], rfl, ?_, _, _, _, _, _, _, _, _, _, rfl, rfl, rfl, g9, g10, g11, g12, g13, rfl, by simp; omega, elJ_ok hok⟩
      simp only [b_judged_3, cSeq_s, cOwn_s, cFor_s, iOf_s, eA_s, aCons_s, aNil_s, eVar_s]
      simp only [aName_s, List.set_cons_succ, List.set_cons_zero, List.getElem?_cons_succ, List.getElem?_cons_zero, gN_s, List.length_cons, List.length_nil]
      rw [L_orders_for]
      simp
      have e3 : forRun (aName 9) b_judged_2 ((ordsFor e.1).map eor) [.pu (et t), .pu (eH hs), .pu (eH sm), .pu (en m), .pu (eS s), .ol tb, .pu (ee e), .ok [(.str "up", .none), (.str "down", .none)], .ot [], x9, x10, x11, x12, x13] = some (.next [.pu (et t), .pu (eH hs), .pu (eH sm), .pu (en m), .pu (eS s), .ol tb, .pu (ee e), .ok (row2 a' b'), .ot (enS (elJ sm m s e)), y9, y10, y11, y12, y13]) := hq
      rw [e3]
      simp [hsl, row_up, row_down, proOk, szOk_le (show tb.length + 1 ≤ 100000 by omega)]
      rfl) (begT sm m) [.pu (et t), .pu (eH hs), .pu (eH sm), .pu (en m), .pu (eS (begT sm m)), .ol [], .un, .un, .un, .un, .un, .un, .un, .un] ⟨[], .un, .un, .un, .un, .un, .un, .un, .un, rfl, rfl, rfl, rfl, rfl, rfl, rfl, rfl, rfl, Nat.le_refl _, begT_ok h1 h3 sm⟩
  subst hx
  have hf : t.foldl (elJ sm m) (begT sm m) = finS sm m t := rfl
  rw [hf] at q hok
  have q' : forRun (aName 6) b_judged_3 (t.map ee) [.pu (et t), .pu (eH hs), .pu (eH sm), .pu (en m), .pu (eS (begT sm m)), .ol [], .un, .un, .un, .un, .un, .un, .un, .un] = some (.next [.pu (et t), .pu (eH hs), .pu (eH sm), .pu (en m), .pu (eS (finS sm m t)), .ol tb, x6, x7, x8, x9, x10, x11, x12, x13]) := q
  have hbeg := L_begun (m := m) (hs := sm) h1 h3 ok
  have hemp := fun env h => eS_emp (finS sm m t) env 4 h
  unfold g_judged
  rw [runF_s]
  simp only [d_judged, cSeq_s, cDrop_s, env0, eA_s, aCons_s, aNil_s, eVar_s]
  simp only [List.map_cons, List.map_nil, List.length_cons, List.length_nil, List.replicate, List.cons_append, List.nil_append, List.getElem?_cons_succ, List.getElem?_cons_zero, gN_s]
  rw [L_look_at_judged ht hsr o hn]
  simp [hlit, hcel, -gLen_l, hlen, hbeg]
  rw [show lstOf (et t) = some (t.map ee) from rfl]
  simp only []
  rw [q']
  simp only []
  rw [hemp _ rfl]
  cases hE : (finS sm m t).isEmpty with
  | true =>
    rw [hE] at hw
    simp [hw, k6, k7, k8, k9, k10, k11, k12, k13]
  | false =>
    rw [hE] at hw
    obtain ⟨sl, g1, g2, g3⟩ := gSorted_S h1 h3 hok
    have hne : 0 < sl.length := by
      rw [g2]
      cases hf : finS sm m t with
      | nil => rw [hf] at hE; cases hE
      | cons p s => simp
    obtain ⟨k, hk, hsk⟩ := g3 sl[0] (List.getElem_mem hne)
    have i0 : gIx (.list sl) (.int 0) = some (ec k) := by
      have := gIx_l sl 0
      rw [List.getElem?_eq_getElem hne, hsk] at this
      exact this
    have hks := lookup_key.mpr hk
    obtain ⟨v, hv⟩ := Option.isSome_iff_exists.mp hks
    have i1 : gIx (eS (finS sm m t)) (ec k) = some (.tuple [v.1, .list v.2]) := by
      rw [gIx_S, hv]
      rfl
    simp [hw, g1, i0, i1, k6, k7, k8, k9, k10, k11]
end Tm

namespace Tm
open PySem
theorem cond_keys {α : Type} (c : α → Bool) (g : α → List Bool) (v : α → Vl) {k : List Bool} : ∀ (l : List α) (f : St2), k ∈ keys (l.foldl (fun f p => if c p then sdT f (g p) (v p) else f) f) ↔ k ∈ keys f ∨ ∃ p ∈ l, c p = true ∧ g p = k
  | [], f => by simp
  | p :: l, f => by
    rw [List.foldl_cons, cond_keys c g v l]
    by_cases h : c p = true
    · rw [if_pos h, sdT_key]
      simp [h]
      constructor
      · rintro ((h1 | h1) | h1)
        · exact .inl h1
        · exact .inr (.inl h1.symm)
        · exact .inr (.inr h1)
      · rintro (h1 | h1 | h1)
        · exact .inl (.inl h1)
        · exact .inl (.inr h1.symm)
        · exact .inr h1
    · rw [if_neg h]
      simp [h]
theorem bey_keys {hs : List Hm} {s : St2} {a : Nat} {st : Bool × Bool} {k : List Bool} : k ∈ keys (beyT hs s a st) ↔ ∃ ct ∈ keys s, okB (actedT hs ct a st).2 st.2 = true ∧ (actedT hs ct a st).1 = k := by
  have h := cond_keys (fun p : List Bool × Vl => okB (actedT hs p.1 a st).2 st.2) (fun p => (actedT hs p.1 a st).1) (fun p => p.2) (k := k) s []
  have e : beyT hs s a st = s.foldl (fun f p => if okB (actedT hs p.1 a st).2 st.2 then sdT f (actedT hs p.1 a st).1 p.2 else f) [] := rfl
  rw [e, h]
  unfold keys
  simp
theorem beg_keys {hs : List Hm} {m : Nat} (h1 : 1 ≤ m) (h3 : m ≤ 3) {k : List Bool} : k ∈ keys (begT hs m) ↔ ∃ c : List Bool, c.length = m ∧ heldFirst hs c = k := by
  have h := cond_keys (fun _ : List Bool => true) (heldFirst hs) (fun c => (ec c, [])) (k := k) (allX m) []
  have e : begT hs m = (allX m).foldl (fun f c => if true then sdT f (heldFirst hs c) (ec c, []) else f) [] := rfl
  rw [e]
  have h' := h
  simp only [if_true] at h' ⊢
  rw [h']
  constructor
  · rintro (h | ⟨c, m1, _, m2⟩)
    · simp [keys] at h
    · exact ⟨c, (allX_mem h1 h3 c).mp m1, m2⟩
  · rintro ⟨c, m1, m2⟩
    exact .inr ⟨c, (allX_mem h1 h3 c).mpr m1, trivial, m2⟩
theorem lat_keys {up : Bool} {ends l : St2} {k : List Bool} : k ∈ keys (latT up ends l) ↔ k ∈ keys l ∨ k ∈ keys ends := by
  have h := cond_keys (fun _ : List Bool × Vl => true) (fun p => p.1) (fun p => (p.2.1, p.2.2 ++ [eor up])) (k := k) ends l
  have e : latT up ends l = ends.foldl (fun f p => if true then sdT f p.1 (p.2.1, p.2.2 ++ [eor up]) else f) l := rfl
  rw [e]
  have h' := h
  simp only [if_true] at h' ⊢
  rw [h']
  unfold keys
  simp
theorem el_keys {hs : List Hm} {m : Nat} {s : St2} {ss : List (Bool × Bool)} {k : List Bool} : ∀ (ords : List Bool) (l : St2), k ∈ keys (ords.foldl (fun l up => latT up (goT hs (stepsD m up ss) s) l) l) ↔ k ∈ keys l ∨ ∃ up ∈ ords, k ∈ keys (goT hs (stepsD m up ss) s)
  | [], l => by simp
  | up :: ords, l => by
    rw [List.foldl_cons, el_keys ords, lat_keys]
    simp [or_assoc]
section
variable {m : Nat} {S : Sy m}
/-- what stands, and what stands in the mirror -/
def Rel (S : Sy m) (s s' : St2) : Prop := (∀ k ∈ keys s, k.length = m) ∧ (∀ k ∈ keys s', k.length = m) ∧ ∀ k : List Bool, k.length = m → (S.T k ∈ keys s' ↔ k ∈ keys s)
theorem okB_x (o : Option Bool) (b x : Bool) : okB (o.map (· ^^ x)) (b ^^ x) = okB o b := by
  cases o with
  | none => rfl
  | some c => cases c <;> cases b <;> cases x <;> rfl
theorem bey_rel {hs : List Hm} (ok : ∀ h ∈ hs, HOk m h) {s s' : St2} (r : Rel S s s') {a : Nat} (ha : a < m) (st : Bool × Bool) : Rel S (beyT hs s a st) (beyT (hs.map (mh S)) s' (S.f a) (flipS S.x st)) := by
  obtain ⟨r1, r2, r3⟩ := r
  refine ⟨fun k hk => ?_, fun k hk => ?_, fun k hk => ?_⟩
  · obtain ⟨ct, h1, _, h2⟩ := bey_keys.mp hk
    rw [← h2, acted_len]
    exact r1 ct h1
  · obtain ⟨ct, h1, _, h2⟩ := bey_keys.mp hk
    rw [← h2, acted_len]
    exact r2 ct h1
  · rw [bey_keys, bey_keys]
    constructor
    · rintro ⟨cu, h1, h2, h3⟩
      obtain ⟨ct, hct, rfl⟩ := S.sur cu (r2 cu h1)
      rw [acted_eq ok hct ha] at h2 h3
      refine ⟨ct, (r3 ct hct).mp h1, ?_, S.tinj _ _ (acted_len.trans hct) hk h3⟩
      exact (okB_x _ _ _).symm.trans h2
    · rintro ⟨ct, h1, h2, h3⟩
      have hct := r1 ct h1
      refine ⟨S.T ct, (r3 ct hct).mpr h1, ?_, ?_⟩
      · rw [acted_eq ok hct ha]
        exact (okB_x _ _ _).trans h2
      · rw [acted_eq ok hct ha, h3]
def phi (S : Sy m) (x : Nat × (Bool × Bool)) : Nat × (Bool × Bool) := (S.f x.1, flipS S.x x.2)
theorem go_rel {hs : List Hm} (ok : ∀ h ∈ hs, HOk m h) : ∀ {l : List (Nat × (Bool × Bool))} {s s' : St2}, (∀ x ∈ l, x.1 < m) → Rel S s s' → Rel S (goT hs l s) (goT (hs.map (mh S)) (l.map (phi S)) s')
  | [], _, _, _, r => r
  | x :: l, s, s', h, r => go_rel (l := l) ok (fun y m => h y (by simp [m])) (bey_rel ok r (h x (by simp)) x.2)
theorem el_rel {hs : List Hm} (ok : ∀ h ∈ hs, HOk m h) {s s' : St2} (r : Rel S s s') {e e' : El} (nu : Bool → Bool) (h1 : ∀ up ∈ ordsFor e.1, nu up ∈ ordsFor e'.1) (h2 : ∀ up ∈ ordsFor e'.1, ∃ v ∈ ordsFor e.1, nu v = up) (h3 : ∀ up, stepsD m (nu up) e'.2 = (stepsD m up e.2).map (phi S)) : Rel S (elJ hs m s e) (elJ (hs.map (mh S)) m s' e') := by
  have g := fun up => go_rel (S := S) (l := stepsD m up e.2) ok (fun x hx => stepsD_lt hx) r
  have kk : ∀ k, k ∈ keys (elJ hs m s e) ↔ ∃ up ∈ ordsFor e.1, k ∈ keys (goT hs (stepsD m up e.2) s) := fun k => by
    unfold elJ
    rw [el_keys]
    simp [keys]
  have kk' : ∀ k, k ∈ keys (elJ (hs.map (mh S)) m s' e') ↔ ∃ up ∈ ordsFor e'.1, k ∈ keys (goT (hs.map (mh S)) (stepsD m up e'.2) s') := fun k => by
    unfold elJ
    rw [el_keys]
    simp [keys]
  refine ⟨fun k hk => ?_, fun k hk => ?_, fun k hk => ?_⟩
  · obtain ⟨up, _, hu⟩ := (kk k).mp hk
    exact (g up).1 k hu
  · obtain ⟨up, hm, hu⟩ := (kk' k).mp hk
    obtain ⟨v, _, rfl⟩ := h2 up hm
    rw [h3] at hu
    exact (g v).2.1 k hu
  · rw [kk, kk']
    constructor
    · rintro ⟨up, hm, hu⟩
      obtain ⟨v, hv, rfl⟩ := h2 up hm
      rw [h3] at hu
      exact ⟨v, hv, ((g v).2.2 k hk).mp hu⟩
    · rintro ⟨v, hv, hu⟩
      refine ⟨nu v, h1 v hv, ?_⟩
      rw [h3]
      exact ((g v).2.2 k hk).mpr hu
theorem beg_rel {hs : List Hm} (ok : ∀ h ∈ hs, HOk m h) (h1 : 1 ≤ m) (h3 : m ≤ 3) : Rel S (begT hs m) (begT (hs.map (mh S)) m) := by
  refine ⟨(begT_ok h1 h3 hs).len, (begT_ok h1 h3 _).len, fun k hk => ?_⟩
  rw [beg_keys h1 h3, beg_keys h1 h3]
  constructor
  · rintro ⟨cu, g1, g2⟩
    obtain ⟨ct, hct, rfl⟩ := S.sur cu g1
    rw [held_eq ok hct] at g2
    exact ⟨ct, hct, S.tinj _ _ (held_len.trans hct) hk g2⟩
  · rintro ⟨ct, g1, g2⟩
    exact ⟨S.T ct, S.len ct g1, by rw [held_eq ok g1, g2]⟩
theorem fin_rel {hs : List Hm} (ok : ∀ h ∈ hs, HOk m h) (g : El → El) (hg : ∀ e, ∃ nu : Bool → Bool, (∀ up ∈ ordsFor e.1, nu up ∈ ordsFor (g e).1) ∧ (∀ up ∈ ordsFor (g e).1, ∃ v ∈ ordsFor e.1, nu v = up) ∧ ∀ up, stepsD m (nu up) (g e).2 = (stepsD m up e.2).map (phi S)) :
    ∀ {t : List El} {s s' : St2}, Rel S s s' → Rel S (t.foldl (elJ hs m) s) ((t.map g).foldl (elJ (hs.map (mh S)) m) s')
  | [], _, _, r => r
  | e :: t, s, s', r => by
    obtain ⟨nu, a, b, c⟩ := hg e
    exact fin_rel ok g hg (t := t) (el_rel ok r nu a b c)
theorem rel_emp {s s' : St2} (r : Rel S s s') : s'.isEmpty = s.isEmpty := by
  have h : ∀ s : St2, s.isEmpty = true ↔ ∀ k, k ∉ keys s := fun s => by
    cases s with
    | nil => simp [keys]
    | cons p s =>
      constructor
      · intro h
        cases h
      · intro h
        exact absurd (show p.1 ∈ keys (p :: s) by simp [keys]) (h p.1)
  obtain ⟨r1, r2, r3⟩ := r
  rw [Bool.eq_iff_iff, h, h]
  constructor
  · intro hh k hk
    exact hh (S.T k) ((r3 k (r1 k hk)).mpr hk)
  · intro hh k hk
    obtain ⟨c, hc, rfl⟩ := S.sur k (r2 k hk)
    exact hh c ((r3 c hc).mp hk)
theorem stepsD_eq {up nu : Bool} {ss : List (Bool × Bool)} (h : inOrd m nu = (inOrd m up).map S.f) : stepsD m nu (ss.map (flipS S.x)) = (stepsD m up ss).map (phi S) := by
  unfold stepsD
  rw [h, List.map_flatMap, List.flatMap_map]
  congr 1
  funext a
  rw [List.map_map, List.map_map]
  rfl
end
/-! the word -/
theorem endsE_ok (m : Nat) (e : El) : ∃ nu : Bool → Bool, (∀ up ∈ ordsFor e.1, nu up ∈ ordsFor (endsE e).1) ∧ (∀ up ∈ ordsFor (endsE e).1, ∃ v ∈ ordsFor e.1, nu v = up) ∧ ∀ up, stepsD m (nu up) (endsE e).2 = (stepsD m up e.2).map (phi (revS m)) := by
  refine ⟨(!·), ?_, ?_, fun up => ?_⟩
  · obtain ⟨o, ss⟩ := e
    cases o <;> simp [ordsFor, endsE, endsO]
  · obtain ⟨o, ss⟩ := e
    cases o <;> simp [ordsFor, endsE, endsO]
  · rw [endsE_2 m]
    exact stepsD_eq (inOrd_rev m up)
theorem bitsE_ok (m : Nat) (e : El) : ∃ nu : Bool → Bool, (∀ up ∈ ordsFor e.1, nu up ∈ ordsFor (bitsE e).1) ∧ (∀ up ∈ ordsFor (bitsE e).1, ∃ v ∈ ordsFor e.1, nu v = up) ∧ ∀ up, stepsD m (nu up) (bitsE e).2 = (stepsD m up e.2).map (phi (notS m)) :=
  ⟨id, fun up h => h, fun up h => ⟨up, h, rfl⟩, fun up => stepsD_eq (inOrd_not m up)⟩
theorem cin_not {n : Nat} (h : Hm) : cin (mh (notS n) h) = cin h := rfl
theorem raw_not {n : Nat} (hs : List Hm) : raw (hs.map (mh (notS n))) = raw hs := by
  unfold raw
  rw [List.foldl_map]
  rfl
theorem cells_not {n : Nat} (hs : List Hm) : cellsN (hs.map (mh (notS n))) = cellsN hs := by
  unfold cellsN
  rw [raw_not]
theorem sorted_uniqN : ∀ {l m : List Nat}, l.Pairwise (· < ·) → m.Pairwise (· < ·) → (∀ x, x ∈ l ↔ x ∈ m) → l = m
  | [], [], _, _, _ => rfl
  | [], y :: m, _, _, h => absurd ((h y).mpr (by simp)) (by simp)
  | x :: l, [], _, _, h => absurd ((h x).mp (by simp)) (by simp)
  | x :: l, y :: m, h1, h2, h => by
    obtain ⟨a1, a2⟩ := List.pairwise_cons.mp h1
    obtain ⟨b1, b2⟩ := List.pairwise_cons.mp h2
    have hxy : x = y := by
      have hx := (h x).mp (by simp)
      have hy := (h y).mpr (by simp)
      rcases List.mem_cons.mp hx with e | hx
      · exact e
      · rcases List.mem_cons.mp hy with e | hy
        · exact e.symm
        · have := b1 x hx
          have := a1 y hy
          omega
    subst hxy
    rw [sorted_uniqN a2 b2 fun z => ?_]
    constructor
    · intro hz
      have := a1 z hz
      rcases List.mem_cons.mp ((h z).mp (by simp [hz])) with e | hz
      · omega
      · exact hz
    · intro hz
      have := b1 z hz
      rcases List.mem_cons.mp ((h z).mpr (by simp [hz])) with e | hz
      · omega
      · exact hz
theorem rk_not {n : Nat} (hs : List Hm) : rk (hs.map (mh (notS n))) = rk hs := by
  funext c
  unfold rk
  rw [cells_not]
theorem word_not {n : Nat} {t : List El} {hs : List Hm} {S : List Nat} (o : HsOk hs S) (hn : hs ≠ []) (hnm : HNm hs) : word (hs.map (mh (notS n))) (t.map bitsE) = word hs t := by
  have h3 := o.cells
  have h1 : 1 ≤ (cellsN hs).length := by
    cases hs with
    | nil => exact absurd rfl hn
    | cons h hs => exact List.length_pos_of_mem (cin_ab hnm (h := h) (by simp)).1
  unfold word
  rw [cells_not, rk_not]
  have e : (hs.map (mh (notS n))).map (mapC (rk hs)) = (hs.map (mapC (rk hs))).map (mh (notS (cellsN hs).length)) := by
    rw [List.map_map, List.map_map]
    rfl
  rw [e]
  have ok := small_ok hnm
  unfold finS
  rw [rel_emp (fin_rel ok bitsE (bitsE_ok (cellsN hs).length) (t := t) (beg_rel ok h1 h3))]
/-! reversed cells -/
theorem cin_rev {h : Hm} : cin (mh (revS 9) h) = (cin h).map fun c => 8 - c := by
  unfold cin
  show (if oneC h.k then [8 - h.a] else [8 - h.a, 8 - h.b]) = _
  split <;> rfl
theorem cells_rev {hs : List Hm} (ok : ∀ h ∈ hs, HmOk h) (ok' : ∀ h ∈ hs, HmOk (mh (revS 9) h)) (lt : ∀ h ∈ hs, HOk 9 h) : cellsN (hs.map (mh (revS 9))) = ((cellsN hs).map fun c => 8 - c).reverse := by
  have lt9 : ∀ c ∈ cellsN hs, c < 9 := fun c m => by
    obtain ⟨h, hm, hc⟩ := cellsN_mem.mp m
    have := lt h hm
    unfold cin at hc
    split at hc <;> simp at hc
    · rw [hc]
      exact this.1
    · rcases hc with rfl | rfl
      · exact this.1
      · exact this.2
  have s1 := cellsN_lt ok
  have s2 : (cellsN (hs.map (mh (revS 9)))).Pairwise (· < ·) := cellsN_lt fun h m => by
    obtain ⟨g, hg, rfl⟩ := List.mem_map.mp m
    exact ok' g hg
  refine sorted_uniqN s2 ?_ fun x => ?_
  · rw [List.pairwise_reverse, List.pairwise_map]
    refine List.Pairwise.imp_of_mem (fun {a b} ha hb hab => ?_) s1
    have := lt9 a ha
    have := lt9 b hb
    omega
  · rw [List.mem_reverse, List.mem_map, cellsN_mem]
    constructor
    · rintro ⟨h, hm, hx⟩
      obtain ⟨g, hg, rfl⟩ := List.mem_map.mp hm
      rw [cin_rev] at hx
      obtain ⟨c, hc, rfl⟩ := List.mem_map.mp hx
      exact ⟨c, cellsN_mem.mpr ⟨g, hg, hc⟩, rfl⟩
    · rintro ⟨c, hc, rfl⟩
      obtain ⟨g, hg, hgc⟩ := cellsN_mem.mp hc
      exact ⟨mh (revS 9) g, List.mem_map.mpr ⟨g, hg, rfl⟩, by rw [cin_rev]; exact List.mem_map.mpr ⟨c, hgc, rfl⟩⟩
theorem idx_of {l : List Nat} (nd : l.Nodup) {i : Nat} (hi : i < l.length) : l.idxOf l[i] = i := nd.idxOf_getElem i hi
theorem rk_rev {hs : List Hm} (ok : ∀ h ∈ hs, HmOk h) (ok' : ∀ h ∈ hs, HmOk (mh (revS 9) h)) (lt : ∀ h ∈ hs, HOk 9 h) {c : Nat} (hc : c ∈ cellsN hs) : rk (hs.map (mh (revS 9))) (8 - c) = (cellsN hs).length - 1 - rk hs c := by
  have e := cells_rev ok ok' lt
  have nd' : (((cellsN hs).map fun c => 8 - c).reverse).Nodup := by
    rw [← e]
    exact cellsN_nd fun h m => by
      obtain ⟨g, hg, rfl⟩ := List.mem_map.mp m
      exact ok' g hg
  have hi : (cellsN hs).idxOf c < (cellsN hs).length := List.idxOf_lt_length_of_mem hc
  have hj : (cellsN hs).length - 1 - (cellsN hs).idxOf c < (((cellsN hs).map fun c => 8 - c).reverse).length := by
    rw [List.length_reverse, List.length_map]
    omega
  have hv : (((cellsN hs).map fun c => 8 - c).reverse)[(cellsN hs).length - 1 - (cellsN hs).idxOf c] = 8 - c := by
    rw [List.getElem_reverse, List.getElem_map]
    have : ((cellsN hs).map fun c => 8 - c).length - 1 - ((cellsN hs).length - 1 - (cellsN hs).idxOf c) = (cellsN hs).idxOf c := by
      rw [List.length_map]
      omega
    simp only [this]
    rw [List.getElem_idxOf hi]
  unfold rk
  rw [e]
  have := idx_of nd' hj
  rw [hv] at this
  exact this
theorem word_rev {t : List El} {hs : List Hm} {S : List Nat} (o : HsOk hs S) (hn : hs ≠ []) (hnm : HNm hs) (ok' : ∀ h ∈ hs, HmOk (mh (revS 9) h)) (lt : ∀ h ∈ hs, HOk 9 h) : word (hs.map (mh (revS 9))) (t.map endsE) = word hs t := by
  have h3 := o.cells
  have h1 : 1 ≤ (cellsN hs).length := by
    cases hs with
    | nil => exact absurd rfl hn
    | cons h hs => exact List.length_pos_of_mem (cin_ab hnm (h := h) (by simp)).1
  have el : (cellsN (hs.map (mh (revS 9)))).length = (cellsN hs).length := by
    rw [cells_rev o.ok ok' lt, List.length_reverse, List.length_map]
  unfold word
  rw [el]
  have e : (hs.map (mh (revS 9))).map (mapC (rk (hs.map (mh (revS 9))))) = (hs.map (mapC (rk hs))).map (mh (revS (cellsN hs).length)) := by
    rw [List.map_map, List.map_map]
    apply List.map_congr_left
    intro h hm
    obtain ⟨ha, hb⟩ := cin_ab hnm hm
    show Hm.mk h.k (rk (hs.map (mh (revS 9))) (8 - h.a)) (rk (hs.map (mh (revS 9))) (8 - h.b)) (h.v ^^ false) (h.w ^^ false) = Hm.mk h.k ((cellsN hs).length - 1 - rk hs h.a) ((cellsN hs).length - 1 - rk hs h.b) (h.v ^^ false) (h.w ^^ false)
    rw [rk_rev o.ok ok' lt ha, rk_rev o.ok ok' lt hb]
  rw [e]
  have ok := small_ok hnm
  unfold finS
  rw [rel_emp (fin_rel ok endsE (endsE_ok (cellsN hs).length) (t := t) (beg_rel ok h1 h3))]
end Tm

namespace Tm
open PySem
/-- with the turn's place -/
theorem for_foldI {α : Type} (en : α → D) (R : Nat → SE → Prop) {a : D → SE → Option SE} {F : SE → Option Out} (l : List α)
    (h : ∀ i x env, l[i]? = some x → R i env → ∃ e1 e2, a (en x) env = some e1 ∧ F e1 = some (.next e2) ∧ R (i + 1) e2) : ∀ (n : Nat) (env : SE), n ≤ l.length → R n env → ∃ e, forRun a F ((l.drop n).map en) env = some (.next e) ∧ R l.length e := by
  intro n env hn r
  induction hk : l.length - n generalizing n env with
  | zero =>
    have : n = l.length := by omega
    subst this
    exact ⟨env, by rw [List.drop_length]; rfl, r⟩
  | succ k ih =>
    have hlt : n < l.length := by omega
    obtain ⟨e1, e2, h1, h2, h3⟩ := h n l[n] env (List.getElem?_eq_getElem hlt) r
    obtain ⟨e, h4, h5⟩ := ih (n + 1) e2 hlt h3 (by omega)
    refine ⟨e, ?_, h5⟩
    rw [List.drop_eq_getElem_cons hlt, List.map_cons, fr_next h1 h2]
    exact h4
theorem L_cell_at (ns : List Int) (k : Nat) : ∃ z, g__law_cell_at [.list (ns.map PyData.int), en k] = some (.int z) := by
  unfold g__law_cell_at
  rw [runF_s]
  by_cases h : k < ns.length
  · refine ⟨ns[k], ?_⟩
    have e : gIx (.list (ns.map PyData.int)) (en k) = some (.int ns[k]) := by
      rw [gIx_l, List.getElem?_map, List.getElem?_eq_getElem h]
      rfl
    simp [d__law_cell_at, env0, h, e]
  · refine ⟨0, ?_⟩
    simp [d__law_cell_at, env0, h]
theorem gMul_ii (i j : Int) (h : -(2 ^ 64) < i ∧ i < 2 ^ 64) : gMul (.int i) (.int j) = some (.int (i * j)) := by
  unfold gMul gMulI gI
  simp only [decide_eq_true h, if_true]
  rfl
theorem gPow_2 (i : Int) (h : i.natAbs < 2 ^ 64) : gPow (.int i) (.int 2) = some (.int (i ^ 2)) := by
  unfold gPow gI
  have : (0 : Int) ≤ 2 ∧ (2 : Int) ≤ 1000000 ∧ i.natAbs < 2 ^ 64 := ⟨by decide, by decide, h⟩
  simp only [decide_eq_true this, if_true]
  rfl
/-- digits below their sizes -/
def Dg (ds sizes : List Nat) : Prop := ds.length = sizes.length ∧ ∀ (i d s : Nat), ds[i]? = some d → sizes[i]? = some s → d < s
theorem L_digits (z : Int) (turn : Nat) (hturn : turn ≤ 1000) (sizes : List Nat) (hl : sizes.length ≤ 100) (hs : ∀ s ∈ sizes, 0 < s ∧ s ≤ 1000) :
    ∃ ds, g__law_digits [.int z, en turn, .list (sizes.map en)] = some (.list (ds.map en)) ∧ Dg ds sizes := by
  let z' : Int := if z < 0 then -z else z
  obtain ⟨e1, q, num, seed, ds, x7, x8, k7, k8, hx, s0, s1, dl, dg⟩ := for_foldI (fun p : Nat × Nat => .tuple [.int (p.2 : Int), en p.1])
    (fun i env => ∃ (num seed : Int) (ds : List Nat) (x7 x8 : SD), nm x7 = true ∧ nm x8 = true ∧ env = [.pu (.int z), .pu (en turn), .pu (.list (sizes.map en)), .pu (.int num), .pu (.bool (decide (1000000000000000000 ≤ z'))), .pu (.int seed), .ol (ds.map en), x7, x8] ∧ 0 ≤ seed ∧ seed ≤ 100000000000 ∧ ds.length = i ∧ ∀ (j d s : Nat), ds[j]? = some d → sizes[j]? = some s → d < s)
    (a := aTup 2 (gsCons (aName 7) (gsCons (aName 8) gsNil))) (F := b__law_digits_1) (sizes.zipIdx 0)
    (fun i p env hi ⟨num, seed, ds, x7, x8, k7, k8, hx, s0, s1, dl, dg⟩ => by
      subst hx
      rw [List.getElem?_zipIdx] at hi
      obtain ⟨s, hsi, hp⟩ := Option.map_eq_some_iff.mp hi
      have hp2 : p = (s, i) := by rw [← hp]; simp
      subst hp2
      have hsm := hs s (List.mem_of_getElem? hsi)
      have hil : i < sizes.length := (List.getElem?_eq_some_iff.mp hsi).1
      have h0 : (0 : Int) < s := by omega
      have hsz : szOk (ds.length + 1) = true := szOk_le (by omega)
      have hdiv : (0 : Int) < s ∧ (s : Int) < 1073741824 := ⟨h0, by omega⟩
      have ext : ∀ m : Nat, m < s → ∀ (j d t : Nat), (ds ++ [m])[j]? = some d → sizes[j]? = some t → d < t := fun m hm j d t h1 h2 => by
        by_cases hj : j < ds.length
        · rw [List.getElem?_append_left hj] at h1
          exact dg j d t h1 h2
        · have hj2 : j = ds.length := by
            have := (List.getElem?_eq_some_iff.mp h1).1
            simp at this
            omega
          subst hj2
          simp at h1
          rw [dl, hsi] at h2
          have := Option.some.inj h2
          omega
      by_cases hw : 1000000000000000000 ≤ z' ∧ 0 < num
      · obtain ⟨m, hm⟩ : ∃ m : Nat, num % (s : Int) = m := ⟨(num % (s : Int)).toNat, (Int.toNat_of_nonneg (Int.emod_nonneg _ (by omega))).symm⟩
        have hlt : m < s := by
          have := Int.emod_lt_of_pos num h0
          omega
        refine ⟨_, [.pu (.int z), .pu (en turn), .pu (.list (sizes.map en)), .pu (.int (num / s)), .pu (.bool (decide (1000000000000000000 ≤ z'))), .pu (.int seed), .ol ((ds ++ [m]).map en), .pu (.int (i : Int)), .pu (en s)], rfl, ?_, _, _, _, _, _, rfl, rfl, rfl, s0, s1, by simp [dl], ext m hlt⟩
        simp [b__law_digits_1, hw.1, hw.2, h0, hsz, hdiv, hm, hsm.1]
      · have hb : ∀ X Y : Option Out, (match (match some (decide (1000000000000000000 ≤ z')) with | some true => some (decide (0 < num)) | some false => some false | none => none) with | some true => X | some false => Y | none => none) = Y := fun X Y => by
          by_cases h1 : 1000000000000000000 ≤ z'
          · have h2 : ¬ 0 < num := fun h => hw ⟨h1, h⟩
            simp [h1, h2]
          · simp [h1]
        let sd : Int := (seed + 104729 * ((i : Int) + 1)) ^ 2 % 2147483587
        have sd0 : 0 ≤ sd := Int.emod_nonneg _ (by decide)
        have sd1 : sd < 2147483587 := Int.emod_lt_of_pos _ (by decide)
        obtain ⟨m, hm⟩ : ∃ m : Nat, sd / 16 % (s : Int) = m := ⟨(sd / 16 % (s : Int)).toNat, (Int.toNat_of_nonneg (Int.emod_nonneg _ (by omega))).symm⟩
        have hlt : m < s := by
          have := Int.emod_lt_of_pos (sd / 16) h0
          omega
        have hmul := gMul_ii 104729 ((i : Int) + 1) (by decide)
        have hpow := gPow_2 (seed + 104729 * ((i : Int) + 1)) (by omega)
        refine ⟨_, [.pu (.int z), .pu (en turn), .pu (.list (sizes.map en)), .pu (.int num), .pu (.bool (decide (1000000000000000000 ≤ z'))), .pu (.int sd), .ol ((ds ++ [m]).map en), .pu (.int (i : Int)), .pu (en s)], rfl, ?_, _, _, _, _, _, rfl, rfl, rfl, sd0, by omega, by simp [dl], ext m hlt⟩
        by_cases h1 : 1000000000000000000 ≤ z'
        · have h2 : ¬ 0 < num := fun h => hw ⟨h1, h⟩
          simp [b__law_digits_1, h1, h2, hmul, hpow, h0, hsz, hdiv, hsm.1]
          exact ⟨rfl, hm⟩
        · simp [b__law_digits_1, h1, hmul, hpow, h0, hsz, hdiv, hsm.1]
          exact ⟨rfl, hm⟩) 0 [.pu (.int z), .pu (en turn), .pu (.list (sizes.map en)), .pu (.int z'), .pu (.bool (decide (1000000000000000000 ≤ z'))), .pu (.int (z' % 2147483647 + 7919 * (turn : Int))), .ol [], .un, .un] (Nat.zero_le _)
      ⟨z', _, [], .un, .un, rfl, rfl, rfl, by
        have := Int.emod_nonneg z' (show (2147483647 : Int) ≠ 0 by decide)
        omega, by
        have := Int.emod_lt_of_pos z' (show (0 : Int) < 2147483647 by decide)
        omega, rfl, fun j d s h => by simp at h⟩
  subst hx
  rw [List.length_zipIdx] at dl
  refine ⟨ds, ?_, dl, dg⟩
  rw [List.drop_zero, ← enum_map] at q
  have hp10 : gPow (.int 10) (.int 18) = some (.int 1000000000000000000) := by with_unfolding_all rfl
  have hmul := gMul_ii 7919 (turn : Int) (by decide)
  have habs : gAbs [.int z] = some (.int z') := rfl
  unfold g__law_digits
  rw [runF_s]
  simp [d__law_digits, env0, habs, hp10, hmul]
  rw [q]
  simp [k7, k8]
end Tm

namespace Tm
open PySem
def ways : List (D × D) := [(.str "up", .str "down"), (.str "down", .str "up"), (.str "any", .str "any")]
theorem ways_ix (o : Od) : gIx (.dict ways) (.str (ods o)) = some (.str (ods (endsO o))) := by
  have s1 : PyData.eqv (.str "any") (.str "up") = false := by decide +kernel
  have s2 : PyData.eqv (.str "any") (.str "down") = false := by decide +kernel
  have s3 : PyData.eqv (.str "up") (.str "any") = false := by decide +kernel
  have s4 : PyData.eqv (.str "down") (.str "any") = false := by decide +kernel
  have s5 : PyData.eqv (.str "any") (.str "any") = true := by decide +kernel
  cases o with
  | up =>
    show lookD ways (.str "up") = _
    unfold lookD ways
    simp [s_uu, s_du, s1]
    rfl
  | down =>
    show lookD ways (.str "down") = _
    unfold lookD ways
    simp [s_ud, s_dd, s2]
    rfl
  | any =>
    show lookD ways (.str "any") = _
    unfold lookD ways
    simp [s3, s4, s5]
    rfl
theorem L_ends (t : List El) (ht : t.length ≤ 8) : g__law_ends [et t] = some (et (t.map endsE)) := by
  have l1 : lcRun [2, 3] (aTup 2 (gsCons (aName 2) (gsCons (aName 3) gsNil))) (fun _ => some true) (eA mkTup (aCons (e2 gIx (eVar 1) (eVar 2)) (aCons (eVar 3) aNil))) [.pu (et t), .pu (.dict ways), .un, .un] (t.map ee) = some ((t.filter fun _ => true).map fun e => ee (endsE e)) :=
    lc_map ee (fun _ => true) (fun e => ee (endsE e)) t fun e _ => ⟨[.pu (et t), .pu (.dict ways), .pu (.str (ods e.1)), .pu (.list (e.2.map es))], rfl, rfl, fun _ => by
      simp [ways_ix]
      rfl⟩
  rw [filt_true] at l1
  have e : et (t.map endsE) = .list (t.map fun e => ee (endsE e)) := by
    unfold et
    rw [List.map_map]
    rfl
  have hs : szOk t.length = true := szOk_le (by omega)
  unfold g__law_ends
  rw [runF_s, e]
  simp only [d__law_ends, env0, cSeq_s, cAsg_s, eC_s]
  unfold ways at l1
  simp
  rw [show lstOf (et t) = some (t.map ee) from rfl]
  simp [hs, l1]
theorem L_bits (t : List El) (ht : TOk t) : g__law_bits [et t] = some (et (t.map bitsE)) := by
  have ht8 := ht.2.1
  have l1 : lcRun [1, 2] (aTup 2 (gsCons (aName 1) (gsCons (aName 2) gsNil))) (fun _ => some true) (eA mkTup (aCons (eVar 1) (aCons (eLc [3, 4] (iOf lstOf (eVar 2)) (aTup 2 (gsCons (aName 3) (gsCons (aName 4) gsNil))) (fun _ => some true) (eA mkTup (aCons (eVar 3) (aCons (e2 gSub (eC (.int 1)) (eVar 4)) aNil)))) aNil))) [.pu (et t), .un, .un, .un, .un] (t.map ee) = some ((t.filter fun _ => true).map fun e => ee (bitsE e)) :=
    lc_map ee (fun _ => true) (fun e => ee (bitsE e)) t fun e me => ⟨[.pu (et t), .pu (.str (ods e.1)), .pu (.list (e.2.map es)), .un, .un], rfl, rfl, fun _ => by
      have l2 : lcRun [3, 4] (aTup 2 (gsCons (aName 3) (gsCons (aName 4) gsNil))) (fun _ => some true) (eA mkTup (aCons (eVar 3) (aCons (e2 gSub (eC (.int 1)) (eVar 4)) aNil))) [.pu (et t), .pu (.str (ods e.1)), .pu (.list (e.2.map es)), .un, .un] (e.2.map es) = some ((e.2.filter fun _ => true).map fun s => es (flipS true s)) :=
        lc_map es (fun _ => true) (fun s => es (flipS true s)) e.2 fun s _ => ⟨[.pu (et t), .pu (.str (ods e.1)), .pu (.list (e.2.map es)), .pu (.str (if s.1 then "r" else "w")), .pu (eb s.2)], rfl, rfl, fun _ => by
          simp [flipS, es]⟩
      rw [filt_true] at l2
      have hs : szOk e.2.length = true := szOk_le (by have := (ht.2.2 e me).2; omega)
      simp [hs, l2]
      unfold ee bitsE
      rw [List.map_map]
      rfl⟩
  rw [filt_true] at l1
  have e : et (t.map bitsE) = .list (t.map fun e => ee (bitsE e)) := by
    unfold et
    rw [List.map_map]
    rfl
  have hs : szOk t.length = true := szOk_le (by omega)
  unfold g__law_bits
  rw [runF_s, e]
  simp only [d__law_bits, env0, cPro_s, cRet_s]
  simp only [List.map_cons, List.map_nil, List.length_cons, List.length_nil, List.replicate, List.cons_append, List.nil_append, noMo_cons, noMo_nil, nm_pu, nm_un, proAll_cons, proAll_nil, proD_pu_s, proD_un_s]
  rw [eLc_s]
  simp
  rw [show lstOf (et t) = some (t.map ee) from rfl]
  simp [hs]
  rw [l1]
/-! the harms turned -/
def two (k : Nm) : Bool := !oneC k
theorem gIn_two (k : Nm) : gIn (.str (nms k)) (.tuple [.str "turns", .str "sets", .str "keeps", .str "other", .str "both"]) = some (.bool (two k)) := by
  rw [gIn_t _ _ rfl rfl]
  congr 2
  cases k <;> decide +kernel
theorem gInt_b (b : Bool) : gInt [.bool b] = some (.int (if b then 1 else 0)) := rfl
theorem cutNat (l : List D) (a b : Nat) : gSl (.tuple l) (some (a : Int)) (some (b : Int)) = some (.tuple ((l.drop a).take (b - a))) := by
  show some (PyData.tuple (cutD l (some (a : Int)) (some (b : Int)))) = _
  rw [cut_both]
theorem cutNatHi (l : List D) (b : Nat) : gSl (.tuple l) none (some (b : Int)) = some (.tuple (l.take b)) := by
  show some (PyData.tuple (cutD l none (some (b : Int)))) = _
  rw [cut_hi]
theorem cutNatLo (l : List D) (b : Nat) : gSl (.tuple l) (some (b : Int)) none = some (.tuple (l.drop b)) := by
  show some (PyData.tuple (cutD l (some (b : Int)) none)) = _
  rw [cut_lo]
theorem cu_12 (l : List D) : cutD l (some 1) (some 2) = (l.drop 1).take 1 := cut_both l 1 2
theorem cu_13 (l : List D) : cutD l (some 1) (some 3) = (l.drop 1).take 2 := cut_both l 1 3
theorem cu_n1 (l : List D) : cutD l none (some 1) = l.take 1 := cut_hi l 1
theorem cu_n2 (l : List D) : cutD l none (some 2) = l.take 2 := cut_hi l 2
theorem cu_n3 (l : List D) : cutD l none (some 3) = l.take 3 := cut_hi l 3
theorem cu_2n (l : List D) : cutD l (some 2) none = l.drop 2 := cut_lo l 2
theorem cu_3n (l : List D) : cutD l (some 3) none = l.drop 3 := cut_lo l 3
theorem turn_one {most : Nat} {h : Hm} (ha : h.a ≤ most) (hb : h.b ≤ most) (A0 A2 : SD) (x4 x5 : SD) (l : List D) (hl : l.length ≤ 100) (n0 : nm x4 = true) :
    b__law_cells_turned_1 [A0, .pu (en most), .ol l, .pu (eh h), x4, .un] = some (.next [A0, .pu (en most), .ol (l ++ [eh (mh (revS (most + 1)) h)]), .pu (eh h), .pu (.int (if two h.k then 1 else 0)), .un]) := by
  have sz : szOk (l.length + 1) = true := szOk_le (by omega)
  have g2 := gIn_two h.k
  obtain ⟨k, a, b, v, w⟩ := h
  have ea : gSub (en most) (en a) = some (en (most - a)) := by
    show gSub (.int _) (.int _) = some (.int _)
    rw [gSub_ii]
    congr 2
    simp at ha
    omega
  have eb' : gSub (en most) (en b) = some (en (most - b)) := by
    show gSub (.int _) (.int _) = some (.int _)
    rw [gSub_ii]
    congr 2
    simp at hb
    omega
  have hmh : mh (revS (most + 1)) ⟨k, a, b, v, w⟩ = ⟨k, most - a, most - b, v, w⟩ := by
    show Hm.mk k (most + 1 - 1 - a) (most + 1 - 1 - b) (v ^^ false) (w ^^ false) = _
    simp
  rw [hmh]
  cases k <;> simp at g2 <;> simp [b__law_cells_turned_1, eh, tl, g2, gInt_b, two, oneC, lcRun_cons, lcRun_nil, cu_12, cu_13, cu_n1, cu_3n, cu_2n, ea, eb', sz]
theorem L_cells_turned (hs : List Hm) (most : Nat) (hl : hs.length ≤ 20) (ok : ∀ h ∈ hs, h.a ≤ most ∧ h.b ≤ most) : g__law_cells_turned [eH hs, en most] = some (eH (hs.map (mh (revS (most + 1))))) := by
  obtain ⟨e1, q, x3, x4, n3, n4, hx, _⟩ := for_foldN eh (fun i (f : List Hm) env => ∃ x3 x4, nm x3 = true ∧ nm x4 = true ∧ env = [.pu (eH hs), .pu (en most), .ol (f.map eh), x3, x4, .un] ∧ f.length = i) (fun f h => f ++ [mh (revS (most + 1)) h]) (a := aName 3) (F := b__law_cells_turned_1) hs 0
    (fun i f h env m hi ⟨x3, x4, n3, n4, hx, hf⟩ => by
      subst hx
      have t := turn_one (ok h m).1 (ok h m).2 (.pu (eH hs)) .un x4 .un (f.map eh) (by rw [List.length_map]; omega) n4
      refine ⟨_, [.pu (eH hs), .pu (en most), .ol ((f ++ [mh (revS (most + 1)) h]).map eh), .pu (eh h), .pu (.int (if two h.k then 1 else 0)), .un], rfl, ?_, _, _, rfl, rfl, rfl, by simp [hf]⟩
      rw [List.map_append]
      exact t) [] [.pu (eH hs), .pu (en most), .ol [], .un, .un, .un] ⟨.un, .un, rfl, rfl, rfl, rfl⟩
  subst hx
  have ef : ∀ (l acc : List Hm), l.foldl (fun f h => f ++ [mh (revS (most + 1)) h]) acc = acc ++ l.map (mh (revS (most + 1))) := fun l => by
    induction l with
    | nil => intro acc; simp
    | cons h l ih => intro acc; rw [List.foldl_cons, ih]; simp
  rw [ef, List.nil_append] at q
  unfold g__law_cells_turned
  rw [runF_s]
  simp [d__law_cells_turned, env0]
  rw [q]
  simp [n3, n4, eH]
@[simp] theorem eGet2_s (fd fy fz : SE → Option D) (env : SE) : eGet2 fd fy fz env = (match fd env with
  | some (.dict es) => (match fy env with
    | some y => (match fz env with
      | some z => if (keyOf y).isSome && es.any (fun e => (keyOf e.1).isSome) then some ((lookD es y).getD z) else none
      | none => none)
    | none => none)
  | _ => none) := rfl
theorem lk_eb (b : Bool) : lookD [(.str "and", .str "or"), (.str "or", .str "and")] (eb b) = none := rfl
theorem s_aa : PyData.eqv (.str "and") (.str "and") = true := by decide +kernel
theorem s_ao : PyData.eqv (.str "and") (.str "or") = false := by decide +kernel
theorem s_oo : PyData.eqv (.str "or") (.str "or") = true := by decide +kernel
theorem lk_and : lookD [(.str "and", .str "or"), (.str "or", .str "and")] (.str "and") = some (.str "or") := by
  unfold lookD
  simp [s_aa]
theorem lk_or : lookD [(.str "and", .str "or"), (.str "or", .str "and")] (.str "or") = some (.str "and") := by
  unfold lookD
  simp [s_ao, s_oo]
theorem ko_eb (b : Bool) : (keyOf (eb b)).isSome = true := rfl
theorem ko_s (x : Str) : (keyOf (.str x)).isSome = true := rfl
theorem bit_one {n : Nat} (h : Hm) (A0 x3 x4 : SD) (l : List D) (hl : l.length ≤ 100) :
    b__law_bits_turned_1 [A0, .ol l, .pu (eh h), x3, x4, .un] = some (.next [A0, .ol (l ++ [eh (mh (notS n) h)]), .pu (eh h), .pu (.int (if two h.k then 1 else 0)), .pu (.list ((tl (mh (notS n) h)).drop (if two h.k then 2 else 1))), .un]) := by
  have sz : szOk (l.length + 1) = true := szOk_le (by omega)
  have g2 := gIn_two h.k
  obtain ⟨k, a, b, v, w⟩ := h
  have hmh : mh (notS n) ⟨k, a, b, v, w⟩ = ⟨k, a, b, !v, !w⟩ := by
    show Hm.mk k a b (v ^^ true) (w ^^ true) = _
    simp
  rw [hmh]
  cases k <;> cases v <;> simp at g2 <;> simp [b__law_bits_turned_1, lk_and, lk_or, eh, tl, g2, gInt_b, two, oneC, lcRun_cons, lcRun_nil, cu_n2, cu_n3, cu_3n, cu_2n, sz, lk_eb, ko_eb, ko_s]
theorem L_bits_turned (n : Nat) (hs : List Hm) (hl : hs.length ≤ 20) : g__law_bits_turned [eH hs] = some (eH (hs.map (mh (notS n)))) := by
  obtain ⟨e1, q, x3, x4, x5, n3, n4, n5, hx, _⟩ := for_foldN eh (fun i (f : List Hm) env => ∃ x3 x4 x5, nm x3 = true ∧ nm x4 = true ∧ nm x5 = true ∧ env = [.pu (eH hs), .ol (f.map eh), x3, x4, x5, .un] ∧ f.length = i) (fun f h => f ++ [mh (notS n) h]) (a := aName 2) (F := b__law_bits_turned_1) hs 0
    (fun i f h env m hi ⟨x3, x4, x5, n3, n4, n5, hx, hf⟩ => by
      subst hx
      have t := bit_one (n := n) h (.pu (eH hs)) x4 x5 (f.map eh) (by rw [List.length_map]; omega)
      refine ⟨_, [.pu (eH hs), .ol ((f ++ [mh (notS n) h]).map eh), .pu (eh h), .pu (.int (if two h.k then 1 else 0)), .pu (.list ((tl (mh (notS n) h)).drop (if two h.k then 2 else 1))), .un], rfl, ?_, _, _, _, rfl, rfl, rfl, rfl, by simp [hf]⟩
      rw [List.map_append]
      exact t) [] [.pu (eH hs), .ol [], .un, .un, .un, .un] ⟨.un, .un, .un, rfl, rfl, rfl, rfl, rfl⟩
  subst hx
  have ef : ∀ (l acc : List Hm), l.foldl (fun f h => f ++ [mh (notS n) h]) acc = acc ++ l.map (mh (notS n)) := fun l => by
    induction l with
    | nil => intro acc; simp
    | cons h l ih => intro acc; rw [List.foldl_cons, ih]; simp
  rw [ef, List.nil_append] at q
  unfold g__law_bits_turned
  rw [runF_s]
  simp [d__law_bits_turned, env0]
  rw [q]
  simp [n3, n4, n5, eH]
/-! placed -/
def encZ (l : List (Nat × Nat)) : List (D × D) := encP l
theorem keyPairs_enc : ∀ l : List (Nat × Nat), keyPairs (l.map fun p => en p.1) (l.map fun p => en p.2) = some (encP l)
  | [] => rfl
  | p :: l => by
    show (match keyOf (en p.1), keyPairs (l.map fun p => en p.1) (l.map fun p => en p.2) with
      | some _, some r => some ((en p.1, en p.2) :: r)
      | _, _ => none) = _
    rw [keyPairs_enc l]
    rfl
theorem L_placed (hs : List Hm) (S : List Nat) (o : HsOk hs S) (pl : List Nat) (hp : pl.length = (cellsN hs).length) : g_placed [eH hs, .list (pl.map en)] = some (eH (hs.map (mapC fun c => (((cellsN hs).zip pl).lookup c).getD 0))) := by
  let g : Nat → Nat := fun c => (((cellsN hs).zip pl).lookup c).getD 0
  let ND : D := .dict (encP ((cellsN hs).zip pl))
  have m1 : ((cellsN hs).zip pl).map (·.1) = cellsN hs := List.map_fst_zip (by omega)
  have m2 : ((cellsN hs).zip pl).map (·.2) = pl := List.map_snd_zip (by omega)
  have nd : (([] ++ (cellsN hs).zip pl).map (fun p : Nat × Nat => p.1)).Nodup := by
    rw [List.nil_append, m1]
    exact cellsN_nd o.ok
  have kp : keyPairs ((cellsN hs).map en) (pl.map en) = some (encP ((cellsN hs).zip pl)) := by
    have := keyPairs_enc ((cellsN hs).zip pl)
    rw [show (((cellsN hs).zip pl).map fun p => en p.1) = (((cellsN hs).zip pl).map (·.1)).map en from by rw [List.map_map]; rfl, show (((cellsN hs).zip pl).map fun p => en p.2) = (((cellsN hs).zip pl).map (·.2)).map en from by rw [List.map_map]; rfl, m1, m2] at this
    exact this
  have mg : mergeD [] (encP ((cellsN hs).zip pl)) = encP ((cellsN hs).zip pl) := merge_nd _ [] nd
  have lk : ∀ c ∈ cellsN hs, ∃ v, ((cellsN hs).zip pl).lookup c = some v := fun c hc => by
    have : ∀ (a b : List Nat), a.length ≤ b.length → c ∈ a → ∃ v, (a.zip b).lookup c = some v := fun a => by
      induction a with
      | nil => intro b _ h; cases h
      | cons x a ih =>
        intro b hb h
        cases b with
        | nil => simp at hb
        | cons y b =>
          rw [List.zip_cons_cons, List.lookup_cons]
          by_cases e : c = x
          · subst e
            exact ⟨y, by simp⟩
          · have : (c == x) = false := beq_eq_false_iff_ne.mpr e
            simp only [this]
            exact ih b (by simpa using hb) ((List.mem_cons.mp h).resolve_left e)
    exact this _ _ (by omega) hc
  have l2 : lcRun [3] (aName 3) (fun _ => some true) (eA (gN 2 g_called) (aCons (eVar 3) (aCons (eVar 2) aNil))) [.pu (eH hs), .pu (.list (pl.map en)), .pu ND, .un] (hs.map eh) = some ((hs.filter fun _ => true).map fun h => eh (mapC g h)) :=
    lc_map eh (fun _ => true) (fun h => eh (mapC g h)) hs fun h m => ⟨[.pu (eH hs), .pu (.list (pl.map en)), .pu ND, .pu (eh h)], rfl, rfl, fun _ => by
      have hg : g_called [eh h, ND] = some (eh (mapC g h)) := L_called h ND g fun c mc => by
        obtain ⟨v, hv⟩ := lk c (cin_sub m mc)
        rw [look_enc, hv]
        show _ = some (en ((((cellsN hs).zip pl).lookup c).getD 0))
        rw [hv]
        rfl
      simp [hg]⟩
  rw [filt_true] at l2
  have hl := o.len
  have s2 : szOk hs.length = true := szOk_le (by omega)
  have ez : ∀ env : SE, env = [.pu (eH hs), .pu (.list (pl.map en)), .un, .un] → eDictZip (aCons (eA (gN 1 g_cells_of) (aCons (eVar 0) aNil)) (aCons (eVar 1) aNil)) env = some ND := fun env h => by
    subst h
    unfold eDictZip
    simp [L_cells_of hs S o, kp, mg]
    rfl
  unfold g_placed
  rw [runF_s]
  simp [d_placed, env0, ez _ rfl, s2, l2]
  unfold eH
  rw [List.map_map]
  rfl
end Tm

namespace Tm
open PySem
@[simp] theorem szOk_6 : szOk 6 = true := rfl
@[simp] theorem szOk_7 : szOk 7 = true := rfl
@[simp] theorem szOk_8 : szOk 8 = true := rfl
@[simp] theorem szOk_9 : szOk 9 = true := rfl
@[simp] theorem szOk_10 : szOk 10 = true := rfl
@[simp] theorem szOk_12 : szOk 12 = true := rfl
@[simp] theorem szOk_15 : szOk 15 = true := rfl
@[simp] theorem szOk_19 : szOk 19 = true := rfl
/-! ### the drawn test -/
theorem sure_snoc : ∀ {l : List (Bool × Bool)} {k : Option Bool} {s : Bool × Bool}, SureL k l → (s.1 = true → lastK k l = some s.2) → SureL k (l ++ [s]) ∧ lastK k (l ++ [s]) = some s.2
  | [], k, s, _, h => ⟨⟨h, trivial⟩, rfl⟩
  | x :: l, k, s, h, h2 => by
    obtain ⟨a, b⟩ := sure_snoc (l := l) (k := some x.2) (s := s) h.2 h2
    exact ⟨⟨h.1, a⟩, b⟩
def lastT : Option Bool → List El → Option Bool
  | k, [] => k
  | k, e :: t => lastT (lastK k e.2) t
theorem sureT_snoc : ∀ {t : List El} {k : Option Bool} {e : El}, SureT k t → SureL (lastT k t) e.2 → SureT k (t ++ [e]) ∧ lastT k (t ++ [e]) = lastK (lastT k t) e.2
  | [], k, e, _, h => ⟨⟨h, trivial⟩, rfl⟩
  | x :: t, k, e, h, h2 => by
    obtain ⟨a, b⟩ := sureT_snoc (t := t) (k := lastK k x.2) (e := e) h.2 h2
    exact ⟨⟨h.1, a⟩, b⟩
theorem mod2 (p : Nat) : ∃ b : Bool, (PyData.int ((p : Int) % 2)) = eb b := by
  have h : p % 2 = 0 ∨ p % 2 = 1 := by omega
  rcases h with h | h
  · refine ⟨false, ?_⟩
    show PyData.int _ = PyData.int 0
    congr 1
    omega
  · refine ⟨true, ?_⟩
    show PyData.int _ = PyData.int 1
    congr 1
    omega
theorem pick_loop (A0 A3 A4 A5 A6 : SD) (k0 : Option Bool) : ∀ (ps : List Nat) (ss : List (Bool × Bool)) (x8 x9 : SD), nm x8 = true → nm x9 = true → ss.length + ps.length ≤ 100 → SureL k0 ss →
    ∃ (ss' : List (Bool × Bool)) (y8 y9 : SD), nm y8 = true ∧ nm y9 = true ∧ SureL k0 ss' ∧ ss'.length = ss.length + ps.length ∧
      forRun (aName 8) b__law_test_1 (ps.map en) [A0, .pu (.bool true), .pu (eo eb (lastK k0 ss)), A3, A4, A5, A6, .ol (ss.map es), x8, x9] = some (.next [A0, .pu (.bool true), .pu (eo eb (lastK k0 ss')), A3, A4, A5, A6, .ol (ss'.map es), y8, y9])
  | [], ss, x8, x9, h8, h9, _, hs => ⟨ss, x8, x9, h8, h9, hs, rfl, rfl⟩
  | p :: ps, ss, x8, x9, h8, h9, hl, hs => by
    obtain ⟨b, hb⟩ := mod2 p
    have hsz : szOk (ss.length + 1) = true := szOk_le (by rw [List.length_cons] at hl; omega)
    have hpos : ((0 : Int) < 2) := by decide
    have key : ∃ s : Bool × Bool, (s.1 = true → lastK k0 ss = some s.2) ∧ b__law_test_1 [A0, .pu (.bool true), .pu (eo eb (lastK k0 ss)), A3, A4, A5, A6, .ol (ss.map es), .pu (en p), x9] = some (.next [A0, .pu (.bool true), .pu (eb s.2), A3, A4, A5, A6, .ol (ss.map es ++ [es s]), .pu (en p), .pu (es s)]) := by
      by_cases hp : (1 : Int) < p
      · cases hk : lastK k0 ss with
        | none =>
          refine ⟨(false, b), (fun h => by cases h), ?_⟩
          simp [b__law_test_1, hb, hp, hsz, es]
        | some c =>
          refine ⟨(true, c), fun _ => rfl, ?_⟩
          simp [b__law_test_1, hb, hp, hsz, es]
      · refine ⟨(false, b), (fun h => by cases h), ?_⟩
        simp [b__law_test_1, hb, hp, hsz, es]
    obtain ⟨s, h1, h2⟩ := key
    obtain ⟨a1, a2⟩ := sure_snoc hs h1
    obtain ⟨ss', y8, y9, g8, g9, gs, gl, gf⟩ := pick_loop A0 A3 A4 A5 A6 k0 ps (ss ++ [s]) (.pu (en p)) (.pu (es s)) rfl rfl (by simp at hl ⊢; omega) a1
    refine ⟨ss', y8, y9, g8, g9, gs, by simp at gl ⊢; omega, ?_⟩
    rw [List.map_cons, fr_next (e1 := [A0, .pu (.bool true), .pu (eo eb (lastK k0 ss)), A3, A4, A5, A6, .ol (ss.map es), .pu (en p), x9]) rfl h2]
    rw [a2] at gf
    simpa using gf
theorem Dg.get {ds sizes : List Nat} (h : Dg ds sizes) {i s : Nat} (hi : sizes[i]? = some s) : ∃ d, ds[i]? = some d ∧ d < s := by
  have hl : i < sizes.length := (List.getElem?_eq_some_iff.mp hi).1
  have hl2 : i < ds.length := by rw [h.1]; exact hl
  exact ⟨ds[i], List.getElem?_eq_getElem hl2, h.2 i _ s (List.getElem?_eq_getElem hl2) hi⟩
def odN : Nat → Od
  | 0 => .up
  | 1 => .down
  | _ => .any
theorem ord3 (d : Nat) (h : d < 3) : gIx (.list [.str "up", .str "down", .str "any"]) (en d) = some (.str (ods (odN d))) := by
  rw [gIx_l]
  match d, h with
  | 0, _ => rfl
  | 1, _ => rfl
  | 2, _ => rfl
theorem L_law_test (ns : List Int) (h1 : 1 ≤ ns.length) (h5 : ns.length ≤ 5) : ∃ t, g__law_test [.list (ns.map PyData.int), .bool true] = some (et t) ∧ TOk t ∧ SureT none t ∧ t.length = ns.length := by
  let sizes : List Nat := [3, 6, 4, 4, 4, 4, 4, 4]
  obtain ⟨e1, q, t, x4, x5, x6, x7, x8, x9, k4, k5, k6, k7, k8, k9, hx, tl', tok, ts⟩ := for_foldI (fun p : Int × Nat => .tuple [.int (p.2 : Int), .int p.1])
    (fun i env => ∃ (t : List El) (x4 x5 x6 x7 x8 x9 : SD), nm x4 = true ∧ nm x5 = true ∧ nm x6 = true ∧ nm x7 = true ∧ nm x8 = true ∧ nm x9 = true ∧ env = [.pu (.list (ns.map PyData.int)), .pu (.bool true), .pu (eo eb (lastT none t)), .ol (t.map ee), x4, x5, x6, x7, x8, x9] ∧ t.length = i ∧ (∀ e ∈ t, 1 ≤ e.2.length ∧ e.2.length ≤ 6) ∧ SureT none t)
    (a := aTup 2 (gsCons (aName 4) (gsCons (aName 5) gsNil))) (F := b__law_test_2) (ns.zipIdx 0)
    (fun i p env hi ⟨t, x4, x5, x6, x7, x8, x9, k4, k5, k6, k7, k8, k9, hx, tl', tok, ts⟩ => by
      subst hx
      have hil : i < (ns.zipIdx 0).length := (List.getElem?_eq_some_iff.mp hi).1
      rw [List.length_zipIdx] at hil
      have hp2 : p.2 < 5 := by
        have := (List.mem_zipIdx' (List.mem_of_getElem? hi)).1
        omega
      obtain ⟨ds, hd, dg⟩ := L_digits p.1 (20 + p.2) (by omega) sizes (by decide) (by decide)
      obtain ⟨d0, g0, l0⟩ := dg.get (i := 0) (s := 3) rfl
      obtain ⟨d1, g1, l1⟩ := dg.get (i := 1) (s := 6) rfl
      have hdl : ds.length = 8 := dg.1
      have hps : (((ds.drop 2).take (3 + d1 - 2))).length = 1 + d1 := by
        rw [List.length_take, List.length_drop]
        omega
      obtain ⟨ss, y8, y9, n8, n9, hs, hsl, hf⟩ := pick_loop (.pu (.list (ns.map PyData.int))) (.ol (t.map ee)) (.pu (.int (p.2 : Int))) (.pu (.int p.1)) (.pu (.list (ds.map en))) (lastT none t) ((ds.drop 2).take (3 + d1 - 2)) [] x8 x9 k8 k9 (by simp [hps]; omega) trivial
      have i0 : gIx (.list (ds.map en)) (.int 0) = some (en d0) := by
        have := gIx_l (ds.map en) 0
        rw [List.getElem?_map, g0] at this
        exact this
      have i1 : gIx (.list (ds.map en)) (.int 1) = some (en d1) := by
        have := gIx_l (ds.map en) 1
        rw [List.getElem?_map, g1] at this
        exact this
      have hsz : szOk (t.length + 1) = true := szOk_le (by omega)
      have hcut : cutD (ds.map en) (some 2) (some (3 + (d1 : Int))) = ((ds.drop 2).take (3 + d1 - 2)).map en := by
        have := cut_both (ds.map en) 2 (3 + d1)
        rw [show ((3 + d1 : Nat) : Int) = 3 + (d1 : Int) by omega] at this
        show cutD (ds.map en) (some ((2 : Nat) : Int)) (some (3 + (d1 : Int))) = _
        rw [this, ← List.map_drop, ← List.map_take]
      have hdig : g__law_digits [.int p.1, .int (20 + (p.2 : Int)), .list [.int 3, .int 6, .int 4, .int 4, .int 4, .int 4, .int 4, .int 4]] = some (.list (ds.map en)) := hd
      have hrep : gMul (.list [.int 4]) (.int 6) = some (.list [.int 4, .int 4, .int 4, .int 4, .int 4, .int 4]) := by with_unfolding_all rfl
      obtain ⟨s1, s2⟩ := sureT_snoc (e := (odN d0, ss)) ts hs
      refine ⟨_, [.pu (.list (ns.map PyData.int)), .pu (.bool true), .pu (eo eb (lastT none (t ++ [(odN d0, ss)]))), .ol ((t ++ [(odN d0, ss)]).map ee), .pu (.int (p.2 : Int)), .pu (.int p.1), .pu (.list (ds.map en)), .pu (.list (ss.map es)), y8, y9], rfl, ?_, _, _, _, _, _, _, _, rfl, rfl, rfl, rfl, n8, n9, rfl, by simp [tl'], fun e me => ?_, s1⟩
      · rw [s2]
        have hz8 : szOk (1 + 1 + 6) = true := by decide
        have hf' : forRun (aName 8) b__law_test_1 (((ds.drop 2).take (3 + d1 - 2)).map en) [.pu (.list (ns.map PyData.int)), .pu (.bool true), .pu (eo eb (lastT none t)), .ol (t.map ee), .pu (.int (p.2 : Int)), .pu (.int p.1), .pu (.list (ds.map en)), .ol [], x8, x9] = _ := hf
        have ho := ord3 d0 l0
        simp only [b__law_test_2, cSeq_s, cAsg_s, eA_s, aCons_s, aNil_s, eVar_s, e2_s, eC_s, cOwn_s, cFor_s, iOf_s, eSl_s, oS_s, mkLst_s]
        simp [hrep, hdig, i1, hcut, -List.map_take, -List.map_drop]
        rw [hf']
        simp [i0, ho, hsz, proOk, ee]
      · rcases List.mem_append.mp me with me | me
        · exact tok e me
        · simp at me
          subst me
          rw [hsl, hps]
          simp
          omega) 0 [.pu (.list (ns.map PyData.int)), .pu (.bool true), .pu .none, .ol [], .un, .un, .un, .un, .un, .un] (Nat.zero_le _) ⟨[], .un, .un, .un, .un, .un, .un, rfl, rfl, rfl, rfl, rfl, rfl, rfl, rfl, (fun e h => by cases h), trivial⟩
  subst hx
  rw [List.length_zipIdx] at tl'
  refine ⟨t, ?_, ⟨by omega, by omega, tok⟩, ts, tl'⟩
  rw [List.drop_zero, ← enum_map] at q
  have q' : forRun (aTup 2 (gsCons (aName 4) (gsCons (aName 5) gsNil))) b__law_test_2 (enumFrom 0 (ns.map PyData.int)) [.pu (.list (ns.map PyData.int)), .pu (.bool true), .pu .none, .ol [], .un, .un, .un, .un, .un, .un] = _ := q
  unfold g__law_test
  rw [runF_s]
  simp [d__law_test, env0]
  rw [q']
  simp [k4, k5, k6, k7, k8, k9]
  rfl
end Tm

namespace Tm
open PySem
/-! ### the drawn orders -/
def ordO (t : List El) (ds : List Nat) (i : Nat) : Bool := match t[i]? with
  | some e => if e.1 = .any then decide (ds.getD i 0 = 0) else decide (e.1 = .up)
  | none => true
theorem eor_ods (o : Od) (h : o ≠ .any) : PyData.str (ods o) = eor (decide (o = .up)) := by
  cases o with
  | up => rfl
  | down => rfl
  | any => exact absurd rfl h
theorem ud2 (d : Nat) (h : d < 2) : gIx (.list [.str "up", .str "down"]) (en d) = some (eor (decide (d = 0))) := by
  rw [gIx_l]
  match d, h with
  | 0, _ => rfl
  | 1, _ => rfl
@[simp] theorem iRange1_s (f : SE → Option (List D)) (env : SE) : iRange1 f env = (match f env with
  | some [.int n] => if decide (0 ≤ n ∧ n ≤ 100000) then some (upto n.toNat) else none
  | _ => none) := rfl
theorem L_law_orders (t : List El) (ht : TOk t) (z : Int) : ∃ ords, g__law_orders [et t, .int z] = some (.list (ords.map eor)) ∧ OOk t ords := by
  have h8 := ht.2.1
  let sizes : List Nat := [2, 2, 2, 2, 2, 2, 2, 2]
  obtain ⟨ds, hd, dg⟩ := L_digits z 61 (by decide) sizes (by decide) (by decide)
  have hrep : gMul (.list [.int 2]) (.int 8) = some (.list [.int 2, .int 2, .int 2, .int 2, .int 2, .int 2, .int 2, .int 2]) := by with_unfolding_all rfl
  have hdig : g__law_digits [.int z, .int 61, .list [.int 2, .int 2, .int 2, .int 2, .int 2, .int 2, .int 2, .int 2]] = some (.list (ds.map en)) := hd
  refine ⟨(List.range t.length).map (ordO t ds), ?_, ⟨by simp, fun p mp => ?_⟩⟩
  · have l1 : lcRun [3] (aName 3) (fun _ => some true) (eIf (bOf (e2 gEq (e2 gIx (e2 gIx (eVar 0) (eVar 3)) (eC (.int 0))) (eC (.str "any")))) (e2 gIx (eA mkLst (aCons (eC (.str "up")) (aCons (eC (.str "down")) aNil))) (e2 gIx (eVar 2) (eVar 3))) (e2 gIx (e2 gIx (eVar 0) (eVar 3)) (eC (.int 0)))) [.pu (et t), .pu (.int z), .pu (.list (ds.map en)), .un] ((List.range t.length).map en) = some (((List.range t.length).filter fun _ => true).map fun i => eor (ordO t ds i)) :=
      lc_map en (fun _ => true) (fun i => eor (ordO t ds i)) _ fun i mi => ⟨[.pu (et t), .pu (.int z), .pu (.list (ds.map en)), .pu (en i)], rfl, rfl, fun _ => by
        have hi : i < t.length := List.mem_range.mp mi
        have i1 : gIx (et t) (en i) = some (ee t[i]) := by
          show gIx (.list (t.map ee)) (.int (i : Int)) = _
          rw [gIx_l, List.getElem?_map, List.getElem?_eq_getElem hi]
          rfl
        have hsi : sizes[i]? = some 2 := by
          match i, (show i < 8 by omega) with
          | 0, _ => rfl
          | 1, _ => rfl
          | 2, _ => rfl
          | 3, _ => rfl
          | 4, _ => rfl
          | 5, _ => rfl
          | 6, _ => rfl
          | 7, _ => rfl
        obtain ⟨d, hdi, hd2⟩ := dg.get hsi
        have i2 : gIx (.list (ds.map en)) (en i) = some (en d) := by
          rw [gIx_l, List.getElem?_map, hdi]
          rfl
        have hu := ud2 d hd2
        have ho : ordO t ds i = if t[i].1 = .any then decide (d = 0) else decide (t[i].1 = .up) := by
          unfold ordO
          rw [List.getElem?_eq_getElem hi, List.getD_eq_getElem?_getD, hdi]
          rfl
        rw [ho]
        by_cases ha : t[i].1 = .any
        · simp [i1, i2, ods_any, ha, hu]
        · have he := eor_ods _ ha
          have q := ods_any t[i].1
          rw [he] at q
          simp [i1, i2, q, ha, he]⟩
    rw [filt_true] at l1
    have hb : (0 : Int) ≤ t.length ∧ (t.length : Int) ≤ 100000 := ⟨by omega, by omega⟩
    have hu : upto ((t.length : Int).toNat) = (List.range t.length).map en := rfl
    have hs : szOk t.length = true := szOk_le (by omega)
    unfold g__law_orders
    rw [runF_s]
    simp [d__law_orders, env0, hrep, hdig, hb, hu, upto_eq, hs]
    rw [l1]
    simp
  · obtain ⟨i, hi, rfl⟩ := List.mem_iff_getElem.mp mp
    rw [List.length_zip] at hi
    have hit : i < t.length := by omega
    rw [List.getElem_zip]
    simp only [List.getElem_map, List.getElem_range]
    unfold ordO
    rw [List.getElem?_eq_getElem hit]
    simp only
    by_cases ha : t[i].1 = .any
    · exact .inl ha
    · rw [if_neg ha]
      right
      unfold odOf
      cases h : t[i].1 with
      | up => rfl
      | down => rfl
      | any => exact absurd h ha
/-! ### the drawn harms -/
def nmN : Nat → Nm
  | 0 => .stuck | 1 => .slow | 2 => .forgets | 3 => .misreads | 4 => .turns | 5 => .sets | 6 => .keeps | 7 => .nowhere | 8 => .other | _ => .both
theorem words_ix (d : Nat) (h : d < 10) : gIx (.list [.str "stuck", .str "slow", .str "forgets", .str "misreads", .str "turns", .str "sets", .str "keeps", .str "nowhere", .str "other", .str "both"]) (en d) = some (.str (nms (nmN d))) := by
  rw [gIx_l]
  match d, h with
  | 0, _ => rfl
  | 1, _ => rfl
  | 2, _ => rfl
  | 3, _ => rfl
  | 4, _ => rfl
  | 5, _ => rfl
  | 6, _ => rfl
  | 7, _ => rfl
  | 8, _ => rfl
  | 9, _ => rfl
theorem gIn_one (k : Nm) : gIn (.str (nms k)) (.tuple [.str "stuck", .str "slow", .str "forgets", .str "misreads", .str "nowhere"]) = some (.bool (oneC k)) := by
  rw [gIn_t _ _ rfl rfl]
  congr 2
  cases k <;> decide +kernel
theorem gIn_sk (k : Nm) : gIn (.str (nms k)) (.tuple [.str "sets", .str "keeps"]) = some (.bool (decide (k = .sets ∨ k = .keeps))) := by
  rw [gIn_t _ _ rfl rfl]
  congr 2
  cases k <;> decide +kernel
theorem nm_turns (k : Nm) : gEq (.str (nms k)) (.str "turns") = some (.bool (decide (k = .turns))) := nm_eq rfl
theorem nm_both (k : Nm) : gEq (.str (nms k)) (.str "both") = some (.bool (decide (k = .both))) := nm_eq rfl
theorem bit_en (d : Nat) (h : d < 2) : en d = eb (decide (d = 1)) := by
  match d, h with
  | 0, _ => rfl
  | 1, _ => rfl
theorem ao_ix (d : Nat) (h : d < 2) : gIx (.list [.str "and", .str "or"]) (en d) = some (.str (if decide (d = 0) then "and" else "or")) := by
  rw [gIx_l]
  match d, h with
  | 0, _ => rfl
  | 1, _ => rfl
theorem L_law_harm (ds : List Nat) (dg : Dg ds [10, 6, 6, 2, 2]) (x y z : Nat) (nd : [x, y, z].Nodup) : ∃ h, g__law_harm [.list (ds.map en), .list ([x, y, z].map en)] = some (eh h) ∧ h.a ∈ [x, y, z] ∧ h.b ∈ [x, y, z] ∧ (oneC h.k = true → h.b = h.a) ∧ (oneC h.k = false → h.a ≠ h.b) := by
  obtain ⟨d0, g0, l0⟩ := dg.get (i := 0) (s := 10) rfl
  obtain ⟨d1, g1, l1⟩ := dg.get (i := 1) (s := 6) rfl
  obtain ⟨d2, g2, l2⟩ := dg.get (i := 2) (s := 6) rfl
  obtain ⟨d3, g3, l3⟩ := dg.get (i := 3) (s := 2) rfl
  obtain ⟨d4, g4, l4⟩ := dg.get (i := 4) (s := 2) rfl
  have ix : ∀ (i d : Nat), ds[i]? = some d → gIx (.list (ds.map en)) (.int (i : Int)) = some (en d) := fun i d h => by
    rw [gIx_l, List.getElem?_map, h]
    rfl
  have i0 : gIx (.list (ds.map en)) (.int 0) = some (en d0) := ix 0 d0 g0
  have i1 : gIx (.list (ds.map en)) (.int 1) = some (en d1) := ix 1 d1 g1
  have i2 : gIx (.list (ds.map en)) (.int 2) = some (en d2) := ix 2 d2 g2
  have i3 : gIx (.list (ds.map en)) (.int 3) = some (en d3) := ix 3 d3 g3
  have i4 : gIx (.list (ds.map en)) (.int 4) = some (en d4) := ix 4 d4 g4
  -- the two cells
  obtain ⟨a, b, fl, ha, hb, hab, q1, q2, q3⟩ : ∃ (a b : Nat) (fl : List Nat), a ∈ [x, y, z] ∧ b ∈ [x, y, z] ∧ a ≠ b ∧ gIx (.list [en x, en y, en z]) (.int ((d1 : Int) % 3)) = some (en a) ∧
      ([x, y, z].filter fun c => !decide (c = a)) = fl ∧ gIx (.list (fl.map en)) (.int ((d2 : Int) % 2)) = some (en b) := by
    simp at nd
    obtain ⟨⟨n1, n2⟩, n3⟩ := nd
    have m2 : d2 % 2 = 0 ∨ d2 % 2 = 1 := by omega
    have c2 : ((d2 : Int) % 2) = ((d2 % 2 : Nat) : Int) := by omega
    have c3 : ((d1 : Int) % 3) = ((d1 % 3 : Nat) : Int) := by omega
    rw [c2, c3]
    have m3 : d1 % 3 = 0 ∨ d1 % 3 = 1 ∨ d1 % 3 = 2 := by omega
    rcases m3 with h | h | h <;> rcases m2 with h' | h' <;> rw [h, h']
    · exact ⟨x, y, [y, z], by simp, by simp, n1, gIx_l _ 0, by simp [Ne.symm n1, Ne.symm n2], gIx_l _ 0⟩
    · exact ⟨x, z, [y, z], by simp, by simp, n2, gIx_l _ 0, by simp [Ne.symm n1, Ne.symm n2], gIx_l _ 1⟩
    · exact ⟨y, x, [x, z], by simp, by simp, Ne.symm n1, gIx_l _ 1, by simp [n1, Ne.symm n3], gIx_l _ 0⟩
    · exact ⟨y, z, [x, z], by simp, by simp, n3, gIx_l _ 1, by simp [n1, Ne.symm n3], gIx_l _ 1⟩
    · exact ⟨z, x, [x, y], by simp, by simp, Ne.symm n2, gIx_l _ 2, by simp [n2, n3], gIx_l _ 0⟩
    · exact ⟨z, y, [x, y], by simp, by simp, Ne.symm n3, gIx_l _ 2, by simp [n2, n3], gIx_l _ 1⟩
  have lf : ∀ W, lcRun [6] (aName 6) (bOf (e2 gNe (eVar 6) (eVar 4))) (eVar 6) [.pu (.list (ds.map en)), .pu (.list [en x, en y, en z]), .pu W, .pu (.str (nms (nmN d0))), .pu (en a), .un, .un] [en x, en y, en z] = some (fl.map en) := fun W => by
    have := lc_map (vs := [6]) (a := aName 6) (ft := bOf (e2 gNe (eVar 6) (eVar 4))) (fe := eVar 6) (env := [.pu (.list (ds.map en)), .pu (.list [en x, en y, en z]), .pu W, .pu (.str (nms (nmN d0))), .pu (en a), .un, .un]) en (fun c => !decide (c = a)) en [x, y, z] fun c _ => ⟨[.pu (.list (ds.map en)), .pu (.list [en x, en y, en z]), .pu W, .pu (.str (nms (nmN d0))), .pu (en a), .un, .pu (en c)], rfl, by simp, fun _ => rfl⟩
    rw [q2] at this
    exact this
  have hw := words_ix d0 l0
  have b3 := bit_en d3 l3
  have b4 := bit_en d4 l4
  have hao := ao_ix d3 l3
  generalize nmN d0 = k at *
  have go := gIn_one k
  have gk := gIn_sk k
  have gt := nm_turns k
  have gb := nm_both k
  refine ⟨⟨k, a, if oneC k then a else b, if k = .both then decide (d3 = 0) else decide (d3 = 1), decide (d4 = 1)⟩, ?_, ha, ?_, fun h => ?_, fun h => ?_⟩
  · unfold g__law_harm
    rw [runF_s]
    have z3 : (0 : Int) < 3 := by decide
    have z2 : (0 : Int) < 2 := by decide
    simp [d__law_harm, env0, i0, hw, i1, q1, lf, i2, q3]
    have g01 : ∀ A B : D, gIx (.list [A, B]) (.int 1) = some B := fun A B => gIx_l [A, B] 1
    have g00 : ∀ A B : D, gIx (.list [A, B]) (.int 0) = some A := fun A B => gIx_l [A, B] 0
    rw [b3] at i3 hao
    rw [b4] at i4
    cases k <;> simp [oneC] at go gk gt gb <;> simp [go, gk, gt, gb, i3, i4, hao, gInt_b, g01, g00, eh, tl, oneC] <;> rfl
  · show (if oneC k then a else b) ∈ _
    split
    · exact ha
    · exact hb
  · show (if oneC k then a else b) = a
    rw [if_pos h]
  · show a ≠ (if oneC k then a else b)
    rw [show oneC k = false from h]
    exact hab
end Tm

namespace Tm
open PySem
def free9 (some9 : List Nat) : List Nat := (List.range 9).filter fun c => !some9.contains c
theorem free_pos {s : List Nat} (h : s.length ≤ 2) : 0 < (free9 s).length := by
  apply Nat.pos_of_ne_zero
  intro h0
  have h0 : free9 s = [] := List.length_eq_zero_iff.mp h0
  have := nd_len (List.range 9) s List.nodup_range fun c hc => by
    cases hm : s.contains c with
    | true => exact List.contains_iff_mem.mp hm
    | false =>
      have : c ∈ free9 s := List.mem_filter.mpr ⟨hc, by rw [hm]; rfl⟩
      rw [h0] at this
      cases this
  rw [List.length_range] at this
  omega
/-- harms as the law draws them, over three cells of nine -/
structure Drawn (hs : List Hm) (S : List Nat) : Prop where
  lo : 1 ≤ hs.length
  hi : hs.length ≤ 3
  ok : ∀ h ∈ hs, h.a ∈ S ∧ h.b ∈ S ∧ (oneC h.k = true → h.b = h.a) ∧ (oneC h.k = false → h.a ≠ h.b)
  few : S.length ≤ 3
  lt : ∀ c ∈ S, c < 9
theorem list3 {s : List Nat} (h : s.length = 3) : ∃ x y z, s = [x, y, z] := by
  match s, h with
  | [x, y, z], _ => exact ⟨x, y, z, rfl⟩
theorem L_law_harms (z : Int) : ∃ hs S, g__law_harms [.int z, .int 1, .int 9, .int 3] = some (eH hs) ∧ Drawn hs S := by
  let sizes : List Nat := [3, 9, 9, 9, 10, 6, 6, 2, 2, 10, 6, 6, 2, 2, 10, 6, 6, 2, 2]
  obtain ⟨ds, hd, dg⟩ := L_digits z 1 (by decide) sizes (by decide) (by decide)
  have hrep : gMul (.list [.int 10, .int 6, .int 6, .int 2, .int 2]) (.int 3) = some (.list [.int 10, .int 6, .int 6, .int 2, .int 2, .int 10, .int 6, .int 6, .int 2, .int 2, .int 10, .int 6, .int 6, .int 2, .int 2]) := by with_unfolding_all rfl
  have hdig : g__law_digits [.int z, .int 1, .list [.int 3, .int 9, .int 9, .int 9, .int 10, .int 6, .int 6, .int 2, .int 2, .int 10, .int 6, .int 6, .int 2, .int 2, .int 10, .int 6, .int 6, .int 2, .int 2]] = some (.list (ds.map en)) := hd
  have hdl : ds.length = 19 := dg.1
  obtain ⟨d0, g0, l0⟩ := dg.get (i := 0) (s := 3) rfl
  obtain ⟨d1, g1, l1⟩ := dg.get (i := 1) (s := 9) rfl
  have ix : ∀ (i d : Nat), ds[i]? = some d → gIx (.list (ds.map en)) (.int (i : Int)) = some (en d) := fun i d h => by
    rw [gIx_l, List.getElem?_map, h]
    rfl
  have i0 : gIx (.list (ds.map en)) (.int 0) = some (en d0) := ix 0 d0 g0
  have i1 : gIx (.list (ds.map en)) (.int 1) = some (en d1) := ix 1 d1 g1
  have u9 : upto 9 = (List.range 9).map en := rfl
  have u2 : upto 2 = [0, 1].map en := rfl
  obtain ⟨e1, q, s, x6, x7, k6, k7, hx, sl, snd, slt⟩ := for_foldI en (fun i env => ∃ (s : List Nat) (x6 x7 : SD), nm x6 = true ∧ nm x7 = true ∧ env = [.pu (.int z), .pu (.int 1), .pu (.int 9), .pu (.int 3), .pu (.list (ds.map en)), .pu (.list (s.map en)), x6, x7, .un] ∧ s.length = i + 1 ∧ s.Nodup ∧ ∀ c ∈ s, c < 9) (a := aName 6) (F := b__law_harms_1) [0, 1]
    (fun i k env hi ⟨s, x6, x7, k6, k7, hx, sl, snd, slt⟩ => by
      subst hx
      have hk : k = i ∧ i < 2 := by
        match i, hi with
        | 0, hi => simp at hi; omega
        | 1, hi => simp at hi; omega
        | i + 2, hi => simp at hi
      obtain ⟨rfl, hi2⟩ := hk
      have hfp := free_pos (s := s) (by omega)
      have hfl : (free9 s).length ≤ 9 := Nat.le_trans (List.length_filter_le _ _) (by simp)
      obtain ⟨d, gd⟩ : ∃ d, ds[2 + k]? = some d := ⟨ds[2 + k]'(by omega), List.getElem?_eq_getElem (by omega)⟩
      have id := ix (2 + k) d gd
      have cidx : ((2 : Int) + (k : Int)) = ((2 + k : Nat) : Int) := by omega
      have hj : d % (free9 s).length < (free9 s).length := Nat.mod_lt _ hfp
      have l1 : lcRun [8] (aName 8) (bOf (e2 gNin (eVar 8) (eVar 5))) (eVar 8) [.pu (.int z), .pu (.int 1), .pu (.int 9), .pu (.int 3), .pu (.list (ds.map en)), .pu (.list (s.map en)), .pu (en k), x7, .un] ((List.range 9).map en) = some ((free9 s).map en) :=
        lc_map en (fun c => !s.contains c) en (List.range 9) fun c _ => ⟨[.pu (.int z), .pu (.int 1), .pu (.int 9), .pu (.int 3), .pu (.list (ds.map en)), .pu (.list (s.map en)), .pu (en k), x7, .pu (en c)], rfl, by simp [gNin_en], fun _ => rfl⟩
      have mx : gMax [.int 1, .int ((free9 s).length : Int)] = some (.int ((free9 s).length : Int)) := by
        show some (PyData.int (if ((free9 s).length : Int) > 1 then ((free9 s).length : Int) else 1)) = _
        congr 2
        split <;> omega
      have md : ((d : Int) % ((free9 s).length : Int)) = ((d % (free9 s).length : Nat) : Int) := by omega
      have hcut : cutD (cutD ((free9 s).map en) (some (((d % (free9 s).length : Nat) : Int))) none) none (some 1) = [en ((free9 s)[d % (free9 s).length])] := by
        rw [cut_lo]
        show cutD _ none (some ((1 : Nat) : Int)) = _
        rw [cut_hi, ← List.map_drop, ← List.map_take, List.drop_eq_getElem_cons hj]
        rfl
      have hmem : (free9 s)[d % (free9 s).length] ∈ free9 s := List.getElem_mem hj
      obtain ⟨hr, hns⟩ := List.mem_filter.mp hmem
      have hns' : (free9 s)[d % (free9 s).length] ∉ s := fun h => by
        simp [h] at hns
      have sz : szOk (s.length + 1) = true := szOk_le (by omega)
      refine ⟨_, [.pu (.int z), .pu (.int 1), .pu (.int 9), .pu (.int 3), .pu (.list (ds.map en)), .pu (.list ((s ++ [(free9 s)[d % (free9 s).length]]).map en)), .pu (en k), .pu (.list ((free9 s).map en)), .un], rfl, ?_, s ++ [(free9 s)[d % (free9 s).length]], _, _, rfl, rfl, rfl, by simp [sl], ?_, fun c hc => ?_⟩
      · have hpos : (0 : Int) < ((free9 s).length : Int) := by omega
        have hsz9 : szOk (List.map en (List.range 9)).length = true := by decide
        have hlc : eLc [8] (iRange1 (aCons (eVar 2) aNil)) (aName 8) (bOf (e2 gNin (eVar 8) (eVar 5))) (eVar 8) [.pu (.int z), .pu (.int 1), .pu (.int 9), .pu (.int 3), .pu (.list (ds.map en)), .pu (.list (s.map en)), .pu (en k), x7, .un] = some (.list ((free9 s).map en)) := by
          rw [eLc_s]
          have hno : notOw [.pu (.int z), .pu (.int 1), .pu (.int 9), .pu (.int 3), .pu (.list (ds.map en)), .pu (.list (s.map en)), .pu (en k), x7, .un] [8] = true := rfl
          have hit : iRange1 (aCons (eVar 2) aNil) [.pu (.int z), .pu (.int 1), .pu (.int 9), .pu (.int 3), .pu (.list (ds.map en)), .pu (.list (s.map en)), .pu (en k), x7, .un] = some ((List.range 9).map en) := by
            simp [u9]
          rw [hno, hit, if_pos rfl]
          simp only [hsz9, if_true, l1]
        simp only [b__law_harms_1, cSeq_s, cAsg_s, hlc, aName_s, List.set_cons_succ, List.set_cons_zero]
        have id' : gIx (.list (ds.map en)) (.int (2 + (k : Int))) = some (en d) := by
          rw [cidx]
          exact id
        have hcut' : cutD (cutD ((free9 s).map en) (some ((d : Int) % ((free9 s).length : Int))) none) none (some 1) = [en ((free9 s)[d % (free9 s).length])] := by
          rw [md]
          exact hcut
        clear hcut md cidx id
        simp [id', mx, hcut', hpos, hfp, sz]
      · rw [List.nodup_append]
        refine ⟨snd, by simp, fun a ha b hb e => ?_⟩
        simp at hb
        rw [e, hb] at ha
        exact hns' ha
      · rcases List.mem_append.mp hc with hc | hc
        · exact slt c hc
        · simp at hc
          rw [hc]
          exact List.mem_range.mp hr) 0 [.pu (.int z), .pu (.int 1), .pu (.int 9), .pu (.int 3), .pu (.list (ds.map en)), .pu (.list [en d1]), .un, .un, .un] (Nat.zero_le _) ⟨[d1], .un, .un, rfl, rfl, rfl, rfl, by simp, fun c hc => by simp at hc; omega⟩
  subst hx
  obtain ⟨x, y, w, rfl⟩ := list3 sl
  -- the harms
  have slice : ∀ k : Nat, k < 1 + d0 → ∃ h, g__law_harm [.list (cutD (ds.map en) (some (4 + 5 * (k : Int))) (some (9 + 5 * (k : Int)))), .list [en x, en y, en w]] = some (eh h) ∧ h.a ∈ [x, y, w] ∧ h.b ∈ [x, y, w] ∧ (oneC h.k = true → h.b = h.a) ∧ (oneC h.k = false → h.a ≠ h.b) := fun k hk => by
    have hc : cutD (ds.map en) (some (4 + 5 * (k : Int))) (some (9 + 5 * (k : Int))) = (((ds.drop (4 + 5 * k)).take 5)).map en := by
      have := cut_both (ds.map en) (4 + 5 * k) (9 + 5 * k)
      rw [show ((4 + 5 * k : Nat) : Int) = 4 + 5 * (k : Int) by omega, show ((9 + 5 * k : Nat) : Int) = 9 + 5 * (k : Int) by omega, show 9 + 5 * k - (4 + 5 * k) = 5 by omega] at this
      rw [this, ← List.map_drop, ← List.map_take]
    rw [hc]
    refine L_law_harm _ ⟨?_, fun i d s h1 h2 => ?_⟩ x y w snd
    · rw [List.length_take, List.length_drop, hdl]
      simp
      omega
    · have hi5 : i < 5 := (List.getElem?_eq_some_iff.mp h2).1
      rw [List.getElem?_take_of_lt hi5, List.getElem?_drop] at h1
      refine dg.2 (4 + 5 * k + i) d s h1 ?_
      have hk3 : k = 0 ∨ k = 1 ∨ k = 2 := by omega
      rw [← h2]
      match i, hi5 with
      | 0, _ => rcases hk3 with rfl | rfl | rfl <;> rfl
      | 1, _ => rcases hk3 with rfl | rfl | rfl <;> rfl
      | 2, _ => rcases hk3 with rfl | rfl | rfl <;> rfl
      | 3, _ => rcases hk3 with rfl | rfl | rfl <;> rfl
      | 4, _ => rcases hk3 with rfl | rfl | rfl <;> rfl
  let f : Nat → Hm := fun k => if h : k < 1 + d0 then Classical.choose (slice k h) else ⟨.stuck, 0, 0, false, false⟩
  have hf : ∀ k : Nat, k < 1 + d0 → g__law_harm [.list (cutD (ds.map en) (some (4 + 5 * (k : Int))) (some (9 + 5 * (k : Int)))), .list [en x, en y, en w]] = some (eh (f k)) ∧ (f k).a ∈ [x, y, w] ∧ (f k).b ∈ [x, y, w] ∧ (oneC (f k).k = true → (f k).b = (f k).a) ∧ (oneC (f k).k = false → (f k).a ≠ (f k).b) := fun k h => by
    have := Classical.choose_spec (slice k h)
    simp only [f, dif_pos h]
    exact this
  refine ⟨(List.range (1 + d0)).map f, [x, y, w], ?_, by simp, by simp; omega, fun h hm => ?_, by simp, slt⟩
  · have l1 : ∀ X6 X7 : SD, lcRun [6] (aName 6) (fun _ => some true) (eA (gN 2 g__law_harm) (aCons (eSl gSl (eVar 4) (oS (e2 gAdd (eC (.int 4)) (e2 gMul (eC (.int 5)) (eVar 6)))) (oS (e2 gAdd (eC (.int 9)) (e2 gMul (eC (.int 5)) (eVar 6))))) (aCons (eVar 5) aNil))) [.pu (.int z), .pu (.int 1), .pu (.int 9), .pu (.int 3), .pu (.list (ds.map en)), .pu (.list [en x, en y, en w]), X6, X7, .un] ((List.range (1 + d0)).map en) = some (((List.range (1 + d0)).filter fun _ => true).map fun k => eh (f k)) := fun X6 X7 =>
      lc_map en (fun _ => true) (fun k => eh (f k)) _ fun k mk => ⟨[.pu (.int z), .pu (.int 1), .pu (.int 9), .pu (.int 3), .pu (.list (ds.map en)), .pu (.list [en x, en y, en w]), .pu (en k), X7, .un], rfl, rfl, fun _ => by
        have hk := (hf k (List.mem_range.mp mk)).1
        have hm := gMul_ii 5 (k : Int) (by decide)
        simp [hm, hk]⟩
    simp only [filt_true] at l1
    have hu : upto (1 + d0) = (List.range (1 + d0)).map en := rfl
    have hb : (0 : Int) ≤ 1 + (d0 : Int) ∧ 1 + (d0 : Int) ≤ 100000 := ⟨by omega, by omega⟩
    have htn : (1 + (d0 : Int)).toNat = 1 + d0 := by omega
    have hsz : szOk (1 + d0) = true := szOk_le (by omega)
    have q' : forRun (aName 6) b__law_harms_1 (upto 2) [.pu (.int z), .pu (.int 1), .pu (.int 9), .pu (.int 3), .pu (.list (ds.map en)), .pu (.list [en d1]), .un, .un, .un] = some (.next [.pu (.int z), .pu (.int 1), .pu (.int 9), .pu (.int 3), .pu (.list (ds.map en)), .pu (.list [en x, en y, en w]), x6, x7, .un]) := q
    have hno : isOw (proD x6) = false := by cases x6 <;> first | rfl | (cases k6; done)
    unfold g__law_harms
    rw [runF_s]
    simp only [d__law_harms, env0, cSeq_s, cAsg_s, cFor_s, cPro_s, cRet_s]
    simp [hrep, hdig, i1]
    rw [q']
    simp [k6, k7, i0, hb, htn, hu, hsz, hno, l1]
    simp [eH]
  · obtain ⟨k, hk, rfl⟩ := List.mem_map.mp hm
    exact (hf k (List.mem_range.mp hk)).2
end Tm

namespace Tm
open PySem
theorem MOk.mir {n : Nat} {hs : List Hm} {S : List Nat} (m : MOk n hs S) (Y : Sy n) : MOk n (hs.map (mh Y)) (S.map Y.f) := by
  have hi := m.hi
  have lt : ∀ h ∈ hs.map (mh Y), HOk n h := fun h hm => by
    obtain ⟨g, hg, rfl⟩ := List.mem_map.mp hm
    have o := m.lt g hg
    exact ⟨Y.flt _ o.1, Y.flt _ o.2⟩
  refine ⟨⟨by rw [List.length_map]; exact m.hsk.len, fun h hm => ?_, by rw [List.length_map]; exact m.hsk.few, fun h hm => ?_⟩, m.lo, m.hi, lt⟩
  · have l := lt h hm
    obtain ⟨g, hg, rfl⟩ := List.mem_map.mp hm
    have o := m.lt g hg
    refine ⟨by have := l.1; omega, by have := l.2; omega, fun q e => (m.hsk.ok g hg).2.2 q (Y.inj _ _ o.1 o.2 e)⟩
  · obtain ⟨g, hg, rfl⟩ := List.mem_map.mp hm
    have s := m.hsk.sub g hg
    exact ⟨List.mem_map.mpr ⟨_, s.1, rfl⟩, List.mem_map.mpr ⟨_, s.2, rfl⟩⟩
theorem TOk.map {t : List El} (ht : TOk t) (g : El → El) (hg : ∀ e, (g e).2.length = e.2.length) : TOk (t.map g) :=
  ⟨by rw [List.length_map]; exact ht.1, by rw [List.length_map]; exact ht.2.1, fun e me => by
    obtain ⟨e', h, rfl⟩ := List.mem_map.mp me
    rw [hg]
    exact ht.2.2 e' h⟩
theorem bitsE_len (e : El) : (bitsE e).2.length = e.2.length := by simp [bitsE]
theorem OOk.ends {t : List El} {ords : List Bool} (o : OOk t ords) : OOk (t.map endsE) (ords.map (!·)) :=
  ⟨by simp [o.len], fun p mp => by
    rw [List.zip_map] at mp
    obtain ⟨q, hq, rfl⟩ := List.mem_map.mp mp
    rcases o.fit q hq with h | h
    · left
      show endsO q.2.1 = .any
      rw [h]
      rfl
    · right
      show endsO q.2.1 = odOf (!q.1)
      rw [h]
      cases q.1 <;> rfl⟩
theorem OOk.bits {t : List El} {ords : List Bool} (o : OOk t ords) : OOk (t.map bitsE) ords :=
  ⟨by simp [o.len], fun p mp => by
    have : ords.zip (t.map bitsE) = (ords.zip t).map fun q => (q.1, bitsE q.2) := by
      rw [List.zip_map_right]
      rfl
    rw [this] at mp
    obtain ⟨q, hq, rfl⟩ := List.mem_map.mp mp
    exact o.fit q hq⟩
theorem reads_lt {hs : List Hm} {n : Nat} {t : List El} {ords : List Bool} {ct : List Bool} : ∀ r ∈ readsT hs n t ords ct, r.2.1 < n := by
  refine fold_inv (fun s : RS2 => ∀ r ∈ s.2, r.2.1 < n) (elR hs n ords) (t.zipIdx 0) (ct, []) (fun r m => by cases m) fun s p mp h => ?_
  refine fold_inv (fun s : RS2 => ∀ r ∈ s.2, r.2.1 < n) (addrR hs p.2 p.1.2) _ s h fun s addr ma h => ?_
  refine fold_inv (fun s : RS2 => ∀ r ∈ s.2, r.2.1 < n) (stepR hs p.2 addr) _ s h fun s st ms h => ?_
  intro r mr
  unfold stepR at mr
  simp only at mr
  split at mr
  · rcases List.mem_append.mp mr with mr | mr
    · exact h r mr
    · simp at mr
      subst mr
      exact inOrd_lt addr ma
  · exact h r mr
theorem reads_len {hs : List Hm} {n : Nat} {t : List El} {ords : List Bool} {ct : List Bool} : True := trivial
theorem first_mem {t : List El} : ∀ {l : List Rd4} {s : Sh3}, firstT t l = some s → ∃ r ∈ l, s = (r.1, r.2.1, r.2.2.1)
  | [], s, h => by cases h
  | r :: l, s, h => by
    have h' : (if r.2.2.2 = wantB t r then firstT t l else some (r.1, r.2.1, r.2.2.1)) = some s := h
    split at h'
    · obtain ⟨q, hq, e⟩ := first_mem h'
      exact ⟨q, by simp [hq], e⟩
    · cases h'
      exact ⟨r, by simp, rfl⟩
theorem sh_er (r : Rd4) : Sh 2 (er r) := sh_tup fun x m => by
  simp at m
  rcases m with rfl | rfl | rfl | rfl
  · exact sh_int _
  · exact sh_int _
  · exact sh_int _
  · exact sh_eb _
theorem sh_ers (l : List Rd4) : Sh 3 (.list (l.map er)) := sh_list fun x m => by
  obtain ⟨r, _, rfl⟩ := List.mem_map.mp m
  exact sh_er r
theorem eqv_er (r : Rd4) : PyData.eqv (er r) (er r) = true := by
  show (((r.1 : Int) == (r.1 : Int)) && (((r.2.1 : Int) == (r.2.1 : Int)) && (((r.2.2.1 : Int) == (r.2.2.1 : Int)) && (PyData.eqv (eb r.2.2.2) (eb r.2.2.2) && true)))) = true
  rw [eqv_eb]
  simp
theorem eqv_ers : ∀ l : List Rd4, PyData.eqvAll (l.map er) (l.map er) = true
  | [] => rfl
  | r :: l => by
    show (PyData.eqv (er r) (er r) && PyData.eqvAll (l.map er) (l.map er)) = true
    rw [eqv_er, eqv_ers l]
    rfl
theorem gNe_ers (l : List Rd4) : gNe (.list (l.map er)) (.list (l.map er)) = some (.bool false) := by
  rw [gNe_sh ((sh_ers l).mono (by decide)) ((sh_ers l).mono (by decide))]
  show some (PyData.bool (!PyData.eqvAll (l.map er) (l.map er))) = _
  rw [eqv_ers]
  rfl
theorem sh_eSh (o : Option Sh3) : Sh 2 (eo eSh o) := by
  cases o with
  | none => exact sh_none.mono (by decide)
  | some s =>
    refine sh_tup fun x m => ?_
    simp at m
    rcases m with rfl | rfl | rfl <;> exact sh_int _
theorem eqv_eSh (o : Option Sh3) : PyData.eqv (eo eSh o) (eo eSh o) = true := by
  cases o with
  | none => rfl
  | some s =>
    show (((s.1 : Int) == (s.1 : Int)) && (((s.2.1 : Int) == (s.2.1 : Int)) && (((s.2.2 : Int) == (s.2.2 : Int)) && true))) = true
    simp
theorem gNe_eSh (o : Option Sh3) : gNe (eo eSh o) (eo eSh o) = some (.bool false) := by
  rw [gNe_sh ((sh_eSh o).mono (by decide)) ((sh_eSh o).mono (by decide)), eqv_eSh]
  rfl
theorem gEq_eSh (o : Option Sh3) : gEq (eo eSh o) (eo eSh o) = some (.bool true) := by
  rw [gEq_sh ((sh_eSh o).mono (by decide)) ((sh_eSh o).mono (by decide)), eqv_eSh]
theorem back_ix (b : Bool) : gIx (.dict [(.str "up", .str "down"), (.str "down", .str "up")]) (eor b) = some (eor (!b)) := by
  cases b with
  | true =>
    show lookD [(.str "up", .str "down"), (.str "down", .str "up")] (.str "up") = _
    unfold lookD
    simp [s_uu]
    rfl
  | false =>
    show lookD [(.str "up", .str "down"), (.str "down", .str "up")] (.str "down") = _
    unfold lookD
    simp [s_ud, s_dd]
    rfl
theorem rev_bits (ct : List Bool) : gRev (.list (ct.map eb)) = some (.list (ct.reverse.map eb)) := by
  show some (PyData.list (ct.map eb).reverse) = _
  rw [List.map_reverse]
/-- the number of reads, for the size line -/
theorem readsT_len {hs : List Hm} {n : Nat} {t : List El} (ht : TOk t) (hn : n ≤ 64) {ords : List Bool} {ct : List Bool} : (readsT hs n t ords ct).length ≤ 100000 := by
  have h1 : ∀ (num addr : Nat) (l : List ((Bool × Bool) × Nat)) (s : RS2), (l.foldl (stepR hs num addr) s).2.length ≤ s.2.length + l.length := fun num addr l => by
    induction l with
    | nil => intro s; simp
    | cons x l ih =>
      intro s
      rw [List.foldl_cons, List.length_cons]
      refine Nat.le_trans (ih _) ?_
      have : (stepR hs num addr s x).2.length ≤ s.2.length + 1 := by
        unfold stepR
        simp only
        split <;> simp
      omega
  have h2 : ∀ (num : Nat) (steps : List (Bool × Bool)) (l : List Nat) (s : RS2), steps.length ≤ 6 → (l.foldl (addrR hs num steps) s).2.length ≤ s.2.length + 6 * l.length := fun num steps l => by
    induction l with
    | nil => intro s _; simp
    | cons x l ih =>
      intro s hs6
      rw [List.foldl_cons, List.length_cons]
      refine Nat.le_trans (ih _ hs6) ?_
      have := h1 num x (steps.zipIdx 0) s
      rw [List.length_zipIdx] at this
      have e : (addrR hs num steps s x).2.length ≤ s.2.length + 6 := Nat.le_trans this (by omega)
      omega
  have h3 : ∀ (l : List (El × Nat)) (s : RS2), (∀ p ∈ l, p.1.2.length ≤ 6) → (l.foldl (elR hs n ords) s).2.length ≤ s.2.length + 384 * l.length := fun l => by
    induction l with
    | nil => intro s _; simp
    | cons x l ih =>
      intro s hl
      rw [List.foldl_cons, List.length_cons]
      refine Nat.le_trans (ih _ fun p m => hl p (by simp [m])) ?_
      have e := h2 x.2 x.1.2 (inOrd n (ords.getD x.2 true)) s (hl x (by simp))
      rw [inOrd_len] at e
      have e' : (elR hs n ords s x).2.length ≤ s.2.length + 6 * n := e
      omega
  have := h3 (t.zipIdx 0) (ct, []) fun p mp => by
    have hp : p.1 ∈ t := by
      rw [(List.mem_zipIdx' mp).2]
      exact List.getElem_mem _
    exact (ht.2.2 p.1 hp).2
  rw [List.length_zipIdx] at this
  have h8 := ht.2.1
  have e : (readsT hs n t ords ct).length ≤ 0 + 384 * t.length := this
  omega
end Tm

namespace Tm
open PySem
theorem er0 (r : Rd4) : gIx (er r) (.int 0) = some (en r.1) := gIx_t0 _ _
theorem er1 (r : Rd4) : gIx (er r) (.int 1) = some (en r.2.1) := gIx_t1 _ _ _
theorem er2 (r : Rd4) : gIx (er r) (.int 2) = some (en r.2.2.1) := gIx_t2 _ _ _ _
theorem er3 (r : Rd4) : gIx (er r) (.int 3) = some (eb r.2.2.2) := gIx_t3 _ _ _ _ _
theorem eSh0 (r : Sh3) : gIx (eSh r) (.int 0) = some (en r.1) := gIx_t0 _ _
theorem eSh1 (r : Sh3) : gIx (eSh r) (.int 1) = some (en r.2.1) := gIx_t1 _ _ _
theorem eSh2 (r : Sh3) : gIx (eSh r) (.int 2) = some (en r.2.2) := gIx_t2 _ _ _ _
theorem L_runs {n : Nat} {hs : List Hm} {S : List Nat} (m : MOk n hs S) (t : List El) (ht : TOk t) (ords : List Bool) (ho : OOk t ords) (ct : List Bool) (hct : ct.length = n) :
    g__law_runs_alike [et t, eH hs, en n, .list (ct.map eb), .list (ords.map eor)] = some (.bool true) := by
  have hn1 := m.lo
  have hn64 := m.hi
  have ok := m.lt
  have ht8 := ht.2.1
  have hol := ho.len
  have hhl := m.hsk.len
  -- the mirror
  have mr := m.mir (revS n)
  have mb := m.mir (notS n)
  have te := ht.map endsE (fun e => rfl)
  have tb := ht.map bitsE bitsE_len
  let R := readsOf t n hs ct ords
  let F := shownOf t n hs ct ords
  have hordR : ∀ i, i < t.length → inOrd n ((ords.map (!·)).getD i true) = (inOrd n (ords.getD i true)).map (revS n).f := fun i hi => by
    have hio : i < ords.length := by omega
    rw [List.getD_eq_getElem?_getD, List.getD_eq_getElem?_getD, List.getElem?_map, List.getElem?_eq_getElem hio]
    exact inOrd_rev n ords[i]
  have hordB : ∀ i, i < t.length → inOrd n (ords.getD i true) = (inOrd n (ords.getD i true)).map (notS n).f := fun i _ => inOrd_not n _
  have rR : readsOf (t.map endsE) n (hs.map (mh (revS n))) ct.reverse (ords.map (!·)) = R.map (mu (revS n)) := readsOf_eq (S := revS n) ok (endsE_2 n) hordR hct
  have rB : readsOf (t.map bitsE) n (hs.map (mh (notS n))) (ct.map (!·)) ords = R.map (mu (notS n)) := readsOf_eq (S := notS n) ok (bitsE_2 n) hordB hct
  have fR : shownOf (t.map endsE) n (hs.map (mh (revS n))) ct.reverse (ords.map (!·)) = F.map (mS (revS n)) := shown_eq (S := revS n) ok (endsE_2 n) hordR hct
  have fB : shownOf (t.map bitsE) n (hs.map (mh (notS n))) (ct.map (!·)) ords = F.map (mS (notS n)) := shown_eq (S := notS n) ok (bitsE_2 n) hordB hct
  have fBid : F.map (mS (notS n)) = F := by
    cases F <;> rfl
  have Rlt : ∀ r ∈ R, r.2.1 < n := reads_lt
  have Rlen : R.length ≤ 100000 := readsT_len ht hn64
  -- the calls
  have c1 : g_reads_of [et t, en n, eH hs, .list (ct.map eb), .list (ords.map eor)] = some (.list (R.map er)) := L_reads_of m t ht ords ho ct hct
  have c2 : g__law_cells_turned [eH hs, en (n - 1)] = some (eH (hs.map (mh (revS n)))) := by
    have := L_cells_turned hs (n - 1) (by omega) fun h hm => by
      have := ok h hm
      unfold HOk at this
      omega
    rw [show n - 1 + 1 = n by omega] at this
    exact this
  have c3 : g__law_ends [et t] = some (et (t.map endsE)) := L_ends t ht8
  have c4 : g_reads_of [et (t.map endsE), en n, eH (hs.map (mh (revS n))), .list (ct.reverse.map eb), .list ((ords.map (!·)).map eor)] = some (.list ((R.map (mu (revS n))).map er)) := by
    rw [← rR]
    exact L_reads_of mr (t.map endsE) te _ ho.ends _ (by rw [List.length_reverse, hct])
  have c5 : g__law_bits [et t] = some (et (t.map bitsE)) := L_bits t ht
  have c6 : g__law_bits_turned [eH hs] = some (eH (hs.map (mh (notS n)))) := L_bits_turned n hs (by omega)
  have c7 : g_reads_of [et (t.map bitsE), en n, eH (hs.map (mh (notS n))), .list ((ct.map (!·)).map eb), .list (ords.map eor)] = some (.list ((R.map (mu (notS n))).map er)) := by
    rw [← rB]
    exact L_reads_of mb (t.map bitsE) tb _ ho.bits _ (by rw [List.length_map, hct])
  have c8 : g_first_shown [et t, en n, eH hs, .list (ct.map eb), .list (ords.map eor)] = some (eo eSh F) := L_first_shown m t ht ords ho ct hct
  have c9 : g_first_shown [et (t.map endsE), en n, eH (hs.map (mh (revS n))), .list (ct.reverse.map eb), .list ((ords.map (!·)).map eor)] = some (eo eSh (F.map (mS (revS n)))) := by
    rw [← fR]
    exact L_first_shown mr (t.map endsE) te _ ho.ends _ (by rw [List.length_reverse, hct])
  have c10 : g_first_shown [et (t.map bitsE), en n, eH (hs.map (mh (notS n))), .list ((ct.map (!·)).map eb), .list (ords.map eor)] = some (eo eSh F) := by
    have := L_first_shown mb (t.map bitsE) tb ords ho.bits (ct.map (!·)) (by rw [List.length_map, hct])
    rw [fB, fBid] at this
    exact this
  have hsub : gSub (en n) (.int 1) = some (en (n - 1)) := by
    rw [gSub_ii]
    congr 2
    omega
  have hso : szOk ords.length = true := szOk_le (by omega)
  have hsc : szOk ct.length = true := szOk_le (by omega)
  have hsR : szOk R.length = true := szOk_le Rlen
  -- what is compared
  have lb : ∀ (A5 A6 A7 A8 A9 A10 A11 A12 : SD), lcRun [13] (aName 13) (fun _ => some true) (e2 gSub (eC (.int 1)) (eVar 13)) [.pu (et t), .pu (eH hs), .pu (en n), .pu (.list (ct.map eb)), .pu (.list (ords.map eor)), A5, A6, A7, A8, A9, A10, A11, A12, .un] (ct.map eb) = some ((ct.map (!·)).map eb) := fun A5 A6 A7 A8 A9 A10 A11 A12 => by
    have := lc_map (vs := [13]) (a := aName 13) (ft := fun _ => some true) (fe := e2 gSub (eC (.int 1)) (eVar 13)) (env := [.pu (et t), .pu (eH hs), .pu (en n), .pu (.list (ct.map eb)), .pu (.list (ords.map eor)), A5, A6, A7, A8, A9, A10, A11, A12, .un]) eb (fun _ => true) (fun b => eb (!b)) ct fun b _ => ⟨[.pu (et t), .pu (eH hs), .pu (en n), .pu (.list (ct.map eb)), .pu (.list (ords.map eor)), A5, A6, A7, A8, A9, A10, A11, A12, .pu (eb b)], rfl, rfl, fun _ => by simp⟩
    rw [filt_true] at this
    rw [this, List.map_map]
    rfl
  have lo : lcRun [11] (aName 11) (fun _ => some true) (e2 gIx (eC (.dict [(.str "up", .str "down"), (.str "down", .str "up")])) (eVar 11)) [.pu (et t), .pu (eH hs), .pu (en n), .pu (.list (ct.map eb)), .pu (.list (ords.map eor)), .pu (.list (R.map er)), .un, .un, .un, .un, .un, .un, .un, .un] (ords.map eor) = some ((ords.map (!·)).map eor) := by
    have := lc_map (vs := [11]) (a := aName 11) (ft := fun _ => some true) (fe := e2 gIx (eC (.dict [(.str "up", .str "down"), (.str "down", .str "up")])) (eVar 11)) (env := [.pu (et t), .pu (eH hs), .pu (en n), .pu (.list (ct.map eb)), .pu (.list (ords.map eor)), .pu (.list (R.map er)), .un, .un, .un, .un, .un, .un, .un, .un]) eor (fun _ => true) (fun b => eor (!b)) ords fun b _ => ⟨[.pu (et t), .pu (eH hs), .pu (en n), .pu (.list (ct.map eb)), .pu (.list (ords.map eor)), .pu (.list (R.map er)), .un, .un, .un, .un, .un, .pu (eor b), .un, .un], rfl, rfl, fun _ => by simp [back_ix]⟩
    rw [filt_true] at this
    rw [this, List.map_map]
    rfl
  have l8 : ∀ (A5 A6 A7 A8 : SD), lcRun [12] (aName 12) (fun _ => some true) (eA mkTup (aCons (e2 gIx (eVar 12) (eC (.int 0))) (aCons (e2 gSub (e2 gSub (eVar 2) (eC (.int 1))) (e2 gIx (eVar 12) (eC (.int 1)))) (aCons (e2 gIx (eVar 12) (eC (.int 2))) (aCons (e2 gIx (eVar 12) (eC (.int 3))) aNil))))) [.pu (et t), .pu (eH hs), .pu (en n), .pu (.list (ct.map eb)), .pu (.list (ords.map eor)), A5, A6, A7, A8, .un, .un, .un, .un, .un] ((R.map (mu (revS n))).map er) = some (R.map er) := fun A5 A6 A7 A8 => by
    rw [List.map_map]
    have := lc_map (vs := [12]) (a := aName 12) (ft := fun _ => some true) (fe := (eA mkTup (aCons (e2 gIx (eVar 12) (eC (.int 0))) (aCons (e2 gSub (e2 gSub (eVar 2) (eC (.int 1))) (e2 gIx (eVar 12) (eC (.int 1)))) (aCons (e2 gIx (eVar 12) (eC (.int 2))) (aCons (e2 gIx (eVar 12) (eC (.int 3))) aNil)))))) (env := [.pu (et t), .pu (eH hs), .pu (en n), .pu (.list (ct.map eb)), .pu (.list (ords.map eor)), A5, A6, A7, A8, .un, .un, .un, .un, .un]) (er ∘ mu (revS n)) (fun _ => true) er R fun r hr => ⟨[.pu (et t), .pu (eH hs), .pu (en n), .pu (.list (ct.map eb)), .pu (.list (ords.map eor)), A5, A6, A7, A8, .un, .un, .un, .pu (er (mu (revS n) r)), .un], rfl, rfl, fun _ => by
      have hlt := Rlt r hr
      have e1 : (mu (revS n) r).2.1 = n - 1 - r.2.1 := rfl
      have e2' : gSub (en (n - 1)) (en (mu (revS n) r).2.1) = some (en r.2.1) := by
        rw [e1, gSub_ii]
        congr 2
        omega
      have e3 : (mu (revS n) r).2.2.2 = r.2.2.2 := Bool.xor_false _
      simp only [eA_s, aCons_s, aNil_s, e2_s, eC_s, eVar_s, List.getElem?_cons_succ, List.getElem?_cons_zero, er0, er1, er2, er3, hsub, e2', e3]
      rfl⟩
    rw [filt_true] at this
    exact this
  have l9 : ∀ (A5 A6 A7 A8 A9 : SD), lcRun [12] (aName 12) (fun _ => some true) (e2 gAdd (eSl gSl (eVar 12) oN (oS (eC (.int 3)))) (eA mkTup (aCons (e2 gSub (eC (.int 1)) (e2 gIx (eVar 12) (eC (.int 3)))) aNil))) [.pu (et t), .pu (eH hs), .pu (en n), .pu (.list (ct.map eb)), .pu (.list (ords.map eor)), A5, A6, A7, A8, A9, .un, .un, .un, .un] ((R.map (mu (notS n))).map er) = some (R.map er) := fun A5 A6 A7 A8 A9 => by
    rw [List.map_map]
    have := lc_map (vs := [12]) (a := aName 12) (ft := fun _ => some true) (fe := (e2 gAdd (eSl gSl (eVar 12) oN (oS (eC (.int 3)))) (eA mkTup (aCons (e2 gSub (eC (.int 1)) (e2 gIx (eVar 12) (eC (.int 3)))) aNil)))) (env := [.pu (et t), .pu (eH hs), .pu (en n), .pu (.list (ct.map eb)), .pu (.list (ords.map eor)), A5, A6, A7, A8, A9, .un, .un, .un, .un]) (er ∘ mu (notS n)) (fun _ => true) er R fun r hr => ⟨[.pu (et t), .pu (eH hs), .pu (en n), .pu (.list (ct.map eb)), .pu (.list (ords.map eor)), A5, A6, A7, A8, A9, .un, .un, .pu (er (mu (notS n) r)), .un], rfl, rfl, fun _ => by
      have e3 : (!(mu (notS n) r).2.2.2) = r.2.2.2 := by
        show (!(r.2.2.2 ^^ true)) = _
        simp
      have e4 : gSl (er (mu (notS n) r)) none (some 3) = some (.tuple [en r.1, en r.2.1, en r.2.2.1]) := by
        show some (PyData.tuple (cutD _ none (some 3))) = _
        rw [cu_n3]
        rfl
      simp only [eA_s, aCons_s, aNil_s, e2_s, eC_s, eVar_s, eSl_s, oN_s, oS_s, List.getElem?_cons_succ, List.getElem?_cons_zero, er3, e4, gSub_1b, e3]
      rfl⟩
    rw [filt_true] at this
    exact this
  have n1 := gNe_ers R
  have n2 := gNe_eSh F
  have n3 := gEq_eSh F
  have hF : ∀ s, F = some s → gSub (en (n - 1)) (en ((mS (revS n) s).2.1)) = some (en s.2.1) := fun s hs' => by
    obtain ⟨r, hr, e⟩ := first_mem hs'
    have hlt := Rlt r hr
    rw [e]
    show gSub (en (n - 1)) (en (n - 1 - r.2.1)) = some (en r.2.1)
    rw [gSub_ii]
    congr 2
    omega
  unfold g__law_runs_alike
  rw [runF_s]
  simp [-List.map_map, -List.map_reverse, d__law_runs_alike, env0, c1, lo, hso, hsub, c2, c3, rev_bits, c4, hsR, l8, n1, c5, c6, hsc, lb, c7, l9, c8, c9]
  cases hFs : F with
  | none =>
    rw [hFs] at n2 n3 c10
    simp only [eo_none] at n2 n3 c10
    simp [-List.map_map, -List.map_reverse, n2, n3, c10, c5, c6, hsc, lb]
  | some s =>
    have hs1 := hF s hFs
    rw [hFs] at n2 n3 c10
    simp only [eo_some] at n2 n3 c10
    have i0 : gIx (eSh (mS (revS n) s)) (.int 0) = some (en s.1) := eSh0 _
    have i2 : gIx (eSh (mS (revS n) s)) (.int 2) = some (en s.2.2) := eSh2 _
    have i1 := eSh1 (mS (revS n) s)
    have nE : isNone (eSh (mS (revS n) s)) = false := rfl
    have es' : PyData.tuple [en s.1, en s.2.1, en s.2.2] = eSh s := rfl
    simp [-List.map_map, -List.map_reverse, nE, i0, i1, i2, hsub, hs1, es', n2, n3, c10, c5, c6, hsc, lb]
end Tm

namespace Tm
open PySem
/-! ### the drawn harms are taken -/
section
variable {hs : List Hm} {S : List Nat}
theorem Drawn.ne (d : Drawn hs S) : hs ≠ [] := by
  intro e
  have := d.lo
  rw [e] at this
  simp at this
theorem Drawn.lt9 (d : Drawn hs S) : ∀ h ∈ hs, HOk 9 h := fun h m => ⟨d.lt _ (d.ok h m).1, d.lt _ (d.ok h m).2.1⟩
theorem Drawn.hsOk (d : Drawn hs S) : HsOk hs S := ⟨d.hi, fun h m => by
  have := d.lt9 h m
  unfold HOk at this
  exact ⟨by omega, by omega, (d.ok h m).2.2.2⟩, d.few, fun h m => ⟨(d.ok h m).1, (d.ok h m).2.1⟩⟩
theorem Drawn.hnm (d : Drawn hs S) : HNm hs := fun h m => (d.ok h m).2.2.1
theorem Drawn.mir (d : Drawn hs S) (Y : Sy 9) : Drawn (hs.map (mh Y)) (S.map Y.f) := by
  refine ⟨by rw [List.length_map]; exact d.lo, by rw [List.length_map]; exact d.hi, fun h m => ?_, by rw [List.length_map]; exact d.few, fun c hc => ?_⟩
  · obtain ⟨g, hg, rfl⟩ := List.mem_map.mp m
    have l := d.lt9 g hg
    obtain ⟨a, b, c, e⟩ := d.ok g hg
    refine ⟨List.mem_map.mpr ⟨_, a, rfl⟩, List.mem_map.mpr ⟨_, b, rfl⟩, fun q => ?_, fun q z => e q (Y.inj _ _ l.1 l.2 z)⟩
    show Y.f g.b = Y.f g.a
    rw [c q]
  · obtain ⟨x, hx, rfl⟩ := List.mem_map.mp hc
    exact Y.flt _ (d.lt x hx)
end
theorem sureT_ends : ∀ {t : List El} {k : Option Bool}, SureT k t → SureT k (t.map endsE)
  | [], _, _ => trivial
  | e :: t, k, h => ⟨h.1, sureT_ends (t := t) h.2⟩
theorem sureL_not : ∀ {l : List (Bool × Bool)} {k : Option Bool}, SureL k l → SureL (k.map (!·)) (l.map (flipS true)) ∧ lastK (k.map (!·)) (l.map (flipS true)) = (lastK k l).map (!·)
  | [], _, _ => ⟨trivial, rfl⟩
  | s :: l, k, h => by
    have e : (flipS true s).2 = !s.2 := Bool.xor_true _
    obtain ⟨a, b⟩ := sureL_not (l := l) (k := some s.2) h.2
    refine ⟨⟨fun hr => ?_, ?_⟩, ?_⟩
    · rw [h.1 hr, e]
      rfl
    · rw [e]
      exact a
    · show lastK (some (flipS true s).2) _ = _
      rw [e]
      exact b
theorem sureT_bits : ∀ {t : List El} {k : Option Bool}, SureT k t → SureT (k.map (!·)) (t.map bitsE)
  | [], _, _ => trivial
  | e :: t, k, h => by
    obtain ⟨a, b⟩ := sureL_not h.1
    refine ⟨a, ?_⟩
    show SureT (lastK (k.map (!·)) (e.2.map (flipS true))) (t.map bitsE)
    rw [b]
    exact sureT_bits h.2
theorem told_ok : PyData.strOk "told" = true := by decide +kernel
theorem let_ok : PyData.strOk "let" = true := by decide +kernel
theorem gNe_word (hs : List Hm) (t : List El) : gNe (.str (word hs t)) (.str (word hs t)) = some (.bool false) := by
  have hok : PyData.strOk (word hs t) = true := by
    unfold word
    split
    · exact told_ok
    · exact let_ok
  rw [gNe_sh ((sh_str hok).mono (by decide)) ((sh_str hok).mono (by decide))]
  show some (PyData.bool (!(word hs t == word hs t))) = _
  simp
/-! ### the great harms -/
theorem lookup_zip {c : Nat} : ∀ (a b : List Nat), a.length = b.length → c ∈ a → ∃ (h : a.idxOf c < b.length), (a.zip b).lookup c = some (b[a.idxOf c])
  | [], _, _, h => by cases h
  | x :: a, [], hl, _ => by simp at hl
  | x :: a, y :: b, hl, h => by
    rw [List.zip_cons_cons, List.lookup_cons]
    by_cases e : c = x
    · subst e
      refine ⟨by simp, ?_⟩
      simp
    · have h1 : (c == x) = false := beq_eq_false_iff_ne.mpr e
      have h2 : (x == c) = false := beq_eq_false_iff_ne.mpr fun z => e z.symm
      obtain ⟨h3, h4⟩ := lookup_zip a b (by simpa using hl) ((List.mem_cons.mp h).resolve_left e)
      have h5 : (x :: a).idxOf c = a.idxOf c + 1 := by
        rw [List.idxOf_cons]
        simp [h2]
      refine ⟨by rw [h5]; simp; omega, ?_⟩
      simp only [h1, h4, h5]
      rfl
theorem great_ok {hs : List Hm} {S : List Nat} (d : Drawn hs S) (n : Nat) (hn : 1 ≤ n) (hn64 : n ≤ 64) (pl : List Nat) (hp : pl.length = (cellsN hs).length) (nd : pl.Nodup) (lt : ∀ c ∈ pl, c < n) :
    MOk n (hs.map (mapC fun c => (((cellsN hs).zip pl).lookup c).getD 0)) pl := by
  have hc := d.hsOk.cells
  have look : ∀ c ∈ cellsN hs, ∃ h : (cellsN hs).idxOf c < pl.length, (((cellsN hs).zip pl).lookup c).getD 0 = pl[(cellsN hs).idxOf c] := fun c hc => by
    obtain ⟨h, e⟩ := lookup_zip (cellsN hs) pl hp.symm hc
    exact ⟨h, by rw [e]; rfl⟩
  have mem : ∀ c ∈ cellsN hs, (((cellsN hs).zip pl).lookup c).getD 0 ∈ pl := fun c hc => by
    obtain ⟨h, e⟩ := look c hc
    rw [e]
    exact List.getElem_mem h
  have inj : ∀ a ∈ cellsN hs, ∀ b ∈ cellsN hs, (((cellsN hs).zip pl).lookup a).getD 0 = (((cellsN hs).zip pl).lookup b).getD 0 → a = b := fun a ha b hb e => by
    obtain ⟨h1, e1⟩ := look a ha
    obtain ⟨h2, e2⟩ := look b hb
    rw [e1, e2] at e
    have := (List.getElem_inj nd).mp e
    have ga := List.getElem_idxOf (List.idxOf_lt_length_of_mem ha)
    have gb := List.getElem_idxOf (List.idxOf_lt_length_of_mem hb)
    rw [← ga, ← gb]
    simp only [this]
  have ab : ∀ h ∈ hs, h.a ∈ cellsN hs ∧ h.b ∈ cellsN hs := fun h m => cin_ab d.hnm m
  refine ⟨⟨by rw [List.length_map]; exact d.hi, fun h m => ?_, by omega, fun h m => ?_⟩, hn, hn64, fun h m => ?_⟩
  · obtain ⟨g, hg, rfl⟩ := List.mem_map.mp m
    obtain ⟨ma, mb⟩ := ab g hg
    have la := lt _ (mem _ ma)
    have lb := lt _ (mem _ mb)
    refine ⟨?_, ?_, fun q e => (d.ok g hg).2.2.2 q (inj _ ma _ mb e)⟩
    · show (((cellsN hs).zip pl).lookup g.a).getD 0 ≤ 63
      omega
    · show (((cellsN hs).zip pl).lookup g.b).getD 0 ≤ 63
      omega
  · obtain ⟨g, hg, rfl⟩ := List.mem_map.mp m
    exact ⟨mem _ (ab g hg).1, mem _ (ab g hg).2⟩
  · obtain ⟨g, hg, rfl⟩ := List.mem_map.mp m
    exact ⟨lt _ (mem _ (ab g hg).1), lt _ (mem _ (ab g hg).2)⟩
end Tm

namespace Tm
open PySem
@[simp] theorem eSlSc_s (i : Nat) (l h : SE → Option (Option Int)) (env : SE) : eSlSc i l h env = (match env[i]? with
  | some (.sc ns) => (match l env with
    | some a => (match h env with
      | some b => some (.list (cutD (ns.map PyData.int) a b))
      | none => none)
    | none => none)
  | _ => none) := rfl
@[simp] theorem eLenSc_s (i : Nat) (env : SE) : eLenSc i env = (match env[i]? with
  | some (.sc ns) => some (.int ns.length)
  | _ => none) := rfl
theorem judged_0 (w : Str) (r : List D) : gIx (.tuple (.str w :: r)) (.int 0) = some (.str w) := gIx_t0 _ _
theorem bits_of (l : List Nat) (h : ∀ d ∈ l, d < 2) : l.map en = (l.map fun d => decide (d = 1)).map eb := by
  rw [List.map_map]
  apply List.map_congr_left
  intro d hd
  exact bit_en d (h d hd)
theorem one_round (ns : List Int) (a : Nat) (x2 x3 x4 x5 x6 x7 x8 x9 : SD) : ∃ y2 y3 y4 y5 y6 y7 y8 y9 : D, b_law_1 [.sc ns, .pu (en a), x2, x3, x4, x5, x6, x7, x8, x9] = some (.next [.sc ns, .pu (en a), .pu y2, .pu y3, .pu y4, .pu y5, .pu y6, .pu y7, .pu y8, .pu y9]) := by
  let cs : List Int := (ns.drop a).take 6
  have hcs : cs.length ≤ 6 := by
    show ((ns.drop a).take 6).length ≤ 6
    rw [List.length_take]
    omega
  have f1 : cutD (ns.map PyData.int) (some (a : Int)) (some ((a : Int) + 6)) = cs.map PyData.int := by
    have := cut_both (ns.map PyData.int) a (a + 6)
    rw [show ((a + 6 : Nat) : Int) = (a : Int) + 6 by omega, show a + 6 - a = 6 by omega] at this
    rw [this, ← List.map_drop, ← List.map_take]
  -- the test
  let k : Nat := max 1 (min 5 cs.length)
  let xs : List Int := ((cs.take 5) ++ [(a : Int)]).take k
  have hxl : 1 ≤ xs.length ∧ xs.length ≤ 5 := by
    show 1 ≤ (((cs.take 5) ++ [(a : Int)]).take k).length ∧ (((cs.take 5) ++ [(a : Int)]).take k).length ≤ 5
    rw [List.length_take, List.length_append, List.length_take, List.length_singleton]
    show 1 ≤ min (max 1 (min 5 cs.length)) (min 5 cs.length + 1) ∧ min (max 1 (min 5 cs.length)) (min 5 cs.length + 1) ≤ 5
    omega
  have f2 : cutD (cs.map PyData.int) none (some 5) = (cs.take 5).map PyData.int := by
    show cutD _ none (some ((5 : Nat) : Int)) = _
    rw [cut_hi, ← List.map_take]
  have f3 : gAdd (.list ((cs.take 5).map PyData.int)) (.list [en a]) = some (.list (((cs.take 5) ++ [(a : Int)]).map PyData.int)) := by
    rw [gAdd_ll, szOk_le (by simp; omega)]
    simp
  have f4 : gMin [.int 5, .int (cs.length : Int)] = some (.int ((min 5 cs.length : Nat) : Int)) := by
    show some (PyData.int (if (cs.length : Int) < 5 then (cs.length : Int) else 5)) = _
    congr 2
    split <;> omega
  have f5 : gMax [.int 1, .int ((min 5 cs.length : Nat) : Int)] = some (.int (k : Int)) := by
    show some (PyData.int (if ((min 5 cs.length : Nat) : Int) > 1 then ((min 5 cs.length : Nat) : Int) else 1)) = some (PyData.int ((max 1 (min 5 cs.length) : Nat) : Int))
    congr 2
    split <;> omega
  have f6 : gSl (.list (((cs.take 5) ++ [(a : Int)]).map PyData.int)) none (some (k : Int)) = some (.list (xs.map PyData.int)) := by
    show some (PyData.list (cutD _ none (some (k : Int)))) = _
    rw [cut_hi, ← List.map_take]
  obtain ⟨t, ht, tok, tsr, _⟩ := L_law_test xs hxl.1 hxl.2
  -- the harms
  obtain ⟨z5, c5⟩ := L_cell_at cs 5
  obtain ⟨hs, S, hh, dr⟩ := L_law_harms z5
  have dR := dr.mir (revS 9)
  have dB := dr.mir (notS 9)
  have dRB := dR.mir (notS 9)
  have teR := tok.map endsE (fun e => rfl)
  have teB := tok.map bitsE bitsE_len
  have teRB := teR.map bitsE bitsE_len
  have tsR : SureT none (t.map endsE) := sureT_ends tsr
  have tsB : SureT none (t.map bitsE) := sureT_bits tsr
  have tsRB : SureT none ((t.map endsE).map bitsE) := sureT_bits tsR
  obtain ⟨r1, j1⟩ := L_judged tok tsr dr.hsOk dr.ne dr.hnm
  obtain ⟨r2, j2⟩ := L_judged teR tsR dR.hsOk dR.ne dR.hnm
  obtain ⟨r3, j3⟩ := L_judged teB tsB dB.hsOk dB.ne dB.hnm
  obtain ⟨r4, j4⟩ := L_judged teRB tsRB dRB.hsOk dRB.ne dRB.hnm
  have w2 : word (hs.map (mh (revS 9))) (t.map endsE) = word hs t := word_rev dr.hsOk dr.ne dr.hnm (fun h m => dR.hsOk.ok _ (List.mem_map.mpr ⟨h, m, rfl⟩)) dr.lt9
  have w3 : word (hs.map (mh (notS 9))) (t.map bitsE) = word hs t := word_not dr.hsOk dr.ne dr.hnm
  have w4 : word ((hs.map (mh (revS 9))).map (mh (notS 9))) ((t.map endsE).map bitsE) = word hs t := (word_not dR.hsOk dR.ne dR.hnm).trans w2
  rw [w2] at j2
  rw [w3] at j3
  rw [w4] at j4
  have hhi := dr.hi
  have g1 : g__law_cells_turned [eH hs, .int 8] = some (eH (hs.map (mh (revS 9)))) := L_cells_turned hs 8 (by omega) fun h m => by
    have := dr.lt9 h m
    unfold HOk at this
    omega
  have g2 : g__law_ends [et t] = some (et (t.map endsE)) := L_ends t tok.2.1
  have g3 : g__law_bits [et t] = some (et (t.map bitsE)) := L_bits t tok
  have g4 : g__law_bits [et (t.map endsE)] = some (et ((t.map endsE).map bitsE)) := L_bits _ teR
  have g5 : g__law_bits_turned [eH hs] = some (eH (hs.map (mh (notS 9)))) := L_bits_turned 9 hs (by omega)
  have g6 : g__law_bits_turned [eH (hs.map (mh (revS 9)))] = some (eH ((hs.map (mh (revS 9))).map (mh (notS 9)))) := L_bits_turned 9 _ (by rw [List.length_map]; omega)
  have gw := gNe_word hs t
  -- the great memory
  obtain ⟨z4, c4⟩ := L_cell_at cs 4
  let sizes : List Nat := [8, 64, 2, 2, 2, 2, 2, 2, 2, 2, 2, 2]
  obtain ⟨ds, hd, dg⟩ := L_digits z4 9 (by decide) sizes (by decide) (by decide)
  have hrep : gMul (.list [.int 2]) (.int 10) = some (.list [.int 2, .int 2, .int 2, .int 2, .int 2, .int 2, .int 2, .int 2, .int 2, .int 2]) := by with_unfolding_all rfl
  have hdig : g__law_digits [.int z4, .int 9, .list [.int 8, .int 64, .int 2, .int 2, .int 2, .int 2, .int 2, .int 2, .int 2, .int 2, .int 2, .int 2]] = some (.list (ds.map en)) := hd
  have hdl : ds.length = 12 := dg.1
  obtain ⟨d0, e0, l0⟩ := dg.get (i := 0) (s := 8) rfl
  obtain ⟨d1, e1, l1⟩ := dg.get (i := 1) (s := 64) rfl
  have ix : ∀ (i d : Nat), ds[i]? = some d → gIx (.list (ds.map en)) (.int (i : Int)) = some (en d) := fun i d h => by
    rw [gIx_l, List.getElem?_map, h]
    rfl
  have i0 : gIx (.list (ds.map en)) (.int 0) = some (en d0) := ix 0 d0 e0
  have i1 : gIx (.list (ds.map en)) (.int 1) = some (en d1) := ix 1 d1 e1
  have cof := L_cells_of hs S dr.hsOk
  have hc3 := dr.hsOk.cells
  let pl : List Nat := [0, 1 + d0 % 2, 2 + d0].take (cellsN hs).length
  have hpl : pl.length = (cellsN hs).length := by
    show ([0, 1 + d0 % 2, 2 + d0].take (cellsN hs).length).length = _
    rw [List.length_take]
    simp
    omega
  have hsub : pl.Sublist [0, 1 + d0 % 2, 2 + d0] := List.take_sublist _ _
  have hnd : pl.Nodup := by
    refine hsub.nodup ?_
    simp
    omega
  have hlt : ∀ c ∈ pl, c < 3 + d0 := fun c hc => by
    have := hsub.subset hc
    simp at this
    omega
  have gm := great_ok dr (3 + d0) (by omega) (by omega) pl hpl hnd hlt
  have gp := L_placed hs S dr.hsOk pl hpl
  have f7 : gSl (.list [.int 0, .int (1 + (d0 : Int) % 2), .int (2 + (d0 : Int))]) none (some ((cellsN hs).length : Int)) = some (.list (pl.map en)) := by
    show some (PyData.list (cutD _ none (some ((cellsN hs).length : Int)))) = _
    rw [cut_hi]
    show _ = some (PyData.list (([0, 1 + d0 % 2, 2 + d0].take (cellsN hs).length).map en))
    rw [List.map_take]
    congr 2
  have f8 : cutD (ds.map en) (some 2) (some (5 + (d0 : Int))) = ((((ds.drop 2).take (3 + d0))).map fun d => decide (d = 1)).map eb := by
    have := cut_both (ds.map en) 2 (5 + d0)
    rw [show ((5 + d0 : Nat) : Int) = 5 + (d0 : Int) by omega, show 5 + d0 - 2 = 3 + d0 by omega] at this
    show cutD _ (some ((2 : Nat) : Int)) _ = _
    rw [this, ← List.map_drop, ← List.map_take]
    refine bits_of _ fun d hdm => ?_
    obtain ⟨i, hi, rfl⟩ := List.mem_iff_getElem.mp hdm
    rw [List.length_take, List.length_drop] at hi
    rw [List.getElem_take, List.getElem_drop]
    refine dg.2 (2 + i) _ 2 (List.getElem?_eq_getElem (by omega)) ?_
    have hi10 : i < 10 := by omega
    match i, hi10 with
    | 0, _ => rfl
    | 1, _ => rfl
    | 2, _ => rfl
    | 3, _ => rfl
    | 4, _ => rfl
    | 5, _ => rfl
    | 6, _ => rfl
    | 7, _ => rfl
    | 8, _ => rfl
    | 9, _ => rfl
  obtain ⟨ords, ho, oo⟩ := L_law_orders t tok (d1 : Int)
  have ra := L_runs gm t tok ords oo ((((ds.drop 2).take (3 + d0))).map fun d => decide (d = 1)) (by
    rw [List.length_map, List.length_take, List.length_drop]
    omega)
  have ra' : g__law_runs_alike [et t, eH (hs.map (mapC fun c => (((cellsN hs).zip pl).lookup c).getD 0)), .int (3 + (d0 : Int)), .list (((((ds.drop 2).take (3 + d0))).map fun d => decide (d = 1)).map eb), .list (ords.map eor)] = some (.bool true) := ra
  have hlen : gLen [.list (cs.map PyData.int)] = some (.int (cs.length : Int)) := by
    show some (PyData.int (cs.map PyData.int).length) = _
    rw [List.length_map]
  have hlen2 : gLen [.list ((cellsN hs).map en)] = some (.int ((cellsN hs).length : Int)) := by
    show some (PyData.int ((cellsN hs).map en).length) = _
    rw [List.length_map]
  have f9 : gAdd (.list [.int 8, .int 64]) (.list [.int 2, .int 2, .int 2, .int 2, .int 2, .int 2, .int 2, .int 2, .int 2, .int 2]) = some (.list [.int 8, .int 64, .int 2, .int 2, .int 2, .int 2, .int 2, .int 2, .int 2, .int 2, .int 2, .int 2]) := by with_unfolding_all rfl
  have f2' : gSl (.list (cs.map PyData.int)) none (some 5) = some (.list ((cs.take 5).map PyData.int)) := congrArg (fun l => some (PyData.list l)) f2
  have f8' : gSl (.list (ds.map en)) (some 2) (some (5 + (d0 : Int))) = some (.list (((((ds.drop 2).take (3 + d0))).map fun d => decide (d = 1)).map eb)) := congrArg (fun l => some (PyData.list l)) f8
  obtain ⟨q, f4', f5'⟩ : ∃ q : Int, gMin [.int 5, .int (cs.length : Int)] = some (.int q) ∧ gMax [.int 1, .int q] = some (.int (k : Int)) := ⟨_, f4, f5⟩
  obtain ⟨kk, hkk⟩ : ∃ kk : Int, kk = (k : Int) := ⟨_, rfl⟩
  rw [← hkk] at f5' f6
  obtain ⟨cl, hcl⟩ : ∃ cl : Int, cl = ((cellsN hs).length : Int) := ⟨_, rfl⟩
  rw [← hcl] at hlen2 f7
  obtain ⟨cn, hcn⟩ : ∃ cn : Int, cn = (cs.length : Int) := ⟨_, rfl⟩
  rw [← hcn] at hlen f4'
  have gp' : g_placed [eH hs, .list (pl.map en)] = some (eH (hs.map (mapC fun c => (((cellsN hs).zip pl).lookup c).getD 0))) := gp
  generalize (hs.map (mapC fun c => (((cellsN hs).zip pl).lookup c).getD 0)) = gr at gp' ra'
  generalize ((((ds.drop 2).take (3 + d0))).map fun d => decide (d = 1)).map eb = BT at f8' ra'
  generalize ords.map eor = OT at ho ra'
  generalize pl.map en = PT at f7 gp'
  generalize (hs.map (mh (revS 9))).map (mh (notS 9)) = hRB at g6 j4
  generalize hs.map (mh (revS 9)) = hR at g1 g6 j2
  generalize hs.map (mh (notS 9)) = hB at g5 j3
  generalize (t.map endsE).map bitsE = tRB at g4 j4
  generalize t.map endsE = tR at g2 g4 j2
  generalize t.map bitsE = tB at g3 j3
  generalize word hs t = wd at gw j1 j2 j3 j4
  generalize (cellsN hs).map en = CN at cof hlen2
  generalize ds.map en = DS at hdig i0 i1 f8'
  generalize (((cs.take 5) ++ [(a : Int)])).map PyData.int = CU at f3 f6
  generalize (cs.take 5).map PyData.int = CT at f2' f3
  generalize xs.map PyData.int = XS at f6 ht
  generalize cs.map PyData.int = CS at f1 f2' c5 c4 hlen
  refine ⟨.list CS, et t, eH hs, .str wd, eH hR, .list DS, .int cl, eH gr, ?_⟩
  have z2 : (0 : Int) < 2 := by decide
  have c5' : g__law_cell_at [.list CS, .int 5] = some (.int z5) := c5
  have c4' : g__law_cell_at [.list CS, .int 4] = some (.int z4) := c4
  clear c5 c4
  simp only [b_law_1, cSeq_s, cAsg_s, cIf_s]
  simp [-gLen_l, -gAdd_ll, -gSl_l, f1, f2', f3, hlen, f4', f5', f6, ht, c5', hh, j1, judged_0, g1, g2, j2, gw, g3, g5, j3, g4, g6, j4, c4', hrep, f9, hdig, cof, hlen2, i0, i1, f7, gp', f8', ho, ra']
theorem law_true : ∀ ns : List Int, ns.length ≤ 63 → d_law ((env0 NN_law.length [.none]).set 0 (.sc ns)) = some (.ret (.bool true)) := fun ns hn => by
  obtain ⟨j, hj, hr⟩ : ∃ j : Int, 1 ≤ j ∧ j ≤ 48 ∧ ∃ q : Int, gMin [.int 48, .int (ns.length : Int)] = some (.int q) ∧ gMax [.int 1, .int q] = some (.int j) := by
    refine ⟨_, ?_, ?_, _, rfl, rfl⟩
    · split <;> omega
    · repeat' split
      all_goals omega
  obtain ⟨hj2, q, hq1, hq2⟩ := hr
  obtain ⟨e1, hf, x1, x2, x3, x4, x5, x6, x7, x8, x9, k1, k2, k3, k4, k5, k6, k7, k8, k9, hx⟩ := for_fold (fun i : Nat => PyData.int ((i : Int) * 6)) (fun (_ : Unit) env => ∃ x1 x2 x3 x4 x5 x6 x7 x8 x9, nm x1 = true ∧ nm x2 = true ∧ nm x3 = true ∧ nm x4 = true ∧ nm x5 = true ∧ nm x6 = true ∧ nm x7 = true ∧ nm x8 = true ∧ nm x9 = true ∧ env = [.sc ns, x1, x2, x3, x4, x5, x6, x7, x8, x9]) (fun _ _ => ()) (a := aName 1) (F := b_law_1) (List.range ((j.toNat + 5) / 6))
    (fun _ i env _ ⟨x1, x2, x3, x4, x5, x6, x7, x8, x9, k1, k2, k3, k4, k5, k6, k7, k8, k9, hx⟩ => by
      subst hx
      obtain ⟨y2, y3, y4, y5, y6, y7, y8, y9, h⟩ := one_round ns (i * 6) x2 x3 x4 x5 x6 x7 x8 x9
      refine ⟨[.sc ns, .pu (en (i * 6)), x2, x3, x4, x5, x6, x7, x8, x9], _, ?_, h, _, _, _, _, _, _, _, _, _, rfl, rfl, rfl, rfl, rfl, rfl, rfl, rfl, rfl, rfl⟩
      show some [SD.sc ns, .pu (.int ((i : Int) * 6)), x2, x3, x4, x5, x6, x7, x8, x9] = some [SD.sc ns, .pu (.int ((i * 6 : Nat) : Int)), x2, x3, x4, x5, x6, x7, x8, x9]
      rw [show ((i * 6 : Nat) : Int) = (i : Int) * 6 by omega]) () [.sc ns, .un, .un, .un, .un, .un, .un, .un, .un, .un] ⟨.un, .un, .un, .un, .un, .un, .un, .un, .un, rfl, rfl, rfl, rfl, rfl, rfl, rfl, rfl, rfl, rfl⟩
  subst hx
  have hi : ∀ env : SE, env[0]? = some (.sc ns) → iRange6 (aCons (eC (.int 0)) (aCons (eA gMax (aCons (eC (.int 1)) (aCons (eA gMin (aCons (eC (.int 48)) (aCons (eLenSc 0) aNil))) aNil))) (aCons (eC (.int 6)) aNil))) env = some (by6 ((j.toNat + 5) / 6)) := fun env he => by
    unfold iRange6
    have : aCons (eC (.int 0)) (aCons (eA gMax (aCons (eC (.int 1)) (aCons (eA gMin (aCons (eC (.int 48)) (aCons (eLenSc 0) aNil))) aNil))) (aCons (eC (.int 6)) aNil)) env = some [.int 0, .int j, .int 6] := by
      simp [he, hq1, hq2]
    rw [this]
    simp [hj, hj2]
  have hf' : forRun (aName 1) b_law_1 (by6 ((j.toNat + 5) / 6)) [.sc ns, .un, .un, .un, .un, .un, .un, .un, .un, .un] = _ := hf
  have he : (env0 NN_law.length [.none]).set 0 (.sc ns) = [.sc ns, .un, .un, .un, .un, .un, .un, .un, .un, .un] := rfl
  rw [he]
  unfold d_law
  rw [cSeq_s, cFor_s, hi _ rfl]
  simp only []
  rw [hf']
  simp [k1, k2, k3, k4, k5, k6, k7, k8, k9]
end Tm

open PySem PySem.W PyProof.Rows
set_option maxHeartbeats 0 in
theorem PySem.Challenge.cw_marchmend_k81_whole_turned_about_holds : PySem.Challenge.rw_marchmend_k81_whole_turned_about.Holds := by
  w_on; o_law; k_head; (case hw => w_witness2)
  k_fill
  refine L2.walk_of (l := PySem.Challenge.rw_marchmend_k81_whole_turned_about) (n := 63) (k := 12) (x := "_law_script") (CX := fun _ => L2.CX0) (sp := fun w => fun vs H Q _ => ∃ (a : Addr) (ns : List Int), vs = [.ref a] ∧ L2.SqL _ H a (ns.map L2.V.int) ∧ ns.length ≤ 63 ∧ ∀ H', Q (.bl true) H') rfl (by decide) rfl ⟨rfl, by decide, by decide⟩ (fun w h Y => PySem.W.kIn_of Y) ?F (fun _ _ a ns hl _ hS => ⟨a, ns, rfl, hS, hl, fun _ => rfl⟩) (fun _ _ _ _ _ h => h)
  case F =>
    intro w mg fa h KX G hmg
    refine' Tm.fin KX G hmg (Tm.Txt.mk ?z_abs ?z_all ?z_bool ?z_dict ?z_enumerate ?z_int ?z_isinstance ?z_len ?z_list ?z_max ?z_min ?z_range ?z_sorted ?z_str ?z_tuple ?z_zip ?i_MOST_ELEMENTS ?i_MOST_STEPS ?i_MOST_HARMS ?i_MOST_CELLS ?i_LAST_CELL ?i_MOST_SIZE ?mgF ?forms ?mgO ?ords ?mgC ?cl_ ?n_flaws ?n_held ?mkC ?kpC ?d_is_whole ?d_is_bit ?d_is_step ?d_is_formed ?d_look_at_test ?d_is_sure ?d_is_part ?d_is_harm ?d_cells_in ?d_cells_among ?d_look_at_harms ?d_cells_of ?d_called ?d_little ?d_placed ?d_stuck_at ?d_with_bit ?d_held_at_first ?d_address_harm ?d_reached ?d_coming ?d_written ?d_was_read ?d_read_bit ?d_acted ?d_look_at_memory ?d_m_init ?d_m_look_at_address ?d_m_read ?d_m_write ?d_m_size ?d_look_at_orders ?d_in_order ?d_done_on ?d_all_reads ?d_reads_of ?d_first_shown ?d_look_at_judged ?d_all_contents ?d_steps_done ?d_orders_for ?d_beyond ?d_gone_over ?d_begun ?d_judged ?d__law_cell_at ?d__law_digits ?d__law_test ?d__law_orders ?d__law_harm ?d__law_harms ?d__law_ends ?d__law_bits ?d__law_cells_turned ?d__law_bits_turned ?d__law_runs_alike) ?la ?ll ?lc ?lk Tm.law_true
    (case z_abs => refine' PySem.W.mg_none_of KX G ?_; k_is)
    (case z_all => refine' PySem.W.mg_none_of KX G ?_; k_is)
    (case z_bool => refine' PySem.W.mg_none_of KX G ?_; k_is)
    (case z_dict => refine' PySem.W.mg_none_of KX G ?_; k_is)
    (case z_enumerate => refine' PySem.W.mg_none_of KX G ?_; k_is)
    (case z_int => refine' PySem.W.mg_none_of KX G ?_; k_is)
    (case z_isinstance => refine' PySem.W.mg_none_of KX G ?_; k_is)
    (case z_len => refine' PySem.W.mg_none_of KX G ?_; k_is)
    (case z_list => refine' PySem.W.mg_none_of KX G ?_; k_is)
    (case z_max => refine' PySem.W.mg_none_of KX G ?_; k_is)
    (case z_min => refine' PySem.W.mg_none_of KX G ?_; k_is)
    (case z_range => refine' PySem.W.mg_none_of KX G ?_; k_is)
    (case z_sorted => refine' PySem.W.mg_none_of KX G ?_; k_is)
    (case z_str => refine' PySem.W.mg_none_of KX G ?_; k_is)
    (case z_tuple => refine' PySem.W.mg_none_of KX G ?_; k_is)
    (case z_zip => refine' PySem.W.mg_none_of KX G ?_; k_is)
    (case i_MOST_ELEMENTS => refine' Tm.gi_of KX G ?ga ?gr; (case ga => k_is); (case gr => exact ⟨_, rfl⟩))
    (case i_MOST_STEPS => refine' Tm.gi_of KX G ?ga ?gr; (case ga => k_is); (case gr => exact ⟨_, rfl⟩))
    (case i_MOST_HARMS => refine' Tm.gi_of KX G ?ga ?gr; (case ga => k_is); (case gr => exact ⟨_, rfl⟩))
    (case i_MOST_CELLS => refine' Tm.gi_of KX G ?ga ?gr; (case ga => k_is); (case gr => exact ⟨_, rfl⟩))
    (case i_LAST_CELL => refine' Tm.gi_of KX G ?ga ?gr; (case ga => k_is); (case gr => exact ⟨_, rfl⟩))
    (case i_MOST_SIZE => refine' Tm.gi_of KX G ?ga ?gr; (case ga => k_is); (case gr => exact ⟨_, rfl⟩))
    (case mgF => refine' PySem.W.mg_of KX G ?_; k_is)
    (case mgO => refine' PySem.W.mg_of KX G ?_; k_is)
    (case mgC => refine' PySem.W.mg_of KX G ?_; k_is)
    (case forms =>
      refine' Tm.forms_of ?fhs ?fhl ?fhk ?fn1 ?fn2 ?fn3 ?fn4 ?fn5 ?fn6 ?fn7 ?fn8 ?fn9 ?fn10 ?fr1 ?fr2 ?fr3 ?fr4 ?fr5 ?fr6 ?fr7 ?fr8 ?fr9 ?fr10
      (case fhs => first | rfl | decide)
      (case fhl => k_is)
      (case fhk => exact ⟨⟨_, _, rfl, rfl⟩, ⟨_, _, rfl, rfl⟩, ⟨_, _, rfl, rfl⟩, ⟨_, _, rfl, rfl⟩, ⟨_, _, rfl, rfl⟩, ⟨_, _, rfl, rfl⟩, ⟨_, _, rfl, rfl⟩, ⟨_, _, rfl, rfl⟩, ⟨_, _, rfl, rfl⟩, ⟨_, _, rfl, rfl⟩, trivial⟩)
      (case fn1 => k_is)
      (case fn2 => k_is)
      (case fn3 => k_is)
      (case fn4 => k_is)
      (case fn5 => k_is)
      (case fn6 => k_is)
      (case fn7 => k_is)
      (case fn8 => k_is)
      (case fn9 => k_is)
      (case fn10 => k_is)
      (case fr1 => exact ⟨_, rfl⟩)
      (case fr2 => exact ⟨_, rfl⟩)
      (case fr3 => exact ⟨_, rfl⟩)
      (case fr4 => exact ⟨_, rfl⟩)
      (case fr5 => exact ⟨_, rfl⟩)
      (case fr6 => exact ⟨_, rfl⟩)
      (case fr7 => exact ⟨_, rfl⟩)
      (case fr8 => exact ⟨_, rfl⟩)
      (case fr9 => exact ⟨_, rfl⟩)
      (case fr10 => exact ⟨_, rfl⟩)
      done)
    (case ords => refine' Tm.ords_of ?oh1 ?oh2 ?oh3; (case oh1 => k_is); (case oh2 => rfl); (case oh3 => exact .cons ⟨_, rfl⟩ (.cons ⟨_, rfl⟩ (.cons ⟨_, rfl⟩ .nil))))
    (case cl_ => refine' L2.Cls.mk ?ch1 ?ch2 ?ch3 ?ch4; (case ch1 => k_is); (case ch2 => k_is); (case ch3 => k_is); (case ch4 => k_is))
    (case n_flaws => (refine' (show PySem.W.findIn _ _ _ = some none from ?_)); k_is)
    (case n_held => (refine' (show PySem.W.findIn _ _ _ = some none from ?_)); k_is)
    (case mkC => k_is)
    (case kpC => k_is)
    (case d_is_whole => refine' Tm.def_of KX G ?da ?dl ?dc ?dk (fun _ _ _ _ _ _ us hl => match us, hl with | [_], _ => rfl); (case da => k_is); (case dl => k_is); (case dc => k_is); (case dk => k_is))
    (case d_is_bit => refine' Tm.def_of KX G ?da ?dl ?dc ?dk (fun _ _ _ _ _ _ us hl => match us, hl with | [_], _ => rfl); (case da => k_is); (case dl => k_is); (case dc => k_is); (case dk => k_is))
    (case d_is_step => refine' Tm.def_of KX G ?da ?dl ?dc ?dk (fun _ _ _ _ _ _ us hl => match us, hl with | [_], _ => rfl); (case da => k_is); (case dl => k_is); (case dc => k_is); (case dk => k_is))
    (case d_is_formed => refine' Tm.def_of KX G ?da ?dl ?dc ?dk (fun _ _ _ _ _ _ us hl => match us, hl with | [_], _ => rfl); (case da => k_is); (case dl => k_is); (case dc => k_is); (case dk => k_is))
    (case d_look_at_test => refine' Tm.def_of KX G ?da ?dl ?dc ?dk (fun _ _ _ _ _ _ us hl => match us, hl with | [_], _ => rfl); (case da => k_is); (case dl => k_is); (case dc => k_is); (case dk => k_is))
    (case d_is_sure => refine' Tm.def_of KX G ?da ?dl ?dc ?dk (fun _ _ _ _ _ _ us hl => match us, hl with | [_], _ => rfl); (case da => k_is); (case dl => k_is); (case dc => k_is); (case dk => k_is))
    (case d_is_part => refine' Tm.def_of KX G ?da ?dl ?dc ?dk (fun _ _ _ _ _ _ us hl => match us, hl with | [_, _], _ => rfl); (case da => k_is); (case dl => k_is); (case dc => k_is); (case dk => k_is))
    (case d_is_harm => refine' Tm.def_of KX G ?da ?dl ?dc ?dk (fun _ _ _ _ _ _ us hl => match us, hl with | [_], _ => rfl); (case da => k_is); (case dl => k_is); (case dc => k_is); (case dk => k_is))
    (case d_cells_in => refine' Tm.def_of KX G ?da ?dl ?dc ?dk (fun _ _ _ _ _ _ us hl => match us, hl with | [_], _ => rfl); (case da => k_is); (case dl => k_is); (case dc => k_is); (case dk => k_is))
    (case d_cells_among => refine' Tm.def_of KX G ?da ?dl ?dc ?dk (fun _ _ _ _ _ _ us hl => match us, hl with | [_], _ => rfl); (case da => k_is); (case dl => k_is); (case dc => k_is); (case dk => k_is))
    (case d_look_at_harms => refine' Tm.def_of KX G ?da ?dl ?dc ?dk (fun _ _ _ _ _ _ us hl => match us, hl with | [_], _ => rfl); (case da => k_is); (case dl => k_is); (case dc => k_is); (case dk => k_is))
    (case d_cells_of => refine' Tm.def_of KX G ?da ?dl ?dc ?dk (fun _ _ _ _ _ _ us hl => match us, hl with | [_], _ => rfl); (case da => k_is); (case dl => k_is); (case dc => k_is); (case dk => k_is))
    (case d_called => refine' Tm.def_of KX G ?da ?dl ?dc ?dk (fun _ _ _ _ _ _ us hl => match us, hl with | [_, _], _ => rfl); (case da => k_is); (case dl => k_is); (case dc => k_is); (case dk => k_is))
    (case d_little => refine' Tm.def_of KX G ?da ?dl ?dc ?dk (fun _ _ _ _ _ _ us hl => match us, hl with | [_], _ => rfl); (case da => k_is); (case dl => k_is); (case dc => k_is); (case dk => k_is))
    (case d_placed => refine' Tm.def_of KX G ?da ?dl ?dc ?dk (fun _ _ _ _ _ _ us hl => match us, hl with | [_, _], _ => rfl); (case da => k_is); (case dl => k_is); (case dc => k_is); (case dk => k_is))
    (case d_stuck_at => refine' Tm.def_of KX G ?da ?dl ?dc ?dk (fun _ _ _ _ _ _ us hl => match us, hl with | [_, _], _ => rfl); (case da => k_is); (case dl => k_is); (case dc => k_is); (case dk => k_is))
    (case d_with_bit => refine' Tm.def_of KX G ?da ?dl ?dc ?dk (fun _ _ _ _ _ _ us hl => match us, hl with | [_, _, _, _], _ => rfl); (case da => k_is); (case dl => k_is); (case dc => k_is); (case dk => k_is))
    (case d_held_at_first => refine' Tm.def_of KX G ?da ?dl ?dc ?dk (fun _ _ _ _ _ _ us hl => match us, hl with | [_, _], _ => rfl); (case da => k_is); (case dl => k_is); (case dc => k_is); (case dk => k_is))
    (case d_address_harm => refine' Tm.def_of KX G ?da ?dl ?dc ?dk (fun _ _ _ _ _ _ us hl => match us, hl with | [_, _], _ => rfl); (case da => k_is); (case dl => k_is); (case dc => k_is); (case dk => k_is))
    (case d_reached => refine' Tm.def_of KX G ?da ?dl ?dc ?dk (fun _ _ _ _ _ _ us hl => match us, hl with | [_, _], _ => rfl); (case da => k_is); (case dl => k_is); (case dc => k_is); (case dk => k_is))
    (case d_coming => refine' Tm.def_of KX G ?da ?dl ?dc ?dk (fun _ _ _ _ _ _ us hl => match us, hl with | [_, _, _, _], _ => rfl); (case da => k_is); (case dl => k_is); (case dc => k_is); (case dk => k_is))
    (case d_written => refine' Tm.def_of KX G ?da ?dl ?dc ?dk (fun _ _ _ _ _ _ us hl => match us, hl with | [_, _, _, _], _ => rfl); (case da => k_is); (case dl => k_is); (case dc => k_is); (case dk => k_is))
    (case d_was_read => refine' Tm.def_of KX G ?da ?dl ?dc ?dk (fun _ _ _ _ _ _ us hl => match us, hl with | [_, _, _], _ => rfl); (case da => k_is); (case dl => k_is); (case dc => k_is); (case dk => k_is))
    (case d_read_bit => refine' Tm.def_of KX G ?da ?dl ?dc ?dk (fun _ _ _ _ _ _ us hl => match us, hl with | [_, _], _ => rfl); (case da => k_is); (case dl => k_is); (case dc => k_is); (case dk => k_is))
    (case d_acted => refine' Tm.def_of KX G ?da ?dl ?dc ?dk (fun _ _ _ _ _ _ us hl => match us, hl with | [_, _, _, _], _ => rfl); (case da => k_is); (case dl => k_is); (case dc => k_is); (case dk => k_is))
    (case d_look_at_memory => refine' Tm.def_of KX G ?da ?dl ?dc ?dk (fun _ _ _ _ _ _ us hl => match us, hl with | [_, _, _], _ => rfl); (case da => k_is); (case dl => k_is); (case dc => k_is); (case dk => k_is))
    (case d_m_init => refine' Tm.mdef_of ?da ?di ?dl ?dc ?dk (fun _ _ _ _ _ _ us hl => match us, hl with | [_, _, _, _], _ => rfl); (case da => k_is); (case di => k_is); (case dl => k_is); (case dc => k_is); (case dk => k_is))
    (case d_m_look_at_address => refine' Tm.mdef_of ?da ?di ?dl ?dc ?dk (fun _ _ _ _ _ _ us hl => match us, hl with | [_, _], _ => rfl); (case da => k_is); (case di => k_is); (case dl => k_is); (case dc => k_is); (case dk => k_is))
    (case d_m_read => refine' Tm.mdef_of ?da ?di ?dl ?dc ?dk (fun _ _ _ _ _ _ us hl => match us, hl with | [_, _], _ => rfl); (case da => k_is); (case di => k_is); (case dl => k_is); (case dc => k_is); (case dk => k_is))
    (case d_m_write => refine' Tm.mdef_of ?da ?di ?dl ?dc ?dk (fun _ _ _ _ _ _ us hl => match us, hl with | [_, _, _], _ => rfl); (case da => k_is); (case di => k_is); (case dl => k_is); (case dc => k_is); (case dk => k_is))
    (case d_m_size => refine' Tm.mdef_of ?da ?di ?dl ?dc ?dk (fun _ _ _ _ _ _ us hl => match us, hl with | [_], _ => rfl); (case da => k_is); (case di => k_is); (case dl => k_is); (case dc => k_is); (case dk => k_is))
    (case d_look_at_orders => refine' Tm.def_of KX G ?da ?dl ?dc ?dk (fun _ _ _ _ _ _ us hl => match us, hl with | [_, _], _ => rfl); (case da => k_is); (case dl => k_is); (case dc => k_is); (case dk => k_is))
    (case d_in_order => refine' Tm.def_of KX G ?da ?dl ?dc ?dk (fun _ _ _ _ _ _ us hl => match us, hl with | [_, _], _ => rfl); (case da => k_is); (case dl => k_is); (case dc => k_is); (case dk => k_is))
    (case d_done_on => refine' Tm.def_of KX G ?da ?dl ?dc ?dk (fun _ _ _ _ _ _ us hl => match us, hl with | [_, _, _], _ => rfl); (case da => k_is); (case dl => k_is); (case dc => k_is); (case dk => k_is))
    (case d_all_reads => refine' Tm.def_of KX G ?da ?dl ?dc ?dk (fun _ _ _ _ _ _ us hl => match us, hl with | [_, _, _], _ => rfl); (case da => k_is); (case dl => k_is); (case dc => k_is); (case dk => k_is))
    (case d_reads_of => refine' Tm.def_of KX G ?da ?dl ?dc ?dk (fun _ _ _ _ _ _ us hl => match us, hl with | [_, _, _, _, _], _ => rfl); (case da => k_is); (case dl => k_is); (case dc => k_is); (case dk => k_is))
    (case d_first_shown => refine' Tm.def_of KX G ?da ?dl ?dc ?dk (fun _ _ _ _ _ _ us hl => match us, hl with | [_, _, _, _, _], _ => rfl); (case da => k_is); (case dl => k_is); (case dc => k_is); (case dk => k_is))
    (case d_look_at_judged => refine' Tm.def_of KX G ?da ?dl ?dc ?dk (fun _ _ _ _ _ _ us hl => match us, hl with | [_, _], _ => rfl); (case da => k_is); (case dl => k_is); (case dc => k_is); (case dk => k_is))
    (case d_all_contents => refine' Tm.def_of KX G ?da ?dl ?dc ?dk (fun _ _ _ _ _ _ us hl => match us, hl with | [_], _ => rfl); (case da => k_is); (case dl => k_is); (case dc => k_is); (case dk => k_is))
    (case d_steps_done => refine' Tm.def_of KX G ?da ?dl ?dc ?dk (fun _ _ _ _ _ _ us hl => match us, hl with | [_, _, _], _ => rfl); (case da => k_is); (case dl => k_is); (case dc => k_is); (case dk => k_is))
    (case d_orders_for => refine' Tm.def_of KX G ?da ?dl ?dc ?dk (fun _ _ _ _ _ _ us hl => match us, hl with | [_], _ => rfl); (case da => k_is); (case dl => k_is); (case dc => k_is); (case dk => k_is))
    (case d_beyond => refine' Tm.def_of KX G ?da ?dl ?dc ?dk (fun _ _ _ _ _ _ us hl => match us, hl with | [_, _, _, _], _ => rfl); (case da => k_is); (case dl => k_is); (case dc => k_is); (case dk => k_is))
    (case d_gone_over => refine' Tm.def_of KX G ?da ?dl ?dc ?dk (fun _ _ _ _ _ _ us hl => match us, hl with | [_, _, _, _, _], _ => rfl); (case da => k_is); (case dl => k_is); (case dc => k_is); (case dk => k_is))
    (case d_begun => refine' Tm.def_of KX G ?da ?dl ?dc ?dk (fun _ _ _ _ _ _ us hl => match us, hl with | [_, _], _ => rfl); (case da => k_is); (case dl => k_is); (case dc => k_is); (case dk => k_is))
    (case d_judged => refine' Tm.def_of KX G ?da ?dl ?dc ?dk (fun _ _ _ _ _ _ us hl => match us, hl with | [_, _], _ => rfl); (case da => k_is); (case dl => k_is); (case dc => k_is); (case dk => k_is))
    (case d__law_cell_at => refine' Tm.def_of KX G ?da ?dl ?dc ?dk (fun _ _ _ _ _ _ us hl => match us, hl with | [_, _], _ => rfl); (case da => k_is); (case dl => k_is); (case dc => k_is); (case dk => k_is))
    (case d__law_digits => refine' Tm.def_of KX G ?da ?dl ?dc ?dk (fun _ _ _ _ _ _ us hl => match us, hl with | [_, _, _], _ => rfl); (case da => k_is); (case dl => k_is); (case dc => k_is); (case dk => k_is))
    (case d__law_test => refine' Tm.def_of KX G ?da ?dl ?dc ?dk (fun _ _ _ _ _ _ us hl => match us, hl with | [_, _], _ => rfl); (case da => k_is); (case dl => k_is); (case dc => k_is); (case dk => k_is))
    (case d__law_orders => refine' Tm.def_of KX G ?da ?dl ?dc ?dk (fun _ _ _ _ _ _ us hl => match us, hl with | [_, _], _ => rfl); (case da => k_is); (case dl => k_is); (case dc => k_is); (case dk => k_is))
    (case d__law_harm => refine' Tm.def_of KX G ?da ?dl ?dc ?dk (fun _ _ _ _ _ _ us hl => match us, hl with | [_, _], _ => rfl); (case da => k_is); (case dl => k_is); (case dc => k_is); (case dk => k_is))
    (case d__law_harms => refine' Tm.def_of KX G ?da ?dl ?dc ?dk (fun _ _ _ _ _ _ us hl => match us, hl with | [_, _, _, _], _ => rfl); (case da => k_is); (case dl => k_is); (case dc => k_is); (case dk => k_is))
    (case d__law_ends => refine' Tm.def_of KX G ?da ?dl ?dc ?dk (fun _ _ _ _ _ _ us hl => match us, hl with | [_], _ => rfl); (case da => k_is); (case dl => k_is); (case dc => k_is); (case dk => k_is))
    (case d__law_bits => refine' Tm.def_of KX G ?da ?dl ?dc ?dk (fun _ _ _ _ _ _ us hl => match us, hl with | [_], _ => rfl); (case da => k_is); (case dl => k_is); (case dc => k_is); (case dk => k_is))
    (case d__law_cells_turned => refine' Tm.def_of KX G ?da ?dl ?dc ?dk (fun _ _ _ _ _ _ us hl => match us, hl with | [_, _], _ => rfl); (case da => k_is); (case dl => k_is); (case dc => k_is); (case dk => k_is))
    (case d__law_bits_turned => refine' Tm.def_of KX G ?da ?dl ?dc ?dk (fun _ _ _ _ _ _ us hl => match us, hl with | [_], _ => rfl); (case da => k_is); (case dl => k_is); (case dc => k_is); (case dk => k_is))
    (case d__law_runs_alike => refine' Tm.def_of KX G ?da ?dl ?dc ?dk (fun _ _ _ _ _ _ us hl => match us, hl with | [_, _, _, _, _], _ => rfl); (case da => k_is); (case dl => k_is); (case dc => k_is); (case dk => k_is))
    (case la => k_is)
    (case ll => k_is)
    (case lc => k_is)
    (case lk => k_is)

