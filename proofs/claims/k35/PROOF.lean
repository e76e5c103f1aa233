import PyProof.Rows.All
import HandS.ForMost
import HandS.Exc
import HandS.TryOnly
import HandS.ExcOwn
import HandS.WordsExc
import HandS.Wide
import HandS.Lambda
import HandS.EndTab
import HandS.TupMul
import HandS.IsInst
import HandS.Deep
import HandS.TupAny
import HandS.Style
import HandS.Flow
import HandS.SortInts
import HandS.TupLe
import HandS.ExcField
import KE.KExcSuper
import KE.KSuper
import HandS.ExcIs
import HandS.SetFor
import HandS.Zip
import HandS.Rev
import HandS.RevRange
import HandS.DictComp
import HandS.More
import HandS.SortRule
import HandS.NamedTupSort
import KE.SortData
import KE.DataMinMax
import KE.GoesZip
import KE.GoesMore
import KE.GoesEnum
import KE.KDictDisplayH
import HandS.Conv
import PySem.Challenge.RW_stepgrids_k35_whole_sums_of_floors
set_option Elab.async false
set_option linter.all false
set_option maxRecDepth 100000
set_option maxHeartbeats 4000000
namespace Rf
open PySem L2 LamX

/-! ## values as data -/
inductive D where
  | non | bl (b : Bool) | int (i : Int) | str (x : Str)
  | tup (xs : List D) | lst (xs : List D)
  | dK (ks : List Key) (ds : List D) | dT (ks : List (List Key)) (ds : List D)
  | fn (x : Str) | scr (ns : List Int) | ctup (xs : List D)

/-- the module as it stands: what is written, its names -/
structure Gm where
  K : PySem.W.Frag
  mg : Str → Option Value

mutual
def Is (G : Gm) (H : Hp) : D → V → Prop
  | .non, v => v = .non
  | .bl b, v => v = .bl b
  | .int i, v => v = .int i
  | .str x, v => v = .str x
  | .tup xs, v => ∃ a vs, v = .ref a ∧ H a = some (.tup vs) ∧ IsL G H xs vs
  | .ctup xs, v => ∃ a vs, v = .ref a ∧ SqT G.K H a vs ∧ IsL G H xs vs
  | .lst xs, v => ∃ a vs, v = .ref a ∧ H a = some (.lst vs) ∧ IsL G H xs vs
  | .dK ks ds, v => ∃ a vs, v = .ref a ∧ H a = some (.dK (ks.zip vs)) ∧ ks.length = vs.length ∧ IsL G H ds vs
  | .dT ks ds, v => ∃ a vs, v = .ref a ∧ H a = some (.dT (ks.zip vs)) ∧ ks.length = vs.length ∧ IsL G H ds vs
  | .fn x, v => ∃ f, v = .ref f ∧ G.mg x = some (.ref f)
  | .scr ns, v => ∃ a, v = .ref a ∧ SqL G.K H a (ns.map V.int)
def IsL (G : Gm) (H : Hp) : List D → List V → Prop
  | [], vs => vs = []
  | d :: ds, vs => ∃ v r, vs = v :: r ∧ Is G H d v ∧ IsL G H ds r
end

/-- all but the tables of code objects stays -/
def Le (H H' : Hp) : Prop := ∀ a o, H a = some o → (∀ ps, o ≠ .tbl ps) → H' a = some o
theorem Le.refl (H : Hp) : Le H H := fun _ _ h _ => h
theorem Le.trans {H H1 H2 : Hp} (a : Le H H1) (b : Le H1 H2) : Le H H2 := fun x o h n => b x o (a x o h n) n
theorem Le.rd {H H' : Hp} (e : Le H H') {a : Addr} {u : HO} (n : ∀ ps, u ≠ .tbl ps) (h : Rd H a u) : Rd H' a u := by
  rcases h with h | ⟨o, h⟩
  · exact .inl (e _ _ h n)
  · exact .inr ⟨o, e _ _ h (fun ps z => by cases z)⟩
theorem Le.sqT {K : PySem.W.Frag} {H H' : Hp} (e : Le H H') {a : Addr} {xs : List V} (h : SqT K H a xs) : SqT K H' a xs := by
  rcases h with h | h
  · exact .inl (e.rd (fun ps z => by cases z) h)
  · exact .inr h
theorem Le.sqL {K : PySem.W.Frag} {H H' : Hp} (e : Le H H') {a : Addr} {xs : List V} (h : SqL K H a xs) : SqL K H' a xs := by
  rcases h with h | h
  · exact .inl (e.rd (fun ps z => by cases z) h)
  · exact .inr h
theorem Le.tp {H H' : Hp} (e : Le H H') {a : Addr} {xs : List V} (h : H a = some (.tup xs)) : H' a = some (.tup xs) := e _ _ h (fun ps z => by cases z)
theorem Le.tq {K : PySem.W.Frag} {H H' : Hp} (e : Le H H') {a : Addr} {xs : List V} (h : H a = some (.tup xs)) : SqT K H' a xs := .inl (.inl (e.tp h))
theorem Le.lp {H H' : Hp} (e : Le H H') {a : Addr} {xs : List V} (h : H a = some (.lst xs)) : H' a = some (.lst xs) := e _ _ h (fun ps z => by cases z)
theorem Le.lq {K : PySem.W.Frag} {H H' : Hp} (e : Le H H') {a : Addr} {xs : List V} (h : H a = some (.lst xs)) : SqL K H' a xs := .inl (.inl (e.lp h))
mutual
theorem Is.mono {G : Gm} {H H' : Hp} (e : Le H H') : ∀ (d : D) (v : V), Is G H d v → Is G H' d v
  | .non, v, h => h
  | .bl b, v, h => h
  | .int i, v, h => h
  | .str x, v, h => h
  | .tup xs, v, h => by
    obtain ⟨a, vs, e1, e2, e3⟩ := h
    exact ⟨a, vs, e1, e _ _ e2 (fun ps z => by cases z), IsL.mono e xs vs e3⟩
  | .ctup xs, v, h => by
    obtain ⟨a, vs, e1, e2, e3⟩ := h
    exact ⟨a, vs, e1, e.sqT e2, IsL.mono e xs vs e3⟩
  | .lst xs, v, h => by
    obtain ⟨a, vs, e1, e2, e3⟩ := h
    exact ⟨a, vs, e1, e _ _ e2 (fun ps z => by cases z), IsL.mono e xs vs e3⟩
  | .dK ks ds, v, h => by
    obtain ⟨a, vs, e1, e2, e4, e3⟩ := h
    exact ⟨a, vs, e1, e _ _ e2 (fun ps z => by cases z), e4, IsL.mono e ds vs e3⟩
  | .dT ks ds, v, h => by
    obtain ⟨a, vs, e1, e2, e4, e3⟩ := h
    exact ⟨a, vs, e1, e _ _ e2 (fun ps z => by cases z), e4, IsL.mono e ds vs e3⟩
  | .fn x, v, h => h
  | .scr ns, v, h => by
    obtain ⟨a, e1, e2⟩ := h
    exact ⟨a, e1, e.sqL e2⟩
theorem IsL.mono {G : Gm} {H H' : Hp} (e : Le H H') : ∀ (ds : List D) (vs : List V), IsL G H ds vs → IsL G H' ds vs
  | [], vs, h => h
  | d :: ds, vs, h => by
    obtain ⟨v, r, e1, e2, e3⟩ := h
    exact ⟨v, r, e1, Is.mono e d v e2, IsL.mono e ds r e3⟩
end
theorem IsL.length {G : Gm} {H : Hp} : ∀ {ds : List D} {vs : List V}, IsL G H ds vs → ds.length = vs.length
  | [], vs, h => by
    obtain rfl : vs = [] := h
    rfl
  | d :: ds, vs, h => by
    obtain ⟨v, r, rfl, _, e3⟩ := h
    rw [List.length_cons, List.length_cons, IsL.length e3]
theorem IsL.get {G : Gm} {H : Hp} : ∀ {ds : List D} {vs : List V} {i : Nat} {d : D}, IsL G H ds vs → ds[i]? = some d → ∃ v, vs[i]? = some v ∧ Is G H d v
  | [], vs, i, d, h, e => by simp at e
  | x :: ds, vs, 0, d, h, e => by
    obtain ⟨v, r, rfl, e2, e3⟩ := h
    obtain rfl : x = d := by simpa using e
    exact ⟨v, rfl, e2⟩
  | x :: ds, vs, i + 1, d, h, e => by
    obtain ⟨v, r, rfl, e2, e3⟩ := h
    obtain ⟨w, h1, h2⟩ := IsL.get (i := i) (d := d) e3 (by simpa using e)
    exact ⟨w, by simpa using h1, h2⟩
theorem IsL.append {G : Gm} {H : Hp} : ∀ {ds es : List D} {vs ws : List V}, IsL G H ds vs → IsL G H es ws → IsL G H (ds ++ es) (vs ++ ws)
  | [], es, vs, ws, h, k => by
    obtain rfl : vs = [] := h
    exact k
  | d :: ds, es, vs, ws, h, k => by
    obtain ⟨v, r, rfl, e2, e3⟩ := h
    exact ⟨v, r ++ ws, rfl, e2, IsL.append e3 k⟩
theorem IsL.one {G : Gm} {H : Hp} {d : D} {v : V} (h : Is G H d v) : IsL G H [d] [v] := ⟨v, [], rfl, h, rfl⟩
theorem IsL.set {G : Gm} {H : Hp} {d : D} {v : V} (h : Is G H d v) : ∀ {ds : List D} {vs : List V} (i : Nat), IsL G H ds vs → IsL G H (ds.set i d) (vs.set i v)
  | [], vs, i, k => by
    obtain rfl : vs = [] := k
    rfl
  | x :: ds, vs, 0, k => by
    obtain ⟨w, r, rfl, e2, e3⟩ := k
    exact ⟨v, r, rfl, h, e3⟩
  | x :: ds, vs, i + 1, k => by
    obtain ⟨w, r, rfl, e2, e3⟩ := k
    exact ⟨w, r.set i v, rfl, e2, IsL.set h i e3⟩
theorem IsL.take {G : Gm} {H : Hp} : ∀ {ds : List D} {vs : List V} (n : Nat), IsL G H ds vs → IsL G H (ds.take n) (vs.take n)
  | [], vs, n, k => by
    obtain rfl : vs = [] := k
    rw [List.take_nil, List.take_nil]; rfl
  | x :: ds, vs, 0, k => rfl
  | x :: ds, vs, n + 1, k => by
    obtain ⟨w, r, rfl, e2, e3⟩ := k
    exact ⟨w, r.take n, rfl, e2, IsL.take n e3⟩
theorem IsL.drop {G : Gm} {H : Hp} : ∀ {ds : List D} {vs : List V} (n : Nat), IsL G H ds vs → IsL G H (ds.drop n) (vs.drop n)
  | [], vs, n, k => by
    obtain rfl : vs = [] := k
    rw [List.drop_nil, List.drop_nil]; rfl
  | x :: ds, vs, 0, k => k
  | x :: ds, vs, n + 1, k => by
    obtain ⟨w, r, rfl, e2, e3⟩ := k
    exact IsL.drop n e3
theorem IsL.ints {G : Gm} {H : Hp} : ∀ {ns : List Int} {vs : List V}, IsL G H (ns.map D.int) vs → vs = ns.map V.int
  | [], vs, h => h
  | n :: ns, vs, h => by
    obtain ⟨v, r, rfl, e2, e3⟩ := h
    obtain rfl : v = .int n := e2
    rw [IsL.ints e3]; rfl
theorem IsL.of_ints {G : Gm} {H : Hp} : ∀ (ns : List Int), IsL G H (ns.map D.int) (ns.map V.int)
  | [] => rfl
  | n :: ns => ⟨.int n, ns.map V.int, rfl, rfl, IsL.of_ints ns⟩

/-! ## slots: shared data, or a list (a dict) that is owned by the slot alone -/
inductive Slot where
  | no | v (d : D) | o (d : D)
abbrev Env' := List Slot
open Classical in
noncomputable def hid (H : Hp) (O : Addr → Prop) : Hp := fun a => if O a then none else H a
theorem hid_some {H : Hp} {O : Addr → Prop} {a : Addr} {o : HO} : hid H O a = some o ↔ ¬ O a ∧ H a = some o := by
  unfold hid
  by_cases h : O a
  · rw [if_pos h]
    exact ⟨fun z => (by cases z), fun z => absurd h z.1⟩
  · rw [if_neg h]
    exact ⟨fun z => ⟨h, z⟩, fun z => z.2⟩
theorem Le.hid {H H' : Hp} {O O' : Addr → Prop} (h : ∀ a o, H a = some o → (∀ ps, o ≠ .tbl ps) → ¬ O a → ¬ O' a ∧ H' a = some o) : Le (hid H O) (hid H' O') := fun a o e n => by
  obtain ⟨e1, e2⟩ := hid_some.mp e
  exact hid_some.mpr (h a o e2 n e1)
theorem Le.unhid {H : Hp} {O : Addr → Prop} : Le (Rf.hid H O) H := fun a o e n => (hid_some.mp e).2

/-- a slot's own addresses -/
def Ow (σ : St) (env : Env') (a : Addr) : Prop := ∃ (i : Nat) (d : D), env[i]? = some (Slot.o d) ∧ σ[i]? = some (some (V.ref a))
/-- what is hidden: the slots' own, and what others own -/
def Hd (F : Addr → Prop) (σ : St) (env : Env') (a : Addr) : Prop := Ow σ env a ∨ F a
/-- an owned object at a: its items are shared data -/
def OIs (G : Gm) (Hs H : Hp) : D → Addr → Prop
  | .lst xs, a => ∃ vs, H a = some (.lst vs) ∧ IsL G Hs xs vs
  | .dK ks ds, a => ∃ vs, H a = some (.dK (ks.zip vs)) ∧ ks.length = vs.length ∧ IsL G Hs ds vs
  | .dT ks ds, a => ∃ vs, H a = some (.dT (ks.zip vs)) ∧ ks.length = vs.length ∧ IsL G Hs ds vs
  | _, _ => False
def SlotOk (G : Gm) (Hs H : Hp) : Slot → Option V → Prop
  | .no, _ => True
  | .v d, x => ∃ v, x = some v ∧ Is G Hs d v
  | .o d, x => ∃ a, x = some (.ref a) ∧ OIs G Hs H d a
theorem OIs.mono {G : Gm} {Hs Hs' H H' : Hp} (e : Le Hs Hs') {d : D} {a : Addr} (h : OIs G Hs H d a) (k : H' a = H a) : OIs G Hs' H' d a := by
  cases d with
  | lst xs =>
    obtain ⟨vs, e1, e2⟩ := h
    exact ⟨vs, by rw [k]; exact e1, IsL.mono e _ _ e2⟩
  | dK ks ds =>
    obtain ⟨vs, e1, e3, e2⟩ := h
    exact ⟨vs, by rw [k]; exact e1, e3, IsL.mono e _ _ e2⟩
  | dT ks ds =>
    obtain ⟨vs, e1, e3, e2⟩ := h
    exact ⟨vs, by rw [k]; exact e1, e3, IsL.mono e _ _ e2⟩
  | non => exact h.elim
  | bl b => exact h.elim
  | int i => exact h.elim
  | str x => exact h.elim
  | tup xs => exact h.elim
  | fn x => exact h.elim
  | scr ns => exact h.elim
  | ctup xs => exact h.elim
theorem OIs.there {G : Gm} {Hs H : Hp} {d : D} {a : Addr} (h : OIs G Hs H d a) : ∃ o, H a = some o ∧ (∀ ps, o ≠ .tbl ps) ∧ L2.Mut (some o) := by
  cases d with
  | lst xs =>
    obtain ⟨vs, e1, e2⟩ := h
    exact ⟨_, e1, fun ps z => (by cases z), True.intro⟩
  | dK ks ds =>
    obtain ⟨vs, e1, e3, e2⟩ := h
    exact ⟨_, e1, fun ps z => (by cases z), True.intro⟩
  | dT ks ds =>
    obtain ⟨vs, e1, e3, e2⟩ := h
    exact ⟨_, e1, fun ps z => (by cases z), True.intro⟩
  | non => exact h.elim
  | bl b => exact h.elim
  | int i => exact h.elim
  | str x => exact h.elim
  | tup xs => exact h.elim
  | fn x => exact h.elim
  | scr ns => exact h.elim
  | ctup xs => exact h.elim
theorem OIs.mut {G : Gm} {Hs H : Hp} {d : D} {a : Addr} (h : OIs G Hs H d a) : L2.Mut (H a) := by
  obtain ⟨o, e, _, m⟩ := h.there
  rw [e]
  exact m
/-- an owned object that is let go is shared data -/
theorem OIs.is {G : Gm} {Hs Hs' H : Hp} {d : D} {a : Addr} (h : OIs G Hs H d a) (e : Le Hs Hs') (k : ∀ o, H a = some o → Hs' a = some o) : Is G Hs' d (.ref a) := by
  cases d with
  | lst xs =>
    obtain ⟨vs, e1, e2⟩ := h
    exact ⟨a, vs, rfl, k _ e1, IsL.mono e _ _ e2⟩
  | dK ks ds =>
    obtain ⟨vs, e1, e3, e2⟩ := h
    exact ⟨a, vs, rfl, k _ e1, e3, IsL.mono e _ _ e2⟩
  | dT ks ds =>
    obtain ⟨vs, e1, e3, e2⟩ := h
    exact ⟨a, vs, rfl, k _ e1, e3, IsL.mono e _ _ e2⟩
  | non => exact h.elim
  | bl b => exact h.elim
  | int i => exact h.elim
  | str x => exact h.elim
  | tup xs => exact h.elim
  | fn x => exact h.elim
  | scr ns => exact h.elim
  | ctup xs => exact h.elim
theorem SlotOk.mono {G : Gm} {Hs Hs' H H' : Hp} (e : Le Hs Hs') {s : Slot} {x : Option V} (h : SlotOk G Hs H s x) (k : ∀ d a, s = .o d → x = some (.ref a) → H' a = H a) : SlotOk G Hs' H' s x := by
  cases s with
  | no => trivial
  | v d =>
    obtain ⟨v, e1, e2⟩ := h
    exact ⟨v, e1, Is.mono e _ _ e2⟩
  | o d =>
    obtain ⟨a, e1, e2⟩ := h
    exact ⟨a, e1, e2.mono e (k d a rfl e1)⟩

/-- the tables of code objects; the slots that stay as they are -/
structure Tb where
  tabs : List (Addr × Str)
  pins : List (Nat × Addr)
  old : Hp
  vis : Hp
def TabP (T : Tb) (σ : St) (H : Hp) : Prop := Tabs T.tabs H ∧ ∀ p ∈ T.pins, σ[p.1]? = some (some (.ref p.2))
def Fr (T : Tb) (i : Nat) : Prop := ∀ p ∈ T.pins, p.1 ≠ i
theorem TabP.ext {T : Tb} {σ : St} {H H' : Hp} (t : TabP T σ H) (e : ∀ b o, H b = some o → H' b = some o) : TabP T σ H' := ⟨t.1.ext e, t.2⟩
theorem TabP.set {T : Tb} {σ : St} {H : Hp} (t : TabP T σ H) {i : Nat} (f : Fr T i) (x : Option V) : TabP T (σ.set i x) H := ⟨t.1, fun p hp => by
  rw [List.getElem?_set_ne (f p hp).symm]
  exact t.2 p hp⟩
/-- what was there at the frame's start stays, the slots own none of it -/
structure OldP (T : Tb) (σ : St) (H : Hp) (env : Env') : Prop where
  kp : ∀ a o, T.old a = some o → (∀ ps, o ≠ .tbl ps) → H a = some o
  dm : ∀ a, T.old a ≠ none → H a ≠ none
  ow : ∀ a, Ow σ env a → T.old a = none
theorem OldP.to {T : Tb} {σ σ' : St} {H H' : Hp} {env env' : Env'} (t : OldP T σ H env) (hk : ∀ a o, T.old a = some o → (∀ ps, o ≠ .tbl ps) → H a = some o → H' a = some o) (hd : ∀ a, T.old a ≠ none → H a ≠ none → H' a ≠ none) (hw : ∀ a, Ow σ' env' a → Ow σ env a ∨ T.old a = none) : OldP T σ' H' env' :=
  ⟨fun a o e n => hk a o e n (t.kp a o e n), fun a e => hd a e (t.dm a e), fun a z => (hw a z).elim (t.ow a) id⟩
theorem OldP.nil {T : Tb} {σ : St} {H : Hp} {env : Env'} (h : T.old = fun _ => none) : OldP T σ H env where
  kp := fun a o e => by
    rw [h] at e
    cases e
  dm := fun a e => absurd (congrFun h a) e
  ow := fun a _ => congrFun h a
theorem OldP.free {T : Tb} {σ : St} {H : Hp} {env : Env'} (t : OldP T σ H env) {a : Addr} (n : H a = none ∨ Ow σ env a) : T.old a = none := by
  rcases n with n | n
  · cases q : T.old a with
    | none => rfl
    | some o => exact absurd n (t.dm a (by rw [q]; simp))
  · exact t.ow a n
/-- the state at a place of the code: T the tables of code objects -/
structure Sta (G : Gm) (T : Tb) (F : Addr → Prop) (σ : St) (H : Hp) (env : Env') : Prop where
  len : env.length = σ.length
  sl : ∀ (i : Nat) s, env[i]? = some s → ∃ x, σ[i]? = some x ∧ SlotOk G (hid H (Hd F σ env)) H s x
  dis : ∀ (i j : Nat) d e a, env[i]? = some (.o d) → env[j]? = some (.o e) → σ[i]? = some (some (.ref a)) → σ[j]? = some (some (.ref a)) → i = j
  fr : ∀ a, Ow σ env a → ¬ F a
  fd : ∀ a, F a → L2.Mut (H a)
  tab : TabP T σ H
  old : OldP T σ H env
  vis : Le T.vis (hid H (Hd F σ env))
theorem Sta.fn {G : Gm} {T : Tb} {F : Addr → Prop} {σ : St} {H : Hp} {env : Env'} (S : Sta G T F σ H env) (a : Addr) (h : F a) : H a ≠ none := fun e => by
  have q := S.fd a h
  rw [e] at q
  exact q
/-- from a state to a later one -/
structure Stp (σ : St) (H : Hp) (env : Env') (σ' : St) (H' : Hp) (env' : Env') : Prop where
  keep : ∀ a o, H a = some o → (∀ ps, o ≠ .tbl ps) → ¬ Ow σ env a → H' a = some o
  own : ∀ a, H a ≠ none → ¬ Ow σ env a → ¬ Ow σ' env' a
  dom : ∀ a, H a ≠ none → H' a ≠ none
theorem Stp.refl {σ : St} {H : Hp} {env : Env'} : Stp σ H env σ H env := ⟨fun _ _ h _ _ => h, fun _ _ h => h, fun _ h => h⟩
theorem Stp.trans {σ σ1 σ2 : St} {H H1 H2 : Hp} {env env1 env2 : Env'} (a : Stp σ H env σ1 H1 env1) (b : Stp σ1 H1 env1 σ2 H2 env2) : Stp σ H env σ2 H2 env2 where
  keep := fun x o h n k => b.keep x o (a.keep x o h n k) n (a.own x (by rw [h]; simp) k)
  own := fun x h k => b.own x (a.dom x h) (a.own x h k)
  dom := fun x h => b.dom x (a.dom x h)
theorem Stp.le {σ σ' : St} {H H' : Hp} {env env' : Env'} (s : Stp σ H env σ' H' env') (F : Addr → Prop) : Le (hid H (Hd F σ env)) (hid H' (Hd F σ' env')) :=
  Le.hid fun a o e n h => by
    have h1 : ¬ Ow σ env a := fun z => h (.inl z)
    have h2 : ¬ F a := fun z => h (.inr z)
    refine ⟨fun z => ?_, s.keep a o e n h1⟩
    rcases z with z | z
    · exact s.own a (by rw [e]; simp) h1 z
    · exact h2 z

section
variable {G : Gm} {T : Tb} {F : Addr → Prop} {σ : St} {H : Hp} {env : Env'}
theorem Sta.val (S : Sta G T F σ H env) {i : Nat} {d : D} (h : env[i]? = some (.v d)) : ∃ v, σ[i]? = some (some v) ∧ Is G (hid H (Hd F σ env)) d v := by
  obtain ⟨x, e, v, rfl, k⟩ := S.sl i _ h
  exact ⟨v, e, k⟩
theorem Sta.own (S : Sta G T F σ H env) {i : Nat} {d : D} (h : env[i]? = some (.o d)) : ∃ a, σ[i]? = some (some (.ref a)) ∧ OIs G (hid H (Hd F σ env)) H d a ∧ Ow σ env a := by
  obtain ⟨x, e, a, rfl, k⟩ := S.sl i _ h
  exact ⟨a, e, k, ⟨i, d, h, e⟩⟩
/-- slots that are set to what is known -/
theorem get_set {α : Type} {l : List α} {i j : Nat} {x y : α} (h : (l.set i x)[j]? = some y) : (i = j ∧ y = x ∧ i < l.length) ∨ (i ≠ j ∧ l[j]? = some y) := by
  by_cases e : i = j
  · subst e
    by_cases q : i < l.length
    · rw [List.getElem?_set_self q] at h
      exact .inl ⟨rfl, (Option.some.inj h).symm, q⟩
    · rw [List.getElem?_eq_none (by simpa using q)] at h
      cases h
  · rw [List.getElem?_set_ne e] at h
    exact .inr ⟨e, h⟩
/-- an owned slot is let go: it is shared data from now on -/
theorem Sta.letGo (S : Sta G T F σ H env) {i : Nat} {d : D} (h : env[i]? = some (.o d)) : Sta G T F σ H (env.set i (.v d)) ∧ Stp σ H env σ H (env.set i (.v d)) ∧ ∃ v, σ[i]? = some (some v) ∧ Is G (hid H (Hd F σ (env.set i (.v d)))) d v := by
  obtain ⟨a, ea, oa, wa⟩ := S.own h
  have sub : ∀ b, Ow σ (env.set i (.v d)) b → Ow σ env b ∧ b ≠ a := fun b ⟨j, e, h1, h2⟩ => by
    rcases get_set h1 with ⟨_, q, _⟩ | ⟨q, h1⟩
    · cases q
    · refine ⟨⟨j, e, h1, h2⟩, fun z => q ?_⟩
      rw [z] at h2
      exact S.dis i j d e a h h1 ea h2
  have na : ¬ Hd F σ (env.set i (.v d)) a := fun z => by
    rcases z with z | z
    · exact (sub a z).2 rfl
    · exact S.fr a wa z
  have le : Le (hid H (Hd F σ env)) (hid H (Hd F σ (env.set i (.v d)))) := Le.hid fun b o e n k => ⟨fun z => k (by
    rcases z with z | z
    · exact .inl (sub b z).1
    · exact .inr z), e⟩
  have isd : Is G (hid H (Hd F σ (env.set i (.v d)))) d (.ref a) := oa.is le fun o e => hid_some.mpr ⟨na, e⟩
  refine ⟨⟨?_, fun j s e => ?_, fun j k x y b h1 h2 h3 h4 => ?_, fun b z => S.fr b (sub b z).1, S.fd, S.tab, S.old.to (fun _ _ _ _ h => h) (fun _ _ h => h) fun b z => .inl (sub b z).1, S.vis.trans le⟩, ⟨fun _ _ e _ _ => e, fun b _ k z => k (sub b z).1, fun _ e => e⟩, .ref a, ea, isd⟩
  · rw [List.length_set]; exact S.len
  · rcases get_set e with ⟨e1, e2, _⟩ | ⟨_, e⟩
    · subst e1 e2
      exact ⟨_, ea, .ref a, rfl, isd⟩
    · obtain ⟨x, e1, e2⟩ := S.sl j s e
      exact ⟨x, e1, e2.mono le fun _ _ _ _ => rfl⟩
  · rcases get_set h1 with ⟨_, q, _⟩ | ⟨_, h1⟩
    · cases q
    rcases get_set h2 with ⟨_, q, _⟩ | ⟨_, h2⟩
    · cases q
    exact S.dis j k x y b h1 h2 h3 h4
/-- more is hidden by nobody: what was another's alone is let go -/
theorem Sta.open (S : Sta G T (fun b => F b ∨ b = a) σ H env) : Sta G T F σ H env := by
  have le : Le (hid H (Hd (fun b => F b ∨ b = a) σ env)) (hid H (Hd F σ env)) := Le.hid fun b o e n k => ⟨fun z => k (by
    rcases z with z | z
    · exact .inl z
    · exact .inr (.inl z)), e⟩
  exact ⟨S.len, fun i s e => let ⟨x, e1, e2⟩ := S.sl i s e; ⟨x, e1, e2.mono le fun _ _ _ _ => rfl⟩, S.dis, fun b z k => S.fr b z (.inl k), fun b z => S.fd b (.inl z), S.tab, S.old, S.vis.trans le⟩
end
end Rf

namespace Rf
open PySem L2 LamX

/-! ## what a piece of code comes to -/
inductive Ro (α : Type) where
  | ok (a : α) (env : Env') | exc (c : Str) (p : Option (Str × D)) (env : Env') | stk
def Ro.bind {α β : Type} (r : Ro α) (g : α → Env' → Ro β) : Ro β := match r with
  | .ok a e => g a e
  | .exc c p e => .exc c p e
  | .stk => .stk
def lift {α : Type} (o : Option α) (env : Env') : Ro α := match o with
  | some a => .ok a env
  | none => .stk
/-- an exception as it flies -/
def ExcIs (G : Gm) (Hs H : Hp) (c : Str) (p : Option (Str × D)) (cls : Value) (dd : Option Addr) : Prop :=
  ∃ C, G.mg c = some (.ref C) ∧ cls = .ref C ∧ match p with
    | none => dd = none
    | some (f, d) => ∃ x v, dd = some x ∧ H x = some (.xd [(f, v)]) ∧ Is G Hs d v
abbrev Rel (α β : Type) := Hp → α → β → Prop
section
variable {α β γ δ : Type} (G : Gm) (T : Tb) (R : Rel α β) (F : Addr → Prop) (σ : St) (H : Hp) (env : Env') (W : WX) (Q : β → Hp → Prop)
def Rst : Ro α → Prop
  | .ok a env' => ∀ b H', Stp σ H env σ H' env' → Sta G T F σ H' env' → R (hid H' (Hd F σ env')) a b → Q b H'
  | .exc c p env' => ∀ cls dd H', Stp σ H env σ H' env' → Sta G T F σ H' env' → ExcIs G (hid H' (Hd F σ env')) H' c p cls dd → W cls dd σ H'
  | .stk => False
end
/-- the reading of a piece of code by what it comes to -/
def rd {α β : Type} (G : Gm) (T : Tb) (R : Rel α β) (f : Env' → Ro α) (W : WX) : St → Hp → (β → Hp → Prop) → Prop := fun σ H Q => ∃ (F : Addr → Prop) (env : Env'), Sta G T F σ H env ∧ Rst G T R F σ H env W Q (f env)
section
variable {α β γ δ : Type} {G : Gm} {T : Tb} {R : Rel α β} {R2 : Rel γ δ} {F : Addr → Prop} {σ : St} {H H1 : Hp} {env env1 : Env'} {W : WX}
theorem Rst.later {Q : β → Hp → Prop} {r : Ro α} (h : Rst G T R F σ H env W Q r) (s : Stp σ H env σ H1 env1) : Rst G T R F σ H1 env1 W Q r := by
  cases r with
  | ok a e => exact fun b H' s' => h b H' (s.trans s')
  | exc c p e => exact fun cls dd H' s' => h cls dd H' (s.trans s')
  | stk => exact h
theorem rd_bind {f : Env' → Ro α} {g : α → Env' → Ro γ} {Q : δ → Hp → Prop} {K : β → Hp → Prop} (h : rd G T R2 (fun env => (f env).bind g) W σ H Q)
    (k : ∀ F env a b H1, Sta G T F σ H1 env → R (hid H1 (Hd F σ env)) a b → Rst G T R2 F σ H1 env W Q (g a env) → K b H1) : rd G T R f W σ H K := by
  obtain ⟨F, env, S, h⟩ := h
  refine ⟨F, env, S, ?_⟩
  cases e : f env with
  | ok a e1 =>
    simp only [e, Ro.bind] at h
    exact fun b H' s st r => k F e1 a b H' st r (h.later s)
  | exc c p e1 =>
    simp only [e, Ro.bind] at h
    exact h
  | stk =>
    simp only [e, Ro.bind] at h
    exact h
theorem Rst.bind {f : Ro α} {g : α → Env' → Ro γ} {Q : δ → Hp → Prop} {K : β → Hp → Prop} (S : Sta G T F σ H env) (h : Rst G T R2 F σ H env W Q (f.bind g))
    (k : ∀ a b H1 env1, Stp σ H env σ H1 env1 → Sta G T F σ H1 env1 → R (hid H1 (Hd F σ env1)) a b → Rst G T R2 F σ H1 env1 W Q (g a env1) → K b H1) : Rst G T R F σ H env W K f := by
  cases f with
  | ok a e1 =>
    exact fun b H' s st r => k a b H' e1 s st r (Rst.later (r := g a e1) h s)
  | exc c p e1 => exact h
  | stk => exact h
end

/-! ## heaps that grow -/
def New (H H' : Hp) : Prop := ∀ a o, H a = some o → H' a = some o
theorem New.refl (H : Hp) : New H H := fun _ _ h => h
theorem New.trans {H H1 H2 : Hp} (a : New H H1) (b : New H1 H2) : New H H2 := fun x o h => b x o (a x o h)
theorem New.dom {H H' : Hp} (n : New H H') {a : Addr} (h : H a ≠ none) : H' a ≠ none := by
  cases q : H a with
  | none => exact absurd q h
  | some o => rw [n a o q]; simp
theorem New.upd {H : Hp} {p : Addr} {o : HO} (h : H p = none) : New H (upd H p o) := fun a u e => by
  rw [upd_ne (ne_of_none e h)]
  exact e
section
variable {G : Gm} {T : Tb} {F : Addr → Prop} {σ : St} {H H' : Hp} {env : Env'}
theorem mut_keep {H H' : Hp} {a : Addr} (m : L2.Mut (H a)) (k : ∀ o, H a = some o → (∀ ps, o ≠ .tbl ps) → H' a = some o) : L2.Mut (H' a) := by
  cases q : H a with
  | none => rw [q] at m; exact m.elim
  | some o =>
    rw [q] at m
    rw [k o q fun ps z => by rw [z] at m; exact m.elim]
    exact m
theorem Sta.hd_mut (S : Sta G T F σ H env) {a : Addr} (h : Hd F σ env a) : L2.Mut (H a) := by
  rcases h with ⟨i, d, h1, h2⟩ | h
  · obtain ⟨x, e, k⟩ := S.sl i _ h1
    rw [h2] at e
    obtain rfl := Option.some.inj e
    obtain ⟨a', e', k⟩ := k
    obtain rfl : a = a' := by cases e'; rfl
    exact k.mut
  · exact S.fd a h
theorem Sta.hd_there (S : Sta G T F σ H env) {a : Addr} (h : Hd F σ env a) : H a ≠ none := fun e => by
  have m := S.hd_mut h
  rw [e] at m
  exact m
theorem New.le (n : New H H') (S : Sta G T F σ H env) : Le (hid H (Hd F σ env)) (hid H' (Hd F σ env)) := Le.hid fun a o e _ k => ⟨k, n a o e⟩
theorem Sta.new (S : Sta G T F σ H env) (n : New H H') : Sta G T F σ H' env := by
  refine ⟨S.len, fun i s e => ?_, S.dis, S.fr, fun a z => ?_, S.tab.ext n, S.old.to (fun a o _ _ h => n a o h) (fun a _ h => n.dom h) fun _ z => .inl z, S.vis.trans (n.le S)⟩
  · obtain ⟨x, e1, e2⟩ := S.sl i s e
    refine ⟨x, e1, e2.mono (n.le S) fun d a es ex => ?_⟩
    subst es ex
    obtain ⟨a', e', k⟩ := e2
    obtain rfl : a = a' := by cases e'; rfl
    obtain ⟨o, z, _⟩ := k.there
    rw [z, n _ _ z]
  · have m := S.fd a z
    cases q : H a with
    | none => exact absurd q (S.fn a z)
    | some o =>
      rw [n a o q]
      rwa [q] at m
theorem New.stp (n : New H H') : Stp σ H env σ H' env := ⟨fun a o e _ _ => n a o e, fun _ _ k => k, fun a h => by
  cases q : H a with
  | none => exact absurd q h
  | some o => rw [n a o q]; simp⟩
theorem hd_or {p a : Addr} (z : Hd (fun b => F b ∨ b = p) σ env a) : Hd F σ env a ∨ a = p := by
  rcases z with z | z | z
  · exact .inl (.inl z)
  · exact .inl (.inr z)
  · exact .inr z
theorem Sta.leNew (S : Sta G T F σ H env) {p : Addr} {o : HO} (h : H p = none) : Le (hid H (Hd F σ env)) (hid (upd H p o) (Hd (fun b => F b ∨ b = p) σ env)) := Le.hid fun a u e _ k => by
  refine ⟨fun z => ?_, New.upd h a u e⟩
  rcases hd_or z with z | z
  · exact k z
  · rw [z, h] at e
    cases e
/-- a new object, hidden -/
theorem Sta.newHid (S : Sta G T F σ H env) {p : Addr} {o : HO} (h : H p = none) (m : L2.Mut (some o) := by exact True.intro) : Sta G T (fun b => F b ∨ b = p) σ (upd H p o) env := by
  have n : New H (upd H p o) := New.upd h
  have hp : ∀ a, Hd F σ env a → a ≠ p := fun a z e => S.hd_there z (by rw [e]; exact h)
  have le := S.leNew (o := o) h
  refine ⟨S.len, fun i s e => ?_, S.dis, fun a z k => ?_, fun a z => ?_, S.tab.ext n, S.old.to (fun a o _ _ h => n a o h) (fun a _ h => n.dom h) fun _ z => .inl z, S.vis.trans le⟩
  · obtain ⟨x, e1, e2⟩ := S.sl i s e
    refine ⟨x, e1, e2.mono le fun d a es ex => ?_⟩
    subst es ex
    rw [upd_ne (hp a (.inl ⟨i, d, e, e1⟩))]
  · rcases k with k | k
    · exact S.fr a z k
    · exact hp a (.inl z) k
  · rcases z with z | z
    · rw [upd_ne (hp a (.inr z))]
      exact S.fd a z
    · rw [z, upd_same]
      exact m
end

/-! ## the judgements -/
abbrev gm (X : Cx) : Gm := ⟨X.K, X.mg⟩
/-- what a context must give -/
structure Ctx (X : Cx) (k : Nat) : Prop where
  room : Room k X.A
  gd : X.A.guards = some []
  calm : X.calm = true
  nd : X.N.Nodup
/-- .. in an except suite, too -/
structure Cs (X : Cx) : Prop where
  hu : X.A.units + 100 < cLine
  nd : X.N.Nodup
theorem Ctx.cs {X : Cx} {k : Nat} (C : Ctx X k) : Cs X := ⟨by have := C.room.un; omega, C.nd⟩
def isD (G : Gm) : Rel D V := fun Hs d v => Is G Hs d v
def isB : Rel Bool Bool := fun _ a b => a = b
def isA (G : Gm) : Rel (List D) (List V) := fun Hs ds vs => IsL G Hs ds vs
def SE (X : Cx) (T : Tb) (W : WX) (e : Expr) (f : Env' → Ro D) : Prop := PE X e (rd (gm X) T (isD (gm X)) f W)
def SQ (X : Cx) (T : Tb) (W : WX) (e : Expr) (f : Env' → Ro Bool) : Prop := PT X e (rd (gm X) T isB f W)
def SW (X : Cx) (T : Tb) (W : WX) (e : Expr) (f : Env' → Ro Bool) : Prop := PW X e (rd (gm X) T isB f W)
def SA (X : Cx) (T : Tb) (W : WX) (es : List Expr) (f : Env' → Ro (List D)) : Prop := PA X es (rd (gm X) T (isA (gm X)) f W)
theorem PE.weak {X : Cx} {e : Expr} {t u : TE} (h : PE X e t) (k : ∀ σ H Q, u σ H Q → t σ H Q) : PE X e u := ⟨fun pins s σ H Q I q => h.run pins s σ H Q I (k σ H Q q)⟩
theorem PT.weak {X : Cx} {e : Expr} {t u : TT} (h : PT X e t) (k : ∀ σ H Q, u σ H Q → t σ H Q) : PT X e u := ⟨fun pins s σ H Q I q => h.run pins s σ H Q I (k σ H Q q)⟩
theorem PW.weak {X : Cx} {e : Expr} {t u : TT} (h : PW X e t) (k : ∀ σ H Q, u σ H Q → t σ H Q) : PW X e u := ⟨fun wh pins s σ H Q I q => h.run wh pins s σ H Q I (k σ H Q q)⟩
theorem PA.weak {X : Cx} {es : List Expr} {t u : TA} (h : PA X es t) (k : ∀ σ H Q, u σ H Q → t σ H Q) : PA X es u := ⟨fun pos pins s σ H Q I q => h.run pos pins s σ H Q I (k σ H Q q)⟩
theorem PS.weak {X : Cx} {e : Stmt} {t u : TS} (h : PS X e t) (k : ∀ D σ H, u D σ H → t D σ H) : PS X e u := ⟨fun pins s σ H D I q => h.run pins s σ H D I (k D σ H q)⟩
theorem PSs.weak {X : Cx} {e : List Stmt} {t u : TS} (h : PSs X e t) (k : ∀ D σ H, u D σ H → t D σ H) : PSs X e u := ⟨fun pins s σ H D I q => h.run pins s σ H D I (k D σ H q)⟩
theorem PI.weak {X : Cx} {tg it : Expr} {t u : TI} (h : PI X tg it t) (k : ∀ σ H R, u σ H R → t σ H R) : PI X tg it u := ⟨fun pins s σ H R I q => h.run pins s σ H R I (k σ H R q)⟩

/-! a new object as a result: owned by nobody yet -/
def RstF (G : Gm) (T : Tb) (F : Addr → Prop) (σ : St) (H : Hp) (env : Env') (W : WX) (Q : VK) : Ro D → Prop
  | .ok d env' => ∀ a H', Stp σ H env σ H' env' → Sta G T (fun b => F b ∨ b = a) σ H' env' → OIs G (hid H' (Hd (fun b => F b ∨ b = a) σ env')) H' d a → H a = none → Q (.ref a) H'
  | .exc c p env' => ∀ cls dd H', Stp σ H env σ H' env' → Sta G T F σ H' env' → ExcIs G (hid H' (Hd F σ env')) H' c p cls dd → W cls dd σ H'
  | .stk => False
def rdF (G : Gm) (T : Tb) (f : Env' → Ro D) (W : WX) : TE := fun σ H Q => ∃ (F : Addr → Prop) (env : Env'), Sta G T F σ H env ∧ RstF G T F σ H env W Q (f env)
def SF (X : Cx) (T : Tb) (W : WX) (e : Expr) (f : Env' → Ro D) : Prop := PE X e (rdF (gm X) T f W)
theorem le_open {G : Gm} {F : Addr → Prop} {σ : St} {H : Hp} {env : Env'} {a : Addr} : Le (hid H (Hd (fun b => F b ∨ b = a) σ env)) (hid H (Hd F σ env)) := Le.hid fun b o e n k => ⟨fun z => k (by
    rcases z with z | z
    · exact .inl z
    · exact .inr (.inl z)), e⟩
theorem OIs.open {G : Gm} {T : Tb} {F : Addr → Prop} {σ : St} {H H0 : Hp} {env : Env'} {a : Addr} {d : D} (h : OIs G (hid H (Hd (fun b => F b ∨ b = a) σ env)) H d a) (S : Sta G T (fun b => F b ∨ b = a) σ H env) (k : ¬ F a) : Is G (hid H (Hd F σ env)) d (.ref a) :=
  h.is (le_open (G := G)) fun o e => hid_some.mpr ⟨fun z => by
    rcases z with z | z
    · exact S.fr a z (.inr rfl)
    · exact k z, e⟩
section
variable {G : Gm} {T : Tb} {F : Addr → Prop} {σ : St} {H H1 : Hp} {env env1 : Env'} {W : WX}
theorem RstF.later {Q : VK} {r : Ro D} (h : RstF G T F σ H env W Q r) (s : Stp σ H env σ H1 env1) : RstF G T F σ H1 env1 W Q r := by
  cases r with
  | ok a e => exact fun b H' s' st o n => h b H' (s.trans s') st o (by
      cases q : H b with
      | none => rfl
      | some u => exact absurd n (s.dom b (by rw [q]; simp)))
  | exc c p e => exact fun cls dd H' s' => h cls dd H' (s.trans s')
  | stk => exact h
theorem rdF_bind {α β : Type} {R : Rel α β} {f : Env' → Ro α} {g : α → Env' → Ro D} {Q : VK} {K : β → Hp → Prop} (h : rdF G T (fun env => (f env).bind g) W σ H Q)
    (k : ∀ F env a b H1, Sta G T F σ H1 env → R (hid H1 (Hd F σ env)) a b → RstF G T F σ H1 env W Q (g a env) → K b H1) : rd G T R f W σ H K := by
  obtain ⟨F, env, S, h⟩ := h
  refine ⟨F, env, S, ?_⟩
  cases e : f env with
  | ok a e1 =>
    simp only [e, Ro.bind] at h
    exact fun b H' s st r => k F e1 a b H' st r (h.later s)
  | exc c p e1 =>
    simp only [e, Ro.bind] at h
    exact h
  | stk =>
    simp only [e, Ro.bind] at h
    exact h
end
theorem SF.se {X : Cx} {T : Tb} {W : WX} {e : Expr} {f : Env' → Ro D} (h : SF X T W e f) : SE X T W e f := PE.weak h fun σ H Q q => by
  obtain ⟨F, env, S, q⟩ := q
  refine ⟨F, env, S, ?_⟩
  cases e : f env with
  | ok d e1 =>
    rw [e] at q
    intro a H' s st o n
    exact q _ H' s st.open (o.open (H0 := H) st fun z => S.fn a z n)
  | exc c p e1 =>
    rw [e] at q
    exact q
  | stk =>
    rw [e] at q
    exact q
end Rf

namespace Rf
open PySem L2 LamX
/-! tuple * 1 -/
section
open PySem PySem.Spec PyProof.Rows
theorem tuple_mul1 (l : Addr) (items : Array Value) (n : Nat) (dd : Option Addr) (sl : Array (Option Value)) (u : Tok) :
    Meets (Builtin.«tuple.__mul__» ⟨[.ref l, .int 1 u], []⟩) (fun _ R s => s.heap.get? l = some { cls := .type "tuple", dict := dd, data := .seq items n, slots := sl } ∧
      R (.ok (.ret (Value.ref l))) s) :=
  .of_wp fun prog w A R s h => by
    obtain ⟨hp, g, d, tk, os⟩ := s
    obtain ⟨hl, h⟩ := h
    have f1 := AutoSeq1.idx_int
    wp_walk using wpAny_loadPart' hl
    exact ⟨_, rfl, h⟩
def rRepT1 (K : PySem.W.Frag) : L2.R2 := fun x y H Q => ∃ l xs, x = .ref l ∧ y = .int 1 ∧ L2.SqT K H l xs ∧ Q (.ref l) H
theorem op_repT1 {X : L2.Cx} : L2.OpR X (binaryOp .Mult) (rRepT1 X.K) := by
  intro pins s σ H x y v u Q I rx ry h
  obtain ⟨l, xs, rfl, rfl, hT, q⟩ := h
  cases rx
  obtain ⟨t, rfl⟩ := ry
  obtain ⟨its, r, ⟨⟨cls, dd, data, sl⟩, ho, hc, n, hd⟩, hs⟩ := I.tuple hT
  simp only at hc hd
  subst hc hd
  refine wpAny_binaryOp_repeat_ref (T := "tuple") (U := "int") (by decide) ⟨_, ho, rfl⟩ (fun s' => typeIs_int s' 1 t) L2.noFill_tuple_mul F.fills_int_mul F.slot_int_rmul L2.repeat_tuple F.slot_int_index.lookup
    (call_meets F.slot_int_rmul (typeIs_int s 1 t) F.entry_int_rmul (F.args_int_rmul_2 _ _) (L2.int_rmul_tuple 1 t l its.toArray n dd sl)
      ⟨ho, rfl, ⟨_, ho, rfl⟩, call_meets F.slot_tuple_mul ⟨_, ho, rfl⟩ F.entry_tuple_mul (F.args_tuple_mul_2 _ _) (tuple_mul1 l its.toArray n dd sl t) ⟨ho, ?_⟩⟩)
  exact ⟨.ref l, _, I, rfl, q⟩
end

section
variable {G : Gm} {T : Tb} {F : Addr → Prop} {σ : St} {H H' : Hp} {env : Env'} {W : WX}
theorem fin_new {d : D} {v : V} {Q : VK} (S : Sta G T F σ H env) (n : New H H') (his : ∀ Hs', Le (hid H (Hd F σ env)) Hs' → (∀ a o, H a = none → H' a = some o → Hs' a = some o) → Is G Hs' d v)
    (h : Rst G T (isD G) F σ H env W Q (.ok d env)) : Q v H' :=
  h v H' n.stp (S.new n) (his _ (n.le S) fun a o h1 h2 => hid_some.mpr ⟨fun z => S.hd_there z h1, h2⟩)
theorem fin_same {α β : Type} {R : Rel α β} {a : α} {b : β} {Q : β → Hp → Prop} (S : Sta G T F σ H env) (r : R (hid H (Hd F σ env)) a b) (h : Rst G T R F σ H env W Q (.ok a env)) : Q b H := h b H .refl S r
/-- a new list (dict) at p as the result -/
theorem fin_newF {d : D} {p : Addr} {o : HO} {Q : VK} (S : Sta G T F σ H env) (hp : H p = none) (ho : ∀ Hs, Le (hid H (Hd F σ env)) Hs → OIs G Hs (upd H p o) d p) (h : RstF G T F σ H env W Q (.ok d env)) : Q (.ref p) (upd H p o) :=
  h p _ (New.upd hp).stp (S.newHid hp (by have q := (ho _ (Le.refl _)).mut; rwa [upd_same] at q)) (ho _ (S.leNew hp)) hp
end

/-! ## names and constants -/
def eVar (i : Nat) : Env' → Ro D := fun env => match env[i]? with
  | some (.v d) => .ok d env
  | some (.o d) => .ok d (env.set i (.v d))
  | _ => .stk
def eC (d : D) : Env' → Ro D := fun env => .ok d env
section
variable {X : Cx} {T : Tb} {W : WX} {k : Nat}
theorem se_var (i : Nat) {x : Str} {pos : Pos} (hN : X.N[i]? = some x := by rfl) (hv : Vis X.env.scope x := by first | exact Or.inl rfl | exact Or.inr (Or.inl rfl) | exact Or.inr (Or.inr rfl)) (hd : (x == ("__debug__" : Str)) = false := by decide)
    (hcd : (x == ("__classdict__" : Str)) = false := by decide) : SE X T W (.Name x pos) (eVar i) := PE.weak (pe_var hN hv hd hcd) fun σ H Q h => by
  obtain ⟨F, env, S, h⟩ := h
  unfold eVar at h
  split at h
  · rename_i d e
    obtain ⟨v, e1, e2⟩ := S.val e
    exact ⟨v, e1, h v H .refl S e2⟩
  · rename_i d e
    obtain ⟨S', st, v, e1, e2⟩ := S.letGo e
    exact ⟨v, e1, h v H st S' e2⟩
  · exact h.elim
theorem se_const {e : Expr} {v : V} {d : D} (h : PE X e (tC v)) (k : ∀ Hs, Is (gm X) Hs d v) : SE X T W e (eC d) := PE.weak h fun σ H Q h => by
  obtain ⟨F, env, S, h⟩ := h
  exact h v H .refl S (k _)
theorem se_int {i : Int} {j pos} : SE X T W (.Constant (.int i) j pos) (eC (.int i)) := se_const pe_int fun _ => rfl
theorem se_bl {b : Bool} {j pos} : SE X T W (.Constant (.bool b) j pos) (eC (.bl b)) := se_const pe_bl fun _ => rfl
theorem se_non {j pos} : SE X T W (.Constant .none j pos) (eC .non) := se_const pe_non fun _ => rfl
theorem se_str {x : Str} {j pos} : SE X T W (.Constant (.str x) j pos) (eC (.str x)) := se_const pe_str fun _ => rfl
/-- a def of the module as a value -/
theorem se_fn {x : Str} {f : Addr} {pos : Pos} (hg : Gl X x) (hm : X.mg x = some (.ref f)) (hd : (x == ("__debug__" : Str)) = false := by decide) : SE X T W (.Name x pos) (eC (.fn x)) :=
  se_const (pe_glob hg hm (v := .ref f) rfl hd) fun _ => ⟨f, rfl, hm⟩
/-- a module's constant -/
theorem se_glob {x : Str} {v : V} {u : Value} {d : D} {pos : Pos} (hg : Gl X x) (hm : X.mg x = some u) (r : RelV v u) (k : ∀ Hs, Is (gm X) Hs d v) (hd : (x == ("__debug__" : Str)) = false := by decide) : SE X T W (.Name x pos) (eC d) :=
  se_const (pe_glob hg hm r hd) k

/-! ## operators -/
def OpD (G : Gm) (r : R2) (o : D → D → Option D) : Prop := ∀ {Hs H : Hp} {d1 d2 d : D} {v1 v2 : V} {Q : VK}, Le Hs H → Is G Hs d1 v1 → Is G Hs d2 v2 → o d1 d2 = some d →
  (∀ v H', New H H' → (∀ Hs', Le Hs Hs' → (∀ a o, H a = none → H' a = some o → Hs' a = some o) → Is G Hs' d v) → Q v H') → r v1 v2 H Q
def OpB (G : Gm) (r : R2) (o : D → D → Option Bool) : Prop := ∀ {Hs H : Hp} {d1 d2 : D} {b : Bool} {v1 v2 : V} {Q : VK}, Le Hs H → Is G Hs d1 v1 → Is G Hs d2 v2 → o d1 d2 = some b → Q (.bl b) H → r v1 v2 H Q
def eOp (o : D → D → Option D) (f g : Env' → Ro D) : Env' → Ro D := fun env => (f env).bind fun d1 e1 => (g e1).bind fun d2 e2 => lift (o d1 d2) e2
def eCmp (o : D → D → Option Bool) (f g : Env' → Ro D) : Env' → Ro D := eOp (fun a b => (o a b).map D.bl) f g
def qCmp (o : D → D → Option Bool) (f g : Env' → Ro D) : Env' → Ro Bool := fun env => (f env).bind fun d1 e1 => (g e1).bind fun d2 e2 => lift (o d1 d2) e2
theorem OpB.d {G : Gm} {r : R2} {o : D → D → Option Bool} (h : OpB G r o) : OpD G r (fun a b => (o a b).map D.bl) := fun {Hs H d1 d2 d v1 v2 Q} l i1 i2 e q => by
  dsimp only at e
  cases e1 : o d1 d2 with
  | none => rw [e1] at e; cases e
  | some b =>
    rw [e1] at e
    obtain rfl : D.bl b = d := Option.some.inj e
    exact h l i1 i2 e1 (q _ H (New.refl H) fun _ _ _ => rfl)
theorem rd_op {G : Gm} {r : R2} {o : D → D → Option D} {f g : Env' → Ro D} {σ : St} {H : Hp} {Q : VK} (hd : OpD G r o) (h : rd G T (isD G) (eOp o f g) W σ H Q) :
    tOp r (rd G T (isD G) f W) (rd G T (isD G) g W) σ H Q := by
  refine rd_bind h fun F env d1 v1 H1 S1 i1 h1 => ⟨F, env, S1, Rst.bind S1 h1 fun d2 v2 H2 env2 s2 S2 i2 h2 => ?_⟩
  cases e : o d1 d2 with
  | none =>
    rw [e] at h2
    exact h2.elim
  | some d =>
    rw [e] at h2
    exact hd Le.unhid (Is.mono (s2.le F) _ _ i1) i2 e fun v H' n k => fin_new S2 n k h2
theorem rd_opB {G : Gm} {r : R2} {o : D → D → Option Bool} {f g : Env' → Ro D} {σ : St} {H : Hp} {Q : Bool → Hp → Prop} (hd : OpB G r o) (h : rd G T isB (qCmp o f g) W σ H Q) :
    tTest (tOp r (rd G T (isD G) f W) (rd G T (isD G) g W)) σ H Q := by
  refine rd_bind h fun F env d1 v1 H1 S1 i1 h1 => ⟨F, env, S1, Rst.bind S1 h1 fun d2 v2 H2 env2 s2 S2 i2 h2 => ?_⟩
  cases e : o d1 d2 with
  | none =>
    rw [e] at h2
    exact h2.elim
  | some b =>
    rw [e] at h2
    exact hd Le.unhid (Is.mono (s2.le F) _ _ i1) i2 e ⟨b, rfl, fin_same S2 rfl h2⟩
variable {a b : Expr} {f g : Env' → Ro D} {pos : Pos}
theorem se_op {op : Operator} {r : R2} {o : D → D → Option D} (ho : OpR X (binaryOp op) r) (hd : OpD (gm X) r o) (ha : SE X T W a f) (hb : SE X T W b g) : SE X T W (.BinOp a op b pos) (eOp o f g) :=
  PE.weak (pe_op ho ha hb) fun σ H Q h => rd_op hd h
theorem se_cmp {op : CmpOp} {r : R2} {o : D → D → Option Bool} (ho : OpR X (compareOp op) r) (hd : OpB (gm X) r o) (hm : behindInMarks op b = false) (ha : SE X T W a f) (hb : SE X T W b g) : SE X T W (.Compare a [op] [b] pos) (eCmp o f g) :=
  PE.weak (pe_cmpR ho ha hb hm) fun σ H Q h => rd_op hd.d h
theorem sq_cmp {op : CmpOp} {r : R2} {o : D → D → Option Bool} (ho : OpR X (compareOp op) r) (hd : OpB (gm X) r o) (hm : behindInMarks op b = false) (ha : SE X T W a f) (hb : SE X T W b g) : SQ X T W (.Compare a [op] [b] pos) (qCmp o f g) :=
  PT.weak (pt_cmpR ho ha hb hm) fun σ H Q h => rd_opB hd h

/-! ints -/
def dI2 (C : Int → Int → Bool) (f : Int → Int → Int) : D → D → Option D
  | .int i, .int j => if C i j then some (.int (f i j)) else none
  | _, _ => none
theorem dI2_some {C : Int → Int → Bool} {f : Int → Int → Int} {d1 d2 d : D} (h : dI2 C f d1 d2 = some d) : ∃ i j, d1 = .int i ∧ d2 = .int j ∧ C i j = true ∧ d = .int (f i j) := by
  unfold dI2 at h
  split at h
  · rename_i i j
    split at h
    · rename_i hc
      exact ⟨i, j, rfl, rfl, hc, (Option.some.inj h).symm⟩
    · cases h
  · cases h
theorem opI2 {G : Gm} {C : Int → Int → Bool} {P : Int → Int → Prop} {f : Int → Int → Int} (hc : ∀ i j, C i j = true → P i j) : OpD G (rI P fun i j => .int (f i j)) (dI2 C f) := fun {Hs H d1 d2 d v1 v2 Q} l i1 i2 e q => by
  obtain ⟨i, j, rfl, rfl, c, rfl⟩ := dI2_some e
  exact ⟨i, j, i1, i2, hc i j c, q _ H (New.refl H) fun _ _ _ => rfl⟩
def tru2 (_ _ : Int) : Bool := true
theorem opI20 {G : Gm} {f : Int → Int → Int} : OpD G (rI0 fun i j => .int (f i j)) (dI2 tru2 f) := fun {Hs H d1 d2 d v1 v2 Q} l i1 i2 e q => by
  obtain ⟨i, j, rfl, rfl, c, rfl⟩ := dI2_some e
  exact ⟨i, j, i1, i2, q _ H (New.refl H) fun _ _ _ => rfl⟩
/-- * : together less than a hundred million bits -/
def CMulB (i j : Int) : Prop := i.natAbs.log2 + j.natAbs.log2 < 100000000
theorem CMulB.ok {i j : Int} (h : CMulB i j) : PySem.IntMulOk i j := by
  have b : ∀ x : Int, Builtin.Int.intBits x ≤ x.natAbs.log2 + 1 := fun x => by
    unfold Builtin.Int.intBits
    split <;> omega
  have h1 := b i
  have h2 := b j
  have h3 : i.natAbs.log2 + j.natAbs.log2 < 100000000 := h
  have e : bitsLine = 134217728 := by decide
  unfold PySem.IntMulOk
  intro z
  rw [Bool.and_eq_true] at z
  have z2 := z.2
  unfold Builtin.Int.intTooBig at z2
  have z3 := of_decide_eq_true z2
  rw [e] at z3
  omega
theorem op_mulB {X : Cx} : OpR X (binaryOp .Mult) (rI CMulB fun i j => .int (i * j)) := opI fun _ _ _ _ _ _ _ hc q => PyProof.Rows.mul_int q hc.ok
def okMul (i j : Int) : Bool := decide (i.natAbs.log2 + j.natAbs.log2 < 100000000)
/-- // and %: a divisor above nought, below 2 ^ 9000 -/
def CDivN (_ j : Int) : Prop := j ≠ 0 ∧ j.natAbs.log2 < 9000
/-- floored division, by a divisor of either sign -/
def divN (i j : Int) : Int := if j < 0 then (-i) / (-j) else i / j
theorem divN_eq {i j : Int} (h : j ≠ 0) : i.fdiv j = divN i j := by
  unfold divN
  split
  · rw [← Int.fdiv_eq_ediv_of_nonneg (-i) (by omega), Int.neg_fdiv_neg]
  · exact Int.fdiv_eq_ediv_of_nonneg i (by omega)
theorem op_fdivN {X : Cx} : OpR X (binaryOp .FloorDiv) (rI CDivN fun i j => .int (divN i j)) := opI fun i j _ _ _ _ _ hc q => PyProof.Rows.floordiv_int hc.1 (by rw [divN_eq hc.1]; exact q) (.inl (PyProof.noPylong_of_log2 hc.2))
def okDiv (_ j : Int) : Bool := decide (j ≠ 0 ∧ j.natAbs.log2 < 9000)
def okMod (_ j : Int) : Bool := decide (0 < j)
def okPow (i j : Int) : Bool := decide (0 ≤ j ∧ j ≤ 1000000 ∧ i.natAbs < 2 ^ 64)
def dSub : D → D → Option D := dI2 tru2 fun i j => i - j
def dMulI : D → D → Option D := dI2 okMul fun i j => i * j
def dDiv : D → D → Option D := dI2 okDiv divN
def dMod : D → D → Option D := dI2 okMod fun i j => i % j
def dPow : D → D → Option D := dI2 okPow fun i j => i ^ j.toNat
theorem od_sub : OpD (gm X) (rI0 fun i j => .int (i - j)) dSub := opI20
theorem od_mul : OpD (gm X) (rI CMulB fun i j => .int (i * j)) dMulI := opI2 fun i j h => of_decide_eq_true h
theorem od_div : OpD (gm X) (rI CDivN fun i j => .int (divN i j)) dDiv := opI2 fun i j h => of_decide_eq_true h
theorem od_mod : OpD (gm X) (rI (fun _ j => 0 < j) fun i j => .int (i % j)) dMod := opI2 fun i j h => of_decide_eq_true h
theorem od_pow : OpD (gm X) (rI CPow fun i j => .int (i ^ j.toNat)) dPow := opI2 fun i j h => of_decide_eq_true h
theorem se_sub (ha : SE X T W a f) (hb : SE X T W b g) : SE X T W (.BinOp a .Sub b pos) (eOp dSub f g) := se_op op_sub od_sub ha hb
theorem se_mulI (ha : SE X T W a f) (hb : SE X T W b g) : SE X T W (.BinOp a .Mult b pos) (eOp dMulI f g) := se_op op_mulB od_mul ha hb
theorem se_div (ha : SE X T W a f) (hb : SE X T W b g) : SE X T W (.BinOp a .FloorDiv b pos) (eOp dDiv f g) := se_op op_fdivN od_div ha hb
theorem se_mod (ha : SE X T W a f) (hb : SE X T W b g) : SE X T W (.BinOp a .Mod b pos) (eOp dMod f g) := se_op op_mod od_mod ha hb
theorem se_pow (ha : SE X T W a f) (hb : SE X T W b g) : SE X T W (.BinOp a .Pow b pos) (eOp dPow f g) := se_op op_pow od_pow ha hb
/-! + of ints, texts, tuples, lists -/
def dAddT : D → D → Option D
  | .tup xs, .tup ys => if xs.length + ys.length ≤ sizeLine then some (.tup (xs ++ ys)) else none
  | _, _ => none
def dAddL : D → D → Option D
  | .lst xs, .lst ys => if xs.length + ys.length ≤ sizeLine then some (.lst (xs ++ ys)) else none
  | _, _ => none
def dAddS : D → D → Option D
  | .str x, .str y => if x.length + y.length ≤ sizeLine then some (.str (x ++ y)) else none
  | _, _ => none
def dAddI : D → D → Option D := dI2 tru2 fun i j => i + j
def dAdd (a b : D) : Option D := match a with
  | .int _ => dAddI a b
  | .str _ => dAddS a b
  | .tup _ => dAddT a b
  | _ => dAddL a b
theorem od_addI : OpD (gm X) (rI0 fun i j => .int (i + j)) dAddI := opI20
theorem is_tup {G : Gm} {Hs H' : Hp} {xs : List D} {vs : List V} {p : Addr} (h : Hs p = some (.tup vs)) (k : IsL G Hs xs vs) : Is G Hs (.tup xs) (.ref p) := ⟨p, vs, rfl, h, k⟩
theorem od_addT : OpD (gm X) (rCatA X.K) dAddT := fun {Hs H d1 d2 d v1 v2 Q} l i1 i2 e q => by
  unfold dAddT at e
  split at e
  · rename_i xs ys
    obtain ⟨a, vs, rfl, s1, k1⟩ := i1
    obtain ⟨b, ws, rfl, s2, k2⟩ := i2
    split at e
    · rename_i hz
      obtain rfl := Option.some.inj e
      have e1 := IsL.length k1
      have e2 := IsL.length k2
      refine ⟨a, b, vs, ws, rfl, rfl, l.tq s1, l.tq s2, by omega, fun z => ?_, fun _ z => ?_, fun _ _ p hp => ?_⟩
      · subst z
        have e0 : xs = [] := List.eq_nil_of_length_eq_zero e1
        subst e0
        exact q _ H (New.refl H) fun Hs' l' n' => ⟨b, ws, rfl, l'.tp s2, IsL.mono l' _ _ k2⟩
      · subst z
        have e0 : ys = [] := List.eq_nil_of_length_eq_zero e2
        subst e0
        refine q _ H (New.refl H) fun Hs' l' n' => ?_
        rw [List.append_nil]
        exact ⟨a, vs, rfl, l'.tp s1, IsL.mono l' _ _ k1⟩
      · exact q _ _ (New.upd hp) fun Hs' l' n' => ⟨p, vs ++ ws, rfl, n' p _ hp upd_same, IsL.append (IsL.mono l' _ _ k1) (IsL.mono l' _ _ k2)⟩
    · cases e
  · cases e
theorem od_addL : OpD (gm X) rCat dAddL := fun {Hs H d1 d2 d v1 v2 Q} l i1 i2 e q => by
  unfold dAddL at e
  split at e
  · rename_i xs ys
    obtain ⟨a, vs, rfl, s1, k1⟩ := i1
    obtain ⟨b, ws, rfl, s2, k2⟩ := i2
    split at e
    · rename_i hz
      obtain rfl := Option.some.inj e
      have e1 := IsL.length k1
      have e2 := IsL.length k2
      refine ⟨a, b, vs, ws, rfl, rfl, l _ _ s1 (fun ps z => (by cases z)), l _ _ s2 (fun ps z => (by cases z)), by omega, fun p hp => ?_⟩
      exact q _ _ (New.upd hp) fun Hs' l' n' => ⟨p, vs ++ ws, rfl, n' p _ hp upd_same, IsL.append (IsL.mono l' _ _ k1) (IsL.mono l' _ _ k2)⟩
    · cases e
  · cases e
theorem od_addS : OpD (gm X) (fun x y H Q => ∃ i j, x = .str i ∧ y = .str j ∧ i.length + j.length ≤ sizeLine ∧ Q (.str (i ++ j)) H) dAddS := fun {Hs H d1 d2 d v1 v2 Q} l i1 i2 e q => by
  unfold dAddS at e
  split at e
  · rename_i xs ys
    split at e
    · rename_i hz
      obtain rfl := Option.some.inj e
      exact ⟨xs, ys, i1, i2, hz, q _ H (New.refl H) fun _ _ _ => rfl⟩
    · cases e
  · cases e
theorem OpD.or {G : Gm} {r r' : R2} {o o' : D → D → Option D} {t : D → Bool} (h : OpD G r o) (h' : OpD G r' o') : OpD G (fun x y H Q => r x y H Q ∨ r' x y H Q) (fun a b => if t a then o a b else o' a b) := fun {Hs H d1 d2 d v1 v2 Q} l i1 i2 e q => by
  dsimp only at e
  split at e
  · exact .inl (h l i1 i2 e q)
  · exact .inr (h' l i1 i2 e q)
theorem OpD.eq {G : Gm} {r : R2} {o o' : D → D → Option D} (h : OpD G r o) (e : ∀ a b, o' a b = o a b) : OpD G r o' := fun {Hs H d1 d2 d v1 v2 Q} l i1 i2 e1 q => h l i1 i2 (by rw [← e]; exact e1) q
def isI : D → Bool
  | .int _ => true
  | _ => false
def isS : D → Bool
  | .str _ => true
  | _ => false
def isT : D → Bool
  | .tup _ => true
  | _ => false
theorem se_add (ha : SE X T W a f) (hb : SE X T W b g) : SE X T W (.BinOp a .Add b pos) (eOp dAdd f g) :=
  se_op (op_add.or (op_add_str.or (op_catA.or op_cat))) (OpD.eq (OpD.or (t := isI) od_addI (OpD.or (t := isS) od_addS (OpD.or (t := isT) od_addT od_addL))) fun a b => by cases a <;> rfl) ha hb
/-! * of a list, a tuple by an int -/
def dRepL : D → D → Option D
  | .lst xs, .int k => if 0 ≤ k ∧ k < 1000000 ∧ xs.length * k.toNat ≤ sizeLine then some (.lst (List.replicate k.toNat xs).flatten) else none
  | _, _ => none
theorem IsL.rep {G : Gm} {Hs : Hp} {xs : List D} {vs : List V} (h : IsL G Hs xs vs) : ∀ k : Nat, IsL G Hs (List.replicate k xs).flatten (List.replicate k vs).flatten
  | 0 => rfl
  | k + 1 => by
    rw [List.replicate_succ, List.replicate_succ, List.flatten_cons, List.flatten_cons]
    exact IsL.append h (IsL.rep h k)
theorem od_repL : OpD (gm X) rRep dRepL := fun {Hs H d1 d2 d v1 v2 Q} l i1 i2 e q => by
  unfold dRepL at e
  split at e
  · rename_i xs k
    obtain ⟨a, vs, rfl, s1, k1⟩ := i1
    obtain rfl : v2 = .int k := i2
    split at e
    · rename_i hz
      obtain ⟨z1, z2, z3⟩ := hz
      obtain rfl := Option.some.inj e
      have e1 := IsL.length k1
      refine ⟨a, k, vs, rfl, rfl, l _ _ s1 (fun ps z => (by cases z)), by omega, by omega, by rw [← e1]; exact z3, fun p hp => ?_⟩
      exact q _ _ (New.upd hp) fun Hs' l' n' => ⟨p, _, rfl, n' p _ hp upd_same, IsL.rep (IsL.mono l' _ _ k1) _⟩
    · cases e
  · cases e
def isLst : D → Bool
  | .lst _ => true
  | _ => false
def dRepT : D → D → Option D
  | .tup xs, .int k => if 1 ≤ k ∧ k ≤ 1000 ∧ xs.length ≤ 1000 ∧ xs.isEmpty = false then some (.tup (List.replicate k.toNat xs).flatten) else none
  | _, _ => none
theorem od_repT : OpD (gm X) (fun x y H Q => rRepT1 X.K x y H Q ∨ rRepT X.K x y H Q) dRepT := fun {Hs H d1 d2 d v1 v2 Q} l i1 i2 e q => by
  unfold dRepT at e
  split at e
  · rename_i xs k
    obtain ⟨a, vs, rfl, s1, k1⟩ := i1
    obtain rfl : v2 = .int k := i2
    split at e
    · rename_i hz
      obtain ⟨z1, z2, z3, z4⟩ := hz
      obtain rfl := Option.some.inj e
      have e1 := IsL.length k1
      by_cases hk : k = 1
      · subst hk
        refine .inl ⟨a, vs, rfl, rfl, l.tq s1, q _ H (New.refl H) fun Hs' l' n' => ⟨a, vs, rfl, l'.tp s1, ?_⟩⟩
        have : (List.replicate (1 : Int).toNat xs).flatten = xs := by simp
        rw [this]
        exact IsL.mono l' _ _ k1
      · refine .inr ⟨a, k, vs, rfl, rfl, l.tq s1, fun z => ?_, by omega, z2, by omega, fun p hp => ?_⟩
        · subst z
          cases xs with
          | nil => cases z4
          | cons x r => cases e1
        · exact q _ _ (New.upd hp) fun Hs' l' n' => ⟨p, _, rfl, n' p _ hp upd_same, IsL.rep (IsL.mono l' _ _ k1) _⟩
    · cases e
  · cases e
def dMul (a b : D) : Option D := match a with
  | .lst _ => dRepL a b
  | .tup _ => dRepT a b
  | _ => dMulI a b
theorem se_mul (ha : SE X T W a f) (hb : SE X T W b g) : SE X T W (.BinOp a .Mult b pos) (eOp dMul f g) :=
  se_op (op_rep.or ((op_repT1.or op_repT).or op_mulB)) (OpD.eq (OpD.or (t := isLst) od_repL (OpD.or (t := isT) od_repT od_mul)) fun a b => by cases a <;> rfl) ha hb
theorem se_neg {u : Env' → Ro D} (ha : SE X T W a u) : SE X T W (.UnaryOp .USub a pos) (fun env => (u env).bind fun d e => match d with
    | .int i => .ok (.int (-i)) e
    | _ => .stk) := PE.weak (pe_un un_neg ha) fun σ H Q h => by
  refine rd_bind h fun F env d v H1 S1 i1 h1 => ?_
  split at h1
  · rename_i i
    exact ⟨i, i1, h1 _ H1 .refl S1 rfl⟩
  · exact h1.elim
end
end Rf

namespace Rf
open PySem L2 LamX

/-! ## comparisons -/
def bI2 (p : Int → Int → Bool) : D → D → Option Bool
  | .int i, .int j => some (p i j)
  | _, _ => none
theorem ob_I2 {G : Gm} {p : Int → Int → Bool} : OpB G (rI0 fun i j => .bl (p i j)) (bI2 p) := fun {Hs H d1 d2 b v1 v2 Q} l i1 i2 e q => by
  unfold bI2 at e
  split at e
  · rename_i i j
    obtain rfl := Option.some.inj e
    exact ⟨i, j, i1, i2, q⟩
  · cases e
/-- data as ints, all of them -/
def ints? : List D → Option (List Int)
  | [] => some []
  | .int i :: r => (ints? r).map (i :: ·)
  | _ :: _ => none
theorem ints?_is : ∀ {xs : List D} {ns : List Int}, ints? xs = some ns → xs = ns.map D.int
  | [], ns, h => by
    obtain rfl := Option.some.inj h
    rfl
  | .int i :: r, ns, h => by
    unfold ints? at h
    cases e : ints? r with
    | none => rw [e] at h; cases h
    | some ms =>
      rw [e] at h
      obtain rfl := Option.some.inj h
      rw [ints?_is e]
      rfl
  | .non :: _, ns, h => by cases h
  | .bl _ :: _, ns, h => by cases h
  | .str _ :: _, ns, h => by cases h
  | .tup _ :: _, ns, h => by cases h
  | .lst _ :: _, ns, h => by cases h
  | .dK _ _ :: _, ns, h => by cases h
  | .dT _ _ :: _, ns, h => by cases h
  | .fn _ :: _, ns, h => by cases h
  | .scr _ :: _, ns, h => by cases h
  | .ctup _ :: _, ns, h => by cases h
theorem ints?_map : ∀ ns : List Int, ints? (ns.map D.int) = some ns
  | [] => rfl
  | n :: ns => by
    show (ints? (ns.map D.int)).map (n :: ·) = _
    rw [ints?_map ns]
    rfl
def bLtT : D → D → Option Bool
  | .tup xs, .tup ys => match ints? xs, ints? ys with
    | some ns, some ms => some (HT.lexLt ns ms)
    | _, _ => none
  | _, _ => none
theorem ob_ltT {G : Gm} : OpB G (rLtT G.K) bLtT := fun {Hs H d1 d2 b v1 v2 Q} l i1 i2 e q => by
  unfold bLtT at e
  split at e
  · rename_i xs ys
    split at e
    · rename_i ns ms e1 e2
      obtain rfl := Option.some.inj e
      obtain ⟨a, vs, rfl, s1, k1⟩ := i1
      obtain ⟨c, ws, rfl, s2, k2⟩ := i2
      have q1 := ints?_is e1
      have q2 := ints?_is e2
      subst q1 q2
      obtain rfl := IsL.ints k1
      obtain rfl := IsL.ints k2
      exact ⟨a, c, ns, ms, rfl, rfl, l.tq s1, l.tq s2, q⟩
    · cases e
  · cases e
theorem OpB.or {G : Gm} {r r' : R2} {o o' : D → D → Option Bool} {t : D → Bool} (h : OpB G r o) (h' : OpB G r' o') : OpB G (fun x y H Q => r x y H Q ∨ r' x y H Q) (fun a b => if t a then o a b else o' a b) := fun {Hs H d1 d2 d v1 v2 Q} l i1 i2 e q => by
  dsimp only at e
  split at e
  · exact .inl (h l i1 i2 e q)
  · exact .inr (h' l i1 i2 e q)
theorem OpB.eq {G : Gm} {r : R2} {o o' : D → D → Option Bool} (h : OpB G r o) (e : ∀ a b, o' a b = o a b) : OpB G r o' := fun {Hs H d1 d2 d v1 v2 Q} l i1 i2 e1 q => h l i1 i2 (by rw [← e]; exact e1) q
def bLt (a b : D) : Option Bool := match a with
  | .tup _ => bLtT a b
  | _ => bI2 (fun i j => decide (i < j)) a b
def bLe : D → D → Option Bool := bI2 fun i j => decide (i ≤ j)
def bGt : D → D → Option Bool := bI2 fun i j => decide (j < i)
def bGe : D → D → Option Bool := bI2 fun i j => decide (j ≤ i)
theorem ob_lt {G : Gm} : OpB G (fun x y H Q => rLtT G.K x y H Q ∨ rI0 (fun i j => .bl (decide (i < j))) x y H Q) bLt := OpB.eq (OpB.or (t := isT) ob_ltT ob_I2) fun a b => by cases a <;> rfl

/-! ## == of data -/
mutual
def okD : Nat → D → Bool
  | _, .non => true
  | _, .bl _ => true
  | _, .int _ => true
  | _, .str x => PyData.strOk x
  | n, .tup xs => match n with
    | 0 => false
    | m + 1 => okL m xs
  | n, .lst xs => match n with
    | 0 => false
    | m + 1 => okL m xs
  | _, _ => false
def okL : Nat → List D → Bool
  | _, [] => true
  | n, x :: xs => okD n x && okL n xs
end
mutual
def toPy : D → PyData
  | .non => .none
  | .bl b => .bool b
  | .int i => .int i
  | .str x => .str x
  | .tup xs => .tuple (toPyL xs)
  | .lst xs => .list (toPyL xs)
  | .dK _ _ => .none
  | .dT _ _ => .none
  | .fn _ => .none
  | .scr _ => .none
  | .ctup _ => .none
def toPyL : List D → List PyData
  | [] => []
  | x :: xs => toPy x :: toPyL xs
end
mutual
def eqD : D → D → Bool
  | .non, .non => true
  | .bl a, .bl b => a == b
  | .bl a, .int j => (if a then 1 else 0) == j
  | .int i, .bl b => i == (if b then 1 else 0)
  | .int i, .int j => i == j
  | .str x, .str y => x == y
  | .lst xs, .lst ys => eqL xs ys
  | .tup xs, .tup ys => eqL xs ys
  | _, _ => false
def eqL : List D → List D → Bool
  | [], [] => true
  | x :: xs, y :: ys => eqD x y && eqL xs ys
  | _, _ => false
end
mutual
theorem ok_lay : ∀ (n : Nat) (d : D), okD n d = true → (toPy d).canLay0 = true ∧ (toPy d).depth ≤ n
  | n, .non, _ => ⟨rfl, Nat.zero_le _⟩
  | n, .bl _, _ => ⟨rfl, Nat.zero_le _⟩
  | n, .int _, _ => ⟨rfl, Nat.zero_le _⟩
  | n, .str x, h => ⟨h, Nat.zero_le _⟩
  | 0, .tup xs, h => by cases h
  | n + 1, .tup xs, h => by
    obtain ⟨h1, h2⟩ := okL_lay n xs h
    exact ⟨h1, Nat.succ_le_succ h2⟩
  | 0, .lst xs, h => by cases h
  | n + 1, .lst xs, h => by
    obtain ⟨h1, h2⟩ := okL_lay n xs h
    exact ⟨h1, Nat.succ_le_succ h2⟩
  | n, .dK _ _, h => by cases h
  | n, .dT _ _, h => by cases h
  | n, .fn _, h => by cases h
  | n, .scr _, h => by cases h
  | n, .ctup _, h => by cases h
theorem okL_lay : ∀ (n : Nat) (ds : List D), okL n ds = true → PyData.canLayAll0 (toPyL ds) = true ∧ PyData.depthAll (toPyL ds) ≤ n
  | n, [], _ => ⟨rfl, Nat.zero_le _⟩
  | n, x :: xs, h => by
    obtain ⟨h1, h2⟩ := Bool.and_eq_true_iff.mp (show (okD n x && okL n xs) = true from h)
    obtain ⟨a1, a2⟩ := ok_lay n x h1
    obtain ⟨b1, b2⟩ := okL_lay n xs h2
    refine ⟨?_, ?_⟩
    · show ((toPy x).canLay0 && PyData.canLayAll0 (toPyL xs)) = true
      rw [a1, b1]; rfl
    · exact Nat.max_le.mpr ⟨a2, b2⟩
end
theorem ok_shaped {d : D} (h : okD 60 d = true) : SeqAt.shaped (toPy d) = true := by
  obtain ⟨h1, h2⟩ := ok_lay 60 d h
  unfold SeqAt.shaped
  rw [h1, decide_eq_true (Nat.le_trans h2 (by decide))]
  rfl
mutual
theorem is_dp {G : Gm} {H : Hp} : ∀ (n : Nat) (d : D) (v : V), okD n d = true → Is G H d v → Dp G.K H v (toPy d)
  | n, .non, v, _, h => by
    obtain rfl : v = .non := h
    exact .non
  | n, .bl b, v, _, h => by
    obtain rfl : v = .bl b := h
    exact .bl b
  | n, .int i, v, _, h => by
    obtain rfl : v = .int i := h
    exact .int i
  | n, .str x, v, _, h => by
    obtain rfl : v = .str x := h
    exact .str x
  | 0, .tup xs, v, h, _ => by cases h
  | n + 1, .tup xs, v, h, k => by
    obtain ⟨a, vs, rfl, s, k⟩ := k
    exact .tup (.inl (.inl s)) (is_dpL n xs vs h k)
  | 0, .lst xs, v, h, _ => by cases h
  | n + 1, .lst xs, v, h, k => by
    obtain ⟨a, vs, rfl, s, k⟩ := k
    exact .lst (.inl (.inl s)) (is_dpL n xs vs h k)
  | n, .dK _ _, v, h, _ => by cases h
  | n, .dT _ _, v, h, _ => by cases h
  | n, .fn _, v, h, _ => by cases h
  | n, .scr _, v, h, _ => by cases h
  | n, .ctup _, v, h, _ => by cases h
theorem is_dpL {G : Gm} {H : Hp} : ∀ (n : Nat) (ds : List D) (vs : List V), okL n ds = true → IsL G H ds vs → DpAll G.K H vs (toPyL ds)
  | n, [], vs, _, h => by
    obtain rfl : vs = [] := h
    exact .nil
  | n, x :: xs, vs, h, k => by
    obtain ⟨h1, h2⟩ := Bool.and_eq_true_iff.mp (show (okD n x && okL n xs) = true from h)
    obtain ⟨v, r, rfl, k1, k2⟩ := k
    exact .cons (is_dp n x v h1 k1) (is_dpL n xs r h2 k2)
end
mutual
theorem eqv_eq : ∀ (d e : D) (n m : Nat), okD n d = true → okD m e = true → PyData.eqv (toPy d) (toPy e) = eqD d e
  | .non, e, n, m, _, h => by cases e <;> first | rfl | cases h
  | .bl b, e, n, m, _, h => by cases e <;> first | rfl | cases h
  | .int i, e, n, m, _, h => by cases e <;> first | rfl | cases h
  | .str x, e, n, m, _, h => by cases e <;> first | rfl | cases h
  | .tup xs, e, n, m, k, h => by
    cases n with
    | zero => cases k
    | succ n =>
      cases e with
      | tup ys =>
        cases m with
        | zero => cases h
        | succ m => exact eqvL_eq xs ys n m k h
      | _ => first | rfl | cases h
  | .lst xs, e, n, m, k, h => by
    cases n with
    | zero => cases k
    | succ n =>
      cases e with
      | lst ys =>
        cases m with
        | zero => cases h
        | succ m => exact eqvL_eq xs ys n m k h
      | _ => first | rfl | cases h
  | .dK _ _, e, n, m, k, _ => by cases k
  | .dT _ _, e, n, m, k, _ => by cases k
  | .fn _, e, n, m, k, _ => by cases k
  | .scr _, e, n, m, k, _ => by cases k
  | .ctup _, e, n, m, k, _ => by cases k
theorem eqvL_eq : ∀ (ds es : List D) (n m : Nat), okL n ds = true → okL m es = true → PyData.eqvAll (toPyL ds) (toPyL es) = eqL ds es
  | [], [], n, m, _, _ => rfl
  | [], y :: ys, n, m, _, _ => rfl
  | x :: xs, [], n, m, _, _ => rfl
  | x :: xs, y :: ys, n, m, h, k => by
    obtain ⟨h1, h2⟩ := Bool.and_eq_true_iff.mp (show (okD n x && okL n xs) = true from h)
    obtain ⟨k1, k2⟩ := Bool.and_eq_true_iff.mp (show (okD m y && okL m ys) = true from k)
    show (PyData.eqv (toPy x) (toPy y) && PyData.eqvAll (toPyL xs) (toPyL ys)) = (eqD x y && eqL xs ys)
    rw [eqv_eq x y n m h1 k1, eqvL_eq xs ys n m h2 k2]
end
def bEq (a b : D) : Option Bool := if okD 60 a && okD 60 b then some (eqD a b) else none
def bNe (a b : D) : Option Bool := if okD 60 a && okD 60 b then some (!eqD a b) else none
theorem ob_eq {G : Gm} : OpB G (rEqD G.K) bEq := fun {Hs H d1 d2 b v1 v2 Q} l i1 i2 e q => by
  unfold bEq at e
  split at e
  · rename_i h
    obtain ⟨h1, h2⟩ := Bool.and_eq_true_iff.mp h
    obtain rfl := Option.some.inj e
    exact ⟨toPy d1, toPy d2, is_dp 60 _ _ h1 (Is.mono l _ _ i1), is_dp 60 _ _ h2 (Is.mono l _ _ i2), ok_shaped h1, ok_shaped h2, by rw [eqv_eq d1 d2 60 60 h1 h2]; exact q⟩
  · cases e
theorem ob_ne {G : Gm} : OpB G (rNeD G.K) bNe := fun {Hs H d1 d2 b v1 v2 Q} l i1 i2 e q => by
  unfold bNe at e
  split at e
  · rename_i h
    obtain ⟨h1, h2⟩ := Bool.and_eq_true_iff.mp h
    obtain rfl := Option.some.inj e
    exact ⟨toPy d1, toPy d2, is_dp 60 _ _ h1 (Is.mono l _ _ i1), is_dp 60 _ _ h2 (Is.mono l _ _ i2), ok_shaped h1, ok_shaped h2, by rw [eqv_eq d1 d2 60 60 h1 h2]; exact q⟩
  · cases e
/-! in, not in -/
def flatD : D → Bool
  | .non => true
  | .bl _ => true
  | .int _ => true
  | .str _ => true
  | _ => false
def toV : D → V
  | .non => .non
  | .bl b => .bl b
  | .int i => .int i
  | .str x => .str x
  | _ => .non
theorem flat_is {G : Gm} {H : Hp} {d : D} {v : V} (h : flatD d = true) (k : Is G H d v) : v = toV d ∧ flatV v = true := by
  cases d with
  | non => obtain rfl : v = .non := k; exact ⟨rfl, rfl⟩
  | bl b => obtain rfl : v = .bl b := k; exact ⟨rfl, rfl⟩
  | int i => obtain rfl : v = .int i := k; exact ⟨rfl, rfl⟩
  | str x => obtain rfl : v = .str x := k; exact ⟨rfl, rfl⟩
  | _ => cases h
theorem flat_isL {G : Gm} {H : Hp} : ∀ {ds : List D} {vs : List V}, ds.all flatD = true → IsL G H ds vs → vs = ds.map toV ∧ vs.all flatV = true
  | [], vs, _, k => by
    obtain rfl : vs = [] := k
    exact ⟨rfl, rfl⟩
  | d :: ds, vs, h, k => by
    obtain ⟨h1, h2⟩ := Bool.and_eq_true_iff.mp (show (flatD d && ds.all flatD) = true from h)
    obtain ⟨v, r, rfl, k1, k2⟩ := k
    obtain ⟨e1, e2⟩ := flat_is h1 k1
    obtain ⟨e3, e4⟩ := flat_isL h2 k2
    refine ⟨by rw [e1, e3]; rfl, ?_⟩
    show (flatV v && r.all flatV) = true
    rw [e2, e4]
    rfl
theorem eqV_eq {d e : D} (h : flatD d = true) (k : flatD e = true) : eqV (toV d) (toV e) = eqD d e := by
  cases d <;> first | (cases h; done) | (cases e <;> first | rfl | (cases k; done))
theorem anyV_eq {d : D} (k : flatD d = true) : ∀ {ds : List D}, ds.all flatD = true → (ds.map toV).any (fun y => eqV y (toV d)) = ds.any fun y => eqD y d
  | [], _ => rfl
  | x :: ds, h => by
    obtain ⟨h1, h2⟩ := Bool.and_eq_true_iff.mp (show (flatD x && ds.all flatD) = true from h)
    show (eqV (toV x) (toV d) || (ds.map toV).any fun y => eqV y (toV d)) = (eqD x d || ds.any fun y => eqD y d)
    rw [eqV_eq h1 k, anyV_eq k h2]
/-- x in t: t a tuple of flat things, or a list of data -/
def bInT (a b : D) : Option Bool := match b with
  | .tup xs => if flatD a && xs.all flatD then some (xs.any fun y => eqD y a) else none
  | .ctup xs => if flatD a && xs.all flatD then some (xs.any fun y => eqD y a) else none
  | _ => none
def bInL (a b : D) : Option Bool := match b with
  | .lst xs => if okD 60 a && okD 60 b then some (xs.any fun y => eqD y a) else none
  | _ => none
def isTup : D → Bool
  | .tup _ => true
  | .ctup _ => true
  | _ => false
theorem bInT_some {G : Gm} {Hs H : Hp} {a b : D} {c : Bool} {v : V} (l : Le Hs H) (e : bInT a b = some c) (i : Is G Hs b v) : ∃ xs p vs, v = .ref p ∧ SqT G.K H p vs ∧ IsL G Hs xs vs ∧ flatD a = true ∧ xs.all flatD = true ∧ c = xs.any fun y => eqD y a := by
  unfold bInT at e
  split at e
  · rename_i xs
    split at e
    · rename_i h
      obtain ⟨h1, h2⟩ := Bool.and_eq_true_iff.mp h
      obtain ⟨p, vs, rfl, s, k⟩ := i
      exact ⟨xs, p, vs, rfl, l.tq s, k, h1, h2, (Option.some.inj e).symm⟩
    · cases e
  · rename_i xs
    split at e
    · rename_i h
      obtain ⟨h1, h2⟩ := Bool.and_eq_true_iff.mp h
      obtain ⟨p, vs, rfl, s, k⟩ := i
      exact ⟨xs, p, vs, rfl, l.sqT s, k, h1, h2, (Option.some.inj e).symm⟩
    · cases e
  · cases e
theorem ob_inT {G : Gm} {neg : Bool} : OpB G (rIn G.K neg) (fun a b => (bInT a b).map fun c => if neg then !c else c) := fun {Hs H d1 d2 b v1 v2 Q} l i1 i2 e q => by
  dsimp only at e
  cases e0 : bInT d1 d2 with
  | none => rw [e0] at e; cases e
  | some c =>
    rw [e0] at e
    obtain rfl := Option.some.inj e
    obtain ⟨xs, a, vs, rfl, s, k, h1, h2, rfl⟩ := bInT_some l e0 i2
    obtain ⟨e1, e2⟩ := flat_is h1 i1
    obtain ⟨e3, e4⟩ := flat_isL h2 k
    refine ⟨a, vs, rfl, .inr s, e2, e4, ?_⟩
    have z : inV v1 vs = xs.any fun y => eqD y d1 := by
      rw [e1, e3]
      exact anyV_eq h1 h2
    rw [z]
    cases neg <;> exact q
theorem any_eqv {d : D} (h : okD 60 d = true) : ∀ (n : Nat) (xs : List D), okL n xs = true → (toPyL xs).any (fun z => PyData.eqv z (toPy d)) = xs.any fun y => eqD y d
  | n, [], _ => rfl
  | n, x :: xs, k => by
    obtain ⟨k1, k2⟩ := Bool.and_eq_true_iff.mp (show (okD n x && okL n xs) = true from k)
    show (PyData.eqv (toPy x) (toPy d) || (toPyL xs).any fun z => PyData.eqv z (toPy d)) = (eqD x d || xs.any fun y => eqD y d)
    rw [eqv_eq x d n 60 k1 h, any_eqv h n xs k2]
theorem ob_inL {G : Gm} : OpB G (rInD G.K) bInL := fun {Hs H d1 d2 b v1 v2 Q} l i1 i2 e q => by
  unfold bInL at e
  split at e
  · rename_i xs
    split at e
    · rename_i h
      obtain ⟨h1, h2⟩ := Bool.and_eq_true_iff.mp h
      obtain rfl := Option.some.inj e
      refine ⟨toPy d1, toPyL xs, is_dp 60 _ _ h1 (Is.mono l _ _ i1), is_dp 60 (.lst xs) _ h2 (Is.mono l _ _ i2), ok_shaped h1, ok_shaped h2, ?_⟩
      rw [any_eqv h1 59 xs h2]
      exact q
    · cases e
  · cases e
theorem ob_notInL {G : Gm} : OpB G (rNotInD G.K) (fun a b => (bInL a b).map (!·)) := fun {Hs H d1 d2 b v1 v2 Q} l i1 i2 e q => by
  dsimp only [bInL] at e
  split at e
  · rename_i xs
    split at e
    · rename_i h
      obtain ⟨h1, h2⟩ := Bool.and_eq_true_iff.mp h
      obtain rfl := Option.some.inj e
      refine ⟨toPy d1, toPyL xs, is_dp 60 _ _ h1 (Is.mono l _ _ i1), is_dp 60 (.lst xs) _ h2 (Is.mono l _ _ i2), ok_shaped h1, ok_shaped h2, ?_⟩
      rw [any_eqv h1 59 xs h2]
      exact q
    · cases e
  · cases e
theorem OpB.or2 {G : Gm} {r r' : R2} {o o' : D → D → Option Bool} {t : D → Bool} (h : OpB G r o) (h' : OpB G r' o') : OpB G (fun x y H Q => r x y H Q ∨ r' x y H Q) (fun a b => if t b then o a b else o' a b) := fun {Hs H d1 d2 d v1 v2 Q} l i1 i2 e q => by
  dsimp only at e
  split at e
  · exact .inl (h l i1 i2 e q)
  · exact .inr (h' l i1 i2 e q)
def bIn (a b : D) : Option Bool := match b with
  | .tup _ => bInT a b
  | .ctup _ => bInT a b
  | _ => bInL a b
def bNotIn (a b : D) : Option Bool := (bIn a b).map (!·)
theorem ob_in {G : Gm} : OpB G (fun x y H Q => rIn G.K false x y H Q ∨ rInD G.K x y H Q) bIn := OpB.eq (OpB.or2 (t := isTup) (ob_inT (neg := false)) ob_inL) fun a b => by
  cases b <;> first | rfl | (unfold bIn; simp only [isTup, if_true]; cases bInT _ _ <;> rfl)
theorem ob_notIn {G : Gm} : OpB G (fun x y H Q => rIn G.K true x y H Q ∨ rNotInD G.K x y H Q) bNotIn := OpB.eq (OpB.or2 (t := isTup) (ob_inT (neg := true)) ob_notInL) fun a b => by
  cases b <;> rfl
/-! is -/
def isNonD : D → Bool
  | .non => true
  | _ => false
theorem is_non {G : Gm} {H : Hp} {d : D} {v : V} (k : Is G H d v) : decide (v = .non) = isNonD d := by
  cases d with
  | non => obtain rfl : v = .non := k; rfl
  | bl b => obtain rfl : v = .bl b := k; rfl
  | int i => obtain rfl : v = .int i := k; rfl
  | str x => obtain rfl : v = .str x := k; rfl
  | tup xs => obtain ⟨a, _, rfl, _⟩ := k; rfl
  | lst xs => obtain ⟨a, _, rfl, _⟩ := k; rfl
  | dK ks ds => obtain ⟨a, _, rfl, _⟩ := k; rfl
  | dT ks ds => obtain ⟨a, _, rfl, _⟩ := k; rfl
  | fn x => obtain ⟨f, rfl, _⟩ := k; rfl
  | scr ns => obtain ⟨a, rfl, _⟩ := k; rfl
  | ctup xs => obtain ⟨a, _, rfl, _⟩ := k; rfl
def bIsN : D → D → Option Bool := fun a b => match b with
  | .non => some (isNonD a)
  | _ => none
def bIsNotN : D → D → Option Bool := fun a b => match b with
  | .non => some (!isNonD a)
  | _ => none
theorem ob_isN {G : Gm} : OpB G (fun x y H Q => y = .non ∧ Q (.bl (decide (x = .non))) H) bIsN := fun {Hs H d1 d2 b v1 v2 Q} l i1 i2 e q => by
  unfold bIsN at e
  split at e
  · obtain rfl := Option.some.inj e
    exact ⟨i2, by rw [is_non i1]; exact q⟩
  · cases e
theorem ob_isNotN {G : Gm} : OpB G (fun x y H Q => y = .non ∧ Q (.bl (!decide (x = .non))) H) bIsNotN := fun {Hs H d1 d2 b v1 v2 Q} l i1 i2 e q => by
  unfold bIsNotN at e
  split at e
  · obtain rfl := Option.some.inj e
    exact ⟨i2, by rw [is_non i1]; exact q⟩
  · cases e
def bIsB : D → D → Option Bool
  | .bl a, .bl b => some (decide (a = b))
  | _, _ => none
def bIsNotB : D → D → Option Bool
  | .bl a, .bl b => some (!decide (a = b))
  | _, _ => none
theorem ob_isB {G : Gm} : OpB G rIsB bIsB := fun {Hs H d1 d2 b v1 v2 Q} l i1 i2 e q => by
  unfold bIsB at e
  split at e
  · rename_i a b
    obtain rfl := Option.some.inj e
    exact ⟨a, b, i1, i2, q⟩
  · cases e
theorem ob_isNotB {G : Gm} : OpB G rNotB bIsNotB := fun {Hs H d1 d2 b v1 v2 Q} l i1 i2 e q => by
  unfold bIsNotB at e
  split at e
  · rename_i a b
    obtain rfl := Option.some.inj e
    exact ⟨a, b, i1, i2, q⟩
  · cases e
end Rf

namespace Rf
open PySem L2 LamX

section
variable {X : Cx} {T : Tb} {W : WX} {k : Nat} {a b c : Expr} {f g u : Env' → Ro D} {q q' : Env' → Ro Bool} {pos : Pos} {rest : List Expr}

/-! ## truth, and, or, not -/
def truD : D → Option Bool
  | .non => some false
  | .bl b => some b
  | .int i => some (i != 0)
  | .str x => if x.length ≤ sizeLine then some ((x.length : Int) != 0) else none
  | .tup xs => some (!xs.isEmpty)
  | .lst xs => some (!xs.isEmpty)
  | .dK ks ds => some (!ks.isEmpty)
  | _ => none
theorem isEmpty_len {α β : Type} {xs : List α} {ys : List β} (h : xs.length = ys.length) : xs.isEmpty = ys.isEmpty := by
  cases xs <;> cases ys <;> first | rfl | simp at h
theorem tru_of {G : Gm} {Hs H : Hp} {d : D} {v : V} {b : Bool} (l : Le Hs H) (i : Is G Hs d v) (e : truD d = some b) : TruV G.K v H b := by
  cases d with
  | non => obtain rfl : v = .non := i; exact (Option.some.inj e).symm
  | bl x => obtain rfl : v = .bl x := i; exact (Option.some.inj e).symm
  | int x => obtain rfl : v = .int x := i; exact (Option.some.inj e).symm
  | str x =>
    obtain rfl : v = .str x := i
    simp only [truD] at e
    split at e
    · rename_i h
      exact ⟨h, (Option.some.inj e).symm⟩
    · cases e
  | tup xs =>
    obtain ⟨p, vs, rfl, s, m⟩ := i
    refine .inr (.inl ⟨vs, l.tq s, ?_⟩)
    rw [← isEmpty_len (IsL.length m)]
    exact (Option.some.inj e).symm
  | lst xs =>
    obtain ⟨p, vs, rfl, s, m⟩ := i
    refine .inl ⟨vs, .inl (.inl (l _ _ s (fun ps z => (by cases z)))), ?_⟩
    rw [← isEmpty_len (IsL.length m)]
    exact (Option.some.inj e).symm
  | dK ks ds =>
    obtain ⟨p, vs, rfl, s, m, m2⟩ := i
    refine .inr (.inr ⟨_, l _ _ s (fun ps z => (by cases z)), ?_⟩)
    have z : (ks.zip vs).isEmpty = ks.isEmpty := by
      apply isEmpty_len
      rw [List.length_zip]
      omega
    rw [z]
    exact (Option.some.inj e).symm
  | dT ks ds => cases e
  | fn x => cases e
  | scr ns => cases e
  | ctup xs => cases e
def qTru (f : Env' → Ro D) : Env' → Ro Bool := fun env => (f env).bind fun d e => lift (truD d) e
theorem lift_some {G : Gm} {α β : Type} {R : Rel α β} {F : Addr → Prop} {σ : St} {H : Hp} {env : Env'} {Q : β → Hp → Prop} {o : Option α} (h : Rst G T R F σ H env W Q (lift o env)) : ∃ x, o = some x ∧ Rst G T R F σ H env W Q (.ok x env) := by
  cases o with
  | none => exact h.elim
  | some x => exact ⟨x, rfl, h⟩
theorem sq_tru (ha : SE X T W a f) (he : ∀ whole, isTrue a X.env whole = (do let v ← whole; standAt a.pos; holding [v] (truthy v)) := by intro _; rfl) : SQ X T W a (qTru f) :=
  PT.weak (pt_truth ha he) fun σ H Q h => rd_bind h fun F env d v H1 S1 i1 h1 => by
    obtain ⟨x, e, h1⟩ := lift_some h1
    exact ⟨x, tru_of Le.unhid i1 e, fin_same S1 rfl h1⟩
/-- and, or as tests -/
def qAnd (q q' : Env' → Ro Bool) : Env' → Ro Bool := fun env => (q env).bind fun b e => if b then q' e else .ok false e
def qOr (q q' : Env' → Ro Bool) : Env' → Ro Bool := fun env => (q env).bind fun b e => if b then .ok true e else q' e
def qNot (q : Env' → Ro Bool) : Env' → Ro Bool := fun env => (q env).bind fun b e => .ok (!b) e
theorem sw_and1 (ha : SQ X T W a q) : SW X T W (.BoolOp .And [a] pos) q := pw_and1 ha
theorem sw_or1 (ha : SQ X T W a q) : SW X T W (.BoolOp .Or [a] pos) q := pw_or1 ha
theorem sw_and (ha : SQ X T W a q) (hb : SW X T W (.BoolOp .And (b :: rest) pos) q') : SW X T W (.BoolOp .And (a :: b :: rest) pos) (qAnd q q') :=
  PW.weak (pw_and ha hb) fun σ H Q h => rd_bind h fun F env d v H1 S1 i1 h1 => by
    obtain rfl : d = v := i1
    cases d with
    | true => exact ⟨F, env, S1, h1⟩
    | false => exact fin_same S1 rfl h1
theorem sw_or (ha : SQ X T W a q) (hb : SW X T W (.BoolOp .Or (b :: rest) pos) q') : SW X T W (.BoolOp .Or (a :: b :: rest) pos) (qOr q q') :=
  PW.weak (pw_or ha hb) fun σ H Q h => rd_bind h fun F env d v H1 S1 i1 h1 => by
    obtain rfl : d = v := i1
    cases d with
    | true => exact fin_same S1 rfl h1
    | false => exact ⟨F, env, S1, h1⟩
theorem SW.sq (h : SW X T W a q) : SQ X T W a q := PW.pt h
theorem sq_not (ha : SQ X T W a q) : SQ X T W (.UnaryOp .Not a pos) (qNot q) :=
  PT.weak (pt_not ha) fun σ H Q h => rd_bind h fun F env d v H1 S1 i1 h1 => by
    obtain rfl : d = v := i1
    exact fin_same S1 rfl h1
/-- .. as values -/
def eAnd (f g : Env' → Ro D) : Env' → Ro D := fun env => (f env).bind fun d e => match truD d with
  | some true => g e
  | some false => .ok d e
  | none => .stk
def eOr (f g : Env' → Ro D) : Env' → Ro D := fun env => (f env).bind fun d e => match truD d with
  | some true => .ok d e
  | some false => g e
  | none => .stk
def eNot (f : Env' → Ro D) : Env' → Ro D := fun env => (f env).bind fun d e => lift ((truD d).map fun b => D.bl (!b)) e
theorem se_one {op} (ha : SE X T W a f) : SE X T W (.BoolOp op [a] pos) f := pe_one ha
theorem se_and (ha : SE X T W a f) (hb : SE X T W (.BoolOp .And (b :: rest) pos) g) : SE X T W (.BoolOp .And (a :: b :: rest) pos) (eAnd f g) :=
  PE.weak (pe_andT ha hb) fun σ H Q h => rd_bind h fun F env d v H1 S1 i1 h1 => by
    split at h1
    · rename_i e
      exact ⟨true, tru_of Le.unhid i1 e, F, env, S1, h1⟩
    · rename_i e
      exact ⟨false, tru_of Le.unhid i1 e, fin_same S1 i1 h1⟩
    · exact h1.elim
theorem se_or (ha : SE X T W a f) (hb : SE X T W (.BoolOp .Or (b :: rest) pos) g) : SE X T W (.BoolOp .Or (a :: b :: rest) pos) (eOr f g) :=
  PE.weak (pe_orT ha hb) fun σ H Q h => rd_bind h fun F env d v H1 S1 i1 h1 => by
    split at h1
    · rename_i e
      exact ⟨true, tru_of Le.unhid i1 e, fin_same S1 i1 h1⟩
    · rename_i e
      exact ⟨false, tru_of Le.unhid i1 e, F, env, S1, h1⟩
    · exact h1.elim
theorem se_not (ha : SE X T W a f) : SE X T W (.UnaryOp .Not a pos) (eNot f) :=
  PE.weak (pe_notT ha) fun σ H Q h => rd_bind h fun F env d v H1 S1 i1 h1 => by
    obtain ⟨x, e, h1⟩ := lift_some h1
    cases e1 : truD d with
    | none => rw [e1] at e; cases e
    | some y =>
      rw [e1] at e
      obtain rfl : D.bl (!y) = x := Option.some.inj e
      exact ⟨y, tru_of Le.unhid i1 e1, h1 _ H1 .refl S1 rfl⟩
/-! if else -/
def eIf (q : Env' → Ro Bool) (f g : Env' → Ro D) : Env' → Ro D := fun env => (q env).bind fun b e => if b then f e else g e
theorem se_if (hc : SQ X T W c q) (ha : SE X T W a f) (hb : SE X T W b g) : SE X T W (.IfExp c a b pos) (eIf q f g) :=
  PE.weak (pe_ifExp hc ha hb) fun σ H Q h => rd_bind h fun F env d v H1 S1 i1 h1 => by
    obtain rfl : d = v := i1
    cases d with
    | true => exact ⟨F, env, S1, h1⟩
    | false => exact ⟨F, env, S1, h1⟩
/-! a < b < c -/
def eChain (o o' : D → D → Option Bool) (f g u : Env' → Ro D) : Env' → Ro D := fun env => (f env).bind fun d1 e1 => (g e1).bind fun d2 e2 => match o d1 d2 with
  | some true => (u e2).bind fun d3 e3 => lift ((o' d2 d3).map D.bl) e3
  | some false => .ok (.bl false) e2
  | none => .stk
def qChain (o o' : D → D → Option Bool) (f g u : Env' → Ro D) : Env' → Ro Bool := fun env => (f env).bind fun d1 e1 => (g e1).bind fun d2 e2 => match o d1 d2 with
  | some true => (u e2).bind fun d3 e3 => lift (o' d2 d3) e3
  | some false => .ok false e2
  | none => .stk
theorem se_chain {op op' : CmpOp} {r r' : R2} {o o' : D → D → Option Bool} (ho : OpR X (compareOp op) r) (hd : OpB (gm X) r o) (ho' : OpR X (compareOp op') r') (hd' : OpB (gm X) r' o') (ha : SE X T W a f) (hb : SE X T W b g) (hc : SE X T W c u)
    (hm : lastMarks [op, op'] [b, c] = false := by with_unfolding_all rfl) : SE X T W (.Compare a [op, op'] [b, c] pos) (eChain o o' f g u) :=
  PE.weak (pe_chain ho ho' ha hb hc hm) fun σ H Q h => rd_bind h fun F env d1 v1 H1 S1 i1 h1 => ⟨F, env, S1, Rst.bind S1 h1 fun d2 v2 H2 env2 s2 S2 i2 h2 => by
    split at h2
    · rename_i e
      refine hd Le.unhid (Is.mono (s2.le F) _ _ i1) i2 e ⟨true, rfl, ?_⟩
      rw [if_pos rfl]
      refine ⟨F, env2, S2, Rst.bind S2 h2 fun d3 v3 H3 env3 s3 S3 i3 h3 => ?_⟩
      obtain ⟨x, e3, h3⟩ := lift_some h3
      cases e4 : o' d2 d3 with
      | none => rw [e4] at e3; cases e3
      | some y =>
        rw [e4] at e3
        obtain rfl : D.bl y = x := Option.some.inj e3
        exact hd' Le.unhid (Is.mono (s3.le F) _ _ i2) i3 e4 (h3 _ H3 .refl S3 rfl)
    · rename_i e
      refine hd Le.unhid (Is.mono (s2.le F) _ _ i1) i2 e ⟨false, rfl, ?_⟩
      rw [if_neg Bool.false_ne_true]
      exact h2 _ H2 .refl S2 rfl
    · exact h2.elim⟩
theorem sq_chain {op op' : CmpOp} {r r' : R2} {o o' : D → D → Option Bool} (ho : OpR X (compareOp op) r) (hd : OpB (gm X) r o) (ho' : OpR X (compareOp op') r') (hd' : OpB (gm X) r' o') (ha : SE X T W a f) (hb : SE X T W b g) (hc : SE X T W c u)
    (hm : lastMarks [op, op'] [b, c] = false := by with_unfolding_all rfl) : SQ X T W (.Compare a [op, op'] [b, c] pos) (qChain o o' f g u) :=
  PT.weak (pt_chain ho ho' ha hb hc hm) fun σ H Q h => rd_bind h fun F env d1 v1 H1 S1 i1 h1 => ⟨F, env, S1, Rst.bind S1 h1 fun d2 v2 H2 env2 s2 S2 i2 h2 => by
    split at h2
    · rename_i e
      refine hd Le.unhid (Is.mono (s2.le F) _ _ i1) i2 e ⟨true, rfl, ?_⟩
      first
        | rw [if_pos rfl]
        | skip
      refine ⟨F, env2, S2, Rst.bind S2 h2 fun d3 v3 H3 env3 s3 S3 i3 h3 => ?_⟩
      obtain ⟨x, e3, h3⟩ := lift_some h3
      exact hd' Le.unhid (Is.mono (s3.le F) _ _ i2) i3 e3 ⟨x, rfl, fin_same S3 rfl h3⟩
    · rename_i e
      refine hd Le.unhid (Is.mono (s2.le F) _ _ i1) i2 e ⟨false, rfl, ?_⟩
      first
        | rw [if_neg Bool.false_ne_true]
        | skip
      exact ⟨false, rfl, fin_same S2 rfl h2⟩
    · exact h2.elim⟩

/-! ## lists of expressions, tuples, lists -/
def aNil : Env' → Ro (List D) := fun env => .ok [] env
def aCons (f : Env' → Ro D) (r : Env' → Ro (List D)) : Env' → Ro (List D) := fun env => (f env).bind fun d e => (r e).bind fun ds e => .ok (d :: ds) e
variable {r : Env' → Ro (List D)} {es : List Expr}
theorem sa_nil : SA X T W [] aNil := PA.weak pa_nil fun σ H Q h => by
  obtain ⟨F, env, S, h⟩ := h
  exact h [] H .refl S rfl
theorem sa_cons (ha : SE X T W a f) (hr : SA X T W es r) (hs : starEach (a :: es) X.env = (false, eval a X.env) :: starEach es X.env := by rfl) : SA X T W (a :: es) (aCons f r) :=
  PA.weak (pa_cons ha hr hs) fun σ H Q h => rd_bind h fun F env d v H1 S1 i1 h1 => ⟨F, env, S1, Rst.bind S1 h1 fun ds vs H2 env2 s2 S2 i2 h2 => h2 (v :: vs) H2 .refl S2 ⟨v, vs, rfl, Is.mono (s2.le F) _ _ i1, i2⟩⟩
def eTup (r : Env' → Ro (List D)) : Env' → Ro D := fun env => (r env).bind fun ds e => if ds.length ≤ sizeLine then .ok (.tup ds) e else .stk
def eLst (r : Env' → Ro (List D)) : Env' → Ro D := fun env => (r env).bind fun ds e => if ds.length ≤ sizeLine then .ok (.lst ds) e else .stk
theorem se_tup {x1} (h : SA X T W es r) : SE X T W (.Tuple es x1 pos) (eTup r) := PE.weak (pe_tup h) fun σ H Q h => rd_bind h fun F env ds vs H1 S1 i1 h1 => by
  split at h1
  · rename_i hz
    refine ⟨by rw [← IsL.length i1]; exact hz, fun p hp => ?_⟩
    exact fin_new (d := .tup ds) S1 (New.upd hp) (fun Hs' l' n' => ⟨p, vs, rfl, n' p _ hp upd_same, IsL.mono l' _ _ i1⟩) h1
  · exact h1.elim
theorem sf_lst (h : SA X T W es r) : SF X T W (.List es pos) (eLst r) := PE.weak (pe_lst h) fun σ H Q h => rdF_bind h fun F env ds vs H1 S1 i1 h1 => by
  split at h1
  · rename_i hz
    refine ⟨by rw [← IsL.length i1]; exact hz, fun p hp => ?_⟩
    exact fin_newF (d := .lst ds) S1 hp (fun Hs l => ⟨vs, upd_same, IsL.mono l _ _ i1⟩) h1
  · exact h1.elim
theorem se_lst (h : SA X T W es r) : SE X T W (.List es pos) (eLst r) := SF.se (sf_lst h)
theorem sf_dnewK : SF X T W (.Dict [] [] pos) (eC (.dK [] [])) := PE.weak pe_dnewK fun σ H Q h p hp => by
  obtain ⟨F, env, S, h⟩ := h
  exact fin_newF (d := .dK [] []) S hp (fun Hs l => ⟨[], upd_same, rfl, rfl⟩) h
theorem sf_dnewT : SF X T W (.Dict [] [] pos) (eC (.dT [] [])) := PE.weak pe_dnewT fun σ H Q h p hp => by
  obtain ⟨F, env, S, h⟩ := h
  exact fin_newF (d := .dT [] []) S hp (fun Hs l => ⟨[], upd_same, rfl, rfl⟩) h
end
end Rf

namespace Rf
open PySem L2 LamX

/-! ## dicts as two lists -/
section
variable {κ : Type} [DecidableEq κ]
def lookD : List κ → List D → κ → Option D
  | k' :: ks, d :: ds, k => if k' = k then some d else lookD ks ds k
  | _, _, _ => none
def putD (ks : List κ) (ds : List D) (k : κ) (d : D) : List κ × List D :=
  if k ∈ ks then (ks, List.zipWith (fun k' d' => if k' = k then d else d') ks ds) else (ks ++ [k], ds ++ [d])
theorem lookD_val {G : Gm} {Hs : Hp} {k : κ} : ∀ {ks : List κ} {ds : List D} {vs : List V}, ks.length = vs.length → IsL G Hs ds vs →
    (∀ d, lookD ks ds k = some d → ∃ v, valV (ks.zip vs) k = some v ∧ Is G Hs d v) ∧ (lookD ks ds k = none → valV (ks.zip vs) k = none)
  | [], ds, vs, h, m => ⟨fun d e => (by cases e), fun _ => rfl⟩
  | k' :: ks, [], vs, h, m => by
    obtain rfl : vs = [] := m
    cases h
  | k' :: ks, x :: ds, vs, h, m => by
    obtain ⟨v, r, rfl, m1, m2⟩ := m
    have h' : ks.length = r.length := by simpa using h
    obtain ⟨a1, a2⟩ := lookD_val (k := k) h' m2
    show (∀ d, (if k' = k then some x else lookD ks ds k) = some d → ∃ w, valV ((k', v) :: ks.zip r) k = some w ∧ Is G Hs d w) ∧ ((if k' = k then some x else lookD ks ds k) = none → valV ((k', v) :: ks.zip r) k = none)
    by_cases e : k' = k
    · rw [if_pos e, valV_pos (p := (k', v)) e]
      exact ⟨fun d q => ⟨v, rfl, by cases q; exact m1⟩, fun q => by cases q⟩
    · rw [if_neg e, valV_neg (p := (k', v)) e]
      exact ⟨a1, a2⟩
theorem zip_any {k : κ} : ∀ {ks : List κ} {vs : List V}, ks.length = vs.length → ((ks.zip vs).any fun kv => decide (kv.1 = k)) = decide (k ∈ ks)
  | [], vs, h => by simp
  | k' :: ks, [], h => by cases h
  | k' :: ks, v :: vs, h => by
    have h' : ks.length = vs.length := by simpa using h
    show (decide (k' = k) || (ks.zip vs).any fun kv => decide (kv.1 = k)) = _
    rw [zip_any h']
    by_cases e : k' = k
    · subst e; simp
    · simp [e, Ne.symm e]
theorem zip_map {k : κ} {v : V} : ∀ {ks : List κ} {vs : List V}, ks.length = vs.length → (ks.zip vs).map (fun kv => if kv.1 = k then (kv.1, v) else kv) = ks.zip (List.zipWith (fun k' v' => if k' = k then v else v') ks vs)
  | [], vs, h => rfl
  | k' :: ks, [], h => by cases h
  | k' :: ks, w :: vs, h => by
    have h' : ks.length = vs.length := by simpa using h
    show (if k' = k then (k', v) else (k', w)) :: (ks.zip vs).map _ = (k', if k' = k then v else w) :: ks.zip (List.zipWith _ ks vs)
    rw [zip_map h']
    by_cases e : k' = k
    · rw [if_pos e, if_pos e]
    · rw [if_neg e, if_neg e]
theorem isL_zipWith {G : Gm} {Hs : Hp} {k : κ} {d : D} {v : V} (m : Is G Hs d v) : ∀ {ks : List κ} {ds : List D} {vs : List V}, IsL G Hs ds vs → IsL G Hs (List.zipWith (fun k' d' => if k' = k then d else d') ks ds) (List.zipWith (fun k' v' => if k' = k then v else v') ks vs)
  | [], ds, vs, h => rfl
  | k' :: ks, [], vs, h => by
    obtain rfl : vs = [] := h
    rfl
  | k' :: ks, x :: ds, vs, h => by
    obtain ⟨w, r, rfl, m1, m2⟩ := h
    refine ⟨if k' = k then v else w, _, rfl, ?_, isL_zipWith m m2⟩
    dsimp only
    by_cases e : k' = k
    · rw [if_pos e, if_pos e]; exact m
    · rw [if_neg e, if_neg e]; exact m1
theorem putD_val {G : Gm} {Hs : Hp} {k : κ} {d : D} {v : V} {ks : List κ} {ds : List D} {vs : List V} (h : ks.length = vs.length) (m : IsL G Hs ds vs) (i : Is G Hs d v) :
    ∃ vs', putK (ks.zip vs) k v = (putD ks ds k d).1.zip vs' ∧ (putD ks ds k d).1.length = vs'.length ∧ IsL G Hs (putD ks ds k d).2 vs' := by
  unfold putK putD
  rw [zip_any h]
  by_cases e : k ∈ ks
  · rw [if_pos (decide_eq_true e), if_pos e]
    refine ⟨_, zip_map h, ?_, isL_zipWith i m⟩
    rw [List.length_zipWith]
    show ks.length = min ks.length vs.length
    omega
  · rw [if_neg (by simpa using e), if_neg e]
    refine ⟨vs ++ [v], ?_, by simp [h], IsL.append m (IsL.one i)⟩
    rw [List.zip_append h]
    rfl
end
def keyOf : D → Option Key
  | .int i => some (.inl i)
  | .str x => some (.inr x)
  | _ => none
theorem keyOf_is {G : Gm} {Hs : Hp} {d : D} {k : Key} {v : V} (h : keyOf d = some k) (i : Is G Hs d v) : v = kV k := by
  cases d with
  | int x =>
    obtain rfl : v = .int x := i
    obtain rfl := Option.some.inj h
    rfl
  | str x =>
    obtain rfl : v = .str x := i
    obtain rfl := Option.some.inj h
    rfl
  | _ => cases h
def keysOfL : List D → Option (List Key)
  | [] => some []
  | d :: ds => match keyOf d, keysOfL ds with
    | some k, some ks => some (k :: ks)
    | _, _ => none
theorem keysOfL_is {G : Gm} {Hs : Hp} : ∀ {ds : List D} {ks : List Key} {vs : List V}, keysOfL ds = some ks → IsL G Hs ds vs → vs = ks.map kV
  | [], ks, vs, h, m => by
    obtain rfl : vs = [] := m
    obtain rfl := Option.some.inj h
    rfl
  | d :: ds, ks, vs, h, m => by
    obtain ⟨v, r, rfl, m1, m2⟩ := m
    unfold keysOfL at h
    split at h
    · rename_i k ks' e1 e2
      obtain rfl := Option.some.inj h
      rw [keyOf_is e1 m1, keysOfL_is e2 m2]
      rfl
    · cases h
def keysOf : D → Option (List Key)
  | .tup xs => keysOfL xs
  | _ => none
/-- what a dict holds -/
def getD' (d k : D) : Option (Option D) := match d with
  | .dK ks ds => (keyOf k).map fun q => lookD ks ds q
  | .dT ks ds => (keysOf k).map fun q => lookD ks ds q
  | _ => none
/-! ## subscripts -/
theorem IsL.atI {G : Gm} {Hs : Hp} {ds : List D} {vs : List V} {i : Int} {d : D} (m : IsL G Hs ds vs) (h : L2.atI ds i = some d) : ∃ v, L2.atI vs i = some v ∧ Is G Hs d v := by
  unfold L2.atI at h ⊢
  rw [← IsL.length m]
  cases e : ixN ds.length i with
  | none => rw [e] at h; cases h
  | some j =>
    rw [e] at h
    exact IsL.get m h
def isDic : D → Bool
  | .dK _ _ => true
  | .dT _ _ => true
  | _ => false
def dIxS : D → D → Option D
  | .tup xs, .int k => atI xs k
  | .ctup xs, .int k => atI xs k
  | .lst xs, .int k => atI xs k
  | .scr ns, .int k => (atI ns k).map .int
  | .str z, .int i => if z.length ≤ sizeLine then (atI z.cps.toList i).map fun c => .str ⟨#[c]⟩ else none
  | _, _ => none
def dIx (a b : D) : Option D := if isDic a then (getD' a b).bind id else dIxS a b
section
variable {X : Cx} {T : Tb} {W : WX} {k : Nat} {a b c : Expr} {f g u : Env' → Ro D} {q q' : Env' → Ro Bool} {pos : Pos} {rest es : List Expr} {r : Env' → Ro (List D)}
theorem atI_map {ns : List Int} {i : Int} : atI (ns.map V.int) i = (atI ns i).map V.int := by
  unfold atI
  rw [List.length_map]
  cases ixN ns.length i with
  | none => rfl
  | some j => simp
theorem ix_dict (hu : X.A.units + 1 < cLine) : IxR X (fun x y H Q => ∃ a v, x = .ref a ∧ DGet H a y (some v) ∧ Q v H) := by
  intro value slice pins s σ H x y v u Q I rx ry h hs
  obtain ⟨a, w', rfl, g, q⟩ := h
  obtain rfl : v = Value.ref a := rx
  exact PyProof.Rows.tail_any (dict_typeIs I g) PySem.F.slot_dict_getitem.lookup (d_getItem hu I g ry fun z s' I' r' => ⟨w', H, I', r', q⟩) hs
/-- an object that is read here: shared data, or an owned one that is borrowed -/
def BIs (G : Gm) (Hs H : Hp) (d : D) (v : V) : Prop := Is G Hs d v ∨ ∃ p, v = .ref p ∧ OIs G Hs H d p
theorem BIs.tup {G : Gm} {Hs H : Hp} {xs : List D} {v : V} (l : Le Hs H) (b : BIs G Hs H (.tup xs) v) : ∃ p vs, v = .ref p ∧ H p = some (.tup vs) ∧ IsL G Hs xs vs := by
  rcases b with ⟨p, vs, e, s, m⟩ | ⟨p, e, o⟩
  · exact ⟨p, vs, e, l.tp s, m⟩
  · exact o.elim
theorem BIs.ctup {G : Gm} {Hs H : Hp} {xs : List D} {v : V} (l : Le Hs H) (b : BIs G Hs H (.ctup xs) v) : ∃ p vs, v = .ref p ∧ SqT G.K H p vs ∧ IsL G Hs xs vs := by
  rcases b with ⟨p, vs, e, s, m⟩ | ⟨p, e, o⟩
  · exact ⟨p, vs, e, l.sqT s, m⟩
  · exact o.elim
theorem BIs.lst {G : Gm} {Hs H : Hp} {xs : List D} {v : V} (l : Le Hs H) (b : BIs G Hs H (.lst xs) v) : ∃ p vs, v = .ref p ∧ H p = some (.lst vs) ∧ IsL G Hs xs vs := by
  rcases b with ⟨p, vs, e, s, m⟩ | ⟨p, e, vs, s, m⟩
  · exact ⟨p, vs, e, l.lp s, m⟩
  · exact ⟨p, vs, e, s, m⟩
theorem BIs.dK {G : Gm} {Hs H : Hp} {ks : List Key} {ds : List D} {v : V} (l : Le Hs H) (b : BIs G Hs H (.dK ks ds) v) : ∃ p vs, v = .ref p ∧ H p = some (.dK (ks.zip vs)) ∧ ks.length = vs.length ∧ IsL G Hs ds vs := by
  rcases b with ⟨p, vs, e, s, n, m⟩ | ⟨p, e, vs, s, n, m⟩
  · exact ⟨p, vs, e, l _ _ s (fun ps z => by cases z), n, m⟩
  · exact ⟨p, vs, e, s, n, m⟩
theorem BIs.dT {G : Gm} {Hs H : Hp} {ks : List (List Key)} {ds : List D} {v : V} (l : Le Hs H) (b : BIs G Hs H (.dT ks ds) v) : ∃ p vs, v = .ref p ∧ H p = some (.dT (ks.zip vs)) ∧ ks.length = vs.length ∧ IsL G Hs ds vs := by
  rcases b with ⟨p, vs, e, s, n, m⟩ | ⟨p, e, vs, s, n, m⟩
  · exact ⟨p, vs, e, l _ _ s (fun ps z => by cases z), n, m⟩
  · exact ⟨p, vs, e, s, n, m⟩
theorem BIs.scal {G : Gm} {Hs H : Hp} {d : D} {v : V} (b : BIs G Hs H d v) (h : ∀ p, OIs G Hs H d p → False) : Is G Hs d v := by
  rcases b with b | ⟨p, _, o⟩
  · exact b
  · exact (h p o).elim
theorem getD'_is {G : Gm} {Hs H : Hp} {d k : D} {o : Option D} {x y : V} (l : Le Hs H) (i1 : BIs G Hs H d x) (i2 : Is G Hs k y) (e : getD' d k = some o) :
    ∃ a r, x = .ref a ∧ DGet H a y r ∧ (∀ z, o = some z → ∃ w, r = some w ∧ Is G Hs z w) ∧ (o = none → r = none) := by
  unfold getD' at e
  split at e
  · rename_i ks ds
    obtain ⟨a, vs, rfl, h1, h2, h3⟩ := i1.dK l
    cases e1 : keyOf k with
    | none => rw [e1] at e; cases e
    | some q =>
      rw [e1] at e
      obtain rfl := Option.some.inj e
      obtain ⟨m1, m2⟩ := lookD_val (k := q) h2 h3
      refine ⟨a, _, rfl, .inl ⟨_, q, .inl h1, keyOf_is e1 i2, rfl⟩, m1, m2⟩
  · rename_i ks ds
    obtain ⟨a, vs, rfl, h1, h2, h3⟩ := i1.dT l
    cases e1 : keysOf k with
    | none => rw [e1] at e; cases e
    | some q =>
      rw [e1] at e
      obtain rfl := Option.some.inj e
      obtain ⟨m1, m2⟩ := lookD_val (k := q) h2 h3
      unfold keysOf at e1
      split at e1
      · obtain ⟨b, ws, rfl, k1, k2⟩ := i2
        have z := keysOfL_is e1 k2
        subst z
        exact ⟨a, _, rfl, .inr ⟨_, q, b, .inl h1, rfl, l.tp k1, rfl⟩, m1, m2⟩
      · cases e1
  · cases e
def rIxA (K : PySem.W.Frag) : R2 := fun x y H Q => (∃ a v, x = .ref a ∧ DGet H a y (some v) ∧ Q v H) ∨ rIx K x y H Q
/-- an item -/
theorem bix_run {Hs H : Hp} {d k e : D} {x y : V} (l : Le Hs H) (b : BIs (gm X) Hs H d x) (i : Is (gm X) Hs k y) (h : dIx d k = some e) : ∃ v, Is (gm X) Hs e v ∧ ∀ Q : VK, Q v H → rIxA X.K x y H Q := by
  unfold dIx at h
  split at h
  · cases e1 : getD' d k with
    | none => rw [e1] at h; cases h
    | some o =>
      rw [e1] at h
      obtain ⟨a, r, rfl, g, k1, k2⟩ := getD'_is l b i e1
      obtain ⟨w, rfl, k3⟩ := k1 e h
      exact ⟨w, k3, fun Q q => .inl ⟨a, w, rfl, g, q⟩⟩
  · rename_i hnd
    clear hnd
    unfold dIxS at h
    split at h
    · rename_i xs k
      obtain ⟨p, vs, rfl, s, m⟩ := b.tup l
      obtain ⟨v, h1, h2⟩ := m.atI h
      exact ⟨v, h2, fun Q q => .inr (.inr (.inl ⟨p, vs, k, v, rfl, i, .inl (.inl s), h1, q⟩))⟩
    · rename_i xs k
      obtain ⟨p, vs, rfl, s, m⟩ := b.ctup l
      obtain ⟨v, h1, h2⟩ := m.atI h
      exact ⟨v, h2, fun Q q => .inr (.inr (.inl ⟨p, vs, k, v, rfl, i, s, h1, q⟩))⟩
    · rename_i xs k
      obtain ⟨p, vs, rfl, s, m⟩ := b.lst l
      obtain ⟨v, h1, h2⟩ := m.atI h
      exact ⟨v, h2, fun Q q => .inr (.inl ⟨p, vs, k, v, rfl, i, .inl (.inl s), h1, q⟩)⟩
    · rename_i ns k
      obtain ⟨p, rfl, s⟩ := b.scal fun p o => o
      cases e1 : atI ns k with
      | none => rw [e1] at h; cases h
      | some z =>
        rw [e1] at h
        obtain rfl := Option.some.inj h
        exact ⟨.int z, rfl, fun Q q => .inr (.inl ⟨p, _, k, .int z, rfl, i, l.sqL s, by rw [atI_map, e1]; rfl, q⟩)⟩
    · rename_i z i'
      split at h
      · rename_i hz
        cases e1 : atI z.cps.toList i' with
        | none => rw [e1] at h; cases h
        | some c =>
          rw [e1] at h
          obtain rfl := Option.some.inj h
          exact ⟨_, rfl, fun Q q => .inr (.inr (.inr ⟨z, i', c, b.scal fun p o => o, i, hz, e1, q⟩))⟩
      · cases h
    · cases h
theorem od_ix : OpD (gm X) (rIxA X.K) dIx := fun {Hs H d1 d2 d v1 v2 Q} l i1 i2 e q => by
  obtain ⟨v, h1, h2⟩ := bix_run l (.inl i1) i2 e
  exact h2 Q (q v H (New.refl H) fun _ l' _ => Is.mono l' _ _ h1)
theorem se_ix (C : Cs X) (ha : SE X T W a f) (hb : SE X T W b g) (hs : PlainIx b := by intro _ _; rfl) : SE X T W (.Subscript a b pos) (eOp dIx f g) :=
  PE.weak (pe_ix ((ix_dict (by have := C.hu; omega)).or ix_seq) ha hb hs) fun σ H Q h => rd_op od_ix h
/-- a name's object by what stands there: an owned one stays owned -/
def slotD (env : Env') (i : Nat) : Option D := match env[i]? with
  | some (.v d) => some d
  | some (.o d) => some d
  | _ => none
theorem slot_is {G : Gm} {F : Addr → Prop} {σ : St} {H : Hp} {env : Env'} {i : Nat} {d : D} (S : Sta G T F σ H env) (h : slotD env i = some d) : ∃ v, σ[i]? = some (some v) ∧ Is G H d v := by
  unfold slotD at h
  split at h
  · rename_i d' e
    obtain rfl := Option.some.inj h
    obtain ⟨v, e1, e2⟩ := S.val e
    exact ⟨v, e1, Is.mono Le.unhid _ _ e2⟩
  · rename_i d' e
    obtain rfl := Option.some.inj h
    obtain ⟨p, e1, e2, e3⟩ := S.own e
    exact ⟨.ref p, e1, e2.is Le.unhid fun o z => z⟩
  · cases h
theorem slot_bis {G : Gm} {F : Addr → Prop} {σ : St} {H : Hp} {env : Env'} {i : Nat} {d : D} (S : Sta G T F σ H env) (h : slotD env i = some d) : ∃ v, σ[i]? = some (some v) ∧ BIs G (hid H (Hd F σ env)) H d v := by
  unfold slotD at h
  split at h
  · rename_i d' e
    obtain rfl := Option.some.inj h
    obtain ⟨v, e1, e2⟩ := S.val e
    exact ⟨v, e1, .inl e2⟩
  · rename_i d' e
    obtain rfl := Option.some.inj h
    obtain ⟨p, e1, e2, e3⟩ := S.own e
    exact ⟨.ref p, e1, .inr ⟨p, rfl, e2⟩⟩
  · cases h
def eIxV (i : Nat) (g : Env' → Ro D) : Env' → Ro D := fun env => match slotD env i with
  | some _ => (g env).bind fun k e => match slotD e i with
    | some d => lift (dIx d k) e
    | none => .stk
  | none => .stk
theorem se_ixV (C : Cs X) (i : Nat) {x : Str} {p : Pos} (hb : SE X T W b g) (hN : X.N[i]? = some x := by rfl) (hv : Vis X.env.scope x := by first | exact Or.inl rfl | exact Or.inr (Or.inl rfl) | exact Or.inr (Or.inr rfl)) (hs : PlainIx b := by intro _ _; rfl)
    (hd : (x == ("__debug__" : Str)) = false := by decide) (hcd : (x == ("__classdict__" : Str)) = false := by decide) : SE X T W (.Subscript (.Name x p) b pos) (eIxV i g) :=
  PE.weak (pe_ix ((ix_dict (by have := C.hu; omega)).or ix_seq) (pe_var hN hv hd hcd) hb hs) fun σ H Q h => by
    obtain ⟨F, env, S, h⟩ := h
    unfold eIxV at h
    split at h
    · rename_i d0 e0
      obtain ⟨v, h1, _⟩ := slot_bis S e0
      refine ⟨v, h1, F, env, S, Rst.bind S h fun d2 v2 H2 env2 s2 S2 i2 h2 => ?_⟩
      split at h2
      · rename_i d e
        obtain ⟨v', h1', b⟩ := slot_bis S2 e
        rw [h1] at h1'
        obtain rfl := Option.some.inj (Option.some.inj h1')
        obtain ⟨z, e2, h2⟩ := lift_some h2
        obtain ⟨w, k1, k2⟩ := bix_run Le.unhid b i2 e2
        exact k2 Q (fin_same S2 k1 h2)
      · exact h2.elim
    · exact h.elim
end
end Rf

namespace Rf
open PySem L2 LamX

section
variable {X : Cx} {T : Tb} {W : WX} {k : Nat} {a b c : Expr} {f g u : Env' → Ro D} {q q' : Env' → Ro Bool} {pos p p2 : Pos} {rest es : List Expr} {r : Env' → Ro (List D)} {x : Str}

/-! ## slices -/
def cut {α : Type} (xs : List α) (lo hi : Option Int) : List α := (xs.drop (HT.sIx xs.length 0 lo)).take (HT.sIx xs.length xs.length hi - HT.sIx xs.length 0 lo)
theorem cut_is {G : Gm} {Hs : Hp} {xs : List D} {vs : List V} (m : IsL G Hs xs vs) (lo hi : Option Int) : IsL G Hs (cut xs lo hi) (cutV vs lo hi) := by
  unfold cut cutV
  rw [IsL.length m]
  exact IsL.take _ (IsL.drop _ m)
theorem cut_map {ns : List Int} (lo hi : Option Int) : cutV (ns.map V.int) lo hi = (cut ns lo hi).map V.int := by
  unfold cut cutV
  rw [List.length_map, List.map_take, List.map_drop]
theorem cut_whole {α : Type} {xs : List α} {lo hi : Option Int} (h : HT.sIx xs.length 0 lo = 0 ∧ HT.sIx xs.length xs.length hi = xs.length) : cut xs lo hi = xs := by
  unfold cut
  rw [h.1, h.2]
  simp
def dSl (d : D) (lo hi : Option Int) : Option D := match d with
  | .lst xs => some (.lst (cut xs lo hi))
  | .tup xs => some (.tup (cut xs lo hi))
  | .scr ns => some (.lst ((cut ns lo hi).map .int))
  | _ => none
def isO : Rel (Option Int) (Option Int) := fun _ a b => a = b
def SO (X : Cx) (T : Tb) (W : WX) (e : Option Expr) (f : Env' → Ro (Option Int)) : Prop := PO X e (rd (gm X) T isO f W)
theorem PO.weak {e : Option Expr} {t t' : TO} (h : PO X e t) (j : ∀ σ H Q, t' σ H Q → t σ H Q) : PO X e t' := ⟨fun pins s σ H Q I q => h.run pins s σ H Q I (j σ H Q q)⟩
def oNone : Env' → Ro (Option Int) := fun env => .ok none env
def oSome (f : Env' → Ro D) : Env' → Ro (Option Int) := fun env => (f env).bind fun d e => match d with
  | .int i => .ok (some i) e
  | _ => .stk
theorem so_none : SO X T W none oNone := PO.weak po_none fun σ H Q h => by
  obtain ⟨F, env, S, h⟩ := h
  exact h none H .refl S rfl
theorem so_some (ha : SE X T W a f) : SO X T W (some a) (oSome f) := PO.weak (po_some ha) fun σ H Q h => rd_bind h fun F env d v H1 S1 i1 h1 => by
  split at h1
  · rename_i i
    exact ⟨i, i1, fin_same S1 rfl h1⟩
  · exact h1.elim
def eSl (f : Env' → Ro D) (lo hi : Env' → Ro (Option Int)) : Env' → Ro D := fun env => (f env).bind fun d e => (lo e).bind fun l e => (hi e).bind fun h e => lift (dSl d l h) e
def rSlX (K : PySem.W.Frag) : V → Option Int → Option Int → Hp → VK → Prop := fun x lo hi H Q => rSlL K x lo hi H Q ∨ rSlA K x lo hi H Q
variable {lo hi : Option Expr} {fl fh : Env' → Ro (Option Int)}
theorem se_slice (ha : SE X T W a f) (hl : SO X T W lo fl) (hh : SO X T W hi fh) : SE X T W (.Subscript a (.Slice lo hi none p2) pos) (eSl f fl fh) :=
  PE.weak (pe_slice (r := rSlX X.K) (sl_list.or sl_tupA) ha hl hh) fun σ H Q h => rd_bind h fun F env d v H1 S1 i1 h1 => ⟨F, env, S1, Rst.bind S1 h1 fun l l' H2 env2 s2 S2 i2 h2 => ⟨F, env2, S2, Rst.bind S2 h2 fun o o' H3 env3 s3 S3 i3 h3 => by
    obtain rfl : l = l' := i2
    obtain rfl : o = o' := i3
    replace i1 := Is.mono ((s2.trans s3).le F) _ _ i1
    obtain ⟨z, e, h3⟩ := lift_some h3
    unfold dSl at e
    split at e
    · rename_i xs
      obtain rfl := Option.some.inj e
      obtain ⟨y, vs, rfl, s, m⟩ := i1
      refine .inl ⟨y, vs, rfl, Le.unhid.lq s, fun w hw => ?_⟩
      exact fin_new (d := .lst (cut xs l o)) S3 (New.upd hw) (fun Hs' l' n' => ⟨w, _, rfl, n' w _ hw upd_same, IsL.mono l' _ _ (cut_is m _ _)⟩) h3
    · rename_i xs
      obtain rfl := Option.some.inj e
      obtain ⟨y, vs, rfl, s, m⟩ := i1
      have hlen := IsL.length m
      refine .inr ⟨y, vs, rfl, Le.unhid.tq s, fun hw => ?_, fun _ w hw => ?_⟩
      · rw [← hlen] at hw
        rw [cut_whole hw] at h3
        exact fin_same (R := isD (gm X)) (a := .tup xs) S3 ⟨y, vs, rfl, s, m⟩ h3
      · exact fin_new (d := .tup (cut xs l o)) S3 (New.upd hw) (fun Hs' l' n' => ⟨w, _, rfl, n' w _ hw upd_same, IsL.mono l' _ _ (cut_is m _ _)⟩) h3
    · rename_i ns
      obtain rfl := Option.some.inj e
      obtain ⟨y, rfl, s⟩ := i1
      refine .inl ⟨y, _, rfl, Le.unhid.sqL s, fun w hw => ?_⟩
      rw [cut_map]
      exact fin_new (d := .lst ((cut ns l o).map .int)) S3 (New.upd hw) (fun Hs' l' n' => ⟨w, _, rfl, n' w _ hw upd_same, IsL.of_ints _⟩) h3
    · cases e⟩⟩

/-! ## built-in functions -/
def OpC (G : Gm) (r : List V → Hp → VK → Prop) (o : List D → Option D) : Prop := ∀ {Hs H : Hp} {ds : List D} {d : D} {vs : List V} {Q : VK}, Le Hs H → IsL G Hs ds vs → o ds = some d →
  (∀ v H', New H H' → (∀ Hs', Le Hs Hs' → (∀ a o, H a = none → H' a = some o → Hs' a = some o) → Is G Hs' d v) → Q v H') → r vs H Q
def eCall (o : List D → Option D) (r : Env' → Ro (List D)) : Env' → Ro D := fun env => (r env).bind fun ds e => lift (o ds) e
theorem rd_call {G : Gm} {t : List V → Hp → VK → Prop} {o : List D → Option D} {σ : St} {H : Hp} {Q : VK} (hd : OpC G t o) (h : rd G T (isD G) (eCall o r) W σ H Q) : tCB t (rd G T (isA G) r W) σ H Q :=
  rd_bind h fun F env ds vs H1 S1 i1 h1 => by
    obtain ⟨d, e, h1⟩ := lift_some h1
    exact hd Le.unhid i1 e fun v H' n j => fin_new S1 n j h1
theorem se_callB {id : String} {t : List V → Hp → VK → Prop} {o : List D → Option D} (hc : CallR X (.builtin id) t) (hd : OpC (gm X) t o) (hg : Gl X x) (hm : X.mg x = none) (hv : bootBuiltins x = some (.builtin id)) (ha : SA X T W (a :: es) r) (hn : x ≠ "__name__" := by decide) (hdb : (x == ("__debug__" : Str)) = false := by decide)
    (he : starEach (a :: es) X.env = (false, eval a X.env) :: starEach es X.env := by rfl) (hpl : (backTo pos (starEach es X.env)).any (·.1) = false := by rfl) : SE X T W (.Call (.Name x p) (a :: es) [] pos) (eCall o r) :=
  PE.weak (pe_callB hc hg hm hv ha hn hdb he hpl) fun σ H Q h => rd_call hd h
theorem se_callTy {n : String} {t : List V → Hp → VK → Prop} {o : List D → Option D} (hc : CallR X (.type n) t) (hd : OpC (gm X) t o) (hg : Gl X x) (hm : X.mg x = none) (hv : bootBuiltins x = some (.type n)) (ha : SA X T W (a :: es) r) (hn : x ≠ "__name__" := by decide) (hdb : (x == ("__debug__" : Str)) = false := by decide)
    (he : starEach (a :: es) X.env = (false, eval a X.env) :: starEach es X.env := by rfl) (hpl : (backTo pos (starEach es X.env)).any (·.1) = false := by rfl) : SE X T W (.Call (.Name x p) (a :: es) [] pos) (eCall o r) :=
  PE.weak (pe_callTy hc hg hm hv ha hn hdb he hpl) fun σ H Q h => rd_call hd h
theorem isL1 {G : Gm} {Hs : Hp} {d : D} {vs : List V} (m : IsL G Hs [d] vs) : ∃ v, vs = [v] ∧ Is G Hs d v := by
  obtain ⟨v, r, rfl, m1, m2⟩ := m
  obtain rfl : r = [] := m2
  exact ⟨v, rfl, m1⟩
theorem isL2 {G : Gm} {Hs : Hp} {d e : D} {vs : List V} (m : IsL G Hs [d, e] vs) : ∃ v w, vs = [v, w] ∧ Is G Hs d v ∧ Is G Hs e w := by
  obtain ⟨v, r, rfl, m1, m2⟩ := m
  obtain ⟨w, rfl, m3⟩ := isL1 m2
  exact ⟨v, w, rfl, m1, m3⟩
/-! len -/
def lenD : D → Option Nat
  | .str x => if x.length ≤ sizeLine then some x.length else none
  | .tup xs => some xs.length
  | .ctup xs => some xs.length
  | .lst xs => some xs.length
  | .scr ns => some ns.length
  | .dK ks _ => some ks.length
  | _ => none
def rLenA (K : PySem.W.Frag) : List V → Hp → VK → Prop := fun xs H Q => (∃ x n, xs = [x] ∧ LenV K x H n ∧ Q (.int n) H) ∨ ∃ a kvs, xs = [V.ref a] ∧ H a = some (.dK kvs) ∧ Q (.int kvs.length) H
theorem len_run {G : Gm} {Hs H : Hp} {d : D} {n : Nat} {v : V} {Q : VK} (l : Le Hs H) (b : BIs G Hs H d v) (e : lenD d = some n) (j : Q (.int n) H) : rLenA G.K [v] H Q := by
  unfold lenD at e
  split at e
  · rename_i x
    split at e
    · rename_i hx
      obtain rfl := Option.some.inj e
      obtain rfl : v = .str x := b.scal fun p o => o
      exact .inl ⟨_, _, rfl, ⟨hx, rfl⟩, j⟩
    · cases e
  · rename_i xs
    obtain rfl := Option.some.inj e
    obtain ⟨y, vs, rfl, s, m⟩ := b.tup l
    exact .inl ⟨_, _, rfl, .inr ⟨vs, .inl (.inl s), IsL.length m⟩, j⟩
  · rename_i xs
    obtain rfl := Option.some.inj e
    obtain ⟨y, vs, rfl, s, m⟩ := b.ctup l
    exact .inl ⟨_, _, rfl, .inr ⟨vs, s, IsL.length m⟩, j⟩
  · rename_i xs
    obtain rfl := Option.some.inj e
    obtain ⟨y, vs, rfl, s, m⟩ := b.lst l
    exact .inl ⟨_, _, rfl, .inl ⟨vs, .inl (.inl s), IsL.length m⟩, j⟩
  · rename_i ns
    obtain rfl := Option.some.inj e
    obtain ⟨y, rfl, s⟩ := b.scal fun p o => o
    exact .inl ⟨_, _, rfl, .inl ⟨_, l.sqL s, by rw [List.length_map]⟩, j⟩
  · rename_i ks ds
    obtain rfl := Option.some.inj e
    obtain ⟨y, vs, rfl, s, m, m2⟩ := b.dK l
    refine .inr ⟨_, _, rfl, s, ?_⟩
    rw [List.length_zip, ← m, Nat.min_self]
    exact j
  · cases e
def oLen : List D → Option D
  | [d] => (lenD d).map fun n => .int n
  | _ => none
theorem oc_len : OpC (gm X) (rLenA X.K) oLen := fun {Hs H ds d vs Q} l m e j => by
  unfold oLen at e
  split at e
  · rename_i z
    obtain ⟨v, rfl, i⟩ := isL1 m
    cases e1 : lenD z with
    | none => rw [e1] at e; cases e
    | some n =>
      rw [e1] at e
      obtain rfl := Option.some.inj e
      exact len_run l (.inl i) e1 (j _ H (New.refl H) fun _ _ _ => rfl)
  · cases e
theorem se_len (hg : Gl X "len") (hm : X.mg "len" = none) (ha : SE X T W a f) (h0 : starEach [a] X.env = (false, eval a X.env) :: starEach [] X.env := by rfl) : SE X T W (.Call (.Name "len" p) [a] [] pos) (eCall oLen (aCons f aNil)) :=
  se_callB (call_len.or call_lenD) oc_len hg hm PySem.boot_len (sa_cons ha sa_nil h0) (he := h0)
/-- len of a name's object -/
def eLenV (i : Nat) : Env' → Ro D := fun env => match slotD env i with
  | some d => lift ((lenD d).map fun n => .int n) env
  | none => .stk
theorem se_lenV (i : Nat) {y : Str} {p3 : Pos} (hg : Gl X "len") (hm : X.mg "len" = none) (hN : X.N[i]? = some y := by rfl) (hv : Vis X.env.scope y := by first | exact Or.inl rfl | exact Or.inr (Or.inl rfl) | exact Or.inr (Or.inr rfl))
    (hd : (y == ("__debug__" : Str)) = false := by decide) (hcd : (y == ("__classdict__" : Str)) = false := by decide) (h0 : starEach [.Name y p3] X.env = (false, eval (.Name y p3) X.env) :: starEach [] X.env := by rfl) : SE X T W (.Call (.Name "len" p) [.Name y p3] [] pos) (eLenV i) :=
  PE.weak (pe_callB (call_len.or call_lenD) hg hm PySem.boot_len (pa_cons (pe_var hN hv hd hcd) pa_nil h0) (he := h0)) fun σ H Q h => by
    obtain ⟨F, env, S, h⟩ := h
    unfold eLenV at h
    split at h
    · rename_i d e
      obtain ⟨v, h1, b⟩ := slot_bis S e
      obtain ⟨z, e2, h⟩ := lift_some h
      cases e1 : lenD d with
      | none => rw [e1] at e2; cases e2
      | some n =>
        rw [e1] at e2
        obtain rfl := Option.some.inj e2
        exact ⟨v, h1, len_run Le.unhid b e1 (fin_same (R := isD (gm X)) (a := .int n) S rfl h)⟩
    · exact h.elim
/-! abs, int, max, min, sum, all, any of lists -/
def oAbs : List D → Option D
  | [.int i] => some (.int (if i < 0 then -i else i))
  | _ => none
theorem oc_abs : OpC (gm X) (fun xs H Q => ∃ i, xs = [.int i] ∧ Q (.int (if i < 0 then -i else i)) H) oAbs := fun {Hs H ds d vs Q} l m e j => by
  unfold oAbs at e
  split at e
  · rename_i i
    obtain ⟨v, rfl, i1⟩ := isL1 m
    obtain rfl : v = .int i := i1
    obtain rfl := Option.some.inj e
    exact ⟨i, rfl, j _ H (New.refl H) fun _ _ _ => rfl⟩
  · cases e
def oInt : List D → Option D
  | [.int i] => some (.int i)
  | [.bl b] => some (.int (if b then 1 else 0))
  | _ => none
theorem oc_int : OpC (gm X) (fun xs H Q => (∃ i, xs = [.int i] ∧ Q (.int i) H) ∨ ∃ k, xs = [.bl k] ∧ Q (.int (if k then 1 else 0)) H) oInt := fun {Hs H ds d vs Q} l m e j => by
  unfold oInt at e
  split at e
  · rename_i i
    obtain ⟨v, rfl, i1⟩ := isL1 m
    obtain rfl : v = .int i := i1
    obtain rfl := Option.some.inj e
    exact .inl ⟨i, rfl, j _ H (New.refl H) fun _ _ _ => rfl⟩
  · rename_i i
    obtain ⟨v, rfl, i1⟩ := isL1 m
    obtain rfl : v = .bl i := i1
    obtain rfl := Option.some.inj e
    exact .inr ⟨i, rfl, j _ H (New.refl H) fun _ _ _ => rfl⟩
  · cases e
def o2I (h : Int → Int → Int) : List D → Option D
  | [.int i, .int j] => some (.int (h i j))
  | _ => none
theorem oc_2I {h : Int → Int → Int} : OpC (gm X) (fun xs H Q => ∃ i j, xs = [.int i, .int j] ∧ Q (.int (h i j)) H) (o2I h) := fun {Hs H ds d vs Q} l m e j => by
  unfold o2I at e
  split at e
  · rename_i i i'
    obtain ⟨v, w, rfl, i1, i2⟩ := isL2 m
    obtain rfl : v = .int i := i1
    obtain rfl : w = .int i' := i2
    obtain rfl := Option.some.inj e
    exact ⟨i, i', rfl, j _ H (New.refl H) fun _ _ _ => rfl⟩
  · cases e
def max2 (i j : Int) : Int := if j > i then j else i
def min2 (i j : Int) : Int := if j < i then j else i
def oSum : List D → Option D
  | [.lst xs] => (ints? xs).map fun ns => .int ns.sum
  | _ => none
theorem oc_sum : OpC (gm X) (rSum X.K) oSum := fun {Hs H ds d vs Q} l m e j => by
  unfold oSum at e
  split at e
  · rename_i xs
    obtain ⟨v, rfl, i1⟩ := isL1 m
    cases e1 : ints? xs with
    | none => rw [e1] at e; cases e
    | some ns =>
      rw [e1] at e
      obtain rfl := Option.some.inj e
      obtain ⟨y, vs, rfl, s, m⟩ := i1
      rw [ints?_is e1] at m
      rw [IsL.ints m] at s
      exact ⟨y, ns, rfl, l.lq s, j _ H (New.refl H) fun _ _ _ => rfl⟩
  · cases e
/-- data as truth values, all of them -/
def bls? : List D → Option (List Bool)
  | [] => some []
  | .bl i :: r => (bls? r).map (i :: ·)
  | _ :: _ => none
theorem bls?_is {G : Gm} {Hs : Hp} : ∀ {xs : List D} {bs : List Bool} {vs : List V}, bls? xs = some bs → IsL G Hs xs vs → vs = bs.map V.bl
  | [], bs, vs, h, m => by
    obtain rfl := Option.some.inj h
    exact m
  | d :: xs, bs, vs, h, m => by
    obtain ⟨v, r, rfl, m1, m2⟩ := m
    cases d with
    | bl b =>
      obtain rfl : v = .bl b := m1
      unfold bls? at h
      cases e : bls? xs with
      | none => rw [e] at h; cases h
      | some cs =>
        rw [e] at h
        obtain rfl := Option.some.inj h
        rw [bls?_is e m2]
        rfl
    | _ => cases h
theorem bls?_map : ∀ bs : List Bool, bls? (bs.map D.bl) = some bs
  | [] => rfl
  | n :: ns => by
    show (bls? (ns.map D.bl)).map (n :: ·) = _
    rw [bls?_map ns]
    rfl
def oBls (h : List Bool → Bool) : List D → Option D
  | [.lst xs] => (bls? xs).map fun bs => .bl (h bs)
  | _ => none
theorem oc_bls {h : List Bool → Bool} : OpC (gm X) (fun vs H Q => ∃ (a : Addr) (bs : List Bool), vs = [V.ref a] ∧ SqL X.K H a (bs.map V.bl) ∧ Q (.bl (h bs)) H) (oBls h) := fun {Hs H ds d vs Q} l m e j => by
  unfold oBls at e
  split at e
  · rename_i xs
    obtain ⟨v, rfl, i1⟩ := isL1 m
    cases e1 : bls? xs with
    | none => rw [e1] at e; cases e
    | some bs =>
      rw [e1] at e
      obtain rfl := Option.some.inj e
      obtain ⟨y, vs, rfl, s, m⟩ := i1
      rw [bls?_is e1 m] at s
      exact ⟨y, bs, rfl, l.lq s, j _ H (New.refl H) fun _ _ _ => rfl⟩
  · cases e
def allB (bs : List Bool) : Bool := bs.all id
def anyB (bs : List Bool) : Bool := bs.any id
/-- the greatest, the least of some ints -/
def maxL : List Int → Int
  | [] => 0
  | [n] => n
  | n :: ns => if maxL ns < n then n else maxL ns
def minL : List Int → Int
  | [] => 0
  | [n] => n
  | n :: ns => if n < minL ns then n else minL ns
theorem maxL_is : ∀ {ns : List Int} {m : Int}, m ∈ ns → (∀ y ∈ ns, y ≤ m) → maxL ns = m
  | [], m, h, _ => by cases h
  | [n], m, h, _ => by
    obtain rfl : m = n := by simpa using h
    rfl
  | n :: n' :: ns, m, h, k => by
    have hn := k n (by simp)
    show (if maxL (n' :: ns) < n then n else maxL (n' :: ns)) = m
    rcases List.mem_cons.mp h with e | e
    · subst e
      have hm : maxL (n' :: ns) ∈ n' :: ns ∧ ∀ y ∈ n' :: ns, y ≤ maxL (n' :: ns) := maxL_max n' ns
      have := k _ (List.mem_cons_of_mem _ hm.1)
      split
      · rfl
      · omega
    · rw [maxL_is e fun y hy => k y (List.mem_cons_of_mem _ hy), if_neg (by omega)]
where maxL_max : ∀ (n : Int) (ns : List Int), maxL (n :: ns) ∈ n :: ns ∧ ∀ y ∈ n :: ns, y ≤ maxL (n :: ns)
  | n, [] => by
    refine ⟨by simp [maxL], fun y hy => ?_⟩
    obtain rfl : y = n := by simpa using hy
    simp [maxL]
  | n, n' :: ns => by
    obtain ⟨a1, a2⟩ := maxL_max n' ns
    have e : maxL (n :: n' :: ns) = if maxL (n' :: ns) < n then n else maxL (n' :: ns) := rfl
    rw [e]
    split
    · refine ⟨by simp, fun y hy => ?_⟩
      rcases List.mem_cons.mp hy with rfl | hy
      · omega
      · have := a2 y hy; omega
    · refine ⟨List.mem_cons_of_mem _ a1, fun y hy => ?_⟩
      rcases List.mem_cons.mp hy with rfl | hy
      · omega
      · exact a2 y hy
theorem minL_is : ∀ {ns : List Int} {m : Int}, m ∈ ns → (∀ y ∈ ns, m ≤ y) → minL ns = m
  | [], m, h, _ => by cases h
  | [n], m, h, _ => by
    obtain rfl : m = n := by simpa using h
    rfl
  | n :: n' :: ns, m, h, k => by
    have hn := k n (by simp)
    show (if n < minL (n' :: ns) then n else minL (n' :: ns)) = m
    rcases List.mem_cons.mp h with e | e
    · subst e
      have hm : minL (n' :: ns) ∈ n' :: ns ∧ ∀ y ∈ n' :: ns, minL (n' :: ns) ≤ y := minL_min n' ns
      have := k _ (List.mem_cons_of_mem _ hm.1)
      split
      · rfl
      · omega
    · rw [minL_is e fun y hy => k y (List.mem_cons_of_mem _ hy), if_neg (by omega)]
where minL_min : ∀ (n : Int) (ns : List Int), minL (n :: ns) ∈ n :: ns ∧ ∀ y ∈ n :: ns, minL (n :: ns) ≤ y
  | n, [] => by
    refine ⟨by simp [minL], fun y hy => ?_⟩
    obtain rfl : y = n := by simpa using hy
    simp [minL]
  | n, n' :: ns => by
    obtain ⟨a1, a2⟩ := minL_min n' ns
    have e : minL (n :: n' :: ns) = if n < minL (n' :: ns) then n else minL (n' :: ns) := rfl
    rw [e]
    split
    · refine ⟨by simp, fun y hy => ?_⟩
      rcases List.mem_cons.mp hy with rfl | hy
      · omega
      · have := a2 y hy; omega
    · refine ⟨List.mem_cons_of_mem _ a1, fun y hy => ?_⟩
      rcases List.mem_cons.mp hy with rfl | hy
      · omega
      · exact a2 y hy
def oMx (h : List Int → Int) : List D → Option D
  | [.lst xs] => match ints? xs with
    | some (n :: ns) => some (.int (h (n :: ns)))
    | _ => none
  | _ => none
theorem oc_max : OpC (gm X) (rMax X.K) (oMx maxL) := fun {Hs H ds d vs Q} l m e j => by
  unfold oMx at e
  split at e
  · rename_i xs
    split at e
    · rename_i n ns e1
      obtain rfl := Option.some.inj e
      obtain ⟨v, rfl, y, vs, rfl, s, m⟩ := isL1 m
      rw [ints?_is e1] at m
      rw [IsL.ints m] at s
      refine ⟨y, n :: ns, rfl, l.lq s, by simp, fun z h1 h2 => ?_⟩
      rw [← maxL_is h1 h2]
      exact j _ H (New.refl H) fun _ _ _ => rfl
    · cases e
  · cases e
theorem oc_min : OpC (gm X) (rMin X.K) (oMx minL) := fun {Hs H ds d vs Q} l m e j => by
  unfold oMx at e
  split at e
  · rename_i xs
    split at e
    · rename_i n ns e1
      obtain rfl := Option.some.inj e
      obtain ⟨v, rfl, y, vs, rfl, s, m⟩ := isL1 m
      rw [ints?_is e1] at m
      rw [IsL.ints m] at s
      refine ⟨y, n :: ns, rfl, l.lq s, by simp, fun z h1 h2 => ?_⟩
      rw [← minL_is h1 h2]
      exact j _ H (New.refl H) fun _ _ _ => rfl
    · cases e
  · cases e
/-! list(x), tuple(x) -/
def oList : List D → Option D
  | [.lst xs] => some (.lst xs)
  | [.tup xs] => some (.lst xs)
  | [.ctup xs] => some (.lst xs)
  | _ => none
def oTuple : List D → Option D
  | [.lst xs] => some (.tup xs)
  | [.tup xs] => some (.tup xs)
  | _ => none
def rListOf (K : PySem.W.Frag) : List V → Hp → VK → Prop := fun xs H Q => ∃ p ys, xs = [.ref p] ∧ (SqL K H p ys ∨ SqT K H p ys) ∧ ∀ l, H l = none → Q (.ref l) (upd H l (.lst ys))
theorem list_run {G : Gm} {Hs H : Hp} {ds : List D} {d : D} {vs : List V} (l : Le Hs H) (m : IsL G Hs ds vs) (e : oList ds = some d) : ∃ p ys zs, vs = [.ref p] ∧ d = .lst zs ∧ (SqL G.K H p ys ∨ SqT G.K H p ys) ∧ IsL G Hs zs ys := by
  unfold oList at e
  split at e
  · rename_i xs
    obtain rfl := Option.some.inj e
    obtain ⟨v, rfl, y, vs, rfl, s, m⟩ := isL1 m
    exact ⟨y, vs, xs, rfl, rfl, .inl (l.lq s), m⟩
  · rename_i xs
    obtain rfl := Option.some.inj e
    obtain ⟨v, rfl, y, vs, rfl, s, m⟩ := isL1 m
    exact ⟨y, vs, xs, rfl, rfl, .inr (l.tq s), m⟩
  · rename_i xs
    obtain rfl := Option.some.inj e
    obtain ⟨v, rfl, y, vs, rfl, s, m⟩ := isL1 m
    exact ⟨y, vs, xs, rfl, rfl, .inr (l.sqT s), m⟩
  · cases e
theorem sf_list (hg : Gl X "list") (hm : X.mg "list" = none) (ha : SE X T W a f) (h0 : starEach [a] X.env = (false, eval a X.env) :: starEach [] X.env := by rfl) : SF X T W (.Call (.Name "list" p) [a] [] pos) (eCall oList (aCons f aNil)) :=
  PE.weak (pe_callTy call_list_of hg hm (by decide +kernel) (sa_cons ha sa_nil h0) (he := h0)) fun σ H Q h => rdF_bind h fun F env ds vs H1 S1 i1 h1 => by
    cases e : oList ds with
    | none =>
      rw [e] at h1
      exact h1.elim
    | some d =>
      rw [e] at h1
      obtain ⟨y, ys, zs, rfl, rfl, s, m⟩ := list_run Le.unhid i1 e
      exact ⟨y, ys, rfl, s, fun w hw => fin_newF (d := .lst zs) S1 hw (fun Hs l => ⟨ys, upd_same, IsL.mono l _ _ m⟩) h1⟩
theorem se_tuple (hg : Gl X "tuple") (hm : X.mg "tuple" = none) (ha : SE X T W a f) (h0 : starEach [a] X.env = (false, eval a X.env) :: starEach [] X.env := by rfl) : SE X T W (.Call (.Name "tuple" p) [a] [] pos) (eCall oTuple (aCons f aNil)) :=
  PE.weak (pe_callTy call_tuple_of hg hm (by decide +kernel) (sa_cons ha sa_nil h0) (he := h0)) fun σ H Q h => rd_bind h fun F env ds vs H1 S1 i1 h1 => by
    obtain ⟨d, e, h1⟩ := lift_some h1
    unfold oTuple at e
    split at e
    · rename_i xs
      obtain rfl := Option.some.inj e
      obtain ⟨v, rfl, y, vs, rfl, s, m⟩ := isL1 i1
      exact ⟨y, vs, rfl, .inl ⟨Le.unhid.lq s, fun w hw => fin_new (d := .tup xs) S1 (New.upd hw) (fun Hs' l' n' => ⟨w, vs, rfl, n' w _ hw upd_same, IsL.mono l' _ _ m⟩) h1⟩⟩
    · rename_i xs
      obtain rfl := Option.some.inj e
      obtain ⟨v, rfl, y, vs, rfl, s, m⟩ := isL1 i1
      exact ⟨y, vs, rfl, .inr ⟨Le.unhid.tq s, fin_same (R := isD (gm X)) (a := .tup xs) S1 ⟨y, vs, rfl, s, m⟩ h1⟩⟩
    · cases e
/-! isinstance(x, T) -/
inductive Ty6 where
  | i | b | s | t | l | d
def Ty6.nm : Ty6 → String
  | .i => "int"
  | .b => "bool"
  | .s => "str"
  | .t => "tuple"
  | .l => "list"
  | .d => "dict"
def tyD : D → Option String
  | .non => some "NoneType"
  | .bl _ => some "bool"
  | .int _ => some "int"
  | .str _ => some "str"
  | .tup _ => some "tuple"
  | .lst _ => some "list"
  | .dK _ _ => some "dict"
  | .dT _ _ => some "dict"
  | _ => none
def isiD (t : Ty6) : D → Option Bool
  | .non => some false
  | .bl _ => some (match t with | .b => true | .i => true | _ => false)
  | .int _ => some (match t with | .i => true | _ => false)
  | .str _ => some (match t with | .s => true | _ => false)
  | .tup _ => some (match t with | .t => true | _ => false)
  | .lst _ => some (match t with | .l => true | _ => false)
  | .dK _ _ => some (match t with | .d => true | _ => false)
  | .dT _ _ => some (match t with | .d => true | _ => false)
  | _ => none
theorem kit6 : ∀ t : Ty6, kitB "NoneType" t.nm = some false ∧ kitB "bool" t.nm = some (match t with | .b => true | .i => true | _ => false) ∧ kitB "int" t.nm = some (match t with | .i => true | _ => false) ∧ kitB "str" t.nm = some (match t with | .s => true | _ => false) ∧
    kitB "tuple" t.nm = some (match t with | .t => true | _ => false) ∧ kitB "list" t.nm = some (match t with | .l => true | _ => false) ∧ kitB "dict" t.nm = some (match t with | .d => true | _ => false)
  | .i => by decide +kernel
  | .b => by decide +kernel
  | .s => by decide +kernel
  | .t => by decide +kernel
  | .l => by decide +kernel
  | .d => by decide +kernel
theorem isi_ty {G : Gm} {Hs H : Hp} {t : Ty6} {d : D} {v : V} {b : Bool} (l : Le Hs H) (i : Is G Hs d v) (e : isiD t d = some b) : ∃ n, TyX G.K H v (.type n) ∧ kitB n t.nm = some b := by
  obtain ⟨z0, z1, z2, z3, z4, z5, z6⟩ := kit6 t
  cases d with
  | non => obtain rfl : v = .non := i; obtain rfl := Option.some.inj e; exact ⟨_, .base .non, z0⟩
  | bl x => obtain rfl : v = .bl x := i; obtain rfl := Option.some.inj e; exact ⟨_, .base (.bl x), z1⟩
  | int x => obtain rfl : v = .int x := i; obtain rfl := Option.some.inj e; exact ⟨_, .base (.int x), z2⟩
  | str x => obtain rfl : v = .str x := i; obtain rfl := Option.some.inj e; exact ⟨_, .base (.str x), z3⟩
  | tup xs => obtain ⟨p, vs, rfl, s, m⟩ := i; obtain rfl := Option.some.inj e; exact ⟨_, .base (.tup (l.tp s)), z4⟩
  | lst xs => obtain ⟨p, vs, rfl, s, m⟩ := i; obtain rfl := Option.some.inj e; exact ⟨_, .base (.lst (l.lp s)), z5⟩
  | dK ks ds => obtain ⟨p, vs, rfl, s, m⟩ := i; obtain rfl := Option.some.inj e; exact ⟨_, .base (.dK (l _ _ s (fun ps z => by cases z))), z6⟩
  | dT ks ds => obtain ⟨p, vs, rfl, s, m⟩ := i; obtain rfl := Option.some.inj e; exact ⟨_, .base (.dT (l _ _ s (fun ps z => by cases z))), z6⟩
  | fn y => cases e
  | scr ns => cases e
  | ctup xs => cases e
def eIsi (t : Ty6) (f : Env' → Ro D) : Env' → Ro D := fun env => (f env).bind fun d e => lift ((isiD t d).map .bl) e
theorem se_isi (t : Ty6) {n : Str} (hn : bootBuiltins n = some (.type t.nm)) (hg : Gl X "isinstance") (hm : X.mg "isinstance" = none) (hg2 : Gl X n) (hm2 : X.mg n = none) (ha : SE X T W a f) (hnn : n ≠ "__name__" := by decide) (hnd : (n == ("__debug__" : Str)) = false := by decide)
    (h0 : starEach [a, .Name n p2] X.env = (false, eval a X.env) :: starEach [.Name n p2] X.env := by rfl) (h1 : starEach [.Name n p2] X.env = (false, eval (.Name n p2) X.env) :: starEach [] X.env := by rfl) (hpl : (backTo pos (starEach [.Name n p2] X.env)).any (·.1) = false := by rfl) :
    SE X T W (.Call (.Name "isinstance" p) [a, .Name n p2] [] pos) (eIsi t f) :=
  PE.weak (pe_callB call_isi hg hm (by decide +kernel) (pa_cons ha (pa_cons (pe_bltn (v := .ty t.nm) hg2 hm2 hn rfl hnn hnd) pa_nil h1) h0) (he := h0) (hpl := hpl)) fun σ H Q h => rd_bind h fun F env d v H1 S1 i1 h1 => by
    obtain ⟨z, e, h1⟩ := lift_some h1
    cases e1 : isiD t d with
    | none => rw [e1] at e; cases e
    | some b =>
      rw [e1] at e
      obtain rfl := Option.some.inj e
      obtain ⟨n', ty, ek⟩ := isi_ty Le.unhid i1 e1
      exact ⟨v, .ty t.nm, _, _, b, rfl, .ty _, ty, kit_ty ek, fin_same (R := isD (gm X)) (a := .bl b) S1 rfl h1⟩
end
end Rf

namespace Rf
open PySem L2 LamX

/-! ## statements -/
inductive So where
  | nx (e : Env') | ret (d : D) (e : Env') | retF (d : D) (e : Env') | bk (e : Env') | ct (e : Env') | exc (c : Str) (p : Option (Str × D)) (e : Env') | stk
def ofRo {α : Type} (r : Ro α) (g : α → Env' → So) : So := match r with
  | .ok a e => g a e
  | .exc c p e => .exc c p e
  | .stk => .stk
abbrev Pl (F : Addr → Prop) (a : Addr) : Addr → Prop := fun b => F b ∨ b = a
def RstS (G : Gm) (T : Tb) (F : Addr → Prop) (σ : St) (H : Hp) (env : Env') (W : WX) (D : Ends) : So → Prop
  | .nx e => ∀ σ' H', Stp σ H env σ' H' e → Sta G T F σ' H' e → D.nx σ' H'
  | .bk e => ∀ σ' H', Stp σ H env σ' H' e → Sta G T F σ' H' e → D.bk σ' H'
  | .ct e => ∀ σ' H', Stp σ H env σ' H' e → Sta G T F σ' H' e → D.ct σ' H'
  | .ret d e => ∀ v σ' H', Stp σ H env σ' H' e → Sta G T F σ' H' e → Is G (hid H' (Hd F σ' e)) d v → D.rt v H'
  | .retF d e => ∀ a σ' H', Stp σ H env σ' H' e → Sta G T (Pl F a) σ' H' e → OIs G (hid H' (Hd (Pl F a) σ' e)) H' d a → (H a = none ∨ Ow σ env a) → D.rt (.ref a) H'
  | .exc c p e => ∀ cls dd σ' H', Stp σ H env σ' H' e → Sta G T F σ' H' e → ExcIs G (hid H' (Hd F σ' e)) H' c p cls dd → W cls dd σ' H'
  | .stk => False
def rdS (G : Gm) (T : Tb) (f : Env' → So) (W : WX) : TS := fun D σ H => ∃ (F : Addr → Prop) (env : Env'), Sta G T F σ H env ∧ RstS G T F σ H env W D (f env)
def SS (X : Cx) (T : Tb) (W : WX) (st : Stmt) (f : Env' → So) : Prop := PS X st (rdS (gm X) T f W)
def SB (X : Cx) (T : Tb) (W : WX) (st : List Stmt) (f : Env' → So) : Prop := PSs X st (rdS (gm X) T f W)
theorem Stp.back {σ σ1 : St} {H H1 : Hp} {env env1 : Env'} (s : Stp σ H env σ1 H1 env1) {a : Addr} (h : H1 a = none ∨ Ow σ1 env1 a) : H a = none ∨ Ow σ env a := by
  by_cases z : H a = none
  · exact .inl z
  · by_cases o : Ow σ env a
    · exact .inr o
    · rcases h with h | h
      · exact absurd h (s.dom a z)
      · exact absurd h (s.own a z o)
section
variable {G : Gm} {T : Tb} {F : Addr → Prop} {σ σ1 : St} {H H1 : Hp} {env env1 : Env'} {W : WX} {De : Ends}
theorem RstS.later {r : So} (h : RstS G T F σ H env W De r) (s : Stp σ H env σ1 H1 env1) : RstS G T F σ1 H1 env1 W De r := by
  cases r with
  | nx e => exact fun σ' H' s' => h σ' H' (s.trans s')
  | bk e => exact fun σ' H' s' => h σ' H' (s.trans s')
  | ct e => exact fun σ' H' s' => h σ' H' (s.trans s')
  | ret d e => exact fun v σ' H' s' => h v σ' H' (s.trans s')
  | retF d e => exact fun a σ' H' s' st o n => h a σ' H' (s.trans s') st o (s.back n)
  | exc c p e => exact fun cls dd σ' H' s' => h cls dd σ' H' (s.trans s')
  | stk => exact h
/-- an expression ahead of what a statement does with it -/
theorem rdS_bind {α β : Type} {R : Rel α β} {f : Env' → Ro α} {g : α → Env' → So} {K : β → Hp → Prop} (h : rdS G T (fun env => ofRo (f env) g) W De σ H)
    (k : ∀ F env a b H1, Sta G T F σ H1 env → R (hid H1 (Hd F σ env)) a b → RstS G T F σ H1 env W De (g a env) → K b H1) : rd G T R f W σ H K := by
  obtain ⟨F, env, S, h⟩ := h
  refine ⟨F, env, S, ?_⟩
  cases e : f env with
  | ok a e1 =>
    simp only [e, ofRo] at h
    exact fun b H' s st r => k F e1 a b H' st r (h.later s)
  | exc c p e1 =>
    simp only [e, ofRo] at h
    exact fun cls dd H' s st x => h cls dd σ H' s st x
  | stk =>
    simp only [e, ofRo] at h
    exact h
theorem RstS.bind {α β : Type} {R : Rel α β} {f : Ro α} {g : α → Env' → So} {K : β → Hp → Prop} (S : Sta G T F σ H env) (h : RstS G T F σ H env W De (ofRo f g))
    (k : ∀ a b H1 env1, Stp σ H env σ H1 env1 → Sta G T F σ H1 env1 → R (hid H1 (Hd F σ env1)) a b → RstS G T F σ H1 env1 W De (g a env1) → K b H1) : Rst G T R F σ H env W K f := by
  cases f with
  | ok a e1 => exact fun b H' s st r => k a b H' e1 s st r (RstS.later (r := g a e1) h s)
  | exc c p e1 => exact fun cls dd H' s st x => h cls dd σ H' s st x
  | stk => exact h
/-- .. with a new object as its value -/
theorem rdS_bindF {f : Env' → Ro D} {g : D → Env' → So} {K : VK} (h : rdS G T (fun env => ofRo (f env) g) W De σ H)
    (k : ∀ F σ0 H0 env0 env d a H1, RstS G T F σ0 H0 env0 W De (g d env) → Stp σ0 H0 env0 σ H1 env → H0 a = none → Sta G T (Pl F a) σ H1 env → OIs G (hid H1 (Hd (Pl F a) σ env)) H1 d a → K (.ref a) H1) : rdF G T f W σ H K := by
  obtain ⟨F, env, S, h⟩ := h
  refine ⟨F, env, S, ?_⟩
  cases e : f env with
  | ok d e1 =>
    simp only [e, ofRo] at h
    exact fun a H' s st o n => k F σ H env e1 d a H' h s n st o
  | exc c p e1 =>
    simp only [e, ofRo] at h
    exact fun cls dd H' s st x => h cls dd σ H' s st x
  | stk =>
    simp only [e, ofRo] at h
    exact h

/-! ### storing into slots -/
theorem ow_set {i : Nat} {x : Option V} {d : D} {a : Addr} (h : Ow (σ.set i x) (env.set i (.v d)) a) : Ow σ env a := by
  obtain ⟨j, e, h1, h2⟩ := h
  rcases get_set h1 with ⟨_, q, _⟩ | ⟨q, h1⟩
  · cases q
  rcases get_set h2 with ⟨q', _⟩ | ⟨_, h2⟩
  · exact absurd q' q
  exact ⟨j, e, h1, h2⟩
theorem Sta.set (S : Sta G T F σ H env) {i : Nat} {d : D} {v : V} (fr : Fr T i) (h : Is G (hid H (Hd F σ env)) d v) : Sta G T F (σ.set i (some v)) H (env.set i (.v d)) ∧ Stp σ H env (σ.set i (some v)) H (env.set i (.v d)) := by
  have le : Le (hid H (Hd F σ env)) (hid H (Hd F (σ.set i (some v)) (env.set i (.v d)))) := Le.hid fun b o e n k => ⟨fun z => k (by
    rcases z with z | z
    · exact .inl (ow_set z)
    · exact .inr z), e⟩
  refine ⟨⟨by rw [List.length_set, List.length_set]; exact S.len, fun j s e => ?_, fun j k x y a h1 h2 h3 h4 => ?_, fun a z => S.fr a (ow_set z), S.fd, S.tab.set fr _, S.old.to (fun _ _ _ _ h => h) (fun _ _ h => h) fun b z => .inl (ow_set z), S.vis.trans le⟩, fun a o e _ _ => e, fun a _ k z => k (ow_set z), fun _ e => e⟩
  · rcases get_set e with ⟨e1, e2, e3⟩ | ⟨e1, e⟩
    · subst e1 e2
      exact ⟨some v, List.getElem?_set_self (by rw [← S.len]; exact e3), v, rfl, Is.mono le _ _ h⟩
    · obtain ⟨x, q1, q2⟩ := S.sl j s e
      exact ⟨x, by rw [List.getElem?_set_ne e1]; exact q1, q2.mono le fun _ _ _ _ => rfl⟩
  · rcases get_set h1 with ⟨_, q, _⟩ | ⟨e1, h1⟩
    · cases q
    rcases get_set h2 with ⟨_, q, _⟩ | ⟨e2, h2⟩
    · cases q
    rw [List.getElem?_set_ne e1] at h3
    rw [List.getElem?_set_ne e2] at h4
    exact S.dis j k x y a h1 h2 h3 h4
/-- a new object goes to a slot of its own -/
theorem Sta.setO {σ0 : St} {H0 : Hp} {env0 : Env'} {a : Addr} {i : Nat} {d : D} (s : Stp σ0 H0 env0 σ H env) (n : H0 a = none ∨ Ow σ0 env0 a) (S : Sta G T (Pl F a) σ H env) (o : OIs G (hid H (Hd (Pl F a) σ env)) H d a) (nF : ¬ F a) (fr : Fr T i) (od : T.old a = none) :
    Sta G T F (σ.set i (some (.ref a))) H (env.set i (.o d)) ∧ Stp σ0 H0 env0 (σ.set i (some (.ref a))) H (env.set i (.o d)) := by
  have hw : ∀ b, Ow (σ.set i (some (.ref a))) (env.set i (.o d)) b → Ow σ env b ∨ b = a := fun b ⟨j, e, h1, h2⟩ => by
    rcases get_set h2 with ⟨q1, q2, _⟩ | ⟨q, h2⟩
    · right
      cases q2
      rfl
    · rcases get_set h1 with ⟨q', _⟩ | ⟨_, h1⟩
      · exact absurd q' q
      · exact .inl ⟨j, e, h1, h2⟩
  have le : Le (hid H (Hd (Pl F a) σ env)) (hid H (Hd F (σ.set i (some (.ref a))) (env.set i (.o d)))) := Le.hid fun b u e _ k => ⟨fun z => k (by
    rcases z with z | z
    · rcases hw b z with z | z
      · exact .inl z
      · exact .inr (.inr z)
    · exact .inr (.inl z)), e⟩
  have na : ∀ {j : Nat} {e : D}, env[j]? = some (.o e) → σ[j]? = some (some (.ref a)) → False := fun {j e} h1 h2 => S.fr a ⟨j, e, h1, h2⟩ (.inr rfl)
  refine ⟨⟨by rw [List.length_set, List.length_set]; exact S.len, fun j s' e => ?_, fun j k x y b h1 h2 h3 h4 => ?_, fun b z => ?_, fun b z => S.fd b (.inl z), S.tab.set fr _, S.old.to (fun _ _ _ _ h => h) (fun _ _ h => h) fun b z => (hw b z).imp id fun e => by rw [e]; exact od, S.vis.trans le⟩, s.keep, fun b h k z => ?_, s.dom⟩
  · rcases get_set e with ⟨e1, e2, e3⟩ | ⟨e1, e⟩
    · subst e1 e2
      exact ⟨_, List.getElem?_set_self (by rw [← S.len]; exact e3), a, rfl, o.mono le rfl⟩
    · obtain ⟨x, q1, q2⟩ := S.sl j s' e
      exact ⟨x, by rw [List.getElem?_set_ne e1]; exact q1, q2.mono le fun _ _ _ _ => rfl⟩
  · rcases get_set h1 with ⟨q1, _, _⟩ | ⟨e1, h1⟩
    · rcases get_set h2 with ⟨q2, _, _⟩ | ⟨e2, h2⟩
      · exact q1.symm.trans q2
      · exfalso
        rw [List.getElem?_set_ne e2] at h4
        rcases get_set h3 with ⟨_, q3, _⟩ | ⟨q3, _⟩
        · cases q3
          exact na h2 h4
        · exact q3 q1
    · rcases get_set h2 with ⟨q2, _, _⟩ | ⟨e2, h2⟩
      · exfalso
        rw [List.getElem?_set_ne e1] at h3
        rcases get_set h4 with ⟨_, q3, _⟩ | ⟨q3, _⟩
        · cases q3
          exact na h1 h3
        · exact q3 q2
      · rw [List.getElem?_set_ne e1] at h3
        rw [List.getElem?_set_ne e2] at h4
        exact S.dis j k x y b h1 h2 h3 h4
  · rcases hw b z with z | z
    · exact fun q => S.fr b z (.inl q)
    · rw [z]; exact nF
  · rcases hw b z with z | z
    · exact s.own b h k z
    · rw [z] at h k
      rcases n with n | n
      · exact h n
      · exact k n
/-- an owned object is changed where it stands -/
theorem Sta.mut (S : Sta G T F σ H env) {i : Nat} {d d' : D} {a : Addr} {u : HO} (h : env[i]? = some (.o d)) (ha : σ[i]? = some (some (.ref a))) (o : OIs G (hid H (Hd F σ env)) (upd H a u) d' a) :
    Sta G T F σ (upd H a u) (env.set i (.o d')) ∧ Stp σ H env σ (upd H a u) (env.set i (.o d')) := by
  obtain ⟨a', ea, oa, wa⟩ := S.own h
  obtain rfl : a' = a := by
    rw [ha] at ea
    cases ea
    rfl
  have hw : ∀ b, Ow σ (env.set i (.o d')) b ↔ Ow σ env b := fun b => by
    refine ⟨fun ⟨j, e, h1, h2⟩ => ?_, fun ⟨j, e, h1, h2⟩ => ?_⟩
    · rcases get_set h1 with ⟨q, _, _⟩ | ⟨_, h1⟩
      · subst q
        exact ⟨i, d, h, h2⟩
      · exact ⟨j, e, h1, h2⟩
    · by_cases q : i = j
      · subst q
        exact ⟨i, d', List.getElem?_set_self (List.getElem?_eq_some_iff.mp h).1, h2⟩
      · exact ⟨j, e, by rw [List.getElem?_set_ne q]; exact h1, h2⟩
  have eH : hid (upd H a' u) (Hd F σ (env.set i (.o d'))) = hid H (Hd F σ env) := by
    funext b
    have e : Hd F σ (env.set i (.o d')) b ↔ Hd F σ env b := ⟨fun z => z.elim (fun z => .inl ((hw b).mp z)) .inr, fun z => z.elim (fun z => .inl ((hw b).mpr z)) .inr⟩
    unfold hid
    by_cases q : Hd F σ env b
    · rw [if_pos q, if_pos (e.mpr q)]
    · rw [if_neg q, if_neg fun z => q (e.mp z)]
      exact upd_ne fun z => q (by rw [z]; exact .inl wa)
  obtain ⟨o0, eo, nt, mu⟩ := oa.there
  have nOld : ∀ b, T.old b ≠ none → b ≠ a' := fun b e z => e (by rw [z]; exact S.old.ow a' wa)
  have nTab : ∀ p ∈ T.tabs, ∀ ps, H p.1 = some (.tbl ps) → p.1 ≠ a' := fun p _ ps e z => by
    rw [z, eo] at e
    exact nt ps (Option.some.inj e)
  refine ⟨⟨by rw [List.length_set]; exact S.len, fun j s e => ?_, fun j k x y b h1 h2 h3 h4 => ?_, fun b z => S.fr b ((hw b).mp z), fun b z => ?_, ⟨fun p hp => ?_, S.tab.2⟩, S.old.to (fun b ob e _ h => (upd_ne fun z => nOld b (by rw [e]; simp) z).trans h) (fun b e h => by rw [upd_ne (nOld b e)]; exact h) fun b z => .inl ((hw b).mp z), by rw [eH]; exact S.vis⟩, fun b ob e _ k => ?_, fun b _ k z => k ((hw b).mp z), fun b e => ?_⟩
  · rw [eH]
    rcases get_set e with ⟨q, e2, _⟩ | ⟨q, e⟩
    · subst q e2
      exact ⟨_, ha, a', rfl, o⟩
    · obtain ⟨x, q1, q2⟩ := S.sl j s e
      refine ⟨x, q1, q2.mono (Le.refl _) fun e' b es ex => ?_⟩
      subst es ex
      refine upd_ne fun z => q ?_
      rw [z] at q1
      exact S.dis i j d e' a' h e ha q1
  · have key : ∀ {j : Nat} {z : D}, (env.set i (.o d'))[j]? = some (.o z) → ∃ z', env[j]? = some (.o z') := fun {j z} q => by
      rcases get_set q with ⟨q1, _, _⟩ | ⟨_, q1⟩
      · subst q1; exact ⟨d, h⟩
      · exact ⟨z, q1⟩
    obtain ⟨x', h1⟩ := key h1
    obtain ⟨y', h2⟩ := key h2
    exact S.dis j k x' y' b h1 h2 h3 h4
  · by_cases q : b = a'
    · rw [q]; exact o.mut
    · rw [upd_ne q]; exact S.fd b z
  · obtain ⟨ps, t1, t2, t3⟩ := S.tab.1 p hp
    refine ⟨ps, by rw [upd_ne (nTab p hp ps t1)]; exact t1, t2, fun pos cv hc => ?_⟩
    obtain ⟨c, e1, e2⟩ := t3 pos cv hc
    refine ⟨c, e1, ?_⟩
    rw [upd_ne fun z => ?_]
    · exact e2
    · rw [z, eo] at e2
      have e3 := Option.some.inj e2
      rw [e3] at mu
      cases d <;> first
        | exact oa.elim
        | (obtain ⟨vs, e4, _⟩ := oa
           rw [eo] at e4
           have e5 := (Option.some.inj e4).symm.trans e3
           unfold CodeO at e5
           cases e5)
  · exact (upd_ne fun z => k (by rw [z]; exact wa)).trans e
  · by_cases q : b = a'
    · rw [q, upd_same]; simp
    · rw [upd_ne q]; exact e
end

section
variable {X : Cx} {T : Tb} {W : WX} {k : Nat} {a b c : Expr} {f g u : Env' → Ro D} {q q' : Env' → Ro Bool} {pos p p2 : Pos} {rest es : List Expr} {r : Env' → Ro (List D)} {x : Str} {st : Stmt} {sts body : List Stmt} {F1 F2 F3 : Env' → So}
def sNil : Env' → So := fun e => .nx e
def sSeq (f g : Env' → So) : Env' → So := fun env => match f env with
  | .nx e => g e
  | r => r
theorem sb_nil : SB X T W [] sNil := PSs.weak pss_nil fun De σ H h => by
  obtain ⟨F, env, S, h⟩ := h
  exact h σ H .refl S
theorem sb_cons (h1 : SS X T W st F1) (h2 : SB X T W sts F2) : SB X T W (st :: sts) (sSeq F1 F2) := PSs.weak (pss_cons h1 h2) fun De σ H h => by
  obtain ⟨F, env, S, h⟩ := h
  refine ⟨F, env, S, ?_⟩
  unfold sSeq at h
  cases e : F1 env with
  | nx e1 =>
    rw [e] at h
    exact fun σ' H' s st => ⟨F, e1, st, RstS.later h s⟩
  | _ =>
    rw [e] at h
    exact h
theorem sb_one (h1 : SS X T W st F1) : SB X T W [st] F1 := pss_one h1
theorem ss_pass : SS X T W (.Pass pos) sNil := PS.weak ps_pass fun De σ H h => by
  obtain ⟨F, env, S, h⟩ := h
  exact h σ H .refl S
def sBreak : Env' → So := fun e => .bk e
def sCont : Env' → So := fun e => .ct e
theorem ss_break : SS X T W (.Break pos) sBreak := PS.weak ps_break fun De σ H h => by
  obtain ⟨F, env, S, h⟩ := h
  exact h σ H .refl S
theorem ss_cont : SS X T W (.Continue pos) sCont := PS.weak ps_continue fun De σ H h => by
  obtain ⟨F, env, S, h⟩ := h
  exact h σ H .refl S
theorem ss_doc {y : Str} {j} {pos'} : SS X T W (.Expr (.Constant (.str y) j pos) pos') sNil := PS.weak ps_doc fun De σ H h => by
  obtain ⟨F, env, S, h⟩ := h
  exact h σ H .refl S
/-- an expression as a statement -/
def sDrop (f : Env' → Ro D) : Env' → So := fun env => ofRo (f env) fun _ e => .nx e
theorem ss_expr (ha : SE X T W a f) (hs : swapsWith a none pos.line X.env = pure false := by rfl) : SS X T W (.Expr a pos) (sDrop f) := PS.weak (ps_expr ha hs) fun De σ H h => rdS_bind h fun F env d v H1 S1 i1 h1 => h1 σ H1 .refl S1
/-- return -/
def sRet (f : Env' → Ro D) : Env' → So := fun env => ofRo (f env) fun d e => .ret d e
def sRetF (f : Env' → Ro D) : Env' → So := fun env => ofRo (f env) fun d e => .retF d e
def sRetN : Env' → So := fun e => .ret .non e
def sRetO (i : Nat) : Env' → So := fun e => match e[i]? with
  | some (.o d) => .retF d (e.set i .no)
  | _ => .stk
theorem ss_ret (ha : SE X T W a f) : SS X T W (.Return (some a) pos) (sRet f) := PS.weak (ps_ret ha) fun De σ H h => rdS_bind h fun F env d v H1 S1 i1 h1 => h1 v σ H1 .refl S1 i1
theorem ss_retF (ha : SF X T W a f) : SS X T W (.Return (some a) pos) (sRetF f) := PS.weak (ps_ret ha) fun De σ H h => rdS_bindF h fun F σ0 H0 env0 env d a H1 h1 s n S o => h1 a σ H1 s S o (.inl n)
theorem ss_retN : SS X T W (.Return none pos) sRetN := PS.weak ps_retN fun De σ H h => by
  obtain ⟨F, env, S, h⟩ := h
  exact h .non σ H .refl S rfl
/-- an owned slot is handed on -/
theorem Sta.give {G : Gm} {F : Addr → Prop} {σ : St} {H : Hp} {env : Env'} (S : Sta G T F σ H env) {i : Nat} {d : D} {a : Addr} (h : env[i]? = some (.o d)) (ha : σ[i]? = some (some (.ref a))) (oa : OIs G (hid H (Hd F σ env)) H d a) :
    Sta G T (Pl F a) σ H (env.set i .no) ∧ Stp σ H env σ H (env.set i .no) ∧ OIs G (hid H (Hd (Pl F a) σ (env.set i .no))) H d a := by
  have sub : ∀ b, Ow σ (env.set i .no) b → Ow σ env b ∧ b ≠ a := fun b ⟨j, e, h1, h2⟩ => by
    rcases get_set h1 with ⟨_, q, _⟩ | ⟨q, h1⟩
    · cases q
    · refine ⟨⟨j, e, h1, h2⟩, fun z => q ?_⟩
      rw [z] at h2
      exact S.dis i j d e a h h1 ha h2
  have le : Le (hid H (Hd F σ env)) (hid H (Hd (Pl F a) σ (env.set i .no))) := Le.hid fun b o e n k => ⟨fun z => k (by
    rcases z with z | z | z
    · exact .inl (sub b z).1
    · exact .inr z
    · rw [z]; exact .inl ⟨i, d, h, ha⟩), e⟩
  refine ⟨⟨by rw [List.length_set]; exact S.len, fun j s e => ?_, fun j k x y b h1 h2 h3 h4 => ?_, fun b z k => ?_, fun b z => ?_, S.tab, S.old.to (fun _ _ _ _ h => h) (fun _ _ h => h) fun b z => .inl (sub b z).1, S.vis.trans le⟩, ⟨fun _ _ e _ _ => e, fun b _ k z => k (sub b z).1, fun _ e => e⟩, oa.mono le rfl⟩
  · rcases get_set e with ⟨e1, e2, _⟩ | ⟨_, e⟩
    · subst e1 e2
      exact ⟨_, ha, trivial⟩
    · obtain ⟨x, e1, e2⟩ := S.sl j s e
      exact ⟨x, e1, e2.mono le fun _ _ _ _ => rfl⟩
  · rcases get_set h1 with ⟨_, q, _⟩ | ⟨_, h1⟩
    · cases q
    rcases get_set h2 with ⟨_, q, _⟩ | ⟨_, h2⟩
    · cases q
    exact S.dis j k x y b h1 h2 h3 h4
  · rcases k with k | k
    · exact S.fr b (sub b z).1 k
    · exact (sub b z).2 k
  · rcases z with z | z
    · exact S.fd b z
    · rw [z]
      exact oa.mut
theorem ss_retO (i : Nat) {y : Str} (hN : X.N[i]? = some y := by rfl) (hv : Vis X.env.scope y := by first | exact Or.inl rfl | exact Or.inr (Or.inl rfl) | exact Or.inr (Or.inr rfl)) (hd : (y == ("__debug__" : Str)) = false := by decide)
    (hcd : (y == ("__classdict__" : Str)) = false := by decide) : SS X T W (.Return (some (.Name y p)) pos) (sRetO i) := PS.weak (ps_ret (pe_var hN hv hd hcd)) fun De σ H h => by
  obtain ⟨F, env, S, h⟩ := h
  unfold sRetO at h
  split at h
  · rename_i d e
    obtain ⟨a, ea, oa, wa⟩ := S.own e
    obtain ⟨S', s, o'⟩ := S.give e ea oa
    exact ⟨.ref a, ea, h a σ H s S' o' (.inr wa)⟩
  · exact h.elim
/-- if -/
def sIf (q : Env' → Ro Bool) (f g : Env' → So) : Env' → So := fun env => ofRo (q env) fun b e => if b then f e else g e
theorem ss_if {bs : List Stmt} (hc : SQ X T W c q) (ha : SB X T W body F1) (hb : SB X T W bs F2) : SS X T W (.If c body bs pos) (sIf q F1 F2) := PS.weak (ps_if hc ha hb) fun De σ H h => rdS_bind h fun F env d v H1 S1 i1 h1 => by
  obtain rfl : d = v := i1
  cases d with
  | true => exact ⟨F, env, S1, h1⟩
  | false => exact ⟨F, env, S1, h1⟩
/-- name = e -/
def sSet (i : Nat) (f : Env' → Ro D) : Env' → So := fun env => ofRo (f env) fun d e => .nx (e.set i (.v d))
def sSetO (i : Nat) (f : Env' → Ro D) : Env' → So := fun env => ofRo (f env) fun d e => .nx (e.set i (.o d))
theorem ss_set (C : Cs X) (i : Nat) (fr : Fr T i) {pos' : Pos} (ha : SE X T W a f) (hi : X.N[i]? = some x := by rfl) (hx : Loc X.env.scope x := by first | exact Or.inl rfl | exact Or.inr rfl) (hs : swapsWith a (some (.Name x pos')) pos.line X.env = pure false := by rfl)
    (hf : X.fn x = true ∨ X.env.scope.names.lookup x = some .local := by first | exact .inl rfl | exact .inr rfl | assumption) : SS X T W (.Assign [.Name x pos'] a pos) (sSet i f) :=
  PS.weak (ps_set C.nd hi hx ha hs hf) fun De σ H h => rdS_bind h fun F env d v H1 S1 i1 h1 => by
    obtain ⟨S', s⟩ := S1.set (i := i) fr i1
    exact h1 _ H1 s S'
theorem ss_setO (C : Cs X) (i : Nat) (fr : Fr T i) {pos' : Pos} (ha : SF X T W a f) (hi : X.N[i]? = some x := by rfl) (hx : Loc X.env.scope x := by first | exact Or.inl rfl | exact Or.inr rfl) (hs : swapsWith a (some (.Name x pos')) pos.line X.env = pure false := by rfl)
    (hf : X.fn x = true ∨ X.env.scope.names.lookup x = some .local := by first | exact .inl rfl | exact .inr rfl | assumption) : SS X T W (.Assign [.Name x pos'] a pos) (sSetO i f) :=
  PS.weak (ps_set C.nd hi hx ha hs hf) fun De σ H h => by
    obtain ⟨F, env, S, h⟩ := h
    refine ⟨F, env, S, ?_⟩
    unfold sSetO at h
    cases e : f env with
    | ok d e1 =>
      rw [e] at h
      intro a H' s st o n
      obtain ⟨S', s'⟩ := Sta.setO (i := i) s (.inl n) st o (fun z => S.fn a z n) fr (S.old.free (.inl n))
      exact h _ H' s' S'
    | exc c p e1 =>
      rw [e] at h
      exact fun cls dd H' s st x => h cls dd σ H' s st x
    | stk =>
      rw [e] at h
      exact h
end
end Rf

namespace Rf
open PySem L2 LamX

/-! ## targets -/
abbrev Tg := D → Env' → Option Env'
abbrev Tgs := List D → Env' → Option Env'
/-- from σ to σ' only slots of us are set -/
def Only (us : List Nat) (σ σ' : St) : Prop := σ'.length = σ.length ∧ ∀ i, i ∉ us → σ'[i]? = σ[i]?
theorem Only.refl {us : List Nat} {σ : St} : Only us σ σ := ⟨rfl, fun _ _ => rfl⟩
theorem Only.trans {us vs : List Nat} {σ σ1 σ2 : St} (a : Only us σ σ1) (b : Only vs σ1 σ2) : Only (us ++ vs) σ σ2 := ⟨b.1.trans a.1, fun i h => (b.2 i fun z => h (List.mem_append_right _ z)).trans (a.2 i fun z => h (List.mem_append_left _ z))⟩
theorem wipe_in {σ : St} {i : Nat} : ∀ {vs : List Nat}, i ∈ vs → i < σ.length → (wipe σ vs)[i]? = some none
  | [], h, _ => by cases h
  | v :: vs, h, hl => by
    unfold wipe
    by_cases e : v = i
    · subst e
      exact List.getElem?_set_self (by rw [wipe_length]; exact hl)
    · rw [List.getElem?_set_ne e]
      exact wipe_in ((List.mem_cons.mp h).resolve_left fun z => e z.symm) hl
theorem Only.wipe {us vs : List Nat} {σ σ' : St} (a : Only us σ σ') (h : ∀ i ∈ us, i ∈ vs) : L2.wipe σ' vs = L2.wipe σ vs := by
  refine List.ext_getElem? fun i => ?_
  by_cases hi : i ∈ vs
  · by_cases hl : i < σ.length
    · rw [wipe_in hi hl, wipe_in hi (by rw [a.1]; exact hl)]
    · rw [List.getElem?_eq_none (by rw [wipe_length, a.1]; omega), List.getElem?_eq_none (by rw [wipe_length]; omega)]
  · rw [wipe_out hi, wipe_out hi]
    exact a.2 i fun z => hi (h i z)
def rdG (G : Gm) (T : Tb) (us : List Nat) (t : Tg) : TG := fun v σ H Q => ∃ (F : Addr → Prop) (env : Env') (d : D) (e : Env'), Sta G T F σ H env ∧ Is G (hid H (Hd F σ env)) d v ∧ t d env = some e ∧ ∀ σ', Only us σ σ' → Stp σ H env σ' H e → Sta G T F σ' H e → Q σ' H
def rdGs (G : Gm) (T : Tb) (us : List Nat) (t : Tgs) : TGs := fun vs σ H Q => ∃ (F : Addr → Prop) (env : Env') (ds : List D) (e : Env'), Sta G T F σ H env ∧ IsL G (hid H (Hd F σ env)) ds vs ∧ t ds env = some e ∧ ∀ σ', Only us σ σ' → Stp σ H env σ' H e → Sta G T F σ' H e → Q σ' H
def SG (X : Cx) (T : Tb) (us : List Nat) (tg : Expr) (t : Tg) : Prop := PG X tg (rdG (gm X) T us t)
def SGs (X : Cx) (T : Tb) (us : List Nat) (tgs : List Expr) (t : Tgs) : Prop := PGs X tgs (rdGs (gm X) T us t)
def tName (i : Nat) : Tg := fun d e => some (e.set i (.v d))
def tsNil : Tgs := fun ds e => match ds with
  | [] => some e
  | _ => none
def tsCons (t : Tg) (r : Tgs) : Tgs := fun ds e => match ds with
  | d :: ds => match t d e with
    | some e1 => r ds e1
    | none => none
  | [] => none
def tTupl (n : Nat) (r : Tgs) : Tg := fun d e => match d with
  | .tup xs => if xs.length = n then r xs e else none
  | .lst xs => if xs.length = n then r xs e else none
  | _ => none
section
variable {X : Cx} {T : Tb} {W : WX} {k : Nat} {a b c : Expr} {f g u : Env' → Ro D} {q q' : Env' → Ro Bool} {pos p p2 : Pos} {rest es : List Expr} {r : Env' → Ro (List D)} {x : Str} {st : Stmt} {sts body : List Stmt} {F1 F2 F3 : Env' → So} {t : Tg} {ts : Tgs} {tg : Expr} {tgs : List Expr}
theorem PG.weak {t t' : TG} (h : PG X tg t) (j : ∀ v σ H Q, t' v σ H Q → t v σ H Q) : PG X tg t' := ⟨fun pins s σ H v u Q I r q => h.run pins s σ H v u Q I r (j v σ H Q q)⟩
theorem PGs.weak {t t' : TGs} (h : PGs X tgs t) (j : ∀ v σ H Q, t' v σ H Q → t v σ H Q) : PGs X tgs t' := ⟨fun pins s σ H v u Q I r q => h.run pins s σ H v u Q I r (j v σ H Q q)⟩
theorem sg_name (C : Cs X) (i : Nat) (fr : Fr T i) {pos' : Pos} (hi : X.N[i]? = some x := by rfl) (hx : Loc X.env.scope x := by first | exact Or.inl rfl | exact Or.inr rfl)
    (hf : X.fn x = true ∨ X.env.scope.names.lookup x = some .local := by first | exact .inl rfl | exact .inr rfl | assumption) : SG X T [i] (.Name x pos') (tName i) :=
  PG.weak (pg_name C.nd hi hx hf) fun v σ H Q h => by
    obtain ⟨F, env, d, e, S, i1, ht, h⟩ := h
    obtain rfl := Option.some.inj ht
    obtain ⟨S', s⟩ := S.set (i := i) fr i1
    exact h _ ⟨List.length_set, fun j hj => List.getElem?_set_ne fun z => hj (by rw [z]; exact List.mem_cons_self)⟩ s S'
theorem sgs_nil : SGs X T [] [] tsNil := PGs.weak pgs_nil fun v σ H Q h => by
  obtain ⟨F, env, ds, e, S, i1, ht, h⟩ := h
  unfold tsNil at ht
  split at ht
  · obtain rfl := Option.some.inj ht
    exact ⟨i1, h σ .refl .refl S⟩
  · cases ht
theorem sgs_cons {us vs : List Nat} (h1 : SG X T us tg t) (h2 : SGs X T vs tgs ts) (hs : (assignEach (tg :: tgs) X.env).map (·.2) = assign tg X.env :: (assignEach tgs X.env).map (·.2) := by rfl) : SGs X T (us ++ vs) (tg :: tgs) (tsCons t ts) :=
  PGs.weak (pgs_cons h1 h2 hs) fun vs σ H Q h => by
    obtain ⟨F, env, ds, e, S, i1, ht, h⟩ := h
    unfold tsCons at ht
    split at ht
    · rename_i d ds
      split at ht
      · rename_i e1 h3
        obtain ⟨v, r, rfl, m1, m2⟩ := i1
        exact ⟨v, r, rfl, F, env, d, e1, S, m1, h3, fun σ' o s S' => ⟨F, e1, ds, e, S', IsL.mono (s.le F) _ _ m2, ht, fun σ2 o2 s2 S2 => h σ2 (o.trans o2) (s.trans s2) S2⟩⟩
      · cases ht
    · cases ht
theorem pg_or {e : Expr} {t u : TG} (h1 : PG X e t) (h2 : PG X e u) : PG X e (fun v σ H Q => t v σ H Q ∨ u v σ H Q) := ⟨fun pins s σ H v w Q I r hw => hw.elim (h1.run pins s σ H v w Q I r) (h2.run pins s σ H v w Q I r)⟩
theorem sg_tup {n kk : Nat} {us : List Nat} (C : Ctx X k) (h : SGs X T us tgs ts) (hn : (assignEach tgs X.env).length = n := by rfl) (hst : (assignEach tgs X.env).findIdx? (·.1) = none := by rfl) : SG X T us (.Tuple tgs kk pos) (tTupl n ts) :=
  PG.weak (pg_or (pg_tup C.calm h hn hst) (pg_lst C.calm h hn hst)) fun v σ H Q h => by
    obtain ⟨F, env, d, e, S, i1, ht, h⟩ := h
    unfold tTupl at ht
    split at ht
    · rename_i xs
      split at ht
      · rename_i hl
        obtain ⟨p, vs, rfl, s, m⟩ := i1
        exact .inl ⟨p, vs, rfl, Le.unhid.tq s, by rw [← IsL.length m]; exact hl, F, env, xs, e, S, m, ht, h⟩
      · cases ht
    · rename_i xs
      split at ht
      · rename_i hl
        obtain ⟨p, vs, rfl, s, m⟩ := i1
        exact .inr ⟨p, vs, rfl, Le.unhid.lq s, by rw [← IsL.length m]; exact hl, F, env, xs, e, S, m, ht, h⟩
      · cases ht
    · cases ht
/-- target = e -/
def sAsg (t : Tg) (f : Env' → Ro D) : Env' → So := fun env => ofRo (f env) fun d e => match t d e with
  | some e1 => .nx e1
  | none => .stk
theorem ss_asg {us : List Nat} (ha : SE X T W a f) (hg : SG X T us tg t) (hs : swapsWithSole [tg] a pos.line X.env = pure false := by rfl) (hw : swappedStores [tg] a X.env = pure none := by rfl)
    (h1 : (assignEach [tg] X.env).map (·.2) = [assign tg X.env] := by rfl) : SS X T W (.Assign [tg] a pos) (sAsg t f) :=
  PS.weak (ps_asg ha hg hs hw h1) fun De σ H h => rdS_bind h fun F env d v H1 S1 i1 h1 => by
    split at h1
    · rename_i e1 e
      exact ⟨F, env, d, e1, S1, i1, e, fun σ' _ s S' => h1 σ' H1 s S'⟩
    · exact h1.elim
/-- a, b = x, y with two local names -/
def sPar (i j : Nat) (f g : Env' → Ro D) : Env' → So := fun env => ofRo (f env) fun d e => ofRo (g e) fun d' e => .nx ((e.set i (.v d)).set j (.v d'))
theorem ss_par (C : Ctx X k) (i j : Nat) (fr : Fr T i) (fr2 : Fr T j) {y : Str} {px py pt : Pos} {kt k2 pt2} (hij : i ≠ j) (ha : SE X T W a f) (hb : SE X T W b g) (hi : X.N[i]? = some x := by rfl) (hj : X.N[j]? = some y := by rfl) (hx : X.env.scope.names.lookup x = some .local := by rfl) (hy : X.env.scope.names.lookup y = some .local := by rfl)
    (hw : swappedStores [.Tuple [.Name x px, .Name y py] kt pt] (.Tuple [a, b] k2 pt2) X.env = pure (some [x, y]) := by rfl)
    (hs : swapsWithSole [.Tuple [.Name x px, .Name y py] kt pt] (.Tuple [a, b] k2 pt2) pos.line X.env = pure false := by rfl)
    (h1 : starEach [a, b] X.env = (false, eval a X.env) :: starEach [b] X.env := by rfl) (h2 : starEach [b] X.env = (false, eval b X.env) :: starEach [] X.env := by rfl) :
    SS X T W (.Assign [.Tuple [.Name x px, .Name y py] kt pt] (.Tuple [a, b] k2 pt2) pos) (sPar i j f g) :=
  PS.weak (ps_par C.calm C.nd hi hj hij hx hy (sa_cons ha (sa_cons hb sa_nil h2) h1) hw hs) fun De σ H h => by
    obtain ⟨F, env, S, h⟩ := h
    refine ⟨F, env, S, ?_⟩
    unfold sPar at h
    unfold aCons aNil
    cases e : f env with
    | ok d e1 =>
      simp only [e, ofRo] at h
      simp only [Ro.bind]
      cases e' : g e1 with
      | ok d' e2 =>
        simp only [e'] at h
        simp only [Ro.bind]
        intro vs H' s st m
        obtain ⟨v, w, rfl, m1, m2⟩ := isL2 m
        refine ⟨v, w, rfl, ?_⟩
        obtain ⟨S1, s1⟩ := st.set (i := i) fr m1
        obtain ⟨S2, s2⟩ := S1.set (i := j) fr2 (Is.mono (s1.le F) _ _ m2)
        exact h _ H' (s.trans (s1.trans s2)) S2
      | exc c p e2 =>
        simp only [e'] at h
        exact fun cls dd H' s st x => h cls dd σ H' s st x
      | stk =>
        simp only [e'] at h
        exact h
    | exc c p e1 =>
      simp only [e, ofRo] at h
      exact fun cls dd H' s st x => h cls dd σ H' s st x
    | stk =>
      simp only [e, ofRo] at h
      exact h
/-- name += e, name -= e for ints -/
def sAug (i : Nat) (o : Int → Int → Int) (f : Env' → Ro D) : Env' → So := fun env => match slotD env i with
  | some (.int n) => ofRo (f env) fun d e => match d with
    | .int m => .nx (e.set i (.v (.int (o n m))))
    | _ => .stk
  | _ => .stk
theorem slot_int {G : Gm} {F : Addr → Prop} {σ : St} {H : Hp} {env : Env'} {i : Nat} {n : Int} (S : Sta G T F σ H env) (h : slotD env i = some (.int n)) : σ[i]? = some (some (.int n)) := by
  obtain ⟨v, e, b⟩ := slot_bis S h
  obtain rfl : v = .int n := b.scal fun p o => o
  exact e
theorem ss_aug {o : Int → Int → Int} {op : Operator} (C : Cs X) (ho : PIp X op (ipI o)) (i : Nat) (fr : Fr T i) {pos' : Pos} (ha : SE X T W a f) (hi : X.N[i]? = some x := by rfl) (hx : Loc X.env.scope x := by first | exact Or.inl rfl | exact Or.inr rfl)
    (hf : X.fn x = true ∨ X.env.scope.names.lookup x = some .local := by first | exact .inl rfl | exact .inr rfl | assumption) : SS X T W (.AugAssign (.Name x pos') op a pos) (sAug i o f) :=
  PS.weak (ps_aug C.nd hi hx ha ho hf) fun De σ H h => by
    obtain ⟨F, env, S, h⟩ := h
    unfold sAug at h
    split at h
    · rename_i n e0
      refine ⟨.int n, slot_int S e0, F, env, S, RstS.bind S h fun d v H1 env1 s1 S1 i1 h1 => ?_⟩
      split at h1
      · rename_i m
        obtain ⟨S', s'⟩ := S1.set (i := i) fr (d := .int (o n m)) (v := .int (o n m)) rfl
        exact ⟨n, m, rfl, i1, h1 _ H1 s' S'⟩
      · exact h1.elim
    · exact h.elim

/-! ## an owned list, an owned dict changed -/
theorem own_lst {G : Gm} {F : Addr → Prop} {σ : St} {H : Hp} {env : Env'} {i : Nat} {xs : List D} (S : Sta G T F σ H env) (h : env[i]? = some (.o (.lst xs))) : ∃ p vs, σ[i]? = some (some (.ref p)) ∧ H p = some (.lst vs) ∧ IsL G (hid H (Hd F σ env)) xs vs := by
  obtain ⟨p, e1, ⟨vs, e2, e3⟩, _⟩ := S.own h
  exact ⟨p, vs, e1, e2, e3⟩
def isLstS (env : Env') (i : Nat) : Bool := match env[i]? with
  | some (.o (.lst _)) => true
  | _ => false
theorem isLstS_at {env : Env'} {i : Nat} (h : isLstS env i = true) : ∃ xs, env[i]? = some (.o (.lst xs)) := by
  unfold isLstS at h
  split at h
  · rename_i xs e
    exact ⟨xs, e⟩
  · cases h
/-- xs.m(e, ..) on an owned list: o says what the list becomes -/
def sMut1 (i : Nat) (o : List D → D → Option (List D)) (f : Env' → Ro D) : Env' → So := fun env => if isLstS env i then ofRo (f env) fun d e => match e[i]? with
    | some (.o (.lst xs)) => match o xs d with
      | some ys => .nx (e.set i (.o (.lst ys)))
      | none => .stk
    | _ => .stk
  else .stk
def oApp (xs : List D) (d : D) : Option (List D) := if xs.length < sizeLine then some (xs ++ [d]) else none
def oExt (xs : List D) (d : D) : Option (List D) := match d with
  | .lst ys => if xs.length + ys.length ≤ sizeLine then some (xs ++ ys) else none
  | _ => none
theorem rd_mut1 {rr : V → List V → Hp → VK → Prop} {o : List D → D → Option (List D)} {i : Nat} {σ : St} {H : Hp} {De : Ends}
    (ho : ∀ {Hs H : Hp} {p : Addr} {xs ys : List D} {d : D} {vs : List V} {v : V} {Q : VK}, Le Hs H → H p = some (.lst vs) → IsL (gm X) Hs xs vs → Is (gm X) Hs d v → o xs d = some ys → (∀ w zs, IsL (gm X) Hs ys zs → Q w (upd H p (.lst zs))) → rr (.ref p) [v] H Q)
    (h : rdS (gm X) T (sMut1 i o f) W De σ H) : tDrop (tBM X.K "list" rr (tVar i) (tCons (rd (gm X) T (isD (gm X)) f W) tNil)) De σ H := by
  obtain ⟨F, env, S, h⟩ := h
  unfold sMut1 at h
  split at h
  · rename_i hl
    obtain ⟨xs, e⟩ := isLstS_at hl
    obtain ⟨p, vs, e1, e2, e3⟩ := own_lst S e
    refine ⟨.ref p, e1, .inl ⟨rfl, vs, .inl (.inl e2)⟩, F, env, S, RstS.bind S h fun d v H1 env1 s1 S1 i1 h1 => ?_⟩
    split at h1
    · rename_i xs' e'
      split at h1
      · rename_i ys ey
        obtain ⟨p', vs', e1', e2', e3'⟩ := own_lst S1 e'
        rw [e1] at e1'
        cases e1'
        refine ho Le.unhid e2' e3' i1 ey fun w zs m => ?_
        obtain ⟨S', s'⟩ := S1.mut (d' := .lst ys) (u := .lst zs) e' e1 ⟨zs, upd_same, m⟩
        exact h1 σ _ s' S'
      · exact h1.elim
    · exact h1.elim
  · exact h.elim
theorem ss_append (i : Nat) {p3 : Pos} (ha : SE X T W a f) (hN : X.N[i]? = some x := by rfl) (hv : Vis X.env.scope x := by first | exact Or.inl rfl | exact Or.inr (Or.inl rfl) | exact Or.inr (Or.inr rfl)) (hd : (x == ("__debug__" : Str)) = false := by decide)
    (hcd : (x == ("__classdict__" : Str)) = false := by decide) (hs : swapsWith (.Call (.Attribute (.Name x p) "append" p2) [a] [] p3) none pos.line X.env = pure false := by rfl) (hb : attributeBase (.Name x p) "append" X.env (eval (.Name x p) X.env) = eval (.Name x p) X.env := by rfl)
    (hfew : ((backTo p3 (starEach [a] X.env)).all (fun x => !x.1) && (backToKw p3 (keywordEach [] X.env)).all (fun x => x.1.isSome) && decide ([a].length + ([] : List Keyword).length + (if ([] : List Keyword).isEmpty then 0 else 1) < 30)) = true := by rfl)
    (hline : (p2.endLine == p3.line) = true := by rfl) (h0 : starEach [a] X.env = (false, eval a X.env) :: starEach [] X.env := by rfl) :
    SS X T W (.Expr (.Call (.Attribute (.Name x p) "append" p2) [a] [] p3) pos) (sMut1 i oApp f) :=
  PS.weak (ps_expr (pe_bm PySem.F.plainAttrs_list PySem.F.slot_list_append PySem.F.type_list_append mt_append (pe_var hN hv hd hcd) (pa_cons ha pa_nil h0) hb hfew hline h0) hs) fun De σ H h => rd_mut1 (fun {Hs H p xs ys d vs v Q} l e1 e2 e3 e4 j => by
    unfold oApp at e4
    split at e4
    · rename_i hz
      obtain rfl := Option.some.inj e4
      exact ⟨p, vs, v, rfl, rfl, e1, by rw [← IsL.length e2]; exact hz, j _ _ (IsL.append e2 (IsL.one e3))⟩
    · cases e4) h
theorem ss_extend (i : Nat) {p3 : Pos} (ha : SE X T W a f) (hN : X.N[i]? = some x := by rfl) (hv : Vis X.env.scope x := by first | exact Or.inl rfl | exact Or.inr (Or.inl rfl) | exact Or.inr (Or.inr rfl)) (hd : (x == ("__debug__" : Str)) = false := by decide)
    (hcd : (x == ("__classdict__" : Str)) = false := by decide) (hs : swapsWith (.Call (.Attribute (.Name x p) "extend" p2) [a] [] p3) none pos.line X.env = pure false := by rfl) (hb : attributeBase (.Name x p) "extend" X.env (eval (.Name x p) X.env) = eval (.Name x p) X.env := by rfl)
    (hfew : ((backTo p3 (starEach [a] X.env)).all (fun x => !x.1) && (backToKw p3 (keywordEach [] X.env)).all (fun x => x.1.isSome) && decide ([a].length + ([] : List Keyword).length + (if ([] : List Keyword).isEmpty then 0 else 1) < 30)) = true := by rfl)
    (hline : (p2.endLine == p3.line) = true := by rfl) (h0 : starEach [a] X.env = (false, eval a X.env) :: starEach [] X.env := by rfl) :
    SS X T W (.Expr (.Call (.Attribute (.Name x p) "extend" p2) [a] [] p3) pos) (sMut1 i oExt f) :=
  PS.weak (ps_expr (pe_bm PySem.F.plainAttrs_list PySem.F.slot_list_extend PySem.F.type_list_extend mt_extend (pe_var hN hv hd hcd) (pa_cons ha pa_nil h0) hb hfew hline h0) hs) fun De σ H h => rd_mut1 (fun {Hs H p xs ys d vs v Q} l e1 e2 e3 e4 j => by
    unfold oExt at e4
    split at e4
    · rename_i zs
      split at e4
      · rename_i hz
        obtain rfl := Option.some.inj e4
        obtain ⟨b, ws, rfl, s, m⟩ := e3
        exact ⟨p, b, vs, ws, rfl, rfl, e1, l.lp s, by rw [← IsL.length e2, ← IsL.length m]; exact hz, j _ _ (IsL.append e2 m)⟩
      · cases e4
    · cases e4) h
/-- xs.pop() of an owned list -/
def ePop (i : Nat) : Env' → Ro D := fun env => match env[i]? with
  | some (.o (.lst xs)) => match xs[xs.length - 1]? with
    | some d => .ok d (env.set i (.o (.lst xs.dropLast)))
    | none => .stk
  | _ => .stk
theorem IsL.dropLast {G : Gm} {Hs : Hp} {ds : List D} {vs : List V} (h : IsL G Hs ds vs) : IsL G Hs ds.dropLast vs.dropLast := by
  rw [List.dropLast_eq_take, List.dropLast_eq_take, IsL.length h]
  exact IsL.take _ h
theorem se_pop (i : Nat) {p3 : Pos} (hN : X.N[i]? = some x := by rfl) (hv : Vis X.env.scope x := by first | exact Or.inl rfl | exact Or.inr (Or.inl rfl) | exact Or.inr (Or.inr rfl)) (hd : (x == ("__debug__" : Str)) = false := by decide)
    (hcd : (x == ("__classdict__" : Str)) = false := by decide) (hb : attributeBase (.Name x p) "pop" X.env (eval (.Name x p) X.env) = eval (.Name x p) X.env := by rfl) (hline : (p2.endLine == p3.line) = true := by rfl) :
    SE X T W (.Call (.Attribute (.Name x p) "pop" p2) [] [] p3) (ePop i) :=
  PE.weak (pe_bm0 PySem.F.plainAttrs_list PySem.F.slot_list_pop PySem.F.type_list_pop mt_pop (pe_var hN hv hd hcd) hb hline) fun σ H Q h => by
    obtain ⟨F, env, S, h⟩ := h
    unfold ePop at h
    split at h
    · rename_i xs e
      split at h
      · rename_i d ed
        obtain ⟨p, vs, e1, e2, e3⟩ := own_lst S e
        rw [IsL.length e3] at ed
        obtain ⟨v, ev, iv⟩ := IsL.get e3 ed
        refine ⟨.ref p, e1, .inl ⟨rfl, vs, .inl (.inl e2)⟩, p, vs, v, rfl, rfl, e2, ev, ?_⟩
        obtain ⟨S', s'⟩ := S.mut (d' := .lst xs.dropLast) (u := .lst vs.dropLast) e e1 ⟨_, upd_same, IsL.dropLast e3⟩
        exact h v _ s' S' (Is.mono (s'.le F) _ _ iv)
      · exact h.elim
    · exact h.elim
/-- xs[i] = e of an owned list -/
def sSetIx (i : Nat) (g f : Env' → Ro D) : Env' → So := fun env => ofRo (f env) fun d e => if isLstS e i then ofRo (g e) fun n e => match n, e[i]? with
      | .int j, some (.o (.lst xs)) => match ixN xs.length j with
        | some m => .nx (e.set i (.o (.lst (xs.set m d))))
        | none => .stk
      | _, _ => .stk
    else .stk
theorem ss_setIx (i : Nat) (hb : SE X T W b g) (ha : SE X T W a f) (hN : X.N[i]? = some x := by rfl) (hv : Vis X.env.scope x := by first | exact Or.inl rfl | exact Or.inr (Or.inl rfl) | exact Or.inr (Or.inr rfl)) (hd : (x == ("__debug__" : Str)) = false := by decide)
    (hcd : (x == ("__classdict__" : Str)) = false := by decide)
    (hasg : ∀ v, assign (.Subscript (.Name x p) b p2) X.env v = (do
      let ov ← holding [v] (eval (.Name x p) X.env)
      let iv ← holding [v, ov] (eval b X.env)
      standAt p2
      holding [v, ov, iv] (setItem ov iv v)
      release [v, ov, iv] []) := by intro _; rfl)
    (hs : swapsWithSole [.Subscript (.Name x p) b p2] a pos.line X.env = pure false := by rfl) (hw : swappedStores [.Subscript (.Name x p) b p2] a X.env = pure none := by rfl)
    (h1 : (assignEach [.Subscript (.Name x p) b p2] X.env).map (·.2) = [assign (.Subscript (.Name x p) b p2) X.env] := by rfl) : SS X T W (.Assign [.Subscript (.Name x p) b p2] a pos) (sSetIx i g f) :=
  PS.weak (ps_asg ha (pg_sub (pe_var hN hv hd hcd) hb set_list hasg) hs hw h1) fun De σ H h => rdS_bind h fun F env d v H1 S1 i1 h1 => by
    split at h1
    · rename_i hl
      obtain ⟨xs0, e0⟩ := isLstS_at hl
      obtain ⟨p, vs0, e1, e2, e3⟩ := own_lst S1 e0
      refine ⟨.ref p, e1, F, env, S1, RstS.bind S1 h1 fun n w H2 env2 s2 S2 i2 h2 => ?_⟩
      split at h2
      · rename_i j xs ex
        split at h2
        · rename_i m em
          obtain ⟨p', vs, e1', e2', e3'⟩ := own_lst S2 ex
          rw [e1] at e1'
          cases e1'
          refine ⟨p, vs, j, m, rfl, i2, e2', by rw [← IsL.length e3']; exact em, ?_⟩
          obtain ⟨S', s'⟩ := S2.mut (d' := .lst (xs.set m d)) (u := .lst (vs.set m v)) ex e1 ⟨_, upd_same, IsL.set (Is.mono (s2.le F) _ _ i1) m e3'⟩
          exact h2 σ _ s' S'
        · exact h2.elim
      · exact h2.elim
    · exact h1.elim
/-- d[k] = e of an owned dict -/
def putX (d k v : D) : Option D := match d with
  | .dK ks ds => match keyOf k with
    | some q => if ks.length < sizeLine then some (.dK (putD ks ds q v).1 (putD ks ds q v).2) else none
    | none => none
  | .dT ks ds => match keysOf k with
    | some q => if ks.length < sizeLine then some (.dT (putD ks ds q v).1 (putD ks ds q v).2) else none
    | none => none
  | _ => none
def ownD (env : Env') (i : Nat) : Option D := match env[i]? with
  | some (.o d) => some d
  | _ => none
theorem ownD_at {env : Env'} {i : Nat} {d : D} (h : ownD env i = some d) : env[i]? = some (.o d) := by
  unfold ownD at h
  split at h
  · rename_i d' e
    rw [e, Option.some.inj h]
  · cases h
def sPutIx (i : Nat) (g f : Env' → Ro D) : Env' → So := fun env => ofRo (f env) fun d e => match ownD e i with
  | some _ => ofRo (g e) fun n e => match ownD e i with
      | some dd => match putX dd n d with
        | some dd' => .nx (e.set i (.o dd'))
        | none => .stk
      | none => .stk
  | none => .stk
theorem putX_is {G : Gm} {Hs H : Hp} {d k v d' : D} {p : Addr} {y z : V} (l : Le Hs H) (o : OIs G Hs H d p) (i1 : Is G Hs k y) (i2 : Is G Hs v z) (e : putX d k v = some d') : ∃ u, DPut H p y z (upd H p u) ∧ OIs G Hs (upd H p u) d' p := by
  unfold putX at e
  split at e
  · rename_i ks ds
    obtain ⟨vs, e1, e2, e3⟩ := o
    split at e
    · rename_i q eq
      split at e
      · rename_i hz
        obtain rfl := Option.some.inj e
        obtain ⟨vs', a1, a2, a3⟩ := putD_val (k := q) e2 e3 i2
        refine ⟨.dK (putK (ks.zip vs) q z), .inl ⟨ks.zip vs, q, e1, keyOf_is eq i1, ?_, rfl⟩, vs', ?_, a2, a3⟩
        · rw [List.length_zip]; omega
        · rw [upd_same, a1]
      · cases e
    · cases e
  · rename_i ks ds
    obtain ⟨vs, e1, e2, e3⟩ := o
    split at e
    · rename_i q eq
      split at e
      · rename_i hz
        obtain rfl := Option.some.inj e
        obtain ⟨vs', a1, a2, a3⟩ := putD_val (k := q) e2 e3 i2
        unfold keysOf at eq
        split at eq
        · obtain ⟨b, ws, rfl, k1, k2⟩ := i1
          have z1 := keysOfL_is eq k2
          subst z1
          refine ⟨.dT (putK (ks.zip vs) q z), .inr ⟨ks.zip vs, q, b, e1, rfl, l.tp k1, ?_, rfl⟩, vs', ?_, a2, a3⟩
          · rw [List.length_zip]; omega
          · rw [upd_same, a1]
        · cases eq
      · cases e
    · cases e
  · cases e
theorem ss_putIx (C : Cs X) (i : Nat) (hb : SE X T W b g) (ha : SE X T W a f) (hN : X.N[i]? = some x := by rfl) (hv : Vis X.env.scope x := by first | exact Or.inl rfl | exact Or.inr (Or.inl rfl) | exact Or.inr (Or.inr rfl)) (hd : (x == ("__debug__" : Str)) = false := by decide)
    (hcd : (x == ("__classdict__" : Str)) = false := by decide) (hs : swapsWith a (some (.Subscript (.Name x p) b p2)) pos.line X.env = pure false := by rfl) : SS X T W (.Assign [.Subscript (.Name x p) b p2] a pos) (sPutIx i g f) :=
  PS.weak (ps_dput (by have := C.hu; omega) (pe_var hN hv hd hcd) hb ha hs) fun De σ H h => rdS_bind h fun F env d v H1 S1 i1 h1 => by
    split at h1
    · rename_i d0 e0
      obtain ⟨p, e1, oa0, _⟩ := S1.own (ownD_at e0)
      refine ⟨.ref p, e1, F, env, S1, RstS.bind S1 h1 fun n w H2 env2 s2 S2 i2 h2 => ?_⟩
      split at h2
      · rename_i dd ed
        split at h2
        · rename_i dd' ep
          obtain ⟨p', e1', oa, _⟩ := S2.own (ownD_at ed)
          rw [e1] at e1'
          cases e1'
          obtain ⟨u, hp, ou⟩ := putX_is Le.unhid oa i2 (Is.mono (s2.le F) _ _ i1) ep
          obtain ⟨S', s'⟩ := S2.mut (d' := dd') (u := u) (ownD_at ed) e1 ou
          exact ⟨p, _, rfl, hp, h2 σ _ s' S'⟩
        · exact h2.elim
      · exact h2.elim
    · exact h1.elim
end
end Rf

namespace Rf
open PySem L2 LamX

/-! ## what is walked -/
/-- J yields ds, from any heap that bears Hs0 -/
structure JIs (G : Gm) (Hs0 : Hp) (J : It) (ds : List D) : Prop where
  go : ∀ i Hs H, i < ds.length → Le Hs0 Hs → Le Hs H → J.go i H
  stop : ∀ Hs H, Le Hs0 Hs → Le Hs H → J.stop ds.length H
  yld : ∀ i d Hs H x H', ds[i]? = some d → Le Hs0 Hs → Le Hs H → J.yld i H x H' → New H H' ∧ ∀ Hs', Le Hs Hs' → (∀ a o, H a = none → H' a = some o → Hs' a = some o) → Is G Hs' d x
def SI (X : Cx) (T : Tb) (W : WX) (tg it : Expr) (f : Env' → Ro (List D)) : Prop := PI X tg it (rd (gm X) T (fun Hs ds J => JIs (gm X) Hs J ds) f W)
section
variable {G : Gm} {Hs0 : Hp} {p : Addr} {xs : List D} {vs : List V}
theorem JIs.lst (s : Hs0 p = some (.lst vs)) (m : IsL G Hs0 xs vs) : JIs G Hs0 (Itl G.K p) xs where
  go := fun i Hs H hi l1 l2 => by
    have e := IsL.length m
    exact ⟨vs, vs[i], (l1.trans l2).lq s, by simp [← e, hi]⟩
  stop := fun Hs H l1 l2 => ⟨vs, (l1.trans l2).lq s, by rw [IsL.length m]; exact Nat.le_refl _⟩
  yld := fun i d Hs H x H' hd l1 l2 h => by
    obtain ⟨rfl, h⟩ := h
    obtain ⟨v, e1, e2⟩ := IsL.get m hd
    have e3 := h vs ((l1.trans l2).lq s)
    rw [e1] at e3
    obtain rfl := Option.some.inj e3
    exact ⟨New.refl _, fun Hs' l3 _ => Is.mono (l1.trans l3) _ _ e2⟩
theorem JIs.tup (s : SqT G.K Hs0 p vs) (m : IsL G Hs0 xs vs) : JIs G Hs0 (Itt G.K p) xs where
  go := fun i Hs H hi l1 l2 => by
    have e := IsL.length m
    exact ⟨vs, vs[i], (l1.trans l2).sqT s, by simp [← e, hi]⟩
  stop := fun Hs H l1 l2 => ⟨vs, (l1.trans l2).sqT s, by rw [IsL.length m]; exact Nat.le_refl _⟩
  yld := fun i d Hs H x H' hd l1 l2 h => by
    obtain ⟨rfl, h⟩ := h
    obtain ⟨v, e1, e2⟩ := IsL.get m hd
    have e3 := h vs ((l1.trans l2).sqT s)
    rw [e1] at e3
    obtain rfl := Option.some.inj e3
    exact ⟨New.refl _, fun Hs' l3 _ => Is.mono (l1.trans l3) _ _ e2⟩
/-- lo, lo + 1, .. -/
def rng (lo : Int) (n : Nat) : List D := (List.range n).map fun (i : Nat) => D.int (lo + (i : Int))
theorem rng_len (lo : Int) (n : Nat) : (rng lo n).length = n := by simp [rng]
theorem rng_get {lo : Int} {n i : Nat} {d : D} (h : (rng lo n)[i]? = some d) : d = .int (lo + (i : Int)) ∧ i < n := by
  unfold rng at h
  rw [List.getElem?_map] at h
  by_cases hi : i < n
  · rw [List.getElem?_range hi] at h
    exact ⟨(Option.some.inj h).symm, hi⟩
  · rw [List.getElem?_eq_none (by simpa using hi)] at h
    cases h
theorem JIs.rng {lo : Int} {n : Nat} : JIs G Hs0 (Itr lo n) (rng lo n) where
  go := fun i Hs H hi _ _ => by rw [rng_len] at hi; exact hi
  stop := fun Hs H _ _ => by rw [rng_len]; exact Nat.le_refl _
  yld := fun i d Hs H x H' hd _ _ h => by
    obtain ⟨e1, e2⟩ := h
    obtain ⟨e, hi⟩ := rng_get hd
    subst e1
    subst e
    refine ⟨New.refl _, fun Hs' _ _ => ?_⟩
    rw [e2]
    rfl
end
/-- the items of a sequence -/
def seqD : D → Option (List D)
  | .lst xs => some xs
  | .tup xs => some xs
  | .ctup xs => some xs
  | _ => none
def iSeq (f : Env' → Ro D) : Env' → Ro (List D) := fun env => (f env).bind fun d e => lift (seqD d) e
section
variable {X : Cx} {T : Tb} {W : WX} {k : Nat} {a b c tg : Expr} {f g u : Env' → Ro D} {q q' : Env' → Ro Bool} {pos p p2 : Pos} {rest es : List Expr} {r : Env' → Ro (List D)} {x : Str} {st : Stmt} {sts body : List Stmt} {F1 F2 F3 : Env' → So} {t : Tg} {ts : Tgs} {tgs : List Expr} {it : Env' → Ro (List D)}
/-- a list or a tuple, by what it is -/
theorem pi_seq {tl : TE} (hl : PE X a tl) : PI X tg a (fun σ H R => tl σ H fun x H1 => (∃ p, x = .ref p ∧ (∃ xs, SqL X.K H1 p xs) ∧ R (Itl X.K p) H1) ∨ ∃ p, x = .ref p ∧ (∃ xs, SqT X.K H1 p xs) ∧ R (Itt X.K p) H1) := ⟨fun pins s σ H R I h =>
  thn (hl.run pins s σ H _ I h) fun v s1 ⟨x, H1, I1, r1, q1⟩ => by
    have fresh : ∀ b ∈ [s1.heap.objs.size], FpOk X pins H1 b := fun b hb => by
      rw [List.mem_singleton.mp hb]
      exact I1.fpOk (Nat.le_refl _) (I1.hok.fresh (Nat.le_refl _))
    have grown : ∀ {o : Obj}, Inv X pins σ H1 { s1 with heap := s1.heap.push o } := fun {o} => I1.kept (t' := s1.toks) fun b u e => Heap.get?_push_of_some _ e
    rcases q1 with ⟨y, e, ⟨xs, hq⟩, q⟩ | ⟨y, e, ⟨xs, hq⟩, q⟩
    · subst e
      cases r1
      obtain ⟨its, _, pl, _⟩ := I1.list hq
      exact wpAny_pyIter_list pl.isList ⟨_, [s1.heap.objs.size], _, _, H1, rfl, grown, turn_list y _, ⟨_, Heap.get?_push_size _ rfl, rfl, rfl⟩, fresh, q⟩
    · subst e
      cases r1
      obtain ⟨its, _, pl, _⟩ := I1.tuple hq
      exact wpAny_pyIter_tuple (show s1.heap.IsTuple y its.toArray from pl) ⟨_, [s1.heap.objs.size], _, _, H1, rfl, grown, turn_tuple y _, ⟨_, Heap.get?_push_size _ rfl, rfl, rfl⟩, fresh, q⟩⟩
theorem si_seq (ha : SE X T W a f) : SI X T W tg a (iSeq f) := PI.weak (pi_seq ha) fun σ H R h => rd_bind h fun F env d v H1 S1 i1 h1 => by
  obtain ⟨xs, e, h1⟩ := lift_some h1
  unfold seqD at e
  split at e
  · obtain rfl := Option.some.inj e
    obtain ⟨y, vs, rfl, s, m⟩ := i1
    exact .inl ⟨y, rfl, ⟨vs, Le.unhid.lq s⟩, fin_same (R := fun Hs ds J => JIs (gm X) Hs J ds) S1 (JIs.lst s m) h1⟩
  · obtain rfl := Option.some.inj e
    obtain ⟨y, vs, rfl, s, m⟩ := i1
    exact .inr ⟨y, rfl, ⟨vs, Le.unhid.tq s⟩, fin_same (R := fun Hs ds J => JIs (gm X) Hs J ds) S1 (JIs.tup (.inl (.inl s)) m) h1⟩
  · obtain rfl := Option.some.inj e
    obtain ⟨y, vs, rfl, s, m⟩ := i1
    exact .inr ⟨y, rfl, ⟨vs, Le.unhid.sqT s⟩, fin_same (R := fun Hs ds J => JIs (gm X) Hs J ds) S1 (JIs.tup s m) h1⟩
  · cases e
/-- range -/
def okR (i : Int) : Bool := decide (i.natAbs < 2 ^ 62)
theorem okR_bd {i : Int} (h : okR i = true) : -(2 ^ 62) ≤ i ∧ i < 2 ^ 62 := by
  have := of_decide_eq_true h
  omega
def iR1 (f : Env' → Ro D) : Env' → Ro (List D) := fun env => (f env).bind fun d e => match d with
  | .int j => if okR j then .ok (rng 0 j.toNat) e else .stk
  | _ => .stk
def iR2 (f g : Env' → Ro D) : Env' → Ro (List D) := fun env => (f env).bind fun d e => (g e).bind fun d' e => match d, d' with
  | .int i, .int j => if okR i && okR j then .ok (rng i (j - i).toNat) e else .stk
  | _, _ => .stk
theorem si_r1 (hg : Gl X "range") (hm : X.mg "range" = none) (ha : SE X T W a f) (h0 : starEach [a] X.env = [(false, eval a X.env)] := by rfl) (h1 : starEach [a] X.env = (false, eval a X.env) :: starEach [] X.env := by rfl) : SI X T W tg (.Call (.Name "range" p) [a] [] pos) (iR1 f) :=
  PI.weak (pi_range1 hg hm (pa_cons ha pa_nil h1) h0) fun σ H R h => rd_bind h fun F env d v H1 S1 i1 h1 => by
    split at h1
    · rename_i j
      split at h1
      · rename_i ok
        obtain ⟨o1, o2⟩ := okR_bd ok
        obtain rfl : v = .int j := i1
        exact ⟨j, rfl, o1, o2, fin_same (R := fun Hs ds J => JIs (gm X) Hs J ds) S1 JIs.rng h1⟩
      · exact h1.elim
    · exact h1.elim
theorem si_r2 (hg : Gl X "range") (hm : X.mg "range" = none) (ha : SE X T W a f) (hb : SE X T W b g) (hs : starEach [a, b] X.env = [(false, eval a X.env), (false, eval b X.env)] := by rfl) (hs2 : starEach [b] X.env = [(false, eval b X.env)] := by rfl)
    (h3 : starEach [a, b] X.env = (false, eval a X.env) :: starEach [b] X.env := by rfl) (h4 : starEach [b] X.env = (false, eval b X.env) :: starEach [] X.env := by rfl) : SI X T W tg (.Call (.Name "range" p) [a, b] [] pos) (iR2 f g) :=
  PI.weak (pi_range2 hg hm (pa_cons ha (pa_cons hb pa_nil h4) h3) hs hs2) fun σ H R h => rd_bind h fun F env d v H1 S1 i1 h1 => ⟨F, env, S1, Rst.bind S1 h1 fun d' v' H2 env2 s2 S2 i2 h2 => by
    split at h2
    · rename_i i j
      split at h2
      · rename_i ok
        obtain ⟨o1, o2⟩ := Bool.and_eq_true_iff.mp ok
        obtain ⟨a1, a2⟩ := okR_bd o1
        obtain ⟨a3, a4⟩ := okR_bd o2
        obtain rfl : v = .int i := i1
        obtain rfl : v' = .int j := i2
        exact ⟨i, j, rfl, ⟨a1, a2, a3, a4⟩, fin_same (R := fun Hs ds J => JIs (gm X) Hs J ds) S2 JIs.rng h2⟩
      · exact h2.elim
    · exact h2.elim⟩

/-! ## for -/
def forL (t : Tg) (body : Env' → So) : List D → Env' → So
  | [], e => .nx e
  | d :: ds, e => match t d e with
    | some e1 => match body e1 with
      | .nx e2 => forL t body ds e2
      | .ct e2 => forL t body ds e2
      | .bk e2 => .nx e2
      | r => r
    | none => .stk
def sFor (it : Env' → Ro (List D)) (t : Tg) (body : Env' → So) : Env' → So := fun env => ofRo (it env) fun ds e => forL t body ds e
theorem ss_for {us : List Nat} (C : Ctx X k) (po : PassesOwn (model X.prog X.w) X.A X.env X.xe) (hi : SI X T W tg a it) (hg : SG X T us tg t) (hb : SB X T W body F1) (hs : ∀ x, foldedSetIterable a X.env x = pure x := by intro _; rfl) : SS X T W (.For tg a body [] pos) (sFor it t F1) :=
  PS.weak (ps_for po C.calm hi hg hb hs) fun De σ H h => rdS_bind h fun F env ds J H1 S1 i1 h1 => by
    have i1 : JIs (gm X) (hid H1 (Hd F σ env)) J ds := i1
    refine ⟨fun i m σ' H' => m = ds.length - i ∧ i ≤ ds.length ∧ ∃ e, Sta (gm X) T F σ' H' e ∧ Le (hid H1 (Hd F σ env)) (hid H' (Hd F σ' e)) ∧ RstS (gm X) T F σ' H' e W De (forL t F1 (ds.drop i) e),
      ⟨ds.length, rfl, Nat.zero_le _, env, S1, Le.refl _, h1⟩, ?_⟩
    rintro i m σ' H' ⟨rfl, hi', e, S, le, h⟩
    by_cases hlt : i < ds.length
    · have hd : ds[i]? = some ds[i] := by simp [hlt]
      rw [List.drop_eq_getElem_cons hlt] at h
      refine .inr ⟨i1.go i _ H' hlt le Le.unhid, fun σ2 H2 => ∃ e2, Sta (gm X) T F σ2 H2 e2 ∧ Le (hid H1 (Hd F σ env)) (hid H2 (Hd F σ2 e2)) ∧ RstS (gm X) T F σ2 H2 e2 W De (forL t F1 (ds.drop (i + 1)) e2),
        fun σ2 H2 ⟨e2, a1, a2, a3⟩ => ⟨ds.length - (i + 1), by omega, rfl, hlt, e2, a1, a2, a3⟩, fun y H2 hy => ?_⟩
      obtain ⟨n, j⟩ := i1.yld i _ _ H' y H2 hd le Le.unhid hy
      have S2 := S.new n
      have iy := j (hid H2 (Hd F σ' e)) (n.le S) fun a o h1 h2 => hid_some.mpr ⟨fun z => S.hd_there z h1, h2⟩
      simp only [forL] at h
      cases et : t ds[i] e with
      | none =>
        rw [et] at h
        exact h.elim
      | some e1 =>
        rw [et] at h
        simp only at h
        refine ⟨F, e, ds[i], e1, S2, iy, et, fun σ3 _ s3 S3 => ⟨F, e1, S3, ?_⟩⟩
        have s13 : Stp σ' H' e σ3 H2 e1 := (n.stp).trans s3
        cases eb : F1 e1 with
        | nx e2 =>
          rw [eb] at h
          exact fun σ4 H4 s4 S4 => ⟨e2, S4, (le.trans (s13.le F)).trans (s4.le F), h.later (s13.trans s4)⟩
        | ct e2 =>
          rw [eb] at h
          exact fun σ4 H4 s4 S4 => ⟨e2, S4, (le.trans (s13.le F)).trans (s4.le F), h.later (s13.trans s4)⟩
        | bk e2 =>
          rw [eb] at h
          exact fun σ4 H4 s4 S4 => h σ4 H4 (s13.trans s4) S4
        | ret d e2 =>
          rw [eb] at h
          exact RstS.later (r := .ret d e2) h s13
        | retF d e2 =>
          rw [eb] at h
          exact RstS.later (r := .retF d e2) h s13
        | exc c p e2 =>
          rw [eb] at h
          exact RstS.later (r := .exc c p e2) h s13
        | stk =>
          rw [eb] at h
          exact h.elim
    · have e0 : i = ds.length := by omega
      subst e0
      rw [List.drop_length] at h
      exact .inl ⟨i1.stop _ H' le Le.unhid, h σ' H' .refl S⟩

/-! ## while -/
def whileN (q : Env' → Ro Bool) (body : Env' → So) : Nat → Env' → So
  | 0, _ => .stk
  | n + 1, e => ofRo (q e) fun b e => if b then match body e with
      | .nx e2 => whileN q body n e2
      | .ct e2 => whileN q body n e2
      | .bk e2 => .nx e2
      | r => r
    else .nx e
/-- turns enough for any loop here -/
def many : Nat := 2 ^ 200
def sWhile (q : Env' → Ro Bool) (body : Env' → So) : Env' → So := fun env => whileN q body many env
theorem ss_while (po : PassesOwn (model X.prog X.w) X.A X.env X.xe) (hc : SQ X T W c q) (hb : SB X T W body F1) : SS X T W (.While c body [] pos) (sWhile q F1) :=
  PS.weak (ps_while po hc hb) fun De σ H h => by
    obtain ⟨F, env, S, h⟩ := h
    refine ⟨fun m σ' H' => ∃ e, Sta (gm X) T F σ' H' e ∧ RstS (gm X) T F σ' H' e W De (whileN q F1 m e), ⟨many, env, S, h⟩, ?_⟩
    rintro m σ' H' ⟨e, S, h⟩
    cases m with
    | zero => exact h.elim
    | succ m =>
      simp only [whileN] at h
      refine ⟨F, e, S, RstS.bind S h fun b b' H1 e1 s1 S1 i1 h1 => ?_⟩
      obtain rfl : b = b' := i1
      cases b with
      | false => exact h1 σ' H1 .refl S1
      | true =>
        simp only [if_true] at h1 ⊢
        refine ⟨fun σ2 H2 => ∃ e2, Sta (gm X) T F σ2 H2 e2 ∧ RstS (gm X) T F σ2 H2 e2 W De (whileN q F1 m e2), fun σ2 H2 ⟨e2, a1, a2⟩ => ⟨m, Nat.lt_succ_self m, e2, a1, a2⟩, F, e1, S1, ?_⟩
        cases eb : F1 e1 with
        | nx e2 =>
          rw [eb] at h1
          exact fun σ4 H4 s4 S4 => ⟨e2, S4, h1.later s4⟩
        | ct e2 =>
          rw [eb] at h1
          exact fun σ4 H4 s4 S4 => ⟨e2, S4, h1.later s4⟩
        | bk e2 =>
          rw [eb] at h1
          exact fun σ4 H4 s4 S4 => h1 σ4 H4 s4 S4
        | ret d e2 =>
          rw [eb] at h1
          exact h1
        | retF d e2 =>
          rw [eb] at h1
          exact h1
        | exc c p e2 =>
          rw [eb] at h1
          exact h1
        | stk =>
          rw [eb] at h1
          exact h1.elim

/-! ## comprehensions -/
def wipeE (e : Env') : List Nat → Env'
  | [] => e
  | v :: vs => (wipeE e vs).set v .no
/-- the outer slots again -/
def backE (e0 e : Env') : List Nat → Env'
  | [] => e
  | v :: vs => (backE e0 e vs).set v (e0.getD v .no)
def isOwn (e : Env') (i : Nat) : Bool := match e[i]? with
  | some (.o _) => true
  | _ => false
def noOwn (e : Env') (vs : List Nat) : Bool := vs.all fun v => !isOwn e v
theorem noOwn_at {e : Env'} {vs : List Nat} (h : noOwn e vs = true) {v : Nat} (hv : v ∈ vs) (d : D) : e[v]? ≠ some (.o d) := fun z => by
  have := List.all_eq_true.mp h v hv
  unfold isOwn at this
  rw [z] at this
  cases this
theorem wipeE_len (e : Env') : ∀ vs, (wipeE e vs).length = e.length
  | [] => rfl
  | v :: vs => by unfold wipeE; rw [List.length_set, wipeE_len e vs]
theorem backE_len (e0 e : Env') : ∀ vs, (backE e0 e vs).length = e.length
  | [] => rfl
  | v :: vs => by unfold backE; rw [List.length_set, backE_len e0 e vs]
theorem wipeE_get {e : Env'} {i : Nat} : ∀ {vs : List Nat}, i ∉ vs → (wipeE e vs)[i]? = e[i]?
  | [], _ => rfl
  | v :: vs, h => by
    have h1 : v ≠ i := fun z => h (by simp [z])
    have h2 : i ∉ vs := fun z => h (List.mem_cons_of_mem _ z)
    unfold wipeE
    rw [List.getElem?_set_ne h1, wipeE_get h2]
theorem wipeE_own {e : Env'} {i : Nat} : ∀ {vs : List Nat}, i ∈ vs → ∀ s, (wipeE e vs)[i]? = some s → s = .no
  | [], h, _, _ => by cases h
  | v :: vs, h, s, hs => by
    unfold wipeE at hs
    rcases get_set hs with ⟨_, q, _⟩ | ⟨q, hs⟩
    · exact q
    · rcases List.mem_cons.mp h with z | z
      · exact absurd z.symm q
      · exact wipeE_own z s hs
theorem backE_get {e0 e : Env'} {i : Nat} : ∀ {vs : List Nat}, i ∉ vs → (backE e0 e vs)[i]? = e[i]?
  | [], _ => rfl
  | v :: vs, h => by
    have h1 : v ≠ i := fun z => h (by simp [z])
    have h2 : i ∉ vs := fun z => h (List.mem_cons_of_mem _ z)
    unfold backE
    rw [List.getElem?_set_ne h1, backE_get h2]
theorem backE_own {e0 e : Env'} {i : Nat} : ∀ {vs : List Nat}, i ∈ vs → ∀ s, (backE e0 e vs)[i]? = some s → s = e0.getD i .no
  | [], h, _, _ => by cases h
  | v :: vs, h, s, hs => by
    unfold backE at hs
    rcases get_set hs with ⟨e1, q, _⟩ | ⟨q, hs⟩
    · rw [q, e1]
    · rcases List.mem_cons.mp h with z | z
      · exact absurd z.symm q
      · exact backE_own z s hs
theorem wipe_len (σ : St) : ∀ vs : List Nat, (wipe σ vs).length = σ.length := fun vs => wipe_length σ vs
theorem ow_wipe {σ : St} {e : Env'} {vs : List Nat} (h : noOwn e vs = true) {a : Addr} : Ow (wipe σ vs) (wipeE e vs) a ↔ Ow σ e a := by
  refine ⟨fun ⟨i, d, h1, h2⟩ => ?_, fun ⟨i, d, h1, h2⟩ => ?_⟩
  · by_cases hi : i ∈ vs
    · have := wipeE_own hi _ h1
      cases this
    · rw [wipeE_get hi] at h1
      rw [wipe_out hi] at h2
      exact ⟨i, d, h1, h2⟩
  · have hi : i ∉ vs := fun z => noOwn_at h z d h1
    exact ⟨i, d, by rw [wipeE_get hi]; exact h1, by rw [wipe_out hi]; exact h2⟩
variable {G : Gm} {F F' : Addr → Prop} {σ : St} {H H' : Hp} {env e : Env'} {vs : List Nat}
theorem hid_eq {O O' : Addr → Prop} (h : ∀ a, O a ↔ O' a) : hid H O = hid H O' := by
  have : O = O' := funext fun a => propext (h a)
  rw [this]
theorem hd_iff {σ σ' : St} {e e' : Env'} (h : ∀ a, Ow σ e a ↔ Ow σ' e' a) (a : Addr) : Hd F σ e a ↔ Hd F σ' e' a := ⟨fun z => z.elim (fun z => .inl ((h a).mp z)) .inr, fun z => z.elim (fun z => .inl ((h a).mpr z)) .inr⟩
theorem TabP.wipe (t : TabP T σ H) (f : ∀ i ∈ vs, Fr T i) : TabP T (L2.wipe σ vs) H := ⟨t.1, fun p hp => by
  rw [wipe_out fun z => f _ z p hp rfl]
  exact t.2 p hp⟩
theorem Sta.wipe (S : Sta G T F σ H env) (fr : ∀ i ∈ vs, Fr T i) (h : noOwn env vs = true) : Sta G T F (L2.wipe σ vs) H (wipeE env vs) := by
  have hw := fun a => ow_wipe (σ := σ) h (a := a)
  refine ⟨by rw [wipeE_len, wipe_len]; exact S.len, fun i s hs => ?_, fun i j d d' a h1 h2 h3 h4 => ?_, fun a z => S.fr a ((hw a).mp z), S.fd, S.tab.wipe fr, S.old.to (fun _ _ _ _ h => h) (fun _ _ h => h) fun a z => .inl ((hw a).mp z), by rw [hid_eq (hd_iff hw)]; exact S.vis⟩
  · rw [hid_eq (hd_iff hw)]
    by_cases hi : i ∈ vs
    · obtain rfl := wipeE_own hi s hs
      have hl : i < (L2.wipe σ vs).length := by
        rw [wipe_len, ← S.len, ← wipeE_len env vs]
        exact (List.getElem?_eq_some_iff.mp hs).1
      exact ⟨(L2.wipe σ vs)[i], by simp [hl], trivial⟩
    · rw [wipeE_get hi] at hs
      obtain ⟨x, e1, e2⟩ := S.sl i s hs
      exact ⟨x, by rw [wipe_out hi]; exact e1, e2⟩
  · have n1 : i ∉ vs := fun z => by have := wipeE_own z _ h1; cases this
    have n2 : j ∉ vs := fun z => by have := wipeE_own z _ h2; cases this
    rw [wipeE_get n1] at h1
    rw [wipeE_get n2] at h2
    rw [wipe_out n1] at h3
    rw [wipe_out n2] at h4
    exact S.dis i j d d' a h1 h2 h3 h4
/-- behind a turn: the block's own slots are forgotten -/
theorem Sta.rewipe {σ2 : St} (fr : ∀ i ∈ vs, Fr T i) (S : Sta G T F σ2 H e) (hw : L2.wipe σ2 vs = L2.wipe σ vs) (h : noOwn e vs = true) : Sta G T F (L2.wipe σ vs) H (wipeE e vs) ∧ Stp σ2 H e (L2.wipe σ vs) H (wipeE e vs) := by
  rw [← hw]
  exact ⟨S.wipe fr h, fun _ _ e _ _ => e, fun a _ k z => k ((ow_wipe h).mp z), fun _ e => e⟩
/-- behind the block -/
theorem back_ok (S : Sta G T F σ H env) (h0 : noOwn env vs = true) (s : Stp (L2.wipe σ vs) H (wipeE env vs) (L2.wipe σ vs) H' e) (S' : Sta G T F' (L2.wipe σ vs) H' e) (h1 : noOwn e vs = true) (hF : ∀ a, F' a → F a ∨ H a = none) :
    Sta G T F' σ H' (backE env e vs) ∧ Stp σ H env σ H' (backE env e vs) := by
  have hb : ∀ a, Ow σ (backE env e vs) a ↔ Ow (L2.wipe σ vs) e a := fun a => by
    refine ⟨fun ⟨i, d, a1, a2⟩ => ?_, fun ⟨i, d, a1, a2⟩ => ?_⟩
    · by_cases hi : i ∈ vs
      · have z := backE_own hi _ a1
        rw [List.getD_eq_getElem?_getD] at z
        cases q : env[i]? with
        | none => rw [q] at z; cases z
        | some s =>
          rw [q] at z
          have z' : Slot.o d = s := z
          exact absurd (by rw [q, ← z']) (noOwn_at h0 hi d)
      · rw [backE_get hi] at a1
        exact ⟨i, d, a1, by rw [wipe_out hi]; exact a2⟩
    · have hi : i ∉ vs := fun z => noOwn_at h1 z d a1
      rw [wipe_out hi] at a2
      exact ⟨i, d, by rw [backE_get hi]; exact a1, a2⟩
  have hw := fun a => ow_wipe (σ := σ) h0 (a := a)
  have st : Stp σ H env σ H' (backE env e vs) := ⟨fun a o e1 n k => s.keep a o e1 n fun z => k ((hw a).mp z), fun a q k z => s.own a q (fun y => k ((hw a).mp y)) ((hb a).mp z), s.dom⟩
  refine ⟨⟨?_, fun i sl hs => ?_, fun i j d d' a a1 a2 a3 a4 => ?_, fun a z => S'.fr a ((hb a).mp z), S'.fd, ⟨S'.tab.1, S.tab.2⟩, S'.old.to (fun _ _ _ _ h => h) (fun _ _ h => h) fun a z => .inl ((hb a).mp z), by rw [hid_eq (hd_iff hb)]; exact S'.vis⟩, st⟩
  · rw [backE_len, S'.len, wipe_len]
  · rw [hid_eq (hd_iff hb)]
    by_cases hi : i ∈ vs
    · have z := backE_own hi _ hs
      rw [List.getD_eq_getElem?_getD] at z
      cases q : env[i]? with
      | none =>
        rw [q] at z
        obtain rfl : sl = .no := z
        have hl : i < σ.length := by
          have := (List.getElem?_eq_some_iff.mp hs).1
          rw [backE_len, S'.len, wipe_len] at this
          exact this
        exact ⟨σ[i], by simp [hl], trivial⟩
      | some s0 =>
        rw [q] at z
        obtain rfl : sl = s0 := z
        obtain ⟨x, e1, e2⟩ := S.sl i sl q
        refine ⟨x, e1, ?_⟩
        cases sl with
        | no => trivial
        | o d => exact absurd q (noOwn_at h0 hi d)
        | v d =>
          obtain ⟨v, rfl, e2⟩ := e2
          refine ⟨v, rfl, Is.mono ?_ _ _ e2⟩
          refine Le.hid fun b o e3 n k => ⟨fun y => ?_, s.keep b o e3 n fun y => k (.inl ((hw b).mp y))⟩
          rcases y with y | y
          · exact s.own b (by rw [e3]; simp) (fun y' => k (.inl ((hw b).mp y'))) y
          · rcases hF b y with y | y
            · exact k (.inr y)
            · rw [e3] at y; cases y
    · rw [backE_get hi] at hs
      obtain ⟨x, e1, e2⟩ := S'.sl i sl hs
      rw [wipe_out hi] at e1
      exact ⟨x, e1, e2⟩
  · have key : ∀ {i : Nat} {d : D}, (backE env e vs)[i]? = some (.o d) → i ∉ vs ∧ e[i]? = some (.o d) := fun {i d} q => by
      by_cases hi : i ∈ vs
      · have z := backE_own hi _ q
        rw [List.getD_eq_getElem?_getD] at z
        cases q' : env[i]? with
        | none => rw [q'] at z; cases z
        | some s =>
          rw [q'] at z
          have z' : Slot.o d = s := z
          exact absurd (by rw [q', ← z']) (noOwn_at h0 hi d)
      · rw [backE_get hi] at q
        exact ⟨hi, q⟩
    obtain ⟨n1, b1⟩ := key a1
    obtain ⟨n2, b2⟩ := key a2
    exact S'.dis i j d d' a b1 b2 (by rw [wipe_out n1]; exact a3) (by rw [wipe_out n2]; exact a4)
/-- the turns of a comprehension: vs the block's own slots -/
def lcL (vs : List Nat) (t : Tg) (q : Env' → Ro Bool) (f : Env' → Ro D) : List D → List D → Env' → Ro (List D)
  | [], acc, e => .ok acc e
  | d :: ds, acc, e => match t d e with
    | some e1 => match q e1 with
      | .ok true e2 => match f e2 with
        | .ok y e3 => if acc.length < sizeLine && noOwn e3 vs then lcL vs t q f ds (acc ++ [y]) (wipeE e3 vs) else .stk
        | _ => .stk
      | .ok false e2 => if noOwn e2 vs then lcL vs t q f ds acc (wipeE e2 vs) else .stk
      | _ => .stk
    | none => .stk
def qYes : Env' → Ro Bool := fun e => .ok true e
def eLc (vs : List Nat) (it : Env' → Ro (List D)) (t : Tg) (q : Env' → Ro Bool) (f : Env' → Ro D) : Env' → Ro D := fun env => (it env).bind fun ds e => if noOwn e vs then match lcL vs t q f ds [] (wipeE e vs) with
    | .ok acc e' => if noOwn e' vs then .ok (.lst acc) (backE e e' vs) else .stk
    | _ => .stk
  else .stk
def noW : WX := fun _ _ _ _ => False
end
end Rf

namespace Rf
open PySem L2 LamX

/-! ## list comprehensions -/
abbrev BlkCx (X : Cx) (scope : Scope) (s : Shared) (H : Hp) (C : Addr) (cl : List (Str × Addr)) (fp : List Addr) : Cx := X.blk s H scope (compEnvC scope cl C X.env) fp
theorem Ctx.blk {X : Cx} {k : Nat} (C : Ctx X k) (scope : Scope) (s : Shared) (H : Hp) (cenv : Env) (fp : List Addr) : Ctx (X.blk s H scope cenv fp) k := ⟨C.room, C.gd, C.calm, C.nd⟩
/-- a clause's tests -/
def STs (X : Cx) (T : Tb) (W : WX) (ifs : List Expr) (q : Env' → Ro Bool) : Prop := PTs X ifs (rd (gm X) T isB q W)
theorem PTs.weak {X : Cx} {ifs : List Expr} {t u : TT} (h : PTs X ifs t) (k : ∀ σ H Q, u σ H Q → t σ H Q) : PTs X ifs u := ⟨fun pins s σ H Q I q => h.run pins s σ H Q I (k σ H Q q)⟩
theorem sts_nil {X : Cx} {T : Tb} {W : WX} : STs X T W [] qYes := PTs.weak pts_nil fun σ H Q h => by
  obtain ⟨F, env, S, h⟩ := h
  exact h true H .refl S rfl
theorem sts_one {X : Cx} {T : Tb} {W : WX} {c : Expr} {q : Env' → Ro Bool} (h : SQ X T W c q) : STs X T W [c] q := pts_one h
section
variable {G : Gm} {T : Tb} {F F' : Addr → Prop} {σ σ1 : St} {H H1 H' : Hp} {env e e0 : Env'} {vs : List Nat} {W : WX}
/-- the new list at D by what it holds -/
def Acc (G : Gm) (F : Addr → Prop) (σ : St) (H : Hp) (e : Env') (L : Addr) (acc : List D) : Prop := ∃ avs, H L = some (.lst avs) ∧ IsL G (hid H (Hd (Pl F L) σ e)) acc avs
/-- within the block: from the block's start at H1 to H -/
structure InB (G : Gm) (T : Tb) (F : Addr → Prop) (L : Addr) (σ1 : St) (H1 : Hp) (e1 : Env') (σ : St) (H : Hp) (e : Env') (acc : List D) : Prop where
  st : Sta G T (Pl F L) σ H e
  sp : Stp σ1 H1 e1 σ H e
  ac : Acc G F σ H e L acc
  nn : H1 L = none
  ol : T.old L = none
theorem Stp.nn (s : Stp σ H env σ1 H1 e) {L : Addr} (h : H1 L = none) : H L = none := by
  cases q : H L with
  | none => rfl
  | some o => exact absurd h (s.dom L (by rw [q]; simp))
variable {L : Addr} {σ2 : St} {H2 : Hp} {e1 e2 : Env'} {acc : List D}
theorem InB.step (b : InB G T F L σ1 H1 e1 σ H e acc) (s : Stp σ H e σ2 H2 e2) (S : Sta G T (Pl F L) σ2 H2 e2) : InB G T F L σ1 H1 e1 σ2 H2 e2 acc := by
  obtain ⟨avs, h1, h2⟩ := b.ac
  refine ⟨S, b.sp.trans s, ⟨avs, s.keep L _ h1 (fun ps z => by cases z) fun z => b.st.fr L z (.inr rfl), IsL.mono (s.le (Pl F L)) _ _ h2⟩, b.nn, b.ol⟩
/-- an item more -/
theorem InB.add (b : InB G T F L σ1 H1 e1 σ H e acc) {d : D} {v : V} (i : Is G (hid H (Hd (Pl F L) σ e)) d v) :
    ∃ avs, H L = some (.lst avs) ∧ avs.length = acc.length ∧ InB G T F L σ1 H1 e1 σ (upd H L (.lst (avs ++ [v]))) e (acc ++ [d]) := by
  obtain ⟨avs, h1, h2⟩ := b.ac
  have nOld : ∀ c, T.old c ≠ none → c ≠ L := fun c e z => e (by rw [z]; exact b.ol)
  have nL : ∀ a, a ≠ L → upd H L (.lst (avs ++ [v])) a = H a := fun a z => upd_ne z
  have le : Le (hid H (Hd (Pl F L) σ e)) (hid (upd H L (.lst (avs ++ [v]))) (Hd (Pl F L) σ e)) := Le.hid fun a o h _ k => ⟨k, by
    rw [nL a fun z => k (.inr (.inr z))]
    exact h⟩
  refine ⟨avs, h1, (IsL.length h2).symm, ⟨⟨b.st.len, fun j s q => ?_, b.st.dis, b.st.fr, fun a z => ?_, ?_, b.st.old.to (fun a o e _ h => (nL a (fun z => nOld a (by rw [e]; simp) z)).trans h) (fun a e h => by rw [nL a (nOld a e)]; exact h) fun _ z => .inl z, b.st.vis.trans le⟩, ⟨fun a o h n k => ?_, b.sp.own, fun a h => ?_⟩, ⟨avs ++ [v], upd_same, IsL.mono le _ _ (IsL.append h2 (IsL.one i))⟩, b.nn, b.ol⟩⟩
  · obtain ⟨x, q1, q2⟩ := b.st.sl j s q
    refine ⟨x, q1, q2.mono le fun d' a es ex => nL a fun z => ?_⟩
    subst es ex
    exact b.st.fr a ⟨j, d', q, q1⟩ (.inr z)
  · by_cases z' : a = L
    · rw [z', upd_same]; exact True.intro
    · rw [nL a z']; exact b.st.fd a z
  · refine ⟨fun p hp => ?_, b.st.tab.2⟩
    obtain ⟨ps, q1, q2, q3⟩ := b.st.tab.1 p hp
    refine ⟨ps, by rw [nL _ fun z => by rw [z, h1] at q1; cases q1]; exact q1, q2, fun pos cv hc => ?_⟩
    obtain ⟨c, q4, q5⟩ := q3 pos cv hc
    exact ⟨c, q4, by rw [nL _ fun z => by rw [z, h1] at q5; cases q5]; exact q5⟩
  · rw [nL a fun z => by rw [z, b.nn] at h; cases h]
    exact b.sp.keep a o h n k
  · by_cases z' : a = L
    · rw [z', upd_same]; simp
    · rw [nL a z']; exact b.sp.dom a h
theorem ow_back {e0 : Env'} (h0 : noOwn e0 vs = true) (h1 : noOwn e vs = true) (a : Addr) : Ow σ (backE e0 e vs) a ↔ Ow (L2.wipe σ vs) e a := by
  refine ⟨fun ⟨i, d, a1, a2⟩ => ?_, fun ⟨i, d, a1, a2⟩ => ?_⟩
  · by_cases hi : i ∈ vs
    · have z := backE_own hi _ a1
      rw [List.getD_eq_getElem?_getD] at z
      cases q : e0[i]? with
      | none => rw [q] at z; cases z
      | some s =>
        rw [q] at z
        have z' : Slot.o d = s := z
        exact absurd (by rw [q, ← z']) (noOwn_at h0 hi d)
    · rw [backE_get hi] at a1
      exact ⟨i, d, a1, by rw [wipe_out hi]; exact a2⟩
  · have hi : i ∉ vs := fun z => noOwn_at h1 z d a1
    rw [wipe_out hi] at a2
    exact ⟨i, d, by rw [backE_get hi]; exact a1, a2⟩
/-- behind a turn -/
theorem InB.turn (fr : ∀ i ∈ vs, Fr T i) (b : InB G T F L σ1 H1 e1 σ2 H e acc) (hw : L2.wipe σ2 vs = L2.wipe σ vs) (h : noOwn e vs = true) : InB G T F L σ1 H1 e1 (L2.wipe σ vs) H (wipeE e vs) acc := by
  obtain ⟨S, s⟩ := b.st.rewipe fr hw h
  exact b.step s S
/-- the block's end -/
theorem InB.back {e0 : Env'} (S0 : Sta G T F σ H1 e0) (h0 : noOwn e0 vs = true) (b : InB G T F L (L2.wipe σ vs) H1 (wipeE e0 vs) (L2.wipe σ vs) H e acc) (h1 : noOwn e vs = true) :
    Stp σ H1 e0 σ H (backE e0 e vs) ∧ Sta G T (Pl F L) σ H (backE e0 e vs) ∧ OIs G (hid H (Hd (Pl F L) σ (backE e0 e vs))) H (.lst acc) L := by
  obtain ⟨S, s⟩ := back_ok S0 h0 b.sp b.st h1 fun a z => by
    rcases z with z | z
    · exact .inl z
    · exact .inr (by rw [z]; exact b.nn)
  obtain ⟨avs, h3, h4⟩ := b.ac
  refine ⟨s, S, avs, h3, ?_⟩
  rw [hid_eq (hd_iff (ow_back h0 h1))]
  exact h4
/-- the block's start -/
theorem InB.start (fr : ∀ i ∈ vs, Fr T i) (S : Sta G T F σ H env) (h : noOwn env vs = true) (n : H L = none) : InB G T F L (L2.wipe σ vs) H (wipeE env vs) (L2.wipe σ vs) (upd H L (.lst [])) (wipeE env vs) [] :=
  ⟨(S.wipe fr h).newHid n, (New.upd n).stp, ⟨[], upd_same, rfl⟩, n, S.old.free (.inl n)⟩
end
section
variable {X : Cx} {T : Tb} {W : WX} {k : Nat} {tg iter elt : Expr} {ifs : List Expr} {scope : Scope} {own : List (Str × Nat)} {it : Env' → Ro (List D)} {t : Tg} {q : Env' → Ro Bool} {f : Env' → Ro D} {us : List Nat} {pos : Pos}
theorem wipe_twice {σ : St} {vs : List Nat} : wipe (wipe σ vs) vs = wipe σ vs := (show Only vs σ (wipe σ vs) from ⟨wipe_length σ vs, fun _ h => wipe_out h⟩).wipe fun _ h => h
theorem lc_law {G : Gm} {vs : List Nat} {σ : St} {H : Hp} {Q : VK} (fr : ∀ i ∈ vs, Fr T i) (hu : ∀ i ∈ us, i ∈ vs) (h : rdF G T (eLc vs it t q f) W σ H Q) :
    tLc (rd G T (fun Hs ds J => JIs G Hs J ds) it W) (rdG G T us t) (rd G T isB q noW) (rd G T (isD G) f noW) vs σ H Q := by
  refine rdF_bind h fun F env ds J H1 S1 i1 h1 L nL => ?_
  have i1 : JIs G (hid H1 (Hd F σ env)) J ds := i1
  split at h1
  · rename_i no
    split at h1
    · rename_i acc' e' er
      split at h1
      · rename_i no'
        refine ⟨fun i m H2 => m = ds.length - i ∧ i ≤ ds.length ∧ ∃ e acc, InB G T F L (wipe σ vs) H1 (wipeE env vs) (wipe σ vs) H2 e acc ∧ lcL vs t q f (ds.drop i) acc e = .ok acc' e',
          ⟨ds.length, rfl, Nat.zero_le _, _, [], InB.start fr S1 no nL, er⟩, ?_⟩
        rintro i m H2 ⟨rfl, hi', e, acc, B, er2⟩
        have le : Le (hid H1 (Hd F σ env)) (hid H2 (Hd (Pl F L) (wipe σ vs) e)) := by
          have z : hid H1 (Hd F σ env) = hid H1 (Hd F (wipe σ vs) (wipeE env vs)) := hid_eq (hd_iff fun a => (ow_wipe no).symm)
          rw [z]
          refine Le.hid fun b o e3 n k => ⟨fun y => ?_, B.sp.keep b o e3 n fun y => k (.inl y)⟩
          rcases y with y | y | y
          · exact B.sp.own b (by rw [e3]; simp) (fun y' => k (.inl y')) y
          · exact k (.inr y)
          · rw [y, nL] at e3; cases e3
        by_cases hlt : i < ds.length
        · have hd : ds[i]? = some ds[i] := by simp [hlt]
          rw [List.drop_eq_getElem_cons hlt] at er2
          refine .inr ⟨i1.go i _ H2 hlt le Le.unhid, fun H3 => ∃ e acc, InB G T F L (wipe σ vs) H1 (wipeE env vs) (wipe σ vs) H3 e acc ∧ lcL vs t q f (ds.drop (i + 1)) acc e = .ok acc' e',
            fun H3 ⟨e3, a3, b1, b2⟩ => ⟨ds.length - (i + 1), by omega, rfl, hlt, e3, a3, b1, b2⟩, fun y H3 hy => ?_⟩
          obtain ⟨n, j⟩ := i1.yld i _ _ H2 y H3 hd le Le.unhid hy
          have B3 := B.step n.stp (B.st.new n)
          have iy := j (hid H3 (Hd (Pl F L) (wipe σ vs) e)) (n.le B.st) fun a o h1 h2 => hid_some.mpr ⟨fun z => B.st.hd_there z h1, h2⟩
          simp only [lcL] at er2
          cases et : t ds[i] e with
          | none => rw [et] at er2; cases er2
          | some e1 =>
            rw [et] at er2
            simp only at er2
            refine ⟨Pl F L, e, ds[i], e1, B3.st, iy, et, fun σ3 o3 s3 S3 => ?_⟩
            have hw : wipe σ3 vs = wipe σ vs := (o3.wipe hu).trans wipe_twice
            refine ⟨hw, ?_⟩
            have B4 := B3.step s3 S3
            refine ⟨Pl F L, e1, S3, ?_⟩
            cases eq : q e1 with
            | ok b e2 =>
              rw [eq] at er2
              intro b' H4 s4 S4 hb'
              obtain rfl : b = b' := hb'
              have B5 := B4.step s4 S4
              cases b with
              | false =>
                simp only at er2
                split at er2
                · rename_i no2
                  exact ⟨wipeE e2 vs, acc, InB.turn fr B5 hw no2, er2⟩
                · cases er2
              | true =>
                simp only at er2
                simp only [if_true]
                refine ⟨Pl F L, e2, S4, ?_⟩
                cases ef : f e2 with
                | ok d e3 =>
                  rw [ef] at er2
                  simp only at er2
                  split at er2
                  · rename_i hc
                    obtain ⟨hc1, no2⟩ := Bool.and_eq_true_iff.mp hc
                    have hc1 := of_decide_eq_true hc1
                    intro v H5 s5 S5 iv
                    obtain ⟨avs, a1, a2, B6⟩ := (B5.step s5 S5).add iv
                    exact ⟨avs, a1, by rw [a2]; exact hc1, wipeE e3 vs, acc ++ [d], InB.turn fr B6 hw no2, er2⟩
                  · cases er2
                | exc c p e3 => rw [ef] at er2; cases er2
                | stk => rw [ef] at er2; cases er2
            | exc c p e2 => rw [eq] at er2; cases er2
            | stk => rw [eq] at er2; cases er2
        · have e0 : i = ds.length := by omega
          subst e0
          rw [List.drop_length] at er2
          simp only [lcL] at er2
          cases er2
          obtain ⟨s, S, o⟩ := B.back S1 no no'
          exact .inl ⟨i1.stop _ H2 le Le.unhid, h1 L H2 s S o nL⟩
      · exact h1.elim
    · exact h1.elim
  · exact h1.elim
theorem setO_law {G : Gm} {i : Nat} (fr : Fr T i) {f : Env' → Ro D} {De : Ends} {σ : St} {H : Hp} (h : rdS G T (sSetO i f) W De σ H) : rdF G T f W σ H fun x H1 => De.nx (σ.set i (some x)) H1 := by
  obtain ⟨F, env, S, h⟩ := h
  refine ⟨F, env, S, ?_⟩
  unfold sSetO at h
  cases e : f env with
  | ok d e1 =>
    rw [e] at h
    intro a H' s st o n
    obtain ⟨S', s'⟩ := Sta.setO (i := i) s (.inl n) st o (fun z => S.fn a z n) fr (S.old.free (.inl n))
    exact h _ H' s' S'
  | exc c p e1 =>
    rw [e] at h
    exact fun cls dd H' s st x => h cls dd σ H' s st x
  | stk =>
    rw [e] at h
    exact h
/-- a list comprehension as a value -/
theorem sf_lc (C : Ctx X k) (fr : ∀ i ∈ own.map (·.2), Fr T i) (hi : SI X T W tg iter it) (ok : blkC X.N X.env.scope scope own = true) (hu : ∀ i ∈ us, i ∈ own.map (·.2))
    (hg : ∀ s H C cl fp, SG (BlkCx X scope s H C cl fp) T us tg t) (ht : ∀ s H C cl fp, STs (BlkCx X scope s H C cl fp) T noW ifs q) (he : ∀ s H C cl fp, SE (BlkCx X scope s H C cl fp) T noW elt f)
    (hs : ∀ x, foldedSetIterable iter X.env x = pure x := by intro _; rfl) : SF X T W (.ListComp elt [⟨tg, iter, ifs, 0⟩] scope pos) (eLc (own.map (·.2)) it t q f) :=
  PE.weak (pe_lc (g := rdG (gm X) T us t) (tt := rd (gm X) T isB q noW) (te := rd (gm X) T (isD (gm X)) f noW) C.calm C.nd hi (blkOk_by ok) hg ht he hs) fun σ H Q h => lc_law fr hu h
/-- name = [..] on one line: the new list the slot's own -/
theorem ss_setLc {i : Nat} (fi : Fr T i) {y : Str} {py spos : Pos} (C : Ctx X k) (fr : ∀ i ∈ own.map (·.2), Fr T i) (hi : SI X T W tg iter it) (ok : blkC X.N X.env.scope scope own = true) (hu : ∀ i ∈ us, i ∈ own.map (·.2))
    (hg : ∀ s H C cl fp, SG (BlkCx X scope s H C cl fp) T us tg t) (ht : ∀ s H C cl fp, STs (BlkCx X scope s H C cl fp) T noW ifs q) (he : ∀ s H C cl fp, SE (BlkCx X scope s H C cl fp) T noW elt f)
    (hy : X.N[i]? = some y) (hyl : X.env.scope.names.lookup y = some .local) (hsw : swapsWith (.ListComp elt [⟨tg, iter, ifs, 0⟩] scope pos) (some (.Name y py)) spos.line X.env = pure true)
    (hs : ∀ x, foldedSetIterable iter X.env x = pure x := by intro _; rfl) : SS X T W (.Assign [.Name y py] (.ListComp elt [⟨tg, iter, ifs, 0⟩] scope pos) spos) (sSetO i (eLc (own.map (·.2)) it t q f)) :=
  PS.weak (ps_setLc (g := rdG (gm X) T us t) (tt := rd (gm X) T isB q noW) (te := rd (gm X) T (isD (gm X)) f noW) C.calm C.nd hy hyl hsw hi (blkOk_by ok) hg ht he hs) fun De σ H h => lc_law fr hu (setO_law fi h)
end
end Rf

namespace Rf
open PySem L2 LamX

/-! ## defs -/
/-- a def's promise where no other text is shown around -/
structure FnG (P : Program) (w : World) (K : PySem.W.Frag) (mg : Str → Option Value) (base : Heap) (k : Nat) (f : Addr) (fd : FuncData) (ps : List Str) (sp : Sp) : Prop where
  len : ∀ vs H Q E, sp vs H Q E → vs.length = ps.length
  go : ∀ (A : Around) (outer : List Env) (s : Shared) (H : Hp) (args : Args) (us : List Value) (vs : List V) (Q : VK) (E : XK), Room k A → A.guards = some [] → Env0 P w K mg base A outer s H → BindsTo s fd args (ps.zip us) → Vals vs us → sp vs H Q E →
    codeAny (model P w) A (.call (.ref f) args) (CR (L2.CX P w) outer P w H s Q E) s
/-- what a def makes of its arguments, and of those that it may write to -/
abbrev Fm := Env' → Ro D
def ownS : Slot → Bool
  | .o _ => true
  | _ => false
def isNo : Slot → Bool
  | .no => true
  | _ => false
/-- the parameters' slots behind the call -/
def outs : Env' → Env' → Env'
  | .o _ :: as, s :: e => s :: outs as e
  | _ :: as, _ :: e => .no :: outs as e
  | _, _ => []
/-- what was owned is owned -/
def outOk : Env' → Env' → Bool
  | .o _ :: as, s :: e => ownS s && outOk as e
  | _ :: as, _ :: e => outOk as e
  | [], _ => true
  | _ :: _, [] => false
def outR (args e : Env') (d : D) : Ro D := if outOk args e then .ok d (outs args e) else .stk
/-- md: which parameters it may write to; n: how many names -/
def runM (md : List Bool) (n : Nat) (b : Env' → So) : Fm := fun args => if args.map ownS = md ∧ args.all (fun s => !isNo s) = true then
    match b (args ++ List.replicate (n - args.length) .no) with
    | .nx e => outR args e .non
    | .ret d e => outR args e d
    | .retF d e => outR args e d
    | .exc c p e => if outOk args e then .exc c p (outs args e) else .stk
    | _ => .stk
  else .stk
/-- .. each of its ends hands on a new object -/
def runF (md : List Bool) (n : Nat) (b : Env' → So) : Fm := fun args => if args.map ownS = md ∧ args.all (fun s => !isNo s) = true then
    match b (args ++ List.replicate (n - args.length) .no) with
    | .retF d e => outR args e d
    | .exc c p e => if outOk args e then .exc c p (outs args e) else .stk
    | _ => .stk
  else .stk
theorem Le.nil {H : Hp} : Le (fun _ => none) H := fun _ _ e _ => nomatch e
def tbP (T : Tb) (l : List (Nat × Addr)) : Tb := ⟨T.tabs, l, fun _ => none, fun _ => none⟩
abbrev tb0 (T : Tb) : Tb := tbP T []
abbrev WofE (E : XK) : WX := fun cls d _ H => E cls d H
def spM (G : Gm) (T : Tb) (m : Fm) : Sp := fun vs H Q E => ∃ (F : Addr → Prop) (args : Env'), Sta G (tb0 T) F (vs.map some) H args ∧ Rst G (tb0 T) (isD G) F (vs.map some) H args (WofE E) Q (m args)
def spF (G : Gm) (T : Tb) (m : Fm) : Sp := fun vs H Q E => ∃ (F : Addr → Prop) (args : Env'), Sta G (tb0 T) F (vs.map some) H args ∧ RstF G (tb0 T) F (vs.map some) H args (WofE E) Q (m args)
/-- the slots that stay: the parameters that are written to -/
def pinsOf : Nat → Env' → List V → List (Nat × Addr)
  | i, .o _ :: as, .ref a :: vs => (i, a) :: pinsOf (i + 1) as vs
  | i, _ :: as, _ :: vs => pinsOf (i + 1) as vs
  | _, _, _ => []
theorem pins_in {p : Nat × Addr} : ∀ {i : Nat} {as : Env'} {vs : List V}, p ∈ pinsOf i as vs → i ≤ p.1 ∧ ∃ d, as[p.1 - i]? = some (.o d) ∧ vs[p.1 - i]? = some (.ref p.2)
  | i, [], vs, h => by unfold pinsOf at h; cases h
  | i, s :: as, [], h => by
    cases s <;> simp [pinsOf] at h
  | i, s :: as, v :: vs, h => by
    have tl : p ∈ pinsOf (i + 1) as vs → i ≤ p.1 ∧ ∃ d, (s :: as)[p.1 - i]? = some (.o d) ∧ (v :: vs)[p.1 - i]? = some (.ref p.2) := fun h => by
      obtain ⟨h1, d, h2, h3⟩ := pins_in h
      have e : p.1 - i = (p.1 - (i + 1)) + 1 := by omega
      exact ⟨by omega, d, by rw [e, List.getElem?_cons_succ]; exact h2, by rw [e, List.getElem?_cons_succ]; exact h3⟩
    unfold pinsOf at h
    split at h
    · rename_i e1 e2
      cases e1
      cases e2
      rcases List.mem_cons.mp h with h | h
      · rw [h]
        exact ⟨Nat.le_refl _, by simp⟩
      · exact tl h
    · rename_i e1 e2
      cases e1
      cases e2
      exact tl h
    · cases h
theorem pins_all {d : D} {a : Addr} : ∀ {i j : Nat} {as : Env'} {vs : List V}, as[j]? = some (.o d) → vs[j]? = some (.ref a) → (i + j, a) ∈ pinsOf i as vs
  | i, j, [], vs, h, _ => by simp at h
  | i, j, s :: as, [], _, h => by simp at h
  | i, 0, s :: as, v :: vs, h, h2 => by
    simp at h h2
    subst h h2
    unfold pinsOf
    exact List.mem_cons_self
  | i, j + 1, s :: as, v :: vs, h, h2 => by
    have q := pins_all (i := i + 1) (j := j) (as := as) (vs := vs) (by simpa using h) (by simpa using h2)
    have e : i + 1 + j = i + (j + 1) := by omega
    rw [e] at q
    unfold pinsOf
    split
    · rename_i e1 e2
      cases e1
      cases e2
      exact List.mem_cons_of_mem _ q
    · rename_i e1 e2
      cases e1
      cases e2
      exact q
    · rename_i e1 e2 z
      exact (z _ _ _ _ rfl rfl).elim
theorem ownS_some {s : Slot} (h : ownS s = true) : ∃ d, s = .o d := by
  cases s with
  | o d => exact ⟨d, rfl⟩
  | v d => cases h
  | no => cases h
theorem outs_len : ∀ {as e : Env'}, outOk as e = true → (outs as e).length = as.length
  | [], e, _ => by unfold outs; rfl
  | s :: as, [], h => by
    cases s <;> simp [outOk] at h
  | s :: as, x :: e, h => by
    cases s with
    | o d =>
      simp only [outOk, Bool.and_eq_true] at h
      simp only [outs, List.length_cons, outs_len h.2]
    | v d =>
      simp only [outOk] at h
      simp only [outs, List.length_cons, outs_len h]
    | no =>
      simp only [outOk] at h
      simp only [outs, List.length_cons, outs_len h]
theorem outs_get {s : Slot} : ∀ {as e : Env'} {i : Nat}, (outs as e)[i]? = some s → s = .no ∨ (∃ d, as[i]? = some (.o d)) ∧ e[i]? = some s
  | [], e, i, h => by unfold outs at h; simp at h
  | a :: as, [], i, h => by
    cases a <;> simp [outs] at h
  | a :: as, x :: e, 0, h => by
    cases a with
    | o d =>
      simp only [outs, List.getElem?_cons_zero, Option.some.injEq] at h
      exact .inr ⟨⟨d, rfl⟩, by simp [h]⟩
    | v d =>
      simp only [outs, List.getElem?_cons_zero, Option.some.injEq] at h
      exact .inl h.symm
    | no =>
      simp only [outs, List.getElem?_cons_zero, Option.some.injEq] at h
      exact .inl h.symm
  | a :: as, x :: e, i + 1, h => by
    have h' : (outs as e)[i]? = some s := by
      cases a <;> simpa [outs] using h
    rcases outs_get h' with q | ⟨⟨d, q1⟩, q2⟩
    · exact .inl q
    · exact .inr ⟨⟨d, by simpa using q1⟩, by simpa using q2⟩
theorem outOk_get {d : D} : ∀ {as e : Env'} {i : Nat}, outOk as e = true → as[i]? = some (.o d) → ∃ d', e[i]? = some (.o d') ∧ (outs as e)[i]? = some (.o d')
  | [], e, i, _, h => by simp at h
  | a :: as, [], i, h, _ => by
    cases a <;> simp [outOk] at h
  | a :: as, x :: e, 0, h, k => by
    simp at k
    subst k
    simp only [outOk, Bool.and_eq_true] at h
    obtain ⟨d', q⟩ := ownS_some h.1
    exact ⟨d', by simp [q], by simp [outs, q]⟩
  | a :: as, x :: e, i + 1, h, k => by
    have h' : outOk as e = true := by
      cases a <;> simp only [outOk, Bool.and_eq_true] at h <;> first | exact h.2 | exact h
    obtain ⟨d', q1, q2⟩ := outOk_get (i := i) h' (by simpa using k)
    refine ⟨d', by simpa using q1, ?_⟩
    cases a <;> simpa [outs] using q2

section
variable {G : Gm} {T : Tb} {F F' : Addr → Prop} {σ' : St} {H H' : Hp} {args e : Env'} {N : List Str} {vs : List V}
theorem start_get (hl : vs.length ≤ N.length) {i : Nat} {x : V} (h : vs[i]? = some x) : (L2.start N vs)[i]? = some (some x) := by
  have hi := (List.getElem?_eq_some_iff.mp h).1
  unfold L2.start
  rw [List.getElem?_append_left (by simpa using hi), List.getElem?_map, h]
  rfl
theorem env0_get {n i : Nat} {s : Slot} (h : (args ++ List.replicate n Slot.no)[i]? = some s) : args[i]? = some s ∨ s = .no := by
  by_cases hi : i < args.length
  · rw [List.getElem?_append_left hi] at h
    exact .inl h
  · rw [List.getElem?_append_right (Nat.le_of_not_lt hi), List.getElem?_replicate] at h
    split at h
    · exact .inr (Option.some.inj h).symm
    · cases h
theorem map_get {i : Nat} {x : Option V} (h : (vs.map some)[i]? = some x) : ∃ v, vs[i]? = some v ∧ x = some v := by
  rw [List.getElem?_map] at h
  cases q : vs[i]? with
  | none => rw [q] at h; cases h
  | some v => rw [q] at h; exact ⟨v, rfl, (Option.some.inj h).symm⟩
theorem ow_start (hl : vs.length ≤ N.length) (ha : args.length = vs.length) {n : Nat} (a : Addr) : Ow (L2.start N vs) (args ++ List.replicate n .no) a ↔ Ow (vs.map some) args a := by
  refine ⟨fun ⟨i, d, h1, h2⟩ => ?_, fun ⟨i, d, h1, h2⟩ => ?_⟩
  · rcases env0_get h1 with h1 | h1
    · refine ⟨i, d, h1, ?_⟩
      have hi : i < vs.length := by rw [← ha]; exact (List.getElem?_eq_some_iff.mp h1).1
      unfold L2.start at h2
      rw [List.getElem?_append_left (by simpa using hi)] at h2
      exact h2
    · cases h1
  · have hi := (List.getElem?_eq_some_iff.mp h1).1
    refine ⟨i, d, by rw [List.getElem?_append_left hi]; exact h1, ?_⟩
    unfold L2.start
    rw [List.getElem?_append_left (by simpa [← ha] using hi)]
    exact h2
/-- the body's L2.start -/
theorem sta_start (S : Sta G (tb0 T) F (vs.map some) H args) (hl : vs.length ≤ N.length) : Sta G (tbP T (pinsOf 0 args vs)) F (L2.start N vs) H (args ++ List.replicate (N.length - args.length) .no) := by
  have ha : args.length = vs.length := by rw [S.len, List.length_map]
  have hw := fun a => ow_start (N := N) (n := N.length - args.length) hl ha a
  refine ⟨?_, fun i s hs => ?_, fun i j d d' a h1 h2 h3 h4 => ?_, fun a z => S.fr a ((hw a).mp z), S.fd, ⟨S.tab.1, fun p hp => ?_⟩, .nil rfl, Le.nil⟩
  · unfold L2.start
    rw [List.length_append, List.length_append, List.length_replicate, List.length_replicate, List.length_map, ha]
  · rw [hid_eq (hd_iff hw)]
    by_cases hi : i < args.length
    · rw [List.getElem?_append_left hi] at hs
      obtain ⟨x, e1, e2⟩ := S.sl i s hs
      obtain ⟨v, e3, e4⟩ := map_get e1
      exact ⟨x, by rw [e4]; exact start_get hl e3, e2⟩
    · have hlen := (List.getElem?_eq_some_iff.mp hs).1
      rcases env0_get hs with q | q
      · exact absurd (List.getElem?_eq_some_iff.mp q).1 hi
      · subst q
        rw [List.length_append, List.length_replicate] at hlen
        refine ⟨none, ?_, trivial⟩
        unfold L2.start
        rw [List.getElem?_append_right (by rw [List.length_map]; omega), List.getElem?_replicate, if_pos (by rw [List.length_map]; omega)]
  · have key : ∀ {i : Nat} {d : D} {a : Addr}, (args ++ List.replicate (N.length - args.length) Slot.no)[i]? = some (.o d) → (L2.start N vs)[i]? = some (some (.ref a)) → args[i]? = some (.o d) ∧ (vs.map some)[i]? = some (some (.ref a)) := fun {i d a} q1 q2 => by
      rcases env0_get q1 with q | q
      · have hi : i < vs.length := by rw [← ha]; exact (List.getElem?_eq_some_iff.mp q).1
        unfold L2.start at q2
        rw [List.getElem?_append_left (by simpa using hi)] at q2
        exact ⟨q, q2⟩
      · cases q
    obtain ⟨k1, k3⟩ := key h1 h3
    obtain ⟨k2, k4⟩ := key h2 h4
    exact S.dis i j d d' a k1 k2 k3 k4
  · obtain ⟨_, d, h2, h3⟩ := pins_in hp
    exact start_get hl h3
/-- the body's end -/
theorem sta_end (S : Sta G (tb0 T) F (vs.map some) H args) (hl : vs.length ≤ N.length) (s : Stp (L2.start N vs) H (args ++ List.replicate (N.length - args.length) .no) σ' H' e) (S' : Sta G (tbP T (pinsOf 0 args vs)) F' σ' H' e) (hF : ∀ a, F' a → F a ∨ H a = none) (ok : outOk args e = true) :
    Stp (vs.map some) H args (vs.map some) H' (outs args e) ∧ Sta G (tb0 T) F' (vs.map some) H' (outs args e) ∧ Le (hid H' (Hd F' σ' e)) (hid H' (Hd F' (vs.map some) (outs args e))) ∧ ∀ a, Ow (vs.map some) args a → Ow σ' e a := by
  have ha : args.length = vs.length := by rw [S.len, List.length_map]
  have hw := fun a => ow_start (N := N) (n := N.length - args.length) hl ha a
  have at' : ∀ {i : Nat} {d : D} {a : Addr}, args[i]? = some (.o d) → vs[i]? = some (.ref a) → σ'[i]? = some (some (.ref a)) := fun {i d a} h1 h2 => by
    have q := S'.tab.2 (0 + i, a) (pins_all h1 h2)
    simpa using q
  have sub : ∀ a, Ow (vs.map some) (outs args e) a → Ow σ' e a := fun a ⟨i, d, h1, h2⟩ => by
    rcases outs_get h1 with q | ⟨⟨d', q1⟩, q2⟩
    · cases q
    · obtain ⟨v, e1, e2⟩ := map_get h2
      cases e2
      exact ⟨i, d, q2, at' q1 e1⟩
  have le : Le (hid H' (Hd F' σ' e)) (hid H' (Hd F' (vs.map some) (outs args e))) := Le.hid fun b o e n k => ⟨fun z => k (by
    rcases z with z | z
    · exact .inl (sub b z)
    · exact .inr z), e⟩
  refine ⟨⟨fun a o e1 n k => s.keep a o e1 n fun z => k ((hw a).mp z), fun a q k z => s.own a q (fun y => k ((hw a).mp y)) (sub a z), s.dom⟩, ⟨by rw [outs_len ok, S.len], fun i sl hs => ?_, fun i j d d' a h1 h2 h3 h4 => ?_, fun a z => S'.fr a (sub a z), S'.fd, ⟨S'.tab.1, fun p hp => ?_⟩, .nil rfl, Le.nil⟩, le, fun a ⟨i, d, h1, h2⟩ => ?_⟩
  · have hi : i < args.length := by
      have := (List.getElem?_eq_some_iff.mp hs).1
      rw [outs_len ok] at this
      exact this
    have hv : i < vs.length := by rw [← ha]; exact hi
    rcases outs_get hs with q | ⟨⟨d', q1⟩, q2⟩
    · subst q
      exact ⟨some vs[i], by simp [hv], trivial⟩
    · obtain ⟨x, e1, e2⟩ := S.sl i _ q1
      obtain ⟨a, rfl, _⟩ := e2
      obtain ⟨v, e3, e4⟩ := map_get e1
      cases e4
      obtain ⟨x', e5, e6⟩ := S'.sl i _ q2
      rw [at' q1 e3] at e5
      cases e5
      refine ⟨_, e1, e6.mono le fun _ _ _ _ => rfl⟩
  · have key : ∀ {i : Nat} {d : D} {a : Addr}, (outs args e)[i]? = some (.o d) → (vs.map some)[i]? = some (some (.ref a)) → e[i]? = some (.o d) ∧ σ'[i]? = some (some (.ref a)) := fun {i d a} q1 q2 => by
      rcases outs_get q1 with q | ⟨⟨d', q1⟩, q3⟩
      · cases q
      · obtain ⟨v, e1, e2⟩ := map_get q2
        cases e2
        exact ⟨q3, at' q1 e1⟩
    obtain ⟨k1, k3⟩ := key h1 h3
    obtain ⟨k2, k4⟩ := key h2 h4
    exact S'.dis i j d d' a k1 k2 k3 k4
  · cases hp
  · obtain ⟨d', q1, q2⟩ := outOk_get ok h1
    obtain ⟨v, e1, e2⟩ := map_get h2
    cases e2
    exact ⟨i, d', q1, at' h1 e1⟩
end
end Rf

namespace Rf
open PySem L2 LamX

/-- what a frame must give -/
structure Fra (X : Cx) (k : Nat) (W : WX) : Prop where
  C : Ctx X k
  tk : Takes X W
  po : PassesOwn (model X.prog X.w) X.A X.env X.xe
def PinMd (T : Tb) (md : List Bool) : Prop := ∀ p ∈ T.pins, md[p.1]? = some true
theorem fr_of {T : Tb} {md : List Bool} (h : PinMd T md) {i : Nat} (hi : md.getD i false = false := by rfl) : Fr T i := fun p hp e => by
  have q := h p hp
  rw [e] at q
  rw [List.getD_eq_getElem?_getD, q] at hi
  cases hi
theorem frs_of {T : Tb} {md : List Bool} (h : PinMd T md) {vs : List Nat} (hi : vs.all (fun i => !md.getD i false) = true := by rfl) : ∀ i ∈ vs, Fr T i := fun i hv => fr_of h (by simpa using List.all_eq_true.mp hi i hv)
abbrev Bcx (P : Program) (w : World) (K : PySem.W.Frag) (mg : Str → Option Value) (base : Heap) (N : List Str) (qual : Str) (st : Stmt) (f : Addr) (cdv : Value) (A : Around) (outer : List Env) (s : Shared) (H : Hp) (E : XK) : Cx :=
  cxOf (L2.CX P w) P w K mg base N qual (defScope st) f cdv A outer s H E
section
variable {P : Program} {w : World} {K : PySem.W.Frag} {mg : Str → Option Value} {base : Heap} {x qual : Str} {st : Stmt} {f : Addr} {fd : FuncData} {N ps : List Str} {k : Nat} {md : List Bool} {b : Env' → So} {T : Tb}
theorem fra_of {cdv : Value} {A : Around} {outer : List Env} {s : Shared} {H : Hp} {E : XK} (r : Room k (A.deeper (PyProof.Rows.envOfC qual (defScope st) s.heap.objs.size f cdv))) (g : A.guards = some []) (nd : N.Nodup) : Fra (Bcx P w K mg base N qual st f cdv A outer s H E) k (WofE E) :=
  ⟨⟨r, g, rfl, nd⟩, takes_of rfl rfl rfl rfl, passes_of rfl⟩
/-- the code object of a def of the text -/
def codeAt (K : PySem.W.Frag) (f : Addr) : Option Value := match K.lookup f with
  | some ⟨_, _, .func fd, _⟩ => some fd.code
  | _ => none
/-- a def's body, in each frame of it -/
def Body (P : Program) (w : World) (K : PySem.W.Frag) (mg : Str → Option Value) (base : Heap) (k : Nat) (qual : Str) (st : Stmt) (f : Addr) (N : List Str) (md : List Bool) (T : Tb) (b : Env' → So) : Prop :=
  ∀ (cdv : Value) (A : Around) (outer : List Env) (s : Shared) (H : Hp) (E : XK) (pins : List (Nat × Addr)), codeAt K f = some cdv → Fra (Bcx P w K mg base N qual st f cdv A outer s H E) k (WofE E) → PinMd (tbP T pins) md →
    SB (Bcx P w K mg base N qual st f cdv A outer s H E) (tbP T pins) (WofE E) (defBody st) b
theorem pin_md {args : Env'} {vs : List V} (h : args.map ownS = md) (T : Tb) : PinMd (tbP T (pinsOf 0 args vs)) md := fun p hp => by
  obtain ⟨_, d, h2, _⟩ := pins_in hp
  rw [← h, List.getElem?_map]
  rw [show p.1 - 0 = p.1 from rfl] at h2
  rw [h2]
  rfl
theorem outR_ok {args e a : Env'} {d d' : D} (h : outR args e d = .ok d' a) : outOk args e = true ∧ d' = d ∧ a = outs args e := by
  unfold outR at h
  split at h
  · rename_i q
    cases h
    exact ⟨q, rfl, rfl⟩
  · cases h
theorem fn_ends {vs : List V} {H : Hp} {Q : VK} {E : XK} {args : Env'} {F : Addr → Prop} (S : Sta ⟨K, mg⟩ (tb0 T) F (vs.map some) H args) (hl : vs.length ≤ N.length)
    (h : Rst ⟨K, mg⟩ (tb0 T) (isD ⟨K, mg⟩) F (vs.map some) H args (WofE E) Q (runM md N.length b args)) :
    args.map ownS = md ∧ RstS ⟨K, mg⟩ (tbP T (pinsOf 0 args vs)) F (L2.start N vs) H (args ++ List.replicate (N.length - args.length) .no) (WofE E) { nx := fun _ H' => Q .non H', rt := Q } (b (args ++ List.replicate (N.length - args.length) .no)) := by
  have S0 := sta_start S hl
  have hwS := fun a => ow_start (N := N) (n := N.length - args.length) hl (show args.length = vs.length by rw [S.len, List.length_map]) a
  unfold runM at h
  split at h
  · rename_i hm
    refine ⟨hm.1, ?_⟩
    cases hb : b (args ++ List.replicate (N.length - args.length) .no) with
    | nx e =>
      rw [hb] at h
      simp only [outR] at h
      split at h
      · rename_i ok
        intro σ' H' s S'
        obtain ⟨s1, S1, le, _⟩ := sta_end S hl s S' (fun _ z => .inl z) ok
        exact h .non H' s1 S1 rfl
      · exact h.elim
    | ret d e =>
      rw [hb] at h
      simp only [outR] at h
      split at h
      · rename_i ok
        intro v σ' H' s S' i
        obtain ⟨s1, S1, le, _⟩ := sta_end S hl s S' (fun _ z => .inl z) ok
        exact h v H' s1 S1 (Is.mono le _ _ i)
      · exact h.elim
    | retF d e =>
      rw [hb] at h
      simp only [outR] at h
      split at h
      · rename_i ok
        intro a σ' H' s S' o n
        have nF : ¬ F a := fun z => by
          rcases n with n | n
          · exact S0.fn a z n
          · exact S0.fr a n z
        obtain ⟨s1, S1, le, _⟩ := sta_end S hl s S'.open (fun _ z => .inl z) ok
        exact h (.ref a) H' s1 S1 (Is.mono le _ _ (OIs.open (H0 := H) o S' nF))
      · exact h.elim
    | exc c p e =>
      rw [hb] at h
      simp only at h
      split at h
      · rename_i ok
        intro cls dd σ' H' s S' i
        obtain ⟨s1, S1, le, _⟩ := sta_end S hl s S' (fun _ z => .inl z) ok
        refine h cls dd H' s1 S1 ?_
        obtain ⟨C, e1, e2, e3⟩ := i
        refine ⟨C, e1, e2, ?_⟩
        split at e3
        · exact e3
        · rename_i fld d
          obtain ⟨x, v, h1, h2, h3⟩ := e3
          exact ⟨x, v, h1, h2, Is.mono le _ _ h3⟩
      · exact h.elim
    | bk e => rw [hb] at h; exact h.elim
    | ct e => rw [hb] at h; exact h.elim
    | stk => rw [hb] at h; exact h.elim
  · exact h.elim
theorem fn_endsF {vs : List V} {H : Hp} {Q : VK} {E : XK} {args : Env'} {F : Addr → Prop} (S : Sta ⟨K, mg⟩ (tb0 T) F (vs.map some) H args) (hl : vs.length ≤ N.length)
    (h : RstF ⟨K, mg⟩ (tb0 T) F (vs.map some) H args (WofE E) Q (runF md N.length b args)) :
    args.map ownS = md ∧ RstS ⟨K, mg⟩ (tbP T (pinsOf 0 args vs)) F (L2.start N vs) H (args ++ List.replicate (N.length - args.length) .no) (WofE E) { nx := fun _ H' => Q .non H', rt := Q } (b (args ++ List.replicate (N.length - args.length) .no)) := by
  have S0 := sta_start S hl
  have hwS := fun a => ow_start (N := N) (n := N.length - args.length) hl (show args.length = vs.length by rw [S.len, List.length_map]) a
  unfold runF at h
  split at h
  · rename_i hm
    refine ⟨hm.1, ?_⟩
    cases hb : b (args ++ List.replicate (N.length - args.length) .no) with
    | retF d e =>
      rw [hb] at h
      simp only [outR] at h
      split at h
      · rename_i ok
        intro a σ' H' s S' o n
        have key : Ow (vs.map some) args a → Ow σ' e a := fun ⟨i, d, h1, h2⟩ => by
          obtain ⟨d', q1, q2⟩ := outOk_get ok h1
          obtain ⟨v, e1, e2⟩ := map_get h2
          cases e2
          have q := S'.tab.2 (0 + i, a) (pins_all h1 e1)
          exact ⟨i, d', q1, by simpa using q⟩
        have nw : H a = none := by
          rcases n with n | n
          · exact n
          · exact absurd (.inr rfl) (S'.fr a (key ((hwS a).mp n)))
        obtain ⟨s1, S1, le, _⟩ := sta_end S hl s S' (fun b z => by
          rcases z with z | z
          · exact .inl z
          · exact .inr (by rw [z]; exact nw)) ok
        exact h a H' s1 S1 (o.mono le rfl) nw
      · exact h.elim
    | exc c p e =>
      rw [hb] at h
      simp only at h
      split at h
      · rename_i ok
        intro cls dd σ' H' s S' i
        obtain ⟨s1, S1, le, _⟩ := sta_end S hl s S' (fun _ z => .inl z) ok
        refine h cls dd H' s1 S1 ?_
        obtain ⟨C, e1, e2, e3⟩ := i
        refine ⟨C, e1, e2, ?_⟩
        split at e3
        · exact e3
        · rename_i fld d
          obtain ⟨x, v, h1, h2, h3⟩ := e3
          exact ⟨x, v, h1, h2, Is.mono le _ _ h3⟩
      · exact h.elim
    | nx e => rw [hb] at h; exact h.elim
    | ret d e => rw [hb] at h; exact h.elim
    | bk e => rw [hb] at h; exact h.elim
    | ct e => rw [hb] at h; exact h.elim
    | stk => rw [hb] at h; exact h.elim
  · exact h.elim
theorem sp_len {m : Fm} (hm : ∀ args, args.map ownS = md ∨ m args = .stk) (hmd : md.length = ps.length) : ∀ vs H Q E, spM ⟨K, mg⟩ T m vs H Q E → vs.length = ps.length := fun vs H Q E ⟨F, args, S, h⟩ => by
  rcases hm args with e | e
  · have l := S.len
    rw [List.length_map] at l
    rw [← l, ← hmd, ← e, List.length_map]
  · rw [e] at h
    exact h.elim
theorem spF_len {m : Fm} (hm : ∀ args, args.map ownS = md ∨ m args = .stk) (hmd : md.length = ps.length) : ∀ vs H Q E, spF ⟨K, mg⟩ T m vs H Q E → vs.length = ps.length := fun vs H Q E ⟨F, args, S, h⟩ => by
  rcases hm args with e | e
  · have l := S.len
    rw [List.length_map] at l
    rw [← l, ← hmd, ← e, List.length_map]
  · rw [e] at h
    exact h.elim
theorem runM_md (args : Env') : args.map ownS = md ∨ runM md N.length b args = .stk := by
  by_cases h : args.map ownS = md
  · exact .inl h
  · right
    unfold runM
    rw [if_neg fun z => h z.1]
theorem runF_md (args : Env') : args.map ownS = md ∨ runF md N.length b args = .stk := by
  by_cases h : args.map ownS = md
  · exact .inl h
  · right
    unfold runF
    rw [if_neg fun z => h z.1]
theorem pre_le (S : FnScope N ps (defScope st)) : ps.length ≤ N.length := by
  have := congrArg List.length S.pre
  rw [List.length_take] at this
  omega
/-- a def by its body -/
theorem fnG_of (Fu : L2.Fun K x qual st f fd) (S : FnScope N ps (defScope st)) (hmd : md.length = ps.length) (hb : Body P w K mg base k qual st f N md T b) : FnG P w K mg base (k + 1) f fd ps (spM ⟨K, mg⟩ T (runM md N.length b)) := by
  have hlen := sp_len (K := K) (mg := mg) (T := T) (ps := ps) (runM_md (md := md) (N := N) (b := b)) hmd
  refine ⟨hlen, fun A outer s H args us vs Q E hr hg e0 hbd r hsp => ?_⟩
  obtain ⟨oc, od, kV, doc, pm, an, cdv, ct, osl, rfl, lk, hcd⟩ := Fu.ex
  have hl := hlen _ _ _ _ hsp
  obtain ⟨F, as, S1, h1⟩ := hsp
  obtain ⟨hm, h2⟩ := fn_ends (N := N) S1 (by rw [hl]; exact pre_le S) h1
  exact run_ofS lk hcd S hr e0 hbd r hl fun hr' => ⟨_, hb cdv A outer s H E _ (by unfold codeAt; rw [lk] <;> rfl) (fra_of hr' hg S.nd) (pin_md hm _), F, _, sta_start S1 (by rw [hl]; exact pre_le S), h2⟩
theorem fnF_of (Fu : L2.Fun K x qual st f fd) (S : FnScope N ps (defScope st)) (hmd : md.length = ps.length) (hb : Body P w K mg base k qual st f N md T b) : FnG P w K mg base (k + 1) f fd ps (spF ⟨K, mg⟩ T (runF md N.length b)) := by
  have hlen := spF_len (K := K) (mg := mg) (T := T) (ps := ps) (runF_md (md := md) (N := N) (b := b)) hmd
  refine ⟨hlen, fun A outer s H args us vs Q E hr hg e0 hbd r hsp => ?_⟩
  obtain ⟨oc, od, kV, doc, pm, an, cdv, ct, osl, rfl, lk, hcd⟩ := Fu.ex
  have hl := hlen _ _ _ _ hsp
  obtain ⟨F, as, S1, h1⟩ := hsp
  obtain ⟨hm, h2⟩ := fn_endsF (N := N) S1 (by rw [hl]; exact pre_le S) h1
  exact run_ofS lk hcd S hr e0 hbd r hl fun hr' => ⟨_, hb cdv A outer s H E _ (by unfold codeAt; rw [lk] <;> rfl) (fra_of hr' hg S.nd) (pin_md hm _), F, _, sta_start S1 (by rw [hl]; exact pre_le S), h2⟩
theorem FnG.mono {sp : Sp} {j : Nat} (Fn : FnG P w K mg base j f fd ps sp) (h : j ≤ k) : FnG P w K mg base k f fd ps sp := ⟨Fn.len, fun A outer s H args us vs Q E r => Fn.go A outer s H args us vs Q E (r.mono h)⟩
end
end Rf

namespace Rf
open PySem L2 LamX

/-! ## arguments of own defs: shared data, or a slot's own list that the def may write to -/
inductive Arg where
  | v (d : D) | o (i : Nat)
def ArL (G : Gm) (σ : St) (Hs : Hp) : List Arg → List V → Prop
  | [], vs => vs = []
  | .v d :: as, vs => ∃ v r, vs = v :: r ∧ Is G Hs d v ∧ ArL G σ Hs as r
  | .o i :: as, vs => ∃ a r, vs = .ref a :: r ∧ σ[i]? = some (some (.ref a)) ∧ ArL G σ Hs as r
def rdA (G : Gm) (T : Tb) (f : Env' → Ro (List Arg)) (W : WX) : TA := fun σ H Q => rd G T (fun Hs as vs => ArL G σ Hs as vs) f W σ H Q
def SR (X : Cx) (T : Tb) (W : WX) (es : List Expr) (f : Env' → Ro (List Arg)) : Prop := PA X es (rdA (gm X) T f W)
def rNil : Env' → Ro (List Arg) := fun env => .ok [] env
def rV (f : Env' → Ro D) (r : Env' → Ro (List Arg)) : Env' → Ro (List Arg) := fun env => (f env).bind fun d e => (r e).bind fun as e => .ok (.v d :: as) e
def rO (i : Nat) (r : Env' → Ro (List Arg)) : Env' → Ro (List Arg) := fun env => if ownS (env.getD i .no) then (r env).bind fun as e => .ok (.o i :: as) e else .stk
theorem getD_own {e : Env'} {i : Nat} (h : ownS (e.getD i .no) = true) : ∃ d, e[i]? = some (.o d) := by
  obtain ⟨d, q⟩ := ownS_some h
  rw [List.getD_eq_getElem?_getD] at q
  cases z : e[i]? with
  | none => rw [z] at q; cases q
  | some s =>
    rw [z] at q
    have q : s = .o d := q
    exact ⟨d, by rw [q]⟩
section
variable {X : Cx} {T : Tb} {W : WX} {k : Nat} {a : Expr} {es : List Expr} {f : Env' → Ro D} {r : Env' → Ro (List Arg)} {x : Str} {p pos : Pos}
theorem sr_nil : SR X T W [] rNil := PA.weak pa_nil fun σ H Q h => by
  obtain ⟨F, env, S, h⟩ := h
  exact h [] H .refl S rfl
theorem sr_v (ha : SE X T W a f) (hr : SR X T W es r) (hs : starEach (a :: es) X.env = (false, eval a X.env) :: starEach es X.env := by rfl) : SR X T W (a :: es) (rV f r) :=
  PA.weak (pa_cons ha hr hs) fun σ H Q h => rd_bind (R := isD (gm X)) h fun F env d v H1 S1 i1 h1 => ⟨F, env, S1, Rst.bind S1 h1 fun ds vs H2 env2 s2 S2 i2 h2 => h2 (v :: vs) H2 .refl S2 ⟨v, vs, rfl, Is.mono (s2.le F) _ _ i1, i2⟩⟩
theorem sr_o (i : Nat) (hr : SR X T W es r) (hN : X.N[i]? = some x := by rfl) (hv : Vis X.env.scope x := by first | exact Or.inl rfl | exact Or.inr (Or.inl rfl) | exact Or.inr (Or.inr rfl)) (hd : (x == ("__debug__" : Str)) = false := by decide)
    (hcd : (x == ("__classdict__" : Str)) = false := by decide) (hs : starEach (.Name x p :: es) X.env = (false, eval (.Name x p) X.env) :: starEach es X.env := by rfl) : SR X T W (.Name x p :: es) (rO i r) :=
  PA.weak (pa_cons (pe_var hN hv hd hcd) hr hs) fun σ H Q h => by
    obtain ⟨F, env, S, h⟩ := h
    unfold rO at h
    split at h
    · rename_i o
      obtain ⟨d, e⟩ := getD_own o
      obtain ⟨a', ea, oa, wa⟩ := S.own e
      exact ⟨.ref a', ea, F, env, S, Rst.bind S h fun ds vs H2 env2 s2 S2 i2 h2 => h2 (.ref a' :: vs) H2 .refl S2 ⟨a', vs, rfl, ea, i2⟩⟩
    · exact h.elim
end
/-! ### the call -/
def arS (e : Env') : Arg → Slot
  | .v d => .v d
  | .o i => e.getD i .no
def arIx : Arg → Option Nat
  | .v _ => none
  | .o i => some i
def putO : List Arg → Env' → Env' → Env'
  | .o i :: as, s :: os, e => putO as os (e.set i s)
  | .v _ :: as, _ :: os, e => putO as os e
  | _, _, e => e
/-- each a slot of its own -/
def okAr (e : Env') : List Arg → Bool
  | [] => true
  | .v _ :: as => okAr e as
  | .o i :: as => ownS (e.getD i .no) && !(as.any fun a => match a with | .o j => j == i | _ => false) && okAr e as
def callM (m : Fm) (as : List Arg) (e : Env') : Ro D := if okAr e as = true then
    match m (as.map (arS e)) with
    | .ok d os => if outOk (as.map (arS e)) os && decide (os.length = as.length) then .ok d (putO as os e) else .stk
    | .exc c p os => if outOk (as.map (arS e)) os && decide (os.length = as.length) then .exc c p (putO as os e) else .stk
    | .stk => .stk
  else .stk
def eCallD (m : Fm) (r : Env' → Ro (List Arg)) : Env' → Ro D := fun env => (r env).bind fun as e => callM m as e
theorem putO_len : ∀ (as : List Arg) (os e : Env'), (putO as os e).length = e.length
  | [], os, e => by unfold putO; rfl
  | .o i :: as, [], e => by unfold putO; rfl
  | .v d :: as, [], e => by unfold putO; rfl
  | .o i :: as, s :: os, e => by unfold putO; rw [putO_len as os, List.length_set]
  | .v d :: as, s :: os, e => by unfold putO; rw [putO_len as os]
theorem putO_out {j : Nat} : ∀ {as : List Arg} {os e : Env'}, (∀ n : Nat, as[n]? ≠ some (Arg.o j)) → (putO as os e)[j]? = e[j]?
  | [], os, e, _ => by unfold putO; rfl
  | .o i :: as, [], e, _ => by unfold putO; rfl
  | .v d :: as, [], e, _ => by unfold putO; rfl
  | .o i :: as, s :: os, e, h => by
    unfold putO
    rw [putO_out (as := as) fun n z => h (n + 1) (by simpa using z), List.getElem?_set_ne]
    intro z
    exact h 0 (by simp [z])
  | .v d :: as, s :: os, e, h => by
    unfold putO
    rw [putO_out (as := as) fun n z => h (n + 1) (by simpa using z)]
theorem okAr_at {e : Env'} {j : Nat} : ∀ {as : List Arg} {n : Nat}, okAr e as = true → as[n]? = some (.o j) → ∃ d, e[j]? = some (.o d)
  | [], n, _, h => by simp at h
  | .v d :: as, 0, _, h => by simp at h
  | .v d :: as, n + 1, k, h => okAr_at (as := as) (n := n) k (by simpa using h)
  | .o i :: as, 0, k, h => by
    simp at h
    subst h
    simp only [okAr, Bool.and_eq_true] at k
    exact getD_own k.1.1
  | .o i :: as, n + 1, k, h => by
    simp only [okAr, Bool.and_eq_true] at k
    exact okAr_at (as := as) (n := n) k.2 (by simpa using h)
theorem okAr_ne {e : Env'} {i j : Nat} {as : List Arg} {n : Nat} (k : okAr e (.o i :: as) = true) (h : as[n]? = some (.o j)) : j ≠ i := fun z => by
  subst z
  simp only [okAr, Bool.and_eq_true, Bool.not_eq_true', List.any_eq_false] at k
  have q := k.1.2 _ (List.mem_of_getElem? h)
  simp at q
theorem okAr_inj {e : Env'} {j : Nat} : ∀ {as : List Arg} {n m : Nat}, okAr e as = true → as[n]? = some (.o j) → as[m]? = some (.o j) → n = m
  | [], n, m, _, h, _ => by simp at h
  | a :: as, 0, 0, _, _, _ => rfl
  | a :: as, 0, m + 1, k, h, h2 => by
    simp at h
    subst h
    exact absurd rfl (okAr_ne k (by simpa using h2))
  | a :: as, n + 1, 0, k, h, h2 => by
    simp at h2
    subst h2
    exact absurd rfl (okAr_ne k (by simpa using h))
  | a :: as, n + 1, m + 1, k, h, h2 => by
    have k' : okAr e as = true := by
      cases a <;> simp only [okAr, Bool.and_eq_true] at k <;> first | exact k.2 | exact k
    rw [okAr_inj (as := as) (n := n) (m := m) k' (by simpa using h) (by simpa using h2)]
theorem putO_in {j : Nat} {s : Slot} {e0 : Env'} : ∀ {as : List Arg} {os e : Env'} {n : Nat}, okAr e0 as = true → as[n]? = some (.o j) → os[n]? = some s → j < e.length → (putO as os e)[j]? = some s
  | [], os, e, n, _, h, _, _ => by simp at h
  | a :: as, [], e, n, _, _, h, _ => by simp at h
  | .v d :: as, x :: os, e, 0, _, h, _, _ => by simp at h
  | .v d :: as, x :: os, e, n + 1, k, h, h2, hl => by
    unfold putO
    exact putO_in (as := as) (n := n) k (by simpa using h) (by simpa using h2) hl
  | .o i :: as, x :: os, e, 0, k, h, h2, hl => by
    simp at h h2
    subst h h2
    unfold putO
    rw [putO_out (as := as) fun n z => okAr_ne k z rfl]
    exact List.getElem?_set_self hl
  | .o i :: as, x :: os, e, n + 1, k, h, h2, hl => by
    have k' : okAr e0 as = true := by
      simp only [okAr, Bool.and_eq_true] at k
      exact k.2
    unfold putO
    exact putO_in (as := as) (n := n) k' (by simpa using h) (by simpa using h2) (by rw [List.length_set]; exact hl)
section
variable {G : Gm} {T : Tb} {F : Addr → Prop} {σ : St} {H H' : Hp} {e os : Env'} {as : List Arg} {vs : List V}
theorem ArL.len {Hs : Hp} : ∀ {as : List Arg} {vs : List V}, ArL G σ Hs as vs → as.length = vs.length
  | [], vs, h => by
    obtain rfl : vs = [] := h
    rfl
  | .v d :: as, vs, h => by
    obtain ⟨v, r, rfl, _, m⟩ := h
    rw [List.length_cons, List.length_cons, ArL.len m]
  | .o i :: as, vs, h => by
    obtain ⟨v, r, rfl, _, m⟩ := h
    rw [List.length_cons, List.length_cons, ArL.len m]
theorem ArL.v {Hs : Hp} {d : D} : ∀ {as : List Arg} {vs : List V} {n : Nat}, ArL G σ Hs as vs → as[n]? = some (.v d) → ∃ v, vs[n]? = some v ∧ Is G Hs d v
  | [], vs, n, _, h => by simp at h
  | .v d' :: as, vs, 0, k, h => by
    simp at h
    subst h
    obtain ⟨v, r, rfl, i, m⟩ := k
    exact ⟨v, rfl, i⟩
  | .o i :: as, vs, 0, k, h => by simp at h
  | .v d' :: as, vs, n + 1, k, h => by
    obtain ⟨v, r, rfl, i, m⟩ := k
    simpa using ArL.v (n := n) m (by simpa using h)
  | .o i :: as, vs, n + 1, k, h => by
    obtain ⟨v, r, rfl, i, m⟩ := k
    simpa using ArL.v (n := n) m (by simpa using h)
theorem ArL.o {Hs : Hp} {j : Nat} : ∀ {as : List Arg} {vs : List V} {n : Nat}, ArL G σ Hs as vs → as[n]? = some (.o j) → ∃ a, vs[n]? = some (.ref a) ∧ σ[j]? = some (some (.ref a))
  | [], vs, n, _, h => by simp at h
  | .v d' :: as, vs, 0, k, h => by simp at h
  | .o i :: as, vs, 0, k, h => by
    simp at h
    subst h
    obtain ⟨v, r, rfl, i, m⟩ := k
    exact ⟨v, rfl, i⟩
  | .v d' :: as, vs, n + 1, k, h => by
    obtain ⟨v, r, rfl, i, m⟩ := k
    simpa using ArL.o (n := n) m (by simpa using h)
  | .o i :: as, vs, n + 1, k, h => by
    obtain ⟨v, r, rfl, i, m⟩ := k
    simpa using ArL.o (n := n) m (by simpa using h)
/-- what is hidden from the callee: all but what it is handed -/
def Hid2 (F : Addr → Prop) (σ : St) (e : Env') (vs : List V) (as : List Arg) : Addr → Prop := fun a => Hd F σ e a ∧ ¬ Ow (vs.map some) (as.map (arS e)) a
theorem ar_own {Hs : Hp} (m : ArL G σ Hs as vs) {a : Addr} {n : Nat} {d : D} (h : (as.map (arS e))[n]? = some (.o d)) (h2 : (vs.map some)[n]? = some (some (.ref a))) : ∃ j, as[n]? = some (.o j) ∧ e[j]? = some (.o d) ∧ σ[j]? = some (some (.ref a)) := by
  rw [List.getElem?_map] at h
  cases q : as[n]? with
  | none => rw [q] at h; cases h
  | some x =>
    rw [q] at h
    have h : arS e x = .o d := Option.some.inj h
    cases x with
    | v d' => cases h
    | o j =>
      obtain ⟨v, e1, e2⟩ := map_get h2
      cases e2
      obtain ⟨a', e3, e4⟩ := ArL.o m q
      rw [e1] at e3
      cases e3
      obtain ⟨d'', e5⟩ := getD_own (e := e) (i := j) (by rw [show e.getD j .no = .o d from h]; rfl)
      have h : e.getD j .no = .o d := h
      rw [List.getD_eq_getElem?_getD, e5] at h
      exact ⟨j, rfl, by rw [e5]; exact congrArg some h, e4⟩
theorem ow_args {Hs : Hp} (m : ArL G σ Hs as vs) {a : Addr} (h : Ow (vs.map some) (as.map (arS e)) a) : Ow σ e a := by
  obtain ⟨n, d, h1, h2⟩ := h
  obtain ⟨j, _, h3, h4⟩ := ar_own m h1 h2
  exact ⟨j, d, h3, h4⟩
theorem hd2 {Hs : Hp} (m : ArL G σ Hs as vs) (a : Addr) : Hd (Hid2 F σ e vs as) (vs.map some) (as.map (arS e)) a ↔ Hd F σ e a := by
  refine ⟨fun z => ?_, fun z => ?_⟩
  · rcases z with z | z
    · exact .inl (ow_args m z)
    · exact z.1
  · by_cases q : Ow (vs.map some) (as.map (arS e)) a
    · exact .inl q
    · exact .inr ⟨z, q⟩
theorem sta_args (S : Sta G T F σ H e) (m : ArL G σ (hid H (Hd F σ e)) as vs) (ok : okAr e as = true) : Sta G (tb0 T) (Hid2 F σ e vs as) (vs.map some) H (as.map (arS e)) := by
  have hm := fun a => hd2 (F := F) (e := e) m a
  refine ⟨by rw [List.length_map, List.length_map]; exact ArL.len m, fun i s hs => ?_, fun i j d d' a h1 h2 h3 h4 => ?_, fun a z k => k.2 z, fun a z => S.hd_mut z.1, ⟨S.tab.1, fun p hp => by cases hp⟩, .nil rfl, Le.nil⟩
  · rw [hid_eq hm]
    have hs0 := hs
    rw [List.getElem?_map] at hs
    cases q : as[i]? with
    | none => rw [q] at hs; cases hs
    | some x =>
      rw [q] at hs
      have hs : arS e x = s := Option.some.inj hs
      cases x with
      | v d =>
        obtain ⟨v, e1, e2⟩ := ArL.v m q
        rw [← hs]
        exact ⟨some v, by rw [List.getElem?_map, e1]; rfl, v, rfl, e2⟩
      | o j =>
        obtain ⟨a, e1, e2⟩ := ArL.o m q
        obtain ⟨d, e3⟩ := okAr_at ok q
        obtain ⟨x, e4, e5⟩ := S.sl j _ e3
        rw [e2] at e4
        cases e4
        have hs : e.getD j .no = s := hs
        rw [List.getD_eq_getElem?_getD, e3] at hs
        have hs : Slot.o d = s := hs
        rw [← hs]
        exact ⟨_, by rw [List.getElem?_map, e1]; rfl, e5⟩
  · obtain ⟨i', q1, q2, q3⟩ := ar_own m h1 h3
    obtain ⟨j', q4, q5, q6⟩ := ar_own m h2 h4
    have z := S.dis i' j' d d' a q2 q5 q3 q6
    subst z
    exact okAr_inj ok q1 q4
/-- behind the call -/
theorem sta_back {Fx : Addr → Prop} (S : Sta G T F σ H e) (m : ArL G σ (hid H (Hd F σ e)) as vs) (ok : okAr e as = true) (s : Stp (vs.map some) H (as.map (arS e)) (vs.map some) H' os) (S' : Sta G (tb0 T) (fun a => Hid2 F σ e vs as a ∨ Fx a) (vs.map some) H' os) (oo : outOk (as.map (arS e)) os = true) (ol : os.length = as.length)
    (hx : ∀ a, Fx a → H a = none) : Stp σ H e σ H' (putO as os e) ∧ Sta G T (fun a => F a ∨ Fx a) σ H' (putO as os e) ∧ ∀ a, Hd (fun a => F a ∨ Fx a) σ (putO as os e) a → Hd (fun a => Hid2 F σ e vs as a ∨ Fx a) (vs.map some) os a := by
  have back : ∀ {n j : Nat}, as[n]? = some (.o j) → ∃ d a, os[n]? = some (.o d) ∧ (putO as os e)[j]? = some (.o d) ∧ σ[j]? = some (some (.ref a)) ∧ (vs.map some)[n]? = some (some (.ref a)) := fun {n j} q => by
    obtain ⟨d0, e0⟩ := okAr_at ok q
    have e1 : (as.map (arS e))[n]? = some (.o d0) := by
      rw [List.getElem?_map, q]
      show some (e.getD j .no) = _
      rw [List.getD_eq_getElem?_getD, e0]
      rfl
    obtain ⟨d, e2, _⟩ := outOk_get oo e1
    obtain ⟨a, e3, e4⟩ := ArL.o m q
    exact ⟨d, a, e2, putO_in ok q e2 (List.getElem?_eq_some_iff.mp e0).1, e4, by rw [List.getElem?_map, e3]; rfl⟩
  have whose : ∀ (j : Nat) (sl : Slot), (putO as os e)[j]? = some sl → (∃ n : Nat, as[n]? = some (Arg.o j)) ∨ e[j]? = some sl := fun j sl h => by
    by_cases q : ∃ n : Nat, as[n]? = some (Arg.o j)
    · exact .inl q
    · rw [putO_out (j := j) fun (n : Nat) z => q ⟨n, z⟩] at h
      exact .inr h
  have ow1 : ∀ a, Ow σ (putO as os e) a → Ow σ e a := fun a ⟨j, d, h1, h2⟩ => by
    rcases whose j _ h1 with ⟨n, q⟩ | q
    · obtain ⟨d0, e0⟩ := okAr_at ok q
      exact ⟨j, d0, e0, h2⟩
    · exact ⟨j, d, q, h2⟩
  have ow2 : ∀ a, Ow σ (putO as os e) a → Ow (vs.map some) (as.map (arS e)) a → Ow (vs.map some) os a := fun a _ ⟨n, d, h1, h2⟩ => by
    obtain ⟨j, q1, q2, q3⟩ := ar_own m h1 h2
    obtain ⟨d', a', e1, e2, e3, e4⟩ := back q1
    rw [q3] at e3
    cases e3
    exact ⟨n, d', e1, e4⟩
  have hdd : ∀ a, Hd (fun a => F a ∨ Fx a) σ (putO as os e) a → Hd (fun a => Hid2 F σ e vs as a ∨ Fx a) (vs.map some) os a := fun a z => by
    rcases z with z | z | z
    · by_cases q : Ow (vs.map some) (as.map (arS e)) a
      · exact .inl (ow2 a z q)
      · exact .inr (.inl ⟨.inl (ow1 a z), q⟩)
    · by_cases q : Ow (vs.map some) (as.map (arS e)) a
      · exact absurd z (S.fr a (ow_args m q))
      · exact .inr (.inl ⟨.inr z, q⟩)
    · exact .inr (.inr z)
  have le : Le (hid H (Hd F σ e)) (hid H' (Hd (fun a => F a ∨ Fx a) σ (putO as os e))) := Le.hid fun b o e1 n k => ⟨(fun z => by
    rcases z with z | z | z
    · exact k (.inl (ow1 b z))
    · exact k (.inr z)
    · have q := hx b z
      rw [e1] at q
      cases q), s.keep b o e1 n fun z => k (.inl (ow_args m z))⟩
  have le2 : Le (hid H' (Hd (fun a => Hid2 F σ e vs as a ∨ Fx a) (vs.map some) os)) (hid H' (Hd (fun a => F a ∨ Fx a) σ (putO as os e))) := Le.hid fun b o e1 n k => ⟨fun z => k (hdd b z), e1⟩
  refine ⟨⟨fun a o e1 n k => s.keep a o e1 n fun z => k (ow_args m z), fun a _ k z => k (ow1 a z), s.dom⟩, ⟨by rw [putO_len]; exact S.len, fun j sl h => ?_, fun i j d d' a h1 h2 h3 h4 => ?_, fun a z k => ?_, fun a z => ?_, ⟨S'.tab.1, S.tab.2⟩, S.old.to (fun a o e nt h => s.keep a o h nt fun z => nomatch e.symm.trans (S.old.ow a (ow_args m z))) (fun a _ h => s.dom a h) fun a z => .inl (ow1 a z), S.vis.trans le⟩, hdd⟩
  · by_cases q : ∃ n : Nat, as[n]? = some (Arg.o j)
    · obtain ⟨n, q⟩ := q
      obtain ⟨d, a, e1, e2, e3, e4⟩ := back q
      rw [h] at e2
      cases e2
      obtain ⟨x, e5, e6⟩ := S'.sl n _ e1
      rw [e4] at e5
      cases e5
      exact ⟨_, e3, e6.mono le2 fun _ _ _ _ => rfl⟩
    · rw [putO_out (j := j) fun (n : Nat) z => q ⟨n, z⟩] at h
      obtain ⟨x, e1, e2⟩ := S.sl j sl h
      refine ⟨x, e1, e2.mono le fun d a es ex => ?_⟩
      subst es ex
      obtain ⟨a', ea, k⟩ := e2
      cases ea
      obtain ⟨o, eo, nt, _⟩ := k.there
      rw [eo]
      refine s.keep a o eo nt fun ⟨n, d', h1, h2⟩ => ?_
      obtain ⟨j', q1, q2, q3⟩ := ar_own m h1 h2
      have z := S.dis j j' d d' a h q2 e1 q3
      subst z
      exact q ⟨n, q1⟩
  · have key : ∀ {i : Nat} {d : D}, (putO as os e)[i]? = some (.o d) → ∃ d', e[i]? = some (.o d') := fun {i d} q => by
      rcases whose i _ q with ⟨n, z⟩ | z
      · exact okAr_at ok z
      · exact ⟨d, z⟩
    obtain ⟨x, h1⟩ := key h1
    obtain ⟨y, h2⟩ := key h2
    exact S.dis i j x y a h1 h2 h3 h4
  · rcases k with k | k
    · exact S.fr a (ow1 a z) k
    · exact S.hd_there (.inl (ow1 a z)) (hx a k)
  · rcases z with z | z
    · exact mut_keep (S.fd a z) fun o e n => s.keep a o e n fun w => S.fr a (ow_args m w) z
    · exact S'.fd a (.inr z)
end
end Rf

namespace Rf
open PySem L2 LamX

section
variable {X : Cx} {T : Tb} {W : WX} {k j : Nat} {m : Fm} {σ : St} {H : Hp} {Q : VK} {F : Addr → Prop} {e : Env'} {as : List Arg} {vs : List V} {G : Gm}
theorem exc_mono {Hs Hs' H : Hp} {c : Str} {p : Option (Str × D)} {cls : Value} {dd : Option Addr} (l : Le Hs Hs') (h : ExcIs G Hs H c p cls dd) : ExcIs G Hs' H c p cls dd := by
  obtain ⟨C, e1, e2, e3⟩ := h
  refine ⟨C, e1, e2, ?_⟩
  split at e3
  · exact e3
  · obtain ⟨x, v, h1, h2, h3⟩ := e3
    exact ⟨x, v, h1, h2, Is.mono l _ _ h3⟩
theorem noX {A : Addr → Prop} : (fun a => A a ∨ False) = A := funext fun a => by simp
theorem call_sp (S : Sta G T F σ H e) (i : ArL G σ (hid H (Hd F σ e)) as vs) (h : Rst G T (isD G) F σ H e W Q (callM m as e)) : spM G T m vs H Q (WE W σ) := by
  unfold callM at h
  split at h
  · rename_i ok
    refine ⟨Hid2 F σ e vs as, as.map (arS e), sta_args S i ok, ?_⟩
    cases hm : m (as.map (arS e)) with
    | ok d os =>
      rw [hm] at h
      simp only at h
      split at h
      · rename_i hc
        obtain ⟨oo, ol⟩ := Bool.and_eq_true_iff.mp hc
        intro v H' s S' iv
        have S0 : Sta G (tb0 T) (fun a => Hid2 F σ e vs as a ∨ False) (vs.map some) H' os := by rw [noX]; exact S'
        obtain ⟨s2, S2, hd⟩ := sta_back (Fx := fun _ => False) S i ok s S0 oo (of_decide_eq_true ol) fun _ z => z.elim
        rw [noX] at S2
        refine h v H' s2 S2 (Is.mono (Le.hid fun b o e1 n k => ⟨fun z => k ?_, e1⟩) _ _ iv)
        have q := hd b (by rw [noX]; exact z)
        rw [noX] at q
        exact q
      · exact h.elim
    | exc c p os =>
      rw [hm] at h
      simp only at h
      split at h
      · rename_i hc
        obtain ⟨oo, ol⟩ := Bool.and_eq_true_iff.mp hc
        intro cls dd H' s S' iv
        have S0 : Sta G (tb0 T) (fun a => Hid2 F σ e vs as a ∨ False) (vs.map some) H' os := by rw [noX]; exact S'
        obtain ⟨s2, S2, hd⟩ := sta_back (Fx := fun _ => False) S i ok s S0 oo (of_decide_eq_true ol) fun _ z => z.elim
        rw [noX] at S2
        refine h cls dd H' s2 S2 (exc_mono (Le.hid fun b o e1 n k => ⟨fun z => k ?_, e1⟩) iv)
        have q := hd b (by rw [noX]; exact z)
        rw [noX] at q
        exact q
      · exact h.elim
    | stk => rw [hm] at h; exact h.elim
  · exact h.elim
theorem call_spF (S : Sta G T F σ H e) (i : ArL G σ (hid H (Hd F σ e)) as vs) (h : RstF G T F σ H e W Q (callM m as e)) : spF G T m vs H Q (WE W σ) := by
  unfold callM at h
  split at h
  · rename_i ok
    refine ⟨Hid2 F σ e vs as, as.map (arS e), sta_args S i ok, ?_⟩
    cases hm : m (as.map (arS e)) with
    | ok d os =>
      rw [hm] at h
      simp only at h
      split at h
      · rename_i hc
        obtain ⟨oo, ol⟩ := Bool.and_eq_true_iff.mp hc
        intro a H' s S' iv n
        obtain ⟨s2, S2, hd⟩ := sta_back (Fx := fun b => b = a) S i ok s S' oo (of_decide_eq_true ol) fun b z => by rw [z]; exact n
        exact h a H' s2 S2 (iv.mono (Le.hid fun b o e1 n k => ⟨fun z => k (hd b z), e1⟩) rfl) n
      · exact h.elim
    | exc c p os =>
      rw [hm] at h
      simp only at h
      split at h
      · rename_i hc
        obtain ⟨oo, ol⟩ := Bool.and_eq_true_iff.mp hc
        intro cls dd H' s S' iv
        have S0 : Sta G (tb0 T) (fun a => Hid2 F σ e vs as a ∨ False) (vs.map some) H' os := by rw [noX]; exact S'
        obtain ⟨s2, S2, hd⟩ := sta_back (Fx := fun _ => False) S i ok s S0 oo (of_decide_eq_true ol) fun _ z => z.elim
        rw [noX] at S2
        refine h cls dd H' s2 S2 (exc_mono (Le.hid fun b o e1 n k => ⟨fun z => k ?_, e1⟩) iv)
        have q := hd b (by rw [noX]; exact z)
        rw [noX] at q
        exact q
      · exact h.elim
    | stk => rw [hm] at h; exact h.elim
  · exact h.elim
end
/-- a def that stands under its name -/
structure Cal (P : Program) (w : World) (K : PySem.W.Frag) (mg : Str → Option Value) (base : Heap) (k : Nat) (x : Str) (sp : Sp) : Prop where
  ex : ∃ (f : Addr) (fd : FuncData) (ps : List Str), FnG P w K mg base k f fd ps sp ∧ mg x = some (.ref f) ∧ PySem.W.keepIn K (.ref f) = true ∧ Binds K fd ps []
section
variable {X : Cx} {T : Tb} {W : WX} {k j : Nat} {m : Fm} {sp : Sp} {x y : Str} {p pos : Pos} {e : Expr} {es : List Expr} {t : TA} {r : Env' → Ro (List Arg)} {f : Addr} {fd : FuncData} {ps : List Str}
theorem run_G {pins : List (Addr × Obj)} {σ : St} {H : Hp} {s : Shared} {Q : VK} {us : List Value} {vs : List V} (Fn : FnG X.prog X.w X.K X.mg X.base k f fd ps sp) (R : Fra X j W ∨ (Ctx X j ∧ Takes X W)) (hk : k ≤ j) (hb : Binds X.K fd ps []) (I : Inv X pins σ H s) (r : Vals vs us) (h : sp vs H Q (WE W σ)) :
    wpAny (model X.prog X.w) X.A (call (.ref f) us) (EP X pins σ Q) X.xe s := by
  obtain ⟨C, tk⟩ : Ctx X j ∧ Takes X W := R.elim (fun R => ⟨R.C, R.tk⟩) id
  have b := hb s us I.kIn (by rw [List.append_nil, ← r.length]; exact Fn.len _ _ _ _ h)
  rw [List.append_nil] at b
  have run := Fn.go X.A X.stack s H ⟨us, []⟩ us vs Q (WE W σ) (C.room.mono hk) C.gd I.env0 b r h
  refine wpAny_call (codeAny_mono run fun res s2 hq => ?_)
  match res, hq with
  | .error err, hq => exact passAt tk σ pins H s err s2 I hq
  | .ok (.ret v), hq => exact I.after hq
  | .ok .next, hq => exact hq.elim
  | .ok .brk, hq => exact hq.elim
  | .ok .cont, hq => exact hq.elim
/-- a call of a def of the module -/
theorem pe_callG (c : Cal X.prog X.w X.K X.mg X.base k x sp) (C : Ctx X j) (tk : Takes X W) (hk : k ≤ j) (hg : Gl X x) (ha : PA X (e :: es) t) (hdb : (x == ("__debug__" : Str)) = false := by decide)
    (he : starEach (e :: es) X.env = (false, eval e X.env) :: starEach es X.env := by rfl) (hpl : (backTo pos (starEach es X.env)).any (·.1) = false := by rfl) : PE X (.Call (.Name x p) (e :: es) [] pos) (tCallS sp (WE W) t) := by
  obtain ⟨f, fd, ps, Fn, hm, kp, hb⟩ := c.ex
  exact ⟨fun pins s σ H Q I h => wpAny_Call_Name_kw (ld_glob I hg hm (PySem.W.callWith_K (h₀ := X.base) I.ok.mod.kin kp (thn (ha.run pos pins s σ H _ I h) fun us s1 ⟨vs, H1, I1, r, q⟩ => ⟨I1.kIn, run_G Fn (.inr ⟨C, tk⟩) hk hb I1 r q⟩) he hpl) hdb)⟩
theorem pe_callG0 (c : Cal X.prog X.w X.K X.mg X.base k x sp) (C : Ctx X j) (tk : Takes X W) (hk : k ≤ j) (hg : Gl X x) (hdb : (x == ("__debug__" : Str)) = false := by decide) : PE X (.Call (.Name x p) [] [] pos) (tCallS sp (WE W) tNil) := by
  obtain ⟨f, fd, ps, Fn, hm, kp, hb⟩ := c.ex
  exact ⟨fun pins s σ H Q I h => wpAny_Call_Name_kw (ld_glob I hg hm (PySem.W.callWith_K0 I.kIn kp (run_G (us := []) Fn (.inr ⟨C, tk⟩) hk hb I .nil h)) hdb)⟩
theorem se_callG (c : Cal X.prog X.w X.K X.mg X.base k x (spM (gm X) T m)) (C : Ctx X j) (tk : Takes X W) (hk : k ≤ j) (hg : Gl X x) (ha : SR X T W (e :: es) r) (hdb : (x == ("__debug__" : Str)) = false := by decide)
    (he : starEach (e :: es) X.env = (false, eval e X.env) :: starEach es X.env := by rfl) (hpl : (backTo pos (starEach es X.env)).any (·.1) = false := by rfl) : SE X T W (.Call (.Name x p) (e :: es) [] pos) (eCallD m r) :=
  PE.weak (pe_callG c C tk hk hg ha hdb he hpl) fun σ H Q h => rd_bind (R := fun Hs as vs => ArL (gm X) σ Hs as vs) h fun F env as vs H1 S1 i1 h1 => call_sp S1 i1 h1
theorem sf_callG (c : Cal X.prog X.w X.K X.mg X.base k x (spF (gm X) T m)) (C : Ctx X j) (tk : Takes X W) (hk : k ≤ j) (hg : Gl X x) (ha : SR X T W (e :: es) r) (hdb : (x == ("__debug__" : Str)) = false := by decide)
    (he : starEach (e :: es) X.env = (false, eval e X.env) :: starEach es X.env := by rfl) (hpl : (backTo pos (starEach es X.env)).any (·.1) = false := by rfl) : SF X T W (.Call (.Name x p) (e :: es) [] pos) (eCallD m r) :=
  PE.weak (pe_callG c C tk hk hg ha hdb he hpl) fun σ H Q h => rdF_bind (R := fun Hs as vs => ArL (gm X) σ Hs as vs) h fun F env as vs H1 S1 i1 h1 => call_spF S1 i1 h1
theorem se_callG0 (c : Cal X.prog X.w X.K X.mg X.base k x (spM (gm X) T m)) (C : Ctx X j) (tk : Takes X W) (hk : k ≤ j) (hg : Gl X x) (hdb : (x == ("__debug__" : Str)) = false := by decide) : SE X T W (.Call (.Name x p) [] [] pos) (eCallD m rNil) :=
  PE.weak (pe_callG0 c C tk hk hg hdb) fun σ H Q h => by
    obtain ⟨F, env, S, h⟩ := h
    exact call_sp (as := []) (vs := []) S rfl h
theorem sf_callG0 (c : Cal X.prog X.w X.K X.mg X.base k x (spF (gm X) T m)) (C : Ctx X j) (tk : Takes X W) (hk : k ≤ j) (hg : Gl X x) (hdb : (x == ("__debug__" : Str)) = false := by decide) : SF X T W (.Call (.Name x p) [] [] pos) (eCallD m rNil) :=
  PE.weak (pe_callG0 c C tk hk hg hdb) fun σ H Q h => by
    obtain ⟨F, env, S, h⟩ := h
    exact call_spF (as := []) (vs := []) S rfl h
/-! ### a local name that holds a def -/
/-- the defs that may be held, by their names -/
def eCallV (i : Nat) (M : Str → Option Fm) (r : Env' → Ro (List Arg)) : Env' → Ro D := fun env => match env[i]? with
  | some (.v (.fn x)) => (match M x with
    | some m => (r env).bind fun as e => callM m as e
    | none => .stk)
  | _ => .stk
theorem se_callV (i : Nat) {M : Str → Option Fm} (c : ∀ y m, M y = some m → Cal X.prog X.w X.K X.mg X.base k y (spM (gm X) T m)) (C : Ctx X j) (tk : Takes X W) (hk : k ≤ j) (ha : SR X T W (e :: es) r) (hN : X.N[i]? = some x := by rfl)
    (hv : Vis X.env.scope x := by first | exact Or.inl rfl | exact Or.inr (Or.inl rfl) | exact Or.inr (Or.inr rfl)) (hdb : (x == ("__debug__" : Str)) = false := by decide) (hcd : (x == ("__classdict__" : Str)) = false := by decide)
    (he : starEach (e :: es) X.env = (false, eval e X.env) :: starEach es X.env := by rfl) (hpl : (backTo pos (starEach es X.env)).any (·.1) = false := by rfl) : SE X T W (.Call (.Name x p) (e :: es) [] pos) (eCallV i M r) := by
  refine ⟨fun pins s σ H Q I h => ?_⟩
  obtain ⟨F, env, S, h⟩ := h
  unfold eCallV at h
  split at h
  · rename_i y ey
    obtain ⟨v, e1, e2⟩ := S.val ey
    split at h
    · rename_i m em
      obtain ⟨f, fd, ps, Fn, hm, kp, hb⟩ := (c y m em).ex
      obtain ⟨f', rfl, e3⟩ := e2
      have e3 : X.mg y = some (.ref f') := e3
      rw [hm] at e3
      cases e3
      refine wpAny_Call_Name_kw (thn ((pe_var (pos := p) hN hv hdb hcd).run pins s σ H (fun v H1 => v = .ref f ∧ H = H1) I ⟨.ref f, e1, rfl, rfl⟩) fun u s1 ⟨v, H1, I1, r1, q1⟩ => ?_)
      obtain ⟨rfl, q2⟩ := q1
      rw [← q2] at I1
      obtain rfl : u = Value.ref f := r1
      have h' : rd (gm X) T (fun Hs as vs => ArL (gm X) σ Hs as vs) r W σ H fun vs H1 => spM (gm X) T m vs H1 Q (WE W σ) := rd_bind (R2 := isD (gm X)) (f := r) (g := callM m) ⟨F, env, S, h⟩ fun F env as vs H1 S1 i1 h1 => call_sp S1 i1 h1
      exact PySem.W.callWith_K (h₀ := X.base) I.ok.mod.kin kp (thn (ha.run pos pins s1 σ H _ I1 h') fun us s2 ⟨vs, H2, I2, r2, q⟩ => ⟨I2.kIn, run_G Fn (.inr ⟨C, tk⟩) hk hb I2 r2 q⟩) he hpl
    · exact h.elim
  · exact h.elim
end
end Rf

namespace Rf
open PySem L2 LamX
open PyProof.Rows hiding St

/-! ## the end: the law's own def called on the script -/
section
variable {P : Program} {w : World} {K : PySem.W.Frag} {mg mb : Str → Option Value} {k : Nat} {fa a : Addr} {cs : List (Addr × Addr)} {fd : FuncData} {x : Str} {sp : Sp} {st : Shared} {vs : List Value} {ns : List Int}
/-- an empty table of code objects -/
abbrev tabO : Obj := { cls := .none, data := .fields #[] }
abbrev scrO (vs : List Value) : Obj := { cls := .type "list", data := .seq vs.toArray }
def isTab (cs : List (Addr × Addr)) (b : Addr) : Bool := cs.any fun p => p.2 == b
theorem isTab_mem {b : Addr} (h : isTab cs b = true) : ∃ p ∈ cs, p.2 = b := by
  obtain ⟨p, hp, e⟩ := List.any_eq_true.mp h
  exact ⟨p, hp, by simpa using e⟩
theorem isTab_of {p : Addr × Addr} (h : p ∈ cs) : isTab cs p.2 = true := List.any_eq_true.mpr ⟨p, h, by simp⟩
/-- what is told of the heap at the start: the tables, and the script if it is no part of the text's own -/
def hpLaw (K : PySem.W.Frag) (cs : List (Addr × Addr)) (a : Addr) (vs : List Value) (ns : List Int) : Hp := fun b =>
  if isTab cs b then some (.tbl #[]) else if b = a ∧ K.lookup a = none then some (.frz (scrO vs) (.lst (ns.map V.int))) else none
theorem hpLaw_some {b : Addr} {o : HO} (h : hpLaw K cs a vs ns b = some o) : (isTab cs b = true ∧ o = .tbl #[]) ∨ (b = a ∧ K.lookup a = none ∧ o = .frz (scrO vs) (.lst (ns.map V.int))) := by
  unfold hpLaw at h
  split at h
  · rename_i q
    cases h
    exact .inl ⟨q, rfl⟩
  · split at h
    · rename_i q
      cases h
      exact .inr ⟨q.1, q.2, rfl⟩
    · cases h
theorem hpLaw_tab {p : Addr × Addr} (h : p ∈ cs) : hpLaw K cs a vs ns p.2 = some (.tbl #[]) := by
  unfold hpLaw
  rw [if_pos (isTab_of h)]
theorem end_G (KX : K.In st.heap) (hns : st.heap.Ns mainGlobals mg) (hb : st.heap.Ns builtinsNs mb) (hbb : ∀ y : Str, y ≠ "__name__" → mb y = bootBuiltins y) (nl : st.heap.NoLimit) (gs : st.gens = #[])
    (tO : ∀ p ∈ cs, st.heap.get? p.2 = some tabO) (tK : ∀ p ∈ cs, K.lookup p.2 = none) (tC : ∀ p ∈ cs, PySem.W.CodeHd st.heap p.1 p.2)
    (bmn : ∃ (bm : Addr) (ob : Obj), mg "__builtins__" = some (.ref bm) ∧ bm ≠ builtinsNs ∧ st.heap.get? bm = some ob ∧ ob.cls = .type "module" ∧ ob.dict = some builtinsNs ∧ ob.data = .plain)
    (ha : st.heap.get? a = some (scrO vs)) (hi : IntsAre vs ns) (hl : ns.length ≤ sizeLine) (hr : Room k callerA)
    (Fn : ∀ base : Heap, K.In base → base.Ns mainGlobals mg → (∀ p ∈ cs, TabB base mg p.1 p.2) → FnG P w K mg base k fa fd [x] sp) (bd : ∀ (s : Shared) (u : Value), BindsTo s fd ⟨[u], []⟩ [(x, u)])
    (hsp : ∀ H : Hp, (∀ p ∈ cs, H p.2 = some (.tbl #[])) → SqL K H a (ns.map V.int) → sp [.ref a] H (fun v _ => v = .bl true) fun _ _ _ => False) :
    codeAny (model P w) callerA (.call (.ref fa) ⟨[.ref a], []⟩) (fun r s' => r = .ok (.ret (.bool true)) ∧ OldK st.heap s'.heap ∧ s'.os = st.os ∧ AllBare s'.gens) st := by
  have rv := vals_ints hi
  have len := hi.length
  have tab_at : ∀ {b : Addr}, isTab cs b = true → st.heap.get? b = some tabO := fun q => by
    obtain ⟨p, hp, e⟩ := isTab_mem q
    exact e ▸ tO p hp
  have na : isTab cs a = false := by
    cases q : isTab cs a with
    | false => rfl
    | true =>
      have z := (tab_at q).symm.trans ha
      have z := congrArg Obj.data (Option.some.inj z)
      cases z
  have Hf : ∀ {H : Hp}, H = hpLaw K cs a vs ns → ∀ {b : Addr} {o : Obj}, st.heap.get? b = some o → o.data ≠ .fields #[] → (∀ l n, o.data ≠ .seq l n) → H b = none := fun {H} hH {b o} e d1 d2 => by
    cases q : H b with
    | none => rfl
    | some u =>
      rw [hH] at q
      rcases hpLaw_some q with ⟨q, _⟩ | ⟨q, _, _⟩
      · rw [tab_at q] at e
        cases e
        exact absurd rfl d1
      · rw [q, ha] at e
        cases e
        exact absurd rfl (d2 _ _)
  generalize hH : hpLaw K cs a vs ns = H at *
  have free := @Hf H rfl
  have dfree : ∀ {b : Addr} {o : Obj} {es : Array DictEntry} {n : Nat}, st.heap.get? b = some o → o.data = .dict es n → H b = none := fun e d => free e (by rw [d]; intro z; cases z) (by intro l n z; rw [d] at z; cases z)
  have nsB : ∀ {b : Addr} {m : Str → Option Value}, st.heap.Ns b m → (hidT st.heap H).Ns b m := fun ⟨o, es, n, e, d, r⟩ => ⟨o, es, n, hidT_get e (dfree e d), d, r⟩
  have kIn : K.In (hidT st.heap H) := fun b o e => hidT_get (KX b o e) (by
    cases q : H b with
    | none => rfl
    | some u =>
      rw [← hH] at q
      rcases hpLaw_some q with ⟨q, _⟩ | ⟨q, q2, _⟩
      · obtain ⟨p, hp, ep⟩ := isTab_mem q
        rw [← ep, tK p hp] at e
        cases e
      · rw [q, q2] at e
        cases e)
  have md : L2.Mod K mg (hidT st.heap H) := by
    obtain ⟨mc, c1, c2⟩ := nl
    exact ⟨kIn, nsB hns, ⟨mb, nsB hb, hbb⟩, mc, nsB c1, c2⟩
  have ok : HOk P w H st.heap := fun b u z => by
    rw [← hH] at z
    rcases hpLaw_some z with ⟨q, rfl⟩ | ⟨q, _, rfl⟩
    · exact tab_at q
    · rw [q]
      exact ⟨ha, by rw [List.length_map]; exact hl, vs, _, rv, ha⟩
  have scr : SqL K H a (ns.map V.int) := by
    cases q : K.lookup a with
    | none => exact .inl (.inr ⟨scrO vs, by rw [← hH]; unfold hpLaw; rw [if_neg (by rw [na]; decide), if_pos ⟨rfl, q⟩]⟩)
    | some o =>
      have e := KX a o q
      rw [ha] at e
      cases e
      exact .inr ⟨_, vs.toArray, _, q, rfl, rfl, rfl, by rw [List.size_toArray, len]; exact hl, by simpa using rv⟩
  have tb : ∀ p ∈ cs, H p.2 = some (.tbl #[]) := fun p hp => by rw [← hH]; exact hpLaw_tab hp
  have tbB : ∀ p ∈ cs, TabB (hidT st.heap H) mg p.1 p.2 := fun p hp => by
    have tp := tO p hp
    refine ⟨?_, ?_, fun z => ?_⟩
    · obtain ⟨o, us, fl, tf, fg, tg, iF, tx, tt, e1, r1, r2, r3, r⟩ := tC p hp
      refine ⟨o, us, fl, tf, fg, tg, iF, tx, tt, hidT_get e1 (free e1 (fun z => ?_) fun l n z => ?_), r1, r2, r3, r⟩
      · rw [r2] at z
        cases z
        simp at r3
      · rw [r2] at z
        cases z
    · obtain ⟨bm, ob, b1, b2, b3, b4, b5, b6⟩ := bmn
      refine ⟨bm, ob, b1, b2, fun q => ?_, fun q => ?_, hidT_get b3 (free b3 (fun z => ?_) fun l n z => ?_), b4, b5, b6⟩
      · obtain ⟨o, es, n, e, d, _⟩ := hns
        rw [q, e] at b3
        cases b3
        rw [d] at b6
        cases b6
      · rw [q, tp] at b3
        cases b3
        cases b6
      · rw [b6] at z
        cases z
      · rw [b6] at z
        cases z
    · obtain ⟨o, es, n, e, d, _⟩ := hns
      rw [z, tp] at e
      cases e
      cases d
  have en : Env0 P w K mg (hidT st.heap H) callerA [] st H := ⟨rfl, md, fun b o e => of_hidT e, Nat.le_of_eq (hidT_size _ _), trivial, fun b z => absurd (show b ∈ ([] : List Addr) from z) List.not_mem_nil, ok, .of_eq gs⟩
  have run := (Fn _ kIn (nsB hns) tbB).go callerA [] st H ⟨[.ref a], []⟩ [.ref a] [.ref a] _ _ hr rfl en (bd st (.ref a)) (.cons rfl .nil) (hsp H tb scr)
  refine codeAny_mono run fun r s' h => ?_
  match r, h with
  | .error e, h =>
    obtain ⟨_, _, _, _, _, _, _, _, _, _, _, _, z⟩ := h
    exact z.elim
  | .ok .next, h => exact h.elim
  | .ok .brk, h => exact h.elim
  | .ok .cont, h => exact h.elim
  | .ok (.ret u), h =>
    obtain ⟨v, H', os, bare, un, ok', r', q⟩ := h
    obtain rfl : v = .bl true := q
    obtain rfl : u = Value.bool true := r'
    have keep : ∀ b o, isTab cs b = false → st.heap.get? b = some o → s'.heap.get? b = some o := fun b o nb e => by
      cases q : H b with
      | none => exact un.keep b o e q (fun z => absurd (show b ∈ ([] : List Addr) from z) List.not_mem_nil) (by simp)
      | some u =>
        have q' := q
        rw [← hH] at q'
        rcases hpLaw_some q' with ⟨z, _⟩ | ⟨_, _, rfl⟩
        · rw [nb] at z
          cases z
        · obtain ⟨e1, _⟩ := ok b _ q
          obtain ⟨e2, _⟩ := ok' b _ (un.frzs b _ _ q)
          rw [e] at e1
          cases e1
          exact e2
    have more : ∀ p ∈ cs, ∃ m : Array Value, s'.heap.get? p.2 = some { cls := .none, data := .fields (#[] ++ m) } := fun p hp => by
      obtain ⟨m, z⟩ := un.tbls p.2 #[] (tb p hp)
      exact ⟨m, ok' p.2 _ z⟩
    refine ⟨rfl, ⟨fun b o e => ?_, fun b o e => ?_⟩, os, bare⟩
    · cases hb : isTab cs b with
      | true =>
        obtain ⟨p, hp, ep⟩ := isTab_mem hb
        obtain ⟨m, hm⟩ := more p hp
        rw [tab_at hb] at e
        cases e
        rw [← ep]
        exact .inr (.inl ⟨((tC p hp).tab (tO p hp)).isCodeTable, rfl, #[], m, rfl, hm⟩)
      | false => exact .inl (keep b o hb e)
    · cases hb : isTab cs b with
      | true =>
        obtain ⟨p, hp, ep⟩ := isTab_mem hb
        obtain ⟨m, hm⟩ := more p hp
        rw [← ep]
        exact ⟨_, hm⟩
      | false => exact ⟨o, keep b o hb e⟩
/-- what is known of the law's def at the top's heap h -/
def LawAtG (l : PySem.W.OpenLaw) (w : World) (K : PySem.W.Frag) (k n : Nat) (x : Str) (mg : Str → Option Value) (fa : Addr) (h : Heap) : Prop :=
  ∃ (fd : FuncData) (cs : List (Addr × Addr)) (sp : Sp), (∀ p ∈ cs, h.get? p.2 = some tabO ∧ K.lookup p.2 = none ∧ PySem.W.CodeHd h p.1 p.2) ∧ (∀ (s : Shared) (u : Value), BindsTo s fd ⟨[u], []⟩ [(x, u)]) ∧
    (∀ (H : Hp) (a : Addr) (ns : List Int), ns.length ≤ n → (∀ z ∈ ns, Builtin.Int.intBits z ≤ 1048576) → (∀ p ∈ cs, H p.2 = some (.tbl #[])) → SqL K H a (ns.map V.int) → sp [.ref a] H (fun v _ => v = .bl true) fun _ _ _ => False) ∧
    ∀ base : Heap, K.In base → base.Ns mainGlobals mg → (∀ p ∈ cs, TabB base mg p.1 p.2) → FnG l.prog w K mg base k fa fd [x] sp
theorem walk_ofG {l : PySem.W.OpenLaw} {n k : Nat} {q : Program} {loose : List Str} {XP : (Str → Option Value) → Heap → Prop} {YP : World → Heap → Prop} {d : DefRec} {K : Params → PySem.W.Frag} {x : Str} (hn : l.most = some n) (hn2 : n ≤ sizeLine) (nd : d.params.defaults = []) (hr : Room k callerA)
    (hY : ∀ (w : World) (h : Heap), YP w h → (K w.params).In h) (F : ∀ (w : World) (mg : Str → Option Value) (fa : Addr) (h : Heap), XP mg h → YP w h → (K w.params).In h → h.Ns mainGlobals mg → mg d.name = some (.ref fa) → LawAtG l w (K w.params) k n x mg fa h) :
    PySem.W.WalkO q loose XP YP l.row.toRowW d [] (fun f vs => PySem.call f vs) :=
  Att.attach_callB hn nd fun w s₀ s₁ mg mb fa o pm cd doc a vs ns G Y ho hd hcd hmg hobj hints hlen hbits hg => by
    obtain ⟨fd, cs, sp, hT, hb, hsp, hF⟩ := F w mg fa _ G.X Y (hY w _ Y) G.T.g hmg
    exact end_G (hY w _ Y) G.T.g G.T.b G.T.builtins G.T.nolimit hg (fun p hp => (hT p hp).1) (fun p hp => (hT p hp).2.1) (fun p hp => (hT p hp).2.2) G.T.bmain hobj hints (Nat.le_trans hlen hn2) hr hF hb fun H hH hS => hsp H a ns hlen hbits hH hS
end
end Rf

namespace Rf
open PySem L2 LamX
open PySem.W (Frag Looks)

/-! ## own exceptions whose __init__ says super().__init__('..') -/
/-- the text of such an __init__ -/
abbrev supE (txt : Str) (j : Nat) (p0 p1 p2 p3 p4 : Pos) : Expr := .Call (.Attribute (.Call (.Name "super" p0) [] [] p1) "__init__" p2) [.Constant (.str txt) j p3] [] p4
abbrev supS (txt : Str) (j : Nat) (p0 p1 p2 p3 p4 p5 : Pos) : Stmt := .Expr (supE txt j p0 p1 p2 p3 p4) p5
/-- how it is read -/
abbrev supEv (env : Env) (pl : Sem Bool) (txt : Str) (j : Nat) (p0 p1 p2 p3 p4 : Pos) : Prop := eval (supE txt j p0 p1 p2 p3 p4) env = (do
  let ov ← attributeBase (.Call (.Name "super" p0) [] [] p1) "__init__" env (eval (.Call (.Name "super" p0) [] [] p1) env)
  standAt p2.atName
  let (f, first) ← holding [ov] (getMethod ov "__init__" pl)
  callWith p4 f first (backTo p4 (starEach [.Constant (.str txt) j p3] env)) [])
/-- what the written part says of the class at C -/
structure ETx (P : Program) (K : Frag) (mg : Str → Option Value) (x : Str) (C : Addr) : Prop where
  gC : mg x = some (.ref C)
  cls : ∃ nm q N bs bm sn sub ab col dd k0 k1 k2 k3 k5, K.lookup C = some (excClassObj nm q C N bs bm true sn sub ab col dd k0 k1 k2 k3 k5 "ValueError.__new__") ∧ PySem.HandSPX.refsVE bm = true
  kC : PySem.W.keepIn K (.ref C) = true
  exC : PySem.W.subIn K (.ref C) (.type "BaseException") = some true
  veC : PySem.W.subIn K (.ref C) (.type "ValueError") = some true
  tyC : PySem.W.typeIn K (.ref C) = some (.type "type")
  sup : PySem.W.ks_superIn K C C "__init__" = some (some (.builtin "ValueError.__init__"))
  mro : PySem.W.mroIn K C (.ref C) = some true
  opq : PySem.W.nsIn K cStatics "thirdparty.any" = some none
  nsu : mg "super" = none
  top : (P.main.scope.names.lookup ("super" : Str)).isSome = false
/-- .. of its __init__; rest: what stands behind super().__init__('..') -/
structure ITx (P : Program) (K : Frag) (C fI : Addr) (ps : List Str) (rest : List Stmt) : Prop where
  iC : PySem.W.findIn K (.ref C) "__init__" = some (some (.ref fI))
  tI : PySem.W.typeIn K (.ref fI) = some (.type "function")
  fn : ∃ (qual : Str) (params : Arguments) (scope : Scope) (kV doc pm ct oc : Value) (an od : Option Addr) (osl : Array (Option Value)) (cc cda : Addr) (ccl : Value) (cdd : Option Addr) (vs : Array Value) (ccs : Array (Option Value)) (file : Str) (tf : Tok) (cl : Value) (cld : Option Addr) (csl : Array (Option Value)) (ar : PySem.Arg)
      (txt : Str) (j : Nat) (p0 p1 p2 p3 p4 p5 : Pos),
    K.lookup fI = some ⟨oc, od, .func (PySem.W.ksFn "__init__" qual params (supS txt j p0 p1 p2 p3 p4 p5 :: rest) scope .none kV doc pm an (.ref cda) ct cc), osl⟩ ∧ PySem.W.codeIn K (.ref cda) qual = true ∧ K.lookup cda = some ⟨ccl, cdd, .fields vs, ccs⟩ ∧ vs[2]? = some (.str file tf) ∧ ((P.main.file : Str) == file) = true ∧
      K.lookup cc = some ⟨cl, cld, .cell (some (.ref C)), csl⟩ ∧ (∀ us : List Value, us.length = ps.length → bindArgs (PySem.W.ksFn "__init__" qual params (supS txt j p0 p1 p2 p3 p4 p5 :: rest) scope .none kV doc pm an (.ref cda) ct cc) ⟨us, []⟩ = pure (ps.zip us)) ∧
      (params.posonlyargs ++ params.args).head? = some ar ∧ ar.arg = "self" ∧ (∀ y ∈ scope.names, y.2 ≠ .cell) ∧ (∀ y ∈ ps, scope.names.lookup y = some .local) ∧ scope.names.lookup ("super" : Str) = some .globalImplicit ∧ scope.names.lookup ("__class__" : Str) = some .free ∧
      scope.kind = .function ∧ scope.isCoroutine = false ∧ scope.isGenerator = false ∧
      (∀ L, (∃ pl, supEv (PySem.W.ksEnv qual scope L fI (.ref cda) cc) pl txt j p0 p1 p2 p3 p4) ∧ interactive (PySem.W.ksEnv qual scope L fI (.ref cda) cc) = false ∧ swapsWith (supE txt j p0 p1 p2 p3 p4) none p5.line (PySem.W.ksEnv qual scope L fI (.ref cda) cc) = pure false)
section
variable {P : Program} {w : World} {A : Around} {E : Value → Shared → Prop} {h : Heap} {g : Array GenState} {d : Drawn} {t : Nat} {os : OsState} {K : Frag} {mg : Str → Option Value} {x : Str} {C fI e u t0 : Addr}
abbrev exO (C t : Addr) : Obj := PySem.HandSPX.excO C t
/-- the bound ValueError.__init__ -/
theorem call_mw {rest : List Value} {Q : Value → Shared → Prop} (T : ETx P K mg x C) (X : K.In h) (he : h.get? e = some (exO C t0)) (hu : h.get? u = some (PySem.W.kxs_mw "ValueError.__init__" e)) (hz : rest.length ≤ sizeLine)
    (hq : ∀ h' t1, (∀ b o, b ≠ e → h.get? b = some o → h'.get? b = some o) → h'.get? e = some (exO C t1) → Q .none ⟨h', g, d, t, os⟩) : wpAny (model P w) A (call (.ref u) rest) Q E ⟨h, g, d, t, os⟩ := by
  obtain ⟨nm, q, N, bs, bm, sn, sub, ab, col, dd, k0, k1, k2, k3, k5, lC, hbm⟩ := T.cls
  refine wpAny_call (codeAny_of_tree (show wpAny _ A.in1 (callAny (.ref u) ⟨rest, []⟩) _ _ _ from ?_))
  simp only [callAny]
  refine wpAny_bind (wpAny_load hu ?_)
  simp only [PySem.W.kxs_mw]
  refine PySem.W.KFB.if_so (by decide) (wpAny_bind (PySem.W.check_bound_init PySem.F.excBase_ValueError.toExcCallFacts (X _ _ lC) he rfl (wpAny_bind (wpAny_pure (wpAny_pure ⟨PySem.plainId_quiet PySem.F.excBase_ValueError.init.plain _, codeAny_builtin PySem.F.excBase_ValueError.initEntry ?_⟩)))))
  exact PySem.W.exc_init_tree (cls := .ref C) (t0 := t0) (dv := none) (c2 := .none) (c3 := .none) (b4 := .bool false) he hz fun h' k o' _ => hq h' _ k o'
/-- super().__init__('..') -/
theorem sup_at {qual : Str} {params : Arguments} {body : List Stmt} {scope : Scope} {kV doc pm ct oc : Value} {an od : Option Addr} {osl : Array (Option Value)} {cc cda L : Addr} {ccl : Value} {cdd : Option Addr} {vs : Array Value} {ccs : Array (Option Value)} {file : Str} {tf : Tok} {cl : Value} {cld : Option Addr} {csl : Array (Option Value)} {ar : PySem.Arg}
    {m mb : Str → Option Value} {txt : Str} {j : Nat} {p0 p1 p2 p3 p4 p5 : Pos} {Q : Flow → Shared → Prop} (T : ETx P K mg x C) (X : K.In h) (gl : h.Ns mainGlobals mg) (bl : h.Ns builtinsNs mb) (bs : mb "super" = bootBuiltins "super") (he : h.get? e = some (exO C t0)) (hn : h.Ns L m) (hs : m "self" = some (.ref e))
    (lI : K.lookup fI = some ⟨oc, od, .func (PySem.W.ksFn "__init__" qual params body scope .none kV doc pm an (.ref cda) ct cc), osl⟩) (lD : K.lookup cda = some ⟨ccl, cdd, .fields vs, ccs⟩) (l2 : vs[2]? = some (.str file tf)) (lf : ((P.main.file : Str) == file) = true)
    (lC : K.lookup cc = some ⟨cl, cld, .cell (some (.ref C)), csl⟩) (hp : (params.posonlyargs ++ params.args).head? = some ar) (ha : ar.arg = "self") (k1 : scope.names.lookup ("super" : Str) = some .globalImplicit) (k2 : scope.names.lookup ("__class__" : Str) = some .free) (k3 : scope.names.lookup ("self" : Str) = some .local) (k4 : scope.kind = .function)
    {pl : Sem Bool} (ev : supEv (PySem.W.ksEnv qual scope L fI (.ref cda) cc) pl txt j p0 p1 p2 p3 p4) (hi : interactive (PySem.W.ksEnv qual scope L fI (.ref cda) cc) = false) (hw : swapsWith (supE txt j p0 p1 p2 p3 p4) none p5.line (PySem.W.ksEnv qual scope L fI (.ref cda) cc) = pure false)
    (hq : ∀ h' tk t1, (∀ b o, b ≠ e → h.get? b = some o → h'.get? b = some o) → h'.get? e = some (exO C t1) → Q .next ⟨h', g, d, tk, os⟩) :
    PySem.wpAt (model P w) A (.func body (PySem.W.ksEnv qual scope L fI (.ref cda) cc)) (exec (supS txt j p0 p1 p2 p3 p4 p5) (PySem.W.ksEnv qual scope L fI (.ref cda) cc)) Q E ⟨h, g, d, t, os⟩ := by
  obtain ⟨nm, q, N, bas, bm, sn, sub, ab, col, dd, w0, w1, w2, w3, w5, lcls, hbm⟩ := T.cls
  have hC := X _ _ lcls
  have nC : e ≠ C := fun z => by
    rw [z, hC] at he
    cases he
  have hcl : PySem.W.clsIn K C = some { name := nm, bases := bas, mro := .ref C :: bm, ns := N, qualname := q, hasDict := true, slotNames := sn, subclasses := sub, abstract := ab, collection := col, hasDel := false } := by unfold PySem.W.clsIn; rw [lcls] <;> rfl
  refine PySem.ks_wpAt_Expr_any (PySem.ks_wpAt_MethodCall (pl := pl) (PySem.ks_wpAt_super_base (env := PySem.W.ksEnv qual scope L fI (.ref cda) cc) k1 k2 (by decide) rfl (X _ _ lI) rfl hp rfl (X _ _ lD) rfl l2 lf T.top ?_) ev) hi hw
  refine PySem.W.ks_loadName_global k4 k1 (Calls.loadGlobal_builtin (env := PySem.W.ksEnv qual scope L fI (.ref cda) cc) gl T.nsu bl (bs.trans (show bootBuiltins "super" = some (.type "super") by decide +kernel)) ⟨rfl, ?_⟩)
  rw [ha]
  refine wpAny_loadName_free k4 k2 rfl ⟨_, X _ _ lC, rfl⟩ (wpAny_loadName_local k4 k3 hn hs (PySem.ks_wpAny_isType_cls hC rfl ⟨rfl, ?_⟩))
  refine PySem.ks_wpAny_call_super hC rfl he rfl (fun c z => by cases z) (PySem.W.looks_mroIn X T.mro) fun h2 so kp => ?_
  have X2 : K.In h2 := X.keeps kp
  have he2 := kp _ _ he
  have I2 : PySem.W.InstAt h2 e (exO C t0) C none := ⟨he2, rfl, rfl, trivial⟩
  have al := T.sup
  unfold PySem.W.ks_superIn at al
  rw [hcl] at al
  refine PySem.W.kxs_getMethod PySem.W.kxs_ValueError so (PySem.W.looks_opaque X2 T.opq) (fun A' Q' E' s' k q' => wpAny_bind ((PySem.W.looks_clsIn X2 hcl) A' _ E' s' k (wpAny_pure q'))) rfl X2 al (I2.type.andThen (PySem.W.looks_subIn X2 T.veC)) nC (by decide) ?_
  have kp3 : ∀ b o, h2.get? b = some o → (h2.push (PySem.W.kxs_mw "ValueError.__init__" e)).get? b = some o := fun b o z => Heap.get?_push_of_some _ z
  have hu : (h2.push (PySem.W.kxs_mw "ValueError.__init__" e)).get? h2.objs.size = some (PySem.W.kxs_mw "ValueError.__init__" e) := Heap.get?_push_at rfl rfl
  refine PySem.W.kxs_callWith (i := "ValueError.__init__") (x := e) rfl (Calls.evalArgs_plain (Calls.spliced_cons (Calls.Constant_str (k := j) (pos := p3) (Calls.spliced_nil ⟨hu, ?_⟩))))
  exact call_mw T (X2.keeps kp3) (kp3 _ _ he2) hu (show 1 ≤ sizeLine by rw [sizeLine_eq]; decide) fun h' t1 k o' => hq h' _ t1 (fun b o nb z => k b o nb (kp3 b o (kp b o z))) o'
theorem init0 {R : Result → Shared → Prop} (T : ETx P K mg x C) (Ix : ITx P K C fI ["self"] []) (X : K.In h) (nl : h.NoLimit) (gl : h.Ns mainGlobals mg) {mb : Str → Option Value} (bl : h.Ns builtinsNs mb) (bs : mb "super" = bootBuiltins "super") (he : h.get? e = some (exO C t0)) (room : A.depth < recursionLimit)
    (hq : ∀ h' tk t1, (∀ b o, b ≠ e → h.get? b = some o → h'.get? b = some o) → h'.get? e = some (exO C t1) → R (.ok (.ret .none)) ⟨h', g, d, tk, os⟩) : codeAny (model P w) A (.call (.ref fI) ⟨[.ref e], []⟩) R ⟨h, g, d, t, os⟩ := by
  obtain ⟨qual, params, scope, kV, doc, pm, ct, oc, an, od, osl, cc, cda, ccl, cdd, vs, ccs, file, tf, cl, cld, csl, ar, txt, j, p0, p1, p2, p3, p4, p5, lI, lcd, lD, l2, lf, lC, lb, hp, ha, hc, hl, k1, k2, k4, k5, k6, kE⟩ := Ix.fn
  refine PySem.ks_codeAny_call_defAt (binds := [("self", .ref e)]) room (X _ _ lI) rfl nl (PySem.W.codeRec_of X lcd) rfl (BindsTo.of_eq (lb [.ref e] rfl)) hc (fun y hy => ?_) (fun h1 hn kp => ?_) k5 k6 k4
  · rw [List.mem_singleton.mp hy]
    exact hl _ List.mem_cons_self
  · obtain ⟨⟨pl, ev⟩, hi, hw⟩ := kE h.objs.size
    refine PySem.ks_wpAt_execs_cons (sup_at T (X.keeps kp) (gl.keeps kp) (bl.keeps kp) bs (kp _ _ he) hn (by rfl) lI lD l2 lf lC hp ha k1 k2 (hl _ List.mem_cons_self) k4 ev hi hw fun h' tk t1 k o' => ?_)
    exact PySem.wpAt_of_wpAny (wpAny_execs_nil (hq h' tk t1 (fun b o nb z => k b o nb (kp b o z)) o'))
end
section
variable {X : Cx} {W : WX} {T : Tb} {k : Nat} {x f : Str} {C fI : Addr} {p pos pos2 : Pos} {a : Expr} {g : Env' → Ro D}
/-- C() -/
theorem pmk0 (tx : ETx X.prog X.K X.mg x C) (ix : ITx X.prog X.K C fI ["self"] []) (hr : Room (k + 1) X.A) (hg : Gl X x) (hdb : (x == ("__debug__" : Str)) = false := by decide) : PMk X (.Call (.Name x p) [] [] pos) (fun _ H Q => Q (.ref C) none H) := by
  intro pins s σ H Q I h
  obtain ⟨nm, q, N, bas, bm, sn, sub, ab, col, dd, w0, w1, w2, w3, w5, lcls, hbm⟩ := tx.cls
  obtain ⟨mb, b1, b2⟩ := I.mod.blt
  have gl := I.mod.glob.keeps I.bk
  have bl := b1.keeps I.bk
  have nl := I.nolimit
  refine wpAny_Call_Name_kw (ld_glob I hg tx.gC (PySem.W.callWith_K0 I.kIn tx.kC ?_) hdb)
  obtain ⟨hp, gs, dr, tk, os⟩ := s
  have kp : ∀ b o, hp.get? b = some o → ((hp.push (PySem.W.kdv_tup [])).push (PySem.HandSPX.excO C hp.objs.size)).get? b = some o := fun b o e => Heap.get?_push_of_some _ (Heap.get?_push_of_some _ e)
  have he : ((hp.push (PySem.W.kdv_tup [])).push (PySem.HandSPX.excO C hp.objs.size)).get? (hp.objs.size + 1) = some (exO C hp.objs.size) := by heap_get
  have big : hp.objs.size ≤ hp.objs.size + 1 := Nat.le_succ _
  refine wpAny_call (PySem.HandSPX.call_own PySem.F.excBase_ValueError (fun Y => PySem.HandSPX.refsVE_contains Y bm hbm) (I.kIn _ _ lcls) (PySem.W.looks_findIn I.kIn ix.iC) (fun self => PySem.W.bind_fn I.kIn self ix.tI) (Nat.zero_le _) ?_)
  refine init0 tx ix (I.kIn.keeps kp) (nl.keeps kp) (gl.keeps kp) (bl.keeps kp) (b2 _ (by decide)) he (by rw [make_depth]; have := hr.dp; omega) fun h' t' t1 k o' => ?_
  have old : ∀ b o, hp.get? b = some o → h'.get? b = some o := fun b o e => k b o (Nat.ne_of_lt (Nat.lt_of_lt_of_le (Heap.lt_size e) big)) (kp b o e)
  have no : hp.get? (hp.objs.size + 1) = none := Heap.get?_none_of_le big
  exact ⟨rfl, _, _, _, ⟨hp, gs, dr, tk, os⟩, H, .ref C, none, rfl, I, old, no, o', ⟨rfl, rfl⟩, rfl, rfl, I.hok.fresh big, rfl, I.bare, raises_own tx.exC tx.tyC, h⟩
/-- raise C() -/
def sRaise0 (x : Str) : Env' → So := fun env => .exc x none env
theorem ss_raise0 (Fr : Fra X j W) (tx : ETx X.prog X.K X.mg x C) (ix : ITx X.prog X.K C fI ["self"] []) (hk : k + 1 ≤ j) (hg : Gl X x) (hdb : (x == ("__debug__" : Str)) = false := by decide) : SS X T W (.Raise (some (.Call (.Name x p) [] [] pos)) none pos2) (sRaise0 x) :=
  PS.weak (ps_raise Fr.C.calm Fr.tk (pmk0 (k := k) tx ix (Fr.C.room.mono hk) hg hdb)) fun De σ H h => by
    obtain ⟨F, env, S, h⟩ := h
    exact h (.ref C) none σ H .refl S ⟨C, tx.gC, rfl, rfl⟩
end
/-! ### .. and keeps what it got in a field -/
abbrev keepS (f : Str) (q1 q2 q3 q4 : Pos) : Stmt := .Assign [.Attribute (.Name "self" q1) f q2] (.Name f q3) q4
/-- what the class says of its field f -/
structure FTx (K : Frag) (C : Addr) (f : Str) : Prop where
  sa : PySem.W.findIn K (.ref C) "__setattr__" = some (some (.builtin "object.__setattr__"))
  no : PySem.W.findIn K (.ref C) f = some none
  xf : L2.XfC K C
section
variable {P : Program} {w : World} {A : Around} {E : Value → Shared → Prop} {h : Heap} {g : Array GenState} {d : Drawn} {t : Nat} {os : OsState} {K : Frag} {mg : Str → Option Value} {x f : Str} {C fI e u t0 : Addr}
theorem init1 {R : Result → Shared → Prop} {v : Value} {q1 q2 q3 q4 : Pos} (T : ETx P K mg x C) (Fx : FTx K C f) (hf : f ≠ "self") (Ix : ITx P K C fI ["self", f] [keepS f q1 q2 q3 q4]) (sw : ∀ env : Env, swapsWith (.Name f q3) (some (.Attribute (.Name "self" q1) f q2)) q4.line env = pure false) (hd : (f == ("__debug__" : Str)) = false)
    (hnx : K.lookup e = none) (X : K.In h) (nl : h.NoLimit) (gl : h.Ns mainGlobals mg) {mb : Str → Option Value} (bl : h.Ns builtinsNs mb) (bs : mb "super" = bootBuiltins "super") (he : h.get? e = some (exO C t0)) (room : A.depth < recursionLimit)
    (hq : ∀ h' tk t1 dx, (∀ b o, b ≠ e → h.get? b = some o → h'.get? b = some o) → h'.get? e = some { cls := .ref C, dict := some dx, data := .fields #[.ref t1, .none, .none, .none, .bool false, .none] } → h.objs.size ≤ dx → dx ≠ e → h'.Ns1 dx (fun y => if y = f then some v else none) → R (.ok (.ret .none)) ⟨h', g, d, tk, os⟩) :
    codeAny (model P w) A (.call (.ref fI) ⟨[.ref e, v], []⟩) R ⟨h, g, d, t, os⟩ := by
  obtain ⟨qual, params, scope, kV, doc, pm, ct, oc, an, od, osl, cc, cda, ccl, cdd, vs, ccs, file, tf, cl, cld, csl, ar, txt, j, p0, p1, p2, p3, p4, p5, lI, lcd, lD, l2, lf, lC, lb, hp, ha, hc, hl, k1, k2, k4, k5, k6, kE⟩ := Ix.fn
  obtain ⟨nm, q, N, bas, bm, sn, sub, ab, col, dd, w0, w1, w2, w3, w5, lcls, hbm⟩ := T.cls
  have hcl : PySem.W.clsIn K C = some { name := nm, bases := bas, mro := .ref C :: bm, ns := N, qualname := q, hasDict := true, slotNames := sn, subclasses := sub, abstract := ab, collection := col, hasDel := false } := by unfold PySem.W.clsIn; rw [lcls] <;> rfl
  refine PySem.ks_codeAny_call_defAt (binds := [("self", .ref e), (f, v)]) room (X _ _ lI) rfl nl (PySem.W.codeRec_of X lcd) rfl (BindsTo.of_eq (lb [.ref e, v] rfl)) hc (fun y hy => ?_) (fun h1 hn kp => ?_) k5 k6 k4
  · rcases List.mem_cons.mp hy with z | z
    · rw [z]
      exact hl _ List.mem_cons_self
    · rw [List.mem_singleton.mp z]
      exact hl _ (List.mem_cons_of_mem _ List.mem_cons_self)
  · obtain ⟨⟨pl, ev⟩, hi, hw⟩ := kE h.objs.size
    have m1 : ([(("self" : Str), Value.ref e), (f, v)] : List (Str × Value)).reverse.lookup ("self" : Str) = some (Value.ref e) := by
      have z : (("self" : Str) == f) = false := by simpa using Ne.symm hf
      simp [List.lookup, z]
    have m2 : ([(("self" : Str), Value.ref e), (f, v)] : List (Str × Value)).reverse.lookup f = some v := by simp [List.lookup]
    refine PySem.ks_wpAt_execs_cons (sup_at T (X.keeps kp) (gl.keeps kp) (bl.keeps kp) bs (kp _ _ he) hn m1 lI lD l2 lf lC hp ha k1 k2 (hl _ List.mem_cons_self) k4 ev hi hw fun h2 tk t1 k o2 => ?_)
    have kn : e ≠ h.objs.size := Nat.ne_of_lt (Heap.lt_size he)
    have hn2 : h2.Ns h.objs.size (fun y => ([(("self" : Str), Value.ref e), (f, v)] : List (Str × Value)).reverse.lookup y) := by
      obtain ⟨o, es, n, z1, z2⟩ := hn
      exact ⟨o, es, n, k _ _ (Ne.symm kn) z1, z2⟩
    have X2 : K.In h2 := fun b o z => k b o (fun y => by
      rw [y, hnx] at z
      cases z) (kp _ _ (X _ _ z))
    refine PySem.wpAt_of_wpAny (wpAny_execs_cons (plainObj_wpAny_Assign_Attribute (wpAny_Name (wpAny_loadName_local k4 (hl _ (List.mem_cons_of_mem _ List.mem_cons_self)) hn2 m2 (wpAny_Name (wpAny_loadName_local k4 (hl _ List.mem_cons_self) hn2 m1 ?_) (by decide))) hd) (sw _)))
    refine PySem.W.set_plain X2 (ox := exO C t1) (od := none) ⟨o2, rfl, rfl, trivial⟩ Fx.sa (PySem.HandSPX.exc_osa X2 o2 hcl (show PySem.HandSPX.refsVE (.ref C :: bm) = true from hbm) rfl Fx.no fun h3 tk3 dx k3 dn dne o3 n3 => ?_)
    exact wpAny_execs_nil (hq h3 tk3 t1 dx (fun b o nb z => k3 b o nb (k b o nb (kp b o z))) o3 (Nat.le_of_lt (Nat.lt_of_lt_of_le hn2.lt dn)) dne n3)
end
section
variable {X : Cx} {W : WX} {T : Tb} {k j : Nat} {x f : Str} {C fI : Addr} {p pos pos2 : Pos} {a : Expr} {g : Env' → Ro D} {ta : TA}
theorem relO_one {v : V} {v' : Value} (r : RelV v v') (y : Str) : RelO (List.lookup y [(f, v)]) (if y = f then some v' else none) := by
  by_cases hw : y = f
  · subst hw
    simpa [List.lookup, RelO] using r
  · have qw : (y == f) = false := by simpa using hw
    rw [if_neg hw]
    simp [List.lookup, qw, RelO]
/-- C(e) -/
theorem pmk1 {q1 q2 q3 q4 : Pos} (tx : ETx X.prog X.K X.mg x C) (fx : FTx X.K C f) (hf : f ≠ "self") (ix : ITx X.prog X.K C fI ["self", f] [keepS f q1 q2 q3 q4]) (sw : ∀ env : Env, swapsWith (.Name f q3) (some (.Attribute (.Name "self" q1) f q2)) q4.line env = pure false) (hd : (f == ("__debug__" : Str)) = false) (hr : Room (k + 1) X.A) (ha : PA X [a] ta) (hg : Gl X x)
    (hdb : (x == ("__debug__" : Str)) = false := by decide) (he : starEach (a :: []) X.env = (false, eval a X.env) :: starEach [] X.env := by rfl) (hpl : (backTo pos (starEach [] X.env)).any (·.1) = false := by rfl) :
    PMk X (.Call (.Name x p) [a] [] pos) (fun σ H Q => ta σ H fun vs H1 => ∃ v, vs = [v] ∧ ∀ dx, H1 dx = none → Q (.ref C) (some dx) (upd H1 dx (.xd [(f, v)]))) := by
  intro pins s σ H Q I h
  obtain ⟨nm, q, N, bas, bm, sn, sub, ab, col, dd, w0, w1, w2, w3, w5, lcls, hbm⟩ := tx.cls
  refine wpAny_Call_Name_kw (ld_glob I hg tx.gC (PySem.W.callWith_K (h₀ := X.base) I.ok.mod.kin tx.kC (thn (ha.run pos pins s σ H _ I h) fun us s1 hh => ?_) he hpl) hdb)
  obtain ⟨vs, H1, I1, r1, v, rfl, q1'⟩ := hh
  refine ⟨I1.kIn, ?_⟩
  obtain ⟨v', rfl, rv⟩ := vals1 r1
  obtain ⟨mb, b1, b2⟩ := I1.mod.blt
  have gl := I1.mod.glob.keeps I1.bk
  have bl := b1.keeps I1.bk
  have nl := I1.nolimit
  obtain ⟨hp, gs, dr, tk, os⟩ := s1
  have kp : ∀ b o, hp.get? b = some o → ((hp.push (PySem.W.kdv_tup [v'])).push (PySem.HandSPX.excO C hp.objs.size)).get? b = some o := fun b o e => Heap.get?_push_of_some _ (Heap.get?_push_of_some _ e)
  have he' : ((hp.push (PySem.W.kdv_tup [v'])).push (PySem.HandSPX.excO C hp.objs.size)).get? (hp.objs.size + 1) = some (exO C hp.objs.size) := by heap_get
  have big : hp.objs.size ≤ hp.objs.size + 1 := Nat.le_succ _
  have no : hp.get? (hp.objs.size + 1) = none := Heap.get?_none_of_le big
  have hnx : X.K.lookup (hp.objs.size + 1) = none := by
    cases e : X.K.lookup (hp.objs.size + 1) with
    | none => rfl
    | some o =>
      have z := I1.kIn _ _ e
      rw [show (Shared.heap ⟨hp, gs, dr, tk, os⟩).get? (hp.objs.size + 1) = none from no] at z
      cases z
  refine wpAny_call (PySem.HandSPX.call_own PySem.F.excBase_ValueError (fun Y => PySem.HandSPX.refsVE_contains Y bm hbm) (I1.kIn _ _ lcls) (PySem.W.looks_findIn I1.kIn ix.iC) (fun self => PySem.W.bind_fn I1.kIn self ix.tI) (show 1 ≤ sizeLine by rw [sizeLine_eq]; decide) ?_)
  refine init1 tx fx hf ix sw hd hnx (I1.kIn.keeps kp) (nl.keeps kp) (gl.keeps kp) (bl.keeps kp) (b2 _ (by decide)) he' (by rw [make_depth]; have := hr.dp; omega) fun h' t' t1 dx k o' dn dne ns => ?_
  have dn' : hp.objs.size ≤ dx := by
    have z := dn
    rw [Heap.size_push, Heap.size_push] at z
    omega
  have old : ∀ b o, hp.get? b = some o → h'.get? b = some o := fun b o e => k b o (Nat.ne_of_lt (Nat.lt_of_lt_of_le (Heap.lt_size e) big)) (kp b o e)
  obtain ⟨G', g1, g2⟩ := restrict h' fun b => decide (b ≠ hp.objs.size + 1)
  have gk : ∀ b, b ≠ hp.objs.size + 1 → G'.get? b = h'.get? b := fun b hb => g1 b (decide_eq_true hb)
  have ge : G'.get? (hp.objs.size + 1) = none := g2 _ (by simp)
  have ob : ObjOk X.prog X.w (upd H1 dx (.xd [(f, v)])) G' dx (.xd [(f, v)]) := ⟨_, ns.at (fun o z => (gk dx dne).trans z), fun y => relO_one rv y⟩
  have J : Inv X pins σ (upd H1 dx (.xd [(f, v)])) ⟨G', gs, dr, t', os⟩ := I1.laid (t' := t') (fun b o z => (gk b (Nat.ne_of_lt (Nat.lt_of_lt_of_le (Heap.lt_size z) big))).trans (old b o z)) dn' ob
  refine ⟨rfl, _, _, _, ⟨G', gs, dr, t', os⟩, _, .ref C, some dx, rfl, J, fun b o z => ?_, ge, o', ⟨rfl, rfl⟩, rfl, rfl, ?_, rfl, I1.bare, raises_own tx.exC tx.tyC, q1' dx (I1.hok.fresh dn')⟩
  · have nb : b ≠ hp.objs.size + 1 := fun e => by
      have z' : G'.get? b = some o := z
      rw [e, ge] at z'
      cases z'
    exact (gk b nb).symm.trans z
  · rw [upd_ne (Ne.symm dne)]
    exact I1.hok.fresh big
/-- raise C(e) -/
def sRaise1 (x f : Str) (g : Env' → Ro D) : Env' → So := fun env => ofRo (g env) fun d e => .exc x (some (f, d)) e
theorem ss_raise1 {q1 q2 q3 q4 : Pos} (Fr : Fra X j W) (tx : ETx X.prog X.K X.mg x C) (fx : FTx X.K C f) (hf : f ≠ "self") (ix : ITx X.prog X.K C fI ["self", f] [keepS f q1 q2 q3 q4]) (sw : ∀ env : Env, swapsWith (.Name f q3) (some (.Attribute (.Name "self" q1) f q2)) q4.line env = pure false) (hd : (f == ("__debug__" : Str)) = false) (hk : k + 1 ≤ j) (ha : SE X T W a g) (hg : Gl X x)
    (hdb : (x == ("__debug__" : Str)) = false := by decide) (he : starEach (a :: []) X.env = (false, eval a X.env) :: starEach [] X.env := by rfl) (hpl : (backTo pos (starEach [] X.env)).any (·.1) = false := by rfl) : SS X T W (.Raise (some (.Call (.Name x p) [a] [] pos)) none pos2) (sRaise1 x f g) :=
  PS.weak (ps_raise Fr.C.calm Fr.tk (pmk1 (k := k) tx fx hf ix sw hd (Fr.C.room.mono hk) (pa_cons ha pa_nil he) hg hdb he hpl)) fun De σ H h => rdS_bind (R := isD (gm X)) h fun F env d v H1 S1 i1 h1 => ⟨v, rfl, fun dx hn => by
    have n : New H1 (upd H1 dx (.xd [(f, v)])) := New.upd hn
    exact h1 (.ref C) (some dx) σ _ n.stp (S1.new n) ⟨C, tx.gC, rfl, dx, v, rfl, upd_same, Is.mono (n.le S1) _ _ i1⟩⟩
end
end Rf

namespace Rf
open PySem L2 LamX

/-! ## try -/
section
variable {G : Gm} {T : Tb} {F : Addr → Prop} {σ σ' : St} {H H' : Hp} {env e : Env'} {i : Nat} {a : Addr}
theorem ow_drop {x : Option V} {b : Addr} (z : Ow (σ.set i x) (env.set i .no) b) : Ow σ env b := by
  obtain ⟨j, d, h1, h2⟩ := z
  rcases get_set h1 with ⟨_, q, _⟩ | ⟨q, h1⟩
  · cases q
  · rw [List.getElem?_set_ne q] at h2
    exact ⟨j, d, h1, h2⟩
theorem le_drop {x : Option V} : Le (hid H (Hd F σ env)) (hid H (Hd F (σ.set i x) (env.set i .no))) := Le.hid fun b o e _ k => ⟨fun z => k (by
  rcases z with z | z
  · exact .inl (ow_drop z)
  · exact .inr z), e⟩
theorem stp_drop {x : Option V} : Stp σ H env (σ.set i x) H (env.set i .no) := ⟨fun _ _ e _ _ => e, fun a _ k z => k (ow_drop z), fun _ e => e⟩
/-- the slot i is let go, or holds what is no data; T2 what is kept from now on -/
theorem Sta.drop {T2 : Tb} (S : Sta G T F σ H env) (x : Option V) (tb : TabP T2 (σ.set i x) H) (ol : OldP T2 (σ.set i x) H (env.set i .no)) (vi : Le T2.vis (hid H (Hd F (σ.set i x) (env.set i .no)))) : Sta G T2 F (σ.set i x) H (env.set i .no) := by
  refine ⟨by rw [List.length_set, List.length_set]; exact S.len, fun j s e => ?_, fun j k d d' b h1 h2 h3 h4 => ?_, fun b z => S.fr b (ow_drop z), S.fd, tb, ol, vi⟩
  · rcases get_set e with ⟨e1, e2, e3⟩ | ⟨e1, e⟩
    · subst e1 e2
      exact ⟨x, List.getElem?_set_self (by rw [← S.len]; exact e3), trivial⟩
    · obtain ⟨y, q1, q2⟩ := S.sl j s e
      exact ⟨y, by rw [List.getElem?_set_ne e1]; exact q1, q2.mono le_drop fun _ _ _ _ => rfl⟩
  · rcases get_set h1 with ⟨_, q, _⟩ | ⟨n1, h1⟩
    · cases q
    rcases get_set h2 with ⟨_, q, _⟩ | ⟨n2, h2⟩
    · cases q
    rw [List.getElem?_set_ne n1] at h3
    rw [List.getElem?_set_ne n2] at h4
    exact S.dis j k d d' b h1 h2 h3 h4
open Classical in
/-- the frame from here on: slot i holds a -/
noncomputable def tbS (T : Tb) (σ : St) (H : Hp) (env : Env') (F : Addr → Prop) (i : Nat) (a : Addr) : Tb := ⟨T.tabs, (i, a) :: T.pins, fun b => if Ow σ env b then none else H b, hid H (Hd F σ env)⟩
theorem tbS_old {b : Addr} {o : HO} (h : (tbS T σ H env F i a).old b = some o) : ¬ Ow σ env b ∧ H b = some o := by
  unfold tbS at h
  simp only at h
  split at h
  · cases h
  · rename_i q
    exact ⟨q, h⟩
theorem tbS_no {b : Addr} (h : (tbS T σ H env F i a).old b = none) : H b = none ∨ Ow σ env b := by
  unfold tbS at h
  simp only at h
  split at h
  · rename_i q
    exact .inr q
  · exact .inl h
theorem sta_suite (S : Sta G T F σ H env) (fr : Fr T i) (hl : i < σ.length) : Sta G (tbS T σ H env F i a) F (σ.set i (some (.ref a))) H (env.set i .no) := by
  refine S.drop _ ⟨S.tab.1, fun p hp => ?_⟩ ⟨fun b o e _ => (tbS_old e).2, fun b e => ?_, fun b z => ?_⟩ le_drop
  · rcases List.mem_cons.mp hp with z | z
    · rw [z]
      exact List.getElem?_set_self hl
    · rw [List.getElem?_set_ne (fr p z).symm]
      exact S.tab.2 p z
  · cases q : (tbS T σ H env F i a).old b with
    | none => exact absurd q e
    | some o =>
      rw [(tbS_old q).2]
      simp
  · unfold tbS
    simp only
    rw [if_pos (ow_drop z)]
theorem sta_unsuite {F' : Addr → Prop} (S : Sta G T F σ H env) (fr : Fr T i) (S' : Sta G (tbS T σ H env F i a) F' σ' H' e) : Sta G T F' (σ'.set i none) H' (e.set i .no) := by
  refine S'.drop _ ⟨S'.tab.1, fun p hp => ?_⟩ ⟨fun b o z n => ?_, fun b z => ?_, fun b z => ?_⟩ ((S.vis.trans S'.vis).trans le_drop)
  · rw [List.getElem?_set_ne (fr p hp).symm]
    exact S'.tab.2 p (List.mem_cons_of_mem _ hp)
  · refine S'.old.kp b o ?_ n
    unfold tbS
    simp only
    rw [if_neg fun w => by rw [S.old.ow b w] at z; cases z]
    exact S.old.kp b o z n
  · refine S'.old.dm b ?_
    unfold tbS
    simp only
    rw [if_neg fun w => by rw [S.old.ow b w] at z; exact z rfl]
    exact S.old.dm b z
  · exact S.old.free (tbS_no (S'.old.ow b (ow_drop z)))
end
/-- the exception that a suite holds in slot i: an own one of the class c, what it keeps -/
structure HeldX (X : Cx) (T : Tb) (i : Nat) (c : Str) (p : Option (Str × D)) (a C : Addr) (dd : Option Addr) (oe : Obj) : Prop where
  hz : Zc (.ref C) dd oe
  hf : ∃ vs, oe.data = .fields vs
  gC : X.mg c = some (.ref C)
  pin : (i, a) ∈ T.pins
  fld : match p with
    | none => dd = none
    | some (f, d) => ∃ x v, dd = some x ∧ T.old x = some (.xd [(f, v)]) ∧ Is (gm X) T.vis d v
def offS (i : Nat) : So → So
  | .nx e => .nx (e.set i .no)
  | .ret d e => .ret d (e.set i .no)
  | .retF d e => .retF d (e.set i .no)
  | .bk e => .bk (e.set i .no)
  | .ct e => .ct (e.set i .no)
  | .exc _ _ _ => .stk
  | .stk => .stk
/-- try: .. except E as n: ..; errs: the own classes that E takes -/
def sTry (i : Nat) (errs : List Str) (f : Env' → So) (g : Str → Option (Str × D) → Env' → So) : Env' → So := fun env => match f env with
  | .exc c p e => if errs.contains c && decide (i < e.length) then offS i (g c p (e.set i .no)) else .stk
  | r => r
section
variable {X : Cx} {T : Tb} {W : WX} {k i : Nat} {x n : Str} {C0 : Addr} {body suite : List Stmt} {b₀ : Stmt} {np pos pos' : Pos} {f : Env' → So} {g : Str → Option (Str × D) → Env' → So} {errs : List Str}
theorem ss_try (Fr' : Fra X k W) (hs : X.stack = X.env :: X.outer) (hf : X.env.frame = some X.env.locals) (hi : X.N[i]? = some n) (hln : X.env.kindOf n = some .local) (hg : Gl X x) (hm : X.mg x = some (.ref C0)) (hdb : (x == ("__debug__" : Str)) = false) (fr : Fr T i)
    (he : ∀ c C, errs.contains c = true → X.mg c = some (.ref C) → PySem.W.exmOne X.K (.ref C) (.ref C0) = some true) (hb : ∀ W' pn xe, Fra (X.tr pn xe) k W' → SB (X.tr pn xe) T W' body f)
    (hsu : ∀ (T' : Tb) (c : Str) (p : Option (Str × D)) (a C : Addr) (dd : Option Addr) (oe : Obj) (pn : List (Addr × Obj)), errs.contains c = true → HeldX X T' i c p a C dd oe → (∀ q ∈ T'.pins, q = (i, a) ∨ q ∈ T.pins) → SB (X.suite a ((a, oe) :: pn)) T' noW (b₀ :: suite) (g c p)) :
    SS X T W (.Try body [.ExceptHandler (some (.Name x np)) (some n) (b₀ :: suite) pos'] [] [] pos) (sTry i errs f g) := by
  refine PS.weak (ps_try_as (c := .ref C0) (i := i) (tb := fun W' => rdS (gm X) T f W')
    (ts := fun a cls dd De σ H => ∃ (T' : Tb) (c : Str) (p : Option (Str × D)) (C : Addr), cls = .ref C ∧ errs.contains c = true ∧ (∀ oe, Zc cls dd oe → (∃ vs, oe.data = .fields vs) → HeldX X T' i c p a C dd oe) ∧ (∀ q ∈ T'.pins, q = (i, a) ∨ q ∈ T.pins) ∧ rdS (gm X) T' (g c p) noW De σ H)
    hs hf Fr'.C.nd hi hln ⟨hg, hdb, .inl hm⟩ Fr'.tk (fun W' pn xe tk po => hb W' pn xe ⟨⟨Fr'.C.room, Fr'.C.gd, Fr'.C.calm, Fr'.C.nd⟩, tk, po⟩)
    (fun a oe cls dd pn hz hv => ⟨fun pins s σ H De I h => by
      obtain ⟨T', c, p, C, ec, hc, hh, hp, h⟩ := h
      have q := hh oe hz hv
      exact (hsu T' c p a C dd oe pn hc q hp).run pins s σ H De I h⟩)) fun De σ H h => ?_
  obtain ⟨F, env, S, h⟩ := h
  refine ⟨F, env, S, ?_⟩
  unfold sTry at h
  cases ef : f env with
  | exc c p e =>
    rw [ef] at h
    simp only at h
    split at h
    · rename_i hc
      obtain ⟨hc, hl⟩ := Bool.and_eq_true_iff.mp hc
      have hl := of_decide_eq_true hl
      intro cls dd σ1 H1 s1 S1 ix
      obtain ⟨C, gC, rfl, hp⟩ := ix
      refine ⟨true, he c C hc gC, fun _ a na => ?_, fun z => by cases z⟩
      refine ⟨tbS T σ1 H1 e F i a, c, p, C, rfl, hc, fun oe hz hv => ⟨hz, hv, gC, List.mem_cons_self, ?_⟩, fun q hq => List.mem_cons.mp hq, F, e.set i .no, sta_suite S1 fr (by rw [← S1.len]; exact hl), ?_⟩
      · cases p with
        | none => exact hp
        | some p =>
          obtain ⟨fl, d⟩ := p
          obtain ⟨y, v, h1, h2, h3⟩ := hp
          refine ⟨y, v, h1, ?_, h3⟩
          unfold tbS
          simp only
          rw [if_neg fun w => ?_]
          · exact h2
          · obtain ⟨j, d', w1, w2⟩ := w
            obtain ⟨x', w3, w4⟩ := S1.sl j _ w1
            rw [w2] at w3
            cases w3
            obtain ⟨a', w5, w6⟩ := w4
            cases w5
            cases d' <;> first
              | exact w6.elim
              | (obtain ⟨vs, w7, _⟩ := w6
                 rw [h2] at w7
                 cases w7)
      · have sE : Stp σ1 H1 e (σ1.set i (some (.ref a))) H1 (e.set i .no) := stp_drop
        cases eg : g c p (e.set i .no) with
        | nx e2 =>
          rw [eg] at h
          intro σ2 H2 s2 S2
          exact h _ H2 (((s1.trans sE).trans s2).trans stp_drop) (sta_unsuite S1 fr S2)
        | bk e2 =>
          rw [eg] at h
          intro σ2 H2 s2 S2
          exact h _ H2 (((s1.trans sE).trans s2).trans stp_drop) (sta_unsuite S1 fr S2)
        | ct e2 =>
          rw [eg] at h
          intro σ2 H2 s2 S2
          exact h _ H2 (((s1.trans sE).trans s2).trans stp_drop) (sta_unsuite S1 fr S2)
        | ret d e2 =>
          rw [eg] at h
          intro v σ2 H2 s2 S2 iv
          exact h v _ H2 (((s1.trans sE).trans s2).trans stp_drop) (sta_unsuite S1 fr S2) (Is.mono le_drop _ _ iv)
        | retF d e2 =>
          rw [eg] at h
          intro b σ2 H2 s2 S2 o nb
          exact h b _ H2 (((s1.trans sE).trans s2).trans stp_drop) (sta_unsuite S1 fr S2) (o.mono le_drop rfl) ((s1.trans sE).back nb)
        | exc c' p' e2 => rw [eg] at h; exact h.elim
        | stk => rw [eg] at h; exact h.elim
    · exact h.elim
  | nx e => rw [ef] at h; exact h
  | ret d e => rw [ef] at h; exact h
  | retF d e => rw [ef] at h; exact h
  | bk e => rw [ef] at h; exact h
  | ct e => rw [ef] at h; exact h
  | stk => rw [ef] at h; exact h
end
end Rf

namespace Rf
open PySem L2 LamX
open PyProof.Rows hiding St

/-! ## isinstance of the exception that a suite holds -/
section
variable {X : Cx} {T : Tb} {W : WX} {i : Nat} {c : Str} {a C Dy : Addr} {dd : Option Addr} {oe : Obj} {pn : List (Addr × Obj)} {n y : Str} {b : Bool} {p p1 p2 pos : Pos}
theorem is_law {cv : Value} {cV : V} (hp : (i, a) ∈ T.pins) (hcv : ∀ u, RelV cV u → u = cv) (hk : PySem.W.kitOne X.K (.ref C) cv = some b) {σ : St} {H : Hp} {Q : VK} (h : rd (gm X) T (isD (gm X)) (eC (.bl b)) W σ H Q) : tCB (rIsE X.K C a) (tCons (tVar i) (tCons (tC cV) tNil)) σ H Q := by
  obtain ⟨F, env, S, h⟩ := h
  exact ⟨.ref a, S.tab.2 _ hp, cV, cv, b, rfl, hcv, hk, h (.bl b) H .refl S rfl⟩
/-- isinstance(e, Y), Y an own class -/
theorem se_isX (hh : HeldX X T i c none a C dd oe) (ec : ExcC X.K C) (hk : PySem.W.kitOne X.K (.ref C) (.ref Dy) = some b) (hm : X.mg y = some (.ref Dy)) (hN : X.N[i]? = some n) (hv : X.env.kindOf n = some .local) (hg : Gl X "isinstance") (hmi : X.mg "isinstance" = none) (hgy : Gl X y)
    (hd : (n == ("__debug__" : Str)) = false := by decide) (hcd : (n == ("__classdict__" : Str)) = false := by decide) (hdy : (y == ("__debug__" : Str)) = false := by decide)
    (h0 : starEach [.Name n p1, .Name y p2] X.env = (false, eval (.Name n p1) X.env) :: starEach [.Name y p2] X.env := by rfl) (h1 : starEach [.Name y p2] X.env = (false, eval (.Name y p2) X.env) :: starEach [] X.env := by rfl) (hpl : (backTo pos (starEach [.Name y p2] X.env)).any (·.1) = false := by rfl) :
    SE (X.suite a ((a, oe) :: pn)) T W (.Call (.Name "isinstance" p) [.Name n p1, .Name y p2] [] pos) (eC (.bl b)) := by
  have hz := hh.hz
  have e0 : dd = none := hh.fld
  rw [e0] at hz
  exact PE.weak (pe_callB (X := X.suite a ((a, oe) :: pn)) (call_isE ec hz hh.hf) hg hmi (by decide +kernel) (pa_cons (pe_var (i := i) hN (.inl hv) hd hcd) (pa_cons (pe_glob (v := .ref Dy) hgy hm rfl hdy) pa_nil h1) h0) (he := h0) (hpl := hpl)) fun σ H Q h => is_law (cv := .ref Dy) (cV := .ref Dy) hh.pin (fun u r => r) hk h
/-- isinstance(e, Y), Y a built-in class -/
theorem se_isB {id : String} (hh : HeldX X T i c none a C dd oe) (ec : ExcC X.K C) (hk : PySem.W.kitOne X.K (.ref C) (.type id) = some b) (hm : X.mg y = none) (hby : bootBuiltins y = some (.type id)) (hN : X.N[i]? = some n) (hv : X.env.kindOf n = some .local) (hg : Gl X "isinstance") (hmi : X.mg "isinstance" = none) (hgy : Gl X y)
    (hny : y ≠ "__name__" := by decide) (hd : (n == ("__debug__" : Str)) = false := by decide) (hcd : (n == ("__classdict__" : Str)) = false := by decide) (hdy : (y == ("__debug__" : Str)) = false := by decide)
    (h0 : starEach [.Name n p1, .Name y p2] X.env = (false, eval (.Name n p1) X.env) :: starEach [.Name y p2] X.env := by rfl) (h1 : starEach [.Name y p2] X.env = (false, eval (.Name y p2) X.env) :: starEach [] X.env := by rfl) (hpl : (backTo pos (starEach [.Name y p2] X.env)).any (·.1) = false := by rfl) :
    SE (X.suite a ((a, oe) :: pn)) T W (.Call (.Name "isinstance" p) [.Name n p1, .Name y p2] [] pos) (eC (.bl b)) := by
  have hz := hh.hz
  have e0 : dd = none := hh.fld
  rw [e0] at hz
  exact PE.weak (pe_callB (X := X.suite a ((a, oe) :: pn)) (call_isE ec hz hh.hf) hg hmi (by decide +kernel) (pa_cons (pe_var (i := i) hN (.inl hv) hd hcd) (pa_cons (pe_bltn (v := .ty id) hgy hm hby rfl hny hdy) pa_nil h1) h0) (he := h0) (hpl := hpl)) fun σ H Q h => is_law (cv := .type id) (cV := .ty id) hh.pin (fun u r => r) hk h
end
/-! ## list.count, list.index of flat items -/
def fltV : D → Option V
  | .non => some .non
  | .bl b => some (.bl b)
  | .int i => some (.int i)
  | .str x => some (.str x)
  | _ => none
def fltVs : List D → Option (List V)
  | [] => some []
  | d :: ds => match fltV d, fltVs ds with
    | some v, some vs => some (v :: vs)
    | _, _ => none
theorem fltV_is {G : Gm} {H : Hp} {d : D} {v w : V} (e : fltV d = some v) (i : Is G H d w) : w = v ∧ flatV v = true := by
  cases d <;> first
    | (simp only [fltV, Option.some.injEq] at e; subst e; exact ⟨i, rfl⟩)
    | (simp [fltV] at e)
theorem fltVs_is {G : Gm} {H : Hp} : ∀ {ds : List D} {vs ws : List V}, fltVs ds = some vs → IsL G H ds ws → ws = vs ∧ vs.all flatV = true
  | [], vs, ws, e, i => by
    simp only [fltVs, Option.some.injEq] at e
    subst e
    exact ⟨i, rfl⟩
  | d :: ds, vs, ws, e, i => by
    unfold fltVs at e
    split at e
    · rename_i v r e1 e2
      obtain rfl := Option.some.inj e
      obtain ⟨x, r', rfl, i1, i2⟩ := i
      obtain ⟨z1, f1⟩ := fltV_is e1 i1
      obtain ⟨z2, f2⟩ := fltVs_is e2 i2
      rw [z1, z2]
      exact ⟨rfl, by rw [List.all_cons, f1, f2]; rfl⟩
    · cases e
def rCntF (K : PySem.W.Frag) : V → List V → Hp → VK → Prop := fun x xs H Q => ∃ (a : Addr) (ys : List V) (y : V), x = V.ref a ∧ xs = [y] ∧ SqL K H a ys ∧ flatV y = true ∧ ys.all flatV = true ∧ Q (.int (ys.countP (fun z => eqV z y) : Nat)) H
theorem cnt_eqU {y : V} : ∀ {ys : List V} {us : List Value}, Vals ys us → ys.all flatV = true → us.countP (eqU y) = ys.countP fun z => eqV z y
  | _, _, .nil, _ => rfl
  | z :: ys, u :: us, .cons r t, f => by
    rw [List.all_cons, Bool.and_eq_true] at f
    rw [List.countP_cons, List.countP_cons, cnt_eqU t f.2, eqU_of r f.1]
theorem mt_cntF {X : Cx} : MtR X "list.count" (rCntF X.K) := by
  intro pins s σ H x xs v us Q I rx rxs h
  obtain ⟨a, ys, y, rfl, rfl, hs, fy, fys, q⟩ := h
  cases rx
  obtain ⟨u, rfl, ry⟩ := rxs.one
  obtain ⟨its, rv, ⟨⟨cls, dd, data, sl⟩, n, ho, hc, hdn, hd⟩, hlen⟩ := I.list hs
  simp only at hc hd
  subst hc hd
  refine call_meets PySem.F.slot_list_count ⟨_, ho, rfl⟩ PySem.F.entry_list_count (PySem.F.args_list_count_2 _ _) (SeqAt.list_countAt a its.toArray n dd sl u (eqU y)) ⟨ho, fun z hz => mem_eqAt ry fy rv fys z (by simpa using hz), ?_⟩
  refine ⟨.int (ys.countP (fun z => eqV z y) : Nat), H, I.tok _, ⟨s.toks, ?_⟩, q⟩
  show Value.int ((its.toArray.toList.countP (eqU y) : Nat) : Int) s.toks = Value.int ((ys.countP (fun z => eqV z y) : Nat) : Int) s.toks
  rw [show its.toArray.toList.countP (eqU y) = its.countP (eqU y) by simp, cnt_eqU rv fys]
def dCount (xs : List D) (y : D) : Option D := match fltVs xs, fltV y with
  | some ys, some v => some (.int (ys.countP (fun z => eqV z v) : Nat))
  | _, _ => none
def dIndex (xs : List D) (y : D) : Option D := match fltVs xs, fltV y with
  | some ys, some v => (match ys.findIdx? (fun z => eqV z v) with
    | some j => some (.int (j : Nat))
    | none => none)
  | _, _ => none
/-- a method of the list that a name holds -/
def eLm (o : List D → D → Option D) (i : Nat) (g : Env' → Ro D) : Env' → Ro D := fun env => match slotD env i with
  | some (.lst _) => (g env).bind fun k e => match slotD e i with
    | some (.lst xs) => lift (o xs k) e
    | _ => .stk
  | _ => .stk
section
variable {X : Cx} {T : Tb} {W : WX} {b : Expr} {g : Env' → Ro D} {x name : Str} {p p2 p3 : Pos} {id : String} {r : V → List V → Hp → VK → Prop} {o : List D → D → Option D}
theorem se_lm (i : Nat) (slot : PySem.Slot "list" name id) (hty : typeOf (.builtin id) = pure (.type "method_descriptor")) (hm : MtR X id r)
    (ho : ∀ {Hs H : Hp} {a : Addr} {xs : List D} {vs : List V} {k d : D} {w : V} {Q : VK}, Le Hs H → H a = some (.lst vs) → IsL (gm X) Hs xs vs → Is (gm X) Hs k w → o xs k = some d → (∀ v, Is (gm X) Hs d v → Q v H) → r (.ref a) [w] H Q) (hb : SE X T W b g) (hN : X.N[i]? = some x := by rfl)
    (hv : Vis X.env.scope x := by first | exact Or.inl rfl | exact Or.inr (Or.inl rfl) | exact Or.inr (Or.inr rfl)) (hd : (x == ("__debug__" : Str)) = false := by decide) (hcd : (x == ("__classdict__" : Str)) = false := by decide)
    (hbase : attributeBase (.Name x p) name X.env (eval (.Name x p) X.env) = eval (.Name x p) X.env := by rfl)
    (hfew : ((backTo p3 (starEach (b :: []) X.env)).all (fun x => !x.1) && (backToKw p3 (keywordEach [] X.env)).all (fun x => x.1.isSome) && decide ((b :: []).length + ([] : List Keyword).length + (if ([] : List Keyword).isEmpty then 0 else 1) < 30)) = true := by rfl)
    (hline : (p2.endLine == p3.line) = true := by rfl) (hs : starEach (b :: []) X.env = (false, eval b X.env) :: starEach [] X.env := by rfl) : SE X T W (.Call (.Attribute (.Name x p) name p2) [b] [] p3) (eLm o i g) :=
  PE.weak (pe_bm PySem.F.plainAttrs_list slot hty hm (pe_var hN hv hd hcd) (pa_cons hb pa_nil hs) hbase hfew hline hs (by rfl)) fun σ H Q h => by
    obtain ⟨F, env, S, h⟩ := h
    unfold eLm at h
    split at h
    · rename_i xs0 e0
      obtain ⟨v, h1, b0⟩ := slot_bis S e0
      obtain ⟨a, vs0, rfl, s0, m0⟩ := b0.lst Le.unhid
      refine ⟨.ref a, h1, .inl ⟨rfl, vs0, .inl (.inl s0)⟩, F, env, S, Rst.bind (R := isD (gm X)) S h fun d2 w H2 env2 s2 S2 i2 h2 => ?_⟩
      split at h2
      · rename_i xs e
        obtain ⟨v', h1', b2⟩ := slot_bis S2 e
        rw [h1] at h1'
        obtain rfl := Option.some.inj (Option.some.inj h1')
        obtain ⟨z, e2, h2⟩ := lift_some h2
        obtain ⟨a', vs, e3, s3, m3⟩ := b2.lst Le.unhid
        cases e3
        exact ho Le.unhid s3 m3 i2 e2 fun v iv => fin_same (R := isD (gm X)) S2 iv h2
      · exact h2.elim
    · exact h.elim
theorem se_count (i : Nat) (hb : SE X T W b g) (hN : X.N[i]? = some x := by rfl) (hv : Vis X.env.scope x := by first | exact Or.inl rfl | exact Or.inr (Or.inl rfl) | exact Or.inr (Or.inr rfl)) (hd : (x == ("__debug__" : Str)) = false := by decide)
    (hcd : (x == ("__classdict__" : Str)) = false := by decide) (hbase : attributeBase (.Name x p) "count" X.env (eval (.Name x p) X.env) = eval (.Name x p) X.env := by rfl)
    (hfew : ((backTo p3 (starEach (b :: []) X.env)).all (fun x => !x.1) && (backToKw p3 (keywordEach [] X.env)).all (fun x => x.1.isSome) && decide ((b :: []).length + ([] : List Keyword).length + (if ([] : List Keyword).isEmpty then 0 else 1) < 30)) = true := by rfl)
    (hline : (p2.endLine == p3.line) = true := by rfl) (hs : starEach (b :: []) X.env = (false, eval b X.env) :: starEach [] X.env := by rfl) : SE X T W (.Call (.Attribute (.Name x p) "count" p2) [b] [] p3) (eLm dCount i g) :=
  se_lm i PySem.F.slot_list_count PySem.F.type_list_count mt_cntF (fun {Hs H a xs vs k d w Q} l s m ik e q => by
    unfold dCount at e
    split at e
    · rename_i ys v e1 e2
      obtain rfl := Option.some.inj e
      obtain ⟨z1, f1⟩ := fltVs_is e1 m
      obtain ⟨z2, f2⟩ := fltV_is e2 ik
      exact ⟨a, ys, v, rfl, by rw [z2], by rw [← z1]; exact .inl (.inl s), f2, f1, q _ rfl⟩
    · cases e) hb hN hv hd hcd hbase hfew hline hs
theorem se_index (i : Nat) (hb : SE X T W b g) (hN : X.N[i]? = some x := by rfl) (hv : Vis X.env.scope x := by first | exact Or.inl rfl | exact Or.inr (Or.inl rfl) | exact Or.inr (Or.inr rfl)) (hd : (x == ("__debug__" : Str)) = false := by decide)
    (hcd : (x == ("__classdict__" : Str)) = false := by decide) (hbase : attributeBase (.Name x p) "index" X.env (eval (.Name x p) X.env) = eval (.Name x p) X.env := by rfl)
    (hfew : ((backTo p3 (starEach (b :: []) X.env)).all (fun x => !x.1) && (backToKw p3 (keywordEach [] X.env)).all (fun x => x.1.isSome) && decide ((b :: []).length + ([] : List Keyword).length + (if ([] : List Keyword).isEmpty then 0 else 1) < 30)) = true := by rfl)
    (hline : (p2.endLine == p3.line) = true := by rfl) (hs : starEach (b :: []) X.env = (false, eval b X.env) :: starEach [] X.env := by rfl) : SE X T W (.Call (.Attribute (.Name x p) "index" p2) [b] [] p3) (eLm dIndex i g) :=
  se_lm i PySem.F.slot_list_index PySem.F.type_list_index mt_index (fun {Hs H a xs vs k d w Q} l s m ik e q => by
    unfold dIndex at e
    split at e
    · rename_i ys v e1 e2
      split at e
      · rename_i j e3
        obtain rfl := Option.some.inj e
        obtain ⟨z1, f1⟩ := fltVs_is e1 m
        obtain ⟨z2, f2⟩ := fltV_is e2 ik
        obtain ⟨hj, h1, h2⟩ := List.findIdx?_eq_some_iff_getElem.mp e3
        refine ⟨a, ys, v, j, ys[j], rfl, by rw [z2], by rw [← z1]; exact .inl (.inl s), f2, f1, by simp [hj], h1, fun n z' hn hz => ?_, q _ rfl⟩
        have h3 := h2 n hn
        have hn' : n < ys.length := by omega
        rw [List.getElem?_eq_getElem hn'] at hz
        cases hz
        simpa using h3
      · cases e
    · cases e) hb hN hv hd hcd hbase hfew hline hs
end
end Rf

namespace Rf
open PySem L2 LamX
open PyProof.Rows hiding St

/-! ## g(lambda: e), g a def that calls what it got -/
section
variable {G : Gm} {T : Tb} {F : Addr → Prop} {σ : St} {H H' : Hp} {env : Env'}
theorem Sta.grow (S : Sta G T F σ H env) (k : ∀ a o, H a = some o → (∀ ps, o ≠ .tbl ps) → H' a = some o) (dm : ∀ a, H a ≠ none → H' a ≠ none) (tb : Tabs T.tabs H') : Sta G T F σ H' env := by
  have le : Le (hid H (Hd F σ env)) (hid H' (Hd F σ env)) := Le.hid fun a o e n q => ⟨q, k a o e n⟩
  refine ⟨S.len, fun i s e => ?_, S.dis, S.fr, fun a z => mut_keep (S.fd a z) fun o e n => k a o e n, ⟨tb, S.tab.2⟩, S.old.to (fun a o _ n h => k a o h n) (fun a _ h => dm a h) fun _ z => .inl z, S.vis.trans le⟩
  obtain ⟨x, e1, e2⟩ := S.sl i s e
  refine ⟨x, e1, e2.mono le fun d a es ex => ?_⟩
  subst es ex
  obtain ⟨a', e', q⟩ := e2
  cases e'
  obtain ⟨o, z, nt, _⟩ := q.there
  rw [z, k _ _ z nt]
/-- what a lambda's body may see of its maker's slots -/
def pub : Slot → Slot
  | .v d => .v d
  | _ => .no
theorem pub_own {a : Addr} : ¬ Ow σ (env.map pub) a := fun ⟨i, d, h1, _⟩ => by
  rw [List.getElem?_map] at h1
  cases q : env[i]? with
  | none => rw [q] at h1; cases h1
  | some s =>
    rw [q] at h1
    cases s <;> cases h1
/-- the lambda's maker as it stands while g runs: Z the hidden ones of g's frame -/
theorem Sta.pubs {Z : Addr → Prop} {HZ : Hp} (S : Sta G T F σ H env) (k : ∀ a o, H a = some o → (∀ ps, o ≠ .tbl ps) → HZ a = some o) (dm : ∀ a, H a ≠ none → HZ a ≠ none) (tb : Tabs T.tabs HZ) (zd : ∀ a, Z a → L2.Mut (HZ a)) (vi : Le (hid H (Hd F σ env)) (hid HZ Z)) : Sta G T Z σ HZ (env.map pub) := by
  have eZ : hid HZ (Hd Z σ (env.map pub)) = hid HZ Z := hid_eq fun a => ⟨fun z => z.elim (fun z => absurd z pub_own) id, .inr⟩
  refine ⟨by rw [List.length_map]; exact S.len, fun i s e => ?_, fun i j d d' a h1 h2 h3 h4 => absurd ⟨i, d, h1, h3⟩ pub_own, fun a z => absurd z pub_own, zd, ⟨tb, S.tab.2⟩, S.old.to (fun a o _ n h => k a o h n) (fun a _ h => dm a h) fun _ z => absurd z pub_own, by rw [eZ]; exact S.vis.trans vi⟩
  rw [eZ]
  rw [List.getElem?_map] at e
  cases q : env[i]? with
  | none => rw [q] at e; cases e
  | some t =>
    rw [q] at e
    obtain ⟨x, e1, e2⟩ := S.sl i t q
    cases t with
    | v d =>
      cases e
      obtain ⟨v, rfl, e3⟩ := e2
      exact ⟨some v, e1, v, rfl, Is.mono vi _ _ e3⟩
    | o d => cases e; exact ⟨x, e1, trivial⟩
    | no => cases e; exact ⟨x, e1, trivial⟩
end
/-- what a thunk comes to, as g sees it -/
def eTh (r : Ro D) : Env' → Ro D := fun e => match r with
  | .ok d _ => .ok d e
  | .exc c p _ => .exc c p e
  | .stk => .stk
/-- g's frame from its start on -/
noncomputable def tbZ (T : Tb) (σ : St) (H : Hp) (env : Env') (F : Addr → Prop) (f : Addr) : Tb := ⟨T.tabs, [(0, f)], H, hid H (Hd F σ env)⟩
section
variable {X : Cx} {T : Tb} {W : WX} {k j : Nat} {params : Arguments} {body : Expr} {scope : Scope} {τ : Env' → Ro D} {pins : List (Addr × Obj)} {s : Shared} {σ : St} {H : Hp} {F : Addr → Prop} {env : Env'}
/-- the lambda's body, in each frame of it -/
def LamB (X : Cx) (T : Tb) (k : Nat) (scope : Scope) (body : Expr) (τ : Env' → Ro D) : Prop := ∀ (A : Around) (outer : List Env) (s : Shared) (H : Hp) (E : XK) (f c' : Addr), Ctx (lamCx X A outer s H E scope f c') k → Takes (lamCx X A outer s H E scope f c') (WofE E) → SE (lamCx X A outer s H E scope f c') T (WofE E) body τ
theorem se_act {Ng : List Str} {qg a : Str} {stg : Stmt} {g f c' : Addr} {cdg pm ctv : Value} {pn : List (Addr × Obj)} {xe : Value → Shared → Prop} {p1 p2 : Pos} {E : XK} (I : Inv X pins σ H s) (S : Sta (gm X) T F σ H env) (L : LamS X.env.scope scope)
    (hf : s.heap.get? f = some (PySem.W.kla_obj "<lambda>" (X.env.qual ++ "<lambda>") params body scope (cloFrom X.env.cells scope.names []) pm c' ctv)) (hfn : H f = none) (hfr : f ∉ frs X.stack) (hco : H c' = some (CodeO c' (X.env.qual ++ "<lambda>")))
    (hbind : bindArgs (PySem.W.kla_fn "<lambda>" (X.env.qual ++ "<lambda>") params body scope (cloFrom X.env.cells scope.names []) pm (.ref c') ctv) ⟨[], []⟩ = pure []) (hg : X.A.guards = some []) (hN : X.N.Nodup)
    (hr : Room (k + 1) (X.A.deeper (PyProof.Rows.envOfC qg (defScope stg) s.heap.objs.size g cdg))) (hb : LamB X T k scope body τ) (hNg : Ng[0]? = some a) (hv : Vis (defScope stg) a) (hd : (a == ("__debug__" : Str)) = false := by decide) (hcd : (a == ("__classdict__" : Str)) = false := by decide)
    (tk : Takes ((Bcx X.prog X.w X.K X.mg X.base Ng qg stg g cdg X.A X.stack s H E).tr pn xe) W) :
    SE ((Bcx X.prog X.w X.K X.mg X.base Ng qg stg g cdg X.A X.stack s H E).tr pn xe) (tbZ T σ H env F f) W (.Call (.Name a p1) [] [] p2) (eTh (τ (env.map pub))) := by
  refine ⟨fun pZ sZ σZ HZ Q IZ h => ?_⟩
  obtain ⟨FZ, eZ, SZ, h⟩ := h
  have hs : σZ[0]? = some (some (.ref f)) := SZ.tab.2 _ List.mem_cons_self
  have keep : ∀ b o, H b = some o → (∀ ps, o ≠ .tbl ps) → HZ b = some o := SZ.old.kp
  have dom : ∀ b, H b ≠ none → HZ b ≠ none := SZ.old.dm
  have SM : Sta (gm X) T (Hd FZ σZ eZ) σ HZ (env.map pub) := S.pubs keep dom SZ.tab.1 (fun b z => SZ.hd_mut z) SZ.vis
  refine wpAny_Call_Name_kw (thn ((pe_var (pos := p1) (i := 0) hNg hv hd hcd).run pZ sZ σZ HZ (fun v H1 => v = .ref f ∧ HZ = H1) IZ ⟨.ref f, hs, rfl, rfl⟩) fun u s1 ⟨v, H1, I1, r1, q1⟩ => ?_)
  obtain ⟨rfl, q2⟩ := q1
  rw [← q2] at I1
  obtain rfl : u = Value.ref f := r1
  have of1 := I1.base.keep f _ hf hfn hfr (fun z => nomatch (show f ∈ ([] : List Addr) from z))
  refine PySem.W.callWith_F0 ⟨_, _, _, _, of1⟩ ?_
  obtain ⟨⟨oc, vs, t, hoc, hdc, hvc⟩, _, _⟩ := I1.hok c' _ (keep _ _ hco codeO_ne)
  have run : codeAny (model X.prog X.w) (X.A.deeper (PyProof.Rows.envOfC qg (defScope stg) s.heap.objs.size g cdg)) (.call (.ref f) ⟨[], []⟩) (CR (L2.CX X.prog X.w) (PyProof.Rows.envOfC qg (defScope stg) s.heap.objs.size g cdg :: X.stack) X.prog X.w HZ s1 Q (WE W σZ)) s1 := by
    refine PySem.W.kla_callFunE hr.depth of1 rfl L.co L.gen rfl ⟨c', oc, vs, t, rfl, hoc, hdc, hvc⟩ ?_
    rw [hbind]
    refine wpAny_pure (wpAny_newFunctionEnv (fun y hy => (L.own y hy).2) (fun y hy => absurd hy List.not_mem_nil) (fun h1 hns hsb => ⟨I1.nolimit.fresh _ hsb, ?_⟩) L.kind)
    have kp : ∀ b o, s1.heap.get? b = some o → h1.get? b = some o := fun b o e => hsb.extBut b o (Nat.ne_of_lt (Heap.lt_size e)) (Heap.get?_push_of_some _ e)
    have J : Inv (lamCx X (X.A.deeper (PyProof.Rows.envOfC qg (defScope stg) s.heap.objs.size g cdg)) (PyProof.Rows.envOfC qg (defScope stg) s.heap.objs.size g cdg :: X.stack) s1 HZ (WE W σZ) scope f c') [] σ HZ { s1 with heap := h1, toks := s1.toks + ([] : List (Str × Value)).length } :=
      lam_start2 I L I1.env0 hr.hd (show Un (frs X.stack) [] H HZ s.heap s1.heap from I1.base) hns kp
    have Cl : Ctx (lamCx X (X.A.deeper (PyProof.Rows.envOfC qg (defScope stg) s.heap.objs.size g cdg)) (PyProof.Rows.envOfC qg (defScope stg) s.heap.objs.size g cdg :: X.stack) s1 HZ (WE W σZ) scope f c') k := ⟨hr.deeper _, hg, rfl, hN⟩
    refine PySem.W.kla_codeExpr (wpAny_mono ((hb _ _ s1 HZ (WE W σZ) f c' Cl (takes_of rfl rfl rfl rfl)).run [] _ _ HZ Q J ⟨Hd FZ σZ eZ, env.map pub, SM, ?_⟩) (fun v s' hq => ?_) fun e s' hq => hq)
    · have back : ∀ {H2 : Hp} {e2 : Env'}, Stp σ HZ (env.map pub) σ H2 e2 → Sta (gm X) T (Hd FZ σZ eZ) σ H2 e2 → Stp σZ HZ eZ σZ H2 eZ ∧ Sta (gm X) (tbZ T σ H env F f) FZ σZ H2 eZ ∧ Le (hid H2 (Hd (Hd FZ σZ eZ) σ e2)) (hid H2 (Hd FZ σZ eZ)) := fun {H2 e2} st S2 =>
        ⟨⟨fun b o e n _ => st.keep b o e n pub_own, fun _ _ k => k, st.dom⟩, SZ.grow (fun b o e n => st.keep b o e n pub_own) st.dom S2.tab.1, Le.hid fun b o e _ n => ⟨fun z => n (.inr z), e⟩⟩
      cases er : τ (env.map pub) with
      | ok d e2 =>
        rw [er] at h
        intro v H2 st S2 iv
        obtain ⟨s3, S3, le⟩ := back st S2
        exact h v H2 s3 S3 (Is.mono le _ _ iv)
      | exc c p e2 =>
        rw [er] at h
        intro cls dd H2 st S2 iv
        obtain ⟨s3, S3, le⟩ := back st S2
        exact h cls dd H2 s3 S3 (exc_mono le iv)
      | stk =>
        rw [er] at h
        exact h.elim
    · obtain ⟨w', H2, J', rv, q⟩ := hq
      exact ⟨w', H2, J'.os, J'.bare, J'.base, J'.hok, rv, q⟩
  refine wpAny_call (codeAny_mono run fun r s' hq => ?_)
  match r, hq with
  | .error er, hq => exact passAt tk σZ pZ HZ s1 er s' I1 hq
  | .ok (.ret u), hq => exact I1.after hq
  | .ok .next, hq => exact hq.elim
  | .ok .brk, hq => exact hq.elim
  | .ok .cont, hq => exact hq.elim
end
end Rf

namespace Rf
open PySem L2 LamX
open PyProof.Rows hiding St

section
variable {X : Cx} {pins : List (Addr × Obj)} {σ : St} {H : Hp} {s : Shared}
/-- a lambda is made: all that was there is there -/
theorem lam_new {tt : List (Addr × Str)} {c P : Addr} {q : Str} {params : Arguments} {body : Expr} {scope : Scope} {pos : Pos} {E : Value → Shared → Prop} {Q : Value → Shared → Prop} (eq : X.env.qual ++ "<lambda>" = q) (I : Inv X pins σ H s) (TB : TabB X.base X.mg c P) (hcode : X.env.code = .ref c) (hm : (P, q) ∈ tt) (hu : ∀ p ∈ tt, p.1 = P → p.2 = q)
    (hT : Tabs tt H) (hdef : defaultsOf params X.env = ([], [])) (hfree : ∀ y ∈ scope.names, y.2 = .free → ∃ c, X.env.cells.lookup y.1 = some c)
    (fin : ∀ (f c' : Addr) (pm ctv : Value) (H1 : Hp) (s' : Shared), Inv X pins σ H1 s' → ExtN H H1 → (∀ b, H b ≠ none → H1 b ≠ none) → Tabs tt H1 → s'.heap.get? f = some (PySem.W.kla_obj "<lambda>" q params body scope (cloFrom X.env.cells scope.names []) pm c' ctv) → H1 f = none → f ∉ frs X.stack → H1 c' = some (CodeO c' q) → Q (.ref f) s') :
    wpAny (model X.prog X.w) X.A (eval (.Lambda params body scope pos) X.env) Q E s := by
  subst eq
  obtain ⟨ps, tP, trip, am⟩ := hT _ hm
  have gP : s.heap.get? P = some { cls := .none, data := .fields ps } := I.hok P _ tP
  have outF : ∀ f, s.heap.objs.size ≤ f → f ∉ frs X.stack := fun f hf z => by
    rcases List.mem_cons.mp (I.stkSub _ z) with e | e
    · rw [e] at hf
      exact Nat.lt_irrefl _ (Nat.lt_of_lt_of_le I.lt hf)
    · exact I.nofs hf e
  refine PySem.W.kla_eval hdef ?_
  cases among : codeAmong pos ps.toList with
  | some cv =>
    obtain ⟨c', rfl, co⟩ := am pos cv among
    refine PySem.W.kla_makeFunctionHit (mg := X.mg) (c := c) (P := P) (ps := ps) (closure_ok hfree) I.ok.glob (I.mod.glob.keeps I.bk) hcode (TB.code.keeps I.bk) gP trip among (TB.bm.keeps I.bk) fun ctv h' tk kp sz => ?_
    exact fin h'.objs.size c' ((X.mg "__name__").getD .none) ctv H _ (I.kept (t' := tk) fun b o e => Heap.get?_push_of_some _ (kp b o e)) (ExtN.refl H) (fun _ h => h) hT (Heap.get?_push_size _ rfl) (I.hok.fresh sz) (outF _ sz) co
  | none =>
    refine PySem.W.kla_makeFunction (mg := X.mg) (c := c) (P := P) (ps := ps) (closure_ok hfree) I.ok.glob (I.mod.glob.keeps I.bk) hcode (TB.code.keeps I.bk) gP trip among TB.gP (TB.bm.keeps I.bk) fun c' ctv h' tk kp ge lt rc tb => ?_
    obtain ⟨c2, oc, vs, t, e2, oc1, oc2, oc3⟩ := rc
    cases e2
    have sz : s.heap.objs.size ≤ h'.objs.size := Nat.le_trans ge (Nat.le_of_lt lt)
    have nC : H c' = none := I.hok.fresh ge
    have nPc := ne_of_none tP nC
    have new1 := inv_table (t' := tk) (more := #[rawInt pos.line, rawInt pos.col, .ref c']) (h' := h'.push (PySem.W.kla_obj "<lambda>" (X.env.qual ++ "<lambda>") params body scope (cloFrom X.env.cells scope.names []) ((X.mg "__name__").getD .none) c' ctv)) I tP (fun b o hb e => Heap.get?_push_of_some _ (kp b o hb e)) (Heap.get?_push_of_some _ tb) ge ⟨oc, vs, t, Heap.get?_push_of_some _ oc1, oc2, oc3⟩
    have ext : ExtN H (upd (upd H P (.tbl (ps ++ #[rawInt pos.line, rawInt pos.col, .ref c']))) c' (CodeO c' (X.env.qual ++ "<lambda>"))) := fun b o e n => by
      have nbP : b ≠ P := fun z => by
        rw [z] at e
        exact n ps (Option.some.inj (e.symm.trans tP))
      rw [upd_ne (ne_of_none e nC), upd_ne nbP]
      exact e
    have lst : (ps ++ #[rawInt pos.line, rawInt pos.col, .ref c']).toList = ps.toList ++ [rawInt pos.line, rawInt pos.col, .ref c'] := by simp
    refine fin h'.objs.size c' ((X.mg "__name__").getD .none) ctv _ _ new1 ext (fun b hb => ?_) (fun p hp => ?_) (Heap.get?_push_size _ rfl) ?_ (outF _ sz) upd_same
    · by_cases h1 : b = c'
      · rw [h1, upd_same]; simp
      · rw [upd_ne h1]
        by_cases h2 : b = P
        · rw [h2, upd_same]; simp
        · rw [upd_ne h2]; exact hb
    · by_cases hb : p.1 = P
      · rw [hu p hp hb, hb]
        refine ⟨_, by rw [upd_ne nPc, upd_same], by rw [lst]; exact PySem.TriplesOk_snoc _ _ _ _ trip, fun pp cv hcv => ?_⟩
        rw [lst] at hcv
        rcases among_app _ trip hcv with z | z
        · obtain ⟨c0, e1, e2⟩ := am pp cv z
          exact ⟨c0, e1, ext _ _ e2 codeO_ne⟩
        · exact ⟨c', z, upd_same⟩
      · obtain ⟨qs, a1, a2, a3⟩ := hT p hp
        refine ⟨qs, by rw [upd_ne (ne_of_none a1 nC), upd_ne hb]; exact a1, a2, fun pp cv hcv => ?_⟩
        obtain ⟨c0, e1, e2⟩ := a3 pp cv hcv
        exact ⟨c0, e1, ext _ _ e2 codeO_ne⟩
    · rw [upd_ne (Nat.ne_of_gt lt), upd_ne (Nat.ne_of_gt (Nat.lt_of_lt_of_le (Heap.lt_size gP) sz))]
      exact I.hok.fresh sz
end
/-- g's end as its caller sees it: n names, the thunk in the first -/
def runG (n : Nat) (gB : Ro D → Env' → So) (r : Ro D) : Option D := match gB r (List.replicate n .no) with
  | .ret d _ => some d
  | .retF d _ => some d
  | .nx _ => some .non
  | _ => none
/-- g(lambda: e) -/
def eLam (m : Ro D → Option D) (τ : Env' → Ro D) : Env' → Ro D := fun env => match m (τ (env.map pub)) with
  | some d => .ok d env
  | none => .stk
/-- the thunk is called in g's frame -/
def ActT (Z : Cx) (T : Tb) (a : Str) (r : Ro D) : Prop := ∀ (W : WX) (pn : List (Addr × Obj)) (xe : Value → Shared → Prop) (p1 p2 : Pos), Takes (Z.tr pn xe) W → SE (Z.tr pn xe) T W (.Call (.Name a p1) [] [] p2) (eTh r)
/-- g's body, in each frame of it, whatever the thunk comes to -/
def BodyG (P : Program) (w : World) (K : PySem.W.Frag) (mg : Str → Option Value) (base : Heap) (k : Nat) (qual : Str) (st : Stmt) (f : Addr) (N : List Str) (a : Str) (tabs : List (Addr × Str)) (gB : Ro D → Env' → So) : Prop :=
  ∀ (cdv : Value) (A : Around) (outer : List Env) (s : Shared) (H : Hp) (E : XK) (T : Tb) (r : Ro D), Fra (Bcx P w K mg base N qual st f cdv A outer s H E) k (WofE E) → T.tabs = tabs → (∀ p ∈ T.pins, p.1 = 0) → ActT (Bcx P w K mg base N qual st f cdv A outer s H E) T a r →
    SB (Bcx P w K mg base N qual st f cdv A outer s H E) T (WofE E) (defBody st) (gB r)
section
variable {X : Cx} {T : Tb} {W : WX} {k j : Nat} {params : Arguments} {body : Expr} {scope : Scope} {τ : Env' → Ro D} {x a q : Str} {g c P : Addr} {st : Stmt} {fd : FuncData} {Ng : List Str} {gB : Ro D → Env' → So} {p lpos pos : Pos}
theorem fr_zero {T : Tb} (h : ∀ p ∈ T.pins, p.1 = 0) {i : Nat} (hi : i ≠ 0) : Fr T i := fun p hp e => hi (e.symm.trans (h p hp))
theorem frs_zero {T : Tb} (h : ∀ p ∈ T.pins, p.1 = 0) {vs : List Nat} (hi : vs.all (fun i => decide (i ≠ 0)) = true := by rfl) : ∀ i ∈ vs, Fr T i := fun i hv => fr_zero h (by simpa using List.all_eq_true.mp hi i hv)
theorem se_lam {n : Nat} (hn : Ng.length = n) (eq : X.env.qual ++ "<lambda>" = q) (hg : Gl X x) (hm : X.mg x = some (.ref g)) (Fu : L2.Fun X.K x x st g fd) (bd : Binds X.K fd [a] []) (Sg : FnScope Ng [a] (defScope st)) (hNg : Ng[0]? = some a) (hva : Vis (defScope st) a) (hB : BodyG X.prog X.w X.K X.mg X.base (k + 1) x st g Ng a T.tabs gB)
    (TB : TabB X.base X.mg c P) (hcode : X.env.code = .ref c) (hmT : (P, q) ∈ T.tabs) (hu : ∀ p ∈ T.tabs, p.1 = P → p.2 = q) (C : Ctx X j) (hk : k + 2 ≤ j) (L : LamS X.env.scope scope) (hdef : defaultsOf params X.env = ([], []))
    (hbind : ∀ (q : Str) (cl : List (Str × Addr)) (pm cv ctv : Value), bindArgs (PySem.W.kla_fn "<lambda>" q params body scope cl pm cv ctv) ⟨[], []⟩ = pure []) (hb : LamB X T k scope body τ) (hdb : (x == ("__debug__" : Str)) = false := by decide) (hd : (a == ("__debug__" : Str)) = false := by decide) (hcd : (a == ("__classdict__" : Str)) = false := by decide) :
    SE X T W (.Call (.Name x p) [.Lambda params body scope lpos] [] pos) (eLam (runG n gB) τ) := by
  subst hn
  refine ⟨fun pins s σ H Q I h => ?_⟩
  obtain ⟨F, env, S, h⟩ := h
  have hr : Room (k + 2) X.A := C.room.mono hk
  refine wpAny_Call_Name_kw (ld_glob I hg hm (PySem.W.callWith_K (h₀ := X.base) I.ok.mod.kin Fu.kp ?_ (by rfl) (by rfl)) hdb)
  show wpAny _ _ (spliced ((false, eval (.Lambda params body scope lpos) X.env) :: backTo pos (starEach [] X.env))) _ _ s
  refine Calls.spliced_cons (lam_new eq I TB hcode hmT hu S.tab.1 hdef (L.has I.ok) fun f c' pm ctv H1 s1 I1 ext dm T1 hf hfn hfr hco => Calls.spliced_nil ⟨I1.kIn, ?_⟩)
  have S1 : Sta (gm X) T F σ H1 env := S.grow ext dm T1
  obtain ⟨oc, od, kV, doc, pmv, an, cdv, ct, osl, rfl, lk, hcd'⟩ := Fu.ex
  subst eq
  have run : codeAny (model X.prog X.w) X.A (.call (.ref g) ⟨[.ref f], []⟩) (CR (L2.CX X.prog X.w) X.stack X.prog X.w H1 s1 Q fun _ _ _ => False) s1 := by
    refine run_ofS (N := Ng) (ps := [a]) (us := [.ref f]) (vs := [.ref f]) lk hcd' Sg hr I1.env0 (bd s1 [.ref f] I1.kIn rfl) (.cons rfl .nil) rfl fun hr' => ?_
    have hl : 1 ≤ Ng.length := (List.getElem?_eq_some_iff.mp hNg).1
    have noO : ∀ {b : Addr}, ¬ Ow (L2.start Ng [V.ref f]) (List.replicate Ng.length Slot.no) b := fun {b} ⟨i, d, h1, _⟩ => by
      rw [List.getElem?_replicate] at h1
      split at h1 <;> cases h1
    have eh : hid H1 (Hd (Hd F σ env) (L2.start Ng [V.ref f]) (List.replicate Ng.length Slot.no)) = hid H1 (Hd F σ env) := hid_eq fun b => ⟨fun z => z.elim (fun z => absurd z noO) id, .inr⟩
    have SZ : Sta (gm X) (tbZ T σ H1 env F f) (Hd F σ env) (L2.start Ng [V.ref f]) H1 (List.replicate Ng.length .no) := by
      have lenS : (L2.start Ng [V.ref f]).length = Ng.length := by
        unfold L2.start
        rw [List.length_append, List.length_map, List.length_replicate, List.length_singleton]
        omega
      refine ⟨by rw [lenS, List.length_replicate], fun i t e => ?_, fun i j d d' b h1 h2 h3 h4 => absurd ⟨i, d, h1, h3⟩ noO, fun b z => absurd z noO, fun b z => S1.hd_mut z, ⟨T1, fun p hp => ?_⟩, ⟨fun b o e _ => e, fun b e => e, fun b z => absurd z noO⟩, by rw [eh]; exact Le.refl _⟩
      · rw [List.getElem?_replicate] at e
        split at e
        · rename_i hi
          cases e
          exact ⟨(L2.start Ng [V.ref f])[i]'(by rw [lenS]; exact hi), by simp, trivial⟩
        · cases e
      · rw [List.mem_singleton.mp hp]
        unfold L2.start
        rfl
    refine ⟨_, hB cdv X.A X.stack s1 H1 _ (tbZ T σ H1 env F f) (τ (env.map pub)) (fra_of hr' C.gd Sg.nd) rfl (fun p hp => by rw [List.mem_singleton.mp hp]) (fun W' pn xe p1 p2 tk => se_act I1 S1 L hf hfn hfr hco (hbind _ _ _ _ _) C.gd C.nd hr' hb hNg hva hd hcd tk), Hd F σ env, _, SZ, ?_⟩
    unfold eLam at h
    have back : ∀ {σ' : St} {H' : Hp} {e : Env'}, Stp (L2.start Ng [V.ref f]) H1 (List.replicate Ng.length .no) σ' H' e → Tabs T.tabs H' → Stp σ H env σ H' env ∧ Sta (gm X) T F σ H' env := fun {σ' H' e} st tb =>
      ⟨⟨fun b o e n _ => st.keep b o (ext b o e n) n noO, fun _ _ k => k, fun b e => st.dom b (dm b e)⟩, S.grow (fun b o e n => st.keep b o (ext b o e n) n noO) (fun b e => st.dom b (dm b e)) tb⟩
    have le : ∀ {σ' : St} {H' : Hp} {e : Env'}, Le (hid H' (Hd (Hd F σ env) σ' e)) (hid H' (Hd F σ env)) := fun {σ' H' e} => Le.hid fun b o e _ n => ⟨fun z => n (.inr z), e⟩
    unfold runG at h
    cases eg : gB (τ (env.map pub)) (List.replicate Ng.length .no) with
    | nx e =>
      rw [eg] at h
      intro σ' H' st S'
      obtain ⟨s2, S2⟩ := back st S'.tab.1
      exact h .non H' s2 S2 rfl
    | ret d e =>
      rw [eg] at h
      intro v σ' H' st S' iv
      obtain ⟨s2, S2⟩ := back st S'.tab.1
      exact h v H' s2 S2 (Is.mono le _ _ iv)
    | retF d e =>
      rw [eg] at h
      intro b σ' H' st S' o n
      obtain ⟨s2, S2⟩ := back st S'.tab.1
      have nF : ¬ Hd F σ env b := fun z => by
        rcases n with n | n
        · exact S1.hd_there z n
        · exact noO n
      exact h (.ref b) H' s2 S2 (Is.mono le _ _ (OIs.open (H0 := H1) o S' nF))
    | bk e => rw [eg] at h; exact h.elim
    | ct e => rw [eg] at h; exact h.elim
    | exc c p e => rw [eg] at h; exact h.elim
    | stk => rw [eg] at h; exact h.elim
  refine wpAny_call (codeAny_mono run fun r s' hq => ?_)
  match r, hq with
  | .error er, hq =>
    obtain ⟨_, _, _, _, _, _, _, _, _, _, _, _, z⟩ := hq
    exact z.elim
  | .ok (.ret u), hq => exact I1.after hq
  | .ok .next, hq => exact hq.elim
  | .ok .brk, hq => exact hq.elim
  | .ok .cont, hq => exact hq.elim
end
end Rf

namespace Rf
open PySem L2 LamX
open PyProof.Rows hiding St

/-! ## repr -/
mutual
/-- no shorter than the text -/
def szD : D → Nat
  | .non => 4
  | .bl _ => 5
  | .int i => i.natAbs.log2 + 2
  | .str x => (reprText x).length
  | .tup xs => szL xs + 4
  | .lst xs => szL xs + 4
  | _ => 4
def szL : List D → Nat
  | [] => 0
  | x :: xs => szD x + 2 + szL xs
end
mutual
def shD : D → Bool
  | .int i => decide (i.natAbs.log2 < 1920)
  | .tup xs => shL xs
  | .lst xs => shL xs
  | _ => true
def shL : List D → Bool
  | [] => true
  | x :: xs => shD x && shL xs
end
theorem textFrom_sz : ∀ (ts : List Str) (k : Nat) (acc : Str), (textFrom k acc ts).length ≤ acc.length + piled ts
  | [], k, acc => by
    show acc.length ≤ acc.length + piled []
    omega
  | t :: ts, k, acc => by
    have h := textFrom_sz ts (k + 1) (acc ++ (if k > 0 then ", " else "" : String) ++ t)
    have e : (acc ++ (if k > 0 then ", " else "" : String) ++ t).length ≤ acc.length + 2 + t.length := by
      rw [strLen_append, strLen_append]
      have : (((if k > 0 then ", " else "" : String) : Str)).length ≤ 2 := by split <;> decide
      omega
    show (textFrom (k + 1) _ ts).length ≤ _
    rw [piled_cons]
    omega
theorem listText_sz (ts : List Str) : (listText ts).length ≤ piled ts + 2 := by
  unfold listText
  rw [strLen_append]
  have h := textFrom_sz ts 0 "["
  have e1 : (("[" : String) : Str).length = 1 := rfl
  have e2 : (("]" : String) : Str).length = 1 := rfl
  omega
theorem tupleText_sz (ts : List Str) : (tupleText ts).length ≤ piled ts + 3 := by
  unfold tupleText
  rw [strLen_append, strLen_append]
  have e1 : (("(" : String) : Str).length = 1 := rfl
  have e3 : (((if ts.length == 1 then ",)" else ")" : String) : Str)).length ≤ 2 := by split <;> decide
  by_cases h : ts = []
  · subst h
    have e4 : (Str.join ", " []).length = 0 := rfl
    omega
  · have := join_length_add ts h
    omega
mutual
theorem sz_ok : ∀ d : D, (PyData.shown (toPy d)).length ≤ szD d
  | .non => by decide
  | .bl b => by cases b <;> decide
  | .int i => by
    have h := int_text_length_le (a := i) (k := i.natAbs.log2 + 1) (by omega) (by omega)
    show (Str.ofString (toString i)).length ≤ _
    rw [PySem.ofString_length]
    show _ ≤ i.natAbs.log2 + 2
    omega
  | .str x => Nat.le_refl _
  | .tup xs => by
    have h := sz_okL xs
    have h2 := tupleText_sz (PyData.shownAll (toPyL xs))
    show (tupleText (PyData.shownAll (toPyL xs))).length ≤ szL xs + 4
    omega
  | .lst xs => by
    have h := sz_okL xs
    have h2 := listText_sz (PyData.shownAll (toPyL xs))
    show (listText (PyData.shownAll (toPyL xs))).length ≤ szL xs + 4
    omega
  | .dK _ _ => by
    show (PyData.shown .none).length ≤ 4
    decide
  | .dT _ _ => by
    show (PyData.shown .none).length ≤ 4
    decide
  | .fn _ => by
    show (PyData.shown .none).length ≤ 4
    decide
  | .scr _ => by
    show (PyData.shown .none).length ≤ 4
    decide
  | .ctup _ => by
    show (PyData.shown .none).length ≤ 4
    decide
theorem sz_okL : ∀ ds : List D, piled (PyData.shownAll (toPyL ds)) ≤ szL ds
  | [] => Nat.le_refl _
  | d :: ds => by
    have h1 := sz_ok d
    have h2 := sz_okL ds
    show piled (PyData.shown (toPy d) :: PyData.shownAll (toPyL ds)) ≤ szD d + 2 + szL ds
    rw [piled_cons]
    omega
end
mutual
theorem sh_ok : ∀ d : D, shD d = true → PyData.showable (toPy d) = true
  | .non, _ => rfl
  | .bl _, _ => rfl
  | .int _, h => h
  | .str _, _ => rfl
  | .tup xs, h => sh_okL xs h
  | .lst xs, h => sh_okL xs h
  | .dK _ _, _ => rfl
  | .dT _ _, _ => rfl
  | .fn _, _ => rfl
  | .scr _, _ => rfl
  | .ctup _, _ => rfl
theorem sh_okL : ∀ ds : List D, shL ds = true → PyData.showableAll (toPyL ds) = true
  | [], _ => rfl
  | d :: ds, h => by
    have h : (shD d && shL ds) = true := h
    obtain ⟨h1, h2⟩ := Bool.and_eq_true_iff.mp h
    show (PyData.showable (toPy d) && PyData.showableAll (toPyL ds)) = true
    rw [sh_ok d h1, sh_okL ds h2]
    rfl
end
def okRep (d : D) : Bool := okD 60 d && shD d && decide (szD d ≤ 16000000)
def oRepr : List D → Option D
  | [d] => if okRep d then some (.str (PyData.shown (toPy d))) else none
  | _ => none
def rRepr (K : PySem.W.Frag) : List V → Hp → VK → Prop := fun xs H Q => ∃ v d, xs = [v] ∧ Dp K H v d ∧ d.canLay0 = true ∧ d.depth ≤ 60 ∧ PyData.showable d = true ∧ (PyData.shown d).length ≤ sizeLine ∧ Q (.str (PyData.shown d)) H
theorem call_repr {X : Cx} {k : Nat} (C : Ctx X k) : CallR X (.builtin "repr") (rRepr X.K) := by
  intro pins s σ H xs us Q I r h
  obtain ⟨v, d, rfl, dp, hl, hd, hs, hz, q⟩ := h
  obtain ⟨u, rfl, rv⟩ := vals1 r
  have fin : ∀ (h' : Heap) (u' : Tok) (tk : Nat), (∀ b o, s.heap.get? b = some o → h'.get? b = some o) → EP X pins σ Q (.str (PyData.shown d) u') { s with heap := h', toks := tk } := fun h' u' tk kp => ⟨.str (PyData.shown d), H, I.kept (t' := tk) kp, ⟨_, rfl⟩, q⟩
  obtain ⟨as, rd⟩ := Dp.reads I d v u dp rv
  have hu := C.room.units
  cases dp with
  | non =>
    obtain rfl : u = Value.none := rv
    exact P.repr_of_none (fin s.heap _ _ fun _ _ e => e)
  | bl b =>
    obtain rfl : u = Value.bool b := rv
    have f := fin s.heap s.toks (s.toks + 1) fun _ _ e => e
    refine P.repr_of_bool ?_
    cases b <;> exact f
  | int i =>
    obtain ⟨t, rfl⟩ := rv
    exact P.repr_of_int (of_decide_eq_true hs) (fin s.heap _ _ fun _ _ e => e)
  | str x =>
    obtain ⟨t, rfl⟩ := rv
    exact P.repr_of_str (fin s.heap _ _ fun _ _ e => e) hz
  | lst sq dd =>
    cases rv
    exact repr_of_reads' rd hs (PyData.noDict_hsm (PyData.hasDict_of_canLay _ hl)) C.gd (by omega) (fun _ _ e => e) (fun h' u' tk kp => fin h' u' tk kp) hz
  | tup sq dd =>
    cases rv
    exact repr_of_reads' rd hs (PyData.noDict_hsm (PyData.hasDict_of_canLay _ hl)) C.gd (by omega) (fun _ _ e => e) (fun h' u' tk kp => fin h' u' tk kp) hz
section
variable {X : Cx} {T : Tb} {W : WX} {k : Nat} {a : Expr} {f : Env' → Ro D} {p pos : Pos}
theorem oc_repr : OpC (gm X) (rRepr X.K) oRepr := fun {Hs H ds d vs Q} l m e j => by
  unfold oRepr at e
  split at e
  · rename_i d0
    split at e
    · rename_i ok
      obtain rfl := Option.some.inj e
      simp only [okRep, Bool.and_eq_true, decide_eq_true_eq] at ok
      obtain ⟨⟨ok1, ok2⟩, ok3⟩ := ok
      obtain ⟨v, rfl, iv⟩ := isL1 m
      obtain ⟨c1, c2⟩ := ok_lay 60 d0 ok1
      exact ⟨v, toPy d0, rfl, is_dp 60 d0 v ok1 (Is.mono l _ _ iv), c1, c2, sh_ok d0 ok2, Nat.le_trans (sz_ok d0) (by rw [sizeLine_eq]; omega), j _ H (New.refl H) fun _ _ _ => rfl⟩
    · cases e
  · cases e
theorem se_repr (C : Ctx X k) (hg : Gl X "repr") (hm : X.mg "repr" = none) (ha : SE X T W a f) (h0 : starEach [a] X.env = (false, eval a X.env) :: starEach [] X.env := by rfl) : SE X T W (.Call (.Name "repr" p) [a] [] pos) (eCall oRepr (aCons f aNil)) :=
  se_callB (call_repr C) oc_repr hg hm (by decide +kernel) (sa_cons ha sa_nil h0) (by decide) (by decide) h0 (by rfl)
end
/-! ## any, all of numbers, True, False, None -/
def numV : V → Bool
  | .non => true
  | .bl _ => true
  | .int _ => true
  | _ => false
def truF : V → Bool
  | .bl b => b
  | .int i => i != 0
  | _ => false
theorem truth_num {prog : Program} {w : World} {A : Around} {ys : List V} {its : List Value} (rv : Vals ys its) (fl : ys.all numV = true) : TruthOf prog w A (fun i v => its.toArray[i]? = some v) (fun i => truF (ys.getD i .non)) := fun i v s Q E hv hq => by
  have hv' : its[i]? = some v := by simpa using hv
  have hi := (List.getElem?_eq_some_iff.mp hv').1
  have hi' : i < ys.length := by rw [Paired.length rv]; exact hi
  obtain ⟨u, hu, r⟩ := rv.get (List.getElem?_eq_getElem hi')
  rw [hv'] at hu
  cases hu
  have hg : ys.getD i .non = ys[i] := by rw [List.getD_eq_getElem?_getD, List.getElem?_eq_getElem hi']; rfl
  have hq : Q (truF (ys.getD i .non)) s := hq
  rw [hg] at hq
  have hf := List.all_eq_true.mp fl _ (List.getElem_mem hi')
  generalize ys[i] = y at *
  cases y with
  | non => obtain rfl : v = Value.none := r; exact truthy_none hq
  | bl b => obtain rfl : v = Value.bool b := r; exact wpAny_truthy_bool hq
  | int j => obtain ⟨t, rfl⟩ := r; exact PySem.P.truthy_int hq
  | _ => cases hf
theorem any_rangeV : ∀ ys : List V, (List.range ys.length).any (fun i => truF (ys.getD i .non)) = ys.any truF
  | [] => rfl
  | b :: bs => by
    rw [List.length_cons, List.range_succ_eq_map, List.any_cons, List.any_map, List.any_cons, ← any_rangeV bs]
    all_goals rfl
theorem all_rangeV : ∀ ys : List V, (List.range ys.length).all (fun i => truF (ys.getD i .non)) = ys.all truF
  | [] => rfl
  | b :: bs => by
    rw [List.length_cons, List.range_succ_eq_map, List.all_cons, List.all_map, List.all_cons, ← all_rangeV bs]
    all_goals rfl
def rQuant (K : PySem.W.Frag) (g : List V → Bool) : List V → Hp → VK → Prop := fun vs H Q => ∃ (a : Addr) (ys : List V), vs = [V.ref a] ∧ (SqL K H a ys ∨ SqT K H a ys) ∧ ys.all numV = true ∧ Q (.bl (g ys)) H
theorem cr_anyN {X : Cx} (hc : X.calm = true) : CallR X (.builtin "any") (rQuant X.K fun ys => ys.any truF) := by
  intro pins s σ H vs us Q I r h
  obtain ⟨a, ys, rfl, hs, fl, q⟩ := h
  rw [Vals.ref1 r]
  rcases hs with hs | hs
  · obtain ⟨its, rv, hl, _⟩ := I.list hs
    refine call_any_walk (iter_any hl.isList fun s₂ e2 st hne => ?_)
    subst e2
    refine ⟨_, _, _, _, _, _, _, rfl, Walks.list (A := X.A.in1) (I.ok.hd hc) _ a hne its.toArray, st, truth_num rv fl, fun h' tk hk => ⟨.bl _, H, I.kept fun b o eo => hk b o (fun hmem => ?_) (Heap.get?_push_of_some _ eo), ?_, q⟩⟩
    · rw [List.mem_singleton] at hmem
      exact absurd (hmem ▸ Heap.lt_size eo) (Nat.lt_irrefl _)
    · show Value.bool _ = Value.bool _
      rw [List.size_toArray, ← Paired.length rv, any_rangeV]
  · obtain ⟨its, rv, hl, _⟩ := I.tuple hs
    have ht : s.heap.IsTuple a its.toArray := hl
    have hlt : a < s.heap.objs.size := by obtain ⟨_, e, _⟩ := ht; exact Heap.lt_size e
    refine call_any_walk (wpAny_pyIter_tuple ht ?_)
    refine ⟨_, _, _, _, _, _, _, rfl, Walks.tuple (A := X.A.in1) (I.ok.hd hc) _ a (Nat.ne_of_lt hlt) its.toArray, ⟨⟨_, Heap.get?_push_size _ rfl, rfl, rfl⟩, ht.push _⟩, truth_num rv fl, fun h' tk hk => ⟨.bl _, H, I.kept fun b o eo => hk b o (fun hmem => ?_) (Heap.get?_push_of_some _ eo), ?_, q⟩⟩
    · rw [List.mem_singleton] at hmem
      exact absurd (hmem ▸ Heap.lt_size eo) (Nat.lt_irrefl _)
    · show Value.bool _ = Value.bool _
      rw [List.size_toArray, ← Paired.length rv, any_rangeV]
theorem cr_allN {X : Cx} (hc : X.calm = true) : CallR X (.builtin "all") (rQuant X.K fun ys => ys.all truF) := by
  intro pins s σ H vs us Q I r h
  obtain ⟨a, ys, rfl, hs, fl, q⟩ := h
  rw [Vals.ref1 r]
  rcases hs with hs | hs
  · obtain ⟨its, rv, hl, _⟩ := I.list hs
    refine call_all_walk (iter_any hl.isList fun s₂ e2 st hne => ?_)
    subst e2
    refine ⟨_, _, _, _, _, _, _, rfl, Walks.list (A := X.A.in1) (I.ok.hd hc) _ a hne its.toArray, st, truth_num rv fl, fun h' tk hk => ⟨.bl _, H, I.kept fun b o eo => hk b o (fun hmem => ?_) (Heap.get?_push_of_some _ eo), ?_, q⟩⟩
    · rw [List.mem_singleton] at hmem
      exact absurd (hmem ▸ Heap.lt_size eo) (Nat.lt_irrefl _)
    · show Value.bool _ = Value.bool _
      rw [List.size_toArray, ← Paired.length rv, all_rangeV]
  · obtain ⟨its, rv, hl, _⟩ := I.tuple hs
    have ht : s.heap.IsTuple a its.toArray := hl
    have hlt : a < s.heap.objs.size := by obtain ⟨_, e, _⟩ := ht; exact Heap.lt_size e
    refine call_all_walk (wpAny_pyIter_tuple ht ?_)
    refine ⟨_, _, _, _, _, _, _, rfl, Walks.tuple (A := X.A.in1) (I.ok.hd hc) _ a (Nat.ne_of_lt hlt) its.toArray, ⟨⟨_, Heap.get?_push_size _ rfl, rfl, rfl⟩, ht.push _⟩, truth_num rv fl, fun h' tk hk => ⟨.bl _, H, I.kept fun b o eo => hk b o (fun hmem => ?_) (Heap.get?_push_of_some _ eo), ?_, q⟩⟩
    · rw [List.mem_singleton] at hmem
      exact absurd (hmem ▸ Heap.lt_size eo) (Nat.lt_irrefl _)
    · show Value.bool _ = Value.bool _
      rw [List.size_toArray, ← Paired.length rv, all_rangeV]
/-- the items' truth, numbers, flags and None alone -/
def numT : D → Option Bool
  | .non => some false
  | .bl b => some b
  | .int i => some (i != 0)
  | _ => none
def numTs : List D → Option (List Bool)
  | [] => some []
  | d :: ds => match numT d, numTs ds with
    | some b, some bs => some (b :: bs)
    | _, _ => none
theorem numTs_is {G : Gm} {H : Hp} : ∀ {ds : List D} {bs : List Bool} {vs : List V}, numTs ds = some bs → IsL G H ds vs → vs.all numV = true ∧ vs.any truF = bs.any id ∧ vs.all truF = bs.all id
  | [], bs, vs, e, i => by
    obtain rfl : vs = [] := i
    simp only [numTs, Option.some.injEq] at e
    subst e
    exact ⟨rfl, rfl, rfl⟩
  | d :: ds, bs, vs, e, i => by
    unfold numTs at e
    split at e
    · rename_i b r e1 e2
      obtain rfl := Option.some.inj e
      obtain ⟨x, r', rfl, i1, i2⟩ := i
      obtain ⟨f1, f2, f3⟩ := numTs_is e2 i2
      have hx : numV x = true ∧ truF x = b := by
        cases d <;> simp only [numT, Option.some.injEq] at e1 <;> first
          | (cases e1; done)
          | (subst e1
             have i1 := i1
             unfold Is at i1
             subst i1
             exact ⟨rfl, rfl⟩)
      rw [List.all_cons, List.any_cons, List.all_cons, hx.1, hx.2, f1, f2, f3]
      exact ⟨rfl, rfl, rfl⟩
    · cases e
def oQuant (h : List Bool → Bool) : List D → Option D
  | [.lst xs] => (numTs xs).map fun bs => .bl (h bs)
  | [.tup xs] => (numTs xs).map fun bs => .bl (h bs)
  | _ => none
section
variable {X : Cx} {T : Tb} {W : WX} {k : Nat} {a : Expr} {f : Env' → Ro D} {p pos : Pos}
theorem oc_quant {g : List V → Bool} {h : List Bool → Bool} (hg : ∀ {G : Gm} {H : Hp} {ds : List D} {bs : List Bool} {vs : List V}, numTs ds = some bs → IsL G H ds vs → g vs = h bs) : OpC (gm X) (rQuant X.K g) (oQuant h) := fun {Hs H ds d vs Q} l m e j => by
  unfold oQuant at e
  split at e
  · rename_i xs
    cases e1 : numTs xs with
    | none => rw [e1] at e; cases e
    | some bs =>
      rw [e1] at e
      obtain rfl := Option.some.inj e
      obtain ⟨v, rfl, p, ws, rfl, s, m'⟩ := isL1 m
      exact ⟨p, ws, rfl, .inl (l.lq s), (numTs_is e1 m').1, by rw [hg e1 m']; exact j _ H (New.refl H) fun _ _ _ => rfl⟩
  · rename_i xs
    cases e1 : numTs xs with
    | none => rw [e1] at e; cases e
    | some bs =>
      rw [e1] at e
      obtain rfl := Option.some.inj e
      obtain ⟨v, rfl, p, ws, rfl, s, m'⟩ := isL1 m
      exact ⟨p, ws, rfl, .inr (l.tq s), (numTs_is e1 m').1, by rw [hg e1 m']; exact j _ H (New.refl H) fun _ _ _ => rfl⟩
  · cases e
theorem se_any (hc : X.calm = true) (hg : Gl X "any") (hm : X.mg "any" = none) (ha : SE X T W a f) (h0 : starEach [a] X.env = (false, eval a X.env) :: starEach [] X.env := by rfl) : SE X T W (.Call (.Name "any" p) [a] [] pos) (eCall (oQuant anyB) (aCons f aNil)) :=
  se_callB (cr_anyN hc) (oc_quant fun e m => (numTs_is e m).2.1) hg hm (by decide +kernel) (sa_cons ha sa_nil h0) (by decide) (by decide) h0 (by rfl)
theorem se_all (hc : X.calm = true) (hg : Gl X "all") (hm : X.mg "all" = none) (ha : SE X T W a f) (h0 : starEach [a] X.env = (false, eval a X.env) :: starEach [] X.env := by rfl) : SE X T W (.Call (.Name "all" p) [a] [] pos) (eCall (oQuant allB) (aCons f aNil)) :=
  se_callB (cr_allN hc) (oc_quant fun e m => (numTs_is e m).2.2) hg hm (by decide +kernel) (sa_cons ha sa_nil h0) (by decide) (by decide) h0 (by rfl)
end
end Rf

namespace Rf
open PySem L2 LamX
open PyProof.Rows hiding St

section
variable {X : Cx} {T : Tb} {W : WX} {k : Nat} {a b : Expr} {f g : Env' → Ro D} {x : Str} {p pos : Pos} {op : Operator} {r : R2} {o : D → D → Option D}
/-! ## new lists by + and * -/
def OpF (G : Gm) (r : R2) (o : D → D → Option D) : Prop := ∀ {Hs H : Hp} {d1 d2 d : D} {v1 v2 : V} {Q : VK}, Le Hs H → Is G Hs d1 v1 → Is G Hs d2 v2 → o d1 d2 = some d →
  (∀ p u, H p = none → (∀ Hs', Le Hs Hs' → OIs G Hs' (upd H p u) d p) → Q (.ref p) (upd H p u)) → r v1 v2 H Q
theorem sf_op (ho : OpR X (binaryOp op) r) (hd : OpF (gm X) r o) (ha : SE X T W a f) (hb : SE X T W b g) : SF X T W (.BinOp a op b pos) (eOp o f g) :=
  PE.weak (pe_op ho ha hb) fun σ H Q h => rdF_bind (R := isD (gm X)) h fun F env d1 v1 H1 S1 i1 h1 => by
    refine ⟨F, env, S1, ?_⟩
    cases e : g env with
    | ok d2 e2 =>
      rw [e] at h1
      intro v2 H2 s2 S2 i2
      simp only [Ro.bind] at h1
      cases eo : o d1 d2 with
      | none => rw [eo] at h1; exact h1.elim
      | some d =>
        rw [eo] at h1
        refine hd (Hs := hid H2 (Hd F σ e2)) Le.unhid (Is.mono (s2.le F) _ _ i1) i2 eo fun p u hp q => ?_
        exact fin_newF (d := d) S2 hp (fun Hs l => q Hs l) (RstF.later (r := .ok d e2) h1 s2)
    | exc c p e2 => rw [e] at h1; exact h1
    | stk => rw [e] at h1; exact h1
theorem of_addL {G : Gm} : OpF G rCat dAddL := fun {Hs H d1 d2 d v1 v2 Q} l i1 i2 e q => by
  unfold dAddL at e
  split at e
  · obtain ⟨a, vs, rfl, s1, k1⟩ := i1
    obtain ⟨b, ws, rfl, s2, k2⟩ := i2
    split at e
    · rename_i hz
      obtain rfl := Option.some.inj e
      have e1 := IsL.length k1
      have e2 := IsL.length k2
      refine ⟨a, b, vs, ws, rfl, rfl, l.lp s1, l.lp s2, by omega, fun p hp => q p _ hp fun Hs' l' => ⟨vs ++ ws, upd_same, IsL.append (IsL.mono l' _ _ k1) (IsL.mono l' _ _ k2)⟩⟩
    · cases e
  · cases e
theorem of_repL {G : Gm} : OpF G rRep dRepL := fun {Hs H d1 d2 d v1 v2 Q} l i1 i2 e q => by
  unfold dRepL at e
  split at e
  · rename_i xs k
    obtain ⟨a, vs, rfl, s1, k1⟩ := i1
    obtain rfl : v2 = .int k := i2
    split at e
    · rename_i hz
      obtain ⟨z1, z2, z3⟩ := hz
      obtain rfl := Option.some.inj e
      have e1 := IsL.length k1
      refine ⟨a, k, vs, rfl, rfl, l.lp s1, by omega, by omega, by rw [← e1]; exact z3, fun p hp => q p _ hp fun Hs' l' => ⟨_, upd_same, IsL.rep (IsL.mono l' _ _ k1) _⟩⟩
    · cases e
  · cases e
theorem sf_addL (ha : SE X T W a f) (hb : SE X T W b g) : SF X T W (.BinOp a .Add b pos) (eOp dAddL f g) := sf_op op_cat of_addL ha hb
theorem sf_repL (ha : SE X T W a f) (hb : SE X T W b g) : SF X T W (.BinOp a .Mult b pos) (eOp dRepL f g) := sf_op op_rep of_repL ha hb
def eNeg (u : Env' → Ro D) : Env' → Ro D := fun env => (u env).bind fun d e => match d with
  | .int i => .ok (.int (-i)) e
  | _ => .stk
theorem se_negD {u : Env' → Ro D} (ha : SE X T W a u) : SE X T W (.UnaryOp .USub a pos) (eNeg u) := se_neg ha
/-- a, b = [..], y: the new list the first slot's own -/
def sParO (i j : Nat) (f g : Env' → Ro D) : Env' → So := fun env => ofRo (f env) fun d e => ofRo (g e) fun d' e => .nx ((e.set i (.o d)).set j (.v d'))
theorem ow_setO {σ : St} {env : Env'} {i : Nat} {c q : Addr} {d : D} (z : Ow (σ.set i (some (.ref c))) (env.set i (.o d)) q) : Ow σ env q ∨ q = c := by
  obtain ⟨j, e, h1, h2⟩ := z
  rcases get_set h2 with ⟨_, q2, _⟩ | ⟨n, h2⟩
  · right
    cases q2
    rfl
  · rcases get_set h1 with ⟨z, _⟩ | ⟨_, h1⟩
    · exact absurd z n
    · exact .inl ⟨j, e, h1, h2⟩
theorem ss_parO (C : Ctx X k) (i j : Nat) (fr : Fr T i) (fr2 : Fr T j) {y : Str} {px py pt : Pos} {kt k2 pt2} (hij : i ≠ j) (ha : SF X T W a f) (hb : SE X T W b g) (hi : X.N[i]? = some x := by rfl) (hj : X.N[j]? = some y := by rfl) (hx : X.env.scope.names.lookup x = some .local := by rfl) (hy : X.env.scope.names.lookup y = some .local := by rfl)
    (hw : swappedStores [.Tuple [.Name x px, .Name y py] kt pt] (.Tuple [a, b] k2 pt2) X.env = pure (some [x, y]) := by rfl)
    (hs : swapsWithSole [.Tuple [.Name x px, .Name y py] kt pt] (.Tuple [a, b] k2 pt2) pos.line X.env = pure false := by rfl)
    (h1 : starEach [a, b] X.env = (false, eval a X.env) :: starEach [b] X.env := by rfl) (h2 : starEach [b] X.env = (false, eval b X.env) :: starEach [] X.env := by rfl) :
    SS X T W (.Assign [.Tuple [.Name x px, .Name y py] kt pt] (.Tuple [a, b] k2 pt2) pos) (sParO i j f g) :=
  PS.weak (ps_par C.calm C.nd hi hj hij hx hy (pa_cons ha (pa_cons hb pa_nil h2) h1) hw hs) fun De σ H h => by
    obtain ⟨F, env, S, h⟩ := h
    refine ⟨F, env, S, ?_⟩
    unfold sParO at h
    cases e : f env with
    | exc c q e1 => rw [e] at h; exact fun cls dd H' s st x => h cls dd σ H' s st x
    | stk => rw [e] at h; exact h
    | ok d e1 =>
      rw [e] at h
      simp only [ofRo] at h
      intro c H1 s1 S1 o1 n
      refine ⟨Pl F c, e1, S1, ?_⟩
      cases e' : g e1 with
      | exc c' q e2 =>
        rw [e'] at h
        have nF : ¬ F c := fun z => S.fn c z n
        exact fun cls dd H' s st x => h cls dd σ H' (s1.trans s) st.open (exc_mono (le_open (G := gm X) (F := F)) x)
      | stk => rw [e'] at h; exact h
      | ok d' e2 =>
        rw [e'] at h
        simp only [ofRo] at h
        intro w H2 s2 S2 i2
        obtain ⟨u, eu, nt, _⟩ := o1.there
        have k2 : H2 c = H1 c := by rw [s2.keep c u eu nt fun z => S1.fr c z (.inr rfl), eu]
        have o2 := o1.mono (s2.le (Pl F c)) k2
        obtain ⟨S3, s3⟩ := Sta.setO (i := i) (s1.trans s2) (.inl n) S2 o2 (fun z => S.fn c z n) fr (S.old.free (.inl n))
        have le : Le (hid H2 (Hd (Pl F c) σ e2)) (hid H2 (Hd F (σ.set i (some (.ref c))) (e2.set i (.o d)))) := Le.hid fun q u e _ kk => ⟨fun z => kk (by
          rcases z with z | z
          · rcases ow_setO z with z | z
            · exact .inl z
            · exact .inr (.inr z)
          · exact .inr (.inl z)), e⟩
        obtain ⟨S4, s4⟩ := S3.set (i := j) fr2 (Is.mono le _ _ i2)
        exact ⟨.ref c, w, rfl, h _ H2 (s3.trans s4) S4⟩
end
end Rf

namespace Rf
open PySem L2 LamX
open PyProof.Rows hiding St

/-! ## comparisons, by what they come to -/
def CmpR (X : Cx) (op : CmpOp) (o : D → D → Option Bool) : Prop := ∃ r, OpR X (compareOp op) r ∧ OpB (gm X) r o
section
variable {X : Cx} {T : Tb} {W : WX} {k : Nat} {a b c : Expr} {f g u : Env' → Ro D} {pos : Pos} {op op' : CmpOp} {o o' : D → D → Option Bool}
theorem cm_eq (C : Cs X) : CmpR X .Eq bEq := ⟨_, op_eqD (by have := C.hu; omega), ob_eq⟩
theorem cm_ne (C : Cs X) : CmpR X .NotEq bNe := ⟨_, op_neD (by have := C.hu; omega), ob_ne⟩
theorem cm_lt (C : Cs X) : CmpR X .Lt bLt := ⟨_, (op_ltT (by have := C.hu; omega)).or op_lt, ob_lt⟩
theorem cm_le : CmpR X .LtE bLe := ⟨_, op_le, ob_I2⟩
theorem cm_gt : CmpR X .Gt bGt := ⟨_, op_gt, ob_I2⟩
theorem cm_ge : CmpR X .GtE bGe := ⟨_, op_ge, ob_I2⟩
theorem cm_in (C : Cs X) : CmpR X .In bIn := ⟨_, op_in_seq.or (op_inD (by have := C.hu; omega)), ob_in⟩
theorem cm_notIn (C : Cs X) : CmpR X .NotIn bNotIn := ⟨_, op_notIn_seq.or (op_notInD (by have := C.hu; omega)), ob_notIn⟩
theorem cm_isN : CmpR X .Is bIsN := ⟨_, op_isN, ob_isN⟩
theorem cm_isNotN : CmpR X .IsNot bIsNotN := ⟨_, op_notN, ob_isNotN⟩
theorem cm_isB : CmpR X .Is bIsB := ⟨_, op_isBl, ob_isB⟩
theorem cm_isNotB : CmpR X .IsNot bIsNotB := ⟨_, op_notBl, ob_isNotB⟩
theorem se_cm (h : CmpR X op o) (ha : SE X T W a f) (hb : SE X T W b g) (hm : behindInMarks op b = false := by rfl) : SE X T W (.Compare a [op] [b] pos) (eCmp o f g) := by
  obtain ⟨r, h1, h2⟩ := h
  exact se_cmp h1 h2 hm ha hb
theorem sq_cm (h : CmpR X op o) (ha : SE X T W a f) (hb : SE X T W b g) (hm : behindInMarks op b = false := by rfl) : SQ X T W (.Compare a [op] [b] pos) (qCmp o f g) := by
  obtain ⟨r, h1, h2⟩ := h
  exact sq_cmp h1 h2 hm ha hb
theorem se_ch (h : CmpR X op o) (h' : CmpR X op' o') (ha : SE X T W a f) (hb : SE X T W b g) (hc : SE X T W c u) (hm : lastMarks [op, op'] [b, c] = false := by with_unfolding_all rfl) : SE X T W (.Compare a [op, op'] [b, c] pos) (eChain o o' f g u) := by
  obtain ⟨r, h1, h2⟩ := h
  obtain ⟨r', h3, h4⟩ := h'
  exact se_chain h1 h2 h3 h4 ha hb hc hm
theorem sq_ch (h : CmpR X op o) (h' : CmpR X op' o') (ha : SE X T W a f) (hb : SE X T W b g) (hc : SE X T W c u) (hm : lastMarks [op, op'] [b, c] = false := by with_unfolding_all rfl) : SQ X T W (.Compare a [op, op'] [b, c] pos) (qChain o o' f g u) := by
  obtain ⟨r, h1, h2⟩ := h
  obtain ⟨r', h3, h4⟩ := h'
  exact sq_chain h1 h2 h3 h4 ha hb hc hm
/-! calls of built-in functions, in short -/
variable {p : Pos} {x : Str}
theorem se_abs (hg : Gl X "abs") (hm : X.mg "abs" = none) (ha : SE X T W a f) (h0 : starEach [a] X.env = (false, eval a X.env) :: starEach [] X.env := by rfl) : SE X T W (.Call (.Name "abs" p) [a] [] pos) (eCall oAbs (aCons f aNil)) :=
  se_callB call_abs oc_abs hg hm (by decide +kernel) (sa_cons ha sa_nil h0) (by decide) (by decide) h0 (by rfl)
theorem se_toInt (hg : Gl X "int") (hm : X.mg "int" = none) (ha : SE X T W a f) (h0 : starEach [a] X.env = (false, eval a X.env) :: starEach [] X.env := by rfl) : SE X T W (.Call (.Name "int" p) [a] [] pos) (eCall oInt (aCons f aNil)) :=
  se_callTy call_int1 oc_int hg hm (by decide +kernel) (sa_cons ha sa_nil h0) (by decide) (by decide) h0 (by rfl)
theorem se_sum (hc : X.calm = true) (hg : Gl X "sum") (hm : X.mg "sum" = none) (ha : SE X T W a f) (h0 : starEach [a] X.env = (false, eval a X.env) :: starEach [] X.env := by rfl) : SE X T W (.Call (.Name "sum" p) [a] [] pos) (eCall oSum (aCons f aNil)) :=
  se_callB (cr_sum hc) oc_sum hg hm (by decide +kernel) (sa_cons ha sa_nil h0) (by decide) (by decide) h0 (by rfl)
theorem se_max1 (hc : X.calm = true) (hg : Gl X "max") (hm : X.mg "max" = none) (ha : SE X T W a f) (h0 : starEach [a] X.env = (false, eval a X.env) :: starEach [] X.env := by rfl) : SE X T W (.Call (.Name "max" p) [a] [] pos) (eCall (oMx maxL) (aCons f aNil)) :=
  se_callB (cr_max hc) oc_max hg hm (by decide +kernel) (sa_cons ha sa_nil h0) (by decide) (by decide) h0 (by rfl)
theorem se_min1 (hc : X.calm = true) (hg : Gl X "min") (hm : X.mg "min" = none) (ha : SE X T W a f) (h0 : starEach [a] X.env = (false, eval a X.env) :: starEach [] X.env := by rfl) : SE X T W (.Call (.Name "min" p) [a] [] pos) (eCall (oMx minL) (aCons f aNil)) :=
  se_callB (cr_min hc) oc_min hg hm (by decide +kernel) (sa_cons ha sa_nil h0) (by decide) (by decide) h0 (by rfl)
theorem se_max2 (hc : X.calm = true) (hg : Gl X "max") (hm : X.mg "max" = none) (ha : SE X T W a f) (hb : SE X T W b g) (h0 : starEach [a, b] X.env = (false, eval a X.env) :: starEach [b] X.env := by rfl) (h1 : starEach [b] X.env = (false, eval b X.env) :: starEach [] X.env := by rfl)
    (hpl : (backTo pos (starEach [b] X.env)).any (·.1) = false := by rfl) : SE X T W (.Call (.Name "max" p) [a, b] [] pos) (eCall (o2I max2) (aCons f (aCons g aNil))) :=
  se_callB (call_max2 hc) oc_2I hg hm (by decide +kernel) (sa_cons ha (sa_cons hb sa_nil h1) h0) (by decide) (by decide) h0 hpl
theorem se_min2 (hc : X.calm = true) (hg : Gl X "min") (hm : X.mg "min" = none) (ha : SE X T W a f) (hb : SE X T W b g) (h0 : starEach [a, b] X.env = (false, eval a X.env) :: starEach [b] X.env := by rfl) (h1 : starEach [b] X.env = (false, eval b X.env) :: starEach [] X.env := by rfl)
    (hpl : (backTo pos (starEach [b] X.env)).any (·.1) = false := by rfl) : SE X T W (.Call (.Name "min" p) [a, b] [] pos) (eCall (o2I min2) (aCons f (aCons g aNil))) :=
  se_callB (call_min2 hc) oc_2I hg hm (by decide +kernel) (sa_cons ha (sa_cons hb sa_nil h1) h0) (by decide) (by decide) h0 hpl
end
end Rf

namespace Rf
open PySem L2 LamX
open PyProof.Rows hiding St

/-! ## words for the printed texts -/
theorem fr_suite {T T2 : Tb} {i j : Nat} {a : Addr} (hp : ∀ q ∈ T2.pins, q = (i, a) ∨ q ∈ T.pins) (fr : Fr T j) (h : i ≠ j) : Fr T2 j := fun p hq e => by
  rcases hp p hq with z | z
  · rw [z] at e
    exact h e
  · exact fr p z e
theorem Cs.suite {X : Cx} (C : Cs X) {a : Addr} {pn : List (Addr × Obj)} : Cs (X.suite a pn) := ⟨C.hu, C.nd⟩
def onlyN (b : Str → Env' → So) : Str → Option (Str × D) → Env' → So := fun c p => match p with
  | none => b c
  | some _ => fun _ => .stk
theorem sb_stk {X : Cx} {T : Tb} {W : WX} {sts : List Stmt} : SB X T W sts fun _ => .stk := ⟨fun pins s σ H De I h => by
  obtain ⟨F, env, S, h⟩ := h
  exact h.elim⟩
theorem sb_onlyN {X : Cx} {T : Tb} {W : WX} {sts : List Stmt} {b : Str → Env' → So} {c : Str} {p : Option (Str × D)} (h : p = none → SB X T W sts (b c)) : SB X T W sts (onlyN b c p) := by
  cases p with
  | none => exact h rfl
  | some _ => exact sb_stk
theorem spM_spF {G : Gm} {T : Tb} {m : Fm} {vs : List V} {H : Hp} {Q : VK} {E : XK} (h : spM G T m vs H Q E) : spF G T m vs H Q E := by
  obtain ⟨F, args, S, h⟩ := h
  refine ⟨F, args, S, ?_⟩
  cases e : m args with
  | ok d e2 =>
    rw [e] at h
    exact fun a H' s st o n => h _ H' s st.open (o.open (H0 := H) st fun z => S.fn a z n)
  | exc c p e2 =>
    rw [e] at h
    exact h
  | stk =>
    rw [e] at h
    exact h
theorem Cal.open {P : Program} {w : World} {K : PySem.W.Frag} {mg : Str → Option Value} {base : Heap} {k : Nat} {x : Str} {G : Gm} {T : Tb} {m : Fm} (c : Cal P w K mg base k x (spF G T m)) : Cal P w K mg base k x (spM G T m) := by
  obtain ⟨f, fd, ps, Fn, h1, h2, h3⟩ := c.ex
  exact ⟨f, fd, ps, ⟨fun vs H Q E h => Fn.len vs H Q E (spM_spF h), fun A outer s H args us vs Q E a b c d e h => Fn.go A outer s H args us vs Q E a b c d e (spM_spF h)⟩, h1, h2, h3⟩
theorem Cal.mono {P : Program} {w : World} {K : PySem.W.Frag} {mg : Str → Option Value} {base : Heap} {j k : Nat} {x : Str} {sp : Sp} (c : Cal P w K mg base j x sp) (h : j ≤ k) : Cal P w K mg base k x sp := by
  obtain ⟨f, fd, ps, Fn, h1, h2, h3⟩ := c.ex
  exact ⟨f, fd, ps, Fn.mono h, h1, h2, h3⟩
/-- a constant of the module -/
structure Con (K : PySem.W.Frag) (mg : Str → Option Value) (x : Str) (d : D) : Prop where
  ex : ∃ v u, mg x = some u ∧ RelV v u ∧ ∀ Hs, Is ⟨K, mg⟩ Hs d v
theorem se_con {X : Cx} {T : Tb} {W : WX} {x : Str} {d : D} {pos : Pos} (c : Con X.K X.mg x d) (hg : Gl X x) (hd : (x == ("__debug__" : Str)) = false := by decide) : SE X T W (.Name x pos) (eC d) := by
  obtain ⟨v, u, h1, h2, h3⟩ := c.ex
  exact se_glob hg h1 h2 h3 hd
end Rf

namespace Rf
open PySem L2 LamX
open PyProof.Rows hiding St
open PySem.W (Frag)

/-! ## words for the head -/
theorem law_sp {K : Frag} {mg : Str → Option Value} {T : Tb} {m : Fm} {H : Hp} {a : Addr} {ns : List Int} (hT : Tabs T.tabs H) (hS : SqL K H a (ns.map V.int)) (e : ∃ os, m [.v (.scr ns)] = .ok (.bl true) os) : spM ⟨K, mg⟩ T m [.ref a] H (fun v _ => v = .bl true) fun _ _ _ => False := by
  obtain ⟨os, e⟩ := e
  have no : ∀ b, ¬ Ow [some (V.ref a)] [Slot.v (.scr ns)] b := fun b ⟨i, d, h1, _⟩ => by
    cases i with
    | zero => simp at h1
    | succ i => simp at h1
  have le : Le H (hid H (Hd (fun _ => False) [some (V.ref a)] [Slot.v (.scr ns)])) := fun b o e _ => hid_some.mpr ⟨fun z => z.elim (no b) id, e⟩
  refine ⟨fun _ => False, [.v (.scr ns)], ⟨rfl, fun i s h => ?_, fun i j d d' b h1 h2 h3 h4 => absurd ⟨i, d, h1, h3⟩ (no b), fun b z => absurd z (no b), fun b z => z.elim, ⟨hT, fun p hp => by cases hp⟩, .nil rfl, Le.nil⟩, ?_⟩
  · cases i with
    | zero =>
      simp at h
      subst h
      exact ⟨_, rfl, .ref a, rfl, a, rfl, le.sqL hS⟩
    | succ i => simp at h
  · rw [e]
    exact fun v H' _ _ i => i
theorem tabs_nil {cs : List (Addr × Addr)} {tt : List (Addr × Str)} {H : Hp} (h : ∀ p ∈ cs, H p.2 = some (.tbl #[])) (e : ∀ p ∈ tt, ∃ q ∈ cs, q.2 = p.1) : Tabs tt H := fun p hp => by
  obtain ⟨q, hq, z⟩ := e p hp
  have y := h q hq
  rw [z] at y
  exact TabS.nil y
theorem con_loose {K : Frag} {mg : Str → Option Value} {h : Heap} {p : Program} {lv : List (Str × PySem.W.WData)} {x : Str} {i : Int} (X : PySem.W.XL p lv mg h) (hm : (x, .int i) ∈ lv) : Con K mg x (.int i) := by
  obtain ⟨v, h1, h2⟩ := X.2.val _ hm
  cases h2
  exact ⟨.int i, _, h1, ⟨_, rfl⟩, fun _ => rfl⟩
theorem con_int {K : Frag} {h : Heap} {mg : Str → Option Value} {x : Str} {i : Int} {t : Tok} (X : K.In h) (G : h.Ns mainGlobals mg) (e : PySem.W.nsIn K mainGlobals x = some (some (.int i t))) : Con K mg x (.int i) := ⟨.int i, _, PySem.W.mg_of X G e, ⟨_, rfl⟩, fun _ => rfl⟩
theorem con_str {K : Frag} {h : Heap} {mg : Str → Option Value} {x i : Str} {t : Tok} (X : K.In h) (G : h.Ns mainGlobals mg) (e : PySem.W.nsIn K mainGlobals x = some (some (.str i t))) : Con K mg x (.str i) := ⟨.str i, _, PySem.W.mg_of X G e, ⟨_, rfl⟩, fun _ => rfl⟩
/-- a constant tuple of numbers and texts -/
def flat1 : D → Value → Bool
  | .int i, .int j _ => i == j
  | .str x, .str y _ => x == y
  | .bl a, .bool b => a == b
  | .non, .none => true
  | _, _ => false
def flats : List D → List Value → Bool
  | [], [] => true
  | d :: ds, v :: vs => flat1 d v && flats ds vs
  | _, _ => false
theorem flat1_is {G : Gm} {H : Hp} {d : D} {u : Value} (h : flat1 d u = true) : ∃ v, RelV v u ∧ Is G H d v := by
  cases d <;> cases u <;> simp only [flat1, beq_iff_eq, Bool.false_eq_true] at h
  · exact ⟨.non, rfl, rfl⟩
  · subst h
    exact ⟨.bl _, rfl, rfl⟩
  · subst h
    exact ⟨.int _, ⟨_, rfl⟩, rfl⟩
  · subst h
    exact ⟨.str _, ⟨_, rfl⟩, rfl⟩
theorem flats_is {G : Gm} {H : Hp} : ∀ {ds : List D} {us : List Value}, flats ds us = true → ∃ vs, Vals vs us ∧ IsL G H ds vs
  | [], [], _ => ⟨[], .nil, rfl⟩
  | [], _ :: _, h => by cases h
  | _ :: _, [], h => by cases h
  | d :: ds, u :: us, h => by
    have h : (flat1 d u && flats ds us) = true := h
    obtain ⟨h1, h2⟩ := Bool.and_eq_true_iff.mp h
    obtain ⟨vs, r, i⟩ := flats_is (G := G) (H := H) h2
    obtain ⟨v, r1, i1⟩ := flat1_is (G := G) (H := H) h1
    exact ⟨v :: vs, .cons r1 r, v, vs, rfl, i1, i⟩
theorem con_tup {K : Frag} {h : Heap} {mg : Str → Option Value} {x : Str} {a : Addr} {od : Option Addr} {its : Array Value} {n : Nat} {sl : Array (Option Value)} {ds : List D} (X : K.In h) (G : h.Ns mainGlobals mg) (e : PySem.W.nsIn K mainGlobals x = some (some (.ref a))) (l : K.lookup a = some ⟨.type "tuple", od, .seq its n, sl⟩) (f : flats ds its.toList = true) (z : its.size ≤ 1000) : Con K mg x (.ctup ds) := by
  refine ⟨.ref a, _, PySem.W.mg_of X G e, rfl, fun Hs => ?_⟩
  obtain ⟨vs, r, i⟩ := flats_is (G := ⟨K, mg⟩) (H := Hs) f
  exact ⟨a, vs, rfl, .inr ⟨_, its, n, l, rfl, rfl, by rw [sizeLine_eq]; omega, r⟩, i⟩
/-- the text of an __init__ that says super().__init__('..') first -/
structure InitT (st : Stmt) (ps : List Str) (rest : List Stmt) : Prop where
  ex : ∃ (txt : Str) (j : Nat) (p0 p1 p2 p3 p4 p5 : Pos) (ar : PySem.Arg), defBody st = supS txt j p0 p1 p2 p3 p4 p5 :: rest ∧
    ((defArgs st).posonlyargs ++ (defArgs st).args).head? = some ar ∧ ar.arg = "self" ∧ (∀ y ∈ (defScope st).names, y.2 ≠ .cell) ∧ (∀ y ∈ ps, (defScope st).names.lookup y = some .local) ∧ (defScope st).names.lookup ("super" : Str) = some .globalImplicit ∧ (defScope st).names.lookup ("__class__" : Str) = some .free ∧
      (defScope st).kind = .function ∧ (defScope st).isCoroutine = false ∧ (defScope st).isGenerator = false ∧
    (∀ qual L fI cda cc, (∃ pl, supEv (PySem.W.ksEnv qual (defScope st) L fI (.ref cda) cc) pl txt j p0 p1 p2 p3 p4) ∧ interactive (PySem.W.ksEnv qual (defScope st) L fI (.ref cda) cc) = false ∧ swapsWith (supE txt j p0 p1 p2 p3 p4) none p5.line (PySem.W.ksEnv qual (defScope st) L fI (.ref cda) cc) = pure false) ∧
    ∀ qual kV doc pm an cda ct cc (us : List Value), us.length = ps.length → bindArgs (PySem.W.ksFn "__init__" qual (defArgs st) (defBody st) (defScope st) .none kV doc pm an (.ref cda) ct cc) ⟨us, []⟩ = pure (ps.zip us)
theorem itx_mk {P : Program} {K : Frag} {C fI : Addr} {ps : List Str} {rest : List Stmt} {st : Stmt} {qual : Str} {kV doc pm ct oc : Value} {an od : Option Addr} {osl : Array (Option Value)} {cc cda : Addr} {ccl : Value} {cdd : Option Addr} {vs : Array Value} {ccs : Array (Option Value)} {file : Str} {tf : Tok} {cl : Value} {cld : Option Addr} {csl : Array (Option Value)}
    (iC : PySem.W.findIn K (.ref C) "__init__" = some (some (.ref fI))) (l : K.lookup fI = some ⟨oc, od, .func (PySem.W.ksFn "__init__" qual (defArgs st) (defBody st) (defScope st) .none kV doc pm an (.ref cda) ct cc), osl⟩) (tI : PySem.W.typeIn K (.ref fI) = some (.type "function")) (cI : PySem.W.codeIn K (.ref cda) qual = true)
    (lD : K.lookup cda = some ⟨ccl, cdd, .fields vs, ccs⟩) (l2 : vs[2]? = some (.str file tf)) (lf : ((P.main.file : Str) == file) = true) (lC : K.lookup cc = some ⟨cl, cld, .cell (some (.ref C)), csl⟩) (S : InitT st ps rest) : ITx P K C fI ps rest := by
  obtain ⟨txt, j, p0, p1, p2, p3, p4, p5, ar, e, h1, h2, h3, h4, h5, h6, h7, h8, h9, h10, h11⟩ := S.ex
  refine ⟨iC, tI, qual, _, _, kV, doc, pm, ct, oc, an, od, osl, cc, cda, ccl, cdd, vs, ccs, file, tf, cl, cld, csl, ar, txt, j, p0, p1, p2, p3, p4, p5, by rw [e] at l; exact l, cI, lD, l2, lf, lC, fun us hl => ?_, h1, h2, h3, h4, h5, h6, h7, h8, h9, fun L => h10 qual L fI cda cc⟩
  have z := h11 qual kV doc pm an cda ct cc us hl
  rw [e] at z
  exact z
end Rf

namespace Rf
open PySem L2 LamX

/-! ## the tape that the laws draw from -/
def b_tape : Env' → So := sSeq (sSetO 1 (eLc [2] (iSeq (eSl (eVar 0) (oNone) (oSome (eC (.int 63))))) (tName 2) (qYes) (eCall oAbs (aCons (eCall oInt (aCons (eVar 2) aNil)) aNil))))
  (sRetF (eLst (aCons (eVar 1) (aCons (eC (.int 0)) (aCons (eC (.int 0)) (aCons (eOp dAdd (eC (.int 31)) (eLenV 1)) (aCons (eC (.int 0)) (aNil))))))))
def tapeM : Fm := runF [false] 3 b_tape
def b_pick : Env' → So := sSeq (sIf (qAnd (qCmp bEq (eIxV 0 (eC (.int 2))) (eC (.int 0))) (qCmp bLt (eIxV 0 (eC (.int 1))) (eCall oLen (aCons (eIxV 0 (eC (.int 0))) aNil)))) (sSeq (sSet 3 (eOp dIx (eIxV 0 (eC (.int 0))) (eIxV 0 (eC (.int 1)))))
  (sSeq (sSetIx 0 (eC (.int 1)) (eOp dAdd (eIxV 0 (eC (.int 1))) (eC (.int 1))))
  (sSeq (sSetIx 0 (eC (.int 3)) (eOp dMod (eCall oInt (aCons (eOp dAdd (eOp dAdd (eOp dMul (eIxV 0 (eC (.int 3))) (eC (.int 69621))) (eVar 3)) (eC (.int 11))) aNil)) (eC (.int 2147483629))))
  (sIf (qCmp bGe (eVar 3) (eOp dPow (eC (.int 10)) (eC (.int 18)))) (sSetIx 0 (eC (.int 2)) (eVar 3)) (sNil))))) (sNil))
  (sSeq (sIf (qCmp bGt (eIxV 0 (eC (.int 2))) (eC (.int 0))) (sSeq (sSet 4 (eOp dMod (eCall oInt (aCons (eIxV 0 (eC (.int 2))) aNil)) (eVar 1)))
  (sSeq (sSetIx 0 (eC (.int 2)) (eOp dDiv (eIxV 0 (eC (.int 2))) (eVar 1)))
  (sRet (eVar 4)))) (sNil))
  (sSeq (sSetIx 0 (eC (.int 4)) (eOp dAdd (eIxV 0 (eC (.int 4))) (eC (.int 1))))
  (sSeq (sSet 2 (eOp dMod (eCall oInt (aCons (eOp dMul (eCall oInt (aCons (eOp dAdd (eIxV 0 (eC (.int 3))) (eOp dMul (eC (.int 7919)) (eIxV 0 (eC (.int 4))))) aNil)) (eC (.int 48271))) aNil)) (eC (.int 2147483647))))
  (sSeq (sSet 2 (eOp dMod (eCall oInt (aCons (eOp dMul (eVar 2) (eOp dAdd (eOp dDiv (eVar 2) (eC (.int 1009))) (eC (.int 69621)))) aNil)) (eC (.int 2147483647))))
  (sSeq (sSet 2 (eOp dMod (eCall oInt (aCons (eOp dMul (eVar 2) (eOp dAdd (eOp dDiv (eVar 2) (eC (.int 2003))) (eC (.int 40692)))) aNil)) (eC (.int 2147483399))))
  (sRet (eOp dMod (eCall oInt (aCons (eOp dDiv (eVar 2) (eC (.int 16))) aNil)) (eVar 1)))))))) 
def pickM : Fm := runM [true, false] 5 b_pick

/-- integers of some size may be multiplied -/
def BD : Int := 10 ^ 30
theorem log2_lt {i : Int} (h : -BD ≤ i ∧ i ≤ BD) : i.natAbs.log2 < 1000 := by
  have h1 : i.natAbs ≤ 10 ^ 30 := by
    have : BD = ((10 ^ 30 : Nat) : Int) := by decide
    omega
  by_cases h0 : i.natAbs = 0
  · rw [h0]; decide
  · exact (Nat.log2_lt h0).mpr (Nat.lt_of_le_of_lt h1 (by decide +kernel))
theorem okMul_of {i j : Int} (h1 : -BD ≤ i ∧ i ≤ BD) (h2 : -BD ≤ j ∧ j ≤ BD) : okMul i j = true := by
  have := log2_lt h1
  have := log2_lt h2
  exact decide_eq_true (by omega)
theorem okDiv_of {i j : Int} (h1 : 0 < j) (h2 : j ≤ BD) : okDiv i j = true := by
  have := log2_lt (i := j) ⟨by have : (0 : Int) ≤ BD := by decide
                               omega, h2⟩
  exact decide_eq_true ⟨by omega, by omega⟩
theorem okMod_of {i j : Int} (h1 : 0 < j) : okMod i j = true := decide_eq_true h1
theorem mul_ii {i j : Int} (h1 : -BD ≤ i ∧ i ≤ BD) (h2 : -BD ≤ j ∧ j ≤ BD) : dMul (.int i) (.int j) = some (.int (i * j)) := by
  show (if okMul i j then some (D.int (i * j)) else none) = _
  rw [okMul_of h1 h2]; rfl
theorem div_ii {i j : Int} (h1 : 0 < j) (h2 : j ≤ BD) : dDiv (.int i) (.int j) = some (.int (i / j)) := by
  show (if okDiv i j then some (D.int (divN i j)) else none) = _
  have e : divN i j = i / j := if_neg (by omega)
  rw [okDiv_of h1 h2, e]; rfl
theorem div_nn {i j : Int} (h1 : j < 0) (h2 : -BD ≤ j) : dDiv (.int i) (.int j) = some (.int ((-i) / (-j))) := by
  show (if okDiv i j then some (D.int (divN i j)) else none) = _
  have e : divN i j = (-i) / (-j) := if_pos h1
  have l := log2_lt (i := j) ⟨h2, by have : (0 : Int) ≤ BD := by decide
                                     omega⟩
  have k : okDiv i j = true := decide_eq_true ⟨by omega, by omega⟩
  rw [k, e]; rfl
theorem mod_ii {i j : Int} (h1 : 0 < j) : dMod (.int i) (.int j) = some (.int (i % j)) := by
  show (if okMod i j then some (D.int (i % j)) else none) = _
  rw [okMod_of h1]; rfl
theorem add_ii (i j : Int) : dAdd (.int i) (.int j) = some (.int (i + j)) := rfl
theorem sub_ii (i j : Int) : dSub (.int i) (.int j) = some (.int (i - j)) := rfl
theorem eq_ii (i j : Int) : bEq (.int i) (.int j) = some (decide (i = j)) := by
  show some (eqD (.int i) (.int j)) = _
  rfl
theorem lt_ii (i j : Int) : bLt (.int i) (.int j) = some (decide (i < j)) := rfl
theorem gt_ii (i j : Int) : bGt (.int i) (.int j) = some (decide (j < i)) := rfl
theorem le_ii (i j : Int) : bLe (.int i) (.int j) = some (decide (i ≤ j)) := rfl
theorem ge_ii (i j : Int) : bGe (.int i) (.int j) = some (decide (j ≤ i)) := rfl
theorem BD_eq : BD = 1000000000000000000000000000000 := by decide

/-- the tape; n bounds the draws so far -/
def tapeD (cells : List Int) (i t s c : Int) : D := .lst [.lst (cells.map .int), .int i, .int t, .int s, .int c]
def Tape (n : Nat) (d : D) : Prop := ∃ (cells : List Int) (i t s c : Int), d = tapeD cells i t s c ∧ (∀ x ∈ cells, 0 ≤ x) ∧ 0 ≤ i ∧ 0 ≤ t ∧ 0 ≤ s ∧ s ≤ 2147483647 ∧ 0 ≤ c ∧ c ≤ n
theorem ixN_nat {n : Nat} {i : Int} (h : 0 ≤ i) (h2 : i < n) : ixN n i = some i.toNat := by
  unfold ixN
  rw [if_pos h, if_pos h2]
def stepI (i s : Int) (cell : Int) : Int × Int := (i + 1, (s * 69621 + cell + 11) % 2147483629)

def b_pick1 : Env' → So := sSeq (sSet 3 (eOp dIx (eIxV 0 (eC (.int 0))) (eIxV 0 (eC (.int 1)))))
  (sSeq (sSetIx 0 (eC (.int 1)) (eOp dAdd (eIxV 0 (eC (.int 1))) (eC (.int 1))))
  (sSeq (sSetIx 0 (eC (.int 3)) (eOp dMod (eCall oInt (aCons (eOp dAdd (eOp dAdd (eOp dMul (eIxV 0 (eC (.int 3))) (eC (.int 69621))) (eVar 3)) (eC (.int 11))) aNil)) (eC (.int 2147483629))))
  (sIf (qCmp bGe (eVar 3) (eOp dPow (eC (.int 10)) (eC (.int 18)))) (sSetIx 0 (eC (.int 2)) (eVar 3)) (sNil))))
def b_pick2 : Env' → So := sSeq (sIf (qCmp bGt (eIxV 0 (eC (.int 2))) (eC (.int 0))) (sSeq (sSet 4 (eOp dMod (eCall oInt (aCons (eIxV 0 (eC (.int 2))) aNil)) (eVar 1)))
  (sSeq (sSetIx 0 (eC (.int 2)) (eOp dDiv (eIxV 0 (eC (.int 2))) (eVar 1)))
  (sRet (eVar 4)))) (sNil))
  (sSeq (sSetIx 0 (eC (.int 4)) (eOp dAdd (eIxV 0 (eC (.int 4))) (eC (.int 1))))
  (sSeq (sSet 2 (eOp dMod (eCall oInt (aCons (eOp dMul (eCall oInt (aCons (eOp dAdd (eIxV 0 (eC (.int 3))) (eOp dMul (eC (.int 7919)) (eIxV 0 (eC (.int 4))))) aNil)) (eC (.int 48271))) aNil)) (eC (.int 2147483647))))
  (sSeq (sSet 2 (eOp dMod (eCall oInt (aCons (eOp dMul (eVar 2) (eOp dAdd (eOp dDiv (eVar 2) (eC (.int 1009))) (eC (.int 69621)))) aNil)) (eC (.int 2147483647))))
  (sSeq (sSet 2 (eOp dMod (eCall oInt (aCons (eOp dMul (eVar 2) (eOp dAdd (eOp dDiv (eVar 2) (eC (.int 2003))) (eC (.int 40692)))) aNil)) (eC (.int 2147483399))))
  (sRet (eOp dMod (eCall oInt (aCons (eOp dDiv (eVar 2) (eC (.int 16))) aNil)) (eVar 1)))))))
theorem pick_split : b_pick = sSeq (sIf (qAnd (qCmp bEq (eIxV 0 (eC (.int 2))) (eC (.int 0))) (qCmp bLt (eIxV 0 (eC (.int 1))) (eCall oLen (aCons (eIxV 0 (eC (.int 0))) aNil)))) b_pick1 sNil) b_pick2 := rfl
theorem pow_ten : dPow (.int 10) (.int 18) = some (.int 1000000000000000000) := by kernel_rfl
/-- the second part: digits, or a number -/
theorem pick2 {cells : List Int} {i t s c m : Int} {n : Nat} (x3 : Slot) (hc : ∀ x ∈ cells, 0 ≤ x) (hi : 0 ≤ i) (ht : 0 ≤ t) (hs : 0 ≤ s ∧ s ≤ 2147483647) (hn : 0 ≤ c ∧ c ≤ n) (hn2 : n ≤ 1000000000) (hm : 0 < m) (hb : m ≤ 1000000000000000000000) :
    ∃ r tp x2 x4, b_pick2 [.o (tapeD cells i t s c), .v (.int m), .no, x3, .no] = .ret (.int r) [.o tp, .v (.int m), x2, x3, x4] ∧ 0 ≤ r ∧ r < m ∧ Tape (n + 1) tp := by
  have hb' : m ≤ BD := by rw [BD_eq]; omega
  by_cases h : 0 < t
  · refine ⟨t % m, tapeD cells i (t / m) s c, .no, .v (.int (t % m)), ?_, Int.emod_nonneg _ (by omega), Int.emod_lt_of_pos _ hm, cells, i, _, s, c, rfl, hc, hi, Int.ediv_nonneg ht (by omega), hs.1, hs.2, hn.1, by omega⟩
    have h0 : ¬ t = 0 := by omega
    simp [b_pick2, tapeD, sSeq, sIf, sRet, sSet, sSetIx, sNil, ofRo, Ro.bind, lift, eVar, eC, eOp, qCmp, qAnd, eIxV, slotD, dIx, dIxS, isDic, atI, ixN, eCall, aCons, aNil, oLen, lenD, oInt, eq_ii, lt_ii, gt_ii, ge_ii, add_ii, outR, outOk, outs, ownS, isNo, isLstS, List.replicate, mod_ii hm, div_ii hm hb', h]
  · obtain rfl : t = 0 := by omega
    have m1 : ∀ z : Int, 0 ≤ z % 2147483647 ∧ z % 2147483647 < 2147483647 := fun z => ⟨Int.emod_nonneg _ (by decide), Int.emod_lt_of_pos _ (by decide)⟩
    have m2 : ∀ z : Int, 0 ≤ z % 2147483399 ∧ z % 2147483399 < 2147483399 := fun z => ⟨Int.emod_nonneg _ (by decide), Int.emod_lt_of_pos _ (by decide)⟩
    have e1 : dMul (.int 7919) (.int (c + 1)) = some (.int (7919 * (c + 1))) := mul_ii (by decide) (by rw [BD_eq]; omega)
    have e2 : dMul (.int (s + 7919 * (c + 1))) (.int 48271) = some (.int ((s + 7919 * (c + 1)) * 48271)) := mul_ii (by rw [BD_eq]; omega) (by decide)
    generalize hz : (s + 7919 * (c + 1)) * 48271 % 2147483647 = z at *
    have z1 : 0 ≤ z ∧ z < 2147483647 := hz ▸ m1 _
    have e3 : dDiv (.int z) (.int 1009) = some (.int (z / 1009)) := div_ii (by decide) (by decide)
    have e4 : dMul (.int z) (.int (z / 1009 + 69621)) = some (.int (z * (z / 1009 + 69621))) := mul_ii (by rw [BD_eq]; omega) (by rw [BD_eq]; omega)
    generalize hy : z * (z / 1009 + 69621) % 2147483647 = y at *
    have y1 : 0 ≤ y ∧ y < 2147483647 := hy ▸ m1 _
    have e5 : dDiv (.int y) (.int 2003) = some (.int (y / 2003)) := div_ii (by decide) (by decide)
    have e6 : dMul (.int y) (.int (y / 2003 + 40692)) = some (.int (y * (y / 2003 + 40692))) := mul_ii (by rw [BD_eq]; omega) (by rw [BD_eq]; omega)
    generalize hx : y * (y / 2003 + 40692) % 2147483399 = x at *
    have e7 : dDiv (.int x) (.int 16) = some (.int (x / 16)) := div_ii (by decide) (by decide)
    have q1 : ∀ i, dMod (.int i) (.int 2147483647) = some (.int (i % 2147483647)) := fun i => mod_ii (by decide)
    have q2 : ∀ i, dMod (.int i) (.int 2147483399) = some (.int (i % 2147483399)) := fun i => mod_ii (by decide)
    refine ⟨x / 16 % m, tapeD cells i 0 s (c + 1), .v (.int x), .no, ?_, Int.emod_nonneg _ (by omega), Int.emod_lt_of_pos _ hm, cells, i, 0, s, c + 1, rfl, hc, hi, by omega, hs.1, hs.2, by omega, by omega⟩
    simp [b_pick2, tapeD, sSeq, sIf, sRet, sSet, sSetIx, sNil, ofRo, Ro.bind, lift, eVar, eC, eOp, qCmp, qAnd, eIxV, slotD, dIx, dIxS, isDic, atI, ixN, eCall, aCons, aNil, oLen, lenD, oInt, eq_ii, lt_ii, gt_ii, ge_ii, add_ii, outR, outOk, outs, ownS, isNo, isLstS, List.replicate, e1, e2, e3, e4, e5, e6, e7, q1, q2, hz, hy, hx, mod_ii hm]
theorem pick1 {cells : List Int} {i t s c : Int} (xm : Slot) (hi : 0 ≤ i) (hl : i < cells.length) (hs : 0 ≤ s ∧ s ≤ 2147483647) :
    ∃ cell s' t', cell ∈ cells ∧ (t' = t ∨ t' = cell) ∧ 0 ≤ s' ∧ s' ≤ 2147483647 ∧ b_pick1 [.o (tapeD cells i t s c), xm, .no, .no, .no] = .nx [.o (tapeD cells (i + 1) t' s' c), xm, .no, .v (.int cell), .no] := by
  have hl' : i.toNat < cells.length := by omega
  have g : cells[i.toNat]? = some cells[i.toNat] := List.getElem?_eq_getElem hl'
  generalize hcell : cells[i.toNat] = cell at g
  have q1 : ∀ i, dMod (.int i) (.int 2147483629) = some (.int (i % 2147483629)) := fun i => mod_ii (by decide)
  have e1 : dMul (.int s) (.int 69621) = some (.int (s * 69621)) := mul_ii (by rw [BD_eq]; omega) (by decide)
  have hix : ixN cells.length i = some i.toNat := ixN_nat hi (by omega)
  have hix2 : dIxS (.lst (cells.map .int)) (.int i) = some (.int cell) := by
    simp only [dIxS, atI, List.length_map, hix, Option.bind_some, List.getElem?_map, g, Option.map_some]
  have m2 : ∀ z : Int, 0 ≤ z % 2147483629 ∧ z % 2147483629 < 2147483629 := fun z => ⟨Int.emod_nonneg _ (by decide), Int.emod_lt_of_pos _ (by decide)⟩
  by_cases h : (1000000000000000000 : Int) ≤ cell
  · refine ⟨cell, (s * 69621 + cell + 11) % 2147483629, cell, hcell ▸ List.getElem_mem _, .inr rfl, (m2 _).1, by have := (m2 (s * 69621 + cell + 11)).2; omega, ?_⟩
    have q0 : dIx (.lst [.lst (cells.map .int), .int i, .int t, .int s, .int c]) (.int 0) = some (.lst (cells.map .int)) := rfl
    simp [b_pick1, tapeD, sSeq, sIf, sRet, sSet, sSetIx, sNil, ofRo, Ro.bind, lift, eVar, eC, eOp, qCmp, qAnd, eIxV, slotD, dIx, dIxS, isDic, atI, ixN, eCall, aCons, aNil, oLen, lenD, oInt, eq_ii, lt_ii, gt_ii, ge_ii, add_ii, outR, outOk, outs, ownS, isNo, isLstS, List.replicate, q1, e1, hi, hl, g, pow_ten, h, hcell]
  · refine ⟨cell, (s * 69621 + cell + 11) % 2147483629, t, hcell ▸ List.getElem_mem _, .inl rfl, (m2 _).1, by have := (m2 (s * 69621 + cell + 11)).2; omega, ?_⟩
    simp [b_pick1, tapeD, sSeq, sIf, sRet, sSet, sSetIx, sNil, ofRo, Ro.bind, lift, eVar, eC, eOp, qCmp, qAnd, eIxV, slotD, dIx, dIxS, isDic, atI, ixN, eCall, aCons, aNil, oLen, lenD, oInt, eq_ii, lt_ii, gt_ii, ge_ii, add_ii, outR, outOk, outs, ownS, isNo, isLstS, List.replicate, q1, e1, hi, hl, g, pow_ten, h, hcell]
theorem pick_ok {n : Nat} {d : D} {m : Int} (hT : Tape n d) (hn : n ≤ 1000000000) (hm : 0 < m) (hb : m ≤ 1000000000000000000000) : ∃ r tp, pickM [.o d, .v (.int m)] = .ok (.int r) [.o tp, .no] ∧ 0 ≤ r ∧ r < m ∧ Tape (n + 1) tp := by
  obtain ⟨cells, i, t, s, c, rfl, hc, hi, ht, hs, hs2, h0, h1⟩ := hT
  have run : ∀ {x3 t' s' : _} {i' : Int}, 0 ≤ i' → 0 ≤ t' → 0 ≤ s' ∧ s' ≤ 2147483647 → (b_pick [.o (tapeD cells i t s c), .v (.int m), .no, .no, .no] = b_pick2 [.o (tapeD cells i' t' s' c), .v (.int m), .no, x3, .no]) → ∃ r tp, pickM [.o (tapeD cells i t s c), .v (.int m)] = .ok (.int r) [.o tp, .no] ∧ 0 ≤ r ∧ r < m ∧ Tape (n + 1) tp := fun {x3 t' s' i'} a1 a2 a3 e => by
    obtain ⟨r, tp, x2, x4, q, r1, r2, r3⟩ := pick2 x3 hc a1 a2 a3 ⟨h0, h1⟩ hn hm hb
    refine ⟨r, tp, ?_, r1, r2, r3⟩
    show (match b_pick [.o (tapeD cells i t s c), .v (.int m), .no, .no, .no] with | .nx e => _ | .ret d e => _ | .retF d e => _ | .exc c p e => _ | _ => _) = _
    rw [e, q]
    rfl
  by_cases h : t = 0 ∧ i < cells.length
  · obtain ⟨cell, s', t', k1, k2, k3, k4, k5⟩ := pick1 (t := t) (c := c) (.v (.int m)) hi h.2 ⟨hs, hs2⟩
    refine run (x3 := .v (.int cell)) (t' := t') (s' := s') (i' := i + 1) (by omega) ?_ ⟨k3, k4⟩ ?_
    · have := hc _ k1
      rcases k2 with k2 | k2 <;> omega
    · rw [pick_split]
      simp only [tapeD] at k5
      simp [tapeD, sSeq, sIf, sNil, ofRo, Ro.bind, lift, eC, qCmp, qAnd, eIxV, slotD, dIx, dIxS, isDic, atI, ixN, eCall, aCons, aNil, oLen, lenD, eq_ii, lt_ii, h.1, h.2] at k5 ⊢
      rw [k5]
  · refine run (x3 := .no) (t' := t) (s' := s) (i' := i) hi ht ⟨hs, hs2⟩ ?_
    rw [pick_split]
    by_cases h2 : t = 0
    · have h3 : ¬ i < cells.length := fun z => h ⟨h2, z⟩
      simp [tapeD, sSeq, sIf, sNil, ofRo, Ro.bind, lift, eC, qCmp, qAnd, eIxV, slotD, dIx, dIxS, isDic, atI, ixN, eCall, aCons, aNil, oLen, lenD, eq_ii, lt_ii, h2, h3]
    · simp [tapeD, sSeq, sIf, sNil, ofRo, Ro.bind, lift, eC, qCmp, qAnd, eIxV, slotD, dIx, dIxS, isDic, atI, ixN, eCall, aCons, aNil, oLen, lenD, eq_ii, lt_ii, h2]
def absI (i : Int) : Int := if i < 0 then -i else i
theorem absI_nn (i : Int) : 0 ≤ absI i := by unfold absI; split <;> omega
theorem tape_loop (z : D) : ∀ (ns : List Int) (acc : List D), acc.length + ns.length ≤ 1000 → lcL [2] (tName 2) qYes (eCall oAbs (aCons (eCall oInt (aCons (eVar 2) aNil)) aNil)) (ns.map D.int) acc [.v z, .no, .no] = .ok (acc ++ ns.map fun i => D.int (absI i)) [.v z, .no, .no]
  | [], acc, h => by simp [lcL]
  | i :: ns, acc, h => by
    have h' : acc.length < sizeLine := by
      have : sizeLine = 16777216 := by decide
      rw [List.length_cons] at h
      omega
    have ih := tape_loop z ns (acc ++ [D.int (absI i)]) (by rw [List.length_append]; simp at h ⊢; omega)
    rw [List.map_cons]
    have e : absI i = if i < 0 then -i else i := rfl
    simp [lcL, tName, qYes, eCall, aCons, aNil, eVar, Ro.bind, lift, oAbs, oInt, h', noOwn, isOwn, wipeE, ← e, ih]
theorem tape_ok (ns : List Int) (hl : ns.length ≤ 63) : ∃ d, tapeM [.v (.scr ns)] = .ok d [.no] ∧ Tape 0 d := by
  have hc : cut ns none (some 63) = ns := cut_whole ⟨rfl, by
    unfold HT.sIx
    simp
    omega⟩
  have e := tape_loop (.scr ns) ns [] (by simp; omega)
  refine ⟨tapeD (ns.map absI) 0 0 (31 + ns.length) 0, ?_, ns.map absI, 0, 0, _, 0, rfl, fun x hx => ?_, by omega, by omega, by omega, by omega, by omega, by omega⟩
  · have e2 : (cut ns none (some 63)).map D.int = ns.map D.int := by rw [hc]
    simp [tapeM, runF, b_tape, ownS, isNo, List.replicate, sSeq, sSetO, sRetF, ofRo, Ro.bind, lift, eLc, iSeq, eSl, eVar, eC, oNone, oSome, dSl, seqD, noOwn, isOwn, wipeE, backE, e2, e, eLst, aCons, aNil, eOp, eLenV, slotD, lenD, add_ii, outR, outOk, outs, tapeD, List.map_map, Function.comp_def, sizeLine]
  · obtain ⟨z, _, rfl⟩ := List.mem_map.mp hx
    exact absI_nn z
end Rf

namespace Rf
open PySem L2 LamX

/-! ## repr of numbers and what is laid of them is a plain text -/
theorem ok_ofString (s : String) : PyData.strOk (Str.ofString s) = true := by
  rw [Str.ofString_eq_toList]
  unfold PyData.strOk
  rw [List.all_toArray]
  refine List.all_eq_true.mpr fun x hx => ?_
  obtain ⟨c, _, rfl⟩ := List.mem_map.mp hx
  refine decide_eq_true ?_
  have := c.valid
  unfold Char.toNat
  rcases this with h | h
  · have := h; omega
  · exact h.2
theorem ok_app {a b : Str} (ha : PyData.strOk a = true) (hb : PyData.strOk b = true) : PyData.strOk (a ++ b) = true := by
  show (a.cps ++ b.cps).all _ = true
  rw [Array.all_append]
  exact Bool.and_eq_true_iff.mpr ⟨ha, hb⟩
theorem ok_from : ∀ (ts : List Str) (k : Nat) (acc : Str), PyData.strOk acc = true → (∀ t ∈ ts, PyData.strOk t = true) → PyData.strOk (PySem.textFrom k acc ts) = true
  | [], k, acc, h, _ => h
  | t :: r, k, acc, h, ht => ok_from r (k + 1) _ (ok_app (ok_app h (ok_ofString _)) (ht t (by simp))) fun u hu => ht u (by simp [hu])
theorem ok_join : ∀ (ts : List Str), (∀ t ∈ ts, PyData.strOk t = true) → PyData.strOk (Str.join ", " ts) = true
  | [], _ => ok_ofString ""
  | [x], h => h x (by simp)
  | x :: y :: r, h => ok_app (ok_app (h x (by simp)) (ok_ofString _)) (ok_join (y :: r) fun t ht => h t (by simp at ht ⊢; exact .inr ht))
mutual
def noS : D → Bool
  | .non => true
  | .bl _ => true
  | .int _ => true
  | .tup xs => noSL xs
  | .lst xs => noSL xs
  | _ => false
def noSL : List D → Bool
  | [] => true
  | x :: xs => noS x && noSL xs
end
mutual
theorem shown_ok : ∀ d : D, noS d = true → PyData.strOk (PyData.shown (toPy d)) = true
  | .non, _ => ok_ofString _
  | .bl b, _ => by cases b <;> exact ok_ofString _
  | .int i, _ => ok_ofString _
  | .str x, h => by cases h
  | .tup xs, h => ok_app (ok_app (ok_ofString _) (ok_join _ (shown_okL xs h))) (ok_ofString _)
  | .lst xs, h => ok_app (ok_from _ _ _ (ok_ofString _) (shown_okL xs h)) (ok_ofString _)
  | .dK _ _, h => by cases h
  | .dT _ _, h => by cases h
  | .fn _, h => by cases h
  | .scr _, h => by cases h
  | .ctup _, h => by cases h
theorem shown_okL : ∀ ds : List D, noSL ds = true → ∀ t ∈ PyData.shownAll (toPyL ds), PyData.strOk t = true
  | [], _, t, ht => by cases ht
  | d :: ds, h, t, ht => by
    obtain ⟨h1, h2⟩ := Bool.and_eq_true_iff.mp (show (noS d && noSL ds) = true from h)
    rcases List.mem_cons.mp (show t ∈ PyData.shown (toPy d) :: PyData.shownAll (toPyL ds) from ht) with e | e
    · rw [e]
      exact shown_ok d h1
    · exact shown_okL ds h2 t e
end
/-- repr of it is had, and is like itself -/
def rp (d : D) : Bool := okRep d && noS d
theorem repr_of {d : D} (h : rp d = true) : oRepr [d] = some (.str (PyData.shown (toPy d))) := by
  unfold rp at h
  obtain ⟨h1, h2⟩ := Bool.and_eq_true_iff.mp h
  unfold oRepr
  simp only [h1, if_true]
theorem ne_repr {d : D} (h : rp d = true) : bNe (.str (PyData.shown (toPy d))) (.str (PyData.shown (toPy d))) = some false := by
  unfold rp at h
  obtain ⟨h1, h2⟩ := Bool.and_eq_true_iff.mp h
  have h3 := shown_ok d h2
  show (if PyData.strOk (PyData.shown (toPy d)) && PyData.strOk (PyData.shown (toPy d)) then some (!(PyData.shown (toPy d) == PyData.shown (toPy d))) else none) = _
  rw [h3, beq_self_eq_true]
  rfl
end Rf

namespace Rf
open PySem L2 LamX

/-! ## more that is walked: zip, enumerate, reversed, range with a step -/
section
variable {G : Gm} {Hs0 : Hp} {p p2 : Addr} {xs ys : List D} {vs ws : List V}
theorem get_zip {xs ys : List D} {i : Nat} {d : D} (h : (List.zipWith (fun x y => D.tup [x, y]) xs ys)[i]? = some d) : ∃ x y, xs[i]? = some x ∧ ys[i]? = some y ∧ d = .tup [x, y] := by
  rw [List.getElem?_zipWith] at h
  cases e1 : xs[i]? with
  | none => rw [e1] at h; simp at h
  | some x =>
    cases e2 : ys[i]? with
    | none => rw [e1, e2] at h; simp at h
    | some y =>
      rw [e1, e2] at h
      exact ⟨x, y, rfl, rfl, by simpa using h.symm⟩
theorem pair_is {G : Gm} {Hs Hs' H : Hp} {T : Addr} {d e : D} {v w : V} (l : Le Hs Hs') (hn : H T = none) (hk : ∀ a o, H a = none → upd H T (.tup [v, w]) a = some o → Hs' a = some o) (i1 : Is G Hs d v) (i2 : Is G Hs e w) : Is G Hs' (.tup [d, e]) (.ref T) :=
  ⟨T, [v, w], rfl, hk T _ hn upd_same, v, [w], rfl, Is.mono l _ _ i1, w, [], rfl, Is.mono l _ _ i2, rfl⟩
theorem new_upd {H : Hp} {T : Addr} {o : HO} (hn : H T = none) : New H (upd H T o) := fun a u e => by
  rw [upd_ne (fun z => by rw [z, hn] at e; cases e)]
  exact e
theorem JIs.zipL (s : Hs0 p = some (.lst vs)) (m : IsL G Hs0 xs vs) (s2 : Hs0 p2 = some (.lst ws)) (m2 : IsL G Hs0 ys ws) : JIs G Hs0 (Itz G.K p p2) (List.zipWith (fun x y => D.tup [x, y]) xs ys) where
  go := fun i Hs H hi l1 l2 => by
    rw [List.length_zipWith, IsL.length m, IsL.length m2] at hi
    have h1 : i < vs.length := by omega
    have h2 : i < ws.length := by omega
    exact ⟨vs, ws, vs[i], ws[i], (l1.trans l2).lq s, (l1.trans l2).lq s2, by simp [h1], by simp [h2]⟩
  stop := fun Hs H l1 l2 => ⟨vs, ws, (l1.trans l2).lq s, (l1.trans l2).lq s2, by rw [List.length_zipWith, IsL.length m, IsL.length m2]; omega⟩
  yld := fun i d Hs H x H' hd l1 l2 h => by
    obtain ⟨T, x1, y1, rfl, hn, rfl, a1, a2⟩ := h
    obtain ⟨d1, d2, g1, g2, rfl⟩ := get_zip hd
    obtain ⟨v, e1, e2⟩ := IsL.get m g1
    obtain ⟨w, e3, e4⟩ := IsL.get m2 g2
    have q1 := a1 vs ((l1.trans l2).lq s)
    have q2 := a2 ws ((l1.trans l2).lq s2)
    rw [e1] at q1
    rw [e3] at q2
    obtain rfl := Option.some.inj q1
    obtain rfl := Option.some.inj q2
    exact ⟨new_upd hn, fun Hs' l3 k => pair_is (l1.trans l3) hn k e2 e4⟩
theorem JIs.zipT (s : SqT G.K Hs0 p vs) (m : IsL G Hs0 xs vs) (s2 : SqT G.K Hs0 p2 ws) (m2 : IsL G Hs0 ys ws) : JIs G Hs0 (RZ.ItzT G.K p p2) (List.zipWith (fun x y => D.tup [x, y]) xs ys) where
  go := fun i Hs H hi l1 l2 => by
    rw [List.length_zipWith, IsL.length m, IsL.length m2] at hi
    have h1 : i < vs.length := by omega
    have h2 : i < ws.length := by omega
    exact ⟨vs, ws, vs[i], ws[i], (l1.trans l2).sqT s, (l1.trans l2).sqT s2, by simp [h1], by simp [h2]⟩
  stop := fun Hs H l1 l2 => ⟨vs, ws, (l1.trans l2).sqT s, (l1.trans l2).sqT s2, by rw [List.length_zipWith, IsL.length m, IsL.length m2]; omega⟩
  yld := fun i d Hs H x H' hd l1 l2 h => by
    obtain ⟨T, x1, y1, rfl, hn, rfl, a1, a2⟩ := h
    obtain ⟨d1, d2, g1, g2, rfl⟩ := get_zip hd
    obtain ⟨v, e1, e2⟩ := IsL.get m g1
    obtain ⟨w, e3, e4⟩ := IsL.get m2 g2
    have q1 := a1 vs ((l1.trans l2).sqT s)
    have q2 := a2 ws ((l1.trans l2).sqT s2)
    rw [e1] at q1
    rw [e3] at q2
    obtain rfl := Option.some.inj q1
    obtain rfl := Option.some.inj q2
    exact ⟨new_upd hn, fun Hs' l3 k => pair_is (l1.trans l3) hn k e2 e4⟩
/-- (0, x), (1, y), .. -/
def enumD : Nat → List D → List D
  | _, [] => []
  | n, x :: xs => .tup [.int (n : Int), x] :: enumD (n + 1) xs
theorem enum_len : ∀ (n : Nat) (xs : List D), (enumD n xs).length = xs.length
  | _, [] => rfl
  | n, x :: xs => by
    show (enumD (n + 1) xs).length + 1 = _
    rw [enum_len (n + 1) xs]; rfl
theorem enum_get : ∀ (n : Nat) (xs : List D) (i : Nat) (d : D), (enumD n xs)[i]? = some d → ∃ x, xs[i]? = some x ∧ d = .tup [.int ((n + i : Nat) : Int), x]
  | n, [], i, d, h => by simp [enumD] at h
  | n, x :: xs, 0, d, h => ⟨x, rfl, by simpa [enumD] using h.symm⟩
  | n, x :: xs, i + 1, d, h => by
    obtain ⟨y, e1, e2⟩ := enum_get (n + 1) xs i d (by simpa [enumD] using h)
    exact ⟨y, by simpa using e1, by rw [e2]; congr 4; omega⟩
theorem JIs.enum (s : Hs0 p = some (.lst vs)) (m : IsL G Hs0 xs vs) : JIs G Hs0 (Ite G.K p) (enumD 0 xs) where
  go := fun i Hs H hi l1 l2 => by
    rw [enum_len, IsL.length m] at hi
    exact ⟨vs, vs[i], (l1.trans l2).lq s, by simp [hi]⟩
  stop := fun Hs H l1 l2 => ⟨vs, (l1.trans l2).lq s, by rw [enum_len, IsL.length m]; exact Nat.le_refl _⟩
  yld := fun i d Hs H x H' hd l1 l2 h => by
    obtain ⟨T, x1, rfl, hn, rfl, a1⟩ := h
    obtain ⟨d1, g1, rfl⟩ := enum_get 0 xs i d hd
    obtain ⟨v, e1, e2⟩ := IsL.get m g1
    have q1 := a1 vs ((l1.trans l2).lq s)
    rw [e1] at q1
    obtain rfl := Option.some.inj q1
    exact ⟨new_upd hn, fun Hs' l3 k => pair_is (d := .int ((0 + i : Nat) : Int)) (v := .int (i : Nat)) (l1.trans l3) hn k (by rw [Nat.zero_add]; rfl) e2⟩
theorem rev_get {α : Type} {xs : List α} {i : Nat} {d : α} (h : xs.reverse[i]? = some d) : i < xs.length ∧ xs[xs.length - 1 - i]? = some d := by
  by_cases hi : i < xs.length
  · rw [List.getElem?_reverse hi] at h
    exact ⟨hi, h⟩
  · rw [List.getElem?_eq_none (by simpa using hi)] at h
    cases h
theorem JIs.revL (s : Hs0 p = some (.lst vs)) (m : IsL G Hs0 xs vs) : JIs G Hs0 (Itv G.K p vs.length) xs.reverse where
  go := fun i Hs H hi l1 l2 => by
    rw [List.length_reverse, IsL.length m] at hi
    have h1 : vs.length - 1 - i < vs.length := by omega
    exact ⟨hi, vs, vs[vs.length - 1 - i], (l1.trans l2).lq s, List.getElem?_eq_getElem h1⟩
  stop := fun Hs H l1 l2 => by rw [List.length_reverse, IsL.length m]; exact Nat.le_refl _
  yld := fun i d Hs H x H' hd l1 l2 h => by
    obtain ⟨rfl, h⟩ := h
    obtain ⟨hi, g⟩ := rev_get hd
    obtain ⟨v, e1, e2⟩ := IsL.get m g
    have q := h vs ((l1.trans l2).lq s)
    rw [← IsL.length m, e1] at q
    obtain rfl := Option.some.inj q
    exact ⟨New.refl _, fun Hs' l3 _ => Is.mono (l1.trans l3) _ _ e2⟩
theorem JIs.revT (s : SqT G.K Hs0 p vs) (m : IsL G Hs0 xs vs) : JIs G Hs0 (RT.ItvT G.K p vs.length) xs.reverse where
  go := fun i Hs H hi l1 l2 => by
    rw [List.length_reverse, IsL.length m] at hi
    have h1 : vs.length - 1 - i < vs.length := by omega
    exact ⟨hi, vs, vs[vs.length - 1 - i], (l1.trans l2).sqT s, List.getElem?_eq_getElem h1⟩
  stop := fun Hs H l1 l2 => by rw [List.length_reverse, IsL.length m]; exact Nat.le_refl _
  yld := fun i d Hs H x H' hd l1 l2 h => by
    obtain ⟨rfl, h⟩ := h
    obtain ⟨hi, g⟩ := rev_get hd
    obtain ⟨v, e1, e2⟩ := IsL.get m g
    have q := h vs ((l1.trans l2).sqT s)
    rw [← IsL.length m, e1] at q
    obtain rfl := Option.some.inj q
    exact ⟨New.refl _, fun Hs' l3 _ => Is.mono (l1.trans l3) _ _ e2⟩
/-- lo, lo + c, .. -/
def rngC (lo c : Int) (n : Nat) : List D := (List.range n).map fun (i : Nat) => D.int (lo + (i : Int) * c)
theorem rngC_len (lo c : Int) (n : Nat) : (rngC lo c n).length = n := by simp [rngC]
theorem rngC_get {lo c : Int} {n i : Nat} {d : D} (h : (rngC lo c n)[i]? = some d) : d = .int (lo + (i : Int) * c) ∧ i < n := by
  unfold rngC at h
  rw [List.getElem?_map] at h
  by_cases hi : i < n
  · rw [List.getElem?_range hi] at h
    exact ⟨(Option.some.inj h).symm, hi⟩
  · rw [List.getElem?_eq_none (by simpa using hi)] at h
    cases h
theorem JIs.rngC {lo c : Int} {n : Nat} : JIs G Hs0 (Itc lo c n) (rngC lo c n) where
  go := fun i Hs H hi _ _ => by rw [rngC_len] at hi; exact hi
  stop := fun Hs H _ _ => by rw [rngC_len]; exact Nat.le_refl _
  yld := fun i d Hs H x H' hd _ _ h => by
    obtain ⟨e1, e2⟩ := h
    obtain ⟨e, hi⟩ := rngC_get hd
    subst e1
    subst e
    refine ⟨New.refl _, fun Hs' _ _ => ?_⟩
    rw [e2]
    rfl
end
def tupD : D → Option (List D)
  | .tup xs => some xs
  | .ctup xs => some xs
  | _ => none
def lstD : D → Option (List D)
  | .lst xs => some xs
  | _ => none
theorem tupD_is {G : Gm} {Hs : Hp} {d : D} {v : V} {xs : List D} (h : tupD d = some xs) (i : Is G Hs d v) : ∃ p vs, v = .ref p ∧ SqT G.K Hs p vs ∧ IsL G Hs xs vs := by
  unfold tupD at h
  split at h
  · obtain rfl := Option.some.inj h
    obtain ⟨p, vs, rfl, s, m⟩ := i
    exact ⟨p, vs, rfl, .inl (.inl s), m⟩
  · obtain rfl := Option.some.inj h
    obtain ⟨p, vs, rfl, s, m⟩ := i
    exact ⟨p, vs, rfl, s, m⟩
  · cases h
theorem lstD_is {G : Gm} {Hs : Hp} {d : D} {v : V} {xs : List D} (h : lstD d = some xs) (i : Is G Hs d v) : ∃ p vs, v = .ref p ∧ Hs p = some (.lst vs) ∧ IsL G Hs xs vs := by
  unfold lstD at h
  split at h
  · obtain rfl := Option.some.inj h
    exact i
  · cases h
def zipD (a b : D) : Option (List D) := match lstD a, lstD b with
  | some xs, some ys => some (List.zipWith (fun x y => D.tup [x, y]) xs ys)
  | _, _ => match tupD a, tupD b with
    | some xs, some ys => some (List.zipWith (fun x y => D.tup [x, y]) xs ys)
    | _, _ => none
def iZip2 (f g : Env' → Ro D) : Env' → Ro (List D) := fun env => (f env).bind fun d e => (g e).bind fun d' e => lift (zipD d d') e
def iEnu (f : Env' → Ro D) : Env' → Ro (List D) := fun env => (f env).bind fun d e => lift ((lstD d).map (enumD 0)) e
def revD (d : D) : Option (List D) := match lstD d with
  | some xs => some xs.reverse
  | none => (tupD d).map List.reverse
def iRevD (f : Env' → Ro D) : Env' → Ro (List D) := fun env => (f env).bind fun d e => lift (revD d) e
def stepN (i j c : Int) : Nat := (Builtin.Range.rangeSize i j c).toNat
def okR3 (i j c : Int) : Bool := decide (c ≠ 0 ∧ c.natAbs < 1073741824 ∧ Builtin.Range.small i j c = true ∧ Builtin.Range.rangeSize i j c = (stepN i j c : Int))
def iR3 (f g u : Env' → Ro D) : Env' → Ro (List D) := fun env => (f env).bind fun d e => (g e).bind fun d' e => (u e).bind fun d'' e => match d, d', d'' with
  | .int i, .int j, .int c => if okR3 i j c then .ok (rngC i c (stepN i j c)) e else .stk
  | _, _, _ => .stk
section
variable {X : Cx} {T : Tb} {W : WX} {k : Nat} {a b c tg : Expr} {f g u : Env' → Ro D} {pos p tpos : Pos} {elts : List Expr} {kk : Nat}
theorem si_zip (hg : Gl X "zip") (hm : X.mg "zip" = none) (ha : SE X T W a f) (hb : SE X T W b g) (hs : starEach [a, b] X.env = (false, eval a X.env) :: starEach [b] X.env := by rfl) (hs2 : starEach [b] X.env = (false, eval b X.env) :: starEach [] X.env := by rfl)
    (hpl : (backTo pos (starEach [b] X.env)).any (·.1) = false := by rfl) : SI X T W (.Tuple elts kk tpos) (.Call (.Name "zip" p) [a, b] [] pos) (iZip2 f g) :=
  PI.weak (RZ.pi_zipA hg hm (pa_cons ha (pa_cons hb pa_nil hs2) hs) hs hpl) fun σ H R h => rd_bind h fun F env d v H1 S1 i1 h1 => ⟨F, env, S1, Rst.bind S1 h1 fun d' v' H2 env2 s2 S2 i2 h2 => by
    obtain ⟨zs, e, h2⟩ := lift_some h2
    replace i1 := Is.mono (s2.le F) _ _ i1
    unfold zipD at e
    split at e
    · rename_i xs ys e1 e2
      obtain rfl := Option.some.inj e
      obtain ⟨q1, vs, rfl, s1, m1⟩ := lstD_is e1 i1
      obtain ⟨q2, ws, rfl, s3, m2⟩ := lstD_is e2 i2
      exact ⟨q1, q2, vs, ws, rfl, .inl ⟨Le.unhid.lq s1, Le.unhid.lq s3, fin_same (R := fun Hs ds J => JIs (gm X) Hs J ds) S2 (JIs.zipL s1 m1 s3 m2) h2⟩⟩
    · split at e
      · rename_i xs ys e1 e2
        obtain rfl := Option.some.inj e
        obtain ⟨q1, vs, rfl, s1, m1⟩ := tupD_is e1 i1
        obtain ⟨q2, ws, rfl, s3, m2⟩ := tupD_is e2 i2
        exact ⟨q1, q2, vs, ws, rfl, .inr ⟨Le.unhid.sqT s1, Le.unhid.sqT s3, fin_same (R := fun Hs ds J => JIs (gm X) Hs J ds) S2 (JIs.zipT s1 m1 s3 m2) h2⟩⟩
      · cases e⟩
theorem si_enum (hg : Gl X "enumerate") (hm : X.mg "enumerate" = none) (ha : SE X T W a f) (hs : starEach [a] X.env = [(false, eval a X.env)] := by rfl) (h1 : starEach [a] X.env = (false, eval a X.env) :: starEach [] X.env := by rfl) :
    SI X T W (.Tuple elts kk tpos) (.Call (.Name "enumerate" p) [a] [] pos) (iEnu f) :=
  PI.weak (pi_enum hg hm (pa_cons ha pa_nil h1) hs) fun σ H R h => rd_bind h fun F env d v H1 S1 i1 h1 => by
    obtain ⟨zs, e, h1⟩ := lift_some h1
    cases e1 : lstD d with
    | none => rw [e1] at e; cases e
    | some xs =>
      rw [e1] at e
      obtain rfl := Option.some.inj e
      obtain ⟨q, vs, rfl, s, m⟩ := lstD_is e1 i1
      exact ⟨q, vs, rfl, Le.unhid.lq s, fin_same (R := fun Hs ds J => JIs (gm X) Hs J ds) S1 (JIs.enum s m) h1⟩
theorem si_rev (hg : Gl X "reversed") (hm : X.mg "reversed" = none) (ha : SE X T W a f) (hs : starEach [a] X.env = (false, eval a X.env) :: starEach [] X.env := by rfl) : SI X T W tg (.Call (.Name "reversed" p) [a] [] pos) (iRevD f) :=
  PI.weak (RT.pi_revA hg hm ha hs) fun σ H R h => rd_bind h fun F env d v H1 S1 i1 h1 => by
    obtain ⟨zs, e, h1⟩ := lift_some h1
    unfold revD at e
    split at e
    · rename_i xs e1
      obtain rfl := Option.some.inj e
      obtain ⟨q, vs, rfl, s, m⟩ := lstD_is e1 i1
      exact ⟨q, vs, rfl, .inl ⟨Le.unhid.lq s, fin_same (R := fun Hs ds J => JIs (gm X) Hs J ds) S1 (JIs.revL s m) h1⟩⟩
    · cases e1 : tupD d with
      | none => rw [e1] at e; cases e
      | some xs =>
        rw [e1] at e
        obtain rfl := Option.some.inj e
        obtain ⟨q, vs, rfl, s, m⟩ := tupD_is e1 i1
        exact ⟨q, vs, rfl, .inr ⟨Le.unhid.sqT s, fin_same (R := fun Hs ds J => JIs (gm X) Hs J ds) S1 (JIs.revT s m) h1⟩⟩
theorem si_r3 (hg : Gl X "range") (hm : X.mg "range" = none) (ha : SE X T W a f) (hb : SE X T W b g) (hc : SE X T W c u) (hs : starEach [a, b, c] X.env = (false, eval a X.env) :: starEach [b, c] X.env := by rfl) (hpl : (backTo pos (starEach [b, c] X.env)).any (·.1) = false := by rfl)
    (h4 : starEach [b, c] X.env = (false, eval b X.env) :: starEach [c] X.env := by rfl) (h5 : starEach [c] X.env = (false, eval c X.env) :: starEach [] X.env := by rfl) : SI X T W tg (.Call (.Name "range" p) [a, b, c] [] pos) (iR3 f g u) :=
  PI.weak (pi_range3 hg hm (pa_cons ha (pa_cons hb (pa_cons hc pa_nil h5) h4) hs) hs hpl) fun σ H R h => rd_bind h fun F env d v H1 S1 i1 h1 => ⟨F, env, S1, Rst.bind S1 h1 fun d' v' H2 env2 s2 S2 i2 h2 => ⟨F, env2, S2, Rst.bind S2 h2 fun d'' v'' H3 env3 s3 S3 i3 h3 => by
    split at h3
    · rename_i i j c
      split at h3
      · rename_i ok
        obtain ⟨o1, o2, o3, o4⟩ := of_decide_eq_true ok
        obtain rfl : v = .int i := i1
        obtain rfl : v' = .int j := i2
        obtain rfl : v'' = .int c := i3
        exact ⟨i, j, c, _, rfl, ⟨o1, o2, o3, o4⟩, fin_same (R := fun Hs ds J => JIs (gm X) Hs J ds) S3 JIs.rngC h3⟩
      · exact h3.elim
    · exact h3.elim⟩⟩
end
end Rf

namespace Rf
open PySem L2 LamX

/-! ## dict comprehensions (keys: numbers, texts) -/
section
variable {G : Gm} {T : Tb} {F F' : Addr → Prop} {σ σ1 : St} {H H1 H' : Hp} {env e e0 : Env'} {vs : List Nat} {W : WX}
/-- within a block whose own new object at L is d -/
structure InK (G : Gm) (T : Tb) (F : Addr → Prop) (L : Addr) (σ1 : St) (H1 : Hp) (e1 : Env') (σ : St) (H : Hp) (e : Env') (d : D) : Prop where
  st : Sta G T (Pl F L) σ H e
  sp : Stp σ1 H1 e1 σ H e
  ac : OIs G (hid H (Hd (Pl F L) σ e)) H d L
  nn : H1 L = none
  ol : T.old L = none
variable {L : Addr} {σ2 : St} {H2 : Hp} {e1 e2 : Env'} {d d' : D}
theorem InK.step (b : InK G T F L σ1 H1 e1 σ H e d) (s : Stp σ H e σ2 H2 e2) (S : Sta G T (Pl F L) σ2 H2 e2) : InK G T F L σ1 H1 e1 σ2 H2 e2 d := by
  obtain ⟨o, h1, h2, _⟩ := b.ac.there
  refine ⟨S, b.sp.trans s, b.ac.mono (s.le (Pl F L)) ?_, b.nn, b.ol⟩
  rw [h1]
  exact s.keep L _ h1 h2 fun z => b.st.fr L z (.inr rfl)
theorem InK.put (b : InK G T F L σ1 H1 e1 σ H e d) {o' : HO} (k : ∀ Hs, Le (hid H (Hd (Pl F L) σ e)) Hs → OIs G Hs (upd H L o') d' L) : InK G T F L σ1 H1 e1 σ (upd H L o') e d' := by
  obtain ⟨o, h1, h2, _⟩ := b.ac.there
  have nOld : ∀ c, T.old c ≠ none → c ≠ L := fun c e z => e (by rw [z]; exact b.ol)
  have nL : ∀ a, a ≠ L → upd H L o' a = H a := fun a z => upd_ne z
  have le : Le (hid H (Hd (Pl F L) σ e)) (hid (upd H L o') (Hd (Pl F L) σ e)) := Le.hid fun a o h _ k => ⟨k, by
    rw [nL a fun z => k (.inr (.inr z))]
    exact h⟩
  refine ⟨⟨b.st.len, fun j s q => ?_, b.st.dis, b.st.fr, fun a z => ?_, ?_, b.st.old.to (fun a o e _ h => (nL a (fun z => nOld a (by rw [e]; simp) z)).trans h) (fun a e h => by rw [nL a (nOld a e)]; exact h) fun _ z => .inl z, b.st.vis.trans le⟩, ⟨fun a o h n k => ?_, b.sp.own, fun a h => ?_⟩, k _ le, b.nn, b.ol⟩
  · obtain ⟨x, q1, q2⟩ := b.st.sl j s q
    refine ⟨x, q1, q2.mono le fun d' a es ex => nL a fun z => ?_⟩
    subst es ex
    exact b.st.fr a ⟨j, d', q, q1⟩ (.inr z)
  · by_cases z' : a = L
    · rw [z']; exact (k _ (Le.refl _)).mut
    · rw [nL a z']; exact b.st.fd a z
  · refine ⟨fun p hp => ?_, b.st.tab.2⟩
    obtain ⟨ps, q1, q2, q3⟩ := b.st.tab.1 p hp
    refine ⟨ps, by rw [nL _ fun z => by rw [z, h1] at q1; cases q1; exact h2 _ rfl]; exact q1, q2, fun pos cv hc => ?_⟩
    obtain ⟨c, q4, q5⟩ := q3 pos cv hc
    refine ⟨c, q4, (nL _ fun z => ?_).trans q5⟩
    have ac := b.ac
    rw [z, h1] at q5
    cases q5
    cases d with
    | lst xs => obtain ⟨_, z1, _⟩ := ac; rw [h1] at z1; cases z1
    | dK ks ds => obtain ⟨_, z1, _⟩ := ac; rw [h1] at z1; cases z1
    | dT ks ds => obtain ⟨_, z1, _⟩ := ac; rw [h1] at z1; cases z1
    | non => exact ac.elim
    | bl b => exact ac.elim
    | int i => exact ac.elim
    | str x => exact ac.elim
    | tup xs => exact ac.elim
    | fn x => exact ac.elim
    | scr ns => exact ac.elim
    | ctup xs => exact ac.elim
  · rw [nL a fun z => by rw [z, b.nn] at h; cases h]
    exact b.sp.keep a o h n k
  · by_cases z' : a = L
    · rw [z', upd_same]; simp
    · rw [nL a z']; exact b.sp.dom a h
theorem InK.turn (fr : ∀ i ∈ vs, Fr T i) (b : InK G T F L σ1 H1 e1 σ2 H e d) (hw : L2.wipe σ2 vs = L2.wipe σ vs) (h : noOwn e vs = true) : InK G T F L σ1 H1 e1 (L2.wipe σ vs) H (wipeE e vs) d := by
  obtain ⟨S, s⟩ := b.st.rewipe fr hw h
  exact b.step s S
theorem InK.back {e0 : Env'} (S0 : Sta G T F σ H1 e0) (h0 : noOwn e0 vs = true) (b : InK G T F L (L2.wipe σ vs) H1 (wipeE e0 vs) (L2.wipe σ vs) H e d) (h1 : noOwn e vs = true) :
    Stp σ H1 e0 σ H (backE e0 e vs) ∧ Sta G T (Pl F L) σ H (backE e0 e vs) ∧ OIs G (hid H (Hd (Pl F L) σ (backE e0 e vs))) H d L := by
  obtain ⟨S, s⟩ := back_ok S0 h0 b.sp b.st h1 fun a z => by
    rcases z with z | z
    · exact .inl z
    · exact .inr (by rw [z]; exact b.nn)
  refine ⟨s, S, ?_⟩
  have ac := b.ac
  rw [hid_eq (hd_iff (ow_back h0 h1))]
  exact ac
theorem InK.start {o : HO} (fr : ∀ i ∈ vs, Fr T i) (S : Sta G T F σ H env) (h : noOwn env vs = true) (n : H L = none) (k : ∀ Hs, OIs G Hs (upd H L o) d L) : InK G T F L (L2.wipe σ vs) H (wipeE env vs) (L2.wipe σ vs) (upd H L o) (wipeE env vs) d :=
  ⟨(S.wipe fr h).newHid n (by have q := (k H).mut; rwa [upd_same] at q), (New.upd n).stp, k _, n, S.old.free (.inl n)⟩
end
def dcL (vs : List Nat) (t : Tg) (q : Env' → Ro Bool) (fk fv : Env' → Ro D) : List D → List Key → List D → Env' → Ro (List Key × List D)
  | [], ks, acc, e => .ok (ks, acc) e
  | d :: ds, ks, acc, e => match t d e with
    | some e1 => match q e1 with
      | .ok true e2 => match fk e2 with
        | .ok kd e3 => match fv e3, keyOf kd with
          | .ok y e4, some kk => if ks.length < sizeLine && noOwn e4 vs then dcL vs t q fk fv ds (putD ks acc kk y).1 (putD ks acc kk y).2 (wipeE e4 vs) else .stk
          | _, _ => .stk
        | _ => .stk
      | .ok false e2 => if noOwn e2 vs then dcL vs t q fk fv ds ks acc (wipeE e2 vs) else .stk
      | _ => .stk
    | none => .stk
def eDc (vs : List Nat) (it : Env' → Ro (List D)) (t : Tg) (q : Env' → Ro Bool) (fk fv : Env' → Ro D) : Env' → Ro D := fun env => (it env).bind fun ds e => if noOwn e vs then match dcL vs t q fk fv ds [] [] (wipeE e vs) with
    | .ok r e' => if noOwn e' vs then .ok (.dK r.1 r.2) (backE e e' vs) else .stk
    | _ => .stk
  else .stk
section
variable {X : Cx} {T : Tb} {W : WX} {k : Nat} {tg iter kx vx : Expr} {ifs : List Expr} {scope : Scope} {own : List (Str × Nat)} {it : Env' → Ro (List D)} {t : Tg} {q : Env' → Ro Bool} {fk fv : Env' → Ro D} {us : List Nat} {pos : Pos}
theorem dc_law {G : Gm} {vs : List Nat} {σ : St} {H : Hp} {Q : VK} (fr : ∀ i ∈ vs, Fr T i) (hu : ∀ i ∈ us, i ∈ vs) (h : rdF G T (eDc vs it t q fk fv) W σ H Q) :
    tDc (rd G T (fun Hs ds J => JIs G Hs J ds) it W) (rdG G T us t) (rd G T isB q noW) (rd G T (isD G) fk noW) (rd G T (isD G) fv noW) vs σ H Q := by
  refine rdF_bind h fun F env ds J H1 S1 i1 h1 L nL => ?_
  have i1 : JIs G (hid H1 (Hd F σ env)) J ds := i1
  split at h1
  · rename_i no
    split at h1
    · rename_i acc' e' er
      split at h1
      · rename_i no'
        refine ⟨fun i m H2 => m = ds.length - i ∧ i ≤ ds.length ∧ ∃ e ks acc, InK G T F L (wipe σ vs) H1 (wipeE env vs) (wipe σ vs) H2 e (.dK ks acc) ∧ dcL vs t q fk fv (ds.drop i) ks acc e = .ok acc' e',
          ⟨ds.length, rfl, Nat.zero_le _, _, [], [], InK.start fr S1 no nL fun Hs => ⟨[], upd_same, rfl, rfl⟩, er⟩, ?_⟩
        rintro i m H2 ⟨rfl, hi', e, ks, acc, B, er2⟩
        have le : Le (hid H1 (Hd F σ env)) (hid H2 (Hd (Pl F L) (wipe σ vs) e)) := by
          have z : hid H1 (Hd F σ env) = hid H1 (Hd F (wipe σ vs) (wipeE env vs)) := hid_eq (hd_iff fun a => (ow_wipe no).symm)
          rw [z]
          refine Le.hid fun b o e3 n k => ⟨fun y => ?_, B.sp.keep b o e3 n fun y => k (.inl y)⟩
          rcases y with y | y | y
          · exact B.sp.own b (by rw [e3]; simp) (fun y' => k (.inl y')) y
          · exact k (.inr y)
          · rw [y, nL] at e3; cases e3
        by_cases hlt : i < ds.length
        · have hd : ds[i]? = some ds[i] := by simp [hlt]
          rw [List.drop_eq_getElem_cons hlt] at er2
          refine .inr ⟨i1.go i _ H2 hlt le Le.unhid, fun H3 => ∃ e ks acc, InK G T F L (wipe σ vs) H1 (wipeE env vs) (wipe σ vs) H3 e (.dK ks acc) ∧ dcL vs t q fk fv (ds.drop (i + 1)) ks acc e = .ok acc' e',
            fun H3 ⟨e3, k3, a3, b1, b2⟩ => ⟨ds.length - (i + 1), by omega, rfl, hlt, e3, k3, a3, b1, b2⟩, fun y H3 hy => ?_⟩
          obtain ⟨n, j⟩ := i1.yld i _ _ H2 y H3 hd le Le.unhid hy
          have B3 := B.step n.stp (B.st.new n)
          have iy := j (hid H3 (Hd (Pl F L) (wipe σ vs) e)) (n.le B.st) fun a o h1 h2 => hid_some.mpr ⟨fun z => B.st.hd_there z h1, h2⟩
          simp only [dcL] at er2
          cases et : t ds[i] e with
          | none => rw [et] at er2; cases er2
          | some e1 =>
            rw [et] at er2
            simp only at er2
            refine ⟨Pl F L, e, ds[i], e1, B3.st, iy, et, fun σ3 o3 s3 S3 => ?_⟩
            have hw : wipe σ3 vs = wipe σ vs := (o3.wipe hu).trans wipe_twice
            refine ⟨hw, ?_⟩
            have B4 := B3.step s3 S3
            refine ⟨Pl F L, e1, S3, ?_⟩
            cases eq : q e1 with
            | ok b e2 =>
              rw [eq] at er2
              intro b' H4 s4 S4 hb'
              obtain rfl : b = b' := hb'
              have B5 := B4.step s4 S4
              cases b with
              | false =>
                simp only at er2
                split at er2
                · rename_i no2
                  exact ⟨wipeE e2 vs, ks, acc, InK.turn fr B5 hw no2, er2⟩
                · cases er2
              | true =>
                simp only at er2
                simp only [if_true]
                refine ⟨Pl F L, e2, S4, ?_⟩
                cases ef : fk e2 with
                | ok kd e3 =>
                  rw [ef] at er2
                  simp only at er2
                  intro vk H5 s5 S5 ik
                  have B6 := B5.step s5 S5
                  refine ⟨Pl F L, e3, S5, ?_⟩
                  cases eg : fv e3 with
                  | ok y e4 =>
                    rw [eg] at er2
                    cases ek : keyOf kd with
                    | some kk =>
                      rw [ek] at er2
                      simp only at er2
                      split at er2
                      · rename_i hc
                        obtain ⟨hc1, no2⟩ := Bool.and_eq_true_iff.mp hc
                        have hc1 := of_decide_eq_true hc1
                        intro v H6 s6 S6 iv
                        have B7 := B6.step s6 S6
                        obtain ⟨avs, a1, a2, a3⟩ := B7.ac
                        obtain ⟨vs', b1, b2, b3⟩ := putD_val (k := kk) a2 a3 iv
                        refine ⟨ks.zip avs, kk, keyOf_is ek ik, a1, by rw [List.length_zip, ← a2, Nat.min_self]; exact hc1, wipeE e4 vs, _, _, InK.turn fr (B7.put (d' := .dK (putD ks acc kk y).1 (putD ks acc kk y).2) fun Hs l => ⟨vs', by rw [b1]; exact upd_same, b2, IsL.mono l _ _ b3⟩) hw no2, er2⟩
                      · cases er2
                    | none => rw [ek] at er2; cases er2
                  | exc c p e4 => rw [eg] at er2; cases er2
                  | stk => rw [eg] at er2; cases er2
                | exc c p e3 => rw [ef] at er2; cases er2
                | stk => rw [ef] at er2; cases er2
            | exc c p e2 => rw [eq] at er2; cases er2
            | stk => rw [eq] at er2; cases er2
        · have e0 : i = ds.length := by omega
          subst e0
          rw [List.drop_length] at er2
          simp only [dcL] at er2
          cases er2
          obtain ⟨s, S, o⟩ := B.back S1 no no'
          exact .inl ⟨i1.stop _ H2 le Le.unhid, h1 L H2 s S o nL⟩
      · exact h1.elim
    · exact h1.elim
  · exact h1.elim
/-- a dict comprehension as a value -/
theorem sf_dc (C : Ctx X k) (fr : ∀ i ∈ own.map (·.2), Fr T i) (hi : SI X T W tg iter it) (ok : blkC X.N X.env.scope scope own = true) (hu : ∀ i ∈ us, i ∈ own.map (·.2))
    (hg : ∀ s H C cl fp, SG (BlkCx X scope s H C cl fp) T us tg t) (ht : ∀ s H C cl fp, STs (BlkCx X scope s H C cl fp) T noW ifs q) (hk : ∀ s H C cl fp, SE (BlkCx X scope s H C cl fp) T noW kx fk) (he : ∀ s H C cl fp, SE (BlkCx X scope s H C cl fp) T noW vx fv)
    (hs : ∀ x, foldedSetIterable iter X.env x = pure x := by intro _; rfl) : SF X T W (.DictComp kx vx [⟨tg, iter, ifs, 0⟩] scope pos) (eDc (own.map (·.2)) it t q fk fv) :=
  PE.weak (pe_dc (g := rdG (gm X) T us t) (tt := rd (gm X) T isB q noW) (tk := rd (gm X) T (isD (gm X)) fk noW) (tv := rd (gm X) T (isD (gm X)) fv noW) C.calm C.nd hi (blkOk_by ok) hg ht hk he hs) fun σ H Q h => dc_law fr hu h
end
end Rf

namespace Rf
open PySem L2 LamX
open PyProof.Rows hiding St

/-! ## sorted -/
def insI (x : Int) : List Int → List Int
  | [] => [x]
  | y :: ys => if x ≤ y then x :: y :: ys else y :: insI x ys
def sortI : List Int → List Int
  | [] => []
  | x :: xs => insI x (sortI xs)
theorem insI_perm (x : Int) : ∀ ys, (insI x ys).Perm (x :: ys)
  | [] => .refl _
  | y :: ys => by
    unfold insI
    split
    · exact .refl _
    · exact (List.Perm.cons y (insI_perm x ys)).trans (List.Perm.swap x y ys)
theorem sortI_perm : ∀ xs, (sortI xs).Perm xs
  | [] => .refl _
  | x :: xs => (insI_perm x _).trans (List.Perm.cons x (sortI_perm xs))
theorem insI_sorted (x : Int) : ∀ ys, ys.Pairwise (· ≤ ·) → (insI x ys).Pairwise (· ≤ ·)
  | [], _ => by simp [insI]
  | y :: ys, h => by
    obtain ⟨h1, h2⟩ := List.pairwise_cons.mp h
    unfold insI
    split
    · rename_i q
      exact List.pairwise_cons.mpr ⟨fun z hz => by
        rcases List.mem_cons.mp hz with rfl | hz
        · exact q
        · exact Int.le_trans q (h1 z hz), h⟩
    · rename_i q
      refine List.pairwise_cons.mpr ⟨fun z hz => ?_, insI_sorted x ys h2⟩
      rcases List.mem_cons.mp ((insI_perm x ys).mem_iff.mp hz) with rfl | hz
      · omega
      · exact h1 z hz
theorem sortI_sorted : ∀ xs, (sortI xs).Pairwise (· ≤ ·)
  | [] => .nil
  | x :: xs => insI_sorted x _ (sortI_sorted xs)
theorem sortI_eq {ys xs : List Int} (p : ys.Perm xs) (s : ys.Pairwise (· ≤ ·)) : ys = sortI xs :=
  List.Perm.eq_of_pairwise (fun _ _ _ _ h1 h2 => Int.le_antisymm h1 h2) s (sortI_sorted xs) (p.trans (sortI_perm xs).symm)
/-- the keys that are numbers -/
def intKs : List Key → Option (List Int)
  | [] => some []
  | .inl i :: r => (intKs r).map (i :: ·)
  | .inr _ :: _ => none
theorem intKs_is : ∀ {ks : List Key} {ns : List Int}, intKs ks = some ns → ks = ns.map Sum.inl
  | [], ns, h => by
    obtain rfl := Option.some.inj h
    rfl
  | .inl i :: r, ns, h => by
    unfold intKs at h
    cases e : intKs r with
    | none => rw [e] at h; cases h
    | some ms =>
      rw [e] at h
      obtain rfl := Option.some.inj h
      rw [intKs_is e]
      rfl
  | .inr _ :: _, ns, h => by cases h
def rSortedDK : List V → Hp → VK → Prop := fun xs H Q => ∃ (a : Addr) (kvs : List (Key × V)) (ks : List Int), xs = [.ref a] ∧ Rd H a (.dK kvs) ∧ kvs.map (·.1) = ks.map Sum.inl ∧
    ∀ (ys : List Int) (p : Addr), ys.Perm ks → ys.Pairwise (· ≤ ·) → H p = none → Q (.ref p) (upd H p (.lst (ys.map V.int)))
/-- sorted of a dict whose keys are numbers, any number of them -/
theorem cr_sortedDK {X : Cx} (hcalm : X.calm = true) : CallR X (.builtin "sorted") rSortedDK := by
  intro pins s σ H xs us Q I r q
  obtain ⟨a, kvs, ks, ex, hd, hks, q⟩ := q
  subst ex
  obtain ⟨u, eu, rx⟩ := vals1 r
  subst eu
  cases rx
  obtain ⟨z, lo, vs, rel, dd⟩ := dk_rd I.hok hd
  obtain ⟨ep, hat⟩ := dd.dictAt
  have hkeys : vs.map (·.1) = ks.map Sum.inl := rel.keys.symm.trans hks
  have hl : vs.length = ks.length := by
    have e := congrArg List.length hkeys
    rw [List.length_map, List.length_map] at e
    exact e
  have h16 : vs.length ≤ sizeLine := by rw [← rel.length]; exact z
  refine Calls.call_function_entry PyProof.Rows.kind_sorted PyProof.Rows.plain_sorted PyProof.Rows.entry_sorted (PyProof.Rows.args_sorted1 _) ?_
  unfold Builtin.«sorted»
  refine wpAny_bind (m := checkCount "sorted" 1 1 _) (wpAny_pure ?_)
  refine wpAny_bind (PySem.W.kdu_collect (A := X.A.in1) (PySem.W.kdl_dict (knd := mixKind X.prog X.w) (kvs := vs) (ep := ep) lo) (I.ok.hd hcalm) hat h16 fun h' tk acc hk hacc => ?_)
  have hal : acc.toList.length = ks.length := by rw [Array.length_toList, hacc.1, hl]
  have hS : IntsAre acc.toList ks := ints_each hal fun j v e => by
    obtain ⟨k, x, e1, e2⟩ := hacc.2 j v (by rw [← Array.getElem?_toList]; exact e)
    have e3 : (vs.map (·.1))[j]? = some k := by rw [List.getElem?_map, e1]; rfl
    rw [hkeys, List.getElem?_map] at e3
    cases e4 : ks[j]? with
    | none => rw [e4] at e3; cases e3
    | some y =>
      rw [e4] at e3
      have e5 : Sum.inl y = k := Option.some.inj e3
      subst e5
      rcases keyIs_shape (show keyIs (Sum.inl y) v = true from e2) with ⟨i, t, ek, ev⟩ | ⟨z, t, ek, ev⟩
      · cases ek
        exact ⟨y, t, rfl, ev⟩
      · cases ek
  have I1 : Inv X pins σ H { s with heap := h', toks := tk } := I.kept hk
  refine wpAny_bind (wpAny_newList ?_ (by rw [hal, ← hl]; exact h16))
  have hoL : (h'.push (seqObj "list" acc.toList.toArray 0)).get? h'.objs.size = some (seqObj "list" acc.toList.toArray 0) := Heap.get?_push_size _ rfl
  show wpAny _ _ _ _ _ { s with heap := h'.push (seqObj "list" acc.toList.toArray 0), toks := tk }
  refine wpAny_bind (wpAny_holding (wpAny_call_entry PyProof.Rows.slot_list_sort ⟨_, hoL, rfl⟩ PyProof.Rows.entry_list_sort
    (SrtO.list_sort_ord (s := { s with heap := h'.push (seqObj "list" acc.toList.toArray 0), toks := tk }) SrtO.swo_int hoL (by rw [hal, ← hl]; exact h16) (fun h2 => SrtO.ints_sortable hS h2) fun out g1 g2 => ⟨_, rfl, ?_⟩) (PyProof.Rows.args_list_sort _)))
  obtain ⟨k1, k2, k3⟩ := SrtO.ints_out hS g1 g2
  obtain ⟨e', he'⟩ := PyProof.Rows.sortedHeap_at (vs := acc.toList) (out := out.toArray) hoL
  have hlen : ((out.map SrtO.iv).map V.int).length ≤ sizeLine := by
    rw [List.length_map, k2.length_eq, ← hl]
    exact h16
  refine wpAny_pure ⟨_, rfl, .ref h'.objs.size, upd H h'.objs.size (.lst ((out.map SrtO.iv).map V.int)), I1.laid (t' := tk) (fun b u e => ?_) (Nat.le_refl _)
    (show ObjOk X.prog X.w _ _ _ (.lst ((out.map SrtO.iv).map V.int)) from ⟨hlen, out, e', vals_of_ints k1, he'⟩), rfl, q _ _ k2 k3 (I1.hok.fresh (Nat.le_refl _))⟩
  have hb : b < h'.objs.size := Heap.lt_size e
  rw [PyProof.Rows.sortedHeap_old (Nat.ne_of_lt hb) (by rw [size_push']; exact Nat.lt_succ_of_lt hb)]
  exact Heap.get?_push_of_some _ e
/-- a call that gives a new list, or dict -/
def OpCF (G : Gm) (r : List V → Hp → VK → Prop) (o : List D → Option D) : Prop := ∀ {Hs H : Hp} {ds : List D} {d : D} {vs : List V} {Q : VK}, Le Hs H → IsL G Hs ds vs → o ds = some d →
  (∀ p u, H p = none → (∀ Hs', Le Hs Hs' → OIs G Hs' (upd H p u) d p) → Q (.ref p) (upd H p u)) → r vs H Q
section
variable {X : Cx} {T : Tb} {W : WX} {k : Nat} {a b : Expr} {es : List Expr} {f g : Env' → Ro D} {x : Str} {p pos : Pos} {r : Env' → Ro (List D)}
theorem sf_callB {id : String} {t : List V → Hp → VK → Prop} {o : List D → Option D} (hc : CallR X (.builtin id) t) (hd : OpCF (gm X) t o) (hg : Gl X x) (hm : X.mg x = none) (hv : bootBuiltins x = some (.builtin id)) (ha : SA X T W (a :: es) r) (hn : x ≠ "__name__" := by decide) (hdb : (x == ("__debug__" : Str)) = false := by decide)
    (he : starEach (a :: es) X.env = (false, eval a X.env) :: starEach es X.env := by rfl) (hpl : (backTo pos (starEach es X.env)).any (·.1) = false := by rfl) : SF X T W (.Call (.Name x p) (a :: es) [] pos) (eCall o r) :=
  PE.weak (pe_callB hc hg hm hv ha hn hdb he hpl) fun σ H Q h => rdF_bind (R := isA (gm X)) h fun F env ds vs H1 S1 i1 h1 => by
    cases e : o ds with
    | none => rw [e] at h1; exact h1.elim
    | some d =>
      rw [e] at h1
      exact hd (Hs := hid H1 (Hd F σ env)) Le.unhid i1 e fun p u hp q => fin_newF (d := d) S1 hp q h1
theorem CallR.or {v : Value} {r r' : List V → Hp → VK → Prop} (h : CallR X v r) (h' : CallR X v r') : CallR X v (fun xs H Q => r xs H Q ∨ r' xs H Q) := fun pins s σ H xs us Q I R q => by
  rcases q with q | q
  · exact h pins s σ H xs us Q I R q
  · exact h' pins s σ H xs us Q I R q
/-- pairs of numbers, as they are ordered -/
def oSort : List D → Option D
  | [.lst xs] => (ints? xs).map fun ns => .lst ((sortI ns).map .int)
  | [.dK ks _] => (intKs ks).map fun ns => .lst ((sortI ns).map .int)
  | _ => none
theorem of_sort {K : PySem.W.Frag} {mg : Str → Option Value} : OpCF ⟨K, mg⟩ (fun xs H Q => rSortedI K xs H Q ∨ rSortedDK xs H Q) oSort := fun {Hs H ds d vs Q} l m e q => by
  unfold oSort at e
  split at e
  · rename_i xs
    cases e1 : ints? xs with
    | none => rw [e1] at e; cases e
    | some ns =>
      rw [e1] at e
      obtain rfl := Option.some.inj e
      obtain ⟨v, rfl, i⟩ := isL1 m
      obtain ⟨p, ws, rfl, s, m2⟩ := i
      have z := ints?_is e1
      subst z
      have z := IsL.ints m2
      subst z
      refine .inl ⟨p, ns, rfl, l.lq s, fun ys a p1 p2 n => ?_⟩
      have z := sortI_eq p1 p2
      subst z
      exact q a _ n fun Hs' _ => ⟨_, upd_same, IsL.of_ints _⟩
  · rename_i ks ds
    cases e1 : intKs ks with
    | none => rw [e1] at e; cases e
    | some ns =>
      rw [e1] at e
      obtain rfl := Option.some.inj e
      obtain ⟨v, rfl, i⟩ := isL1 m
      obtain ⟨p, ws, rfl, s, hl, m2⟩ := i
      have z := intKs_is e1
      subst z
      refine .inr ⟨p, (ns.map Sum.inl).zip ws, ns, rfl, .inl (l _ _ s (fun ps z => by cases z)), List.map_fst_zip (Nat.le_of_eq hl), fun ys a p1 p2 n => ?_⟩
      have z := sortI_eq p1 p2
      subst z
      exact q a _ n fun Hs' _ => ⟨_, upd_same, IsL.of_ints _⟩
  · cases e
theorem sf_sorted (hcalm : X.calm = true) (hg : Gl X "sorted") (hm : X.mg "sorted" = none) (ha : SE X T W a f) (h0 : starEach [a] X.env = (false, eval a X.env) :: starEach [] X.env := by rfl) : SF X T W (.Call (.Name "sorted" p) [a] [] pos) (eCall oSort (aCons f aNil)) :=
  sf_callB (cr_sortedI.or (cr_sortedDK hcalm)) of_sort hg hm (by decide +kernel) (sa_cons ha sa_nil h0) (by decide) (by decide) h0 (by rfl)
end
end Rf

/-! isinstance of an exception that bears a field -/
namespace Rf
open PySem PySem.W PySem.Spec PySem.Calls PyProof.Rows
section
variable {prog : Program} {w : World} {A : Around} {E : Value → Shared → Prop} {s : Shared} {K : PySem.W.Frag} {x D : Addr} {ox : Obj} {zz : Option Obj}
theorem findObj_dataA {zz : Option Obj} {C : Addr} {nm : Str} {at1 gt1 : Value} (hc : (clsIn K C).isSome = true) (h1 : findIn K (.ref C) nm = some (some at1)) (h2 : specialIn K at1 "__get__" = some (some gt1)) (h3 : takesIn K at1 = some true) : findObj K C zz nm = some (.bind gt1 at1) := by
  obtain ⟨cdc, qc⟩ := Option.isSome_iff_exists.mp hc
  unfold findObj
  rw [qc, Option.bind_some, h1, Option.bind_some]; simp [h2, h3]
theorem kin_classZ {Q : Option Value → Shared → Prop} (ga1 : findIn K (.ref D) "__getattribute__" = some (some (.builtin "BaseException.__getattribute__"))) (ga2 : findIn K (.ref D) "__getattr__" = some none) (ga3 : subIn K (.ref D) (.type "BaseException") = some true)
    (ga4 : hasDictIn K D = true) (ha : findIn K (.ref D) "__class__" = some (some (.builtin "object.__class__")))
    (hn : specialIn K (.builtin "object.__class__") "__get__" = some (some (.builtin "getset_descriptor.__get__"))) (ga6 : takesIn K (.builtin "object.__class__") = some true) (hm : mroIn K D (.type "object") = some true)
    (X : K.In s.heap) (I : InstAt s.heap x ox D zz) (h : Q (some (.ref D)) { s with toks := s.toks + 1 }) : wpAny (model prog w) A (getAttr? (.ref x) "__class__") Q E s := by
  have hfo : findObj K D zz "__class__" = some (.bind (.builtin "getset_descriptor.__get__") (.builtin "object.__class__")) := findObj_dataA (by obtain ⟨cd, hc, _⟩ := any_some ga4; rw [hc]; rfl) ha hn ga6
  obtain ⟨hq, g, d, t, os⟩ := s
  have W0 := I.type (M := model prog w)
  have W1 := looks_findIn (M := model prog w) X ga1
  have W2 := looks_findIn (M := model prog w) X ga2
  have W3 := looks_find (M := model prog w) X I hfo
  have subb : Looks (model prog w) hq (isInstance (.ref x) (.type "BaseException")) true := W0.andThen (looks_subIn X ga3)
  have y0 : (false && onTheHeap (Value.builtin "BaseException.__getattribute__")) = false := rfl
  have y2 : (Value.builtin "BaseException.__getattribute__" == Value.builtin "object.__getattribute__") = false := by decide +kernel
  have y1 : (onTheHeap (Value.ref D) && Value.builtin "BaseException.__getattribute__" == Value.builtin "object.__getattribute__") = false := by rw [y2]; rfl
  unfold getAttr? getAttrBy? getAttrBy; refine wpAny_bind (wpAny_mkText (wpAny_bind (wpAny_attempt (wpAny_holding (wpAny_bind (W0.at (wpAny_bind (W1.at ?_))))))))
  show wpAny _ _ (if (onTheHeap (Value.ref D) && Value.builtin "BaseException.__getattribute__" == Value.builtin "object.__getattribute__") = true then _ else _) _ _ _; rw [y1, if_neg Bool.false_ne_true]
  unfold getAttrByItsOwn hookBefore; refine wpAny_bind ?_
  rw [if_pos (show onTheHeap (Value.ref D) = true from rfl)]; refine W2.at ?_
  refine wpAny_bind (wpAny_attempt (wpAny_holding ?_)); unfold callGetattribute
  rw [y0, if_neg Bool.false_ne_true]; unfold boundAndCalled
  rw [PySem.F.excAttr_ValueError.ga.bind (.ref x)]; refine wpAny_bind (wpAny_pure ?_)
  show wpAny _ _ (call (.builtin "BaseException.__getattribute__") [.ref x, .str "__class__" t]) _ _ _; refine wpAny_call (codeAny_call_builtin PySem.F.excAttr_ValueError.ga.plain PySem.F.entry_bexc_ga ?_)
  refine @check_slot (model prog w) _ _ ⟨hq, g, d, t + 1, os⟩ "BaseException.__getattribute__" "BaseException" "__getattribute__" (.ref x) [.str "__class__" t] [] _ (by decide +kernel) (by decide +kernel) subb (PySem.F.args_bexc_ga (.ref x) (.str "__class__" t)) ?_; unfold Builtin.«object.__getattribute__»
  refine wpAny_bind (wpAny_of_eq (a := ((Value.ref x : Value), [Value.str "__class__" t])) (by first | rfl | (simp only [slotArgs]; rfl)) ?_)
  refine wpAny_bind (wpAny_pure (wpAny_bind (W0.at (wpAny_bind (W3.at ?_))))); show wpAny _ _ (holding [Value.builtin "object.__class__"] (call (.builtin "getset_descriptor.__get__") [.builtin "object.__class__", .ref x, .ref D]) >>= ret) _ _ _
  refine wpAny_bind (wpAny_holding (wpAny_call (class_get (s := ⟨hq, g, d, t + 1, os⟩) (ox := ox) (od := zz) X I hm ?_))); refine wpAny_pure ?_
  show wpAny _ _ (handedOut (.ref D)) _ _ _; rw [handedOut_of (v := .ref D) rfl]
  first
    | exact wpAny_pure (wpAny_pure h)
    | exact wpAny_pure h
    | exact wpAny_pure (wpAny_bind (wpAny_pure (wpAny_pure h)))
theorem kitx_excZ (ga1 : findIn K (.ref D) "__getattribute__" = some (some (.builtin "BaseException.__getattribute__"))) (ga2 : findIn K (.ref D) "__getattr__" = some none) (ga3 : subIn K (.ref D) (.type "BaseException") = some true) (ga4 : hasDictIn K D = true) (ha : findIn K (.ref D) "__class__" = some (some (.builtin "object.__class__")))
    (hn : specialIn K (.builtin "object.__class__") "__get__" = some (some (.builtin "getset_descriptor.__get__"))) (ga6 : takesIn K (.builtin "object.__class__") = some true) (hm : mroIn K D (.type "object") = some true) :
    KitX K (.ref x) (.ref D) (fun h => InstAt h x ox D zz) where
  ty := fun _ _ _ I => I.type
  it := fun _ _ X _ => by
    obtain ⟨cD, hcd, _⟩ := any_some ga4
    unfold clsIn at hcd
    split at hcd
    · rename_i c' d' cd' sl' ho
      intro A' Q' E' s' k q
      unfold isType loadHead
      exact wpAny_bind (wpAny_loadPart (k _ _ (X _ _ ho)) (wpAny_pure q))
    · cases hcd
  ne := fun h tp dd its n sl X htp => by
    obtain ⟨cD, hcd, _⟩ := any_some ga4
    refine Bool.eq_false_iff.mpr fun q => ?_
    have e : D = tp := Value.ref.inj (beq_iff_eq.mp q)
    subst e
    unfold clsIn at hcd
    split at hcd
    · rename_i c' d' cd' sl' ho
      have z := (X _ _ ho).symm.trans htp
      cases z
    · cases hcd
  ca := fun X I k => kin_classZ ga1 ga2 ga3 ga4 ha hn ga6 hm X I k
end
end Rf

namespace Rf
open PySem L2 LamX
open PyProof.Rows hiding St

/-! ## a suite that holds an exception with a field -/
def rIsEX (K : PySem.W.Frag) (C a : Addr) (dd : Option Addr) : List V → Hp → VK → Prop := fun xs H Q => ∃ (c : V) (cv : Value) (b : Bool), xs = [.ref a, c] ∧ (∀ u, RelV c u → u = cv) ∧ PySem.W.kitOne K (.ref C) cv = some b ∧ (∀ x, dd = some x → ∃ fs, H x = some (.xd fs)) ∧ Q (.bl b) H
theorem call_isEX {X : Cx} {a C : Addr} {oe : Obj} {dd : Option Addr} {pn : List (Addr × Obj)} (ec : ExcC X.K C) (hz : Zc (.ref C) dd oe) (hf : ∃ vs, oe.data = .fields vs) : CallR (X.suite a ((a, oe) :: pn)) (.builtin "isinstance") (rIsEX X.K C a dd) := by
  intro pins s σ H xs us Q I r h
  obtain ⟨c, cv, b, rfl, hcv, e, hx, q⟩ := h
  obtain ⟨u1, us1, rfl, r1, r⟩ : ∃ u1 us1, us = u1 :: us1 ∧ RelV (.ref a) u1 ∧ Vals [c] us1 := by
    cases r with
    | cons r1 r2 => exact ⟨_, _, rfl, r1, r2⟩
  obtain ⟨u2, rfl, r2⟩ := vals1 r
  obtain rfl : u1 = Value.ref a := r1
  obtain rfl := hcv _ r2
  obtain ⟨hget, _⟩ := I.pin (a, oe) (List.mem_append.mpr (.inl List.mem_cons_self))
  obtain ⟨vs, hv⟩ := hf
  have hnc : PySem.W.notCls oe = true := by unfold PySem.W.notCls; rw [hv] <;> rfl
  cases dd with
  | none =>
    have J : PySem.W.InstAt s.heap a oe C none := by
      obtain ⟨oc, od, oda, osl⟩ := oe
      obtain ⟨h1, h2⟩ := hz
      dsimp only at h1 h2 hv
      subst h1 h2 hv
      exact ⟨hget, rfl, rfl, trivial⟩
    exact PySem.W.kia_one (kitx_excZ ec.hg ec.hk ec.hs ec.hd ec.ha ec.hn ec.ht ec.hm) I.kIn J e (fun z => nomatch z) fun tk => ⟨.bl b, H, I.kept (t' := tk) fun _ _ z => z, rfl, q⟩
  | some x =>
    obtain ⟨fs, hxd⟩ := hx x rfl
    have ho : ObjOk X.prog X.w H s.heap x (.xd fs) := I.hok x _ hxd
    obtain ⟨mA, hns, hr⟩ := ho
    obtain ⟨od, ho, hl⟩ := lookIn_ns hns
    have J : PySem.W.InstAt s.heap a oe C (some od) := ⟨hget, hz.1, hnc, by rw [hz.2]; exact ho⟩
    exact PySem.W.kia_one (kitx_excZ ec.hg ec.hk ec.hs ec.hd ec.ha ec.hn ec.ht ec.hm) I.kIn J e (fun z => nomatch z) fun tk => ⟨.bl b, H, I.kept (t' := tk) fun _ _ z => z, rfl, q⟩
section
variable {X : Cx} {T : Tb} {W : WX} {i : Nat} {c : Str} {pp : Option (Str × D)} {a C Dy : Addr} {dd : Option Addr} {oe : Obj} {pn : List (Addr × Obj)} {n y : Str} {b : Bool} {p p1 p2 pos : Pos}
theorem HeldX.xd (hh : HeldX X T i c pp a C dd oe) {F : Addr → Prop} {σ : St} {H : Hp} {env : Env'} (S : Sta (gm X) T F σ H env) (x : Addr) (e : dd = some x) : ∃ fs, H x = some (.xd fs) := by
  have z := hh.fld
  cases pp with
  | none => rw [show dd = none from z] at e; cases e
  | some fd =>
    obtain ⟨x', v, e1, e2, _⟩ := z
    rw [e] at e1
    obtain rfl := Option.some.inj e1
    exact ⟨_, S.old.kp _ _ e2 (fun ps z => by cases z)⟩
theorem is_lawX {cv : Value} {cV : V} (hh : HeldX X T i c pp a C dd oe) (hcv : ∀ u, RelV cV u → u = cv) (hk : PySem.W.kitOne X.K (.ref C) cv = some b) {σ : St} {H : Hp} {Q : VK} (h : rd (gm X) T (isD (gm X)) (eC (.bl b)) W σ H Q) : tCB (rIsEX X.K C a dd) (tCons (tVar i) (tCons (tC cV) tNil)) σ H Q := by
  obtain ⟨F, env, S, h⟩ := h
  exact ⟨.ref a, S.tab.2 _ hh.pin, cV, cv, b, rfl, hcv, hk, hh.xd S, h (.bl b) H .refl S rfl⟩
theorem se_isXf (hh : HeldX X T i c pp a C dd oe) (ec : ExcC X.K C) (hk : PySem.W.kitOne X.K (.ref C) (.ref Dy) = some b) (hm : X.mg y = some (.ref Dy)) (hN : X.N[i]? = some n) (hv : X.env.kindOf n = some .local) (hg : Gl X "isinstance") (hmi : X.mg "isinstance" = none) (hgy : Gl X y)
    (hd : (n == ("__debug__" : Str)) = false := by decide) (hcd : (n == ("__classdict__" : Str)) = false := by decide) (hdy : (y == ("__debug__" : Str)) = false := by decide)
    (h0 : starEach [.Name n p1, .Name y p2] X.env = (false, eval (.Name n p1) X.env) :: starEach [.Name y p2] X.env := by rfl) (h1 : starEach [.Name y p2] X.env = (false, eval (.Name y p2) X.env) :: starEach [] X.env := by rfl) (hpl : (backTo pos (starEach [.Name y p2] X.env)).any (·.1) = false := by rfl) :
    SE (X.suite a ((a, oe) :: pn)) T W (.Call (.Name "isinstance" p) [.Name n p1, .Name y p2] [] pos) (eC (.bl b)) :=
  PE.weak (pe_callB (X := X.suite a ((a, oe) :: pn)) (call_isEX ec hh.hz hh.hf) hg hmi (by decide +kernel) (pa_cons (pe_var (i := i) hN (.inl hv) hd hcd) (pa_cons (pe_glob (v := .ref Dy) hgy hm rfl hdy) pa_nil h1) h0) (he := h0) (hpl := hpl)) fun σ H Q h => is_lawX (cv := .ref Dy) (cV := .ref Dy) hh (fun u r => r) hk h
theorem se_isBf {id : String} (hh : HeldX X T i c pp a C dd oe) (ec : ExcC X.K C) (hk : PySem.W.kitOne X.K (.ref C) (.type id) = some b) (hm : X.mg y = none) (hby : bootBuiltins y = some (.type id)) (hN : X.N[i]? = some n) (hv : X.env.kindOf n = some .local) (hg : Gl X "isinstance") (hmi : X.mg "isinstance" = none) (hgy : Gl X y)
    (hny : y ≠ "__name__" := by decide) (hd : (n == ("__debug__" : Str)) = false := by decide) (hcd : (n == ("__classdict__" : Str)) = false := by decide) (hdy : (y == ("__debug__" : Str)) = false := by decide)
    (h0 : starEach [.Name n p1, .Name y p2] X.env = (false, eval (.Name n p1) X.env) :: starEach [.Name y p2] X.env := by rfl) (h1 : starEach [.Name y p2] X.env = (false, eval (.Name y p2) X.env) :: starEach [] X.env := by rfl) (hpl : (backTo pos (starEach [.Name y p2] X.env)).any (·.1) = false := by rfl) :
    SE (X.suite a ((a, oe) :: pn)) T W (.Call (.Name "isinstance" p) [.Name n p1, .Name y p2] [] pos) (eC (.bl b)) :=
  PE.weak (pe_callB (X := X.suite a ((a, oe) :: pn)) (call_isEX ec hh.hz hh.hf) hg hmi (by decide +kernel) (pa_cons (pe_var (i := i) hN (.inl hv) hd hcd) (pa_cons (pe_bltn (v := .ty id) hgy hm hby rfl hny hdy) pa_nil h1) h0) (he := h0) (hpl := hpl)) fun σ H Q h => is_lawX (cv := .type id) (cV := .ty id) hh (fun u r => r) hk h
/-- the field of the exception that the suite holds -/
def eFld (pp : Option (Str × D)) (f : Str) : Env' → Ro D := fun env => match pp with
  | some (g, d) => if g = f then .ok d env else .stk
  | none => .stk
theorem se_fldX {f : Str} (hh : HeldX X T i c pp a C dd oe) (xf : ∀ d, pp = some (f, d) → FTx X.K C f) (hN : X.N[i]? = some n) (hv : X.env.kindOf n = some .local)
    (hd : (n == ("__debug__" : Str)) = false := by decide) (hcd : (n == ("__classdict__" : Str)) = false := by decide) (hb : attributeBase (.Name n p1) f X.env (eval (.Name n p1) X.env) = eval (.Name n p1) X.env := by rfl) :
    SE (X.suite a ((a, oe) :: pn)) T W (.Attribute (.Name n p1) f pos) (eFld pp f) := by
  have z := hh.fld
  cases pp with
  | none => exact ⟨fun pins s σ H Q I h => by
      obtain ⟨F, env, S, h⟩ := h
      exact h.elim⟩
  | some fd =>
    obtain ⟨g, d⟩ := fd
    obtain ⟨x, v, e1, e2, e3⟩ := z
    by_cases hg : g = f
    · subst hg
      refine PE.weak (pe_xf (X := X) (n := g) (xf d rfl).xf (xf d rfl).no hh.hz hh.hf (pe_var (X := X.suite a ((a, oe) :: pn)) (i := i) hN (.inl hv) hd hcd) hb) fun σ H Q h => ?_
      obtain ⟨F, env, S, h⟩ := h
      simp only [eFld, if_true] at h
      refine ⟨.ref a, S.tab.2 _ hh.pin, rfl, rfl, x, [(g, v)], v, e1, S.old.kp _ _ e2 (fun ps z => by cases z), by simp, ?_⟩
      exact h v H .refl S (Is.mono S.vis _ _ e3)
    · exact ⟨fun pins s σ H Q I h => by
        obtain ⟨F, env, S, h⟩ := h
        simp only [eFld, if_neg hg] at h
        exact h.elim⟩
end
end Rf

namespace Rf
open PySem L2 LamX
open PyProof.Rows hiding St
/-! ## errors that keep a field: the places of their __init__ left open -/
def ITX (P : Program) (K : PySem.W.Frag) (C fI : Addr) (f : Str) : Prop := ∃ q1 q2 q3 q4, ITx P K C fI ["self", f] [keepS f q1 q2 q3 q4] ∧ ∀ env : Env, swapsWith (.Name f q3) (some (.Attribute (.Name "self" q1) f q2)) q4.line env = pure false
def InitX (st : Stmt) (f : Str) : Prop := ∃ q1 q2 q3 q4, InitT st ["self", f] [keepS f q1 q2 q3 q4] ∧ ∀ env : Env, swapsWith (.Name f q3) (some (.Attribute (.Name "self" q1) f q2)) q4.line env = pure false
section
variable {X : Cx} {T : Tb} {W : WX} {k j : Nat} {a : Expr} {g : Env' → Ro D} {x f : Str} {C fI : Addr} {p pos pos2 : Pos}
theorem ss_raise1E (Fr : Fra X j W) (tx : ETx X.prog X.K X.mg x C) (fx : FTx X.K C f) (hf : f ≠ "self") (ix : ITX X.prog X.K C fI f) (hd : (f == ("__debug__" : Str)) = false) (hk : k + 1 ≤ j) (ha : SE X T W a g) (hg : Gl X x)
    (hdb : (x == ("__debug__" : Str)) = false := by decide) (he : starEach (a :: []) X.env = (false, eval a X.env) :: starEach [] X.env := by rfl) (hpl : (backTo pos (starEach [] X.env)).any (·.1) = false := by rfl) : SS X T W (.Raise (some (.Call (.Name x p) [a] [] pos)) none pos2) (sRaise1 x f g) := by
  obtain ⟨q1, q2, q3, q4, ix, sw⟩ := ix
  exact ss_raise1 (k := k) Fr tx fx hf ix sw hd hk ha hg hdb he hpl
end
end Rf

namespace Rf
open PySem L2 LamX
open PyProof.Rows hiding St
/-! ## sum of a tuple -/
section
variable {prog : Program} {w : World} {A : Around} {E : Value → Shared → Prop} {s : Shared} {l : Addr} {its : List Value} {ns : List Int} {Q : Value → Shared → Prop}
theorem sum_rawT (hh : A.handled = none) (hl : s.heap.IsTuple l its.toArray) (hi : IntsAre its ns)
    (h : ∀ h' tk t', (∀ b o, s.heap.get? b = some o → h'.get? b = some o) → Q (.int ns.sum t') { s with heap := h', toks := tk }) : wpAny (model prog w) A (call (.builtin "sum") [.ref l]) Q E s := by
  obtain ⟨xs, e⟩ := hi.allInts.items
  have hn : numsOf (intItems xs).toList = ns := by rw [← e]; exact hi.numsOf
  rw [nums_intItems] at hn
  rw [e] at hl
  have hlt : l < s.heap.objs.size := by obtain ⟨_, z, _⟩ := hl; exact Heap.lt_size z
  refine call_sum_walkG (wpAny_pyIter_tuple hl ?_)
  refine ⟨_, _, _, _, _, _, numAt xs, rfl, Walks.tuple (A := A.in1) hh _ l (Nat.ne_of_lt hlt) (intItems xs), ⟨⟨_, Heap.get?_push_size _ rfl, rfl, rfl⟩, hl.push _⟩, ?_, (fun _ _ => intItems_at), fun h' tk t' hk => ?_⟩
  · intro b hb
    show b < (s.heap.push _).objs.size
    rw [Heap.size_push]
    rcases List.mem_cons.mp hb with rfl | hb
    · exact Nat.lt_succ_self _
    · first
        | (rcases List.mem_cons.mp hb with rfl | hb
           · exact Nat.lt_succ_of_lt hlt
           · cases hb)
        | cases hb
  · have q := h h' tk t' fun b o eo => hk b o (fun hm => ?_) (Heap.get?_push_of_some _ eo)
    · rw [← hn] at q
      rw [preSum_eq, List.take_of_length_le (by simp [intItems])]
      exact q
    · rw [List.mem_singleton] at hm
      exact absurd (hm ▸ Heap.lt_size eo) (Nat.lt_irrefl _)
/-- the sum of a list or a tuple of numbers -/
def rSumA (K : PySem.W.Frag) : List V → Hp → VK → Prop := fun vs H Q => ∃ (a : Addr) (ns : List Int), vs = [V.ref a] ∧ SqT K H a (ns.map V.int) ∧ Q (.int ns.sum) H
theorem cr_sumT {X : Cx} (hc : X.calm = true) : CallR X (.builtin "sum") (rSumA X.K) := by
  intro pins s σ H vs us Q I r h
  obtain ⟨a, ns, rfl, hs, q⟩ := h
  obtain ⟨its, rv, hl, _⟩ := I.tuple hs
  rw [Vals.ref1 r]
  exact sum_rawT (I.ok.hd hc) hl rv.ints fun h' tk t' hk => ⟨.int _, H, I.kept hk, ⟨_, rfl⟩, q⟩
def oSumA : List D → Option D
  | [.lst xs] => (ints? xs).map fun ns => .int ns.sum
  | [.tup xs] => (ints? xs).map fun ns => .int ns.sum
  | [.ctup xs] => (ints? xs).map fun ns => .int ns.sum
  | _ => none
theorem oc_sumA {K : PySem.W.Frag} {mg : Str → Option Value} : OpC ⟨K, mg⟩ (fun vs H Q => rSum K vs H Q ∨ rSumA K vs H Q) oSumA := fun {Hs H ds d vs Q} l m e j => by
  unfold oSumA at e
  split at e
  all_goals first
    | (rename_i xs
       obtain ⟨v, rfl, i1⟩ := isL1 m
       cases e1 : ints? xs with
       | none => rw [e1] at e; cases e
       | some ns =>
         rw [e1] at e
         obtain rfl := Option.some.inj e
         obtain ⟨y, vs, rfl, s, m⟩ := i1
         rw [ints?_is e1] at m
         rw [IsL.ints m] at s
         first
           | exact .inl ⟨y, ns, rfl, l.lq s, j _ H (New.refl H) fun _ _ _ => rfl⟩
           | exact .inr ⟨y, ns, rfl, l.tq s, j _ H (New.refl H) fun _ _ _ => rfl⟩
           | exact .inr ⟨y, ns, rfl, l.sqT s, j _ H (New.refl H) fun _ _ _ => rfl⟩)
    | cases e
end
section
variable {X : Cx} {T : Tb} {W : WX} {a : Expr} {f : Env' → Ro D} {p pos : Pos}
theorem se_sumA (hc : X.calm = true) (hg : Gl X "sum") (hm : X.mg "sum" = none) (ha : SE X T W a f) (h0 : starEach [a] X.env = (false, eval a X.env) :: starEach [] X.env := by rfl) : SE X T W (.Call (.Name "sum" p) [a] [] pos) (eCall oSumA (aCons f aNil)) :=
  se_callB ((cr_sum hc).or (cr_sumT hc)) oc_sumA hg hm (by decide +kernel) (sa_cons ha sa_nil h0) (by decide) (by decide) h0 (by rfl)
end
end Rf

namespace Rf
open PySem L2 LamX
/-! ## tools for the plain laws -/
/-- a comprehension whose turns leave the slots as they were -/
theorem lcL_map {vs : List Nat} {t : Tg} {q : Env' → Ro Bool} {f : Env' → Ro D} {e : Env'} {g : D → Option D} : ∀ (ds acc : List D), acc.length + ds.length ≤ 16777216 →
    (∀ d ∈ ds, ∃ e1, t d e = some e1 ∧ ((g d = none ∧ ∃ e2, q e1 = .ok false e2 ∧ noOwn e2 vs = true ∧ wipeE e2 vs = e) ∨ ∃ y e2 e3, g d = some y ∧ q e1 = .ok true e2 ∧ f e2 = .ok y e3 ∧ noOwn e3 vs = true ∧ wipeE e3 vs = e)) →
    lcL vs t q f ds acc e = .ok (acc ++ ds.filterMap g) e
  | [], acc, _, _ => by simp [lcL]
  | d :: ds, acc, h, k => by
    have hz : sizeLine = 16777216 := by decide
    rw [List.length_cons] at h
    obtain ⟨e1, h1, h2⟩ := k d (by simp)
    rcases h2 with ⟨g1, e2, q1, n1, w1⟩ | ⟨y, e2, e3, g1, q1, f1, n1, w1⟩
    · have ih := lcL_map ds acc (by omega) fun x hx => k x (by simp [hx])
      simp only [lcL, h1, q1, n1, if_true, w1, ih, List.filterMap_cons, g1]
    · have ih := lcL_map ds (acc ++ [y]) (by rw [List.length_append, List.length_singleton]; omega) fun x hx => k x (by simp [hx])
      have hl : acc.length < sizeLine := by omega
      simp only [lcL, h1, q1, f1, n1, hl, decide_true, Bool.and_true, if_true, w1, ih, List.filterMap_cons, g1, List.append_assoc, List.singleton_append]
/-- a walk with an invariant -/
theorem forL_inv {t : Tg} {body : Env' → So} (P : Nat → Env' → Prop) : ∀ (ds : List D) (n : Nat) (e : Env'), P n e →
    (∀ i d e, ds[i]? = some d → P (n + i) e → ∃ e1 e2, t d e = some e1 ∧ (body e1 = .nx e2 ∨ body e1 = .ct e2) ∧ P (n + i + 1) e2) → ∃ e2, forL t body ds e = .nx e2 ∧ P (n + ds.length) e2
  | [], n, e, h, _ => ⟨e, rfl, h⟩
  | d :: ds, n, e, h, k => by
    obtain ⟨e1, e2, h1, h2, h3⟩ := k 0 d e rfl h
    obtain ⟨e3, h4, h5⟩ := forL_inv P ds (n + 1) e2 h3 fun i x e hx he => by
      have := k (i + 1) x e (by simpa using hx) (by rw [show n + (i + 1) = n + 1 + i by omega]; exact he)
      rw [show n + (i + 1) + 1 = n + 1 + i + 1 by omega] at this
      exact this
    refine ⟨e3, ?_, by rw [List.length_cons, show n + (ds.length + 1) = n + 1 + ds.length by omega]; exact h5⟩
    rcases h2 with h2 | h2 <;> simp only [forL, h1, h2, h4]
/-- a loop with an invariant and a measure -/
theorem whileN_inv {q : Env' → Ro Bool} {body : Env' → So} (P : Nat → Env' → Prop) (Z : Env' → Prop)
    (hs : ∀ m e, P m e → (∃ e1, q e = .ok false e1 ∧ Z e1) ∨ ∃ e1 e2 m', q e = .ok true e1 ∧ (body e1 = .nx e2 ∨ body e1 = .ct e2) ∧ m' < m ∧ P m' e2) : ∀ (n m : Nat) (e : Env'), m < n → P m e → ∃ e2, whileN q body n e = .nx e2 ∧ Z e2
  | 0, m, e, h, _ => absurd h (Nat.not_lt_zero _)
  | n + 1, m, e, h, hp => by
    rcases hs m e hp with ⟨e1, q1, z⟩ | ⟨e1, e2, m', q1, b1, l, p⟩
    · exact ⟨e1, by simp [whileN, ofRo, q1], z⟩
    · obtain ⟨e3, h3, z⟩ := whileN_inv P Z hs n m' e2 (by omega) p
      refine ⟨e3, ?_, z⟩
      rcases b1 with b1 | b1 <;> simp [whileN, ofRo, q1, b1, h3]
theorem sWhile_inv {q : Env' → Ro Bool} {body : Env' → So} (P : Nat → Env' → Prop) (Z : Env' → Prop)
    (hs : ∀ m e, P m e → (∃ e1, q e = .ok false e1 ∧ Z e1) ∨ ∃ e1 e2 m', q e = .ok true e1 ∧ (body e1 = .nx e2 ∨ body e1 = .ct e2) ∧ m' < m ∧ P m' e2) {m : Nat} {e : Env'} (hm : m < 2 ^ 200) (hp : P m e) : ∃ e2, sWhile q body e = .nx e2 ∧ Z e2 :=
  whileN_inv P Z hs many m e hm hp
end Rf

namespace Rf
open PySem L2 LamX
/-! ## tools for the plain laws: ranges, walks, comprehensions -/
theorem okR_of {i : Int} (h : -1000000000000000 ≤ i ∧ i ≤ 1000000000000000) : okR i = true := decide_eq_true (by omega)
theorem iR1_of {f : Env' → Ro D} {E E' : Env'} {j : Int} (h : f E = .ok (.int j) E') (hj : j ≤ 1000000000000000) (hl : -1000000000000000 ≤ j) : iR1 f E = .ok (rng 0 j.toNat) E' := by
  simp only [iR1, h, Ro.bind, okR_of ⟨hl, hj⟩, if_true]
theorem iR1_nat {f : Env' → Ro D} {E E' : Env'} {n : Nat} (h : f E = .ok (.int (n : Int)) E') (hn : n ≤ 1000000000000000) : iR1 f E = .ok (rng 0 n) E' := by
  have := iR1_of h (by omega) (by omega)
  rwa [Int.toNat_natCast] at this
theorem iR2_of {f g : Env' → Ro D} {E E' E2 : Env'} {i j : Int} (h : f E = .ok (.int i) E') (h2 : g E' = .ok (.int j) E2) (hi : -1000000000000000 ≤ i ∧ i ≤ 1000000000000000) (hj : -1000000000000000 ≤ j ∧ j ≤ 1000000000000000) : iR2 f g E = .ok (rng i (j - i).toNat) E2 := by
  simp only [iR2, h, h2, Ro.bind, okR_of hi, okR_of hj, Bool.and_self, if_true]
theorem sFor_of {it : Env' → Ro (List D)} {t : Tg} {body : Env' → So} {E E' : Env'} {ds : List D} (h : it E = .ok ds E') : sFor it t body E = forL t body ds E' := by
  simp only [sFor, h, ofRo]
theorem sFor_nat {f : Env' → Ro D} {t : Tg} {body : Env' → So} {E E' : Env'} {n : Nat} (h : f E = .ok (.int (n : Int)) E') (hn : n ≤ 1000000000000000) : sFor (iR1 f) t body E = forL t body (rng 0 n) E' := sFor_of (iR1_nat h hn)
theorem iSeq_of {f : Env' → Ro D} {E E' : Env'} {d : D} {ds : List D} (h : f E = .ok d E') (h2 : seqD d = some ds) : iSeq f E = .ok ds E' := by
  simp only [iSeq, h, Ro.bind, h2, lift]
theorem seq_nx {f g : Env' → So} {e e' : Env'} (h : f e = .nx e') : sSeq f g e = g e' := by
  simp only [sSeq, h]
theorem seq_ret {f g : Env' → So} {e e' : Env'} {d : D} (h : f e = .ret d e') : sSeq f g e = .ret d e' := by
  simp only [sSeq, h]
theorem seq_exc {f g : Env' → So} {e e' : Env'} {c : Str} {p : Option (Str × D)} (h : f e = .exc c p e') : sSeq f g e = .exc c p e' := by
  simp only [sSeq, h]
theorem seq_assoc (f g h : Env' → So) : sSeq (sSeq f g) h = sSeq f (sSeq g h) := by
  funext e
  simp only [sSeq]
  cases f e <;> rfl
/-- a def that returns, by its body -/
theorem runM_ret {md : List Bool} {n : Nat} {b : Env' → So} {args os e : Env'} {d : D} (hb : b (args ++ List.replicate (n - args.length) .no) = .ret d e) (h1 : args.map ownS = md) (h2 : args.all (fun s => !isNo s) = true) (h3 : outOk args e = true) (h4 : outs args e = os) : runM md n b args = .ok d os := by
  unfold runM
  rw [if_pos ⟨h1, h2⟩, hb]
  simp only [outR, h3, if_true, h4]
/-- the numbers from lo on -/
def nl (lo : Int) (n : Nat) : List Int := (List.range n).map fun (i : Nat) => lo + (i : Int)
theorem rng_nl (lo : Int) (n : Nat) : rng lo n = (nl lo n).map D.int := by
  simp [rng, nl, List.map_map, Function.comp_def]
theorem nl_length (lo : Int) (n : Nat) : (nl lo n).length = n := by simp [nl]
theorem nl_mem {lo x : Int} {n : Nat} : x ∈ nl lo n ↔ lo ≤ x ∧ x < lo + n := by
  simp only [nl, List.mem_map, List.mem_range]
  constructor
  · rintro ⟨i, hi, rfl⟩
    omega
  · intro h
    exact ⟨(x - lo).toNat, by omega, by omega⟩
theorem nl_succ (lo : Int) (n : Nat) : nl lo (n + 1) = lo :: nl (lo + 1) n := by
  simp only [nl, List.range_succ_eq_map, List.map_cons, List.map_map]
  congr 1
  · simp
  · refine List.map_congr_left fun i _ => ?_
    simp only [Function.comp]
    omega
theorem rng_succ (lo : Int) (n : Nat) : rng lo (n + 1) = .int lo :: rng (lo + 1) n := by
  simp only [rng_nl, nl_succ, List.map_cons]
/-- a comprehension over what is known to be a list of data: the turns leave the slots as they were -/
theorem eLc_map {vs : List Nat} {it : Env' → Ro (List D)} {t : Tg} {q : Env' → Ro Bool} {f : Env' → Ro D} {E E1 : Env'} {ds : List D} (g : D → Option D) (hi : it E = .ok ds E1) (no : noOwn E1 vs = true) (hl : ds.length ≤ 16777216)
    (hw : backE E1 (wipeE E1 vs) vs = E1)
    (nw : noOwn (wipeE E1 vs) vs = true)
    (k : ∀ d ∈ ds, ∃ e1, t d (wipeE E1 vs) = some e1 ∧ ((g d = none ∧ ∃ e2, q e1 = .ok false e2 ∧ noOwn e2 vs = true ∧ wipeE e2 vs = wipeE E1 vs) ∨ ∃ y e2 e3, g d = some y ∧ q e1 = .ok true e2 ∧ f e2 = .ok y e3 ∧ noOwn e3 vs = true ∧ wipeE e3 vs = wipeE E1 vs)) :
    eLc vs it t q f E = .ok (.lst (ds.filterMap g)) E1 := by
  have key := lcL_map (g := g) ds [] (by simpa using hl) k
  rw [List.nil_append] at key
  simp only [eLc, hi, Ro.bind, no, if_true, key, nw, hw]
end Rf

namespace Rf
open PySem L2 LamX
/-! ## a, b, .. = x, y, ..: some of the names own what they get -/
def OwL (G : Gm) (Hs H : Hp) : List Bool → List D → List V → List Addr → Prop
  | [], ds, vs, A => ds = [] ∧ vs = [] ∧ A = []
  | false :: md, ds, vs, A => ∃ d r v q, ds = d :: r ∧ vs = v :: q ∧ Is G Hs d v ∧ OwL G Hs H md r q A
  | true :: md, ds, vs, A => ∃ d r q a B, ds = d :: r ∧ vs = .ref a :: q ∧ A = a :: B ∧ OIs G Hs H d a ∧ OwL G Hs H md r q B
theorem OwL.mono {G : Gm} {Hs Hs' H H' : Hp} (l : Le Hs Hs') : ∀ {md : List Bool} {ds : List D} {vs : List V} {A : List Addr}, (∀ a ∈ A, H' a = H a) → OwL G Hs H md ds vs A → OwL G Hs' H' md ds vs A
  | [], ds, vs, A, _, h => h
  | false :: md, ds, vs, A, k, h => by
    obtain ⟨d, r, v, q, e1, e2, i, o⟩ := h
    exact ⟨d, r, v, q, e1, e2, Is.mono l _ _ i, OwL.mono l k o⟩
  | true :: md, ds, vs, A, k, h => by
    obtain ⟨d, r, q, a, B, e1, e2, rfl, i, o⟩ := h
    exact ⟨d, r, q, a, B, e1, e2, rfl, i.mono l (k a (by simp)), OwL.mono l (fun b hb => k b (by simp [hb])) o⟩
theorem OwL.len {G : Gm} {Hs H : Hp} : ∀ {md : List Bool} {ds : List D} {vs : List V} {A : List Addr}, OwL G Hs H md ds vs A → vs.length = md.length
  | [], ds, vs, A, h => by rw [h.2.1]; rfl
  | false :: md, ds, vs, A, h => by
    obtain ⟨d, r, v, q, e1, e2, i, o⟩ := h
    rw [e2, List.length_cons, List.length_cons, OwL.len o]
  | true :: md, ds, vs, A, h => by
    obtain ⟨d, r, q, a, B, e1, e2, e3, i, o⟩ := h
    rw [e2, List.length_cons, List.length_cons, OwL.len o]
theorem OwL.there {G : Gm} {Hs H : Hp} : ∀ {md : List Bool} {ds : List D} {vs : List V} {A : List Addr}, OwL G Hs H md ds vs A → ∀ a ∈ A, H a ≠ none
  | [], ds, vs, A, h, a, ha => by
    rw [h.2.2] at ha
    cases ha
  | false :: md, ds, vs, A, h, a, ha => by
    obtain ⟨d, r, v, q, e1, e2, i, o⟩ := h
    exact OwL.there o a ha
  | true :: md, ds, vs, A, h, a, ha => by
    obtain ⟨d, r, q, b, B, e1, e2, rfl, i, o⟩ := h
    rcases List.mem_cons.mp ha with e | e
    · obtain ⟨u, z, _⟩ := i.there
      rw [e, z]
      simp
    · exact OwL.there o a e
abbrev Pls (F : Addr → Prop) (A : List Addr) : Addr → Prop := fun b => F b ∨ b ∈ A
def RstO (G : Gm) (T : Tb) (F : Addr → Prop) (σ : St) (H : Hp) (env : Env') (W : WX) (md : List Bool) (Q : List V → Hp → Prop) : Ro (List D) → Prop
  | .ok ds env' => ∀ vs A H', Stp σ H env σ H' env' → Sta G T (Pls F A) σ H' env' → OwL G (hid H' (Hd (Pls F A) σ env')) H' md ds vs A → A.Nodup → (∀ a ∈ A, H a = none) → Q vs H'
  | .exc c p env' => ∀ cls dd H', Stp σ H env σ H' env' → Sta G T F σ H' env' → ExcIs G (hid H' (Hd F σ env')) H' c p cls dd → W cls dd σ H'
  | .stk => False
def rdO (G : Gm) (T : Tb) (md : List Bool) (f : Env' → Ro (List D)) (W : WX) : TA := fun σ H Q => ∃ (F : Addr → Prop) (env : Env'), Sta G T F σ H env ∧ RstO G T F σ H env W md Q (f env)
def SL (X : Cx) (T : Tb) (W : WX) (md : List Bool) (es : List Expr) (f : Env' → Ro (List D)) : Prop := PA X es (rdO (gm X) T md f W)
section
variable {X : Cx} {T : Tb} {W : WX} {k : Nat} {a : Expr} {es : List Expr} {f : Env' → Ro D} {r : Env' → Ro (List D)} {md : List Bool} {pos : Pos}
theorem sl_nil : SL X T W [] [] aNil := PA.weak pa_nil fun σ H Q h => by
  obtain ⟨F, env, S, h⟩ := h
  have e : Pls F [] = F := funext fun b => by simp [Pls]
  exact h [] [] H .refl (by rw [e]; exact S) ⟨rfl, rfl, rfl⟩ List.nodup_nil fun a z => by cases z
theorem Stp.none {σ σ' : St} {H H' : Hp} {env env' : Env'} (s : Stp σ H env σ' H' env') {a : Addr} (h : H' a = none) : H a = none := by
  cases q : H a with
  | none => rfl
  | some o => exact absurd h (s.dom a (by rw [q]; simp))
theorem Stp.leO {σ : St} {H H' : Hp} {env env' : Env'} (s : Stp σ H env σ H' env') (F : Addr → Prop) {A : List Addr} (n : ∀ a ∈ A, H a = .none) : Le (hid H (Hd F σ env)) (hid H' (Hd (Pls F A) σ env')) := Le.hid fun a o e nt h => by
  refine ⟨fun z => ?_, s.keep a o e nt fun z => h (.inl z)⟩
  rcases z with z | z | z
  · exact s.own a (by rw [e]; simp) (fun q => h (.inl q)) z
  · exact h (.inr z)
  · rw [n a z] at e
    cases e
theorem sl_v (ha : SE X T W a f) (hr : SL X T W md es r) (hs : starEach (a :: es) X.env = (false, eval a X.env) :: starEach es X.env := by rfl) : SL X T W (false :: md) (a :: es) (aCons f r) :=
  PA.weak (pa_cons ha hr hs) fun σ H Q h => by
    obtain ⟨F, env, S, h⟩ := h
    refine ⟨F, env, S, ?_⟩
    unfold aCons at h
    cases e : f env with
    | exc c q e1 => rw [e] at h; exact h
    | stk => rw [e] at h; exact h
    | ok d e1 =>
      rw [e] at h
      simp only [Ro.bind] at h
      intro v H1 s1 S1 i1
      refine ⟨F, e1, S1, ?_⟩
      cases e' : r e1 with
      | exc c' q e2 =>
        rw [e'] at h
        exact fun cls dd H' s st x => h cls dd H' (s1.trans s) st x
      | stk => rw [e'] at h; exact h
      | ok ds e2 =>
        rw [e'] at h
        intro vs A H2 s2 S2 o2 nd nn
        exact h (v :: vs) A H2 (s1.trans s2) S2 ⟨d, ds, v, vs, rfl, rfl, Is.mono (s2.leO F nn) _ _ i1, o2⟩ nd fun b hb => s1.none (nn b hb)
theorem sl_o (ha : SF X T W a f) (hr : SL X T W md es r) (hs : starEach (a :: es) X.env = (false, eval a X.env) :: starEach es X.env := by rfl) : SL X T W (true :: md) (a :: es) (aCons f r) :=
  PA.weak (pa_cons ha hr hs) fun σ H Q h => by
    obtain ⟨F, env, S, h⟩ := h
    refine ⟨F, env, S, ?_⟩
    unfold aCons at h
    cases e : f env with
    | exc c q e1 => rw [e] at h; exact h
    | stk => rw [e] at h; exact h
    | ok d e1 =>
      rw [e] at h
      simp only [Ro.bind] at h
      intro c H1 s1 S1 o1 n
      refine ⟨Pl F c, e1, S1, ?_⟩
      cases e' : r e1 with
      | exc c' q e2 =>
        rw [e'] at h
        exact fun cls dd H' s st x => h cls dd H' (s1.trans s) st.open (exc_mono (le_open (G := gm X) (F := F)) x)
      | stk => rw [e'] at h; exact h
      | ok ds e2 =>
        rw [e'] at h
        intro vs A H2 s2 S2 o2 nd nn
        have hF : Pls (Pl F c) A = Pls F (c :: A) := funext fun b => by simp [Pls, Pl, or_assoc]
        obtain ⟨u, eu, nt, _⟩ := o1.there
        have k2 : H2 c = H1 c := by rw [s2.keep c u eu nt fun z => S1.fr c z (.inr rfl), eu]
        have o3 := o1.mono (s2.leO (Pl F c) nn) k2
        rw [hF] at S2 o2 o3
        refine h (.ref c :: vs) (c :: A) H2 (s1.trans s2) S2 ⟨d, ds, vs, c, A, rfl, rfl, rfl, o3, o2⟩ (List.nodup_cons.mpr ⟨fun z => ?_, nd⟩) fun b hb => ?_
        · have := nn c z
          rw [eu] at this
          cases this
        · rcases List.mem_cons.mp hb with z | z
          · rw [z]; exact n
          · exact s1.none (nn b z)
end
def setAll : St → List Nat → List V → St
  | σ, i :: is, v :: vs => setAll (σ.set i (some v)) is vs
  | σ, _, _ => σ
def setL : Env' → List Nat → List Bool → List D → Env'
  | e, i :: is, m :: md, d :: ds => setL (e.set i (if m then .o d else .v d)) is md ds
  | e, _, _, _ => e
theorem Pls_cons (F : Addr → Prop) (a : Addr) (A : List Addr) : Pls F (a :: A) = Pl (Pls F A) a := funext fun b => by
  simp only [Pls, Pl, List.mem_cons]
  exact propext ⟨fun h => by rcases h with h | h | h <;> simp [h], fun h => by rcases h with (h | h) | h <;> simp [h]⟩
theorem Sta.setL {G : Gm} {T : Tb} {F : Addr → Prop} {H H0 : Hp} {σ0 : St} {env0 : Env'} (hF : ∀ b, F b → H0 b ≠ none) (hT : ∀ b, H0 b = none → T.old b = none) : ∀ (is : List Nat) (md : List Bool) (ds : List D) (vs : List V) (A : List Addr) (σ : St) (env : Env'), is.length = md.length → (∀ i ∈ is, Fr T i) →
    Stp σ0 H0 env0 σ H env → Sta G T (Pls F A) σ H env → OwL G (hid H (Hd (Pls F A) σ env)) H md ds vs A → A.Nodup → (∀ a ∈ A, H0 a = none) →
    Sta G T F (setAll σ is vs) H (Rf.setL env is md ds) ∧ Stp σ0 H0 env0 (setAll σ is vs) H (Rf.setL env is md ds)
  | [], [], ds, vs, A, σ, env, _, _, s, S, o, _, _ => by
    obtain ⟨rfl, rfl, rfl⟩ := o
    have e : Pls F [] = F := funext fun b => by simp [Pls]
    rw [e] at S
    exact ⟨S, s⟩
  | [], _ :: _, ds, vs, A, σ, env, h, _, _, _, _, _, _ => by cases h
  | _ :: _, [], ds, vs, A, σ, env, h, _, _, _, _, _, _ => by cases h
  | i :: is, false :: md, ds, vs, A, σ, env, h, fr, s, S, o, nd, nn => by
    obtain ⟨d, r, v, q, rfl, rfl, iv, o⟩ := o
    obtain ⟨S1, s1⟩ := S.set (i := i) (fr i (by simp)) iv
    have le : Le (hid H (Hd (Pls F A) σ env)) (hid H (Hd (Pls F A) (σ.set i (some v)) (env.set i (.v d)))) := Le.hid fun b o e n k => ⟨fun z => k (by
      rcases z with z | z
      · exact .inl (ow_set z)
      · exact .inr z), e⟩
    exact Sta.setL hF hT is md r q A _ _ (by simpa using h) (fun j hj => fr j (by simp [hj])) (s.trans s1) S1 (o.mono le fun _ _ => rfl) nd nn
  | i :: is, true :: md, ds, vs, A, σ, env, h, fr, s, S, o, nd, nn => by
    obtain ⟨d, r, q, a, B, rfl, rfl, rfl, iv, o⟩ := o
    rw [Pls_cons] at S iv o
    have na := nn a (by simp)
    obtain ⟨nB, nd'⟩ := List.nodup_cons.mp nd
    obtain ⟨S1, s1⟩ := Sta.setO (i := i) s (.inl na) S iv (fun z => by
      rcases z with z | z
      · exact hF a z na
      · exact nB z) (fr i (by simp)) (hT a na)
    have le : Le (hid H (Hd (Pl (Pls F B) a) σ env)) (hid H (Hd (Pls F B) (σ.set i (some (.ref a))) (env.set i (.o d)))) := Le.hid fun q u e _ kk => ⟨fun z => kk (by
      rcases z with z | z
      · rcases ow_setO z with z | z
        · exact .inl z
        · exact .inr (.inr z)
      · exact .inr (.inl z)), e⟩
    exact Sta.setL hF hT is md r q B _ _ (by simpa using h) (fun j hj => fr j (by simp [hj])) s1 S1 (o.mono le fun _ _ => rfl) nd' fun b hb => nn b (by simp [hb])
def sParL (is : List Nat) (md : List Bool) (f : Env' → Ro (List D)) : Env' → So := fun env => ofRo (f env) fun ds e => .nx (setL e is md ds)
section
variable {X : Cx} {T : Tb} {W : WX} {k : Nat} {pos : Pos} {is : List Nat} {md : List Bool} {f : Env' → Ro (List D)}
theorem parL_core (hl : is.length = md.length) (fr : ∀ i ∈ is, Fr T i) {G : Gm} {De : Ends} {σ : St} {H : Hp} (h : rdS G T (sParL is md f) W De σ H) :
    rdO G T md f W σ H fun vs H1 => vs.length = is.length ∧ ∀ H2, (H2 = H1 ∨ ∃ p o, H1 p = none ∧ H2 = upd H1 p o) → De.nx (setAll σ is vs) H2 := by
  obtain ⟨F, env, S, h⟩ := h
  refine ⟨F, env, S, ?_⟩
  unfold sParL at h
  cases e : f env with
  | exc c q e1 => rw [e] at h; exact fun cls dd H' s st x => h cls dd σ H' s st x
  | stk => rw [e] at h; exact h
  | ok ds e1 =>
    rw [e] at h
    simp only [ofRo] at h
    intro vs A H1 s1 S1 o1 nd nn
    refine ⟨by rw [o1.len, hl], fun H2 hh => ?_⟩
    have n : New H1 H2 := by
      rcases hh with z | ⟨p, o, hp, z⟩
      · rw [z]; exact New.refl _
      · rw [z]; exact New.upd hp
    have S2 := S1.new n
    have s2 : Stp σ H env σ H2 e1 := s1.trans n.stp
    have o2 := o1.mono (H' := H2) (n.le S1) fun a ha => by
      obtain ⟨u, hu⟩ : ∃ u, H1 a = some u := by
        cases q : H1 a with
        | none => exact absurd q (o1.there a ha)
        | some u => exact ⟨u, rfl⟩
      rw [hu, n a u hu]
    obtain ⟨S3, s3⟩ := Sta.setL (fun b z => S.fn b z) (fun b z => S.old.free (.inl z)) is md ds vs A σ e1 hl fr s2 S2 o2 nd nn
    exact h _ H2 s3 S3
theorem rdO.mono {G : Gm} {σ : St} {H : Hp} {Q Q' : List V → Hp → Prop} (h : rdO G T md f W σ H Q) (k : ∀ vs H', Q vs H' → Q' vs H') : rdO G T md f W σ H Q' := by
  obtain ⟨F, env, S, h⟩ := h
  refine ⟨F, env, S, ?_⟩
  cases e : f env with
  | exc c q e1 => rw [e] at h; exact h
  | stk => rw [e] at h; exact h
  | ok ds e1 =>
    rw [e] at h
    exact fun vs A H' s st o nd nn => k vs H' (h vs A H' s st o nd nn)
theorem ss_par2 (C : Ctx X k) (i j : Nat) {m1 m2 : Bool} (fr : Fr T i) (fr2 : Fr T j) {x y : Str} {a b : Expr} {px py pt : Pos} {kt k2 pt2} (hij : i ≠ j) (h : SL X T W [m1, m2] [a, b] f) (hi : X.N[i]? = some x := by rfl) (hj : X.N[j]? = some y := by rfl) (hx : X.env.scope.names.lookup x = some .local := by rfl) (hy : X.env.scope.names.lookup y = some .local := by rfl)
    (hw : swappedStores [.Tuple [.Name x px, .Name y py] kt pt] (.Tuple [a, b] k2 pt2) X.env = pure (some [x, y]) := by rfl)
    (hs : swapsWithSole [.Tuple [.Name x px, .Name y py] kt pt] (.Tuple [a, b] k2 pt2) pos.line X.env = pure false := by rfl) :
    SS X T W (.Assign [.Tuple [.Name x px, .Name y py] kt pt] (.Tuple [a, b] k2 pt2) pos) (sParL [i, j] [m1, m2] f) :=
  PS.weak (ps_par C.calm C.nd hi hj hij hx hy h hw hs) fun De σ H h => (parL_core rfl (fun q hq => by
    simp at hq
    rcases hq with rfl | rfl
    · exact fr
    · exact fr2) h).mono fun vs H' ⟨e, q⟩ => by
    match vs, e with
    | [v, w], _ => exact ⟨v, w, rfl, q H' (.inl rfl)⟩
theorem ss_par3 (C : Ctx X k) (i j l : Nat) {m1 m2 m3 : Bool} (fr : Fr T i) (fr2 : Fr T j) (fr3 : Fr T l) {x y z : Str} {a b c : Expr} {px py pz pt : Pos} {kt k2 pt2} (hij : i ≠ j) (hil : i ≠ l) (hjl : j ≠ l) (h : SL X T W [m1, m2, m3] [a, b, c] f) (hi : X.N[i]? = some x := by rfl) (hj : X.N[j]? = some y := by rfl) (hl : X.N[l]? = some z := by rfl)
    (hx : X.env.scope.names.lookup x = some .local := by rfl) (hy : X.env.scope.names.lookup y = some .local := by rfl) (hz : X.env.scope.names.lookup z = some .local := by rfl)
    (hw : swappedStores [.Tuple [.Name x px, .Name y py, .Name z pz] kt pt] (.Tuple [a, b, c] k2 pt2) X.env = pure (some [x, y, z]) := by rfl)
    (hs : swapsWithSole [.Tuple [.Name x px, .Name y py, .Name z pz] kt pt] (.Tuple [a, b, c] k2 pt2) pos.line X.env = pure false := by rfl) :
    SS X T W (.Assign [.Tuple [.Name x px, .Name y py, .Name z pz] kt pt] (.Tuple [a, b, c] k2 pt2) pos) (sParL [i, j, l] [m1, m2, m3] f) :=
  PS.weak (ps_par3 C.calm C.nd hi hj hl hij hil hjl hx hy hz h hw hs) fun De σ H h => (parL_core rfl (fun q hq => by
    simp at hq
    rcases hq with rfl | rfl | rfl
    · exact fr
    · exact fr2
    · exact fr3) h).mono fun vs H' ⟨e, q⟩ => by
    match vs, e with
    | [u, v, w], _ => exact ⟨u, v, w, rfl, q H' (.inl rfl)⟩
/-! names of any kind, any number: stored in order -/
def tSA (is : List Nat) : TGs := fun vs σ H Q => vs.length = is.length ∧ Q (setAll σ is vs) H
theorem gn_nil : PGs X [] (tSA []) := PGs.weak pgs_nil fun vs σ H Q h => by
  obtain ⟨e, q⟩ := h
  cases vs with
  | nil => exact ⟨rfl, q⟩
  | cons v r => cases e
theorem gn_cons {es : List Expr} {i : Nat} {x : Str} {p : Pos} (C : Cs X) (h : PGs X es (tSA is)) (hi : X.N[i]? = some x := by rfl) (hx : Loc X.env.scope x := by first | exact .inl rfl | exact .inr rfl) (hf : X.fn x = true ∨ X.env.scope.names.lookup x = some .local := by first | exact .inl rfl | exact .inr rfl)
    (h1 : (assignEach (.Name x p :: es) X.env).map (·.2) = assign (.Name x p) X.env :: (assignEach es X.env).map (·.2) := by rfl) : PGs X (.Name x p :: es) (tSA (i :: is)) :=
  PGs.weak (pgs_cons (pg_name C.nd hi hx hf) h h1) fun vs σ H Q h => by
    obtain ⟨e, q⟩ := h
    cases vs with
    | nil => cases e
    | cons v r => exact ⟨v, r, rfl, by simpa using e, q⟩
theorem ss_parG {n kk : Nat} {tgs es : List Expr} {x1} {pt pe : Pos} (C : Ctx X k) (fr : ∀ i ∈ is, Fr T i) (h : SL X T W md es f) (hg : PGs X tgs (tSA is)) (hl : is.length = md.length) (hz : is.length ≤ sizeLine) (hn : (assignEach tgs X.env).length = is.length := by rfl) (hst : (assignEach tgs X.env).findIdx? (·.1) = none := by rfl)
    (hs : swapsWithSole [.Tuple tgs kk pt] (.Tuple es x1 pe) pos.line X.env = pure false := by rfl) (hw : swappedStores [.Tuple tgs kk pt] (.Tuple es x1 pe) X.env = pure none := by rfl)
    (h1 : (assignEach [.Tuple tgs kk pt] X.env).map (·.2) = [assign (.Tuple tgs kk pt) X.env] := by rfl) : SS X T W (.Assign [.Tuple tgs kk pt] (.Tuple es x1 pe) pos) (sParL is md f) :=
  PS.weak (ps_asg (pe_tup h) (pg_tup C.calm hg hn hst) hs hw h1) fun De σ H h => (parL_core hl fr h).mono fun vs H' ⟨e, q⟩ =>
    ⟨by rw [e]; exact hz, fun p hp => ⟨p, vs, rfl, .inl (.inl upd_same), e, e, q _ (.inr ⟨p, _, hp, rfl⟩)⟩⟩
end
end Rf

namespace Rf
open PySem L2 LamX
/-! ## list comprehensions of two clauses -/
def lc2L (vs : List Nat) (t : Tg) (q : Env' → Ro Bool) (vs1 : List Nat) (it1 : Env' → Ro (List D)) (t1 : Tg) (q1 : Env' → Ro Bool) (f : Env' → Ro D) : List D → List D → Env' → Ro (List D)
  | [], acc, e => .ok acc e
  | d :: ds, acc, e => match t d e with
    | some e1 => match q e1 with
      | .ok true e2 => match it1 e2 with
        | .ok ds1 e3 => if noOwn e3 vs1 then match lcL vs1 t1 q1 f ds1 acc (wipeE e3 vs1) with
            | .ok acc' e4 => if noOwn e4 vs then lc2L vs t q vs1 it1 t1 q1 f ds acc' (wipeE e4 vs) else .stk
            | _ => .stk
          else .stk
        | _ => .stk
      | .ok false e2 => if noOwn e2 vs then lc2L vs t q vs1 it1 t1 q1 f ds acc (wipeE e2 vs) else .stk
      | _ => .stk
    | none => .stk
def eLc2 (vs : List Nat) (it : Env' → Ro (List D)) (t : Tg) (q : Env' → Ro Bool) (vs1 : List Nat) (it1 : Env' → Ro (List D)) (t1 : Tg) (q1 : Env' → Ro Bool) (f : Env' → Ro D) : Env' → Ro D := fun env => (it env).bind fun ds e => if noOwn e vs then match lc2L vs t q vs1 it1 t1 q1 f ds [] (wipeE e vs) with
    | .ok acc e' => if noOwn e' vs then .ok (.lst acc) (backE e e' vs) else .stk
    | _ => .stk
  else .stk
section
variable {G : Gm} {T : Tb} {F : Addr → Prop} {σ σ1 σ2 : St} {H H1 H2 : Hp} {env e e1 : Env'} {vs vs1 us1 : List Nat} {W : WX} {L : Addr} {acc : List D} {t1 : Tg} {q1 : Env' → Ro Bool} {f : Env' → Ro D}
theorem InB.start2 (fr : ∀ i ∈ vs1, Fr T i) (b : InB G T F L σ1 H1 e1 σ2 H e acc) (h : noOwn e vs1 = true) : InB G T F L σ1 H1 e1 (wipe σ2 vs1) H (wipeE e vs1) acc ∧ Stp σ2 H e (wipe σ2 vs1) H (wipeE e vs1) := by
  obtain ⟨S, s⟩ := b.st.rewipe fr (σ := σ2) rfl h
  exact ⟨b.step s S, s⟩
theorem InB.addL (b : InB G T F L σ1 H1 e1 σ H e acc) (xs : List V) : Le (hid H (Hd (Pl F L) σ e)) (hid (upd H L (.lst xs)) (Hd (Pl F L) σ e)) := Le.hid fun a o h _ k => ⟨k, by
    rw [upd_ne fun z => k (.inr (.inr z))]
    exact h⟩
/-- the inner clause -/
theorem lc_inner (fr : ∀ i ∈ vs1, Fr T i) (hu : ∀ i ∈ us1, i ∈ vs1) {J : It} {ds : List D} {acc' : List D} {e0 e' : Env'} {Hb : Hp} (b0 : InB G T F L σ1 H1 e1 σ2 Hb e0 acc) (i1 : JIs G (hid Hb (Hd (Pl F L) σ2 e0)) J ds) (no : noOwn e0 vs1 = true)
    (er : lcL vs1 t1 q1 f ds acc (wipeE e0 vs1) = .ok acc' e') {Nx : Hp → Prop} (hN : ∀ H, InB G T F L σ1 H1 e1 (wipe σ2 vs1) H e' acc' → Nx H) :
    ∃ W1 : Nat → Nat → Hp → Prop, (∃ m, W1 0 m Hb) ∧ ∀ j k H, W1 j k H →
      (J.stop j H ∧ Nx H) ∨ (J.go j H ∧ ∃ Nx1 : Hp → Prop, (∀ H', Nx1 H' → ∃ k', k' < k ∧ W1 (j + 1) k' H') ∧ ∀ x H', J.yld j H x H' → rdG G T us1 t1 x (wipe σ2 vs1) H' fun σ3 H5 => wipe σ3 vs1 = wipe σ2 vs1 ∧ rd G T isB q1 noW σ3 H5 fun b H6 =>
        if b = true then rd G T (isD G) f noW σ3 H6 fun y H7 => ∃ acc, H7 L = some (.lst acc) ∧ acc.length < sizeLine ∧ Nx1 (upd H7 L (.lst (acc ++ [y]))) else Nx1 H6) := by
  obtain ⟨B1, s1⟩ := b0.start2 fr no
  refine ⟨fun i m H2 => m = ds.length - i ∧ i ≤ ds.length ∧ ∃ e acc, InB G T F L σ1 H1 e1 (wipe σ2 vs1) H2 e acc ∧ Le (hid Hb (Hd (Pl F L) σ2 e0)) (hid H2 (Hd (Pl F L) (wipe σ2 vs1) e)) ∧ lcL vs1 t1 q1 f (ds.drop i) acc e = .ok acc' e',
    ⟨ds.length, rfl, Nat.zero_le _, _, _, B1, s1.le (Pl F L), er⟩, ?_⟩
  rintro i m H2 ⟨rfl, hi', e, acc, B, le, er2⟩
  by_cases hlt : i < ds.length
  · have hd : ds[i]? = some ds[i] := by simp [hlt]
    rw [List.drop_eq_getElem_cons hlt] at er2
    refine .inr ⟨i1.go i _ H2 hlt le Le.unhid, fun H3 => ∃ e acc, InB G T F L σ1 H1 e1 (wipe σ2 vs1) H3 e acc ∧ Le (hid Hb (Hd (Pl F L) σ2 e0)) (hid H3 (Hd (Pl F L) (wipe σ2 vs1) e)) ∧ lcL vs1 t1 q1 f (ds.drop (i + 1)) acc e = .ok acc' e',
      fun H3 ⟨e3, a3, b1, b2, b3⟩ => ⟨ds.length - (i + 1), by omega, rfl, hlt, e3, a3, b1, b2, b3⟩, fun y H3 hy => ?_⟩
    obtain ⟨n, j⟩ := i1.yld i _ _ H2 y H3 hd le Le.unhid hy
    have B3 := B.step n.stp (B.st.new n)
    have le3 := le.trans (n.le B.st)
    have iy := j (hid H3 (Hd (Pl F L) (wipe σ2 vs1) e)) (n.le B.st) fun a o h1 h2 => hid_some.mpr ⟨fun z => B.st.hd_there z h1, h2⟩
    simp only [lcL] at er2
    cases et : t1 ds[i] e with
    | none => rw [et] at er2; cases er2
    | some e3 =>
      rw [et] at er2
      simp only at er2
      refine ⟨Pl F L, e, ds[i], e3, B3.st, iy, et, fun σ3 o3 s3 S3 => ?_⟩
      have hw : wipe σ3 vs1 = wipe σ2 vs1 := (o3.wipe hu).trans wipe_twice
      refine ⟨hw, ?_⟩
      have B4 := B3.step s3 S3
      have le4 := le3.trans (s3.le (Pl F L))
      refine ⟨Pl F L, e3, S3, ?_⟩
      cases eq : q1 e3 with
      | ok b e4 =>
        rw [eq] at er2
        intro b' H4 s4 S4 hb'
        obtain rfl : b = b' := hb'
        have B5 := B4.step s4 S4
        have le5 := le4.trans (s4.le (Pl F L))
        cases b with
        | false =>
          simp only at er2
          split at er2
          · rename_i no2
            obtain ⟨S6, s6⟩ := B5.st.rewipe fr hw no2
            exact ⟨wipeE e4 vs1, acc, B5.step s6 S6, le5.trans (s6.le (Pl F L)), er2⟩
          · cases er2
        | true =>
          simp only at er2
          simp only [if_true]
          refine ⟨Pl F L, e4, S4, ?_⟩
          cases ef : f e4 with
          | ok d e5 =>
            rw [ef] at er2
            simp only at er2
            split at er2
            · rename_i hc
              obtain ⟨hc1, no2⟩ := Bool.and_eq_true_iff.mp hc
              have hc1 := of_decide_eq_true hc1
              intro v H5 s5 S5 iv
              have B6 := B5.step s5 S5
              have le6 := le5.trans (s5.le (Pl F L))
              obtain ⟨avs, a1, a2, B7⟩ := B6.add iv
              have le7 := le6.trans (B6.addL (avs ++ [v]))
              obtain ⟨S8, s8⟩ := B7.st.rewipe fr hw no2
              exact ⟨avs, a1, by rw [a2]; exact hc1, wipeE e5 vs1, acc ++ [d], B7.step s8 S8, le7.trans (s8.le (Pl F L)), er2⟩
            · cases er2
          | exc c p e5 => rw [ef] at er2; cases er2
          | stk => rw [ef] at er2; cases er2
      | exc c p e4 => rw [eq] at er2; cases er2
      | stk => rw [eq] at er2; cases er2
  · have e0 : i = ds.length := by omega
    subst e0
    rw [List.drop_length] at er2
    simp only [lcL] at er2
    cases er2
    exact .inl ⟨i1.stop _ H2 le Le.unhid, hN H2 B⟩
end
section
variable {X : Cx} {T : Tb} {W : WX} {k : Nat} {tg iter tg1 iter1 elt : Expr} {ifs ifs1 : List Expr} {scope : Scope} {own : List (Str × Nat)} {it it1 : Env' → Ro (List D)} {t t1 : Tg} {q q1 : Env' → Ro Bool} {f : Env' → Ro D} {us us1 vs1 : List Nat} {pos : Pos}
theorem lc2_law {G : Gm} {vs : List Nat} {σ : St} {H : Hp} {Q : VK} (fr : ∀ i ∈ vs, Fr T i) (hu : ∀ i ∈ us, i ∈ vs) (hv : ∀ i ∈ vs1, i ∈ vs) (hu1 : ∀ i ∈ us1, i ∈ vs1) (h : rdF G T (eLc2 vs it t q vs1 it1 t1 q1 f) W σ H Q) :
    tLc2 (rd G T (fun Hs ds J => JIs G Hs J ds) it W) (rdG G T us t) (rd G T isB q noW) (rd G T (fun Hs ds J => JIs G Hs J ds) it1 noW) (rdG G T us1 t1) (rd G T isB q1 noW) (rd G T (isD G) f noW) vs vs1 σ H Q := by
  refine rdF_bind h fun F env ds J H1 S1 i1 h1 L nL => ?_
  have i1 : JIs G (hid H1 (Hd F σ env)) J ds := i1
  split at h1
  · rename_i no
    split at h1
    · rename_i acc' e' er
      split at h1
      · rename_i no'
        refine ⟨fun i m H2 => m = ds.length - i ∧ i ≤ ds.length ∧ ∃ e acc, InB G T F L (wipe σ vs) H1 (wipeE env vs) (wipe σ vs) H2 e acc ∧ lc2L vs t q vs1 it1 t1 q1 f (ds.drop i) acc e = .ok acc' e',
          ⟨ds.length, rfl, Nat.zero_le _, _, [], InB.start fr S1 no nL, er⟩, ?_⟩
        rintro i m H2 ⟨rfl, hi', e, acc, B, er2⟩
        have le : Le (hid H1 (Hd F σ env)) (hid H2 (Hd (Pl F L) (wipe σ vs) e)) := by
          have z : hid H1 (Hd F σ env) = hid H1 (Hd F (wipe σ vs) (wipeE env vs)) := hid_eq (hd_iff fun a => (ow_wipe no).symm)
          rw [z]
          refine Le.hid fun b o e3 n k => ⟨fun y => ?_, B.sp.keep b o e3 n fun y => k (.inl y)⟩
          rcases y with y | y | y
          · exact B.sp.own b (by rw [e3]; simp) (fun y' => k (.inl y')) y
          · exact k (.inr y)
          · rw [y, nL] at e3; cases e3
        by_cases hlt : i < ds.length
        · have hd : ds[i]? = some ds[i] := by simp [hlt]
          rw [List.drop_eq_getElem_cons hlt] at er2
          refine .inr ⟨i1.go i _ H2 hlt le Le.unhid, fun H3 => ∃ e acc, InB G T F L (wipe σ vs) H1 (wipeE env vs) (wipe σ vs) H3 e acc ∧ lc2L vs t q vs1 it1 t1 q1 f (ds.drop (i + 1)) acc e = .ok acc' e',
            fun H3 ⟨e3, a3, b1, b2⟩ => ⟨ds.length - (i + 1), by omega, rfl, hlt, e3, a3, b1, b2⟩, fun y H3 hy => ?_⟩
          obtain ⟨n, j⟩ := i1.yld i _ _ H2 y H3 hd le Le.unhid hy
          have B3 := B.step n.stp (B.st.new n)
          have iy := j (hid H3 (Hd (Pl F L) (wipe σ vs) e)) (n.le B.st) fun a o h1 h2 => hid_some.mpr ⟨fun z => B.st.hd_there z h1, h2⟩
          simp only [lc2L] at er2
          cases et : t ds[i] e with
          | none => rw [et] at er2; cases er2
          | some e1 =>
            rw [et] at er2
            simp only at er2
            refine ⟨Pl F L, e, ds[i], e1, B3.st, iy, et, fun σ3 o3 s3 S3 => ?_⟩
            have hw : wipe σ3 vs = wipe σ vs := (o3.wipe hu).trans wipe_twice
            refine ⟨hw, ?_⟩
            have B4 := B3.step s3 S3
            refine ⟨Pl F L, e1, S3, ?_⟩
            cases eq : q e1 with
            | ok b e2 =>
              rw [eq] at er2
              intro b' H4 s4 S4 hb'
              obtain rfl : b = b' := hb'
              have B5 := B4.step s4 S4
              cases b with
              | false =>
                simp only at er2
                split at er2
                · rename_i no2
                  exact ⟨wipeE e2 vs, acc, InB.turn fr B5 hw no2, er2⟩
                · cases er2
              | true =>
                simp only at er2
                simp only [if_true]
                refine ⟨Pl F L, e2, S4, ?_⟩
                cases ei : it1 e2 with
                | ok ds1 e3 =>
                  rw [ei] at er2
                  simp only at er2
                  split at er2
                  · rename_i no1
                    split at er2
                    · rename_i acc1 e4 er3
                      split at er2
                      · rename_i no4
                        intro J1 H5 s5 S5 j1
                        refine lc_inner (fun i hi => fr i (hv i hi)) hu1 (B5.step s5 S5) j1 no1 er3 fun H6 B6 => ⟨wipeE e4 vs, acc1, InB.turn fr B6 ?_ no4, er2⟩
                        have ow : Only vs1 σ3 (wipe σ3 vs1) := ⟨wipe_length σ3 vs1, fun _ h => wipe_out h⟩
                        exact (ow.wipe hv).trans hw
                      · cases er2
                    · cases er2
                  · cases er2
                | exc c p e3 => rw [ei] at er2; cases er2
                | stk => rw [ei] at er2; cases er2
            | exc c p e2 => rw [eq] at er2; cases er2
            | stk => rw [eq] at er2; cases er2
        · have e0 : i = ds.length := by omega
          subst e0
          rw [List.drop_length] at er2
          simp only [lc2L] at er2
          cases er2
          obtain ⟨s, S, o⟩ := B.back S1 no no'
          exact .inl ⟨i1.stop _ H2 le Le.unhid, h1 L H2 s S o nL⟩
      · exact h1.elim
    · exact h1.elim
  · exact h1.elim
theorem sf_lc2 (C : Ctx X k) (fr : ∀ i ∈ own.map (·.2), Fr T i) (hi : SI X T W tg iter it) (ok : blkC X.N X.env.scope scope own = true) (hu : ∀ i ∈ us, i ∈ own.map (·.2)) (hv : ∀ i ∈ vs1, i ∈ own.map (·.2)) (hu1 : ∀ i ∈ us1, i ∈ vs1)
    (hg : ∀ s H C cl fp, SG (BlkCx X scope s H C cl fp) T us tg t) (ht : ∀ s H C cl fp, STs (BlkCx X scope s H C cl fp) T noW ifs q)
    (hi1 : ∀ s H C cl fp, SI (BlkCx X scope s H C cl fp) T noW tg1 iter1 it1) (hg1 : ∀ s H C cl fp, SG (BlkCx X scope s H C cl fp) T us1 tg1 t1) (ht1 : ∀ s H C cl fp, STs (BlkCx X scope s H C cl fp) T noW ifs1 q1) (he : ∀ s H C cl fp, SE (BlkCx X scope s H C cl fp) T noW elt f)
    (hs : ∀ x, foldedSetIterable iter X.env x = pure x := by intro _; rfl) (hs1 : ∀ env x, foldedSetIterable iter1 env x = pure x := by intro _ _; rfl) : SF X T W (.ListComp elt [⟨tg, iter, ifs, 0⟩, ⟨tg1, iter1, ifs1, 0⟩] scope pos) (eLc2 (own.map (·.2)) it t q vs1 it1 t1 q1 f) :=
  PE.weak (pe_lc2 (g := rdG (gm X) T us t) (tt := rd (gm X) T isB q noW) (wi1 := rd (gm X) T (fun Hs ds J => JIs (gm X) Hs J ds) it1 noW) (g1 := rdG (gm X) T us1 t1) (tt1 := rd (gm X) T isB q1 noW) (te := rd (gm X) T (isD (gm X)) f noW) C.calm C.nd hi (blkOk_by ok) hv hg ht hi1 hg1 ht1 he hs hs1) fun σ H Q h => lc2_law fr hu hv hu1 h
theorem ss_setLc2 {i : Nat} (fi : Fr T i) {y : Str} {py spos : Pos} (C : Ctx X k) (fr : ∀ i ∈ own.map (·.2), Fr T i) (hi : SI X T W tg iter it) (ok : blkC X.N X.env.scope scope own = true) (hu : ∀ i ∈ us, i ∈ own.map (·.2)) (hv : ∀ i ∈ vs1, i ∈ own.map (·.2)) (hu1 : ∀ i ∈ us1, i ∈ vs1)
    (hg : ∀ s H C cl fp, SG (BlkCx X scope s H C cl fp) T us tg t) (ht : ∀ s H C cl fp, STs (BlkCx X scope s H C cl fp) T noW ifs q)
    (hi1 : ∀ s H C cl fp, SI (BlkCx X scope s H C cl fp) T noW tg1 iter1 it1) (hg1 : ∀ s H C cl fp, SG (BlkCx X scope s H C cl fp) T us1 tg1 t1) (ht1 : ∀ s H C cl fp, STs (BlkCx X scope s H C cl fp) T noW ifs1 q1) (he : ∀ s H C cl fp, SE (BlkCx X scope s H C cl fp) T noW elt f)
    (hy : X.N[i]? = some y) (hyl : X.env.scope.names.lookup y = some .local) (hsw : swapsWith (.ListComp elt [⟨tg, iter, ifs, 0⟩, ⟨tg1, iter1, ifs1, 0⟩] scope pos) (some (.Name y py)) spos.line X.env = pure true)
    (hs : ∀ x, foldedSetIterable iter X.env x = pure x := by intro _; rfl) (hs1 : ∀ env x, foldedSetIterable iter1 env x = pure x := by intro _ _; rfl) : SS X T W (.Assign [.Name y py] (.ListComp elt [⟨tg, iter, ifs, 0⟩, ⟨tg1, iter1, ifs1, 0⟩] scope pos) spos) (sSetO i (eLc2 (own.map (·.2)) it t q vs1 it1 t1 q1 f)) :=
  PS.weak (ps_setLc2 (g := rdG (gm X) T us t) (tt := rd (gm X) T isB q noW) (wi1 := rd (gm X) T (fun Hs ds J => JIs (gm X) Hs J ds) it1 noW) (g1 := rdG (gm X) T us1 t1) (tt1 := rd (gm X) T isB q1 noW) (te := rd (gm X) T (isD (gm X)) f noW) C.calm C.nd hy hyl hsw hi (blkOk_by ok) hv hg ht hi1 hg1 ht1 he hs hs1) fun De σ H h => lc2_law fr hu hv hu1 (setO_law fi h)
end
end Rf

/-! ## x[::-1] of lists and tuples -/
namespace Rf
section
open PySem PySem.Spec PyProof.Rows
section
variable {prog : Program} {w : World} {A : Around} {E : Value → Shared → Prop} {s : Shared}
theorem sliceApplied_rev {sl : Addr} {vs : Value} {n : Nat} {Q : Int × Int × Nat → Shared → Prop} (hs : s.heap.IsSliceOf sl .none .none vs) (ps : IsPart vs (some (-1)))
    (h : Q ((n : Int) - 1, -1, n) s) : wpAny (model prog w) A (Builtin.Slice.sliceApplied (.ref sl) (pure (n : Int))) Q E s := by
  obtain ⟨os, hos, hcs, hds⟩ := id hs
  unfold Builtin.Slice.sliceApplied Builtin.Slice.sliceFields
  refine wpAny_bind (wpAny_bind (wpAny_field hos hds (x := .none) rfl (wpAny_bind (wpAny_field hos hds (x := .none) rfl (wpAny_bind (wpAny_field hos hds (x := vs) rfl (wpAny_pure ?_)))))))
  refine wpAny_bind (HT.slicePart_ ps ?_)
  show wpAny _ _ (if ((-1 : Int) == 0) = true then _ else _) _ _ s
  rw [if_neg (by decide)]
  refine wpAny_bind (slicePart_none (wpAny_bind (slicePart_none (wpAny_bind (wpAny_pure ?_)))))
  show wpAny _ _ (pure ((n : Int) - 1, (-1 : Int), Builtin.Slice.slicePlaces ((n : Int) - 1) (-1) (-1))) _ _ s
  have e : Builtin.Slice.slicePlaces ((n : Int) - 1) (-1) (-1) = n := by
    unfold Builtin.Slice.slicePlaces
    have h1 : ¬ ((-1 : Int) > 0) := by omega
    simp only [h1, if_false]
    split
    · have : ((n : Int) - 1 - -1 - 1) / - -1 = (n : Int) - 1 := by
        rw [show - -1 = (1 : Int) by omega, Int.ediv_one]
        omega
      rw [this]
      omega
    · omega
  rw [e]
  exact wpAny_pure h
theorem fm_some {α β : Type} {f : α → Option β} {g : α → β} : ∀ {l : List α}, (∀ k ∈ l, f k = some (g k)) → l.filterMap f = l.map g
  | [], _ => rfl
  | a :: l, h => by
    rw [List.filterMap_cons_some (h a (by simp)), List.map_cons, fm_some fun k hk => h k (by simp [hk])]
theorem pick_rev (xs : Array Value) : ((List.range xs.size).filterMap fun (k : Nat) => xs[(((xs.size : Int) - 1) + (k : Int) * (-1)).toNat]?).toArray = xs.toList.reverse.toArray := by
  congr 1
  apply List.ext_getElem?
  intro i
  have hf : ∀ k ∈ List.range xs.size, xs[(((xs.size : Int) - 1) + (k : Int) * (-1)).toNat]? = some (xs.toList.getD (xs.size - 1 - k) default) := fun k hk => by
    have hk := List.mem_range.mp hk
    have : (((xs.size : Int) - 1) + (k : Int) * (-1)).toNat = xs.size - 1 - k := by omega
    rw [this, ← Array.getElem?_toList, List.getD_eq_getElem?_getD, List.getElem?_eq_getElem (by rw [Array.length_toList]; omega)]
    rfl
  rw [fm_some hf]
  rw [List.getElem?_map]
  by_cases hi : i < xs.size
  · rw [List.getElem?_range hi, List.getElem?_reverse (by rw [Array.length_toList]; exact hi), Option.map_some, Array.length_toList, List.getD_eq_getElem?_getD, List.getElem?_eq_getElem (by rw [Array.length_toList]; omega)]
    rfl
  · rw [List.getElem?_eq_none (by simp; omega), List.getElem?_eq_none (by simp; omega)]
    rfl
theorem getItem_tuple_rev {t sl : Addr} {items : Array Value} {vs : Value} {Q : Value → Shared → Prop} (ht : IsTup s.heap t items) (hs : s.heap.IsSliceOf sl .none .none vs) (ps : IsPart vs (some (-1)))
    (h : Q (.ref s.heap.objs.size) { s with heap := s.heap.push { cls := .type "tuple", data := .seq items.toList.reverse.toArray } })
    (hsz : items.size ≤ sizeLine) : wpAny (model prog w) A (getItem (.ref t) (.ref sl)) Q E s := by
  have htake : sizeOk (.seq items.toList.reverse.toArray) := by
    show items.toList.reverse.toArray.size ≤ sizeLine
    rw [List.size_toArray, List.length_reverse, Array.length_toList]
    exact hsz
  obtain ⟨os, hos, hcs, hds⟩ := id hs
  have hTs : s.TypeIs (.ref sl) "slice" := ⟨os, hos, hcs⟩
  unfold getItem
  try with_reducible refine wpAny_holding ?_
  first | refine wpAny_bind (wpAny_pure ?_) | skip
  refine wpAny_bind (wpAny_sequenceKey ht.typeIs (by decide) ?_)
  refine wpAny_bind (wpAny_callSpecial?_slot (name := Str.ofString "__getitem__") ht.typeIs PyProof.Rows.slot_tuple_getitem
    (wpAny_call_entry PyProof.Rows.slot_tuple_getitem ht.typeIs entry_tuple_getitem ?_ (args_tuple_getitem _ _)))
  show wpAny _ _ (Builtin.Tuple.tupleItemsOf (.ref t) >>= _) _ _ s
  refine wpAny_bind (tupleItemsOf_ ht ?_)
  refine wpAny_bind (wpAny_typeOf hTs ?_)
  rw [if_pos (by decide)]
  refine wpAny_bind (sliceApplied_rev hs ps ?_)
  have hno : ¬ ((((items.size : Int) - 1) == 0 && (-1 : Int) == 1 && items.size == items.size) = true) := by simp
  show wpAny _ _ (if (((items.size : Int) - 1) == 0 && (-1 : Int) == 1 && items.size == items.size) = true then _ else _) _ _ s
  rw [if_neg hno, pick_rev]
  first
    | exact wpAny_bind (m := Builtin.Tuple.tupleExact _) (wpAny_newObj_type (wpAny_pure ⟨_, rfl, wpAny_pure h⟩) htake)
    | exact wpAny_bind (m := Builtin.Tuple.tupleExact _) (wpAny_newObj_type (wpAny_bind (wpAny_pure (wpAny_pure ⟨_, rfl, wpAny_pure h⟩))) htake)
    | exact wpAny_bind (wpAny_bind (m := Builtin.Tuple.tupleExact _) (wpAny_newObj_type (wpAny_pure (wpAny_pure ⟨_, rfl, wpAny_pure h⟩)) htake))
    | exact wpAny_bind (wpAny_bind (m := Builtin.Tuple.tupleExact _) (wpAny_newObj_type (wpAny_pure ⟨_, rfl, wpAny_pure h⟩) htake))
end
end
section
open PySem PySem.Spec PyProof.Rows L2
def tRevB (K : PySem.W.Frag) (te : TE) : TE := fun σ H Q => te σ H fun x H1 => (∃ a xs, x = .ref a ∧ SqL K H1 a xs ∧ ∀ p, H1 p = none → Q (.ref p) (upd H1 p (.lst xs.reverse))) ∨ ∃ a xs, x = .ref a ∧ SqT K H1 a xs ∧ ∀ p, H1 p = none → Q (.ref p) (upd H1 p (.tup xs.reverse))
theorem pe_revB {X : Cx} {e : Expr} {te : TE} {k : Nat} {p1 p2 p3 pos : Pos} (he : PE X e te) : PE X (.Subscript e (.Slice none none (some (.UnaryOp .USub (.Constant (.int 1) k p1) p2)) p3) pos) (tRevB X.K te) := by
  refine ⟨fun pins s σ H Q I h => ?_⟩
  refine Subscript_ (thn (he.run pins s σ H _ I h) fun v s1 ⟨x, H1, I1, r1, q1⟩ => ?_)
  have hst : PO X (some (.UnaryOp .USub (.Constant (.int 1) k p1) p2)) (tPart (tUn (rU fun i => .int (-i)) (tC (.int 1)))) := po_some (pe_un un_neg pe_int)
  refine wpAny_Slice (thn (po_none.run pins s1 σ H1 (fun o H2 => o = none ∧ H2 = H1) I1 ⟨rfl, rfl⟩) fun vl s2 ⟨l, H2, I2, pl, el, e2⟩ => ?_)
  subst el e2
  refine thn (po_none.run pins s2 σ H2 (fun o H3 => o = none ∧ H3 = H2) I2 ⟨rfl, rfl⟩) fun vu s3 ⟨u, H3, I3, pu, eu, e3⟩ => ?_
  subst eu e3
  refine thn (hst.run pins s3 σ H3 (fun o H4 => o = some (-1) ∧ H4 = H3) I3 ⟨1, rfl, -1, rfl, rfl, rfl⟩) fun vs s4 ⟨o, H4, I4, ps, eo, e4⟩ => ?_
  subst eo e4
  have I5 : Inv X pins σ H4 { s4 with heap := s4.heap.push { cls := .type "slice", data := .fields #[vl, vu, vs] } } := I4.kept (t' := s4.toks) fun b ob q => Heap.get?_push_of_some _ q
  rcases q1 with ⟨a, xs, rfl, hx, q⟩ | ⟨a, xs, rfl, hx, q⟩
  · cases r1
    obtain ⟨its, r, ht, hz⟩ := I5.list hx
    have hlen := r.length
    show wpAny (model X.prog X.w) X.A (subscriptTail e (.Slice none none (some (.UnaryOp .USub (.Constant (.int 1) k p1) p2)) p3) (.ref a) (.ref s4.heap.objs.size)) (EP X pins σ Q) X.xe { s4 with heap := s4.heap.push { cls := .type "slice", data := .fields #[vl, vu, vs] } }
    refine tail_any (ops := [.ref a, .ref s4.heap.objs.size]) ht.isList.typeIs (PySem.slot_list_getitem.lookup) ?_ (by with_unfolding_all rfl)
    refine wpAny_getItem_list_slice ht.isList (Heap.IsSliceOf.new _ vl vu vs) pl pu ps (by decide) ?_ (by rw [List.size_toArray]; omega)
    rw [PySem.W.krv_pick]
    refine ⟨.ref _, _, I5.laid (t' := s4.toks) (o := .lst xs.reverse) (fun b ob q => Heap.get?_push_of_some _ q) (Nat.le_refl _) ?_, rfl, q _ (I5.hok.fresh (Nat.le_refl _))⟩
    exact ⟨by rw [List.length_reverse]; exact hz, _, 0, r.reverse, Heap.get?_push_size _ rfl⟩
  · cases r1
    cases pl
    cases pu
    obtain ⟨its, r, ht, hz⟩ := I5.tuple hx
    have hlen := r.length
    show wpAny (model X.prog X.w) X.A (subscriptTail e (.Slice none none (some (.UnaryOp .USub (.Constant (.int 1) k p1) p2)) p3) (.ref a) (.ref s4.heap.objs.size)) (EP X pins σ Q) X.xe { s4 with heap := s4.heap.push { cls := .type "slice", data := .fields #[.none, .none, vs] } }
    refine tail_any (ops := [.ref a, .ref s4.heap.objs.size]) ht.typeIs (PyProof.Rows.slot_tuple_getitem.lookup) ?_ (by with_unfolding_all rfl)
    refine getItem_tuple_rev ht (Heap.IsSliceOf.new _ .none .none vs) ps ?_ (by rw [List.size_toArray]; omega)
    refine ⟨.ref _, _, I5.laid (t' := s4.toks) (o := .tup xs.reverse) (fun b ob q => Heap.get?_push_of_some _ q) (Nat.le_refl _) ?_, rfl, q _ (I5.hok.fresh (Nat.le_refl _))⟩
    exact ⟨by rw [List.length_reverse]; exact hz, _, r.reverse, IsTup.new _ _⟩
end
section
open PySem L2 LamX
variable {X : Cx} {T : Tb} {W : WX} {k : Nat} {e : Expr} {f : Env' → Ro D} {pos : Pos}
def dRev : D → Option D
  | .lst xs => some (.lst xs.reverse)
  | .tup xs => some (.tup xs.reverse)
  | _ => none
def eRev (f : Env' → Ro D) : Env' → Ro D := fun env => (f env).bind fun d e => lift (dRev d) e
theorem IsL.reverse {G : Gm} {H : Hp} : ∀ {ds : List D} {vs : List V}, IsL G H ds vs → IsL G H ds.reverse vs.reverse
  | [], vs, h => by
    obtain rfl : vs = [] := h
    exact rfl
  | d :: ds, vs, h => by
    obtain ⟨v, r, rfl, e2, e3⟩ := h
    rw [List.reverse_cons, List.reverse_cons]
    exact IsL.append (IsL.reverse e3) (IsL.one e2)
theorem se_rev {k : Nat} {p1 p2 p3 : Pos} (h : SE X T W e f) : SE X T W (.Subscript e (.Slice none none (some (.UnaryOp .USub (.Constant (.int 1) k p1) p2)) p3) pos) (eRev f) :=
  PE.weak (pe_revB h) fun σ H Q h => rd_bind h fun F env d v H1 S1 i1 h1 => by
    cases d with
    | lst xs =>
      obtain ⟨a, vs, rfl, s, m⟩ := i1
      exact .inl ⟨a, vs, rfl, Le.unhid.lq s, fun p hp => fin_new (d := .lst xs.reverse) S1 (New.upd hp) (fun Hs' l' n' => ⟨p, vs.reverse, rfl, n' p _ hp upd_same, IsL.reverse (IsL.mono l' _ _ m)⟩) h1⟩
    | tup xs =>
      obtain ⟨a, vs, rfl, s, m⟩ := i1
      exact .inr ⟨a, vs, rfl, Le.unhid.tq s, fun p hp => fin_new (d := .tup xs.reverse) S1 (New.upd hp) (fun Hs' l' n' => ⟨p, vs.reverse, rfl, n' p _ hp upd_same, IsL.reverse (IsL.mono l' _ _ m)⟩) h1⟩
    | _ => exact h1.elim
/-! len(set(a list of ints)) -/
def dedupI (ns : List Int) : List Int := ns.foldl PyProof.Rows.step_dedup []
theorem dedup_first (ns : List Int) : PyProof.Rows.firstMet (fun i => ns.getD i 0) ns.length = dedupI ns := by
  unfold PyProof.Rows.firstMet dedupI
  congr 1
  apply List.ext_getElem?
  intro i
  rw [List.getElem?_map]
  by_cases h : i < ns.length
  · rw [List.getElem?_range h, Option.map_some, List.getD_eq_getElem?_getD, List.getElem?_eq_getElem h]
    rfl
  · rw [List.getElem?_eq_none (by simp; omega), List.getElem?_eq_none (by omega)]
    rfl
end
section
open PySem PySem.Spec PyProof.Rows L2
def tLenSetG (K : PySem.W.Frag) (ta : TE) : TE := fun σ H Q => ta σ H fun x H1 => ∃ (l : Addr) (ns : List Int), x = .ref l ∧ SqL K H1 l (ns.map V.int) ∧ ns.length ≤ 4000 ∧ Q (.int ((dedupI ns).length : Nat)) H1
theorem pe_lenSetG {X : Cx} {a : Expr} {ta : TE} {p p2 q pos : Pos} (hc : X.calm = true) (hg : Gl X "len") (hm : X.mg "len" = none) (hg2 : Gl X "set") (hm2 : X.mg "set" = none) (ha : PE X a ta)
    (na : starEach [a] X.env = (false, eval a X.env) :: starEach [] X.env := by rfl) : PE X (.Call (.Name "len" p) [.Call (.Name "set" p2) [a] [] q] [] pos) (tLenSetG X.K ta) := by
  refine ⟨fun pins s σ H Q I h => ?_⟩
  refine Call_ (ld_blt I hg hm boot_len ?_)
  refine PyProof.Rows.callWith_builtin1 (PyProof.Rows.args_cons ?_ rfl) rfl rfl
  refine Call_ (ld_blt I hg2 hm2 boot_set ?_)
  refine PyProof.Rows.callWith_type1 (PyProof.Rows.args_cons (thn (ha.run pins s σ H _ I h) fun v s1 ⟨x, H1, I1, r1, q1⟩ => PyProof.Rows.args_nil ?_) na) na rfl
  obtain ⟨l, ns, rfl, hq, hl, q1⟩ := q1
  cases r1
  obtain ⟨its, r, pl, hz⟩ := I1.list hq
  have hlen : its.toArray.size = ns.length := by rw [List.size_toArray, ← r.length, List.length_map]
  refine call_set_list (I1.ok.hd hc) pl.isList (by simpa using RZ.intsAre_vals r) (by rw [hlen]; unfold scanBound; omega) fun h' tk hS hk => ?_
  refine PyProof.Rows.args_nil ?_
  rw [hlen, dedup_first] at hS
  obtain ⟨o, es, ep, t, ho, hex, hd, _, _, _, hf, hn⟩ := hS
  have hle : (dedupI ns).length ≤ ns.length := by
    rw [← dedup_first]
    exact PyProof.Rows.firstMet_length_le _ _
  have I2 : Inv X pins σ H1 { s1 with heap := h', toks := tk } := I1.kept fun b o e => hk b o (Heap.lt_size e) e
  exact call_len_set ho hex hd hf (by rw [hn] <;> omega) ⟨.int (dedupI ns).length, H1, I2.tok _, ⟨_, by rw [hn]⟩, q1⟩
end
end Rf

namespace Rf
open PySem L2 LamX
theorem frl_nil {T : Tb} : ∀ i ∈ ([] : List Nat), Fr T i := fun i h => by cases h
theorem frl_cons {T : Tb} {i : Nat} {is : List Nat} (h : Fr T i) (h2 : ∀ i ∈ is, Fr T i) : ∀ j ∈ i :: is, Fr T j := fun j hj => by
  rcases List.mem_cons.mp hj with e | e
  · rw [e]; exact h
  · exact h2 j e
section
variable {X : Cx} {T : Tb} {W : WX} {k : Nat} {a : Expr} {f : Env' → Ro D} {pos : Pos}
/-! ## len(set(..)) of ints -/
def oLenSet : D → Option D
  | .lst xs => match ints? xs with
    | some ns => if ns.length ≤ 4000 then some (.int ((dedupI ns).length : Nat)) else none
    | none => none
  | _ => none
def eLenSet (f : Env' → Ro D) : Env' → Ro D := fun env => (f env).bind fun d e => lift (oLenSet d) e
theorem ints_some : ∀ {ds : List D} {ns : List Int}, ints? ds = some ns → ds = ns.map D.int
  | [], ns, h => by
    cases h
    rfl
  | d :: ds, ns, h => by
    cases d with
    | int i =>
      simp only [ints?, Option.map_eq_some_iff] at h
      obtain ⟨r, h1, rfl⟩ := h
      rw [ints_some h1]
      rfl
    | _ => cases h
theorem se_lenSet {p p2 q : Pos} (C : Ctx X k) (hg : Gl X "len") (hm : X.mg "len" = none) (hg2 : Gl X "set") (hm2 : X.mg "set" = none) (h : SE X T W a f)
    (na : starEach [a] X.env = (false, eval a X.env) :: starEach [] X.env := by rfl) : SE X T W (.Call (.Name "len" p) [.Call (.Name "set" p2) [a] [] q] [] pos) (eLenSet f) :=
  PE.weak (pe_lenSetG C.calm hg hm hg2 hm2 h na) fun σ H Q h => rd_bind h fun F env d v H1 S1 i1 h1 => by
    cases d with
    | lst xs =>
      obtain ⟨l, vs, rfl, s, m⟩ := i1
      unfold oLenSet at h1
      cases e : ints? xs with
      | none => simp only [e] at h1; exact h1.elim
      | some ns =>
        simp only [e] at h1
        split at h1
        · rename_i hz
          have ex := ints_some e
          subst ex
          have ev := IsL.ints m
          subst ev
          exact ⟨l, ns, rfl, Le.unhid.lq s, hz, h1 _ H1 .refl S1 rfl⟩
        · exact h1.elim
    | _ => exact h1.elim
end
/-! ## {k: v, ..} -/
def dispE : List ((Env' → Ro D) × (Env' → Ro D)) → Env' → Ro (List (Key × D))
  | [], e => .ok [] e
  | (fk, fv) :: r, e => (fk e).bind fun kd e => (fv e).bind fun v e => (dispE r e).bind fun kvs e => match keyOf kd with
    | some kk => .ok ((kk, v) :: kvs) e
    | none => .stk
def mergeD (kvs : List (Key × D)) : List Key × List D := kvs.foldl (fun a kv => putD a.1 a.2 kv.1 kv.2) ([], [])
def eDisp (r : List ((Env' → Ro D) × (Env' → Ro D))) : Env' → Ro D := fun env => (dispE r env).bind fun kvs e => .ok (.dK (mergeD kvs).1 (mergeD kvs).2) e
def PIs (G : Gm) (Hs : Hp) (kvs : List (Key × D)) (ps : List (V × V)) : Prop := ps.map (·.1) = kvs.map (fun kv => kV kv.1) ∧ IsL G Hs (kvs.map (·.2)) (ps.map (·.2))
def RstP (G : Gm) (T : Tb) (F : Addr → Prop) (σ : St) (H : Hp) (env : Env') (W : WX) (Q : List (V × V) → Hp → Prop) : Ro (List (Key × D)) → Prop
  | .ok kvs env' => ∀ ps H', Stp σ H env σ H' env' → Sta G T F σ H' env' → PIs G (hid H' (Hd F σ env')) kvs ps → Q ps H'
  | .exc c p env' => ∀ cls dd H', Stp σ H env σ H' env' → Sta G T F σ H' env' → ExcIs G (hid H' (Hd F σ env')) H' c p cls dd → W cls dd σ H'
  | .stk => False
theorem pairs_of {G : Gm} {T : Tb} {F : Addr → Prop} {σ : St} {W : WX} : ∀ (r : List ((Env' → Ro D) × (Env' → Ro D))) {H : Hp} {env : Env'} {Q : List (V × V) → Hp → Prop}, Sta G T F σ H env → RstP G T F σ H env W Q (dispE r env) →
    tPairs (r.map fun p => (rd G T (isD G) p.1 W, rd G T (isD G) p.2 W)) σ H Q
  | [], H, env, Q, S, h => h [] H .refl S ⟨rfl, rfl⟩
  | (fk, fv) :: r, H, env, Q, S, h => by
    refine ⟨F, env, S, ?_⟩
    unfold dispE at h
    show Rst G T (isD G) F σ H env W _ (fk env)
    cases e1 : fk env with
    | exc c q en => rw [e1] at h; exact h
    | stk => rw [e1] at h; exact h
    | ok kd en1 =>
      rw [e1] at h
      simp only [Ro.bind] at h
      intro x H1 s1 S1 i1
      refine ⟨F, en1, S1, ?_⟩
      show Rst G T (isD G) F σ H1 en1 W _ (fv en1)
      cases e2 : fv en1 with
      | exc c q en => rw [e2] at h; exact fun cls dd H' s st z => h cls dd H' (s1.trans s) st z
      | stk => rw [e2] at h; exact h
      | ok v en2 =>
        rw [e2] at h
        simp only at h
        intro y H2 s2 S2 i2
        refine pairs_of r S2 ?_
        cases e3 : dispE r en2 with
        | exc c q en => rw [e3] at h; exact fun cls dd H' s st z => h cls dd H' (s1.trans (s2.trans s)) st z
        | stk => rw [e3] at h; exact h
        | ok kvs en3 =>
          rw [e3] at h
          simp only at h
          intro ps H3 s3 S3 ⟨p1, p2⟩
          split at h
          · rename_i kk hk
            refine h ((x, y) :: ps) H3 (s1.trans (s2.trans s3)) S3 ⟨?_, y, ps.map (·.2), rfl, Is.mono (s3.le F) _ _ i2, p2⟩
            rw [List.map_cons, List.map_cons, p1, keyOf_is hk (Is.mono ((s2.trans s3).le F) _ _ i1)]
          · exact h.elim
theorem merge_val {G : Gm} {Hs : Hp} : ∀ (kvs : List (Key × D)) (ps : List (V × V)), PIs G Hs kvs ps → ∃ ws : List (Key × V), ps = ws.map (fun kv => (kV kv.1, kv.2)) ∧ ws.length = kvs.length ∧ ∀ (ks : List Key) (ds : List D) (vs : List V), ks.length = vs.length → IsL G Hs ds vs →
    ∃ vs', mergeK (ks.zip vs) ws = (kvs.foldl (fun a kv => putD a.1 a.2 kv.1 kv.2) (ks, ds)).1.zip vs' ∧ (kvs.foldl (fun a kv => putD a.1 a.2 kv.1 kv.2) (ks, ds)).1.length = vs'.length ∧ IsL G Hs (kvs.foldl (fun a kv => putD a.1 a.2 kv.1 kv.2) (ks, ds)).2 vs'
  | [], ps, ⟨h1, h2⟩ => by
    have : ps = [] := by simpa using h1
    subst this
    exact ⟨[], rfl, rfl, fun ks ds vs e m => ⟨vs, rfl, e, m⟩⟩
  | (k, d) :: kvs, ps, ⟨h1, h2⟩ => by
    cases ps with
    | nil => cases h1
    | cons p ps =>
      obtain ⟨x, y⟩ := p
      obtain ⟨e1, e2⟩ := List.cons.inj h1
      obtain ⟨v, r, e3, i, m⟩ := h2
      obtain ⟨rfl, rfl⟩ := List.cons.inj e3
      obtain ⟨ws, w1, w2, w3⟩ := merge_val kvs ps ⟨e2, m⟩
      refine ⟨(k, y) :: ws, by rw [List.map_cons, ← w1]; exact congrArg (· :: ps) (Prod.ext e1 rfl), by rw [List.length_cons, List.length_cons, w2], fun ks ds vs e q => ?_⟩
      obtain ⟨vs', b1, b2, b3⟩ := putD_val (k := k) e q i
      obtain ⟨vs2, c1, c2, c3⟩ := w3 (putD ks ds k d).1 (putD ks ds k d).2 vs' b2 b3
      refine ⟨vs2, ?_, c2, c3⟩
      unfold mergeK at c1 ⊢
      rw [List.foldl_cons, b1, c1]
      rfl
section
variable {X : Cx} {T : Tb} {W : WX} {pos : Pos} {keys : List (Option Expr)} {values : List Expr} {r : List ((Env' → Ro D) × (Env' → Ro D))}
def SPs (X : Cx) (T : Tb) (W : WX) (pos : Pos) (keys : List (Option Expr)) (values : List Expr) (r : List ((Env' → Ro D) × (Env' → Ro D))) : Prop := PPs X pos keys values (r.map fun p => (rd (gm X) T (isD (gm X)) p.1 W, rd (gm X) T (isD (gm X)) p.2 W))
theorem sps_nil : SPs X T W pos [] [] [] := pps_nil
theorem sps_cons {a b : Expr} {f g : Env' → Ro D} (ha : SE X T W a f) (hb : SE X T W b g) (h : SPs X T W pos keys values r) : SPs X T W pos (some a :: keys) (b :: values) ((f, g) :: r) := pps_cons ha hb h
theorem dispE_len : ∀ {r : List ((Env' → Ro D) × (Env' → Ro D))} {e e' : Env'} {kvs : List (Key × D)}, dispE r e = .ok kvs e' → kvs.length = r.length
  | [], e, e', kvs, h => by
    cases h
    rfl
  | (f, g) :: r, e, e', kvs, h => by
    unfold dispE at h
    cases e1 : f e with
    | exc c q en => rw [e1] at h; cases h
    | stk => rw [e1] at h; cases h
    | ok kd en1 =>
      rw [e1] at h
      simp only [Ro.bind] at h
      cases e2 : g en1 with
      | exc c q en => rw [e2] at h; cases h
      | stk => rw [e2] at h; cases h
      | ok v en2 =>
        rw [e2] at h
        simp only at h
        cases e3 : dispE r en2 with
        | exc c q en => rw [e3] at h; cases h
        | stk => rw [e3] at h; cases h
        | ok ks en3 =>
          rw [e3] at h
          simp only at h
          split at h
          · cases h
            rw [List.length_cons, List.length_cons, dispE_len e3]
          · cases h
theorem sf_disp (h : SPs X T W pos keys values r) (hall : keys.all (·.isSome) = true) (hl : keys.length = values.length) (h0 : keys ≠ []) (h15 : keys.length ≤ 15) (hr : r.length ≤ 15) : SF X T W (.Dict keys values pos) (eDisp r) :=
  PE.weak (pe_disp h hall hl h0 h15) fun σ H Q h p hp => by
    obtain ⟨F, env, S, h⟩ := h
    refine pairs_of r (S.newHid (o := .dK []) hp) ?_
    unfold eDisp at h
    have B0 : InK (gm X) T F p σ H env σ (upd H p (.dK [])) env (.dK [] []) := ⟨S.newHid hp, (New.upd hp).stp, ⟨[], upd_same, rfl, rfl⟩, hp, S.old.free (.inl hp)⟩
    cases e : dispE r env with
    | exc c q en =>
      rw [e] at h
      exact fun cls dd H' s st z => h cls dd H' ((New.upd hp).stp.trans s) st.open (exc_mono (le_open (G := gm X) (F := F)) z)
    | stk => rw [e] at h; exact h
    | ok kvs en =>
      rw [e] at h
      intro ps H2 s2 S2 hps
      have B2 := B0.step s2 S2
      obtain ⟨vs0, k1, k2, k3⟩ := B2.ac
      obtain rfl : vs0 = [] := List.eq_nil_of_length_eq_zero k2.symm
      obtain ⟨ws, w1, w2, w3⟩ := merge_val kvs ps hps
      obtain ⟨vs', b1, b2, b3⟩ := w3 [] [] [] rfl rfl
      refine ⟨k1, ws, w1, by rw [w2, dispE_len e]; exact hr, ?_⟩
      rw [show ([] : List (Key × V)) = ([] : List Key).zip ([] : List V) from rfl, b1]
      have B3 := B2.put (o' := .dK ((mergeD kvs).1.zip vs')) (d' := .dK (mergeD kvs).1 (mergeD kvs).2) fun Hs l => ⟨vs', upd_same, b2, IsL.mono l _ _ b3⟩
      exact h p _ B3.sp B3.st B3.ac hp
end
end Rf

namespace Rf
open PySem L2 LamX
/-! ## the tape by its constants -/
structure DrawP where
  c1 : Int
  c2 : Int
  c3 : Int
  m1 : Int
  a : Int
  b : Int
  m2 : Int
  d1 : Int
  e1 : Int
  m3 : Int
  d2 : Int
  e2 : Int
  m4 : Int
def inP (i : Int) : Bool := decide (1 ≤ i ∧ i ≤ 2147483647)
def DrawP.good (P : DrawP) : Bool := inP P.c1 && inP P.c2 && inP P.c3 && inP P.m1 && inP P.a && inP P.b && inP P.m2 && inP P.d1 && inP P.e1 && inP P.m3 && inP P.d2 && inP P.e2 && inP P.m4
structure DrawP.Ok (P : DrawP) : Prop where
  c1 : 1 ≤ P.c1 ∧ P.c1 ≤ 2147483647
  c2 : 1 ≤ P.c2 ∧ P.c2 ≤ 2147483647
  c3 : 1 ≤ P.c3 ∧ P.c3 ≤ 2147483647
  m1 : 1 ≤ P.m1 ∧ P.m1 ≤ 2147483647
  a : 1 ≤ P.a ∧ P.a ≤ 2147483647
  b : 1 ≤ P.b ∧ P.b ≤ 2147483647
  m2 : 1 ≤ P.m2 ∧ P.m2 ≤ 2147483647
  d1 : 1 ≤ P.d1 ∧ P.d1 ≤ 2147483647
  e1 : 1 ≤ P.e1 ∧ P.e1 ≤ 2147483647
  m3 : 1 ≤ P.m3 ∧ P.m3 ≤ 2147483647
  d2 : 1 ≤ P.d2 ∧ P.d2 ≤ 2147483647
  e2 : 1 ≤ P.e2 ∧ P.e2 ≤ 2147483647
  m4 : 1 ≤ P.m4 ∧ P.m4 ≤ 2147483647
theorem DrawP.ok_of {P : DrawP} (h : P.good = true) : P.Ok := by
  simp only [DrawP.good, inP, Bool.and_eq_true, decide_eq_true_eq] at h
  obtain ⟨⟨⟨⟨⟨⟨⟨⟨⟨⟨⟨⟨h1, h2⟩, h3⟩, h4⟩, h5⟩, h6⟩, h7⟩, h8⟩, h9⟩, h10⟩, h11⟩, h12⟩, h13⟩ := h
  exact ⟨h1, h2, h3, h4, h5, h6, h7, h8, h9, h10, h11, h12, h13⟩
theorem mulB2 {a b A B : Int} (h1 : 0 ≤ a) (h2 : a ≤ A) (h3 : 0 ≤ b) (h4 : b ≤ B) : 0 ≤ a * b ∧ a * b ≤ A * B := ⟨Int.mul_nonneg h1 h3, Int.mul_le_mul h2 h4 h3 (by omega)⟩
theorem mul_cell {i j : Int} (h : i.natAbs.log2 ≤ 1048576) (h2 : 1 ≤ j ∧ j ≤ 2147483647) : dMul (.int i) (.int j) = some (.int (i * j)) := by
  have l := log2_lt (i := j) ⟨by rw [BD_eq]; omega, by rw [BD_eq]; omega⟩
  show (if okMul i j then some (D.int (i * j)) else none) = _
  have : okMul i j = true := decide_eq_true (by omega)
  rw [this]
  rfl
/-- the tape; n bounds the draws so far -/
def Tape2 (n : Nat) (d : D) : Prop := ∃ (cells : List Int) (i t s c : Int), d = tapeD cells i t s c ∧ (∀ x ∈ cells, 0 ≤ x ∧ x.natAbs.log2 ≤ 1048576) ∧ 0 ≤ i ∧ 0 ≤ t ∧ 0 ≤ s ∧ s ≤ 2147483647 ∧ 0 ≤ c ∧ c ≤ n
def b_draw1 (P : DrawP) (mc rs : Bool) : Env' → So := sSeq (sSet 3 (eOp dIx (eIxV 0 (eC (.int 0))) (eIxV 0 (eC (.int 1)))))
  (sSeq (sSetIx 0 (eC (.int 1)) (eOp dAdd (eIxV 0 (eC (.int 1))) (eC (.int 1))))
  (sSeq (sSetIx 0 (eC (.int 3)) (eOp dMod (eCall oInt (aCons (eOp dAdd (eOp dAdd (eOp dMul (eIxV 0 (eC (.int 3))) (eC (.int P.c1))) (cond mc (eOp dMul (eVar 3) (eC (.int P.c2))) (eVar 3))) (eC (.int P.c3))) aNil)) (eC (.int P.m1))))
  (cond rs (sSetIx 0 (eC (.int 2)) (eIf (qCmp bGe (eVar 3) (eOp dPow (eC (.int 10)) (eC (.int 18)))) (eVar 3) (eC (.int 0)))) (sIf (qCmp bGe (eVar 3) (eOp dPow (eC (.int 10)) (eC (.int 18)))) (sSetIx 0 (eC (.int 2)) (eVar 3)) (sNil)))))
def b_draw2 (P : DrawP) : Env' → So := sSeq (sIf (qCmp bGt (eIxV 0 (eC (.int 2))) (eC (.int 0))) (sSeq (sSet 4 (eOp dMod (eCall oInt (aCons (eIxV 0 (eC (.int 2))) aNil)) (eVar 1)))
  (sSeq (sSetIx 0 (eC (.int 2)) (eOp dDiv (eIxV 0 (eC (.int 2))) (eVar 1)))
  (sRet (eVar 4)))) (sNil))
  (sSeq (sSetIx 0 (eC (.int 4)) (eOp dAdd (eIxV 0 (eC (.int 4))) (eC (.int 1))))
  (sSeq (sSet 2 (eOp dMod (eCall oInt (aCons (eOp dMul (eCall oInt (aCons (eOp dAdd (eIxV 0 (eC (.int 3))) (eOp dMul (eC (.int P.a)) (eIxV 0 (eC (.int 4))))) aNil)) (eC (.int P.b))) aNil)) (eC (.int P.m2))))
  (sSeq (sSet 2 (eOp dMod (eCall oInt (aCons (eOp dMul (eVar 2) (eOp dAdd (eOp dDiv (eVar 2) (eC (.int P.d1))) (eC (.int P.e1)))) aNil)) (eC (.int P.m3))))
  (sSeq (sSet 2 (eOp dMod (eCall oInt (aCons (eOp dMul (eVar 2) (eOp dAdd (eOp dDiv (eVar 2) (eC (.int P.d2))) (eC (.int P.e2)))) aNil)) (eC (.int P.m4))))
  (sRet (eOp dMod (eCall oInt (aCons (eOp dDiv (eVar 2) (eC (.int 16))) aNil)) (eVar 1)))))))
def b_draw (P : DrawP) (mc rs : Bool) : Env' → So := sSeq (sIf (qAnd (qCmp bEq (eIxV 0 (eC (.int 2))) (eC (.int 0))) (qCmp bLt (eIxV 0 (eC (.int 1))) (eCall oLen (aCons (eIxV 0 (eC (.int 0))) aNil)))) (b_draw1 P mc rs) sNil) (b_draw2 P)
def drawM (P : DrawP) (mc rs : Bool) : Fm := runM [true, false] 5 (b_draw P mc rs)
/-- the second part: digits, or a number -/
theorem draw2 {P : DrawP} (p : P.Ok) {cells : List Int} {i t s c m : Int} {n : Nat} (x3 : Slot) (hc : ∀ x ∈ cells, 0 ≤ x ∧ x.natAbs.log2 ≤ 1048576) (hi : 0 ≤ i) (ht : 0 ≤ t) (hs : 0 ≤ s ∧ s ≤ 2147483647) (hn : 0 ≤ c ∧ c ≤ n) (hn2 : n ≤ 1000000000) (hm : 0 < m) (hb : m ≤ 1000000000000000000000) :
    ∃ r tp x2 x4, b_draw2 P [.o (tapeD cells i t s c), .v (.int m), .no, x3, .no] = .ret (.int r) [.o tp, .v (.int m), x2, x3, x4] ∧ 0 ≤ r ∧ r < m ∧ Tape2 (n + 1) tp := by
  have hb' : m ≤ BD := by rw [BD_eq]; omega
  by_cases h : 0 < t
  · refine ⟨t % m, tapeD cells i (t / m) s c, .no, .v (.int (t % m)), ?_, Int.emod_nonneg _ (by omega), Int.emod_lt_of_pos _ hm, cells, i, _, s, c, rfl, hc, hi, Int.ediv_nonneg ht (by omega), hs.1, hs.2, hn.1, by omega⟩
    have h0 : ¬ t = 0 := by omega
    simp [b_draw2, tapeD, sSeq, sIf, sRet, sSet, sSetIx, sNil, ofRo, Ro.bind, lift, eVar, eC, eOp, qCmp, qAnd, eIxV, slotD, dIx, dIxS, isDic, atI, ixN, eCall, aCons, aNil, oLen, lenD, oInt, eq_ii, lt_ii, gt_ii, ge_ii, add_ii, outR, outOk, outs, ownS, isNo, isLstS, List.replicate, mod_ii hm, div_ii hm hb', h]
  · obtain rfl : t = 0 := by omega
    obtain ⟨pc1, pc2, pc3, pm1, pa, pb, pm2, pd1, pe1, pm3, pd2, pe2, pm4⟩ := p
    have m2 : ∀ z : Int, 0 ≤ z % P.m2 ∧ z % P.m2 < P.m2 := fun z => ⟨Int.emod_nonneg _ (by omega), Int.emod_lt_of_pos _ (by omega)⟩
    have m3 : ∀ z : Int, 0 ≤ z % P.m3 ∧ z % P.m3 < P.m3 := fun z => ⟨Int.emod_nonneg _ (by omega), Int.emod_lt_of_pos _ (by omega)⟩
    have e1 : dMul (.int P.a) (.int (c + 1)) = some (.int (P.a * (c + 1))) := mul_ii (by rw [BD_eq]; omega) (by rw [BD_eq]; omega)
    have w1 := mulB2 (a := P.a) (b := c + 1) (A := 2147483647) (B := 1000000001) (by omega) (by omega) (by omega) (by omega)
    have e2 : dMul (.int (s + P.a * (c + 1))) (.int P.b) = some (.int ((s + P.a * (c + 1)) * P.b)) := mul_ii (by rw [BD_eq]; omega) (by rw [BD_eq]; omega)
    generalize hz : (s + P.a * (c + 1)) * P.b % P.m2 = z at *
    have z1 : 0 ≤ z ∧ z < P.m2 := hz ▸ m2 _
    have e3 : dDiv (.int z) (.int P.d1) = some (.int (z / P.d1)) := div_ii (by omega) (by rw [BD_eq]; omega)
    have z2 : 0 ≤ z / P.d1 ∧ z / P.d1 ≤ z := ⟨Int.ediv_nonneg z1.1 (by omega), Int.ediv_le_self _ z1.1⟩
    have e4 : dMul (.int z) (.int (z / P.d1 + P.e1)) = some (.int (z * (z / P.d1 + P.e1))) := mul_ii (by rw [BD_eq]; omega) (by rw [BD_eq]; omega)
    generalize hy : z * (z / P.d1 + P.e1) % P.m3 = y at *
    have y1 : 0 ≤ y ∧ y < P.m3 := hy ▸ m3 _
    have e5 : dDiv (.int y) (.int P.d2) = some (.int (y / P.d2)) := div_ii (by omega) (by rw [BD_eq]; omega)
    have y2 : 0 ≤ y / P.d2 ∧ y / P.d2 ≤ y := ⟨Int.ediv_nonneg y1.1 (by omega), Int.ediv_le_self _ y1.1⟩
    have e6 : dMul (.int y) (.int (y / P.d2 + P.e2)) = some (.int (y * (y / P.d2 + P.e2))) := mul_ii (by rw [BD_eq]; omega) (by rw [BD_eq]; omega)
    generalize hx : y * (y / P.d2 + P.e2) % P.m4 = x at *
    have e7 : dDiv (.int x) (.int 16) = some (.int (x / 16)) := div_ii (by decide) (by decide)
    have q1 : ∀ i, dMod (.int i) (.int P.m2) = some (.int (i % P.m2)) := fun i => mod_ii (by omega)
    have q2 : ∀ i, dMod (.int i) (.int P.m3) = some (.int (i % P.m3)) := fun i => mod_ii (by omega)
    have q3 : ∀ i, dMod (.int i) (.int P.m4) = some (.int (i % P.m4)) := fun i => mod_ii (by omega)
    refine ⟨x / 16 % m, tapeD cells i 0 s (c + 1), .v (.int x), .no, ?_, Int.emod_nonneg _ (by omega), Int.emod_lt_of_pos _ hm, cells, i, 0, s, c + 1, rfl, hc, hi, by omega, hs.1, hs.2, by omega, by omega⟩
    simp [b_draw2, tapeD, sSeq, sIf, sRet, sSet, sSetIx, sNil, ofRo, Ro.bind, lift, eVar, eC, eOp, qCmp, qAnd, eIxV, slotD, dIx, dIxS, isDic, atI, ixN, eCall, aCons, aNil, oLen, lenD, oInt, eq_ii, lt_ii, gt_ii, ge_ii, add_ii, outR, outOk, outs, ownS, isNo, isLstS, List.replicate, e1, e2, e3, e4, e5, e6, e7, q1, q2, q3, hz, hy, hx, mod_ii hm]
theorem draw1 {P : DrawP} (p : P.Ok) (mc rs : Bool) {cells : List Int} {i s c : Int} (xm : Slot) (hc : ∀ x ∈ cells, 0 ≤ x ∧ x.natAbs.log2 ≤ 1048576) (hi : 0 ≤ i) (hl : i < cells.length) (hs : 0 ≤ s ∧ s ≤ 2147483647) :
    ∃ cell s' t', cell ∈ cells ∧ (t' = 0 ∨ t' = cell) ∧ 0 ≤ s' ∧ s' ≤ 2147483647 ∧ b_draw1 P mc rs [.o (tapeD cells i 0 s c), xm, .no, .no, .no] = .nx [.o (tapeD cells (i + 1) t' s' c), xm, .no, .v (.int cell), .no] := by
  have hl' : i.toNat < cells.length := by omega
  have g : cells[i.toNat]? = some cells[i.toNat] := List.getElem?_eq_getElem hl'
  have hm : cells[i.toNat] ∈ cells := List.getElem_mem _
  generalize hcell : cells[i.toNat] = cell at g hm
  obtain ⟨c0, cl⟩ := hc cell hm
  have q1 : ∀ i, dMod (.int i) (.int P.m1) = some (.int (i % P.m1)) := fun i => mod_ii (by have := p.m1; omega)
  have e1 : dMul (.int s) (.int P.c1) = some (.int (s * P.c1)) := mul_ii (by rw [BD_eq]; omega) (by have := p.c1; rw [BD_eq]; omega)
  have e2 : dMul (.int cell) (.int P.c2) = some (.int (cell * P.c2)) := mul_cell cl p.c2
  have hix : ixN cells.length i = some i.toNat := ixN_nat hi (by omega)
  have hix2 : dIxS (.lst (cells.map .int)) (.int i) = some (.int cell) := by
    simp only [dIxS, atI, List.length_map, hix, Option.bind_some, List.getElem?_map, g, Option.map_some]
  have m2 : ∀ z : Int, 0 ≤ z % P.m1 ∧ z % P.m1 ≤ 2147483647 := fun z => ⟨Int.emod_nonneg _ (by have := p.m1; omega), by
    have := Int.emod_lt_of_pos z (show 0 < P.m1 by have := p.m1; omega)
    have := p.m1
    omega⟩
  cases mc <;> cases rs
  all_goals by_cases h : (1000000000000000000 : Int) ≤ cell
  all_goals first
    | (refine ⟨cell, (s * P.c1 + cell + P.c3) % P.m1, cell, hm, .inr rfl, (m2 _).1, (m2 _).2, ?_⟩; simp [b_draw1, tapeD, sSeq, sIf, sRet, sSet, sSetIx, sNil, ofRo, Ro.bind, lift, eVar, eC, eOp, eIf, qCmp, qAnd, eIxV, slotD, dIx, dIxS, isDic, atI, ixN, eCall, aCons, aNil, oLen, lenD, oInt, eq_ii, lt_ii, gt_ii, ge_ii, add_ii, outR, outOk, outs, ownS, isNo, isLstS, List.replicate, q1, e1, e2, hi, hl, g, pow_ten, h, hcell]; done)
    | (refine ⟨cell, (s * P.c1 + cell * P.c2 + P.c3) % P.m1, cell, hm, .inr rfl, (m2 _).1, (m2 _).2, ?_⟩; simp [b_draw1, tapeD, sSeq, sIf, sRet, sSet, sSetIx, sNil, ofRo, Ro.bind, lift, eVar, eC, eOp, eIf, qCmp, qAnd, eIxV, slotD, dIx, dIxS, isDic, atI, ixN, eCall, aCons, aNil, oLen, lenD, oInt, eq_ii, lt_ii, gt_ii, ge_ii, add_ii, outR, outOk, outs, ownS, isNo, isLstS, List.replicate, q1, e1, e2, hi, hl, g, pow_ten, h, hcell]; done)
    | (refine ⟨cell, (s * P.c1 + cell + P.c3) % P.m1, 0, hm, .inl rfl, (m2 _).1, (m2 _).2, ?_⟩; simp [b_draw1, tapeD, sSeq, sIf, sRet, sSet, sSetIx, sNil, ofRo, Ro.bind, lift, eVar, eC, eOp, eIf, qCmp, qAnd, eIxV, slotD, dIx, dIxS, isDic, atI, ixN, eCall, aCons, aNil, oLen, lenD, oInt, eq_ii, lt_ii, gt_ii, ge_ii, add_ii, outR, outOk, outs, ownS, isNo, isLstS, List.replicate, q1, e1, e2, hi, hl, g, pow_ten, h, hcell]; done)
    | (refine ⟨cell, (s * P.c1 + cell * P.c2 + P.c3) % P.m1, 0, hm, .inl rfl, (m2 _).1, (m2 _).2, ?_⟩; simp [b_draw1, tapeD, sSeq, sIf, sRet, sSet, sSetIx, sNil, ofRo, Ro.bind, lift, eVar, eC, eOp, eIf, qCmp, qAnd, eIxV, slotD, dIx, dIxS, isDic, atI, ixN, eCall, aCons, aNil, oLen, lenD, oInt, eq_ii, lt_ii, gt_ii, ge_ii, add_ii, outR, outOk, outs, ownS, isNo, isLstS, List.replicate, q1, e1, e2, hi, hl, g, pow_ten, h, hcell]; done)
theorem draw_ok {P : DrawP} (p : P.Ok) (mc rs : Bool) {n : Nat} {d : D} {m : Int} (hT : Tape2 n d) (hn : n ≤ 1000000000) (hm : 0 < m) (hb : m ≤ 1000000000000000000000) : ∃ r tp, drawM P mc rs [.o d, .v (.int m)] = .ok (.int r) [.o tp, .no] ∧ 0 ≤ r ∧ r < m ∧ Tape2 (n + 1) tp := by
  obtain ⟨cells, i, t, s, c, rfl, hc, hi, ht, hs, hs2, h0, h1⟩ := hT
  have run : ∀ {x3 t' s' : _} {i' : Int}, 0 ≤ i' → 0 ≤ t' → 0 ≤ s' ∧ s' ≤ 2147483647 → (b_draw P mc rs [.o (tapeD cells i t s c), .v (.int m), .no, .no, .no] = b_draw2 P [.o (tapeD cells i' t' s' c), .v (.int m), .no, x3, .no]) → ∃ r tp, drawM P mc rs [.o (tapeD cells i t s c), .v (.int m)] = .ok (.int r) [.o tp, .no] ∧ 0 ≤ r ∧ r < m ∧ Tape2 (n + 1) tp := fun {x3 t' s' i'} a1 a2 a3 e => by
    obtain ⟨r, tp, x2, x4, q, r1, r2, r3⟩ := draw2 p x3 hc a1 a2 a3 ⟨h0, h1⟩ hn hm hb
    refine ⟨r, tp, ?_, r1, r2, r3⟩
    show (match b_draw P mc rs [.o (tapeD cells i t s c), .v (.int m), .no, .no, .no] with | .nx e => _ | .ret d e => _ | .retF d e => _ | .exc c p e => _ | _ => _) = _
    rw [e, q]
    rfl
  by_cases h : t = 0 ∧ i < cells.length
  · obtain ⟨rfl, h⟩ := h
    obtain ⟨cell, s', t', k1, k2, k3, k4, k5⟩ := draw1 p mc rs (c := c) (.v (.int m)) hc hi h ⟨hs, hs2⟩
    refine run (x3 := .v (.int cell)) (t' := t') (s' := s') (i' := i + 1) (by omega) ?_ ⟨k3, k4⟩ ?_
    · have := (hc _ k1).1
      rcases k2 with k2 | k2 <;> omega
    · unfold b_draw
      simp only [tapeD] at k5
      simp [tapeD, sSeq, sIf, sNil, ofRo, Ro.bind, lift, eC, qCmp, qAnd, eIxV, slotD, dIx, dIxS, isDic, atI, ixN, eCall, aCons, aNil, oLen, lenD, eq_ii, lt_ii, h] at k5 ⊢
      rw [k5]
  · refine run (x3 := .no) (t' := t) (s' := s) (i' := i) hi ht ⟨hs, hs2⟩ ?_
    unfold b_draw
    by_cases h2 : t = 0
    · have h3 : ¬ i < cells.length := fun z => h ⟨h2, z⟩
      simp [tapeD, sSeq, sIf, sNil, ofRo, Ro.bind, lift, eC, qCmp, qAnd, eIxV, slotD, dIx, dIxS, isDic, atI, ixN, eCall, aCons, aNil, oLen, lenD, eq_ii, lt_ii, h2, h3]
    · simp [tapeD, sSeq, sIf, sNil, ofRo, Ro.bind, lift, eC, qCmp, qAnd, eIxV, slotD, dIx, dIxS, isDic, atI, ixN, eCall, aCons, aNil, oLen, lenD, eq_ii, lt_ii, h2]
/-! its beginning -/
def elH (md : Bool) : Env' → Ro D := cond md (eOp dMod (eCall oInt (aCons (eCall oAbs (aCons (eCall oInt (aCons (eVar 2) aNil)) aNil)) aNil)) (eOp dPow (eC (.int 10)) (eC (.int 36)))) (eCall oAbs (aCons (eCall oInt (aCons (eVar 2) aNil)) aNil))
def b_hand (s0 s1 : Int) (mu md : Bool) : Env' → So := sSeq (sSetO 1 (eLc [2] (iSeq (eSl (eVar 0) (oNone) (oSome (eC (.int 63))))) (tName 2) (qYes) (elH md)))
  (sRetF (eLst (aCons (eVar 1) (aCons (eC (.int 0)) (aCons (eC (.int 0)) (aCons (eOp dAdd (eC (.int s0)) (cond mu (eOp dMul (eC (.int s1)) (eLenV 1)) (eLenV 1))) (aCons (eC (.int 0)) (aNil))))))))
def handM (s0 s1 : Int) (mu md : Bool) : Fm := runF [false] 3 (b_hand s0 s1 mu md)
def cellI (md : Bool) (i : Int) : Int := cond md (absI i % 1000000000000000000000000000000000000) (absI i)
theorem absI_bits {z : Int} (h : PySem.Builtin.Int.intBits z ≤ 1048576) : (absI z).natAbs.log2 ≤ 1048576 := by
  have e : (absI z).natAbs = z.natAbs := by unfold absI; split <;> omega
  rw [e]
  unfold PySem.Builtin.Int.intBits at h
  by_cases h0 : z.natAbs = 0
  · rw [h0]; decide
  · split at h
    · rename_i q
      exact absurd (by rw [eq_of_beq q]; rfl) h0
    · omega
theorem cellI_ok (md : Bool) {z : Int} (h : PySem.Builtin.Int.intBits z ≤ 1048576) : 0 ≤ cellI md z ∧ (cellI md z).natAbs.log2 ≤ 1048576 := by
  cases md
  · exact ⟨absI_nn z, absI_bits h⟩
  · have h1 := Int.emod_nonneg (absI z) (show (1000000000000000000000000000000000000 : Int) ≠ 0 by decide)
    have h2 := Int.emod_lt_of_pos (absI z) (show (0 : Int) < 1000000000000000000000000000000000000 by decide)
    refine ⟨h1, ?_⟩
    show (absI z % 1000000000000000000000000000000000000).natAbs.log2 ≤ 1048576
    generalize absI z % 1000000000000000000000000000000000000 = y at *
    by_cases h0 : y.natAbs = 0
    · rw [h0]; decide
    · have : y.natAbs.log2 < 120 := (Nat.log2_lt h0).mpr (Nat.lt_of_lt_of_le (show y.natAbs < 1000000000000000000000000000000000000 by omega) (by decide +kernel))
      omega
theorem pow36 : dPow (.int 10) (.int 36) = some (.int 1000000000000000000000000000000000000) := by kernel_rfl
theorem hand_loop (md : Bool) (z : D) : ∀ (ns : List Int) (acc : List D), acc.length + ns.length ≤ 1000 → lcL [2] (tName 2) qYes (elH md) (ns.map D.int) acc [.v z, .no, .no] = .ok (acc ++ ns.map fun i => D.int (cellI md i)) [.v z, .no, .no]
  | [], acc, h => by simp [lcL]
  | i :: ns, acc, h => by
    have h' : acc.length < sizeLine := by
      have : sizeLine = 16777216 := by decide
      rw [List.length_cons] at h
      omega
    have ih := hand_loop md z ns (acc ++ [D.int (cellI md i)]) (by rw [List.length_append]; simp at h ⊢; omega)
    rw [List.map_cons]
    have e : absI i = if i < 0 then -i else i := rfl
    have m : ∀ i, dMod (.int i) (.int 1000000000000000000000000000000000000) = some (.int (i % 1000000000000000000000000000000000000)) := fun i => mod_ii (by decide)
    have el : elH md [.v z, .no, .v (.int i)] = .ok (.int (cellI md i)) [.v z, .no, .v (.int i)] := by
      cases md
      · simp [elH, cellI, eCall, aCons, aNil, eVar, Ro.bind, lift, oAbs, oInt, ← e]
      · simp [elH, cellI, eCall, eOp, eC, aCons, aNil, eVar, Ro.bind, lift, oAbs, oInt, ← e, pow36, m]
    simp [lcL, tName, qYes, el, h', noOwn, isOwn, wipeE, ih]
theorem hand_ok {s0 s1 : Int} (mu md : Bool) (h0 : 0 ≤ s0 ∧ s0 ≤ 1000000) (h1 : 0 ≤ s1 ∧ s1 ≤ 1000000) (ns : List Int) (hl : ns.length ≤ 63) (hb : ∀ z ∈ ns, PySem.Builtin.Int.intBits z ≤ 1048576) : ∃ d, handM s0 s1 mu md [.v (.scr ns)] = .ok d [.no] ∧ Tape2 0 d := by
  have hc : cut ns none (some 63) = ns := cut_whole ⟨rfl, by
    unfold HT.sIx
    simp
    omega⟩
  have e := hand_loop md (.scr ns) ns [] (by simp; omega)
  have m1 : dMul (.int s1) (.int (ns.length : Int)) = some (.int (s1 * ns.length)) := mul_ii (by rw [BD_eq]; omega) (by rw [BD_eq]; omega)
  have w := mulB2 (a := s1) (b := (ns.length : Int)) (A := 1000000) (B := 63) (by omega) (by omega) (by omega) (by omega)
  refine ⟨tapeD (ns.map (cellI md)) 0 0 (s0 + cond mu (s1 * ns.length) ns.length) 0, ?_, ns.map (cellI md), 0, 0, _, 0, rfl, fun x hx => ?_, by omega, by omega, by cases mu <;> simp <;> omega, by cases mu <;> simp <;> omega, by omega, by omega⟩
  · have e2 : (cut ns none (some 63)).map D.int = ns.map D.int := by rw [hc]
    cases mu <;> simp [handM, runF, b_hand, ownS, isNo, List.replicate, sSeq, sSetO, sRetF, ofRo, Ro.bind, lift, eLc, iSeq, eSl, eVar, eC, oNone, oSome, dSl, seqD, noOwn, isOwn, wipeE, backE, e2, e, eLst, aCons, aNil, eOp, eLenV, slotD, lenD, add_ii, m1, outR, outOk, outs, tapeD, List.map_map, Function.comp_def, sizeLine]
  · obtain ⟨z, hz, rfl⟩ := List.mem_map.mp hx
    exact cellI_ok md (hb z hz)
end Rf

/-! ## sorted of tuples of ints -/
namespace Rf
section
open PySem PySem.Spec PyProof.Rows
variable {prog : Program} {w : World} {A : Around} {E : Value → Shared → Prop} {s : Shared}
theorem lexL_ints {b : Bool} {Q : Bool → Shared → Prop} {xs ys : List Value} {ns ms : List Int} (i : Nat) (hx : IntsAre xs ns) (hy : IntsAre ys ms)
    (h : Q (HT.lexLt ns ms) s) : PySem.W.KatLex prog w A b (decide (ns.length < ms.length)) Q (xs.zip ys) i s := by
  induction hx generalizing ys ms i with
  | nil =>
    have e : HT.lexLt [] ms = decide (([] : List Int).length < ms.length) := by
      cases ms with
      | nil => rfl
      | cons q ms => rfl
    rw [e] at h
    cases hy <;> exact PySem.W.kat_nil h
  | @cons p t xs ns hx ih =>
    cases hy with
    | nil =>
      have e : decide ((p :: ns).length < ([] : List Int).length) = false := decide_eq_false (by simp)
      rw [e]
      exact PySem.W.kat_nil h
    | @cons q u ys ms hy =>
      have e : decide ((p :: ns).length < (q :: ms).length) = decide (ns.length < ms.length) := by simp
      rw [e]
      show PySem.W.KatLex prog w A b _ Q ((Value.int p t, Value.int q u) :: xs.zip ys) i s
      refine PySem.W.kat_cons (wpAny_eqBool_int ?_)
      rw [HT.lexLt_cons] at h
      by_cases e : p = q
      · subst e
        rw [beq_self_eq_true]
        rw [if_pos rfl] at h
        exact PySem.W.kat_yes (ih (i + 1) hy h)
      · rw [show (p == q) = false from beq_eq_false_iff_ne.mpr e]
        rw [if_neg e] at h
        exact PySem.W.kat_no (TS.oneLt_ints _ h)
theorem firsts_ne {h : Heap} {k : Value → List Int} : ∀ vs : List Value, (∀ v ∈ vs, TS.TupInts h v (k v) ∧ k v ≠ []) → ∃ fs, PySem.W.KatTups h vs fs ∧ fs.length = vs.length ∧ ∀ f, f ∈ fs → ∃ n t, f = Value.int n t
  | [], _ => ⟨[], PySem.W.KatTups.nil, rfl, fun f hf => by simp at hf⟩
  | v :: vs, x => by
    obtain ⟨fs, kk, hl, hi⟩ := firsts_ne vs fun u hu => x u (List.mem_cons_of_mem _ hu)
    obtain ⟨⟨a, xs, rfl, ⟨o, ho, hc, n, hdt⟩, i⟩, hn⟩ := x v (List.mem_cons_self ..)
    obtain ⟨y, ys, e⟩ : ∃ y ys, xs.toList = y :: ys := by
      cases q : xs.toList with
      | nil =>
        rw [q] at i
        have l := i.length
        rw [List.length_nil] at l
        exact absurd (List.eq_nil_of_length_eq_zero l.symm) hn
      | cons y ys => exact ⟨y, ys, rfl⟩
    obtain ⟨m, t, hy⟩ := i.all y (by rw [e]; exact List.mem_cons_self ..)
    refine ⟨y :: fs, PySem.W.KatTups.cons ho hc hdt ?_ kk, by simp [hl], ?_⟩
    · have z := congrArg (fun l : List Value => l[0]?) e
      simpa using z
    · intro f hf
      rcases List.mem_cons.mp hf with rfl | hf
      · exact ⟨m, t, hy⟩
      · exact hi f hf
theorem tups_sortable {a : Addr} {vs : List Value} {k : Value → List Int} (h0 : 0 < vs.length) (hp : ∀ v ∈ vs, TS.TupInts s.heap v (k v) ∧ k v ≠ []) (ha : ∀ o, s.heap.get? a = some o → o.cls ≠ .type "tuple") : SrtO.SortableO prog w A s a vs fun v u => HT.lexLt (k v) (k u) := by
  intro h' keep
  have hp' : ∀ v ∈ vs, TS.TupInts h' v (k v) ∧ k v ≠ [] := fun v hm => ⟨(hp v hm).1.keeps fun b o e c => keep b o (fun z => by subst z; exact ha o e c) e, (hp v hm).2⟩
  obtain ⟨fs, h1, h2, h3⟩ := firsts_ne vs hp'
  refine ⟨tuples' true, fun Q E hq => ?_, fun p q hm hm' => ?_⟩
  · refine PySem.W.kat_kind (T := .type "int") h1 (by omega) (fun f hm => ?_) (by rfl) ?_
    · obtain ⟨x, t, rfl⟩ := h3 f hm
      exact PySem.W.Looks.now
    · have e : (Value.type "int" != Value.type "tuple") = true := by first | decide +kernel | rfl | decide
      rw [e]
      exact hq
  · obtain ⟨⟨a1, xs, e1, ⟨o, ho, hc, n, hdt⟩, i⟩, _⟩ := hp' p.1 hm
    obtain ⟨⟨a2, ys, e2, ⟨o2, ho2, hc2, n2, hdt2⟩, i2⟩, _⟩ := hp' q.1 hm'
    show wpAny (model prog w) A (keyLt' (tuples' true) p.1 q.1) (fun r s' => s' = { s with heap := h' } ∧ r = HT.lexLt (k p.1) (k q.1)) (fun _ _ => False) { s with heap := h' }
    generalize k p.1 = kp at i ⊢
    generalize k q.1 = kq at i2 ⊢
    rw [e1, e2]
    refine PySem.W.kat_lt ho hdt ho2 hdt2 ?_
    have hs : decide (xs.size < ys.size) = decide (kp.length < kq.length) := by
      have l1 := i.length
      have l2 := i2.length
      rw [Array.length_toList] at l1 l2
      rw [l1, l2]
    rw [hs]
    exact lexL_ints 0 i i2 ⟨rfl, rfl⟩
end
section
open PySem PySem.Spec PyProof.Rows L2
def rSortedLx (K : PySem.W.Frag) : List V → Hp → VK → Prop := fun vs H Q => ∃ (a : Addr) (xs : List V) (k : V → List Int), vs = [V.ref a] ∧ SqL K H a xs ∧ (∀ x ∈ xs, ∃ t, x = V.ref t ∧ SqT K H t ((k x).map V.int) ∧ k x ≠ []) ∧
  ∀ ys p, ys.Perm xs → ys.Pairwise (fun x y => HT.lexLt (k y) (k x) = false) → H p = none → Q (.ref p) (upd H p (.lst ys))
theorem cr_sortedLx {X : Cx} : CallR X (.builtin "sorted") (rSortedLx X.K) := by
  intro pins s σ H vs us Q I r h
  obtain ⟨a, xs, k, rfl, hs, hx, q⟩ := h
  obtain ⟨its, rv, hl, hz⟩ := I.list hs
  obtain ⟨u, rfl, ru⟩ := vals1 r
  obtain rfl : u = Value.ref a := ru
  obtain ⟨e1, e2⟩ := refs_back rv fun x m => by
    obtain ⟨t, e, _⟩ := hx x m
    exact ⟨t, e⟩
  have hp : ∀ v ∈ its, TS.TupInts s.heap v (k (backV v)) ∧ k (backV v) ≠ [] := fun v hv => by
    obtain ⟨t, rfl⟩ := e2 v hv
    have hm : backV (Value.ref t) ∈ xs := by rw [e1]; exact List.mem_map.mpr ⟨_, hv, rfl⟩
    obtain ⟨t', e, ht, hn⟩ := hx _ hm
    have e' : V.ref t = V.ref t' := e
    cases e'
    obtain ⟨its2, r2, ht2, hz2⟩ := I.tuple ht
    exact ⟨⟨t, its2.toArray, rfl, ht2, by simpa using RZ.intsAre_vals r2⟩, hn⟩
  refine SrtO.sorted_ord (ltv := fun v u => HT.lexLt (k (backV v)) (k (backV u))) (NtL.swo_lexL fun u => k (backV u)) hl.isList (by rw [← rv.length]; exact hz) (fun h2 h₁ a ha kk => ?_) fun out hs hb => ?_
  · refine tups_sortable (s := { s with heap := h₁ }) (k := fun u => k (backV u)) (by omega) (fun v hm => ⟨(hp v hm).1.keeps fun b o e _ => (kk b o e).2, (hp v hm).2⟩) fun o e => ?_
    have e' : some o = some (seqObj "list" its.toArray 0) := e.symm.trans ha
    cases e'
    intro c
    exact absurd (Value.type.inj c) (by decide)
  · have h3 : ∀ u ∈ out, ∃ a, u = Value.ref a := fun u hu => e2 u (hb.perm.mem_iff.mp hu)
    have hpm : (out.map backV).Perm xs := by
      rw [e1]
      exact hb.perm.map backV
    obtain ⟨n, hn⟩ := PyProof.Rows.sortedAll_at s.heap its out.toArray
    refine ⟨.ref (s.heap.objs.size + 1), upd H (s.heap.objs.size + 1) (.lst (out.map backV)), I.laid (t' := s.toks) (fun b o e => PyProof.Rows.sortedAll_old e) (Nat.le_succ _) ⟨?_, out, n, vals_back h3, hn⟩, rfl, q _ _ hpm (List.pairwise_map.mpr (hs.imp fun {x y} z => z)) (I.hok.fresh (Nat.le_succ _))⟩
    rw [hpm.length_eq]
    exact hz
end
section
open PySem L2 LamX
/-- lists of numbers, as they are ordered -/
def insLx (x : List Int) : List (List Int) → List (List Int)
  | [] => [x]
  | y :: ys => if HT.lexLt y x then y :: insLx x ys else x :: y :: ys
def sortLx : List (List Int) → List (List Int)
  | [] => []
  | x :: xs => insLx x (sortLx xs)
theorem insLx_perm (x : List Int) : ∀ ys, (insLx x ys).Perm (x :: ys)
  | [] => .refl _
  | y :: ys => by
    unfold insLx
    split
    · exact (List.Perm.cons y (insLx_perm x ys)).trans (List.Perm.swap x y ys)
    · exact .refl _
theorem sortLx_perm : ∀ xs, (sortLx xs).Perm xs
  | [] => .refl _
  | x :: xs => (insLx_perm x _).trans (List.Perm.cons x (sortLx_perm xs))
theorem lex_tri : ∀ x y : List Int, HT.lexLt x y = false → HT.lexLt y x = false → x = y
  | [], [], _, _ => rfl
  | [], y :: ys, h, _ => by cases h
  | x :: xs, [], _, h => by cases h
  | x :: xs, y :: ys, h1, h2 => by
    rw [HT.lexLt_cons] at h1 h2
    by_cases e : x = y
    · subst e
      rw [if_pos rfl] at h1 h2
      rw [lex_tri xs ys h1 h2]
    · rw [if_neg e] at h1
      rw [if_neg (fun z => e z.symm)] at h2
      have a := of_decide_eq_false h1
      have b := of_decide_eq_false h2
      omega
abbrev leLx (x y : List Int) : Prop := HT.lexLt y x = false
theorem insLx_sorted (x : List Int) : ∀ ys, ys.Pairwise leLx → (insLx x ys).Pairwise leLx
  | [], _ => by simp [insLx]
  | y :: ys, h => by
    obtain ⟨h1, h2⟩ := List.pairwise_cons.mp h
    unfold insLx
    split
    · rename_i q
      refine List.pairwise_cons.mpr ⟨fun z hz => ?_, insLx_sorted x ys h2⟩
      rcases List.mem_cons.mp ((insLx_perm x ys).mem_iff.mp hz) with rfl | hz
      · exact NtL.lex_asym _ _ q
      · exact h1 z hz
    · rename_i q
      have q : HT.lexLt y x = false := by simpa using q
      refine List.pairwise_cons.mpr ⟨fun z hz => ?_, h⟩
      rcases List.mem_cons.mp hz with rfl | hz
      · exact q
      · exact NtL.lex_tr x y z q (h1 z hz)
theorem sortLx_sorted : ∀ xs, (sortLx xs).Pairwise leLx
  | [] => .nil
  | x :: xs => insLx_sorted x _ (sortLx_sorted xs)
theorem sortLx_eq {ys xs : List (List Int)} (p : ys.Perm xs) (s : ys.Pairwise leLx) : ys = sortLx xs :=
  List.Perm.eq_of_pairwise (fun a b _ _ h1 h2 => lex_tri a b h2 h1) s (sortLx_sorted xs) (p.trans (sortLx_perm xs).symm)
def tupN (ns : List Int) : D := .tup (ns.map D.int)
def tups? : List D → Option (List (List Int))
  | [] => some []
  | .tup (x :: xs) :: r => match ints? (x :: xs), tups? r with
    | some ns, some ms => some (ns :: ms)
    | _, _ => none
  | _ :: _ => none
theorem tups?_is : ∀ {ds : List D} {nss : List (List Int)}, tups? ds = some nss → ds = nss.map tupN ∧ ∀ ns ∈ nss, ns ≠ []
  | [], nss, h => by
    obtain rfl := Option.some.inj h
    exact ⟨rfl, fun ns h => by cases h⟩
  | d :: r, nss, h => by
    cases d with
    | tup xs =>
      cases xs with
      | nil => cases h
      | cons x xs =>
        unfold tups? at h
        cases e1 : ints? (x :: xs) with
        | none => rw [e1] at h; cases h
        | some ns =>
          cases e2 : tups? r with
          | none => rw [e1, e2] at h; cases h
          | some ms =>
            rw [e1, e2] at h
            obtain rfl := Option.some.inj h
            have z := ints?_is e1
            obtain ⟨y1, y2⟩ := tups?_is e2
            refine ⟨by rw [List.map_cons, ← y1, tupN, ← z], fun ms' hm => ?_⟩
            rcases List.mem_cons.mp hm with rfl | hm
            · intro e
              subst e
              cases z
            · exact y2 ms' hm
    | _ => cases h
/-- the numbers of a tuple, read off the heap -/
noncomputable def kH (H : Hp) : V → List Int
  | .ref a => match H a with
    | some (.tup vs) => vs.map fun v => match v with
      | .int i => i
      | _ => 0
    | _ => []
  | _ => []
theorem kH_of {G : Gm} {Hs H : Hp} (l : Le Hs H) {ns : List Int} {v : V} (h : Is G Hs (tupN ns) v) : kH H v = ns ∧ ∃ t, v = .ref t ∧ H t = some (.tup (ns.map V.int)) := by
  obtain ⟨a, vs, rfl, e, m⟩ := h
  have := IsL.ints m
  subst this
  have e' := l.tp e
  refine ⟨?_, a, rfl, e'⟩
  unfold kH
  simp only [e']
  rw [List.map_map]
  exact (List.map_congr_left fun _ _ => rfl).trans (List.map_id ns)
theorem kH_all {G : Gm} {Hs H : Hp} (l : Le Hs H) : ∀ {nss : List (List Int)} {vs : List V}, IsL G Hs (nss.map tupN) vs → vs.map (kH H) = nss ∧ ∀ v ∈ vs, Is G Hs (tupN (kH H v)) v ∧ ∃ t, v = .ref t ∧ H t = some (.tup ((kH H v).map V.int))
  | [], vs, h => by
    obtain rfl : vs = [] := h
    exact ⟨rfl, fun v h => by cases h⟩
  | ns :: nss, vs, h => by
    obtain ⟨v, r, rfl, i, m⟩ := h
    obtain ⟨k1, t, e1, e2⟩ := kH_of l i
    obtain ⟨k2, k3⟩ := kH_all l m
    refine ⟨by rw [List.map_cons, k1, k2], fun u hu => ?_⟩
    rcases List.mem_cons.mp hu with rfl | hu
    · rw [k1]
      exact ⟨i, t, e1, e2⟩
    · exact k3 u hu
theorem isL_of {G : Gm} {Hs : Hp} {k : V → List Int} : ∀ {vs : List V}, (∀ v ∈ vs, Is G Hs (tupN (k v)) v) → IsL G Hs ((vs.map k).map tupN) vs
  | [], _ => rfl
  | v :: vs, h => ⟨v, vs, rfl, h v (by simp), isL_of fun u hu => h u (by simp [hu])⟩
def oSortT : List D → Option D
  | [.lst xs] => (tups? xs).map fun nss => .lst ((sortLx nss).map tupN)
  | _ => none
def oSort2 (ds : List D) : Option D := match ds with
  | [.lst (.tup _ :: _)] => oSortT ds
  | _ => oSort ds
theorem of_sortT {K : PySem.W.Frag} {mg : Str → Option Value} : OpCF ⟨K, mg⟩ (rSortedLx K) oSortT := fun {Hs H ds d vs Q} l m e q => by
  unfold oSortT at e
  split at e
  · rename_i xs
    cases e1 : tups? xs with
    | none => rw [e1] at e; cases e
    | some nss =>
      rw [e1] at e
      obtain rfl := Option.some.inj e
      obtain ⟨v, rfl, i⟩ := isL1 m
      obtain ⟨p, ws, rfl, s, m2⟩ := i
      obtain ⟨z, zn⟩ := tups?_is e1
      subst z
      obtain ⟨k1, k2⟩ := kH_all l m2
      refine ⟨p, ws, kH H, rfl, l.lq s, fun x hx => ?_, fun ys a p1 p2 n => ?_⟩
      · obtain ⟨_, t, e2, e3⟩ := k2 x hx
        refine ⟨t, e2, .inl (.inl e3), ?_⟩
        refine zn _ ?_
        rw [← k1]
        exact List.mem_map.mpr ⟨x, hx, rfl⟩
      · have pm : (ys.map (kH H)).Perm nss := by
          rw [← k1]
          exact p1.map _
        have es := sortLx_eq pm (List.pairwise_map.mpr p2)
        refine q a _ n fun Hs' l' => ?_
        show OIs _ Hs' _ (D.lst (List.map tupN (sortLx nss))) a
        rw [← es]
        exact ⟨ys, upd_same, isL_of fun v hv => Is.mono l' _ _ (k2 v (p1.mem_iff.mp hv)).1⟩
  · cases e
theorem of_sort2 {K : PySem.W.Frag} {mg : Str → Option Value} : OpCF ⟨K, mg⟩ (fun xs H Q => rSortedLx K xs H Q ∨ (rSortedI K xs H Q ∨ rSortedDK xs H Q)) oSort2 := fun {Hs H ds d vs Q} l m e q => by
  unfold oSort2 at e
  split at e
  · exact .inl (of_sortT l m e q)
  · exact .inr (of_sort l m e q)
section
variable {X : Cx} {T : Tb} {W : WX} {k : Nat} {a : Expr} {f : Env' → Ro D} {p pos : Pos}
theorem sf_sorted2 (hcalm : X.calm = true) (hg : Gl X "sorted") (hm : X.mg "sorted" = none) (ha : SE X T W a f) (h0 : starEach [a] X.env = (false, eval a X.env) :: starEach [] X.env := by rfl) : SF X T W (.Call (.Name "sorted" p) [a] [] pos) (eCall oSort2 (aCons f aNil)) :=
  sf_callB (CallR.or cr_sortedLx (CallR.or cr_sortedI (cr_sortedDK hcalm))) of_sort2 hg hm (by decide +kernel) (sa_cons ha sa_nil h0) (by decide) (by decide) h0 (by rfl)
end
end
end Rf

/-! ## sorted of any alike data (nested tuples too) -/
namespace Rf
section
open PySem PySem.Spec PyProof.Rows L2
open PySem.W (EachIs)
theorem each_rel {R : V → D → Prop} : ∀ {xs : List V} {us : List Value} {ds : List D}, Vals xs us → EachIs R xs ds → EachIs (fun u d => ∃ x, RelV x u ∧ R x d) us ds
  | _, _, _, .nil, .nil => .nil
  | _, _, _, .cons r1 r2, .cons e1 e2 => .cons ⟨_, r1, e1⟩ (each_rel r2 e2)
theorem each_split {R : V → D → Prop} : ∀ {us : List Value} {ds : List D}, EachIs (fun u d => ∃ x, RelV x u ∧ R x d) us ds → ∃ xs, Vals xs us ∧ EachIs R xs ds
  | _, _, .nil => ⟨[], .nil, .nil⟩
  | _, _, .cons ⟨x, r, e⟩ t => by
    obtain ⟨xs, h1, h2⟩ := each_split t
    exact ⟨x :: xs, .cons r h1, .cons e h2⟩
def rSortedG (K : PySem.W.Frag) : List V → Hp → VK → Prop := fun vs H Q => ∃ (a : Addr) (xs : List V) (ds : List D) (R : V → D → Prop), vs = [V.ref a] ∧ SqL K H a xs ∧ EachIs R xs ds ∧ (∀ x d, R x d → Dp K H x (toPy d)) ∧
  PySem.W.AllAlike (ds.map toPy) ∧ PySem.W.Sortable (ds.map toPy) ∧ (∀ d ∈ ds, (toPy d).depth ≤ 60) ∧ ∀ ys p, EachIs R ys (ds.mergeSort (PySem.W.dataLe false toPy)) → H p = none → Q (.ref p) (upd H p (.lst ys))
theorem cr_sortedG {X : Cx} (hu : X.A.units + 100 < cLine) : CallR X (.builtin "sorted") (rSortedG X.K) := by
  intro pins s σ H vs us Q I r h
  obtain ⟨a, xs, ds, R, rfl, hs, e, hd, hal, hk, hdep, q⟩ := h
  obtain ⟨its, rv, hl, hz⟩ := I.list hs
  obtain ⟨u, rfl, ru⟩ := vals1 r
  obtain rfl : u = Value.ref a := ru
  have e' := each_rel rv e
  have er : EachIs (fun v d => ∃ as, Reads s.heap v (toPy d) as) its ds := e'.mono fun v d ⟨x, r, k⟩ => Dp.reads I (toPy d) x v (hd x d k) r
  refine PySem.W.sorted_data (enc := toPy) hl.isList e' er hal hk (by rw [← e.length]; exact hz) (fun d hm => by have := hdep d hm; omega) fun out hlen eo => ?_
  obtain ⟨ys, vy, ry⟩ := each_split eo
  obtain ⟨n, hn⟩ := PyProof.Rows.sortedAll_at s.heap its out.toArray
  refine ⟨.ref (s.heap.objs.size + 1), upd H (s.heap.objs.size + 1) (.lst ys), I.laid (t' := s.toks) (fun b o e => PyProof.Rows.sortedAll_old e) (Nat.le_succ _) ⟨?_, out, n, vy, hn⟩, rfl, q _ _ ry (I.hok.fresh (Nat.le_succ _))⟩
  rw [ry.length, List.length_mergeSort, ← e.length]
  exact hz
end
section
open PySem L2 LamX
open PySem.W (EachIs TotalLe sameRank)
def leD (a b : D) : Bool := PySem.W.dataLe false toPy a b
theorem leD_total : TotalLe leD := PySem.W.sortLe_total _ false _
def insG (x : D) : List D → List D
  | [] => [x]
  | y :: ys => if leD x y then x :: y :: ys else y :: insG x ys
def sortG : List D → List D
  | [] => []
  | x :: xs => insG x (sortG xs)
theorem insG_mem (x z : D) : ∀ ys, z ∈ insG x ys ↔ z = x ∨ z ∈ ys
  | [] => by simp [insG]
  | y :: ys => by
    unfold insG
    split
    · simp
    · simp only [List.mem_cons, insG_mem x z ys]
      constructor
      · rintro (h | h | h)
        · exact .inr (.inl h)
        · exact .inl h
        · exact .inr (.inr h)
      · rintro (h | h | h)
        · exact .inr (.inl h)
        · exact .inl h
        · exact .inr (.inr h)
theorem insG_sorted (x : D) : ∀ ys, ys.Pairwise (fun a b => leD a b = true) → (insG x ys).Pairwise (fun a b => leD a b = true)
  | [], _ => by simp [insG]
  | y :: ys, h => by
    obtain ⟨h1, h2⟩ := List.pairwise_cons.mp h
    unfold insG
    split
    · rename_i q
      refine List.pairwise_cons.mpr ⟨fun z hz => ?_, h⟩
      rcases List.mem_cons.mp hz with rfl | hz
      · exact q
      · exact leD_total.trans _ _ _ q (h1 z hz)
    · rename_i q
      refine List.pairwise_cons.mpr ⟨fun z hz => ?_, insG_sorted x ys h2⟩
      rcases (insG_mem x z ys).mp hz with rfl | hz
      · exact (leD_total.total _ _).elim (fun a => absurd a q) id
      · exact h1 z hz
theorem insG_stable (c x : D) : ∀ ys, (insG x ys).filter (sameRank leD c) = (x :: ys).filter (sameRank leD c)
  | [] => rfl
  | y :: ys => by
    unfold insG
    split
    · rfl
    · rename_i q
      rw [List.filter_cons, insG_stable c x ys, List.filter_cons, List.filter_cons, List.filter_cons]
      cases hx : sameRank leD c x <;> cases hy : sameRank leD c y <;> simp
      exfalso
      apply q
      unfold sameRank at hx hy
      obtain ⟨a1, a2⟩ := Bool.and_eq_true_iff.mp hx
      obtain ⟨b1, b2⟩ := Bool.and_eq_true_iff.mp hy
      exact leD_total.trans _ _ _ a2 b1
theorem sortG_eq (xs : List D) : sortG xs = xs.mergeSort (PySem.W.dataLe false toPy) := by
  refine PySem.W.sort_unique (le := leD) leD_total ?_ fun c => ?_
  · induction xs with
    | nil => exact .nil
    | cons x xs ih => exact insG_sorted x _ ih
  · induction xs with
    | nil => rfl
    | cons x xs ih => rw [sortG, insG_stable, List.filter_cons, List.filter_cons, ih]
def tupNE : D → Bool
  | .tup (_ :: _) => true
  | _ => false
def okSrt (xs : List D) : Bool := xs.all (okD 60) && (xs.all tupNE && xs.all fun d => xs.all fun e => PySem.W.alike (toPy d) (toPy e))
def oSortG : List D → Option D
  | [.lst xs] => if okSrt xs then some (.lst (sortG xs)) else none
  | _ => none
theorem each_isL {G : Gm} {Hs : Hp} : ∀ {ds : List D} {vs : List V}, IsL G Hs ds vs → EachIs (fun x d => Is G Hs d x ∧ d ∈ ds) vs ds
  | [], vs, h => by
    obtain rfl : vs = [] := h
    exact .nil
  | d :: ds, vs, h => by
    obtain ⟨v, r, rfl, i, m⟩ := h
    exact .cons ⟨i, by simp⟩ ((each_isL m).mono fun x d ⟨a, b⟩ => ⟨a, by simp [b]⟩)
theorem isL_each {G : Gm} {Hs : Hp} {P : D → Prop} : ∀ {ds : List D} {vs : List V}, EachIs (fun x d => Is G Hs d x ∧ P d) vs ds → IsL G Hs ds vs
  | _, _, .nil => rfl
  | _, _, .cons e t => ⟨_, _, rfl, e.1, isL_each t⟩
theorem of_sortG {K : PySem.W.Frag} {mg : Str → Option Value} : OpCF ⟨K, mg⟩ (rSortedG K) oSortG := fun {Hs H ds d vs Q} l m e q => by
  unfold oSortG at e
  split at e
  · rename_i xs
    split at e
    · rename_i ok
      obtain rfl := Option.some.inj e
      obtain ⟨v, rfl, i⟩ := isL1 m
      obtain ⟨p, ws, rfl, s, m2⟩ := i
      unfold okSrt at ok
      obtain ⟨o1, o2⟩ := Bool.and_eq_true_iff.mp ok
      obtain ⟨o2, o3⟩ := Bool.and_eq_true_iff.mp o2
      have o1 := List.all_eq_true.mp o1
      have o2 := List.all_eq_true.mp o2
      have o3 := List.all_eq_true.mp o3
      refine ⟨p, ws, xs, fun x d => Is ⟨K, mg⟩ Hs d x ∧ d ∈ xs, rfl, l.lq s, each_isL m2, fun x d ⟨h, hm⟩ => is_dp 60 d x (o1 d hm) (Is.mono l _ _ h), fun a ha b hb => ?_, .inl fun a ha => ?_, fun d hd => (ok_lay 60 d (o1 d hd)).2, fun ys a p1 n => ?_⟩
      · obtain ⟨a', ha', rfl⟩ := List.mem_map.mp ha
        obtain ⟨b', hb', rfl⟩ := List.mem_map.mp hb
        exact List.all_eq_true.mp (o3 a' ha') b' hb'
      · obtain ⟨a', ha', rfl⟩ := List.mem_map.mp ha
        have := o2 a' ha'
        unfold tupNE at this
        split at this
        · exact ⟨_, _, rfl⟩
        · cases this
      · refine q a _ n fun Hs' l' => ?_
        show OIs _ Hs' _ (D.lst (sortG xs)) a
        rw [sortG_eq]
        exact ⟨ys, upd_same, IsL.mono l' _ _ (isL_each p1)⟩
    · cases e
  · cases e
/-- flat tuples of numbers as before, any other alike tuples by their data -/
def oSort3 (ds : List D) : Option D := match oSort2 ds with
  | some d => some d
  | none => oSortG ds
theorem of_sort3 {K : PySem.W.Frag} {mg : Str → Option Value} : OpCF ⟨K, mg⟩ (fun xs H Q => (rSortedLx K xs H Q ∨ (rSortedI K xs H Q ∨ rSortedDK xs H Q)) ∨ rSortedG K xs H Q) oSort3 := fun {Hs H ds d vs Q} l m e q => by
  unfold oSort3 at e
  split at e
  · rename_i d' e2
    obtain rfl := Option.some.inj e
    exact .inl (of_sort2 l m e2 q)
  · exact .inr (of_sortG l m e q)
section
variable {X : Cx} {T : Tb} {W : WX} {k : Nat} {a : Expr} {f : Env' → Ro D} {p pos : Pos}
theorem sf_sorted3 (hu : X.A.units + 100 < cLine) (hcalm : X.calm = true) (hg : Gl X "sorted") (hm : X.mg "sorted" = none) (ha : SE X T W a f) (h0 : starEach [a] X.env = (false, eval a X.env) :: starEach [] X.env := by rfl) : SF X T W (.Call (.Name "sorted" p) [a] [] pos) (eCall oSort3 (aCons f aNil)) :=
  sf_callB (CallR.or (CallR.or cr_sortedLx (CallR.or cr_sortedI (cr_sortedDK hcalm))) (cr_sortedG hu)) of_sort3 hg hm (by decide +kernel) (sa_cons ha sa_nil h0) (by decide) (by decide) h0 (by rfl)
end
end
end Rf

/-! ## min of a list of alike tuples (nested, too) -/
namespace Rf
section
open PySem PySem.Spec PyProof.Rows L2
open PySem.W (EachIs)
open PySem.W
theorem each_at {α β : Type} {R : α → β → Prop} : ∀ {as : List α} {bs : List β}, EachIs R as bs → ∀ {i : Nat} {a : α}, as[i]? = some a → ∃ b, b ∈ bs ∧ R a b
  | _, _, .nil, i, a, h => by simp at h
  | _, _, .cons e t, 0, a, h => by
    have h := Option.some.inj h
    subst h
    exact ⟨_, by simp, e⟩
  | _, _, .cons e t, i + 1, a, h => by
    obtain ⟨b, h1, h2⟩ := each_at t (i := i) (a := a) (by simpa using h)
    exact ⟨b, by simp [h1], h2⟩
theorem minD_mem (x : PyData) : ∀ xs : List PyData, minD x xs ∈ x :: xs := by
  intro xs
  unfold minD
  induction xs generalizing x with
  | nil => simp
  | cons y ys ih =>
    rw [List.foldl_cons]
    split
    · have := ih y
      simp only [List.mem_cons] at this ⊢
      exact .inr this
    · have := ih x
      simp only [List.mem_cons] at this ⊢
      rcases this with h | h
      · exact .inl h
      · exact .inr (.inr h)
theorem each_dp {K : PySem.W.Frag} {H : Hp} {R : V → D → Prop} (hd : ∀ x d, R x d → Dp K H x (toPy d)) : ∀ {xs : List V} {ds : List D}, EachIs R xs ds → DpAll K H xs (ds.map toPy)
  | _, _, .nil => .nil
  | _, _, .cons e t => .cons (hd _ _ e) (each_dp hd t)
def rMinG (K : PySem.W.Frag) : List V → Hp → VK → Prop := fun vs H Q => ∃ (a : Addr) (xs : List V) (d0 : D) (ds : List D) (R : V → D → Prop), vs = [V.ref a] ∧ SqL K H a xs ∧ EachIs R xs (d0 :: ds) ∧ (∀ x d, R x d → Dp K H x (toPy d)) ∧
  AlikeAll ((d0 :: ds).map toPy) ∧ PyData.depthAll ((d0 :: ds).map toPy) ≤ 60 ∧ ∀ x d, d ∈ d0 :: ds → R x d → toPy d = minD (toPy d0) (ds.map toPy) → Q x H
theorem cr_minG {X : Cx} (hu : X.A.units + 100 < cLine) (hc : X.calm = true) : CallR X (.builtin "min") (rMinG X.K) := by
  intro pins s σ H vs us Q I r h
  obtain ⟨a, xs, d0, ds, R, rfl, hs, e, hd, hal, hdep, q⟩ := h
  obtain ⟨its, rv, hl, hz⟩ := I.list hs
  obtain ⟨u, rfl, ru⟩ := vals1 r
  obtain rfl : u = Value.ref a := ru
  obtain ⟨as, rd⟩ := Dp.readsAll I _ _ _ (each_dp hd e) rv
  have e' := each_rel rv e
  rw [List.map_cons] at rd hal hdep
  refine min_list_data (I.ok.hd hc) hl.isList (by simpa using rd) hal (by omega) fun i v h' tk bs hv rm keep => ?_
  obtain ⟨d, hm, x, rx, rR⟩ := each_at e' (i := i) (a := v) (by simpa using hv)
  have I1 : Inv X pins σ H { s with heap := h', toks := tk } := I.kept keep
  obtain ⟨as2, r2⟩ := Dp.reads I (toPy d) x v (hd x d rR) rx
  have r3 := PyProof.Rows.Reads.keeps keep r2
  have hm2 : toPy d ∈ toPy d0 :: ds.map toPy := by
    have := List.mem_map_of_mem (f := toPy) hm
    rwa [List.map_cons] at this
  have eq := PySem.W.alike_unique (toPy d) (minD (toPy d0) (ds.map toPy)) v as2 bs (hal.1 _ hm2 _ (minD_mem _ _)) r3 rm
  exact ⟨x, H, I1, rx, q x d hm rR eq⟩
end
section
open PySem L2 LamX
open PySem.W (EachIs)
open PySem.W
mutual
theorem toPy_inj : ∀ (d e : D) (n m : Nat), okD n d = true → okD m e = true → toPy d = toPy e → d = e
  | .non, e, n, m, _, h, q => by cases e <;> first | rfl | (cases q; done) | (cases h; done)
  | .bl b, e, n, m, _, h, q => by cases e <;> first | (cases q; rfl; done) | (cases q; done) | (cases h; done)
  | .int i, e, n, m, _, h, q => by cases e <;> first | (cases q; rfl; done) | (cases q; done) | (cases h; done)
  | .str x, e, n, m, _, h, q => by cases e <;> first | (cases q; rfl; done) | (cases q; done) | (cases h; done)
  | .tup xs, e, n, m, k, h, q => by
    cases n with
    | zero => cases k
    | succ n =>
      cases e with
      | tup ys =>
        cases m with
        | zero => cases h
        | succ m =>
          have q : PyData.tuple (toPyL xs) = PyData.tuple (toPyL ys) := q
          rw [toPyL_inj xs ys n m k h (PyData.tuple.inj q)]
      | _ => first | (cases q; done) | (cases h; done)
  | .lst xs, e, n, m, k, h, q => by
    cases n with
    | zero => cases k
    | succ n =>
      cases e with
      | lst ys =>
        cases m with
        | zero => cases h
        | succ m =>
          have q : PyData.list (toPyL xs) = PyData.list (toPyL ys) := q
          rw [toPyL_inj xs ys n m k h (PyData.list.inj q)]
      | _ => first | (cases q; done) | (cases h; done)
  | .dK _ _, e, n, m, k, h, q => by cases k
  | .dT _ _, e, n, m, k, h, q => by cases k
  | .fn _, e, n, m, k, h, q => by cases k
  | .scr _, e, n, m, k, h, q => by cases k
  | .ctup _, e, n, m, k, h, q => by cases k
theorem toPyL_inj : ∀ (xs ys : List D) (n m : Nat), okL n xs = true → okL m ys = true → toPyL xs = toPyL ys → xs = ys
  | [], [], _, _, _, _, _ => rfl
  | [], y :: ys, _, _, _, _, q => by cases q
  | x :: xs, [], _, _, _, _, q => by cases q
  | x :: xs, y :: ys, n, m, k, h, q => by
    obtain ⟨k1, k2⟩ := Bool.and_eq_true_iff.mp (show (okD n x && okL n xs) = true from k)
    obtain ⟨h1, h2⟩ := Bool.and_eq_true_iff.mp (show (okD m y && okL m ys) = true from h)
    have q : toPy x :: toPyL xs = toPy y :: toPyL ys := q
    obtain ⟨q1, q2⟩ := List.cons.inj q
    rw [toPy_inj x y n m k1 h1 q1, toPyL_inj xs ys n m k2 h2 q2]
end
def ltD (a b : D) : Bool := dataLt (toPy a) (toPy b)
def minG (d : D) (ds : List D) : D := ds.foldl (fun a y => if ltD y a then y else a) d
theorem minG_py (d : D) : ∀ ds : List D, toPy (minG d ds) = minD (toPy d) (ds.map toPy) := by
  intro ds
  unfold minG minD
  induction ds generalizing d with
  | nil => rfl
  | cons y ys ih =>
    rw [List.foldl_cons, List.map_cons, List.foldl_cons]
    unfold ltD
    split
    · exact ih y
    · exact ih d
theorem minG_mem (d : D) : ∀ ds : List D, minG d ds ∈ d :: ds := by
  intro ds
  unfold minG
  induction ds generalizing d with
  | nil => simp
  | cons y ys ih =>
    rw [List.foldl_cons]
    split
    · have := ih y
      simp only [List.mem_cons] at this ⊢
      exact .inr this
    · have := ih d
      simp only [List.mem_cons] at this ⊢
      rcases this with h | h
      · exact .inl h
      · exact .inr (.inr h)
theorem dep_all : ∀ (ds : List D), (∀ d ∈ ds, okD 59 d = true) → PyData.depthAll (ds.map toPy) ≤ 60
  | ds, h => by
    have : okL 59 ds = true := by
      induction ds with
      | nil => rfl
      | cons d ds ih =>
        show (okD 59 d && okL 59 ds) = true
        rw [h d (by simp), ih fun e he => h e (by simp [he])]
        rfl
    have e : ∀ ds : List D, toPyL ds = ds.map toPy := fun ds => by
      induction ds with
      | nil => rfl
      | cons d ds ih => exact congrArg (toPy d :: ·) ih
    have := (okL_lay 59 ds this).2
    rw [e] at this
    omega
def oMinG : List D → Option D
  | [.lst (d :: ds)] => if (d :: ds).all (okD 59) && ((d :: ds).all tupNE && (d :: ds).all fun x => (d :: ds).all fun e => alike (toPy x) (toPy e)) then some (minG d ds) else none
  | _ => none
theorem oc_minG {K : PySem.W.Frag} {mg : Str → Option Value} : OpC ⟨K, mg⟩ (rMinG K) oMinG := fun {Hs H ds d vs Q} l m e j => by
  unfold oMinG at e
  split at e
  · rename_i d0 xs
    split at e
    · rename_i ok
      obtain rfl := Option.some.inj e
      obtain ⟨v, rfl, i⟩ := isL1 m
      obtain ⟨p, ws, rfl, s, m2⟩ := i
      obtain ⟨o1, o2⟩ := Bool.and_eq_true_iff.mp ok
      obtain ⟨o2, o3⟩ := Bool.and_eq_true_iff.mp o2
      have o1 := List.all_eq_true.mp o1
      have o2 := List.all_eq_true.mp o2
      have o3 := List.all_eq_true.mp o3
      refine ⟨p, ws, d0, xs, fun x d => Is ⟨K, mg⟩ Hs d x ∧ d ∈ d0 :: xs, rfl, l.lq s, each_isL m2, fun x d ⟨h, hm⟩ => is_dp 59 d x (o1 d hm) (Is.mono l _ _ h), ⟨fun a ha b hb => ?_, fun a ha => ?_⟩, dep_all _ o1, fun x d hm ⟨hx, _⟩ q => ?_⟩
      · obtain ⟨a', ha', rfl⟩ := List.mem_map.mp ha
        obtain ⟨b', hb', rfl⟩ := List.mem_map.mp hb
        exact List.all_eq_true.mp (o3 a' ha') b' hb'
      · obtain ⟨a', ha', rfl⟩ := List.mem_map.mp ha
        have := o2 a' ha'
        unfold tupNE at this
        split at this
        · exact fun z => by cases z
        · cases this
      · rw [← minG_py] at q
        have := toPy_inj d (minG d0 xs) 59 59 (o1 d hm) (o1 _ (minG_mem d0 xs)) q
        subst this
        exact j x H (New.refl H) fun Hs' l' _ => Is.mono l' _ _ hx
    · cases e
  · cases e
/-- numbers as before, alike tuples by their data -/
def oMin3 (ds : List D) : Option D := match oMx minL ds with
  | some d => some d
  | none => oMinG ds
variable {X : Cx} {T : Tb} {W : WX} {k : Nat} {a : Expr} {f : Env' → Ro D} {p pos : Pos}
theorem se_min3 (hu : X.A.units + 100 < cLine) (hc : X.calm = true) (hg : Gl X "min") (hm : X.mg "min" = none) (ha : SE X T W a f) (h0 : starEach [a] X.env = (false, eval a X.env) :: starEach [] X.env := by rfl) : SE X T W (.Call (.Name "min" p) [a] [] pos) (eCall oMin3 (aCons f aNil)) :=
  se_callB (CallR.or (cr_min hc) (cr_minG hu hc)) (fun {Hs H ds d vs Q} l m e j => by
    unfold oMin3 at e
    split at e
    · rename_i d' e2
      obtain rfl := Option.some.inj e
      exact .inl (oc_min l m e2 j)
    · exact .inr (oc_minG l m e j)) hg hm (by decide +kernel) (sa_cons ha sa_nil h0) (by decide) (by decide) h0 (by rfl)
end
end Rf

namespace Rf
open PySem L2 LamX
/-! ## zip of two, lists and tuples in any mix -/
def SqK (b : Bool) (K : PySem.W.Frag) (H : Hp) (a : Addr) (xs : List V) : Prop := match b with
  | true => SqT K H a xs
  | false => SqL K H a xs
def isIt (b : Bool) (h : Heap) (i l : Addr) (k : Nat) : Prop := match b with
  | true => h.IsTupleIter i l k
  | false => h.IsListIter i l k
def isSq (b : Bool) (h : Heap) (l : Addr) (its : Array Value) : Prop := match b with
  | true => h.IsTuple l its
  | false => h.IsList l its
def itO (b : Bool) (l : Addr) : Obj := match b with
  | true => { cls := .type "tuple_iterator", data := .fields #[.ref l, .int 0 0] }
  | false => { cls := .type "list_iterator", data := .fields #[.ref l, .int 0 0] }
theorem draws_K (b : Bool) {prog : Program} {w : World} {A : Around} (hh : A.handled = none) (it l : Addr) (hne : l ≠ it) (its : Array Value) : Draws prog w A it [it, l] its.size (fun i v => its[i]? = some v) (fun i h => isIt b h it l i ∧ isSq b h l its) := by
  cases b
  · exact Draws.list hh it l hne its
  · exact Draws.tuple hh it l hne its
theorem begins_K (b : Bool) (l : Addr) (its : Array Value) : Begins (.ref l) (itO b l) fun h => isSq b h l its := by
  cases b
  · exact begins_list l its
  · exact begins_tuple l its
theorem isIt_obj {b : Bool} {h : Heap} {i l : Addr} {k : Nat} (q : isIt b h i l k) : ∃ o vs, h.get? i = some o ∧ o.data = .fields vs := by
  cases b
  · obtain ⟨o, e, _, d⟩ := q; exact ⟨o, _, e, d⟩
  · obtain ⟨o, e, _, d⟩ := q; exact ⟨o, _, e, d⟩
theorem isIt_at {b : Bool} {h h' : Heap} {i l : Addr} {k : Nat} (q : isIt b h i l k) (kk : ∀ o, h.get? i = some o → h'.get? i = some o) : isIt b h' i l k := by
  cases b
  · exact Heap.IsListIter.at q kk
  · exact Heap.IsTupleIter.at q kk
theorem isIt_new {b : Bool} {h : Heap} {i l : Addr} (e : h.get? i = some (itO b l)) : isIt b h i l 0 := by
  cases b
  · exact ⟨_, e, rfl, rfl⟩
  · exact ⟨_, e, rfl, rfl⟩
theorem Inv_sqK {b : Bool} {X : Cx} {pins σ H s} {a : Addr} {xs : List V} (I : Inv X pins σ H s) (h : SqK b X.K H a xs) : ∃ its : List Value, Vals xs its ∧ isSq b s.heap a its.toArray ∧ a < s.heap.objs.size := by
  cases b
  · obtain ⟨its, r, p, _⟩ := I.list h
    exact ⟨its, r, p.isList, p.lt⟩
  · obtain ⟨its, r, p, _⟩ := I.tuple h
    obtain ⟨o, ho, _⟩ := id p
    exact ⟨its, r, p, Heap.lt_size ho⟩
theorem Inv_sqK_inj {b : Bool} {X : Cx} {pins σ H s} {a : Addr} {xs ys : List V} (I : Inv X pins σ H s) (h : SqK b X.K H a xs) (h' : SqK b X.K H a ys) : xs = ys := by
  cases b
  · exact I.list_inj h h'
  · exact I.tuple_inj h h'
/-- two parts, each a list or a tuple, as they stand at each turn; the items in new pairs -/
def ItzM (K : PySem.W.Frag) (b1 b2 : Bool) (a b : Addr) : It :=
  ⟨fun i H => ∃ (xs ys : List V) (x y : V), SqK b1 K H a xs ∧ SqK b2 K H b ys ∧ xs[i]? = some x ∧ ys[i]? = some y,
    fun i H v H' => ∃ T x y, v = .ref T ∧ H T = none ∧ H' = upd H T (.tup [x, y]) ∧ (∀ xs, SqK b1 K H a xs → xs[i]? = some x) ∧ ∀ ys, SqK b2 K H b ys → ys[i]? = some y,
    fun i H => ∃ xs ys : List V, SqK b1 K H a xs ∧ SqK b2 K H b ys ∧ i ≤ xs.length ∧ i ≤ ys.length ∧ (i = xs.length ∨ i = ys.length)⟩
theorem turn_zipM {P : Program} {w : World} {K : PySem.W.Frag} {elts : List Expr} {kk : Nat} {tpos : Pos} {b1 b2 : Bool} {a b z TI TO i1 i2 : Addr} (D : ZipSep2 z TI TO i1 i2 [i1, a] [i2, b]) (na1 : a ≠ i1) (na2 : b ≠ i2) :
    Turn P w K (.Tuple elts kk tpos) (ItzM K b1 b2 a b) [z, TI, TO, i1, i2] z (fun i h => IsZip h z TI TO .none ∧ IsTupOf2 h TI (.ref i1) (.ref i2) ∧ (∃ x y, IsTupOf2 h TO x y) ∧ isIt b1 h i1 a i ∧ isIt b2 h i2 b i) where
  mem := by simp
  obj := fun i h st c hc => by
    obtain ⟨hz, hTI, ⟨x, y, hTO⟩, t1, t2⟩ := st
    obtain ⟨o1, v1, e1, d1⟩ := isIt_obj t1
    obtain ⟨o2, v2, e2, d2⟩ := isIt_obj t2
    have e' : c = z ∨ c = TI ∨ c = TO ∨ c = i1 ∨ c = i2 := by simpa using hc
    rcases e' with q | q | q | q | q <;> subst q
    · exact ⟨_, hz, fun v q => nomatch q⟩
    · exact ⟨_, hTI, fun v q => nomatch q⟩
    · exact ⟨_, hTO, fun v q => nomatch q⟩
    · exact ⟨o1, e1, fun v q => by rw [d1] at q; cases q⟩
    · exact ⟨o2, e2, fun v q => by rw [d2] at q; cases q⟩
  keep := fun i h h' st k => by
    obtain ⟨hz, hTI, ⟨x, y, hTO⟩, h1, h2⟩ := st
    exact ⟨k z (by simp) _ hz, k TI (by simp) _ hTI, ⟨x, y, k TO (by simp) _ hTO⟩, isIt_at h1 (fun o q => k i1 (by simp) o q), isIt_at h2 (fun o q => k i2 (by simp) o q)⟩
  item := by
    intro X hP hw hK hc i pins s σ H E I hf st hg
    subst hP hw hK
    obtain ⟨hz, hTI, ⟨x0, y0, hTO⟩, h1, h2⟩ := st
    obtain ⟨xs, ys, x, y, hqx, hqy, hx, hy⟩ := hg
    obtain ⟨its, rv, p, _⟩ := Inv_sqK I hqx
    obtain ⟨its2, rv2, p2, _⟩ := Inv_sqK I hqy
    obtain ⟨u, hu, ru⟩ := rv.get hx
    obtain ⟨u2, hu2, ru2⟩ := rv2.get hy
    have hzl : z < s.heap.objs.size := Heap.lt_size hz
    have A1 : X.A.in1.handled = none := I.ok.hd hc
    refine wpAny_pyNext_zipD2_item D (draws_K b1 A1 i1 a na1 its.toArray) (draws_K b2 A1 i2 b na2 its2.toArray) hz hTI hTO ⟨h1, p⟩ ⟨h2, p2⟩ (by simpa using (List.getElem?_eq_some_iff.mp hu).1) (by simpa using (List.getElem?_eq_some_iff.mp hu2).1) fun v1 v2 h' tk g1 g2 hz' hTO' st1 st2 hT hsz hk => ?_
    have e1 : v1 = u := by rw [show its.toArray[i]? = some u by simpa using hu] at g1; exact (Option.some.inj g1).symm
    have e2 : v2 = u2 := by rw [show its2.toArray[i]? = some u2 by simpa using hu2] at g2; exact (Option.some.inj g2).symm
    subst e1
    subst e2
    refine ⟨_, rfl, wpAny_letOwnedTupleGo_zip (s := { s with heap := h', toks := tk }) hz' fun h'' z'' sb => ?_⟩
    have hT2 : h''.get? s.heap.objs.size = some { cls := .type "tuple", data := .seq #[v1, v2] } := (sb.2 _ (Nat.ne_of_gt hzl)).trans hT
    have new : ObjOk X.prog X.w (upd H s.heap.objs.size (.tup [x, y])) h'' s.heap.objs.size (.tup [x, y]) :=
      ⟨by show 2 ≤ sizeLine; decide, [v1, v2], .cons ru (.cons ru2 .nil), ⟨_, hT2, rfl, _, rfl⟩⟩
    have I1 : Inv X pins σ (upd H s.heap.objs.size (.tup [x, y])) { s with heap := h'', toks := tk } :=
      I.turnedNew (t' := tk) (ch := [z, TI, TO, i1, i2]) (fun c o hb q => (sb.2 c (fun q' => hb (by simp [q']))).trans (hk c o (fun q' => hb (by simp [q'])) (fun q' => hb (by simp [q'])) (fun q' => hb (by simp [q'])) (fun q' => hb (by simp [q'])) q)) hf (Nat.le_refl _) new
    refine ⟨.ref s.heap.objs.size, _, I1, rfl, ⟨_, x, y, rfl, I.hok.fresh (Nat.le_refl _), rfl, fun l hl => by rw [Inv_sqK_inj I hl hqx]; exact hx, fun l hl => by rw [Inv_sqK_inj I hl hqy]; exact hy⟩, ⟨z'', ?_, ⟨v1, v2, ?_⟩, ?_, ?_⟩, fun c hcm => ?_⟩
    · exact (sb.2 _ D.TIz).trans (hk _ _ D.TIz D.TITO D.TIi1 D.TIi2 hTI)
    · exact (sb.2 _ D.TOz).trans hTO'
    · exact isIt_at st1.1 fun o q => (sb.2 _ (Ne.symm D.zi1)).trans q
    · exact isIt_at st2.1 fun o q => (sb.2 _ (Ne.symm D.zi2)).trans q
    · have hlt : c < s.heap.objs.size := by
        obtain ⟨o1, _, e1, _⟩ := isIt_obj h1
        obtain ⟨o2, _, e2, _⟩ := isIt_obj h2
        have e' : c = z ∨ c = TI ∨ c = TO ∨ c = i1 ∨ c = i2 := by simpa using hcm
        rcases e' with q | q | q | q | q <;> rw [q]
        · exact hzl
        · exact Heap.lt_size hTI
        · exact Heap.lt_size hTO
        · exact Heap.lt_size e1
        · exact Heap.lt_size e2
      rw [upd_ne (Nat.ne_of_lt hlt)]
      exact (hf c hcm).1
  done := by
    intro X hP hw hK hc i pins s σ H E I hf st hg
    subst hP hw hK
    obtain ⟨hz, hTI, ⟨x0, y0, hTO⟩, h1, h2⟩ := st
    obtain ⟨xs, ys, hqx, hqy, g1, g2, g3⟩ := hg
    obtain ⟨its, rv, p, _⟩ := Inv_sqK I hqx
    obtain ⟨its2, rv2, p2, _⟩ := Inv_sqK I hqy
    have l1 := rv.length
    have l2 := rv2.length
    have A1 : X.A.in1.handled = none := I.ok.hd hc
    exact wpAny_pyNext_zipD2_end D (draws_K b1 A1 i1 a na1 its.toArray) (draws_K b2 A1 i2 b na2 its2.toArray) hz hTI hTO ⟨h1, p⟩ ⟨h2, p2⟩ (by simp; omega) (by simp; omega) (by simp; omega) fun h' tk hk => ⟨rfl, I.turnedL (t' := tk) (ch := [z, TI, TO, i1, i2]) (fun c o hb q =>
      hk c o (fun q' => hb (by simp [q'])) (fun q' => hb (by simp [q'])) (fun q' => hb (by simp [q'])) (fun q' => hb (by simp [q'])) q) hf⟩
  self := fun A i s Q E st h => wpAny_pyIter_zip st.1 h
def iZipM (K : PySem.W.Frag) (ta : TA) : TI := fun σ H R => ta σ H fun vs H1 => ∃ a b xs ys b1 b2, vs = [.ref a, .ref b] ∧ SqK b1 K H1 a xs ∧ SqK b2 K H1 b ys ∧ R (ItzM K b1 b2 a b) H1
theorem pi_zipM {X : Cx} {e e2 : Expr} {ta : TA} {p pos tpos : Pos} {elts : List Expr} {kk : Nat} (hg : Gl X "zip") (hm : X.mg "zip" = none) (ha : PA X [e, e2] ta)
    (hs : starEach [e, e2] X.env = (false, eval e X.env) :: starEach [e2] X.env := by rfl) (hpl : (backTo pos (starEach [e2] X.env)).any (·.1) = false := by rfl) :
    PI X (.Tuple elts kk tpos) (.Call (.Name "zip" p) [e, e2] [] pos) (iZipM X.K ta) := by
  refine ⟨fun pins s σ H R I h => ?_⟩
  refine PyProof.Rows.Call_ (ld_blt I hg hm PyProof.Rows.boot_zip (PyProof.Rows.callWith_type1 (thn (ha.run pos pins s σ H _ I h) fun us s1 ⟨vs, H1, I1, r1, q1⟩ => ?_) hs hpl))
  obtain ⟨a, b, xs, ys, b1, b2, ex, hqx, hqy, q⟩ := q1
  subst ex
  obtain ⟨v1, v2, rfl, r, r'⟩ : ∃ v1 v2, us = [v1, v2] ∧ RelV (.ref a) v1 ∧ RelV (.ref b) v2 := by
    cases r1 with
    | cons r rr =>
      cases rr with
      | cons r' rr => cases rr; exact ⟨_, _, rfl, r, r'⟩
  cases r
  cases r'
  obtain ⟨its, rv, p1, la⟩ := Inv_sqK I1 hqx
  obtain ⟨its2, rv2, p2, lb⟩ := Inv_sqK I1 hqy
  refine zip_begins2 (begins_K b1 a its.toArray) (begins_K b2 b its2.toArray) p1 p2 fun h' hz hTI hTO h1 h2 hsz hk => wpAny_pyIter_zip hz ?_
  have I2 : Inv X pins σ H1 { s1 with heap := h' } := I1.kept (t' := s1.toks) hk
  refine ⟨s1.heap.objs.size + 4, [s1.heap.objs.size + 4, s1.heap.objs.size + 2, s1.heap.objs.size + 3, s1.heap.objs.size, s1.heap.objs.size + 1], _, _, H1, rfl, I2,
    turn_zipM (b1 := b1) (b2 := b2) (zip_sep2 (fp1 := [a]) (fp2 := [b]) (by simpa using la) (by simpa using lb)) (Nat.ne_of_lt la) (Nat.ne_of_lt (Nat.lt_succ_of_lt lb)), ⟨hz, hTI, ⟨_, _, hTO⟩, isIt_new h1, isIt_new h2⟩, fun c hcm => ?_, q⟩
  have e' : c = s1.heap.objs.size + 4 ∨ c = s1.heap.objs.size + 2 ∨ c = s1.heap.objs.size + 3 ∨ c = s1.heap.objs.size ∨ c = s1.heap.objs.size + 1 := by simpa using hcm
  have hle : s1.heap.objs.size ≤ c := by
    rcases e' with z | z | z | z | z <;> rw [z]
    · exact Nat.le_add_right _ _
    · exact Nat.le_add_right _ _
    · exact Nat.le_add_right _ _
    · exact Nat.le_refl _
    · exact Nat.le_add_right _ _
  exact I1.fpOk hle (I1.hok.fresh hle)
section
variable {G : Gm} {Hs0 : Hp} {p p2 : Addr} {xs ys : List D} {vs ws : List V}
theorem sqK_le {b : Bool} {K : PySem.W.Frag} {H H' : Hp} (l : Le H H') {a : Addr} {us : List V} (s : SqK b K H a us) : SqK b K H' a us := by
  cases b
  · exact l.sqL s
  · exact l.sqT s
theorem JIs.zipM {b1 b2 : Bool} (s : SqK b1 G.K Hs0 p vs) (m : IsL G Hs0 xs vs) (s2 : SqK b2 G.K Hs0 p2 ws) (m2 : IsL G Hs0 ys ws) : JIs G Hs0 (ItzM G.K b1 b2 p p2) (List.zipWith (fun x y => D.tup [x, y]) xs ys) where
  go := fun i Hs H hi l1 l2 => by
    rw [List.length_zipWith, IsL.length m, IsL.length m2] at hi
    have h1 : i < vs.length := by omega
    have h2 : i < ws.length := by omega
    exact ⟨vs, ws, vs[i], ws[i], sqK_le (l1.trans l2) s, sqK_le (l1.trans l2) s2, by simp [h1], by simp [h2]⟩
  stop := fun Hs H l1 l2 => ⟨vs, ws, sqK_le (l1.trans l2) s, sqK_le (l1.trans l2) s2, by rw [List.length_zipWith, IsL.length m, IsL.length m2]; omega⟩
  yld := fun i d Hs H x H' hd l1 l2 h => by
    obtain ⟨T, x1, y1, rfl, hn, rfl, a1, a2⟩ := h
    obtain ⟨d1, d2, g1, g2, rfl⟩ := get_zip hd
    obtain ⟨v, e1, e2⟩ := IsL.get m g1
    obtain ⟨w, e3, e4⟩ := IsL.get m2 g2
    have q1 := a1 vs (sqK_le (l1.trans l2) s)
    have q2 := a2 ws (sqK_le (l1.trans l2) s2)
    rw [e1] at q1
    rw [e3] at q2
    obtain rfl := Option.some.inj q1
    obtain rfl := Option.some.inj q2
    exact ⟨new_upd hn, fun Hs' l3 k => pair_is (l1.trans l3) hn k e2 e4⟩
end
def seqT : D → Option (Bool × List D)
  | .tup xs => some (true, xs)
  | .ctup xs => some (true, xs)
  | .lst xs => some (false, xs)
  | _ => none
theorem seqT_is {G : Gm} {Hs : Hp} {d : D} {v : V} {b : Bool} {xs : List D} (h : seqT d = some (b, xs)) (i : Is G Hs d v) : ∃ p vs, v = .ref p ∧ SqK b G.K Hs p vs ∧ IsL G Hs xs vs := by
  unfold seqT at h
  split at h
  · cases h
    obtain ⟨p, vs, rfl, s, m⟩ := i
    exact ⟨p, vs, rfl, .inl (.inl s), m⟩
  · cases h
    obtain ⟨p, vs, rfl, s, m⟩ := i
    exact ⟨p, vs, rfl, s, m⟩
  · cases h
    obtain ⟨p, vs, rfl, s, m⟩ := i
    exact ⟨p, vs, rfl, .inl (.inl s), m⟩
  · cases h
/-- the pairs of two, lists or tuples in any mix -/
def zipD3 (a b : D) : Option (List D) := match seqT a, seqT b with
  | some (_, xs), some (_, ys) => some (List.zipWith (fun x y => D.tup [x, y]) xs ys)
  | _, _ => none
def iZip3 (f g : Env' → Ro D) : Env' → Ro (List D) := fun env => (f env).bind fun d e => (g e).bind fun d' e => lift (zipD3 d d') e
section
variable {X : Cx} {T : Tb} {W : WX} {k : Nat} {a b c tg : Expr} {f g u : Env' → Ro D} {pos p tpos : Pos} {elts : List Expr} {kk : Nat}
theorem si_zip3 (hg : Gl X "zip") (hm : X.mg "zip" = none) (ha : SE X T W a f) (hb : SE X T W b g) (hs : starEach [a, b] X.env = (false, eval a X.env) :: starEach [b] X.env := by rfl) (hs2 : starEach [b] X.env = (false, eval b X.env) :: starEach [] X.env := by rfl)
    (hpl : (backTo pos (starEach [b] X.env)).any (·.1) = false := by rfl) : SI X T W (.Tuple elts kk tpos) (.Call (.Name "zip" p) [a, b] [] pos) (iZip3 f g) :=
  PI.weak (pi_zipM hg hm (pa_cons ha (pa_cons hb pa_nil hs2) hs) hs hpl) fun σ H R h => rd_bind h fun F env d v H1 S1 i1 h1 => ⟨F, env, S1, Rst.bind S1 h1 fun d' v' H2 env2 s2 S2 i2 h2 => by
    obtain ⟨zs, e, h2⟩ := lift_some h2
    replace i1 := Is.mono (s2.le F) _ _ i1
    unfold zipD3 at e
    split at e
    · rename_i b1 xs b2 ys e1 e2
      obtain rfl := Option.some.inj e
      obtain ⟨q1, vs, rfl, s1, m1⟩ := seqT_is e1 i1
      obtain ⟨q2, ws, rfl, s3, m2⟩ := seqT_is e2 i2
      exact ⟨q1, q2, vs, ws, b1, b2, rfl, sqK_le Le.unhid s1, sqK_le Le.unhid s3, fin_same (R := fun Hs ds J => JIs (gm X) Hs J ds) S2 (JIs.zipM s1 m1 s3 m2) h2⟩
    · cases e⟩
end
end Rf

namespace Rf
open PySem L2 LamX
/-! ## tools: the order of tuples -/
theorem ltD_int (x y : Int) (as bs : List D) : ltD (.tup (.int x :: as)) (.tup (.int y :: bs)) = (decide (x < y) || (!decide (y < x) && ltD (.tup as) (.tup bs))) := by
  show PyProof.Rows.lexLt PyProof.Rows.itemOrd (.inl 1 :: .inl x :: PySem.W.keyToksAll (toPyL as)) (.inl 1 :: .inl y :: PySem.W.keyToksAll (toPyL bs)) = _
  rw [PyProof.Rows.lex_cons, PyProof.Rows.lex_cons]
  rfl
theorem ltD_tup (xs ys as bs : List D) : ltD (.tup (.tup xs :: as)) (.tup (.tup ys :: bs)) = PyProof.Rows.lexLt PyProof.Rows.itemOrd (PySem.W.keyToksAll (toPyL xs) ++ PySem.W.keyToksAll (toPyL as)) (PySem.W.keyToksAll (toPyL ys) ++ PySem.W.keyToksAll (toPyL bs)) := by
  show PyProof.Rows.lexLt PyProof.Rows.itemOrd (.inl 1 :: (PySem.W.keyToksAll (toPyL xs) ++ PySem.W.keyToksAll (toPyL as))) (.inl 1 :: (PySem.W.keyToksAll (toPyL ys) ++ PySem.W.keyToksAll (toPyL bs))) = _
  rw [PyProof.Rows.lex_cons]
  rfl
theorem ltD_nil : ltD (.tup []) (.tup []) = false := by kernel_rfl
theorem leD_lt (a b : D) : leD a b = !ltD b a := rfl
theorem ltD_irr (a : D) : ltD a a = false := PyProof.Rows.lex_irrefl (O := PyProof.Rows.itemOrd) _
theorem sortG_two (a b : D) : sortG [a, b] = if ltD b a then [b, a] else [a, b] := by
  show (if leD a b then [a, b] else [b, a]) = _
  rw [leD_lt]
  cases ltD b a <;> rfl
/-- the least of two -/
theorem minG_two (a b : D) : minG a [b] = if ltD b a then b else a := rfl
theorem oSort3_of {L : List D} (h : oSort2 [.lst L] = none) (k : okSrt L = true) : oSort3 [.lst L] = some (.lst (sortG L)) := by
  unfold oSort3
  rw [h]
  show oSortG [.lst L] = _
  exact if_pos k
theorem oMin3_of {d : D} {ds : List D} (h : oMx minL [.lst (d :: ds)] = none) (k : ((d :: ds).all (okD 59) && ((d :: ds).all tupNE && (d :: ds).all fun x => (d :: ds).all fun e => PySem.W.alike (toPy x) (toPy e))) = true) : oMin3 [.lst (d :: ds)] = some (minG d ds) := by
  unfold oMin3
  rw [h]
  show oMinG [.lst (d :: ds)] = _
  exact if_pos k
end Rf

namespace Rf
open PySem L2 LamX
/-! ## {t: v, ..} with keys that are tuples -/
section
variable {prog : Program} {w : World} {K : Type} [DecidableEq K] {knd : HeapKind prog w K} {A : Around} {E : Value → Shared → Prop} {s : Shared}
theorem dict_pairsT {env : Env} {keys : List (Option Expr)} {values : List Expr} {pos : Pos} {Q : Value → Shared → Prop} (hu : knd.room A)
    (hall : keys.all (·.isSome) = true) (hl : keys.length = values.length) (h0 : keys ≠ []) (h15 : keys.length ≤ 15)
    (h : wpAny (model prog w) A (evalPairs (pairTrees keys values env pos)) (fun vs s₁ => ∃ ps, CarriesH knd s₁.heap vs ps ∧ s₁.heap.DictOfH knd s.heap.objs.size [] ∧
      ∀ h' tk, h'.DictOfH knd s.heap.objs.size (storedAllH [] ps) → Heap.SameBut s.heap.objs.size s₁.heap h' → Q (.ref s.heap.objs.size) { s₁ with heap := h', toks := tk }) E
      { s with heap := s.heap.push { cls := .type "dict", data := .dict #[] } }) :
    wpAny (model prog w) A (eval (.Dict keys values pos) env) Q E s := by
  have hn := pairTrees_length keys values env pos hall hl
  have hp0 : pairTrees keys values env pos ≠ [] := fun he => by
    rw [he] at hn
    exact h0 (List.length_eq_zero_iff.mp hn.symm)
  rw [arm_eval_Dict, zip_pairTrees keys values env pos hall hl, dictDisplay_pairs _ hp0 (by rw [hn]; omega)]
  exact wpAny_bind (wpAny_standAt (wpAny_bind (wpAny_subDictH (knd := knd) (Q := fun d s' => wpAny (model prog w) A (pure (Value.ref d)) Q E s') hu (by rw [hn]; exact h15)
    (wpAny_mono h (fun vs s₁ ⟨ps, hc, hm, hq⟩ => ⟨ps, hc, hm, fun h' tk a b => wpAny_pure (hq h' tk a b)⟩) fun _ _ e => e))))
end
abbrev TKV := List Key × Addr × V
def mergeT (kvs : List (List Key × V)) (more : List TKV) : List (List Key × V) := more.foldl (fun acc kv => putK acc kv.1 kv.2.2) kvs
theorem length_mergeT : ∀ (more : List TKV) (kvs : List (List Key × V)), (mergeT kvs more).length ≤ kvs.length + more.length
  | [], kvs => by show kvs.length ≤ kvs.length + 0; omega
  | p :: r, kvs => by
    have h1 := length_mergeT r (putK kvs p.1 p.2.2)
    have h2 := length_putK kvs p.1 p.2.2
    show (mergeT (putK kvs p.1 p.2.2) r).length ≤ _
    rw [List.length_cons]; omega
theorem carriesT {P : Program} {w : World} {H : Hp} {h : Heap} (ok : HOk P w H h) : ∀ {kvs : List TKV} {ws : List (Value × Value)}, VV (kvs.map fun kv => (V.ref kv.2.1, kv.2.2)) ws → (∀ kv ∈ kvs, H kv.2.1 = some (.tup (kv.1.map kV))) →
    ∃ rs : List (List Key × Addr × Value), CarriesH (tupleKind (mixKind P w)) h ws rs ∧ rs.length = kvs.length ∧ ∀ (as : List (List Key × V)) (xs : List (List Key × Addr × Value)), KT H as xs → KT H (mergeT as kvs) (storedAllH xs rs)
  | [], _, r, _ => by rw [List.map_nil] at r; cases r; exact ⟨[], True.intro, rfl, fun as xs k => k⟩
  | p :: kvs, _, r, hk => by
    rw [List.map_cons] at r
    cases r with
    | @cons a b as bs h0 t =>
      obtain ⟨rs, c, l, q⟩ := carriesT ok t fun kv hkv => hk kv (by simp [hkv])
      obtain ⟨b1, b2⟩ := b
      have k0 := hk p (by simp)
      refine ⟨(p.1, p.2.1, b2) :: rs, ⟨h0.1, rfl, key_of ok k0, c⟩, by rw [List.length_cons, List.length_cons, l], fun as xs k => ?_⟩
      exact q _ _ (k.put p.1 k0 h0.2)
def tDispT (trs : List (TE × TE)) : TE := fun σ H Q => ∀ p, H p = none → tPairs trs σ (upd H p (.dT [])) fun ps H2 => H2 p = some (.dT []) ∧ ∃ kvs : List TKV, ps = kvs.map (fun kv => (V.ref kv.2.1, kv.2.2)) ∧ (∀ kv ∈ kvs, H2 kv.2.1 = some (.tup (kv.1.map kV))) ∧ kvs.length ≤ 15 ∧ Q (.ref p) (upd H2 p (.dT (mergeT [] kvs)))
theorem pe_dispT {X : Cx} {pos : Pos} {keys : List (Option Expr)} {values : List Expr} {trs : List (TE × TE)} (hu : X.A.units + 1 < cLine) (h : PPs X pos keys values trs) (hall : keys.all (·.isSome) = true) (hl : keys.length = values.length) (h0 : keys ≠ [])
    (h15 : keys.length ≤ 15) : PE X (.Dict keys values pos) (tDispT trs) := by
  refine ⟨fun pins s σ H Q I q => ?_⟩
  have hn := I.hok.fresh (Nat.le_refl s.heap.objs.size)
  have I1 := I.laid (a := s.heap.objs.size) (o := .dT []) (h' := s.heap.push { cls := .type "dict", data := .dict #[] }) (t' := s.toks) (fun _ _ q => Heap.get?_push_of_some _ q) (Nat.le_refl _) (dt_empty s.heap I.big)
  have hr : (tupleKind (mixKind X.prog X.w)).room X.A := Nat.lt_of_succ_lt hu
  refine dict_pairsT (knd := tupleKind (mixKind X.prog X.w)) hr hall hl h0 h15 (thn (h.run pins _ σ _ _ I1 (q _ hn)) fun ws s2 ⟨ps, H2, I2, rel, e, kvs, ep, hk, lk, q2⟩ => ?_)
  subst ep
  obtain ⟨rs, c, lr, rk⟩ := carriesT I2.hok rel hk
  obtain ⟨z, hd, xs0, r0, dd⟩ := dt_of I2.hok e
  cases r0
  refine ⟨rs, c, dd, fun h' tk dd' hs => ⟨.ref s.heap.objs.size, _, ?_, rfl, q2⟩⟩
  have hz : (mergeT [] kvs).length ≤ sizeLine := by
    have h1 := length_mergeT kvs []
    rw [List.length_nil] at h1
    rw [sizeLine_eq]; omega
  obtain ⟨o, es, epp, g1, g2, g3, g4, g5, g6⟩ := id dd'
  refine d_write I2 (by rw [e]; exact True.intro) hs ⟨o, g1⟩ ⟨hz, hd, storedAllH [] rs, (rk [] [] .nil).keeps fun b ys hb => ?_, o, es, epp, g1, g2, g3, g4, g6⟩
  rw [upd_ne fun z => by rw [z, e] at hb; cases hb]
  exact hb
/-! the layer's -/
def dispT : List ((Env' → Ro D) × (Env' → Ro D)) → Env' → Ro (List (List Key × D))
  | [], e => .ok [] e
  | (fk, fv) :: r, e => (fk e).bind fun kd e => (fv e).bind fun v e => (dispT r e).bind fun kvs e => match keysOf kd with
    | some kk => .ok ((kk, v) :: kvs) e
    | none => .stk
def mergeDT (kvs : List (List Key × D)) : List (List Key) × List D := kvs.foldl (fun a kv => putD a.1 a.2 kv.1 kv.2) ([], [])
def eDispT (r : List ((Env' → Ro D) × (Env' → Ro D))) : Env' → Ro D := fun env => (dispT r env).bind fun kvs e => .ok (.dT (mergeDT kvs).1 (mergeDT kvs).2) e
def PIsT (G : Gm) (Hs : Hp) (kvs : List (List Key × D)) (ps : List (V × V)) : Prop := ∃ bs : List Addr, ps.map (·.1) = bs.map V.ref ∧ Paired (fun (b : Addr) (kv : List Key × D) => Hs b = some (.tup (kv.1.map kV))) bs kvs ∧ IsL G Hs (kvs.map (·.2)) (ps.map (·.2))
def RstPT (G : Gm) (T : Tb) (F : Addr → Prop) (σ : St) (H : Hp) (env : Env') (W : WX) (Q : List (V × V) → Hp → Prop) : Ro (List (List Key × D)) → Prop
  | .ok kvs env' => ∀ ps H', Stp σ H env σ H' env' → Sta G T F σ H' env' → PIsT G (hid H' (Hd F σ env')) kvs ps → Q ps H'
  | .exc c p env' => ∀ cls dd H', Stp σ H env σ H' env' → Sta G T F σ H' env' → ExcIs G (hid H' (Hd F σ env')) H' c p cls dd → W cls dd σ H'
  | .stk => False
theorem keysOf_ref {G : Gm} {Hs : Hp} {d : D} {v : V} {ks : List Key} (e : keysOf d = some ks) (i : Is G Hs d v) : ∃ b, v = .ref b ∧ Hs b = some (.tup (ks.map kV)) := by
  unfold keysOf at e
  split at e
  · obtain ⟨b, ws, rfl, k1, k2⟩ := i
    have z1 := keysOfL_is e k2
    subst z1
    exact ⟨b, rfl, k1⟩
  · cases e
theorem pairs_ofT {G : Gm} {T : Tb} {F : Addr → Prop} {σ : St} {W : WX} : ∀ (r : List ((Env' → Ro D) × (Env' → Ro D))) {H : Hp} {env : Env'} {Q : List (V × V) → Hp → Prop}, Sta G T F σ H env → RstPT G T F σ H env W Q (dispT r env) →
    tPairs (r.map fun p => (rd G T (isD G) p.1 W, rd G T (isD G) p.2 W)) σ H Q
  | [], H, env, Q, S, h => h [] H .refl S ⟨[], rfl, .nil, rfl⟩
  | (fk, fv) :: r, H, env, Q, S, h => by
    refine ⟨F, env, S, ?_⟩
    unfold dispT at h
    show Rst G T (isD G) F σ H env W _ (fk env)
    cases e1 : fk env with
    | exc c q en => rw [e1] at h; exact h
    | stk => rw [e1] at h; exact h
    | ok kd en1 =>
      rw [e1] at h
      simp only [Ro.bind] at h
      intro x H1 s1 S1 i1
      refine ⟨F, en1, S1, ?_⟩
      show Rst G T (isD G) F σ H1 en1 W _ (fv en1)
      cases e2 : fv en1 with
      | exc c q en => rw [e2] at h; exact fun cls dd H' s st z => h cls dd H' (s1.trans s) st z
      | stk => rw [e2] at h; exact h
      | ok v en2 =>
        rw [e2] at h
        simp only at h
        intro y H2 s2 S2 i2
        refine pairs_ofT r S2 ?_
        cases e3 : dispT r en2 with
        | exc c q en => rw [e3] at h; exact fun cls dd H' s st z => h cls dd H' (s1.trans (s2.trans s)) st z
        | stk => rw [e3] at h; exact h
        | ok kvs en3 =>
          rw [e3] at h
          simp only at h
          intro ps H3 s3 S3 ⟨bs, p1, p2, p3⟩
          split at h
          · rename_i kk hk
            obtain ⟨b, rfl, hb⟩ := keysOf_ref hk (Is.mono ((s2.trans s3).le F) _ _ i1)
            exact h ((.ref b, y) :: ps) H3 (s1.trans (s2.trans s3)) S3 ⟨b :: bs, by rw [List.map_cons, List.map_cons, p1], .cons hb p2, y, ps.map (·.2), rfl, Is.mono (s3.le F) _ _ i2, p3⟩
          · exact h.elim
theorem merge_valT {G : Gm} {Hs H : Hp} (le : Le Hs H) : ∀ (kvs : List (List Key × D)) (ps : List (V × V)), PIsT G Hs kvs ps → ∃ ws : List TKV, ps = ws.map (fun kv => (V.ref kv.2.1, kv.2.2)) ∧ (∀ kv ∈ ws, H kv.2.1 = some (.tup (kv.1.map kV))) ∧ ws.length = kvs.length ∧ ∀ (ks : List (List Key)) (ds : List D) (vs : List V), ks.length = vs.length → IsL G Hs ds vs →
    ∃ vs', mergeT (ks.zip vs) ws = (kvs.foldl (fun a kv => putD a.1 a.2 kv.1 kv.2) (ks, ds)).1.zip vs' ∧ (kvs.foldl (fun a kv => putD a.1 a.2 kv.1 kv.2) (ks, ds)).1.length = vs'.length ∧ IsL G Hs (kvs.foldl (fun a kv => putD a.1 a.2 kv.1 kv.2) (ks, ds)).2 vs'
  | [], ps, ⟨bs, h1, h2, h3⟩ => by
    cases h2
    have : ps = [] := by simpa using h1
    subst this
    exact ⟨[], rfl, (fun kv h => by cases h), rfl, fun ks ds vs e m => ⟨vs, rfl, e, m⟩⟩
  | (k, d) :: kvs, ps, ⟨bs, h1, h2, h3⟩ => by
    cases h2 with
    | @cons b kv bs kvs' hb h2 =>
    cases ps with
    | nil => cases h1
    | cons p ps =>
      obtain ⟨x, y⟩ := p
      obtain ⟨e1, e2⟩ := List.cons.inj h1
      obtain ⟨v, r, e3, i, m⟩ := h3
      obtain ⟨rfl, rfl⟩ := List.cons.inj e3
      obtain ⟨ws, w1, w4, w2, w3⟩ := merge_valT le kvs ps ⟨bs, e2, h2, m⟩
      refine ⟨(k, b, y) :: ws, by rw [List.map_cons, ← w1]; exact congrArg (· :: ps) (Prod.ext e1 rfl), fun kv hkv => ?_, by rw [List.length_cons, List.length_cons, w2], fun ks ds vs e q => ?_⟩
      · rcases List.mem_cons.mp hkv with rfl | hkv
        · exact le.tp hb
        · exact w4 kv hkv
      · obtain ⟨vs', b1, b2, b3⟩ := putD_val (k := k) e q i
        obtain ⟨vs2, c1, c2, c3⟩ := w3 (putD ks ds k d).1 (putD ks ds k d).2 vs' b2 b3
        refine ⟨vs2, ?_, c2, c3⟩
        unfold mergeT at c1 ⊢
        rw [List.foldl_cons, b1, c1]
        rfl
section
variable {X : Cx} {T : Tb} {W : WX} {pos : Pos} {keys : List (Option Expr)} {values : List Expr} {r : List ((Env' → Ro D) × (Env' → Ro D))} {k : Nat}
theorem dispT_len : ∀ {r : List ((Env' → Ro D) × (Env' → Ro D))} {e e' : Env'} {kvs : List (List Key × D)}, dispT r e = .ok kvs e' → kvs.length = r.length
  | [], e, e', kvs, h => by
    cases h
    rfl
  | (f, g) :: r, e, e', kvs, h => by
    unfold dispT at h
    cases e1 : f e with
    | exc c q en => rw [e1] at h; cases h
    | stk => rw [e1] at h; cases h
    | ok kd en1 =>
      rw [e1] at h
      simp only [Ro.bind] at h
      cases e2 : g en1 with
      | exc c q en => rw [e2] at h; cases h
      | stk => rw [e2] at h; cases h
      | ok v en2 =>
        rw [e2] at h
        simp only at h
        cases e3 : dispT r en2 with
        | exc c q en => rw [e3] at h; cases h
        | stk => rw [e3] at h; cases h
        | ok ks en3 =>
          rw [e3] at h
          simp only at h
          split at h
          · cases h
            rw [List.length_cons, List.length_cons, dispT_len e3]
          · cases h
theorem sf_dispT (hu : X.A.units + 100 < cLine) (h : SPs X T W pos keys values r) (hall : keys.all (·.isSome) = true) (hl : keys.length = values.length) (h0 : keys ≠ []) (h15 : keys.length ≤ 15) (hr : r.length ≤ 15) : SF X T W (.Dict keys values pos) (eDispT r) :=
  PE.weak (pe_dispT (by omega) h hall hl h0 h15) fun σ H Q h p hp => by
    obtain ⟨F, env, S, h⟩ := h
    refine pairs_ofT r (S.newHid (o := .dT []) hp) ?_
    unfold eDispT at h
    have B0 : InK (gm X) T F p σ H env σ (upd H p (.dT [])) env (.dT [] []) := ⟨S.newHid hp, (New.upd hp).stp, ⟨[], upd_same, rfl, rfl⟩, hp, S.old.free (.inl hp)⟩
    cases e : dispT r env with
    | exc c q en =>
      rw [e] at h
      exact fun cls dd H' s st z => h cls dd H' ((New.upd hp).stp.trans s) st.open (exc_mono (le_open (G := gm X) (F := F)) z)
    | stk => rw [e] at h; exact h
    | ok kvs en =>
      rw [e] at h
      intro ps H2 s2 S2 hps
      have B2 := B0.step s2 S2
      obtain ⟨vs0, k1, k2, k3⟩ := B2.ac
      obtain rfl : vs0 = [] := List.eq_nil_of_length_eq_zero k2.symm
      obtain ⟨ws, w1, w4, w2, w3⟩ := merge_valT (H := H2) Le.unhid kvs ps hps
      obtain ⟨vs', b1, b2, b3⟩ := w3 [] [] [] rfl rfl
      refine ⟨k1, ws, w1, w4, by rw [w2, dispT_len e]; exact hr, ?_⟩
      rw [show ([] : List (List Key × V)) = ([] : List (List Key)).zip ([] : List V) from rfl, b1]
      have B3 := B2.put (o' := .dT ((mergeDT kvs).1.zip vs')) (d' := .dT (mergeDT kvs).1 (mergeDT kvs).2) fun Hs l => ⟨vs', upd_same, b2, IsL.mono l _ _ b3⟩
      exact h p _ B3.sp B3.st B3.ac hp
end
end Rf

namespace Rf
open PySem L2 LamX
open PyProof.Rows hiding St
/-! ## sorted of a dict whose keys are tuples of ints -/
def rSortedDT : List V → Hp → VK → Prop := fun xs H Q => ∃ (a : Addr) (kvs : List (List Key × V)) (kss : List (List Int)), xs = [.ref a] ∧ Rd H a (.dT kvs) ∧ kvs.map (·.1) = kss.map (fun ns => ns.map Sum.inl) ∧ (∀ ns ∈ kss, ns ≠ []) ∧
    ∀ (ys : List V) (p : Addr), (∀ y ∈ ys, ∃ b, y = V.ref b ∧ H b = some (.tup ((kH H y).map V.int))) → (ys.map (kH H)).Perm kss → (ys.map (kH H)).Pairwise leLx → H p = none → Q (.ref p) (upd H p (.lst ys))
theorem kH_ints {H : Hp} {b : Addr} {ns : List Int} (e : H b = some (.tup (ns.map V.int))) : kH H (.ref b) = ns := by
  simp only [kH, e, List.map_map]
  exact (List.map_congr_left fun _ _ => rfl).trans (List.map_id ns)
theorem cr_sortedDT {X : Cx} (hcalm : X.calm = true) : CallR X (.builtin "sorted") rSortedDT := by
  intro pins s σ H xs us Q I r q
  obtain ⟨a, kvs, kss, ex, hd, hks, hne, q⟩ := q
  subst ex
  obtain ⟨u, eu, rx⟩ := vals1 r
  subst eu
  cases rx
  obtain ⟨z, lo, ks, pr, o, es, ep, ho, hx, hdt, he, hn⟩ := (show ObjOk X.prog X.w H s.heap a (.dT kvs) from hd.ok I.hok)
  have l1 : es.size = ks.length := size_of_entries he
  have l2 : kvs.length = ks.length := Paired.length pr
  have h16 : es.size ≤ sizeLine := by omega
  -- the keys' addresses
  have hb : ∀ (kvs : List (List Key × V)) (ks : List (List Key × Addr × Value)) (kss : List (List Int)), Paired (fun (p : List Key × V) (q : List Key × Addr × Value) => p.1 = q.1 ∧ H q.2.1 = some (.tup (p.1.map kV)) ∧ RelV p.2 q.2.2) kvs ks → kvs.map (·.1) = kss.map (fun ns => ns.map Sum.inl) →
      (ks.map fun x => kH H (V.ref x.2.1)) = kss ∧ ∀ x ∈ ks, H x.2.1 = some (.tup ((kH H (V.ref x.2.1)).map V.int)) := by
    intro kvs ks kss pr
    induction pr generalizing kss with
    | nil =>
      intro e
      cases kss with
      | nil => exact ⟨rfl, fun x hx => nomatch hx⟩
      | cons n r => cases e
    | @cons p q ps qs h t ih =>
      intro e
      cases kss with
      | nil => cases e
      | cons n r =>
        obtain ⟨e1, e2⟩ := List.cons.inj e
        obtain ⟨i1, i2⟩ := ih r e2
        have h2 : H q.2.1 = some (.tup (n.map V.int)) := by
          rw [h.2.1, show p.1 = n.map Sum.inl from e1, List.map_map]
          rfl
        have h3 := kH_ints h2
        refine ⟨by rw [List.map_cons, h3, i1], fun x hx => ?_⟩
        rcases List.mem_cons.mp hx with rfl | hx
        · rw [h3]; exact h2
        · exact i2 x hx
  obtain ⟨hk1, hk2⟩ := hb kvs ks kss pr hks
  refine Calls.call_function_entry PyProof.Rows.kind_sorted PyProof.Rows.plain_sorted PyProof.Rows.entry_sorted (PyProof.Rows.args_sorted1 _) ?_
  unfold Builtin.«sorted»
  refine wpAny_bind (m := checkCount "sorted" 1 1 _) (wpAny_pure ?_)
  refine wpAny_bind (PySem.W.kdu_collect (A := X.A.in1) (kdl_raw lo hx hdt) (I.ok.hd hcalm) ho h16 fun h' tk acc hk it => ?_)
  have ea : acc.toList = (ks.map fun x => x.2.1).map Value.ref := by
    refine List.ext_getElem? fun j => ?_
    rw [List.map_map, List.getElem?_map]
    cases hj : acc.toList[j]? with
    | none =>
      have h1 := List.getElem?_eq_none_iff.mp hj
      rw [Array.length_toList, it.1, l1] at h1
      rw [List.getElem?_eq_none h1]; rfl
    | some v =>
      obtain ⟨en, hen, hv⟩ := it.2 j v (by rw [← Array.getElem?_toList]; exact hj)
      have qe := entry_at he j
      rw [hen] at qe
      cases hb : ks[j]? with
      | none =>
        rw [hb] at qe
        exact nomatch (show some en = none from qe)
      | some b =>
        rw [hb] at qe
        have e2 : en = entryOfKey (tupleKind (mixKind X.prog X.w)) b := Option.some.inj qe
        rw [hv, e2]; rfl
  have hal : acc.toList.length = ks.length := by rw [ea, List.length_map, List.length_map]
  have rv : Vals ((ks.map fun x => x.2.1).map V.ref) acc.toList := by rw [ea]; exact vals_refs _
  have I1 : Inv X pins σ H { s with heap := h', toks := tk } := I.kept hk
  have hp : ∀ v ∈ acc.toList, TS.TupInts h' v (kH H (backV v)) ∧ kH H (backV v) ≠ [] := fun v hv => by
    rw [ea, List.map_map] at hv
    obtain ⟨x, hx1, rfl⟩ := List.mem_map.mp hv
    obtain ⟨its2, r2, ht2, hz2⟩ := I1.tuple (.inl (.inl (hk2 x hx1)))
    refine ⟨⟨x.2.1, its2.toArray, rfl, ht2, by simpa [backV] using RZ.intsAre_vals r2⟩, ?_⟩
    refine hne _ ?_
    rw [← hk1]
    exact List.mem_map.mpr ⟨x, hx1, rfl⟩
  refine wpAny_bind (wpAny_newList ?_ (by rw [hal, ← l1]; exact h16))
  have hoL : (h'.push (seqObj "list" acc.toList.toArray 0)).get? h'.objs.size = some (seqObj "list" acc.toList.toArray 0) := Heap.get?_push_size _ rfl
  show wpAny _ _ _ _ _ { s with heap := h'.push (seqObj "list" acc.toList.toArray 0), toks := tk }
  refine wpAny_bind (wpAny_holding (wpAny_call_entry PyProof.Rows.slot_list_sort ⟨_, hoL, rfl⟩ PyProof.Rows.entry_list_sort
    (SrtO.list_sort_ord (s := { s with heap := h'.push (seqObj "list" acc.toList.toArray 0), toks := tk }) (ltv := fun v u => HT.lexLt (kH H (backV v)) (kH H (backV u))) (NtL.swo_lexL fun u => kH H (backV u)) hoL (by rw [hal, ← l1]; exact h16)
      (fun h2 => tups_sortable (k := fun u => kH H (backV u)) (by omega) (fun v hm => ⟨(hp v hm).1.keeps fun b o e _ => Heap.get?_push_of_some _ e, (hp v hm).2⟩) fun o e c => by
        have e' : some o = some (seqObj "list" acc.toList.toArray 0) := e.symm.trans hoL
        cases e'
        exact absurd (Value.type.inj c) (by decide)) fun out g1 g2 => ⟨_, rfl, ?_⟩) (PyProof.Rows.args_list_sort _)))
  obtain ⟨e', he'⟩ := PyProof.Rows.sortedHeap_at (vs := acc.toList) (out := out.toArray) hoL
  have pm : out.Perm acc.toList := g2.perm
  have h3 : ∀ u ∈ out, ∃ x ∈ ks, u = Value.ref x.2.1 := fun u hu => by
    have := pm.mem_iff.mp hu
    rw [ea, List.map_map] at this
    obtain ⟨x, hx1, rfl⟩ := List.mem_map.mp this
    exact ⟨x, hx1, rfl⟩
  have hlen : (out.map backV).length ≤ sizeLine := by
    rw [List.length_map, pm.length_eq, hal, ← l1]
    exact h16
  refine wpAny_pure ⟨_, rfl, .ref h'.objs.size, upd H h'.objs.size (.lst (out.map backV)), I1.laid (t' := tk) (fun b u e => ?_) (Nat.le_refl _)
    (show ObjOk X.prog X.w _ _ _ (.lst (out.map backV)) from ⟨hlen, out, e', vals_back fun u hu => (let ⟨x, _, e⟩ := h3 u hu; ⟨_, e⟩), he'⟩), rfl, q _ _ (fun y hy => ?_) ?_ ?_ (I1.hok.fresh (Nat.le_refl _))⟩
  · have hb : b < h'.objs.size := Heap.lt_size e
    rw [PyProof.Rows.sortedHeap_old (Nat.ne_of_lt hb) (by rw [size_push']; exact Nat.lt_succ_of_lt hb)]
    exact Heap.get?_push_of_some _ e
  · obtain ⟨u, hu, rfl⟩ := List.mem_map.mp hy
    obtain ⟨x, hx1, rfl⟩ := h3 u hu
    exact ⟨x.2.1, rfl, hk2 x hx1⟩
  · have p2 := (pm.map backV).map (kH H)
    rw [ea, List.map_map, List.map_map, List.map_map] at p2
    have e3 : List.map ((kH H ∘ backV) ∘ Value.ref) (ks.map fun x => x.2.1) = kss := by rw [List.map_map]; exact hk1
    rw [e3] at p2
    rw [List.map_map]
    exact p2
  · rw [List.map_map]
    exact List.pairwise_map.mpr (g1.imp fun {x y} z => z)
def intsK : List Key → Option (List Int)
  | [] => some []
  | .inl i :: r => (intsK r).map (i :: ·)
  | .inr _ :: _ => none
theorem intsK_is : ∀ {ks : List Key} {ns : List Int}, intsK ks = some ns → ks = ns.map Sum.inl
  | [], ns, h => by
    obtain rfl := Option.some.inj h
    rfl
  | .inl i :: r, ns, h => by
    unfold intsK at h
    cases e : intsK r with
    | none => rw [e] at h; cases h
    | some ms =>
      rw [e] at h
      obtain rfl := Option.some.inj h
      rw [intsK_is e]
      rfl
  | .inr _ :: _, ns, h => by cases h
def intKss : List (List Key) → Option (List (List Int))
  | [] => some []
  | k :: r => match intsK k, intKss r with
    | some (n :: ns), some ms => some ((n :: ns) :: ms)
    | _, _ => none
theorem intKss_is : ∀ {ks : List (List Key)} {nss : List (List Int)}, intKss ks = some nss → ks = nss.map (fun ns => ns.map Sum.inl) ∧ ∀ ns ∈ nss, ns ≠ []
  | [], nss, h => by
    obtain rfl := Option.some.inj h
    exact ⟨rfl, fun _ h => nomatch h⟩
  | k :: r, nss, h => by
    unfold intKss at h
    split at h
    · rename_i n ns ms e1 e2
      obtain rfl := Option.some.inj h
      obtain ⟨i1, i2⟩ := intKss_is e2
      refine ⟨by rw [List.map_cons, ← i1, ← intsK_is e1], fun x hx => ?_⟩
      rcases List.mem_cons.mp hx with rfl | hx
      · exact List.cons_ne_nil _ _
      · exact i2 x hx
    · cases h
def oSortDT : List D → Option D
  | [.dT ks ds] => if ks.length = ds.length then (intKss ks).map fun nss => .lst ((sortLx nss).map tupN) else none
  | _ => none
/-- a call that gives a new list, or dict, where all tuples are seen -/
def OpCT (G : Gm) (r : List V → Hp → VK → Prop) (o : List D → Option D) : Prop := ∀ {Hs H : Hp} {ds : List D} {d : D} {vs : List V} {Q : VK}, Le Hs H → (∀ b ws, H b = some (.tup ws) → Hs b = some (.tup ws)) → IsL G Hs ds vs → o ds = some d →
  (∀ p u, H p = none → (∀ Hs', Le Hs Hs' → OIs G Hs' (upd H p u) d p) → Q (.ref p) (upd H p u)) → r vs H Q
theorem OpCT.of {G : Gm} {r : List V → Hp → VK → Prop} {o : List D → Option D} (h : OpCF G r o) : OpCT G r o := fun l _ m e q => h l m e q
theorem tup_seen {G : Gm} {T : Tb} {F : Addr → Prop} {σ : St} {H : Hp} {env : Env'} (S : Sta G T F σ H env) : ∀ b ws, H b = some (.tup ws) → hid H (Hd F σ env) b = some (.tup ws) := fun b ws e => hid_some.mpr ⟨fun z => by
  have m := S.hd_mut z
  rw [e] at m
  exact m, e⟩
section
variable {X : Cx} {T : Tb} {W : WX} {k : Nat} {a b : Expr} {es : List Expr} {f g : Env' → Ro D} {x : Str} {p pos : Pos} {r : Env' → Ro (List D)}
theorem sf_callT {id : String} {t : List V → Hp → VK → Prop} {o : List D → Option D} (hc : CallR X (.builtin id) t) (hd : OpCT (gm X) t o) (hg : Gl X x) (hm : X.mg x = none) (hv : bootBuiltins x = some (.builtin id)) (ha : SA X T W (a :: es) r) (hn : x ≠ "__name__" := by decide) (hdb : (x == ("__debug__" : Str)) = false := by decide)
    (he : starEach (a :: es) X.env = (false, eval a X.env) :: starEach es X.env := by rfl) (hpl : (backTo pos (starEach es X.env)).any (·.1) = false := by rfl) : SF X T W (.Call (.Name x p) (a :: es) [] pos) (eCall o r) :=
  PE.weak (pe_callB hc hg hm hv ha hn hdb he hpl) fun σ H Q h => rdF_bind (R := isA (gm X)) h fun F env ds vs H1 S1 i1 h1 => by
    cases e : o ds with
    | none => rw [e] at h1; exact h1.elim
    | some d =>
      rw [e] at h1
      exact hd (Hs := hid H1 (Hd F σ env)) Le.unhid (tup_seen S1) i1 e fun p u hp q => fin_newF (d := d) S1 hp q h1
end
theorem is_tupN {G : Gm} {Hs H : Hp} {v : V} {b : Addr} (ev : v = .ref b) (e : Hs b = some (.tup ((kH H v).map V.int))) : Is G Hs (tupN (kH H v)) v := ⟨b, _, ev, e, IsL.of_ints _⟩
theorem of_sortDT {G : Gm} : OpCT G rSortedDT oSortDT := fun {Hs H ds d vs Q} l se m e q => by
  unfold oSortDT at e
  split at e
  · rename_i ks vals
    split at e
    · rename_i hl
      cases e1 : intKss ks with
      | none => rw [e1] at e; cases e
      | some nss =>
        rw [e1] at e
        obtain rfl := Option.some.inj e
        obtain ⟨v, rfl, i⟩ := isL1 m
        obtain ⟨p, ws, rfl, s, len, m2⟩ := i
        obtain ⟨z, zn⟩ := intKss_is e1
        subst z
        refine ⟨p, _, nss, rfl, .inl (l _ _ s fun ps z => by cases z), ?_, zn, fun ys a hy p1 p2 n => ?_⟩
        · rw [List.map_fst_zip]
          omega
        · have es := sortLx_eq p1 p2
          refine q a _ n fun Hs' l' => ?_
          show OIs _ Hs' _ (D.lst (List.map tupN (sortLx nss))) a
          rw [← es]
          refine ⟨ys, upd_same, isL_of fun v hv => ?_⟩
          obtain ⟨b, eb, hb⟩ := hy v hv
          exact Is.mono l' _ _ (is_tupN (H := H) eb (se _ _ hb))
    · cases e
  · cases e
/-- sorted, of dicts with keys that are tuples, too -/
def oSort4 (ds : List D) : Option D := match oSort3 ds with
  | some d => some d
  | none => oSortDT ds
theorem of_sort4 {K : PySem.W.Frag} {mg : Str → Option Value} : OpCT ⟨K, mg⟩ (fun xs H Q => ((rSortedLx K xs H Q ∨ (rSortedI K xs H Q ∨ rSortedDK xs H Q)) ∨ rSortedG K xs H Q) ∨ rSortedDT xs H Q) oSort4 := fun {Hs H ds d vs Q} l se m e q => by
  unfold oSort4 at e
  split at e
  · rename_i d' e1
    obtain rfl := Option.some.inj e
    exact .inl (of_sort3 l m e1 q)
  · exact .inr (of_sortDT l se m e q)
section
variable {X : Cx} {T : Tb} {W : WX} {k : Nat} {a : Expr} {f : Env' → Ro D} {p pos : Pos}
theorem sf_sorted4 (hu : X.A.units + 100 < cLine) (hcalm : X.calm = true) (hg : Gl X "sorted") (hm : X.mg "sorted" = none) (ha : SE X T W a f) (h0 : starEach [a] X.env = (false, eval a X.env) :: starEach [] X.env := by rfl) : SF X T W (.Call (.Name "sorted" p) [a] [] pos) (eCall oSort4 (aCons f aNil)) :=
  sf_callT (CallR.or (CallR.or (CallR.or cr_sortedLx (CallR.or cr_sortedI (cr_sortedDK hcalm))) (cr_sortedG hu)) (cr_sortedDT hcalm)) of_sort4 hg hm (by decide +kernel) (sa_cons ha sa_nil h0) (by decide) (by decide) h0 (by rfl)
end
end Rf

/-! ## x[-2::-1] of tuples that are not empty -/
namespace Rf
section
open PySem PySem.Spec PyProof.Rows
section
variable {prog : Program} {w : World} {A : Around} {E : Value → Shared → Prop} {s : Shared}
theorem sliceApplied_rev2 {sl : Addr} {vl vs : Value} {n : Nat} {Q : Int × Int × Nat → Shared → Prop} (hn : 0 < n) (hs : s.heap.IsSliceOf sl vl .none vs) (pl : IsPart vl (some (-2))) (ps : IsPart vs (some (-1)))
    (h : Q ((n : Int) - 2, -1, n - 1) s) : wpAny (model prog w) A (Builtin.Slice.sliceApplied (.ref sl) (pure (n : Int))) Q E s := by
  obtain ⟨os, hos, hcs, hds⟩ := id hs
  unfold Builtin.Slice.sliceApplied Builtin.Slice.sliceFields
  refine wpAny_bind (wpAny_bind (wpAny_field hos hds (x := vl) rfl (wpAny_bind (wpAny_field hos hds (x := .none) rfl (wpAny_bind (wpAny_field hos hds (x := vs) rfl (wpAny_pure ?_)))))))
  refine wpAny_bind (HT.slicePart_ ps ?_)
  show wpAny _ _ (if ((-1 : Int) == 0) = true then _ else _) _ _ s
  rw [if_neg (by decide)]
  refine wpAny_bind (HT.slicePart_ pl (wpAny_bind (slicePart_none (wpAny_bind (wpAny_pure ?_)))))
  have e0 : Builtin.Slice.sliceAdjust (some (-2)) none (-1) (n : Int) = ((n : Int) - 2, -1) := by
    unfold Builtin.Slice.sliceAdjust
    simp only [show ((-1 : Int) < 0) = True by simp, show ((-2 : Int) < 0) = True by simp, if_true]
    congr 1
    omega
  show wpAny _ _ (pure ((Builtin.Slice.sliceAdjust (some (-2)) none (-1) (n : Int)).1, (-1 : Int), Builtin.Slice.slicePlaces (Builtin.Slice.sliceAdjust (some (-2)) none (-1) (n : Int)).1 (Builtin.Slice.sliceAdjust (some (-2)) none (-1) (n : Int)).2 (-1))) _ _ s
  rw [e0]
  have e : Builtin.Slice.slicePlaces ((n : Int) - 2) (-1) (-1) = n - 1 := by
    unfold Builtin.Slice.slicePlaces
    have h1 : ¬ ((-1 : Int) > 0) := by omega
    simp only [h1, if_false]
    split
    · have : ((n : Int) - 2 - -1 - 1) / - -1 = (n : Int) - 2 := by
        rw [show - -1 = (1 : Int) by omega, Int.ediv_one]
        omega
      rw [this]
      omega
    · omega
  rw [e]
  exact wpAny_pure h
theorem pick_rev2 (xs : Array Value) (hn : 0 < xs.size) : ((List.range (xs.size - 1)).filterMap fun (k : Nat) => xs[(((xs.size : Int) - 2) + (k : Int) * (-1)).toNat]?).toArray = xs.toList.dropLast.reverse.toArray := by
  congr 1
  apply List.ext_getElem?
  intro i
  have hf : ∀ k ∈ List.range (xs.size - 1), xs[(((xs.size : Int) - 2) + (k : Int) * (-1)).toNat]? = some (xs.toList.getD (xs.size - 2 - k) default) := fun k hk => by
    have hk := List.mem_range.mp hk
    have : (((xs.size : Int) - 2) + (k : Int) * (-1)).toNat = xs.size - 2 - k := by omega
    rw [this, ← Array.getElem?_toList, List.getD_eq_getElem?_getD, List.getElem?_eq_getElem (by rw [Array.length_toList]; omega)]
    rfl
  rw [fm_some hf]
  rw [List.getElem?_map]
  by_cases hi : i < xs.size - 1
  · rw [List.getElem?_range hi, List.getElem?_reverse (by rw [List.length_dropLast, Array.length_toList]; exact hi), Option.map_some, List.length_dropLast, Array.length_toList, List.getD_eq_getElem?_getD, List.getElem?_dropLast, Array.length_toList, if_pos (by omega), List.getElem?_eq_getElem (by rw [Array.length_toList]; omega), List.getElem?_eq_getElem (by rw [Array.length_toList]; omega)]
    first
      | rfl
      | (congr 1; done)
      | (congr 1; first | rfl | omega | (simp only [Option.getD_some]; first | rfl | done | (congr 1; omega)))
  · rw [List.getElem?_eq_none (by simp; omega), List.getElem?_eq_none (by simp; omega)]
    rfl
theorem getItem_tuple_rev2 {t sl : Addr} {items : Array Value} {vl vs : Value} {Q : Value → Shared → Prop} (hn : 0 < items.size) (ht : IsTup s.heap t items) (hs : s.heap.IsSliceOf sl vl .none vs) (pl : IsPart vl (some (-2))) (ps : IsPart vs (some (-1)))
    (h : Q (.ref s.heap.objs.size) { s with heap := s.heap.push { cls := .type "tuple", data := .seq items.toList.dropLast.reverse.toArray } })
    (hsz : items.size ≤ sizeLine) : wpAny (model prog w) A (getItem (.ref t) (.ref sl)) Q E s := by
  have htake : sizeOk (.seq items.toList.dropLast.reverse.toArray) := by
    show items.toList.dropLast.reverse.toArray.size ≤ sizeLine
    rw [List.size_toArray, List.length_reverse, List.length_dropLast, Array.length_toList]
    omega
  obtain ⟨os, hos, hcs, hds⟩ := id hs
  have hTs : s.TypeIs (.ref sl) "slice" := ⟨os, hos, hcs⟩
  unfold getItem
  try with_reducible refine wpAny_holding ?_
  first | refine wpAny_bind (wpAny_pure ?_) | skip
  refine wpAny_bind (wpAny_sequenceKey ht.typeIs (by decide) ?_)
  refine wpAny_bind (wpAny_callSpecial?_slot (name := Str.ofString "__getitem__") ht.typeIs PyProof.Rows.slot_tuple_getitem
    (wpAny_call_entry PyProof.Rows.slot_tuple_getitem ht.typeIs entry_tuple_getitem ?_ (args_tuple_getitem _ _)))
  show wpAny _ _ (Builtin.Tuple.tupleItemsOf (.ref t) >>= _) _ _ s
  refine wpAny_bind (tupleItemsOf_ ht ?_)
  refine wpAny_bind (wpAny_typeOf hTs ?_)
  rw [if_pos (by decide)]
  refine wpAny_bind (sliceApplied_rev2 hn hs pl ps ?_)
  have hno : ¬ ((((items.size : Int) - 2) == 0 && (-1 : Int) == 1 && (items.size - 1) == items.size) = true) := by simp
  show wpAny _ _ (if (((items.size : Int) - 2) == 0 && (-1 : Int) == 1 && (items.size - 1) == items.size) = true then _ else _) _ _ s
  rw [if_neg hno, pick_rev2 _ hn]
  first
    | exact wpAny_bind (m := Builtin.Tuple.tupleExact _) (wpAny_newObj_type (wpAny_pure ⟨_, rfl, wpAny_pure h⟩) htake)
    | exact wpAny_bind (m := Builtin.Tuple.tupleExact _) (wpAny_newObj_type (wpAny_bind (wpAny_pure (wpAny_pure ⟨_, rfl, wpAny_pure h⟩))) htake)
    | exact wpAny_bind (wpAny_bind (m := Builtin.Tuple.tupleExact _) (wpAny_newObj_type (wpAny_pure (wpAny_pure ⟨_, rfl, wpAny_pure h⟩)) htake))
    | exact wpAny_bind (wpAny_bind (m := Builtin.Tuple.tupleExact _) (wpAny_newObj_type (wpAny_pure ⟨_, rfl, wpAny_pure h⟩) htake))
end
end
section
open PySem PySem.Spec PyProof.Rows L2
def tRev2 (K : PySem.W.Frag) (te : TE) : TE := fun σ H Q => te σ H fun x H1 => ∃ a xs, x = .ref a ∧ SqT K H1 a xs ∧ 0 < xs.length ∧ ∀ p, H1 p = none → Q (.ref p) (upd H1 p (.tup xs.dropLast.reverse))
theorem vals_dropLast : ∀ {xs : List V} {us : List Value}, Vals xs us → Vals xs.dropLast us.dropLast
  | [], _, h => by
    cases h
    exact .nil
  | [x], _, h => by
    cases h with
    | cons r t => cases t; exact .nil
  | x :: y :: ys, _, h => by
    cases h with
    | cons r t =>
      have t' := vals_dropLast t
      cases t with
      | cons r2 t2 => exact .cons r t'
theorem pe_rev2 {X : Cx} {e : Expr} {te : TE} {k k' : Nat} {p1 p2 p3 p4 p5 pos : Pos} (he : PE X e te) : PE X (.Subscript e (.Slice (some (.UnaryOp .USub (.Constant (.int 2) k' p4) p5)) none (some (.UnaryOp .USub (.Constant (.int 1) k p1) p2)) p3) pos) (tRev2 X.K te) := by
  refine ⟨fun pins s σ H Q I h => ?_⟩
  refine Subscript_ (thn (he.run pins s σ H _ I h) fun v s1 ⟨x, H1, I1, r1, q1⟩ => ?_)
  have hst : ∀ (c : Int) (k : Nat) (p1 p2 : Pos), PO X (some (.UnaryOp .USub (.Constant (.int c) k p1) p2)) (tPart (tUn (rU fun i => .int (-i)) (tC (.int c)))) := fun c k p1 p2 => po_some (pe_un un_neg pe_int)
  refine wpAny_Slice (thn ((hst 2 k' p4 p5).run pins s1 σ H1 (fun o H2 => o = some (-2) ∧ H2 = H1) I1 ⟨2, rfl, -2, rfl, rfl, rfl⟩) fun vl s2 ⟨l, H2, I2, pl, el, e2⟩ => ?_)
  subst el e2
  refine thn (po_none.run pins s2 σ H2 (fun o H3 => o = none ∧ H3 = H2) I2 ⟨rfl, rfl⟩) fun vu s3 ⟨u, H3, I3, pu, eu, e3⟩ => ?_
  subst eu e3
  refine thn ((hst 1 k p1 p2).run pins s3 σ H3 (fun o H4 => o = some (-1) ∧ H4 = H3) I3 ⟨1, rfl, -1, rfl, rfl, rfl⟩) fun vs s4 ⟨o, H4, I4, ps, eo, e4⟩ => ?_
  subst eo e4
  have I5 : Inv X pins σ H4 { s4 with heap := s4.heap.push { cls := .type "slice", data := .fields #[vl, vu, vs] } } := I4.kept (t' := s4.toks) fun b ob q => Heap.get?_push_of_some _ q
  obtain ⟨a, xs, rfl, hx, h0, q⟩ := q1
  cases r1
  cases pu
  obtain ⟨its, r, ht, hz⟩ := I5.tuple hx
  have hlen := r.length
  show wpAny (model X.prog X.w) X.A (subscriptTail e (.Slice (some (.UnaryOp .USub (.Constant (.int 2) k' p4) p5)) none (some (.UnaryOp .USub (.Constant (.int 1) k p1) p2)) p3) (.ref a) (.ref s4.heap.objs.size)) (EP X pins σ Q) X.xe { s4 with heap := s4.heap.push { cls := .type "slice", data := .fields #[vl, .none, vs] } }
  refine tail_any (ops := [.ref a, .ref s4.heap.objs.size]) ht.typeIs (PyProof.Rows.slot_tuple_getitem.lookup) ?_ (by with_unfolding_all rfl)
  refine getItem_tuple_rev2 (by rw [List.size_toArray]; omega) ht (Heap.IsSliceOf.new _ vl .none vs) pl ps ?_ (by rw [List.size_toArray]; omega)
  refine ⟨.ref _, _, I5.laid (t' := s4.toks) (o := .tup xs.dropLast.reverse) (fun b ob q => Heap.get?_push_of_some _ q) (Nat.le_refl _) ?_, rfl, q _ (I5.hok.fresh (Nat.le_refl _))⟩
  exact ⟨by rw [List.length_reverse, List.length_dropLast]; omega, _, (vals_dropLast r).reverse, IsTup.new _ _⟩
end
section
open PySem L2 LamX
variable {X : Cx} {T : Tb} {W : WX} {k : Nat} {e : Expr} {f : Env' → Ro D} {pos : Pos}
def dRev2 : D → Option D
  | .tup (x :: xs) => some (.tup (x :: xs).dropLast.reverse)
  | _ => none
def eRev2 (f : Env' → Ro D) : Env' → Ro D := fun env => (f env).bind fun d e => lift (dRev2 d) e
theorem se_rev2 {k k' : Nat} {p1 p2 p3 p4 p5 : Pos} (h : SE X T W e f) : SE X T W (.Subscript e (.Slice (some (.UnaryOp .USub (.Constant (.int 2) k' p4) p5)) none (some (.UnaryOp .USub (.Constant (.int 1) k p1) p2)) p3) pos) (eRev2 f) :=
  PE.weak (pe_rev2 h) fun σ H Q h => rd_bind h fun F env d v H1 S1 i1 h1 => by
    cases d with
    | tup xs =>
      cases xs with
      | nil => exact h1.elim
      | cons x xs =>
        obtain ⟨a, vs, rfl, s, m⟩ := i1
        have hl := IsL.length m
        exact ⟨a, vs, rfl, Le.unhid.tq s, by rw [← hl]; exact Nat.succ_pos _, fun p hp => fin_new (d := .tup (x :: xs).dropLast.reverse) S1 (New.upd hp) (fun Hs' l' n' => ⟨p, vs.dropLast.reverse, rfl, n' p _ hp upd_same, IsL.reverse (IsL.dropLast (IsL.mono l' _ _ m))⟩) h1⟩
    | _ => exact h1.elim
end
end Rf

namespace L2
open PySem PySem.Spec PyProof.Rows
/-! ## dict comprehensions whose keys are tuples (after HandS.DictComp's walk, for .dT) -/
theorem d_dictSetT {X : Cx} {pins : List (Addr × Obj)} {σ : St} {H : Hp} {s : Shared} {E : Value → Shared → Prop} {D b : Addr} {kvs : List (List Key × V)} {k : List Key} {v : V} {u r : Value} {Q : Unit → Shared → Prop} (hu : X.A.units + 1 < cLine) (I : Inv X pins σ H s) (hD : H D = some (.dT kvs)) (hz : kvs.length < sizeLine)
    (eb : H b = some (.tup (k.map kV))) (ry : RelV (.ref b) u) (rv : RelV v r) (h : ∀ s', Inv X pins σ (upd H D (.dT (putK kvs k v))) s' → Q () s') : wpAny (model X.prog X.w) X.A (dictSet D u r) Q E s := by
  cases (show u = Value.ref b from ry)
  obtain ⟨z, hd, xs, rel, dd⟩ := dt_of I.hok hD
  have hzv : xs.length ≤ sizeLine := by rw [← Paired.length rel]; exact z
  have hl : (putK kvs k v).length ≤ sizeLine := by have := length_putK kvs k v; omega
  refine wpAny_dictSet_heap (hsz := hzv) (Nat.lt_of_succ_lt hu) (key_of I.hok eb) dd fun h' dd' hs => h _ ?_
  obtain ⟨q, es, ep, hq, h2, h3, h4, _, h5⟩ := dd'
  refine d_write I (by rw [hD]; exact True.intro) hs ⟨q, hq⟩ ⟨hl, hd, _, (rel.put k eb rv).keeps fun c ys ec => ?_, q, es, ep, hq, h2, h3, h4, h5⟩
  rw [upd_ne fun e => by rw [e, hD] at ec; cases ec]
  exact ec
section
variable {X : Cx}
/-- {k: v for target in iter if ..}, keys tuples: D the new dict -/
def tDcT (wi : TI) (g : TG) (tt : TT) (tk tv : TE) (vs : List Nat) : TE := fun σ H Q => wi σ H fun J H1 => ∀ D, H1 D = none → ∃ W : Nat → Nat → Hp → Prop, (∃ m, W 0 m (upd H1 D (.dT []))) ∧ ∀ i m H, W i m H →
  (J.stop i H ∧ Q (.ref D) H) ∨ (J.go i H ∧ ∃ Nx : Hp → Prop, (∀ H', Nx H' → ∃ m', m' < m ∧ W (i + 1) m' H') ∧ ∀ x H', J.yld i H x H' → g x (wipe σ vs) H' fun σ2 H2 => wipe σ2 vs = wipe σ vs ∧ tt σ2 H2 fun b H3 =>
    if b = true then tk σ2 H3 fun y H4 => tv σ2 H4 fun z H5 => ∃ kvs k b, y = .ref b ∧ H5 b = some (.tup (k.map kV)) ∧ H5 D = some (.dT kvs) ∧ kvs.length < sizeLine ∧ Nx (upd H5 D (.dT (putK kvs k z))) else Nx H3)
theorem dc_coreT {pins : List (Addr × Obj)} {s : Shared} {σ : St} {H : Hp} {Q : VK} {kx vx tg iter : Expr} {ifs : List Expr} {scope : Scope} {own : List (Str × Nat)} {pos pos' : Pos} {wi : TI} {g : TG} {tt : TT} {tk tv : TE} {use : Option (Value → Sem Unit)} {Qf : Value → Shared → Prop}
    (hu : X.A.units + 1 < cLine) (hc : X.calm = true) (hN : X.N.Nodup) (I : Inv X pins σ H s) (hi : PI X tg iter wi) (ok : BlkOk X.N X.env.scope scope own)
    (hg : ∀ (s : Shared) (H : Hp) (C : Addr) (cl : List (Str × Addr)) (fp : List Addr), PG (X.blk s H scope (compEnvC scope cl C X.env) fp) tg g) (ht : ∀ (s : Shared) (H : Hp) (C : Addr) (cl : List (Str × Addr)) (fp : List Addr), PTs (X.blk s H scope (compEnvC scope cl C X.env) fp) ifs tt)
    (hk : ∀ (s : Shared) (H : Hp) (C : Addr) (cl : List (Str × Addr)) (fp : List Addr), PE (X.blk s H scope (compEnvC scope cl C X.env) fp) kx tk)
    (he : ∀ (s : Shared) (H : Hp) (C : Addr) (cl : List (Str × Addr)) (fp : List Addr), PE (X.blk s H scope (compEnvC scope cl C X.env) fp) vx tv) (hs : ∀ x, foldedSetIterable iter X.env x = pure x)
    (h : tDcT wi g tt tk tv (own.map (·.2)) σ H Q)
    (hRR : ∀ D C s' m H', Inv X pins σ H' s' → Q (.ref D) H' → s'.heap.Ns C m → FpOk X pins H' C → compPost (model X.prog X.w) X.A X.xe use Qf (.ref D) C (.ok .next) s') :
    wpAny (model X.prog X.w) X.A (comprehension (.DictComp kx vx [⟨tg, iter, ifs, 0⟩] scope pos) scope X.env pos' newDict false (eval iter X.env) use) Qf X.xe s := by
  have hfree : ∀ y ∈ scope.names, y.2 = .free → ∃ c, X.env.cells.lookup y.1 = some c := fun y hy e => by
    rcases ok.free y hy e with k | k
    · exact I.ok.has _ (.inl k)
    · exact I.ok.has _ (.inr k)
  refine wpAny_comprehension_free (use := use) rfl hs (closure_ok hfree) ok.kind (fun y hy e => by rw [ok.uniq y hy, e])
    (thn (hi.run pins s σ H _ I h) fun xv s1 hx => thn hx fun itv s2 h2 => ?_)
  obtain ⟨it, fp, tn, J, H2, e, I2, T, st2, f2, q⟩ := h2
  subst e
  refine wpAny_newObj_type (newEnv_comp ?_)
  generalize hD : s2.heap.objs.size = D
  have hDn : H2 D = none := I2.hok.fresh (Nat.le_of_eq hD)
  obtain ⟨W, ⟨m0, w0⟩, turn⟩ := q D hDn
  -- the new list
  generalize hs3 : ({ s2 with heap := s2.heap.push { cls := .type "dict", data := .dict #[] } } : Shared) = s3
  have I3 : Inv X pins σ (upd H2 D (.dT [])) s3 := by
    rw [← hs3]
    refine I2.laid (t' := s2.toks) (fun b o e => Heap.get?_push_of_some _ e) (Nat.le_of_eq hD) ?_
    rw [← hD]
    exact dt_empty s2.heap I2.big
  have h3 : s3.heap = s2.heap.push { cls := .type "dict", data := .dict #[] } := by rw [← hs3]
  have sz : ∀ b ∈ fp, b < s2.heap.objs.size := fun b hb => by
    obtain ⟨o, e, _⟩ := T.obj _ _ st2 b hb
    exact Heap.lt_size e
  have f3 : ∀ b ∈ fp, FpOk X pins (upd H2 D (.dT [])) b ∧ b < s3.heap.objs.size := fun b hb => by
    have hlt := sz b hb
    refine ⟨⟨?_, (f2 b hb).2⟩, by rw [h3, Heap.size_push]; exact Nat.lt_succ_of_lt hlt⟩
    rw [upd_ne (by rw [← hD]; exact Nat.ne_of_lt hlt)]
    exact (f2 b hb).1
  have st3 : tn 0 s3.heap := T.keep _ _ _ st2 fun b _ o e => by rw [h3]; exact Heap.get?_push_of_some _ e
  have I4 := block_start I3 ok hN f3
  have pg := hg s3 (upd H2 D (.dT [])) s3.heap.objs.size (cellsFrom (s3.heap.objs.size + 1) scope.names (cloFrom X.env.cells scope.names [])) fp
  have pt := ht s3 (upd H2 D (.dT [])) s3.heap.objs.size (cellsFrom (s3.heap.objs.size + 1) scope.names (cloFrom X.env.cells scope.names [])) fp
  have pk := hk s3 (upd H2 D (.dT [])) s3.heap.objs.size (cellsFrom (s3.heap.objs.size + 1) scope.names (cloFrom X.env.cells scope.names [])) fp
  have pe := he s3 (upd H2 D (.dT [])) s3.heap.objs.size (cellsFrom (s3.heap.objs.size + 1) scope.names (cloFrom X.env.cells scope.names [])) fp
  show codeAny _ _ (.compStart (.DictComp kx vx [⟨tg, iter, ifs, 0⟩] scope pos) 0 (.ref it) (.ref D) (compEnvC scope (cellsFrom (s3.heap.objs.size + 1) scope.names (cloFrom X.env.cells scope.names [])) s3.heap.objs.size X.env)) (compPost (model X.prog X.w) X.A X.xe use Qf (.ref D) s3.heap.objs.size) { s3 with heap := pushCells (s3.heap.push { cls := .type "dict", data := .dict #[] }) scope.names }
  have nfp : ∀ b ∈ fp, (upd H2 D (.dT [])) b = none := fun b hb => (f3 b hb).1.1
  generalize hce : compEnvC scope (cellsFrom (s3.heap.objs.size + 1) scope.names (cloFrom X.env.cells scope.names [])) s3.heap.objs.size X.env = ce at I4 pg pt pk pe ⊢
  have cL : ce.locals = s3.heap.objs.size := by subst hce; rfl
  generalize hH3 : upd H2 D (.dT []) = H3 at I3 I4 pg pt pk pe w0 nfp f3
  generalize hs4 : ({ s3 with heap := pushCells (s3.heap.push { cls := .type "dict", data := .dict #[] }) scope.names } : Shared) = s4 at I4 ⊢
  have st4 : tn 0 s4.heap := T.keep _ _ _ st3 fun b _ o e => by rw [← hs4]; exact pushCells_keeps _ _ _ _ (Heap.get?_push_of_some _ e)
  have stat : ∀ {σ' : St} {H' : Hp} {s' : Shared}, Inv (X.blk s3 H3 scope ce fp) [] σ' H' s' → (∀ b ∈ fp, H' b = none) → ∀ b ∈ fp, FpOk (X.blk s3 H3 scope ce fp) [] H' b := fun {σ' H' s'} I' hn b hb =>
    ⟨hn b hb, (I'.ok.exf b hb).1, I'.ok.exfs b hb, .inl hb, fun x c e => (I'.ok.exf b hb).2 x c e, fun p hp => absurd (show p ∈ ([] : List (Addr × Obj)) ++ [] from hp) (by simp)⟩
  have loop : codeAny (model X.prog X.w) X.A (.compLoop (.DictComp kx vx [⟨tg, iter, ifs, 0⟩] scope pos) 0 (.ref it) (.ref D) ce) (compPost (model X.prog X.w) X.A X.xe use Qf (.ref D) s3.heap.objs.size) s4 := by
    refine compLoop_anyD (fun n s' => ∃ i H', Inv (X.blk s3 H3 scope ce fp) [] (wipe σ (own.map (·.2))) H' s' ∧ tn i s'.heap ∧ (∀ b ∈ fp, H' b = none) ∧ W i n H') ?_ m0 ⟨0, H3, I4, st4, nfp, w0⟩
    rintro n s5 ⟨i, H5, I5, st5, n5, w5⟩
    rcases turn i n H5 w5 with ⟨stop, qq⟩ | ⟨go, Nx, hNx, step⟩
    · have td := T.done (X.blk s3 H3 scope ce fp) rfl rfl rfl hc i [] s5 _ H5 (fun _ _ => False) I5 (stat I5 n5) st5 stop
      refine thnF td fun r s6 ⟨hr, I6⟩ => ?_
      subst hr
      -- back in the def's context
      have I7 : Inv X pins σ H5 s6 := I3.call' (ch := fp) I6.os I6.base I6.hok I6.bare fun b hb => ⟨(f3 b hb).1.2.2.2.1, (f3 b hb).1.2.1, (f3 b hb).1.2.2.2.2.1, (f3 b hb).1.2.2.2.2.2⟩
      have nC : H5 s3.heap.objs.size = none := by
        have z : H5 ce.locals = none := I6.free
        rw [cL] at z
        exact z
      obtain ⟨m, hn, _⟩ := I6.loc
      have hn : s6.heap.Ns ce.locals m := hn
      rw [cL] at hn
      exact hRR D s3.heap.objs.size s6 m H5 I7 qq hn (I3.fpOk (Nat.le_refl _) nC)
    · have ti := T.item (X.blk s3 H3 scope ce fp) rfl rfl rfl hc i [] s5 _ H5 (fun _ _ => False) I5 (stat I5 n5) st5 go
      refine thnF ti fun r s6 ⟨u, hr, h6⟩ => ?_
      subst hr
      refine thnF h6 fun _ s7 ⟨x, H7, I7, r7, y7, st7, n7⟩ => ?_
      have I7' := I7.pinned (stat I7 n7) (T.obj _ _ st7)
      refine thnF (pg.run _ s7 _ H7 x u _ I7' r7 (step x H7 y7)) fun _ s8 ⟨σ8, H8, I8, hw8, q8⟩ => ?_
      refine thnF (pt.run _ s8 σ8 H8 _ I8 q8) fun b s9 ⟨H9, I9, q9⟩ => ?_
      -- the turn's end
      have fin : ∀ {s' : Shared} {H' : Hp}, Inv (X.blk s3 H3 scope ce fp) ([] ++ pinsAt fp s7.heap) σ8 H' s' → Nx H' → ∃ m, m < n ∧ ∃ i H', Inv (X.blk s3 H3 scope ce fp) [] (wipe σ (own.map (·.2))) H' s' ∧ tn i s'.heap ∧ (∀ b ∈ fp, H' b = none) ∧ W i m H' := fun {s' H'} I' nx => by
        obtain ⟨m', hm, w'⟩ := hNx H' nx
        have pin' : ∀ b ∈ fp, ∀ o, s7.heap.get? b = some o → s'.heap.get? b = some o ∧ H' b = none := fun b hb o e =>
          let z := I'.pin (b, o) (List.mem_append_right _ (List.mem_append_right _ (mem_pinsAt hb e)))
          ⟨z.1, z.2.1⟩
        have hl : (wipe σ (own.map (·.2))).length = σ8.length := by rw [← hw8, wipe_length]
        refine ⟨m', hm, i + 1, H', (I'.unpinned (pins := [])).weak hl (fun j v e => ?_), T.keep _ _ _ st7 fun b hb o e => (pin' b hb o e).1, fun b hb => ?_, w'⟩
        · rw [← hw8] at e
          exact (wipe_some e).1
        · obtain ⟨o, e, _⟩ := T.obj _ _ st7 b hb
          exact (pin' b hb o e).2
      cases b with
      | false =>
        simp only [Bool.false_eq_true, if_false] at q9 ⊢
        exact fin I9 q9
      | true =>
        simp only [if_true] at q9 ⊢
        refine thnF (pk.run _ s9 σ8 H9 _ I9 q9) fun z s10 ⟨yk, H10, I10, r10, q10⟩ => ?_
        refine thnF (pe.run _ s10 σ8 H10 _ I10 q10) fun z2 s11 ⟨yv, H11, I11, r11, kvs, k, b, ek, eb11, hD11, hz11, nx⟩ => ?_
        subst ek
        exact d_dictSetT (X := X.blk s3 H3 scope ce fp) hu I11 hD11 hz11 eb11 r10 r11 fun s12 I12 => fin I12 nx
  exact codeAny_compStart_dict loop (T.self X.A 0 _ _ _ st4 loop)
/-- as a value -/
theorem pe_dcT {kx vx tg iter : Expr} {ifs : List Expr} {scope : Scope} {own : List (Str × Nat)} {pos : Pos} {wi : TI} {g : TG} {tt : TT} {tk tv : TE} (hu : X.A.units + 1 < cLine) (hc : X.calm = true) (hN : X.N.Nodup) (hi : PI X tg iter wi) (ok : BlkOk X.N X.env.scope scope own)
    (hg : ∀ (s : Shared) (H : Hp) (C : Addr) (cl : List (Str × Addr)) (fp : List Addr), PG (X.blk s H scope (compEnvC scope cl C X.env) fp) tg g) (ht : ∀ (s : Shared) (H : Hp) (C : Addr) (cl : List (Str × Addr)) (fp : List Addr), PTs (X.blk s H scope (compEnvC scope cl C X.env) fp) ifs tt)
    (hk : ∀ (s : Shared) (H : Hp) (C : Addr) (cl : List (Str × Addr)) (fp : List Addr), PE (X.blk s H scope (compEnvC scope cl C X.env) fp) kx tk)
    (he : ∀ (s : Shared) (H : Hp) (C : Addr) (cl : List (Str × Addr)) (fp : List Addr), PE (X.blk s H scope (compEnvC scope cl C X.env) fp) vx tv) (hs : ∀ x, foldedSetIterable iter X.env x = pure x := by intro _; rfl) :
    PE X (.DictComp kx vx [⟨tg, iter, ifs, 0⟩] scope pos) (tDcT wi g tt tk tv (own.map (·.2))) := by
  refine ⟨fun pins s σ H Q I h => ?_⟩
  rw [arm_eval_DictComp]
  refine dc_coreT hu hc hN I hi ok hg ht hk he hs h fun D C s' m H' I' q hn f => ⟨m, hn, fun h'' sb => ?_⟩
  obtain ⟨f0, f1, f2, f3, f4, f5⟩ := f
  exact ⟨.ref D, H', I'.turned (t' := s'.toks) (fun b o hb e => (sb.2 b hb).trans e) f0 f1 f3 f4 f5, rfl, q⟩
end
end L2
namespace Rf
open PySem L2 LamX
def dcLT (vs : List Nat) (t : Tg) (q : Env' → Ro Bool) (fk fv : Env' → Ro D) : List D → List (List Key) → List D → Env' → Ro (List (List Key) × List D)
  | [], ks, acc, e => .ok (ks, acc) e
  | d :: ds, ks, acc, e => match t d e with
    | some e1 => match q e1 with
      | .ok true e2 => match fk e2 with
        | .ok kd e3 => match fv e3, keysOf kd with
          | .ok y e4, some kk => if ks.length < sizeLine && noOwn e4 vs then dcLT vs t q fk fv ds (putD ks acc kk y).1 (putD ks acc kk y).2 (wipeE e4 vs) else .stk
          | _, _ => .stk
        | _ => .stk
      | .ok false e2 => if noOwn e2 vs then dcLT vs t q fk fv ds ks acc (wipeE e2 vs) else .stk
      | _ => .stk
    | none => .stk
def eDcT (vs : List Nat) (it : Env' → Ro (List D)) (t : Tg) (q : Env' → Ro Bool) (fk fv : Env' → Ro D) : Env' → Ro D := fun env => (it env).bind fun ds e => if noOwn e vs then match dcLT vs t q fk fv ds [] [] (wipeE e vs) with
    | .ok r e' => if noOwn e' vs then .ok (.dT r.1 r.2) (backE e e' vs) else .stk
    | _ => .stk
  else .stk
section
variable {X : Cx} {T : Tb} {W : WX} {k : Nat} {tg iter kx vx : Expr} {ifs : List Expr} {scope : Scope} {own : List (Str × Nat)} {it : Env' → Ro (List D)} {t : Tg} {q : Env' → Ro Bool} {fk fv : Env' → Ro D} {us : List Nat} {pos : Pos}
theorem dc_lawT {G : Gm} {vs : List Nat} {σ : St} {H : Hp} {Q : VK} (fr : ∀ i ∈ vs, Fr T i) (hu : ∀ i ∈ us, i ∈ vs) (h : rdF G T (eDcT vs it t q fk fv) W σ H Q) :
    tDcT (rd G T (fun Hs ds J => JIs G Hs J ds) it W) (rdG G T us t) (rd G T isB q noW) (rd G T (isD G) fk noW) (rd G T (isD G) fv noW) vs σ H Q := by
  refine rdF_bind h fun F env ds J H1 S1 i1 h1 L nL => ?_
  have i1 : JIs G (hid H1 (Hd F σ env)) J ds := i1
  split at h1
  · rename_i no
    split at h1
    · rename_i acc' e' er
      split at h1
      · rename_i no'
        refine ⟨fun i m H2 => m = ds.length - i ∧ i ≤ ds.length ∧ ∃ e ks acc, InK G T F L (wipe σ vs) H1 (wipeE env vs) (wipe σ vs) H2 e (.dT ks acc) ∧ dcLT vs t q fk fv (ds.drop i) ks acc e = .ok acc' e',
          ⟨ds.length, rfl, Nat.zero_le _, _, [], [], InK.start fr S1 no nL fun Hs => ⟨[], upd_same, rfl, rfl⟩, er⟩, ?_⟩
        rintro i m H2 ⟨rfl, hi', e, ks, acc, B, er2⟩
        have le : Le (hid H1 (Hd F σ env)) (hid H2 (Hd (Pl F L) (wipe σ vs) e)) := by
          have z : hid H1 (Hd F σ env) = hid H1 (Hd F (wipe σ vs) (wipeE env vs)) := hid_eq (hd_iff fun a => (ow_wipe no).symm)
          rw [z]
          refine Le.hid fun b o e3 n k => ⟨fun y => ?_, B.sp.keep b o e3 n fun y => k (.inl y)⟩
          rcases y with y | y | y
          · exact B.sp.own b (by rw [e3]; simp) (fun y' => k (.inl y')) y
          · exact k (.inr y)
          · rw [y, nL] at e3; cases e3
        by_cases hlt : i < ds.length
        · have hd : ds[i]? = some ds[i] := by simp [hlt]
          rw [List.drop_eq_getElem_cons hlt] at er2
          refine .inr ⟨i1.go i _ H2 hlt le Le.unhid, fun H3 => ∃ e ks acc, InK G T F L (wipe σ vs) H1 (wipeE env vs) (wipe σ vs) H3 e (.dT ks acc) ∧ dcLT vs t q fk fv (ds.drop (i + 1)) ks acc e = .ok acc' e',
            fun H3 ⟨e3, k3, a3, b1, b2⟩ => ⟨ds.length - (i + 1), by omega, rfl, hlt, e3, k3, a3, b1, b2⟩, fun y H3 hy => ?_⟩
          obtain ⟨n, j⟩ := i1.yld i _ _ H2 y H3 hd le Le.unhid hy
          have B3 := B.step n.stp (B.st.new n)
          have iy := j (hid H3 (Hd (Pl F L) (wipe σ vs) e)) (n.le B.st) fun a o h1 h2 => hid_some.mpr ⟨fun z => B.st.hd_there z h1, h2⟩
          simp only [dcLT] at er2
          cases et : t ds[i] e with
          | none => rw [et] at er2; cases er2
          | some e1 =>
            rw [et] at er2
            simp only at er2
            refine ⟨Pl F L, e, ds[i], e1, B3.st, iy, et, fun σ3 o3 s3 S3 => ?_⟩
            have hw : wipe σ3 vs = wipe σ vs := (o3.wipe hu).trans wipe_twice
            refine ⟨hw, ?_⟩
            have B4 := B3.step s3 S3
            refine ⟨Pl F L, e1, S3, ?_⟩
            cases eq : q e1 with
            | ok b e2 =>
              rw [eq] at er2
              intro b' H4 s4 S4 hb'
              obtain rfl : b = b' := hb'
              have B5 := B4.step s4 S4
              cases b with
              | false =>
                simp only at er2
                split at er2
                · rename_i no2
                  exact ⟨wipeE e2 vs, ks, acc, InK.turn fr B5 hw no2, er2⟩
                · cases er2
              | true =>
                simp only at er2
                simp only [if_true]
                refine ⟨Pl F L, e2, S4, ?_⟩
                cases ef : fk e2 with
                | ok kd e3 =>
                  rw [ef] at er2
                  simp only at er2
                  intro vk H5 s5 S5 ik
                  have B6 := B5.step s5 S5
                  refine ⟨Pl F L, e3, S5, ?_⟩
                  cases eg : fv e3 with
                  | ok y e4 =>
                    rw [eg] at er2
                    cases ek : keysOf kd with
                    | some kk =>
                      rw [ek] at er2
                      simp only at er2
                      split at er2
                      · rename_i hc
                        obtain ⟨hc1, no2⟩ := Bool.and_eq_true_iff.mp hc
                        have hc1 := of_decide_eq_true hc1
                        intro v H6 s6 S6 iv
                        have B7 := B6.step s6 S6
                        obtain ⟨avs, a1, a2, a3⟩ := B7.ac
                        obtain ⟨vs', b1, b2, b3⟩ := putD_val (k := kk) a2 a3 iv
                        obtain ⟨kb, rfl, hkb⟩ := keysOf_ref ek ik
                        refine ⟨ks.zip avs, kk, kb, rfl, Le.unhid.tp ((s6.le (Pl F L)).tp hkb), a1, by rw [List.length_zip, ← a2, Nat.min_self]; exact hc1, wipeE e4 vs, _, _, InK.turn fr (B7.put (d' := .dT (putD ks acc kk y).1 (putD ks acc kk y).2) fun Hs l => ⟨vs', by rw [b1]; exact upd_same, b2, IsL.mono l _ _ b3⟩) hw no2, er2⟩
                      · cases er2
                    | none => rw [ek] at er2; cases er2
                  | exc c p e4 => rw [eg] at er2; cases er2
                  | stk => rw [eg] at er2; cases er2
                | exc c p e3 => rw [ef] at er2; cases er2
                | stk => rw [ef] at er2; cases er2
            | exc c p e2 => rw [eq] at er2; cases er2
            | stk => rw [eq] at er2; cases er2
        · have e0 : i = ds.length := by omega
          subst e0
          rw [List.drop_length] at er2
          simp only [dcLT] at er2
          cases er2
          obtain ⟨s, S, o⟩ := B.back S1 no no'
          exact .inl ⟨i1.stop _ H2 le Le.unhid, h1 L H2 s S o nL⟩
      · exact h1.elim
    · exact h1.elim
  · exact h1.elim
/-- a dict comprehension as a value -/
theorem sf_dcT (C : Ctx X k) (hu0 : X.A.units + 100 < cLine) (fr : ∀ i ∈ own.map (·.2), Fr T i) (hi : SI X T W tg iter it) (ok : blkC X.N X.env.scope scope own = true) (hu : ∀ i ∈ us, i ∈ own.map (·.2))
    (hg : ∀ s H C cl fp, SG (BlkCx X scope s H C cl fp) T us tg t) (ht : ∀ s H C cl fp, STs (BlkCx X scope s H C cl fp) T noW ifs q) (hk : ∀ s H C cl fp, SE (BlkCx X scope s H C cl fp) T noW kx fk) (he : ∀ s H C cl fp, SE (BlkCx X scope s H C cl fp) T noW vx fv)
    (hs : ∀ x, foldedSetIterable iter X.env x = pure x := by intro _; rfl) : SF X T W (.DictComp kx vx [⟨tg, iter, ifs, 0⟩] scope pos) (eDcT (own.map (·.2)) it t q fk fv) :=
  PE.weak (pe_dcT (g := rdG (gm X) T us t) (tt := rd (gm X) T isB q noW) (tk := rd (gm X) T (isD (gm X)) fk noW) (tv := rd (gm X) T (isD (gm X)) fv noW) (by omega) C.calm C.nd hi (blkOk_by ok) hg ht hk he hs) fun σ H Q h => dc_lawT fr hu h
end
end Rf

namespace Rf
open PySem L2 LamX
/-! ## xs[i] op= e of an owned list of ints -/
def rGetL (K : PySem.W.Frag) : V → V → Hp → VK → Prop := fun x y H Q => ∃ p xs i v, x = .ref p ∧ y = .int i ∧ SqL K H p xs ∧ atI xs i = some v ∧ Q v H
theorem pget_list {X : Cx} : PGet X (rGetL X.K) := by
  intro pins s σ H x y v u Q I rx ry h
  obtain ⟨p, xs, i, z, rfl, rfl, hq, he, q⟩ := h
  cases rx
  obtain ⟨t, rfl⟩ := ry
  obtain ⟨its, r, pl, hz⟩ := I.list hq
  obtain ⟨j, h1, h2, h3, h4, h5⟩ := atI_get he
  obtain ⟨w, ew, rw'⟩ := r.get h2
  have hl := r.length
  have hn := line63
  have fin : EP X pins σ Q w s := ⟨z, H, I, rw', q⟩
  by_cases h0 : 0 ≤ i
  · have hj : i.toNat = j := by
      rw [seqIndex_of h0 h5] at h1
      exact Option.some.inj h1
    exact wpAny_getItem_list pl.isList h0 (by omega) (by rw [hj]; simpa using ew) fin
  · have hj : (i + (its.toArray.size : Int)).toNat = j := by
      rw [seqIndex_neg (by omega) h4] at h1
      rw [List.size_toArray, ← hl]
      exact Option.some.inj h1
    exact wpAny_getItem_list_neg pl.isList (by omega) (by rw [List.size_toArray] <;> omega) (by omega) (by rw [hj]; simpa using ew) fin
def sAugIx (i : Nat) (o : Int → Int → Int) (g f : Env' → Ro D) : Env' → So := fun env => if isLstS env i then ofRo (g env) fun n e => match n, e[i]? with
    | .int j, some (.o (.lst xs)) => match ixN xs.length j with
      | some m => match xs[m]? with
        | some (.int x) => ofRo (f e) fun y e2 => match y, e2[i]? with
          | .int yv, some (.o (.lst ys)) => match ixN ys.length j with
            | some m2 => .nx (e2.set i (.o (.lst (ys.set m2 (.int (o x yv))))))
            | none => .stk
          | _, _ => .stk
        | _ => .stk
      | none => .stk
    | _, _ => .stk
  else .stk
section
variable {X : Cx} {T : Tb} {W : WX} {k : Nat} {a b : Expr} {f g : Env' → Ro D} {pos p p2 : Pos} {x : Str}
theorem ss_augIx {o : Int → Int → Int} {op : Operator} (ho : PIp X op (ipI o)) (i : Nat) (hb : SE X T W b g) (ha : SE X T W a f) (hN : X.N[i]? = some x := by rfl) (hv : Vis X.env.scope x := by first | exact Or.inl rfl | exact Or.inr (Or.inl rfl) | exact Or.inr (Or.inr rfl)) (hd : (x == ("__debug__" : Str)) = false := by decide)
    (hcd : (x == ("__classdict__" : Str)) = false := by decide)
    (hst : ∀ ov iv new, augStore b ov iv new = (do holding [new, ov, iv] (setItem ov iv new); release [new, ov, iv] []; pure .next) := by intros; rfl) : SS X T W (.AugAssign (.Subscript (.Name x p) b p2) op a pos) (sAugIx i o g f) :=
  PS.weak (ps_augS (pe_var hN hv hd hcd) hb pget_list ha ho set_list hst) fun De σ H h => by
    obtain ⟨F, env, S, h⟩ := h
    unfold sAugIx at h
    split at h
    · rename_i hl
      obtain ⟨xs0, e0⟩ := isLstS_at hl
      obtain ⟨p0, vs0, e1, e2, e3⟩ := own_lst S e0
      refine ⟨.ref p0, e1, F, env, S, RstS.bind S h fun n w H1 env1 s1 S1 i1 h1 => ?_⟩
      split at h1
      · rename_i j xs ex
        split at h1
        · rename_i m em
          split at h1
          · rename_i xv hx
            obtain ⟨p', vs, e1', e2', e3'⟩ := own_lst S1 ex
            rw [e1] at e1'
            cases e1'
            obtain ⟨w0, hw0, iw0⟩ := IsL.get e3' hx
            obtain rfl : w0 = .int xv := iw0
            refine ⟨p0, vs, j, .int xv, rfl, i1, (.inl (.inl e2')), ?_, F, env1, S1, RstS.bind S1 h1 fun y v H2 env2 s2 S2 i2 h2 => ?_⟩
            · unfold L2.atI
              rw [← IsL.length e3', em]
              exact hw0
            · split at h2
              · rename_i yv ys ey
                split at h2
                · rename_i m2 em2
                  obtain ⟨p', vs2, e1', e2'', e3''⟩ := own_lst S2 ey
                  rw [e1] at e1'
                  cases e1'
                  refine ⟨xv, yv, rfl, i2, p0, vs2, j, m2, rfl, i1, e2'', by rw [← IsL.length e3'']; exact em2, ?_⟩
                  obtain ⟨S', s'⟩ := S2.mut (d' := .lst (ys.set m2 (.int (o xv yv)))) (u := .lst (vs2.set m2 (.int (o xv yv)))) ey e1 ⟨_, upd_same, IsL.set (d := .int (o xv yv)) (v := .int (o xv yv)) rfl m2 e3''⟩
                  exact h2 σ _ s' S'
                · exact h2.elim
              · exact h2.elim
          · exact h1.elim
        · exact h1.elim
      · exact h1.elim
    · exact h.elim
end
end Rf

namespace Rf
open PySem L2 LamX
/-! ## isinstance(x, (T1, T2)) -/
theorem isi_ty2 {G : Gm} {Hs H : Hp} {t t' : Ty6} {d : D} {v : V} {b b' : Bool} (l : Le Hs H) (i : Is G Hs d v) (e : isiD t d = some b) (e' : isiD t' d = some b') : ∃ n, TyX G.K H v (.type n) ∧ kitB n t.nm = some b ∧ kitB n t'.nm = some b' := by
  obtain ⟨z0, z1, z2, z3, z4, z5, z6⟩ := kit6 t
  obtain ⟨y0, y1, y2, y3, y4, y5, y6⟩ := kit6 t'
  cases d with
  | non => obtain rfl : v = .non := i; obtain rfl := Option.some.inj e; obtain rfl := Option.some.inj e'; exact ⟨_, .base .non, z0, y0⟩
  | bl x => obtain rfl : v = .bl x := i; obtain rfl := Option.some.inj e; obtain rfl := Option.some.inj e'; exact ⟨_, .base (.bl x), z1, y1⟩
  | int x => obtain rfl : v = .int x := i; obtain rfl := Option.some.inj e; obtain rfl := Option.some.inj e'; exact ⟨_, .base (.int x), z2, y2⟩
  | str x => obtain rfl : v = .str x := i; obtain rfl := Option.some.inj e; obtain rfl := Option.some.inj e'; exact ⟨_, .base (.str x), z3, y3⟩
  | tup xs => obtain ⟨p, vs, rfl, s, m⟩ := i; obtain rfl := Option.some.inj e; obtain rfl := Option.some.inj e'; exact ⟨_, .base (.tup (l.tp s)), z4, y4⟩
  | lst xs => obtain ⟨p, vs, rfl, s, m⟩ := i; obtain rfl := Option.some.inj e; obtain rfl := Option.some.inj e'; exact ⟨_, .base (.lst (l.lp s)), z5, y5⟩
  | dK ks ds => obtain ⟨p, vs, rfl, s, m⟩ := i; obtain rfl := Option.some.inj e; obtain rfl := Option.some.inj e'; exact ⟨_, .base (.dK (l _ _ s (fun ps z => by cases z))), z6, y6⟩
  | dT ks ds => obtain ⟨p, vs, rfl, s, m⟩ := i; obtain rfl := Option.some.inj e; obtain rfl := Option.some.inj e'; exact ⟨_, .base (.dT (l _ _ s (fun ps z => by cases z))), z6, y6⟩
  | fn y => cases e
  | scr ns => cases e
  | ctup xs => cases e
def eIsi2 (t t' : Ty6) (f : Env' → Ro D) : Env' → Ro D := fun env => (f env).bind fun d e => lift ((isiD t d).bind fun b => (isiD t' d).map fun b' => D.bl (b || b')) e
section
variable {X : Cx} {T : Tb} {W : WX} {k : Nat} {a : Expr} {f : Env' → Ro D} {pos p p2 p3 tpos : Pos}
theorem se_isi2 (t t' : Ty6) {n n' : Str} (hn : bootBuiltins n = some (.type t.nm)) (hn' : bootBuiltins n' = some (.type t'.nm)) (hg : Gl X "isinstance") (hm : X.mg "isinstance" = none) (hg2 : Gl X n) (hm2 : X.mg n = none) (hg3 : Gl X n') (hm3 : X.mg n' = none) (ha : SE X T W a f)
    (hnn : n ≠ "__name__" := by decide) (hnd : (n == ("__debug__" : Str)) = false := by decide) (hnn' : n' ≠ "__name__" := by decide) (hnd' : (n' == ("__debug__" : Str)) = false := by decide)
    (h0 : starEach [a, .Tuple [.Name n p2, .Name n' p3] k tpos] X.env = (false, eval a X.env) :: starEach [.Tuple [.Name n p2, .Name n' p3] k tpos] X.env := by rfl) (h1 : starEach [.Tuple [.Name n p2, .Name n' p3] k tpos] X.env = (false, eval (.Tuple [.Name n p2, .Name n' p3] k tpos) X.env) :: starEach [] X.env := by rfl)
    (h2 : starEach [.Name n p2, .Name n' p3] X.env = (false, eval (.Name n p2) X.env) :: starEach [.Name n' p3] X.env := by rfl) (h3 : starEach [.Name n' p3] X.env = (false, eval (.Name n' p3) X.env) :: starEach [] X.env := by rfl)
    (hpl : (backTo pos (starEach [.Tuple [.Name n p2, .Name n' p3] k tpos] X.env)).any (·.1) = false := by rfl) :
    SE X T W (.Call (.Name "isinstance" p) [a, .Tuple [.Name n p2, .Name n' p3] k tpos] [] pos) (eIsi2 t t' f) :=
  PE.weak (pe_callB call_isiT hg hm (by decide +kernel) (pa_cons ha (pa_cons (pe_tup (pa_cons (pe_bltn (v := .ty t.nm) hg2 hm2 hn rfl hnn hnd) (pa_cons (pe_bltn (v := .ty t'.nm) hg3 hm3 hn' rfl hnn' hnd') pa_nil h3) h2)) pa_nil h1) h0) (he := h0) (hpl := hpl)) fun σ H Q h => rd_bind h fun F env d v H1 S1 i1 h1 => by
    obtain ⟨z, e, h1⟩ := lift_some h1
    cases e1 : isiD t d with
    | none => rw [e1] at e; cases e
    | some b =>
      cases e2 : isiD t' d with
      | none => rw [e1, e2] at e; cases e
      | some b' =>
        rw [e1, e2] at e
        obtain rfl := Option.some.inj e
        refine ⟨by show 2 ≤ sizeLine; decide, fun tp htp => ?_⟩
        have n1 := New.upd (o := .tup [.ty t.nm, .ty t'.nm]) htp
        obtain ⟨n', ty, k1, k2⟩ := isi_ty2 Le.unhid (Is.mono (n1.le S1) _ _ i1) e1 e2
        refine ⟨v, tp, _, _, [.type t.nm, .type t'.nm], b || b', rfl, upd_same, .cons (.ty _) (.cons (.ty _) .nil), ty, ?_, h1 (.bl (b || b')) _ n1.stp (S1.new n1) rfl⟩
        refine kitAny_cons (kit_ty k1) (fun hb => ?_) (fun hb => by rw [hb]; rfl)
        refine kitAny_cons (kit_ty k2) (fun hb' => ?_) (fun hb' => by rw [hb, hb']; rfl)
        rw [hb, hb']
        exact kitAny_nil
end
end Rf

namespace K35
open PySem L2 LamX Rf
open PyProof.Rows hiding St
def tp (i : Nat) : Stmt := PySem.Challenge.pw_stepgrids_k35_whole_sums_of_floors.main.body.getD i (.Pass ⟨0, 0, 0, 0⟩)
theorem sc_is_integer : FnScope ["thing"] ["thing"] (defScope (tp 1)) := ⟨rfl, rfl, rfl, by decide +kernel, rfl, by decide +kernel, by decide +kernel⟩
theorem sc_is_within : FnScope ["thing", "least", "most"] ["thing", "least", "most"] (defScope (tp 2)) := ⟨rfl, rfl, rfl, by decide +kernel, rfl, by decide +kernel, by decide +kernel⟩
theorem sc_floor_total : FnScope ["many", "step", "begin", "whole", "total", "top"] ["many", "step", "begin", "whole"] (defScope (tp 8)) := ⟨rfl, rfl, rfl, by decide +kernel, rfl, by decide +kernel, by decide +kernel⟩
theorem sc_check_line : FnScope ["many", "step", "begin", "whole"] ["many", "step", "begin", "whole"] (defScope (tp 9)) := ⟨rfl, rfl, rfl, by decide +kernel, rfl, by decide +kernel, by decide +kernel⟩
theorem sc_floor_sum : FnScope ["many", "step", "begin", "whole"] ["many", "step", "begin", "whole"] (defScope (tp 10)) := ⟨rfl, rfl, rfl, by decide +kernel, rfl, by decide +kernel, by decide +kernel⟩
theorem sc_below_line : FnScope ["many", "step", "begin", "whole"] ["many", "step", "begin", "whole"] (defScope (tp 11)) := ⟨rfl, rfl, rfl, by decide +kernel, rfl, by decide +kernel, by decide +kernel⟩
theorem sc_first_rest : FnScope ["many", "step", "whole", "low", "high", "least", "most", "middle"] ["many", "step", "whole", "low", "high"] (defScope (tp 12)) := ⟨rfl, rfl, rfl, by decide +kernel, rfl, by decide +kernel, by decide +kernel⟩
theorem sc_rests_between : FnScope ["many", "step", "whole", "low", "high"] ["many", "step", "whole", "low", "high"] (defScope (tp 13)) := ⟨rfl, rfl, rfl, by decide +kernel, rfl, by decide +kernel, by decide +kernel⟩
theorem sc_many_rests : FnScope ["many", "step", "whole", "low", "high"] ["many", "step", "whole", "low", "high"] (defScope (tp 14)) := ⟨rfl, rfl, rfl, by decide +kernel, rfl, by decide +kernel, by decide +kernel⟩
theorem sc_in_triangle : FnScope ["a", "b", "most", "many"] ["a", "b", "most"] (defScope (tp 15)) := ⟨rfl, rfl, rfl, by decide +kernel, rfl, by decide +kernel, by decide +kernel⟩
theorem sc__law_hand : FnScope ["script", "cells", "cell"] ["script"] (defScope (tp 17)) := ⟨rfl, rfl, rfl, by decide +kernel, rfl, by decide +kernel, by decide +kernel⟩
theorem sc__law_draw : FnScope ["hand", "many", "number", "cell", "digit"] ["hand", "many"] (defScope (tp 18)) := ⟨rfl, rfl, rfl, by decide +kernel, rfl, by decide +kernel, by decide +kernel⟩
theorem sc__law_some : FnScope ["hand", "things"] ["hand", "things"] (defScope (tp 19)) := ⟨rfl, rfl, rfl, by decide +kernel, rfl, by decide +kernel, by decide +kernel⟩
theorem sc__law_is : FnScope ["told", "due", "k"] ["told", "due"] (defScope (tp 20)) := ⟨rfl, rfl, rfl, by decide +kernel, rfl, by decide +kernel, by decide +kernel⟩
theorem sc__law_word : FnScope ["call", "found", "error", "flags"] ["call"] (defScope (tp 21)) := ⟨rfl, rfl, rfl, by decide +kernel, rfl, by decide +kernel, by decide +kernel⟩
theorem sc__law_floors : FnScope ["many", "step", "begin", "whole", "k"] ["many", "step", "begin", "whole"] (defScope (tp 22)) := ⟨rfl, rfl, rfl, by decide +kernel, rfl, by decide +kernel, by decide +kernel⟩
theorem sc__law_is_line_right : FnScope ["hand", "due", "great", "times_here", "long_here", "long_one", "tail", "many", "whole", "step", "begin", "more", "far", "whole_sum"] ["hand"] (defScope (tp 23)) := ⟨rfl, rfl, rfl, by decide +kernel, rfl, by decide +kernel, by decide +kernel⟩
theorem sc__law_are_rests_right : FnScope ["hand", "high", "good", "due", "rounds_here", "one_round", "many", "whole", "step", "low", "k"] ["hand"] (defScope (tp 24)) := ⟨rfl, rfl, rfl, by decide +kernel, rfl, by decide +kernel, by decide +kernel⟩
theorem sc__law_is_triangle_right : FnScope ["hand", "due", "by", "a", "b", "most", "x"] ["hand"] (defScope (tp 25)) := ⟨rfl, rfl, rfl, by decide +kernel, rfl, by decide +kernel, by decide +kernel⟩
theorem sc__law_refused_right : FnScope ["hand", "bad", "words", "odd", "none", "far"] ["hand"] (defScope (tp 26)) := ⟨rfl, rfl, rfl, by decide +kernel, rfl, by decide +kernel, by decide +kernel⟩
theorem sc_law : FnScope ["script", "hand", "told", "turn"] ["script"] (defScope (tp 27)) := ⟨rfl, rfl, rfl, by decide +kernel, rfl, by decide +kernel, by decide +kernel⟩
/-! what each comes to -/
def errs : List Str := ["NoNumber", "NoLine"]
def b_is_integer : Env' → So := sRet (eAnd (eIsi .i (eVar 0)) (eNot (eIsi .b (eVar 0))))
def m_is_integer : Fm := runM [false] 1 b_is_integer
def b_is_within : Env' → So := sRet (eAnd (eCallD m_is_integer (rV (eVar 0) (rNil))) (eChain bLe bLe (eVar 1) (eVar 0) (eVar 2)))
def m_is_within : Fm := runM [false, false, false] 3 b_is_within
def lq1_floor_total : Env' → Ro Bool := qCmp bGe (eVar 5) (eVar 3)
def lb2_floor_total : Env' → So := sSeq (sAug 4 (fun i j => i + j) (eOp dAdd (eOp dMul (eOp dDiv (eVar 1) (eVar 3)) (eOp dDiv (eOp dMul (eVar 0) (eOp dSub (eVar 0) (eC (.int 1)))) (eC (.int 2)))) (eOp dMul (eOp dDiv (eVar 2) (eVar 3)) (eVar 0))))
  (sSeq (sPar 1 2 (eOp dMod (eVar 1) (eVar 3)) (eOp dMod (eVar 2) (eVar 3)))
  (sSeq (sSet 5 (eOp dAdd (eOp dMul (eVar 1) (eVar 0)) (eVar 2)))
  (sIf (qCmp bGe (eVar 5) (eVar 3)) (sSeq (sPar 0 2 (eOp dDiv (eVar 5) (eVar 3)) (eOp dMod (eVar 5) (eVar 3)))
  (sSeq (sPar 1 3 (eVar 3) (eVar 1))
  (sSet 5 (eVar 3)))) (sNil))))
def b_floor_total : Env' → So := sSeq (sPar 4 5 (eC (.int 0)) (eVar 3))
  (sSeq (sWhile (lq1_floor_total) (lb2_floor_total))
  (sRet (eVar 4)))
def m_floor_total : Fm := runM [false, false, false, false] 6 b_floor_total
def b_check_line : Env' → So := sSeq (sIf (qOr (qNot (qTru (eCallD m_is_within (rV (eVar 0) (rV (eC (.int 0)) (rV (eOp dPow (eC (.int 10)) (eC (.int 12))) (rNil))))))) (qNot (qTru (eCallD m_is_within (rV (eVar 3) (rV (eC (.int 1)) (rV (eOp dPow (eC (.int 10)) (eC (.int 12))) (rNil)))))))) (sRaise0 "NoLine") (sNil))
  (sIf (qOr (qNot (qTru (eCallD m_is_within (rV (eVar 1) (rV (eNeg (eOp dPow (eC (.int 10)) (eC (.int 12)))) (rV (eOp dPow (eC (.int 10)) (eC (.int 12))) (rNil))))))) (qNot (qTru (eCallD m_is_within (rV (eVar 2) (rV (eNeg (eOp dPow (eC (.int 10)) (eC (.int 12)))) (rV (eOp dPow (eC (.int 10)) (eC (.int 12))) (rNil)))))))) (sRaise0 "NoLine") (sNil))
def m_check_line : Fm := runM [false, false, false, false] 4 b_check_line
def b_floor_sum : Env' → So := sSeq (sDrop (eCallD m_check_line (rV (eVar 0) (rV (eVar 1) (rV (eVar 2) (rV (eVar 3) (rNil)))))))
  (sRet (eCallD m_floor_total (rV (eVar 0) (rV (eVar 1) (rV (eVar 2) (rV (eVar 3) (rNil)))))))
def m_floor_sum : Fm := runM [false, false, false, false] 4 b_floor_sum
def b_below_line : Env' → So := sSeq (sDrop (eCallD m_check_line (rV (eVar 0) (rV (eVar 1) (rV (eVar 2) (rV (eVar 3) (rNil)))))))
  (sSeq (sIf (qOr (qCmp bLt (eVar 1) (eC (.int 0))) (qCmp bLt (eVar 2) (eC (.int 0)))) (sRaise0 "NoLine") (sNil))
  (sRet (eCallD m_floor_total (rV (eVar 0) (rV (eVar 1) (rV (eVar 2) (rV (eVar 3) (rNil))))))))
def m_below_line : Fm := runM [false, false, false, false] 4 b_below_line
def b_rests_between : Env' → So := sSeq (sSet 1 (eOp dMod (eVar 1) (eVar 2)))
  (sRet (eOp dSub (eCallD m_floor_total (rV (eVar 0) (rV (eVar 1) (rV (eOp dSub (eVar 2) (eVar 3)) (rV (eVar 2) (rNil)))))) (eCallD m_floor_total (rV (eVar 0) (rV (eVar 1) (rV (eOp dSub (eOp dSub (eVar 2) (eVar 4)) (eC (.int 1))) (rV (eVar 2) (rNil))))))))
def m_rests_between : Fm := runM [false, false, false, false, false] 5 b_rests_between
def lq1_first_rest : Env' → Ro Bool := qCmp bGt (eOp dSub (eVar 6) (eVar 5)) (eC (.int 1))
def lb2_first_rest : Env' → So := sSeq (sSet 7 (eOp dDiv (eOp dAdd (eVar 5) (eVar 6)) (eC (.int 2))))
  (sIf (qCmp bGt (eCallD m_rests_between (rV (eVar 7) (rV (eVar 1) (rV (eVar 2) (rV (eVar 3) (rV (eVar 4) (rNil))))))) (eC (.int 0))) (sSet 6 (eVar 7)) (sSet 5 (eVar 7)))
def b_first_rest : Env' → So := sSeq (sDrop (eCallD m_check_line (rV (eVar 0) (rV (eVar 1) (rV (eC (.int 0)) (rV (eVar 2) (rNil)))))))
  (sSeq (sIf (qOr (qNot (qTru (eCallD m_is_within (rV (eVar 3) (rV (eC (.int 0)) (rV (eOp dSub (eVar 2) (eC (.int 1))) (rNil))))))) (qNot (qTru (eCallD m_is_within (rV (eVar 4) (rV (eVar 3) (rV (eOp dSub (eVar 2) (eC (.int 1))) (rNil)))))))) (sRaise0 "NoLine") (sNil))
  (sSeq (sIf (qCmp bEq (eCallD m_rests_between (rV (eVar 0) (rV (eVar 1) (rV (eVar 2) (rV (eVar 3) (rV (eVar 4) (rNil))))))) (eC (.int 0))) (sRet (eC .non)) (sNil))
  (sSeq (sPar 5 6 (eC (.int 0)) (eVar 0))
  (sSeq (sWhile (lq1_first_rest) (lb2_first_rest))
  (sRet (eOp dSub (eVar 6) (eC (.int 1))))))))
def m_first_rest : Fm := runM [false, false, false, false, false] 8 b_first_rest
def b_many_rests : Env' → So := sSeq (sDrop (eCallD m_check_line (rV (eVar 0) (rV (eVar 1) (rV (eC (.int 0)) (rV (eVar 2) (rNil)))))))
  (sSeq (sIf (qOr (qNot (qTru (eCallD m_is_within (rV (eVar 3) (rV (eC (.int 0)) (rV (eOp dSub (eVar 2) (eC (.int 1))) (rNil))))))) (qNot (qTru (eCallD m_is_within (rV (eVar 4) (rV (eVar 3) (rV (eOp dSub (eVar 2) (eC (.int 1))) (rNil)))))))) (sRaise0 "NoLine") (sNil))
  (sRet (eCallD m_rests_between (rV (eVar 0) (rV (eVar 1) (rV (eVar 2) (rV (eVar 3) (rV (eVar 4) (rNil)))))))))
def m_many_rests : Fm := runM [false, false, false, false, false] 5 b_many_rests
def b_in_triangle : Env' → So := sSeq (sIf (qOr (qNot (qTru (eCallD m_is_within (rV (eVar 0) (rV (eC (.int 1)) (rV (eOp dPow (eC (.int 10)) (eC (.int 9))) (rNil))))))) (qOr (qNot (qTru (eCallD m_is_within (rV (eVar 1) (rV (eC (.int 1)) (rV (eOp dPow (eC (.int 10)) (eC (.int 9))) (rNil))))))) (qNot (qTru (eCallD m_is_within (rV (eVar 2) (rV (eC (.int 0)) (rV (eOp dPow (eC (.int 10)) (eC (.int 12))) (rNil))))))))) (sRaise0 "NoNumber") (sNil))
  (sSeq (sSet 3 (eOp dAdd (eOp dDiv (eVar 2) (eVar 0)) (eC (.int 1))))
  (sRet (eOp dAdd (eCallD m_floor_total (rV (eVar 3) (rV (eVar 0) (rV (eOp dMod (eVar 2) (eVar 0)) (rV (eVar 1) (rNil)))))) (eVar 3))))
def m_in_triangle : Fm := runM [false, false, false] 4 b_in_triangle
def lc1__law_hand : Env' → Ro D := eLc [2] (iSeq (eSl (eVar 0) (oNone) (oSome (eC (.int 63))))) (tName 2) (qYes) (eCall oAbs (aCons (eCall oInt (aCons (eVar 2) aNil)) aNil))
def b__law_hand : Env' → So := sSeq (sSetO 1 (lc1__law_hand))
  (sRetF (eLst (aCons (eVar 1) (aCons (eC (.int 0)) (aCons (eC (.int 0)) (aCons (eOp dAdd (eC (.int 727)) (eOp dMul (eC (.int 120)) (eLenV 1))) (aCons (eC (.int 0)) (aNil))))))))
def m__law_hand : Fm := runF [false] 3 b__law_hand
def b__law_draw : Env' → So := sSeq (sIf (qAnd (qCmp bEq (eIxV 0 (eC (.int 2))) (eC (.int 0))) (qCmp bLt (eIxV 0 (eC (.int 1))) (eCall oLen (aCons (eIxV 0 (eC (.int 0))) aNil)))) (sSeq (sSet 3 (eOp dIx (eIxV 0 (eC (.int 0))) (eIxV 0 (eC (.int 1)))))
  (sSeq (sSetIx 0 (eC (.int 1)) (eOp dAdd (eIxV 0 (eC (.int 1))) (eC (.int 1))))
  (sSeq (sSetIx 0 (eC (.int 3)) (eOp dMod (eCall oInt (aCons (eOp dAdd (eOp dAdd (eOp dMul (eIxV 0 (eC (.int 3))) (eC (.int 69621))) (eVar 3)) (eC (.int 103))) aNil)) (eC (.int 2147483629))))
  (sIf (qCmp bGe (eVar 3) (eOp dPow (eC (.int 10)) (eC (.int 18)))) (sSetIx 0 (eC (.int 2)) (eVar 3)) (sNil))))) (sNil))
  (sSeq (sIf (qCmp bGt (eIxV 0 (eC (.int 2))) (eC (.int 0))) (sSeq (sSet 4 (eOp dMod (eCall oInt (aCons (eIxV 0 (eC (.int 2))) aNil)) (eVar 1)))
  (sSeq (sSetIx 0 (eC (.int 2)) (eOp dDiv (eIxV 0 (eC (.int 2))) (eVar 1)))
  (sRet (eVar 4)))) (sNil))
  (sSeq (sSetIx 0 (eC (.int 4)) (eOp dAdd (eIxV 0 (eC (.int 4))) (eC (.int 1))))
  (sSeq (sSet 2 (eOp dMod (eCall oInt (aCons (eOp dMul (eCall oInt (aCons (eOp dAdd (eIxV 0 (eC (.int 3))) (eOp dMul (eC (.int 7919)) (eIxV 0 (eC (.int 4))))) aNil)) (eC (.int 48271))) aNil)) (eC (.int 2147483647))))
  (sSeq (sSet 2 (eOp dMod (eCall oInt (aCons (eOp dMul (eVar 2) (eOp dAdd (eOp dDiv (eVar 2) (eC (.int 1009))) (eC (.int 69621)))) aNil)) (eC (.int 2147483647))))
  (sSeq (sSet 2 (eOp dMod (eCall oInt (aCons (eOp dMul (eVar 2) (eOp dAdd (eOp dDiv (eVar 2) (eC (.int 2003))) (eC (.int 40692)))) aNil)) (eC (.int 2147483399))))
  (sRet (eOp dMod (eCall oInt (aCons (eOp dDiv (eVar 2) (eC (.int 16))) aNil)) (eVar 1))))))))
def m__law_draw : Fm := runM [true, false] 5 b__law_draw
def b__law_some : Env' → So := sRet (eIxV 1 (eCallD m__law_draw (rO 0 (rV (eLenV 1) (rNil)))))
def m__law_some : Fm := runM [true, false] 2 b__law_some
def lc1__law_is (rec : Fm) : Env' → Ro D := eLc [2] (iR1 (eLenV 1)) (tName 2) (qYes) (eCallD rec (rV (eIxV 0 (eVar 2)) (rV (eIxV 1 (eVar 2)) (rNil))))
def b__law_is (rec : Fm) : Env' → So := sSeq (sIf (qTru (eIsi2 .t .l (eVar 1))) (sSeq (sIf (qCmp bNe (eIsi .t (eVar 0)) (eIsi .t (eVar 1))) (sRet (eC (.bl false))) (sNil))
  (sSeq (sIf (qCmp bNe (eIsi .l (eVar 0)) (eIsi .l (eVar 1))) (sRet (eC (.bl false))) (sNil))
  (sSeq (sIf (qCmp bNe (eLenV 0) (eLenV 1)) (sRet (eC (.bl false))) (sNil))
  (sRet (eCall (oQuant allB) (aCons ((lc1__law_is rec)) aNil)))))) (sNil))
  (sSeq (sIf (qCmp bIsN (eVar 1) (eC .non)) (sRet (eCmp bIsN (eVar 0) (eC .non))) (sNil))
  (sSeq (sIf (qOr (qCmp bNe (eIsi .b (eVar 0)) (eIsi .b (eVar 1))) (qCmp bNe (eIsi .i (eVar 0)) (eIsi .i (eVar 1)))) (sRet (eC (.bl false))) (sNil))
  (sRet (eAnd (eCmp bEq (eIsi .s (eVar 0)) (eIsi .s (eVar 1))) (eCmp bEq (eVar 0) (eVar 1))))))
def m__law_is : Nat → Fm
  | 0 => runM [false, false] 3 (fun _ => .stk)
  | n + 1 => runM [false, false] 3 (b__law_is (m__law_is n))
def g__law_word (r : Ro D) : Env' → So := sSeq (sSet 1 (eC (.str "told")))
  (sSeq (sTry 2 errs (sDrop (eTh r)) (fun c pp => sSeq (sSet 3 (eLst (aCons (eC (.bl (c == "NoLine"))) (aCons (eC (.bl (c == "NoNumber"))) (aNil)))))
  (sSeq (sSet 1 (eC (.str "other")))
  (sIf (qAnd (qCmp bEq (eLm dCount 3 (eC (.bl true))) (eC (.int 1))) (qTru (eC (.bl true)))) (sSet 1 (eOp dIx (eLst (aCons (eC (.str "line")) (aCons (eC (.str "number")) (aNil)))) (eLm dIndex 3 (eC (.bl true))))) (sNil)))))
  (sRet (eVar 1)))
def lc1__law_floors : Env' → Ro D := eLc [4] (iR1 (eVar 0)) (tName 4) (qYes) (eOp dDiv (eOp dAdd (eOp dMul (eVar 1) (eVar 4)) (eVar 2)) (eVar 3))
def b__law_floors : Env' → So := sRet (eCall oSumA (aCons (lc1__law_floors) aNil))
def m__law_floors : Fm := runM [false, false, false, false] 5 b__law_floors
def b__law_is_line_right : Env' → So := sSeq (sPar 7 8 (eCallD m__law_draw (rO 0 (rV (eC (.int 40)) (rNil)))) (eOp dAdd (eC (.int 1)) (eCallD m__law_draw (rO 0 (rV (eCallD m__law_some (rO 0 (rV (eLst (aCons (eC (.int 3)) (aCons (eC (.int 20)) (aCons (eC (.int 1000)) (aNil))))) (rNil)))) (rNil))))))
  (sSeq (sPar 9 10 (eOp dSub (eCallD m__law_draw (rO 0 (rV (eC (.int 200)) (rNil)))) (eC (.int 100))) (eOp dSub (eCallD m__law_draw (rO 0 (rV (eC (.int 200)) (rNil)))) (eC (.int 100))))
  (sSeq (sSet 1 (eCallD m__law_floors (rV (eVar 7) (rV (eVar 9) (rV (eVar 10) (rV (eVar 8) (rNil)))))))
  (sSeq (sIf (qNot (qTru (eCallD (m__law_is 8) (rV (eCallD m_floor_sum (rV (eVar 7) (rV (eVar 9) (rV (eVar 10) (rV (eVar 8) (rNil)))))) (rV (eVar 1) (rNil)))))) (sRet (eC (.bl false))) (sNil))
  (sSeq (sIf (qNot (qTru (eCallD (m__law_is 8) (rV (eCallD m_below_line (rV (eVar 7) (rV (eCall oAbs (aCons (eVar 9) aNil)) (rV (eCall oAbs (aCons (eVar 10) aNil)) (rV (eVar 8) (rNil)))))) (rV (eCallD m__law_floors (rV (eVar 7) (rV (eCall oAbs (aCons (eVar 9) aNil)) (rV (eCall oAbs (aCons (eVar 10) aNil)) (rV (eVar 8) (rNil)))))) (rNil)))))) (sRet (eC (.bl false))) (sNil))
  (sSeq (sPar 11 12 (eCallD m__law_draw (rO 0 (rV (eOp dPow (eC (.int 10)) (eC (.int 6))) (rNil)))) (eCallD m__law_draw (rO 0 (rV (eOp dPow (eC (.int 10)) (eC (.int 6))) (rNil)))))
  (sSeq (sSet 2 (eCallD m_floor_sum (rV (eVar 7) (rV (eOp dAdd (eVar 9) (eOp dMul (eVar 11) (eVar 8))) (rV (eOp dAdd (eVar 10) (eOp dMul (eVar 12) (eVar 8))) (rV (eVar 8) (rNil)))))))
  (sSeq (sIf (qNot (qTru (eCallD (m__law_is 8) (rV (eVar 2) (rV (eOp dAdd (eOp dAdd (eVar 1) (eOp dMul (eVar 11) (eOp dDiv (eOp dMul (eVar 7) (eOp dSub (eVar 7) (eC (.int 1)))) (eC (.int 2))))) (eOp dMul (eVar 12) (eVar 7))) (rNil)))))) (sRet (eC (.bl false))) (sNil))
  (sSeq (sSet 3 (eOp dAdd (eC (.int 1)) (eCallD m__law_draw (rO 0 (rV (eOp dPow (eC (.int 10)) (eC (.int 6))) (rNil))))))
  (sSeq (sSet 4 (eOp dMul (eVar 7) (eVar 8)))
  (sSeq (sIf (qCmp bLt (eVar 4) (eC (.int 500))) (sSeq (sSet 13 (eCallD m__law_floors (rV (eVar 4) (rV (eVar 9) (rV (eVar 10) (rV (eVar 8) (rNil)))))))
  (sIf (qCmp bNe (eCallD m_floor_sum (rV (eVar 4) (rV (eVar 9) (rV (eVar 10) (rV (eVar 8) (rNil)))))) (eVar 13)) (sRet (eC (.bl false))) (sNil))) (sNil))
  (sSeq (sSet 5 (eCallD m_floor_sum (rV (eOp dMul (eVar 8) (eVar 3)) (rV (eVar 9) (rV (eVar 10) (rV (eVar 8) (rNil)))))))
  (sSeq (sSet 6 (eCallD m__law_floors (rV (eCall (o2I min2) (aCons (eVar 8) (aCons (eC (.int 300)) aNil))) (rV (eOp dAdd (eVar 9) (eC (.int 0))) (rV (eOp dAdd (eVar 10) (eOp dMul (eOp dMul (eVar 9) (eVar 8)) (eVar 3))) (rV (eVar 8) (rNil)))))))
  (sRet (eCmp bEq (eCallD m_floor_sum (rV (eOp dAdd (eOp dMul (eVar 8) (eVar 3)) (eCall (o2I min2) (aCons (eVar 8) (aCons (eC (.int 300)) aNil)))) (rV (eVar 9) (rV (eVar 10) (rV (eVar 8) (rNil)))))) (eOp dAdd (eVar 5) (eVar 6))))))))))))))))
def m__law_is_line_right : Fm := runM [true] 14 b__law_is_line_right
def lc1__law_are_rests_right : Env' → Ro D := eLc [10] (iR1 (eVar 6)) (tName 10) (qChain bLe bLe (eVar 9) (eOp dMod (eCall oInt (aCons (eOp dMul (eVar 8) (eVar 10)) aNil)) (eVar 7)) (eVar 1)) (eVar 10)
def lc2__law_are_rests_right : Env' → Ro D := eLc [10] (iR1 (eVar 7)) (tName 10) (qChain bLe bLe (eVar 9) (eOp dMod (eCall oInt (aCons (eOp dMul (eVar 8) (eVar 10)) aNil)) (eVar 7)) (eVar 1)) (eVar 10)
def b__law_are_rests_right : Env' → So := sSeq (sAsg (tTupl 2 (tsCons (tName 6) (tsCons (tName 7) (tsNil)))) (eTup (aCons (eCallD m__law_draw (rO 0 (rV (eC (.int 60)) (rNil)))) (aCons (eOp dAdd (eC (.int 1)) (eCallD m__law_draw (rO 0 (rV (eCallD m__law_some (rO 0 (rV (eLst (aCons (eC (.int 3)) (aCons (eC (.int 12)) (aCons (eC (.int 50)) (aNil))))) (rNil)))) (rNil))))) (aNil)))))
  (sSeq (sAsg (tTupl 2 (tsCons (tName 8) (tsCons (tName 9) (tsNil)))) (eTup (aCons (eCallD m__law_draw (rO 0 (rV (eC (.int 200)) (rNil)))) (aCons (eCallD m__law_draw (rO 0 (rV (eVar 7) (rNil)))) (aNil)))))
  (sSeq (sSet 1 (eOp dAdd (eVar 9) (eCallD m__law_draw (rO 0 (rV (eOp dSub (eVar 7) (eVar 9)) (rNil))))))
  (sSeq (sSetO 2 (lc1__law_are_rests_right))
  (sSeq (sSet 3 (eLst (aCons (eLenV 2) (aCons (eIf (qCmp bNe (eVar 2) (eLst (aNil))) (eIxV 2 (eC (.int 0))) (eC .non)) (aNil)))))
  (sSeq (sIf (qNot (qTru (eCallD (m__law_is 8) (rV (eLst (aCons (eCallD m_many_rests (rV (eVar 6) (rV (eVar 8) (rV (eVar 7) (rV (eVar 9) (rV (eVar 1) (rNil))))))) (aCons (eCallD m_first_rest (rV (eVar 6) (rV (eVar 8) (rV (eVar 7) (rV (eVar 9) (rV (eVar 1) (rNil))))))) (aNil)))) (rV (eVar 3) (rNil)))))) (sRet (eC (.bl false))) (sNil))
  (sSeq (sSet 4 (eOp dAdd (eC (.int 1)) (eCallD m__law_draw (rO 0 (rV (eOp dPow (eC (.int 10)) (eC (.int 9))) (rNil))))))
  (sSeq (sSet 5 (eCall oLen (aCons (lc2__law_are_rests_right) aNil)))
  (sRet (eCallD (m__law_is 8) (rV (eCallD m_many_rests (rV (eOp dMul (eVar 7) (eVar 4)) (rV (eVar 8) (rV (eVar 7) (rV (eVar 9) (rV (eVar 1) (rNil))))))) (rV (eOp dMul (eVar 5) (eVar 4)) (rNil))))))))))))
def m__law_are_rests_right : Fm := runM [true] 11 b__law_are_rests_right
def lc1__law_is_triangle_right : Env' → Ro D := eLc [6] (iR1 (eOp dAdd (eOp dDiv (eVar 5) (eVar 3)) (eC (.int 1)))) (tName 6) (qYes) (eOp dAdd (eOp dDiv (eOp dSub (eVar 5) (eOp dMul (eVar 3) (eVar 6))) (eVar 4)) (eC (.int 1)))
def b__law_is_triangle_right : Env' → So := sSeq (sAsg (tTupl 3 (tsCons (tName 3) (tsCons (tName 4) (tsCons (tName 5) (tsNil))))) (eTup (aCons (eOp dAdd (eC (.int 1)) (eCallD m__law_draw (rO 0 (rV (eC (.int 9)) (rNil))))) (aCons (eOp dAdd (eC (.int 1)) (eCallD m__law_draw (rO 0 (rV (eC (.int 9)) (rNil))))) (aCons (eCallD m__law_draw (rO 0 (rV (eC (.int 60)) (rNil)))) (aNil))))))
  (sSeq (sSet 1 (eCall oSumA (aCons (lc1__law_is_triangle_right) aNil)))
  (sSeq (sIf (qNot (qTru (eCallD (m__law_is 8) (rV (eLst (aCons (eCallD m_in_triangle (rV (eVar 3) (rV (eVar 4) (rV (eVar 5) (rNil))))) (aCons (eCallD m_in_triangle (rV (eVar 4) (rV (eVar 3) (rV (eVar 5) (rNil))))) (aNil)))) (rV (eLst (aCons (eVar 1) (aCons (eVar 1) (aNil)))) (rNil)))))) (sRet (eC (.bl false))) (sNil))
  (sSeq (sSet 2 (eOp dAdd (eC (.int 1)) (eCallD m__law_draw (rO 0 (rV (eOp dPow (eC (.int 10)) (eC (.int 6))) (rNil))))))
  (sRet (eCallD (m__law_is 8) (rV (eCallD m_in_triangle (rV (eOp dMul (eVar 3) (eVar 2)) (rV (eOp dMul (eVar 4) (eVar 2)) (rV (eOp dAdd (eOp dMul (eVar 5) (eVar 2)) (eCallD m__law_draw (rO 0 (rV (eVar 2) (rNil))))) (rNil))))) (rV (eVar 1) (rNil))))))))
def m__law_is_triangle_right : Fm := runM [true] 7 b__law_is_triangle_right
def b__law_refused_right : Env' → So := sSeq (sSet 1 (eCallD m__law_some (rO 0 (rV (eLst (aCons (eTup (aCons (eNeg (eC (.int 1))) (aCons (eC (.int 1)) (aCons (eC (.int 1)) (aCons (eC (.int 2)) (aNil)))))) (aCons (eTup (aCons (eC (.int 5)) (aCons (eC (.int 1)) (aCons (eC (.int 1)) (aCons (eC (.int 0)) (aNil)))))) (aCons (eTup (aCons (eC (.int 5)) (aCons (eOp dAdd (eOp dPow (eC (.int 10)) (eC (.int 12))) (eC (.int 1))) (aCons (eC (.int 0)) (aCons (eC (.int 2)) (aNil)))))) (aCons (eTup (aCons (eC (.int 5)) (aCons (eC (.int 1)) (aCons (eC .non) (aCons (eC (.int 2)) (aNil)))))) (aCons (eTup (aCons (eC (.bl true)) (aCons (eC (.int 1)) (aCons (eC (.int 1)) (aCons (eC (.int 2)) (aNil)))))) (aCons (eTup (aCons (eC (.str "5")) (aCons (eC (.int 1)) (aCons (eC (.int 1)) (aCons (eC (.int 2)) (aNil)))))) (aNil)))))))) (rNil)))))
  (sSeq (sSetO 2 (eLst (aCons (eLam (runG 4 g__law_word) (eCallD m_floor_sum (rV (eIxV 1 (eC (.int 0))) (rV (eIxV 1 (eC (.int 1))) (rV (eIxV 1 (eC (.int 2))) (rV (eIxV 1 (eC (.int 3))) (rNil))))))) (aNil))))
  (sSeq (sSet 3 (eCallD m__law_some (rO 0 (rV (eLst (aCons (eTup (aCons (eC (.int 5)) (aCons (eNeg (eC (.int 1))) (aCons (eC (.int 1)) (aCons (eC (.int 2)) (aNil)))))) (aCons (eTup (aCons (eC (.int 5)) (aCons (eC (.int 1)) (aCons (eNeg (eC (.int 1))) (aCons (eC (.int 2)) (aNil)))))) (aCons (eTup (aCons (eC (.int 5)) (aCons (eC (.int 1)) (aCons (eC (.int 1)) (aCons (eC (.int 0)) (aNil)))))) (aCons (eTup (aCons (eNeg (eC (.int 1))) (aCons (eC (.int 1)) (aCons (eC (.int 1)) (aCons (eC (.int 2)) (aNil)))))) (aNil)))))) (rNil)))))
  (sSeq (sMut1 2 oApp (eLam (runG 4 g__law_word) (eCallD m_below_line (rV (eIxV 3 (eC (.int 0))) (rV (eIxV 3 (eC (.int 1))) (rV (eIxV 3 (eC (.int 2))) (rV (eIxV 3 (eC (.int 3))) (rNil))))))))
  (sSeq (sSet 4 (eCallD m__law_some (rO 0 (rV (eLst (aCons (eTup (aCons (eC (.int 5)) (aCons (eC (.int 1)) (aCons (eC (.int 3)) (aCons (eC (.int 2)) (aCons (eC (.int 1)) (aNil))))))) (aCons (eTup (aCons (eC (.int 5)) (aCons (eC (.int 1)) (aCons (eC (.int 3)) (aCons (eC (.int 0)) (aCons (eC (.int 3)) (aNil))))))) (aCons (eTup (aCons (eC (.int 5)) (aCons (eC (.int 1)) (aCons (eC (.int 3)) (aCons (eNeg (eC (.int 1))) (aCons (eC (.int 2)) (aNil))))))) (aCons (eTup (aCons (eC (.int 5)) (aCons (eC (.int 1)) (aCons (eC (.int 0)) (aCons (eC (.int 0)) (aCons (eC (.int 0)) (aNil))))))) (aCons (eTup (aCons (eNeg (eC (.int 1))) (aCons (eC (.int 1)) (aCons (eC (.int 3)) (aCons (eC (.int 0)) (aCons (eC (.int 1)) (aNil))))))) (aNil))))))) (rNil)))))
  (sSeq (sMut1 2 oApp (eLam (runG 4 g__law_word) (eCallD m_many_rests (rV (eIxV 4 (eC (.int 0))) (rV (eIxV 4 (eC (.int 1))) (rV (eIxV 4 (eC (.int 2))) (rV (eIxV 4 (eC (.int 3))) (rV (eIxV 4 (eC (.int 4))) (rNil)))))))))
  (sSeq (sMut1 2 oApp (eLam (runG 4 g__law_word) (eCallD m_first_rest (rV (eIxV 4 (eC (.int 0))) (rV (eIxV 4 (eC (.int 1))) (rV (eIxV 4 (eC (.int 2))) (rV (eIxV 4 (eC (.int 3))) (rV (eIxV 4 (eC (.int 4))) (rNil)))))))))
  (sSeq (sSet 5 (eCallD m__law_some (rO 0 (rV (eLst (aCons (eTup (aCons (eC (.int 0)) (aCons (eC (.int 1)) (aCons (eC (.int 5)) (aNil))))) (aCons (eTup (aCons (eC (.int 1)) (aCons (eC (.int 0)) (aCons (eC (.int 5)) (aNil))))) (aCons (eTup (aCons (eC (.int 1)) (aCons (eC (.int 1)) (aCons (eNeg (eC (.int 1))) (aNil))))) (aCons (eTup (aCons (eC (.int 1)) (aCons (eC .non) (aCons (eC (.int 5)) (aNil))))) (aCons (eTup (aCons (eOp dAdd (eOp dPow (eC (.int 10)) (eC (.int 9))) (eC (.int 1))) (aCons (eC (.int 1)) (aCons (eC (.int 5)) (aNil))))) (aCons (eTup (aCons (eC (.int 1)) (aCons (eC (.int 1)) (aCons (eOp dAdd (eOp dPow (eC (.int 10)) (eC (.int 12))) (eC (.int 1))) (aNil))))) (aCons (eTup (aCons (eC (.bl true)) (aCons (eC (.int 1)) (aCons (eC (.int 5)) (aNil))))) (aNil))))))))) (rNil)))))
  (sSeq (sMut1 2 oApp (eLam (runG 4 g__law_word) (eCallD m_in_triangle (rV (eIxV 5 (eC (.int 0))) (rV (eIxV 5 (eC (.int 1))) (rV (eIxV 5 (eC (.int 2))) (rNil)))))))
  (sRet (eCmp bEq (eVar 2) (eOp dAddL (eOp dMul (eLst (aCons (eC (.str "line")) (aNil))) (eC (.int 4))) (eLst (aCons (eC (.str "number")) (aNil))))))))))))))
def m__law_refused_right : Fm := runM [true] 6 b__law_refused_right
def lb1_law : Env' → So := sSeq (sIf (qNot (qTru (eCallD m__law_is_line_right (rO 1 (rNil))))) (sRet (eC (.bl false))) (sNil))
  (sSeq (sIf (qNot (qTru (eCallD m__law_are_rests_right (rO 1 (rNil))))) (sRet (eC (.bl false))) (sNil))
  (sSeq (sIf (qNot (qTru (eCallD m__law_is_triangle_right (rO 1 (rNil))))) (sRet (eC (.bl false))) (sNil))
  (sIf (qNot (qTru (eCallD m__law_refused_right (rO 1 (rNil))))) (sRet (eC (.bl false))) (sNil))))
def b_law : Env' → So := sSeq (sSetO 1 (eCallD m__law_hand (rV (eVar 0) (rNil))))
  (sSeq (sSet 2 (eLst (aCons (eCallD m_floor_sum (rV (eC (.int 5)) (rV (eC (.int 3)) (rV (eC (.int 1)) (rV (eC (.int 4)) (rNil)))))) (aCons (eCallD m_many_rests (rV (eC (.int 10)) (rV (eC (.int 3)) (rV (eC (.int 10)) (rV (eC (.int 0)) (rV (eC (.int 2)) (rNil))))))) (aCons (eCallD m_first_rest (rV (eC (.int 10)) (rV (eC (.int 3)) (rV (eC (.int 10)) (rV (eC (.int 1)) (rV (eC (.int 1)) (rNil))))))) (aCons (eCallD m_in_triangle (rV (eC (.int 2)) (rV (eC (.int 3)) (rV (eC (.int 6)) (rNil))))) (aNil)))))))
  (sSeq (sIf (qNot (qTru (eCallD (m__law_is 8) (rV (eVar 2) (rV (eLst (aCons (eC (.int 7)) (aCons (eC (.int 3)) (aCons (eC (.int 7)) (aCons (eC (.int 7)) (aNil)))))) (rNil)))))) (sRet (eC (.bl false))) (sNil))
  (sSeq (sFor (iR1 (eC (.int 4))) (tName 3) (lb1_law))
  (sRet (eC (.bl true))))))
def m_law : Fm := runM [false] 4 b_law
/-! what the top has written -/
structure Tx (P : Program) (K : PySem.W.Frag) (mg : Str → Option Value) (base : Heap) where
  a_is_integer : Addr
  fd_is_integer : FuncData
  g_is_integer : mg "is_integer" = some (.ref a_is_integer)
  F_is_integer : L2.Fun K "is_integer" "is_integer" (tp 1) a_is_integer fd_is_integer
  B_is_integer : Binds K fd_is_integer ["thing"] []
  a_is_within : Addr
  fd_is_within : FuncData
  g_is_within : mg "is_within" = some (.ref a_is_within)
  F_is_within : L2.Fun K "is_within" "is_within" (tp 2) a_is_within fd_is_within
  B_is_within : Binds K fd_is_within ["thing", "least", "most"] []
  a_floor_total : Addr
  fd_floor_total : FuncData
  g_floor_total : mg "floor_total" = some (.ref a_floor_total)
  F_floor_total : L2.Fun K "floor_total" "floor_total" (tp 8) a_floor_total fd_floor_total
  B_floor_total : Binds K fd_floor_total ["many", "step", "begin", "whole"] []
  a_check_line : Addr
  fd_check_line : FuncData
  g_check_line : mg "check_line" = some (.ref a_check_line)
  F_check_line : L2.Fun K "check_line" "check_line" (tp 9) a_check_line fd_check_line
  B_check_line : Binds K fd_check_line ["many", "step", "begin", "whole"] []
  a_floor_sum : Addr
  fd_floor_sum : FuncData
  g_floor_sum : mg "floor_sum" = some (.ref a_floor_sum)
  F_floor_sum : L2.Fun K "floor_sum" "floor_sum" (tp 10) a_floor_sum fd_floor_sum
  B_floor_sum : Binds K fd_floor_sum ["many", "step", "begin", "whole"] []
  a_below_line : Addr
  fd_below_line : FuncData
  g_below_line : mg "below_line" = some (.ref a_below_line)
  F_below_line : L2.Fun K "below_line" "below_line" (tp 11) a_below_line fd_below_line
  B_below_line : Binds K fd_below_line ["many", "step", "begin", "whole"] []
  a_first_rest : Addr
  fd_first_rest : FuncData
  g_first_rest : mg "first_rest" = some (.ref a_first_rest)
  F_first_rest : L2.Fun K "first_rest" "first_rest" (tp 12) a_first_rest fd_first_rest
  B_first_rest : Binds K fd_first_rest ["many", "step", "whole", "low", "high"] []
  a_rests_between : Addr
  fd_rests_between : FuncData
  g_rests_between : mg "rests_between" = some (.ref a_rests_between)
  F_rests_between : L2.Fun K "rests_between" "rests_between" (tp 13) a_rests_between fd_rests_between
  B_rests_between : Binds K fd_rests_between ["many", "step", "whole", "low", "high"] []
  a_many_rests : Addr
  fd_many_rests : FuncData
  g_many_rests : mg "many_rests" = some (.ref a_many_rests)
  F_many_rests : L2.Fun K "many_rests" "many_rests" (tp 14) a_many_rests fd_many_rests
  B_many_rests : Binds K fd_many_rests ["many", "step", "whole", "low", "high"] []
  a_in_triangle : Addr
  fd_in_triangle : FuncData
  g_in_triangle : mg "in_triangle" = some (.ref a_in_triangle)
  F_in_triangle : L2.Fun K "in_triangle" "in_triangle" (tp 15) a_in_triangle fd_in_triangle
  B_in_triangle : Binds K fd_in_triangle ["a", "b", "most"] []
  a__law_hand : Addr
  fd__law_hand : FuncData
  g__law_hand : mg "_law_hand" = some (.ref a__law_hand)
  F__law_hand : L2.Fun K "_law_hand" "_law_hand" (tp 17) a__law_hand fd__law_hand
  B__law_hand : Binds K fd__law_hand ["script"] []
  a__law_draw : Addr
  fd__law_draw : FuncData
  g__law_draw : mg "_law_draw" = some (.ref a__law_draw)
  F__law_draw : L2.Fun K "_law_draw" "_law_draw" (tp 18) a__law_draw fd__law_draw
  B__law_draw : Binds K fd__law_draw ["hand", "many"] []
  a__law_some : Addr
  fd__law_some : FuncData
  g__law_some : mg "_law_some" = some (.ref a__law_some)
  F__law_some : L2.Fun K "_law_some" "_law_some" (tp 19) a__law_some fd__law_some
  B__law_some : Binds K fd__law_some ["hand", "things"] []
  a__law_is : Addr
  fd__law_is : FuncData
  g__law_is : mg "_law_is" = some (.ref a__law_is)
  F__law_is : L2.Fun K "_law_is" "_law_is" (tp 20) a__law_is fd__law_is
  B__law_is : Binds K fd__law_is ["told", "due"] []
  a__law_word : Addr
  fd__law_word : FuncData
  g__law_word : mg "_law_word" = some (.ref a__law_word)
  F__law_word : L2.Fun K "_law_word" "_law_word" (tp 21) a__law_word fd__law_word
  B__law_word : Binds K fd__law_word ["call"] []
  a__law_floors : Addr
  fd__law_floors : FuncData
  g__law_floors : mg "_law_floors" = some (.ref a__law_floors)
  F__law_floors : L2.Fun K "_law_floors" "_law_floors" (tp 22) a__law_floors fd__law_floors
  B__law_floors : Binds K fd__law_floors ["many", "step", "begin", "whole"] []
  a__law_is_line_right : Addr
  fd__law_is_line_right : FuncData
  g__law_is_line_right : mg "_law_is_line_right" = some (.ref a__law_is_line_right)
  F__law_is_line_right : L2.Fun K "_law_is_line_right" "_law_is_line_right" (tp 23) a__law_is_line_right fd__law_is_line_right
  B__law_is_line_right : Binds K fd__law_is_line_right ["hand"] []
  a__law_are_rests_right : Addr
  fd__law_are_rests_right : FuncData
  g__law_are_rests_right : mg "_law_are_rests_right" = some (.ref a__law_are_rests_right)
  F__law_are_rests_right : L2.Fun K "_law_are_rests_right" "_law_are_rests_right" (tp 24) a__law_are_rests_right fd__law_are_rests_right
  B__law_are_rests_right : Binds K fd__law_are_rests_right ["hand"] []
  a__law_is_triangle_right : Addr
  fd__law_is_triangle_right : FuncData
  g__law_is_triangle_right : mg "_law_is_triangle_right" = some (.ref a__law_is_triangle_right)
  F__law_is_triangle_right : L2.Fun K "_law_is_triangle_right" "_law_is_triangle_right" (tp 25) a__law_is_triangle_right fd__law_is_triangle_right
  B__law_is_triangle_right : Binds K fd__law_is_triangle_right ["hand"] []
  a__law_refused_right : Addr
  fd__law_refused_right : FuncData
  g__law_refused_right : mg "_law_refused_right" = some (.ref a__law_refused_right)
  F__law_refused_right : L2.Fun K "_law_refused_right" "_law_refused_right" (tp 26) a__law_refused_right fd__law_refused_right
  B__law_refused_right : Binds K fd__law_refused_right ["hand"] []
  a_law : Addr
  fd_law : FuncData
  g_law : mg "law" = some (.ref a_law)
  F_law : L2.Fun K "law" "law" (tp 27) a_law fd_law
  B_law : Binds K fd_law ["script"] []
  n_ValueError : mg "ValueError" = none
  n_abs : mg "abs" = none
  n_all : mg "all" = none
  n_bool : mg "bool" = none
  n_int : mg "int" = none
  n_isinstance : mg "isinstance" = none
  n_len : mg "len" = none
  n_list : mg "list" = none
  n_min : mg "min" = none
  n_range : mg "range" = none
  n_str : mg "str" = none
  n_sum : mg "sum" = none
  n_tuple : mg "tuple" = none
  aC_GridError : Addr
  C_GridError : mg "GridError" = some (.ref aC_GridError)
  aC_NoNumber : Addr
  aI_NoNumber : Addr
  C_NoNumber : mg "NoNumber" = some (.ref aC_NoNumber)
  E_NoNumber : ETx P K mg "NoNumber" aC_NoNumber
  I_NoNumber : ITx P K aC_NoNumber aI_NoNumber ["self"] []
  aC_NoLine : Addr
  aI_NoLine : Addr
  C_NoLine : mg "NoLine" = some (.ref aC_NoLine)
  E_NoLine : ETx P K mg "NoLine" aC_NoLine
  I_NoLine : ITx P K aC_NoLine aI_NoLine ["self"] []
  ex_GridError : ∀ c C, errs.contains c = true → mg c = some (.ref C) → PySem.W.exmOne K (.ref C) (.ref aC_GridError) = some true
  xc : ∀ c C, errs.contains c = true → mg c = some (.ref C) → ExcC K C
  k_ValueError : ∀ c C, errs.contains c = true → mg c = some (.ref C) → PySem.W.kitOne K (.ref C) (.type "ValueError") = some true
  k_NoNumber : ∀ c C, errs.contains c = true → mg c = some (.ref C) → PySem.W.kitOne K (.ref C) (.ref aC_NoNumber) = some (c == "NoNumber")
  k_NoLine : ∀ c C, errs.contains c = true → mg c = some (.ref C) → PySem.W.kitOne K (.ref C) (.ref aC_NoLine) = some (c == "NoLine")
  P__law_refused_right : Addr
  cA__law_refused_right : Addr
  c__law_refused_right : Rf.codeAt K a__law_refused_right = some (.ref cA__law_refused_right)
  T__law_refused_right : TabB base mg cA__law_refused_right P__law_refused_right
section
variable {P : Program} {w : World} {K : PySem.W.Frag} {mg : Str → Option Value} {base : Heap} (tx : Tx P K mg base)
def tT : Tb := ⟨[(tx.P__law_refused_right, ("_law_refused_right.<locals>.<lambda>" : Str))], [], fun _ => none, fun _ => none⟩
theorem m_in__law_refused_right : (tx.P__law_refused_right, ("_law_refused_right.<locals>.<lambda>" : Str)) ∈ (tT tx).tabs := by simp [tT]
theorem u_of__law_refused_right : ∀ p ∈ (tT tx).tabs, p.1 = tx.P__law_refused_right → p.2 = "_law_refused_right.<locals>.<lambda>" := fun p hp e => by
  simp only [tT, List.mem_cons, List.not_mem_nil, or_false] at hp
  rw [hp]
theorem bd_is_integer : Body P w K mg base 0 "is_integer" (tp 1) tx.a_is_integer ["thing"] [false] (tT tx) b_is_integer := fun cdv A outer s H E pins hcd Fr pm =>
  (sb_one (ss_ret (se_and (se_isi .i (by decide +kernel) rfl tx.n_isinstance rfl tx.n_int (se_var 0)) (se_one (se_not (se_isi .b (by decide +kernel) rfl tx.n_isinstance rfl tx.n_bool (se_var 0)))))))
theorem c_is_integer : Rf.Cal P w K mg base 1 "is_integer" (spM ⟨K, mg⟩ (tT tx) m_is_integer) := ⟨tx.a_is_integer, tx.fd_is_integer, ["thing"], fnG_of tx.F_is_integer sc_is_integer rfl (bd_is_integer tx), tx.g_is_integer, tx.F_is_integer.kp, tx.B_is_integer⟩
theorem bd_is_within : Body P w K mg base 1 "is_within" (tp 2) tx.a_is_within ["thing", "least", "most"] [false, false, false] (tT tx) b_is_within := fun cdv A outer s H E pins hcd Fr pm =>
  (sb_one (ss_ret (se_and (se_callG (c_is_integer tx) Fr.C Fr.tk (by decide) rfl (sr_v (se_var 0) sr_nil)) (se_one (se_ch cm_le cm_le (se_var 1) (se_var 0) (se_var 2))))))
theorem c_is_within : Rf.Cal P w K mg base 2 "is_within" (spM ⟨K, mg⟩ (tT tx) m_is_within) := ⟨tx.a_is_within, tx.fd_is_within, ["thing", "least", "most"], fnG_of tx.F_is_within sc_is_within rfl (bd_is_within tx), tx.g_is_within, tx.F_is_within.kp, tx.B_is_within⟩
theorem bd_floor_total : Body P w K mg base 0 "floor_total" (tp 8) tx.a_floor_total ["many", "step", "begin", "whole", "total", "top"] [false, false, false, false] (tT tx) b_floor_total := fun cdv A outer s H E pins hcd Fr pm =>
  (sb_cons (ss_par Fr.C 4 5 (fr_of pm (i := 4)) (fr_of pm (i := 5)) (by decide) se_int (se_var 3))
  (sb_cons (ss_while Fr.po (sq_cm cm_ge (se_var 5) (se_var 3)) (sb_cons (ss_aug Fr.C.cs ip_add 4 (fr_of pm (i := 4)) (se_add (se_mul (se_div (se_var 1) (se_var 3)) (se_div (se_mul (se_var 0) (se_sub (se_var 0) se_int)) se_int)) (se_mul (se_div (se_var 2) (se_var 3)) (se_var 0))))
  (sb_cons (ss_par Fr.C 1 2 (fr_of pm (i := 1)) (fr_of pm (i := 2)) (by decide) (se_mod (se_var 1) (se_var 3)) (se_mod (se_var 2) (se_var 3)))
  (sb_cons (ss_set Fr.C.cs 5 (fr_of pm (i := 5)) (se_add (se_mul (se_var 1) (se_var 0)) (se_var 2)))
  (sb_one (ss_if (sq_cm cm_ge (se_var 5) (se_var 3)) (sb_cons (ss_par Fr.C 0 2 (fr_of pm (i := 0)) (fr_of pm (i := 2)) (by decide) (se_div (se_var 5) (se_var 3)) (se_mod (se_var 5) (se_var 3)))
  (sb_cons (ss_par Fr.C 1 3 (fr_of pm (i := 1)) (fr_of pm (i := 3)) (by decide) (se_var 3) (se_var 1))
  (sb_one (ss_set Fr.C.cs 5 (fr_of pm (i := 5)) (se_var 3))))) sb_nil))))))
  (sb_one (ss_ret (se_var 4)))))
theorem c_floor_total : Rf.Cal P w K mg base 1 "floor_total" (spM ⟨K, mg⟩ (tT tx) m_floor_total) := ⟨tx.a_floor_total, tx.fd_floor_total, ["many", "step", "begin", "whole"], fnG_of tx.F_floor_total sc_floor_total rfl (bd_floor_total tx), tx.g_floor_total, tx.F_floor_total.kp, tx.B_floor_total⟩
theorem bd_check_line : Body P w K mg base 2 "check_line" (tp 9) tx.a_check_line ["many", "step", "begin", "whole"] [false, false, false, false] (tT tx) b_check_line := fun cdv A outer s H E pins hcd Fr pm =>
  (sb_cons (ss_if (SW.sq (sw_or (sq_not (sq_tru (se_callG (c_is_within tx) Fr.C Fr.tk (by decide) rfl (sr_v (se_var 0) (sr_v se_int (sr_v (se_pow se_int se_int) sr_nil)))))) (sw_or1 (sq_not (sq_tru (se_callG (c_is_within tx) Fr.C Fr.tk (by decide) rfl (sr_v (se_var 3) (sr_v se_int (sr_v (se_pow se_int se_int) sr_nil))))))))) (sb_one (ss_raise0 (k := 0) Fr tx.E_NoLine tx.I_NoLine (by decide) rfl)) sb_nil)
  (sb_one (ss_if (SW.sq (sw_or (sq_not (sq_tru (se_callG (c_is_within tx) Fr.C Fr.tk (by decide) rfl (sr_v (se_var 1) (sr_v (se_negD (se_pow se_int se_int)) (sr_v (se_pow se_int se_int) sr_nil)))))) (sw_or1 (sq_not (sq_tru (se_callG (c_is_within tx) Fr.C Fr.tk (by decide) rfl (sr_v (se_var 2) (sr_v (se_negD (se_pow se_int se_int)) (sr_v (se_pow se_int se_int) sr_nil))))))))) (sb_one (ss_raise0 (k := 0) Fr tx.E_NoLine tx.I_NoLine (by decide) rfl)) sb_nil)))
theorem c_check_line : Rf.Cal P w K mg base 3 "check_line" (spM ⟨K, mg⟩ (tT tx) m_check_line) := ⟨tx.a_check_line, tx.fd_check_line, ["many", "step", "begin", "whole"], fnG_of tx.F_check_line sc_check_line rfl (bd_check_line tx), tx.g_check_line, tx.F_check_line.kp, tx.B_check_line⟩
theorem bd_floor_sum : Body P w K mg base 3 "floor_sum" (tp 10) tx.a_floor_sum ["many", "step", "begin", "whole"] [false, false, false, false] (tT tx) b_floor_sum := fun cdv A outer s H E pins hcd Fr pm =>
  (sb_cons (ss_expr (se_callG (c_check_line tx) Fr.C Fr.tk (by decide) rfl (sr_v (se_var 0) (sr_v (se_var 1) (sr_v (se_var 2) (sr_v (se_var 3) sr_nil))))))
  (sb_one (ss_ret (se_callG (c_floor_total tx) Fr.C Fr.tk (by decide) rfl (sr_v (se_var 0) (sr_v (se_var 1) (sr_v (se_var 2) (sr_v (se_var 3) sr_nil))))))))
theorem c_floor_sum : Rf.Cal P w K mg base 4 "floor_sum" (spM ⟨K, mg⟩ (tT tx) m_floor_sum) := ⟨tx.a_floor_sum, tx.fd_floor_sum, ["many", "step", "begin", "whole"], fnG_of tx.F_floor_sum sc_floor_sum rfl (bd_floor_sum tx), tx.g_floor_sum, tx.F_floor_sum.kp, tx.B_floor_sum⟩
theorem bd_below_line : Body P w K mg base 3 "below_line" (tp 11) tx.a_below_line ["many", "step", "begin", "whole"] [false, false, false, false] (tT tx) b_below_line := fun cdv A outer s H E pins hcd Fr pm =>
  (sb_cons (ss_expr (se_callG (c_check_line tx) Fr.C Fr.tk (by decide) rfl (sr_v (se_var 0) (sr_v (se_var 1) (sr_v (se_var 2) (sr_v (se_var 3) sr_nil))))))
  (sb_cons (ss_if (SW.sq (sw_or (sq_cm (cm_lt Fr.C.cs) (se_var 1) se_int) (sw_or1 (sq_cm (cm_lt Fr.C.cs) (se_var 2) se_int)))) (sb_one (ss_raise0 (k := 0) Fr tx.E_NoLine tx.I_NoLine (by decide) rfl)) sb_nil)
  (sb_one (ss_ret (se_callG (c_floor_total tx) Fr.C Fr.tk (by decide) rfl (sr_v (se_var 0) (sr_v (se_var 1) (sr_v (se_var 2) (sr_v (se_var 3) sr_nil)))))))))
theorem c_below_line : Rf.Cal P w K mg base 4 "below_line" (spM ⟨K, mg⟩ (tT tx) m_below_line) := ⟨tx.a_below_line, tx.fd_below_line, ["many", "step", "begin", "whole"], fnG_of tx.F_below_line sc_below_line rfl (bd_below_line tx), tx.g_below_line, tx.F_below_line.kp, tx.B_below_line⟩
theorem bd_rests_between : Body P w K mg base 1 "rests_between" (tp 13) tx.a_rests_between ["many", "step", "whole", "low", "high"] [false, false, false, false, false] (tT tx) b_rests_between := fun cdv A outer s H E pins hcd Fr pm =>
  (sb_cons (ss_set Fr.C.cs 1 (fr_of pm (i := 1)) (se_mod (se_var 1) (se_var 2)))
  (sb_one (ss_ret (se_sub (se_callG (c_floor_total tx) Fr.C Fr.tk (by decide) rfl (sr_v (se_var 0) (sr_v (se_var 1) (sr_v (se_sub (se_var 2) (se_var 3)) (sr_v (se_var 2) sr_nil))))) (se_callG (c_floor_total tx) Fr.C Fr.tk (by decide) rfl (sr_v (se_var 0) (sr_v (se_var 1) (sr_v (se_sub (se_sub (se_var 2) (se_var 4)) se_int) (sr_v (se_var 2) sr_nil)))))))))
theorem c_rests_between : Rf.Cal P w K mg base 2 "rests_between" (spM ⟨K, mg⟩ (tT tx) m_rests_between) := ⟨tx.a_rests_between, tx.fd_rests_between, ["many", "step", "whole", "low", "high"], fnG_of tx.F_rests_between sc_rests_between rfl (bd_rests_between tx), tx.g_rests_between, tx.F_rests_between.kp, tx.B_rests_between⟩
theorem bd_first_rest : Body P w K mg base 3 "first_rest" (tp 12) tx.a_first_rest ["many", "step", "whole", "low", "high", "least", "most", "middle"] [false, false, false, false, false] (tT tx) b_first_rest := fun cdv A outer s H E pins hcd Fr pm =>
  (sb_cons (ss_expr (se_callG (c_check_line tx) Fr.C Fr.tk (by decide) rfl (sr_v (se_var 0) (sr_v (se_var 1) (sr_v se_int (sr_v (se_var 2) sr_nil))))))
  (sb_cons (ss_if (SW.sq (sw_or (sq_not (sq_tru (se_callG (c_is_within tx) Fr.C Fr.tk (by decide) rfl (sr_v (se_var 3) (sr_v se_int (sr_v (se_sub (se_var 2) se_int) sr_nil)))))) (sw_or1 (sq_not (sq_tru (se_callG (c_is_within tx) Fr.C Fr.tk (by decide) rfl (sr_v (se_var 4) (sr_v (se_var 3) (sr_v (se_sub (se_var 2) se_int) sr_nil))))))))) (sb_one (ss_raise0 (k := 0) Fr tx.E_NoLine tx.I_NoLine (by decide) rfl)) sb_nil)
  (sb_cons (ss_if (sq_cm (cm_eq Fr.C.cs) (se_callG (c_rests_between tx) Fr.C Fr.tk (by decide) rfl (sr_v (se_var 0) (sr_v (se_var 1) (sr_v (se_var 2) (sr_v (se_var 3) (sr_v (se_var 4) sr_nil)))))) se_int) (sb_one (ss_ret se_non)) sb_nil)
  (sb_cons (ss_par Fr.C 5 6 (fr_of pm (i := 5)) (fr_of pm (i := 6)) (by decide) se_int (se_var 0))
  (sb_cons (ss_while Fr.po (sq_cm cm_gt (se_sub (se_var 6) (se_var 5)) se_int) (sb_cons (ss_set Fr.C.cs 7 (fr_of pm (i := 7)) (se_div (se_add (se_var 5) (se_var 6)) se_int))
  (sb_one (ss_if (sq_cm cm_gt (se_callG (c_rests_between tx) Fr.C Fr.tk (by decide) rfl (sr_v (se_var 7) (sr_v (se_var 1) (sr_v (se_var 2) (sr_v (se_var 3) (sr_v (se_var 4) sr_nil)))))) se_int) (sb_one (ss_set Fr.C.cs 6 (fr_of pm (i := 6)) (se_var 7))) (sb_one (ss_set Fr.C.cs 5 (fr_of pm (i := 5)) (se_var 7)))))))
  (sb_one (ss_ret (se_sub (se_var 6) se_int))))))))
theorem c_first_rest : Rf.Cal P w K mg base 4 "first_rest" (spM ⟨K, mg⟩ (tT tx) m_first_rest) := ⟨tx.a_first_rest, tx.fd_first_rest, ["many", "step", "whole", "low", "high"], fnG_of tx.F_first_rest sc_first_rest rfl (bd_first_rest tx), tx.g_first_rest, tx.F_first_rest.kp, tx.B_first_rest⟩
theorem bd_many_rests : Body P w K mg base 3 "many_rests" (tp 14) tx.a_many_rests ["many", "step", "whole", "low", "high"] [false, false, false, false, false] (tT tx) b_many_rests := fun cdv A outer s H E pins hcd Fr pm =>
  (sb_cons (ss_expr (se_callG (c_check_line tx) Fr.C Fr.tk (by decide) rfl (sr_v (se_var 0) (sr_v (se_var 1) (sr_v se_int (sr_v (se_var 2) sr_nil))))))
  (sb_cons (ss_if (SW.sq (sw_or (sq_not (sq_tru (se_callG (c_is_within tx) Fr.C Fr.tk (by decide) rfl (sr_v (se_var 3) (sr_v se_int (sr_v (se_sub (se_var 2) se_int) sr_nil)))))) (sw_or1 (sq_not (sq_tru (se_callG (c_is_within tx) Fr.C Fr.tk (by decide) rfl (sr_v (se_var 4) (sr_v (se_var 3) (sr_v (se_sub (se_var 2) se_int) sr_nil))))))))) (sb_one (ss_raise0 (k := 0) Fr tx.E_NoLine tx.I_NoLine (by decide) rfl)) sb_nil)
  (sb_one (ss_ret (se_callG (c_rests_between tx) Fr.C Fr.tk (by decide) rfl (sr_v (se_var 0) (sr_v (se_var 1) (sr_v (se_var 2) (sr_v (se_var 3) (sr_v (se_var 4) sr_nil))))))))))
theorem c_many_rests : Rf.Cal P w K mg base 4 "many_rests" (spM ⟨K, mg⟩ (tT tx) m_many_rests) := ⟨tx.a_many_rests, tx.fd_many_rests, ["many", "step", "whole", "low", "high"], fnG_of tx.F_many_rests sc_many_rests rfl (bd_many_rests tx), tx.g_many_rests, tx.F_many_rests.kp, tx.B_many_rests⟩
theorem bd_in_triangle : Body P w K mg base 2 "in_triangle" (tp 15) tx.a_in_triangle ["a", "b", "most", "many"] [false, false, false] (tT tx) b_in_triangle := fun cdv A outer s H E pins hcd Fr pm =>
  (sb_cons (ss_if (SW.sq (sw_or (sq_not (sq_tru (se_callG (c_is_within tx) Fr.C Fr.tk (by decide) rfl (sr_v (se_var 0) (sr_v se_int (sr_v (se_pow se_int se_int) sr_nil)))))) (sw_or (sq_not (sq_tru (se_callG (c_is_within tx) Fr.C Fr.tk (by decide) rfl (sr_v (se_var 1) (sr_v se_int (sr_v (se_pow se_int se_int) sr_nil)))))) (sw_or1 (sq_not (sq_tru (se_callG (c_is_within tx) Fr.C Fr.tk (by decide) rfl (sr_v (se_var 2) (sr_v se_int (sr_v (se_pow se_int se_int) sr_nil)))))))))) (sb_one (ss_raise0 (k := 0) Fr tx.E_NoNumber tx.I_NoNumber (by decide) rfl)) sb_nil)
  (sb_cons (ss_set Fr.C.cs 3 (fr_of pm (i := 3)) (se_add (se_div (se_var 2) (se_var 0)) se_int))
  (sb_one (ss_ret (se_add (se_callG (c_floor_total tx) Fr.C Fr.tk (by decide) rfl (sr_v (se_var 3) (sr_v (se_var 0) (sr_v (se_mod (se_var 2) (se_var 0)) (sr_v (se_var 1) sr_nil))))) (se_var 3))))))
theorem c_in_triangle : Rf.Cal P w K mg base 3 "in_triangle" (spM ⟨K, mg⟩ (tT tx) m_in_triangle) := ⟨tx.a_in_triangle, tx.fd_in_triangle, ["a", "b", "most"], fnG_of tx.F_in_triangle sc_in_triangle rfl (bd_in_triangle tx), tx.g_in_triangle, tx.F_in_triangle.kp, tx.B_in_triangle⟩
theorem bd__law_hand : Body P w K mg base 0 "_law_hand" (tp 17) tx.a__law_hand ["script", "cells", "cell"] [false] (tT tx) b__law_hand := fun cdv A outer s H E pins hcd Fr pm =>
  (sb_cons (ss_setLc (own := [("cell", 2)]) (fr_of pm (i := 1)) Fr.C (frs_of pm) (si_seq (se_slice (se_var 0) so_none (so_some se_int))) (by kernel_rfl) (by decide) (fun _ _ _ _ _ => (sg_name (Ctx.cs (Ctx.blk Fr.C _ _ _ _ _)) 2 (fr_of pm (i := 2)))) (fun _ _ _ _ _ => sts_nil) (fun _ _ _ _ _ => (se_abs rfl tx.n_abs (se_toInt rfl tx.n_int (se_var 2)))) rfl rfl (sw_true rfl rfl rfl (by decide +kernel)))
  (sb_one (ss_retF (sf_lst (sa_cons (se_var 1) (sa_cons se_int (sa_cons se_int (sa_cons (se_add se_int (se_mul se_int (se_lenV 1 rfl tx.n_len))) (sa_cons se_int sa_nil)))))))))
theorem c__law_hand : Rf.Cal P w K mg base 1 "_law_hand" (spF ⟨K, mg⟩ (tT tx) m__law_hand) := ⟨tx.a__law_hand, tx.fd__law_hand, ["script"], fnF_of tx.F__law_hand sc__law_hand rfl (bd__law_hand tx), tx.g__law_hand, tx.F__law_hand.kp, tx.B__law_hand⟩
theorem bd__law_draw : Body P w K mg base 0 "_law_draw" (tp 18) tx.a__law_draw ["hand", "many", "number", "cell", "digit"] [true, false] (tT tx) b__law_draw := fun cdv A outer s H E pins hcd Fr pm =>
  (sb_cons (ss_if (SW.sq (sw_and (sq_cm (cm_eq Fr.C.cs) (se_ixV Fr.C.cs 0 se_int) se_int) (sw_and1 (sq_cm (cm_lt Fr.C.cs) (se_ixV Fr.C.cs 0 se_int) (se_len rfl tx.n_len (se_ixV Fr.C.cs 0 se_int)))))) (sb_cons (ss_set Fr.C.cs 3 (fr_of pm (i := 3)) (se_ix Fr.C.cs (se_ixV Fr.C.cs 0 se_int) (se_ixV Fr.C.cs 0 se_int)))
  (sb_cons (ss_setIx 0 se_int (se_add (se_ixV Fr.C.cs 0 se_int) se_int))
  (sb_cons (ss_setIx 0 se_int (se_mod (se_toInt rfl tx.n_int (se_add (se_add (se_mul (se_ixV Fr.C.cs 0 se_int) se_int) (se_var 3)) se_int)) se_int))
  (sb_one (ss_if (sq_cm cm_ge (se_var 3) (se_pow se_int se_int)) (sb_one (ss_setIx 0 se_int (se_var 3))) sb_nil))))) sb_nil)
  (sb_cons (ss_if (sq_cm cm_gt (se_ixV Fr.C.cs 0 se_int) se_int) (sb_cons (ss_set Fr.C.cs 4 (fr_of pm (i := 4)) (se_mod (se_toInt rfl tx.n_int (se_ixV Fr.C.cs 0 se_int)) (se_var 1)))
  (sb_cons (ss_setIx 0 se_int (se_div (se_ixV Fr.C.cs 0 se_int) (se_var 1)))
  (sb_one (ss_ret (se_var 4))))) sb_nil)
  (sb_cons (ss_setIx 0 se_int (se_add (se_ixV Fr.C.cs 0 se_int) se_int))
  (sb_cons (ss_set Fr.C.cs 2 (fr_of pm (i := 2)) (se_mod (se_toInt rfl tx.n_int (se_mul (se_toInt rfl tx.n_int (se_add (se_ixV Fr.C.cs 0 se_int) (se_mul se_int (se_ixV Fr.C.cs 0 se_int)))) se_int)) se_int))
  (sb_cons (ss_set Fr.C.cs 2 (fr_of pm (i := 2)) (se_mod (se_toInt rfl tx.n_int (se_mul (se_var 2) (se_add (se_div (se_var 2) se_int) se_int))) se_int))
  (sb_cons (ss_set Fr.C.cs 2 (fr_of pm (i := 2)) (se_mod (se_toInt rfl tx.n_int (se_mul (se_var 2) (se_add (se_div (se_var 2) se_int) se_int))) se_int))
  (sb_one (ss_ret (se_mod (se_toInt rfl tx.n_int (se_div (se_var 2) se_int)) (se_var 1))))))))))
theorem c__law_draw : Rf.Cal P w K mg base 1 "_law_draw" (spM ⟨K, mg⟩ (tT tx) m__law_draw) := ⟨tx.a__law_draw, tx.fd__law_draw, ["hand", "many"], fnG_of tx.F__law_draw sc__law_draw rfl (bd__law_draw tx), tx.g__law_draw, tx.F__law_draw.kp, tx.B__law_draw⟩
theorem bd__law_some : Body P w K mg base 1 "_law_some" (tp 19) tx.a__law_some ["hand", "things"] [true, false] (tT tx) b__law_some := fun cdv A outer s H E pins hcd Fr pm =>
  (sb_one (ss_ret (se_ixV Fr.C.cs 1 (se_callG (c__law_draw tx) Fr.C Fr.tk (by decide) rfl (sr_o 0 (sr_v (se_lenV 1 rfl tx.n_len) sr_nil))))))
theorem c__law_some : Rf.Cal P w K mg base 2 "_law_some" (spM ⟨K, mg⟩ (tT tx) m__law_some) := ⟨tx.a__law_some, tx.fd__law_some, ["hand", "things"], fnG_of tx.F__law_some sc__law_some rfl (bd__law_some tx), tx.g__law_some, tx.F__law_some.kp, tx.B__law_some⟩
theorem bz__law_is : Body P w K mg base 0 "_law_is" (tp 20) tx.a__law_is ["told", "due", "k"] [false, false] (tT tx) (fun _ => .stk) := fun cdv A outer s H E pins hcd Fr pm => sb_stk
theorem bd__law_is (n : Nat) (hrec : Rf.Cal P w K mg base (0 + n + 1) "_law_is" (spM ⟨K, mg⟩ (tT tx) (m__law_is n))) : Body P w K mg base (0 + n + 1) "_law_is" (tp 20) tx.a__law_is ["told", "due", "k"] [false, false] (tT tx) (b__law_is (m__law_is n)) := fun cdv A outer s H E pins hcd Fr pm =>
  (sb_cons (ss_if (sq_tru (se_isi2 .t .l (by decide +kernel) (by decide +kernel) rfl tx.n_isinstance rfl tx.n_tuple rfl tx.n_list (se_var 1))) (sb_cons (ss_if (sq_cm (cm_ne Fr.C.cs) (se_isi .t (by decide +kernel) rfl tx.n_isinstance rfl tx.n_tuple (se_var 0)) (se_isi .t (by decide +kernel) rfl tx.n_isinstance rfl tx.n_tuple (se_var 1))) (sb_one (ss_ret se_bl)) sb_nil)
  (sb_cons (ss_if (sq_cm (cm_ne Fr.C.cs) (se_isi .l (by decide +kernel) rfl tx.n_isinstance rfl tx.n_list (se_var 0)) (se_isi .l (by decide +kernel) rfl tx.n_isinstance rfl tx.n_list (se_var 1))) (sb_one (ss_ret se_bl)) sb_nil)
  (sb_cons (ss_if (sq_cm (cm_ne Fr.C.cs) (se_lenV 0 rfl tx.n_len) (se_lenV 1 rfl tx.n_len)) (sb_one (ss_ret se_bl)) sb_nil)
  (sb_one (ss_ret (se_all rfl rfl tx.n_all (SF.se (sf_lc (own := [("k", 2)]) Fr.C (frs_of pm) (si_r1 rfl tx.n_range (se_lenV 1 rfl tx.n_len)) (by kernel_rfl) (by decide) (fun _ _ _ _ _ => (sg_name (Ctx.cs (Ctx.blk Fr.C _ _ _ _ _)) 2 (fr_of pm (i := 2)))) (fun _ _ _ _ _ => sts_nil) (fun _ _ _ _ _ => (se_callG hrec (Ctx.blk Fr.C _ _ _ _ _) L2.takes0 (by omega) rfl (sr_v (se_ixV (Ctx.cs (Ctx.blk Fr.C _ _ _ _ _)) 0 (se_var 2)) (sr_v (se_ixV (Ctx.cs (Ctx.blk Fr.C _ _ _ _ _)) 1 (se_var 2)) sr_nil)))))))))))) sb_nil)
  (sb_cons (ss_if (sq_cm cm_isN (se_var 1) se_non) (sb_one (ss_ret (se_cm cm_isN (se_var 0) se_non))) sb_nil)
  (sb_cons (ss_if (SW.sq (sw_or (sq_cm (cm_ne Fr.C.cs) (se_isi .b (by decide +kernel) rfl tx.n_isinstance rfl tx.n_bool (se_var 0)) (se_isi .b (by decide +kernel) rfl tx.n_isinstance rfl tx.n_bool (se_var 1))) (sw_or1 (sq_cm (cm_ne Fr.C.cs) (se_isi .i (by decide +kernel) rfl tx.n_isinstance rfl tx.n_int (se_var 0)) (se_isi .i (by decide +kernel) rfl tx.n_isinstance rfl tx.n_int (se_var 1)))))) (sb_one (ss_ret se_bl)) sb_nil)
  (sb_one (ss_ret (se_and (se_cm (cm_eq Fr.C.cs) (se_isi .s (by decide +kernel) rfl tx.n_isinstance rfl tx.n_str (se_var 0)) (se_isi .s (by decide +kernel) rfl tx.n_isinstance rfl tx.n_str (se_var 1))) (se_one (se_cm (cm_eq Fr.C.cs) (se_var 0) (se_var 1)))))))))
theorem c__law_is : ∀ n : Nat, Rf.Cal P w K mg base (0 + n + 1) "_law_is" (spM ⟨K, mg⟩ (tT tx) (m__law_is n))
  | 0 => ⟨tx.a__law_is, tx.fd__law_is, ["told", "due"], fnG_of tx.F__law_is sc__law_is rfl (bz__law_is tx), tx.g__law_is, tx.F__law_is.kp, tx.B__law_is⟩
  | n + 1 => ⟨tx.a__law_is, tx.fd__law_is, ["told", "due"], fnG_of tx.F__law_is sc__law_is rfl (bd__law_is tx n (c__law_is n)), tx.g__law_is, tx.F__law_is.kp, tx.B__law_is⟩
theorem bdG__law_word {k : Nat} : BodyG P w K mg base (k + 1) "_law_word" (tp 21) tx.a__law_word ["call", "found", "error", "flags"] "call" (tT tx).tabs g__law_word := fun cdv A outer s H E T2 r Fr ht h0 act =>
  (sb_cons (ss_set Fr.C.cs 1 (fr_zero h0 (i := 1) (by decide)) se_str)
  (sb_cons (ss_try Fr rfl rfl rfl rfl rfl tx.C_GridError (by decide) (fr_zero h0 (i := 2) (by decide)) tx.ex_GridError (fun W2 pn xe Fr2 => (sb_one (ss_expr (act _ _ _ _ _ Fr2.tk)))) (fun T2 c pp a2 C2 dd oe pn hc hh hp => (sb_cons (ss_set (Cs.suite Fr.C.cs) 3 (fr_suite hp (fr_zero h0 (i := 3) (by decide)) (by decide)) (SF.se (sf_lst (sa_cons (se_isXf hh (tx.xc _ _ hc hh.gC) (tx.k_NoLine _ _ hc hh.gC) tx.C_NoLine rfl rfl rfl tx.n_isinstance rfl) (sa_cons (se_isXf hh (tx.xc _ _ hc hh.gC) (tx.k_NoNumber _ _ hc hh.gC) tx.C_NoNumber rfl rfl rfl tx.n_isinstance rfl) sa_nil)))))
  (sb_cons (ss_set (Cs.suite Fr.C.cs) 1 (fr_suite hp (fr_zero h0 (i := 1) (by decide)) (by decide)) se_str)
  (sb_one (ss_if (SW.sq (sw_and (sq_cm (cm_eq (Cs.suite Fr.C.cs)) (se_count 3 se_bl) se_int) (sw_and1 (sq_tru (se_isBf (id := "ValueError") hh (tx.xc _ _ hc hh.gC) (tx.k_ValueError _ _ hc hh.gC) tx.n_ValueError (by decide +kernel) rfl rfl rfl tx.n_isinstance rfl))))) (sb_one (ss_set (Cs.suite Fr.C.cs) 1 (fr_suite hp (fr_zero h0 (i := 1) (by decide)) (by decide)) (se_ix (Cs.suite Fr.C.cs) (SF.se (sf_lst (sa_cons se_str (sa_cons se_str sa_nil)))) (se_index 3 se_bl)))) sb_nil))))))
  (sb_one (ss_ret (se_var 1)))))
theorem bd__law_floors : Body P w K mg base 0 "_law_floors" (tp 22) tx.a__law_floors ["many", "step", "begin", "whole", "k"] [false, false, false, false] (tT tx) b__law_floors := fun cdv A outer s H E pins hcd Fr pm =>
  (sb_one (ss_ret (se_sumA rfl rfl tx.n_sum (SF.se (sf_lc (own := [("k", 4)]) Fr.C (frs_of pm) (si_r1 rfl tx.n_range (se_var 0)) (by kernel_rfl) (by decide) (fun _ _ _ _ _ => (sg_name (Ctx.cs (Ctx.blk Fr.C _ _ _ _ _)) 4 (fr_of pm (i := 4)))) (fun _ _ _ _ _ => sts_nil) (fun _ _ _ _ _ => (se_div (se_add (se_mul (se_var 1) (se_var 4)) (se_var 2)) (se_var 3))))))))
theorem c__law_floors : Rf.Cal P w K mg base 1 "_law_floors" (spM ⟨K, mg⟩ (tT tx) m__law_floors) := ⟨tx.a__law_floors, tx.fd__law_floors, ["many", "step", "begin", "whole"], fnG_of tx.F__law_floors sc__law_floors rfl (bd__law_floors tx), tx.g__law_floors, tx.F__law_floors.kp, tx.B__law_floors⟩
theorem bd__law_is_line_right : Body P w K mg base 9 "_law_is_line_right" (tp 23) tx.a__law_is_line_right ["hand", "due", "great", "times_here", "long_here", "long_one", "tail", "many", "whole", "step", "begin", "more", "far", "whole_sum"] [true] (tT tx) b__law_is_line_right := fun cdv A outer s H E pins hcd Fr pm =>
  (sb_cons (ss_par Fr.C 7 8 (fr_of pm (i := 7)) (fr_of pm (i := 8)) (by decide) (se_callG (c__law_draw tx) Fr.C Fr.tk (by decide) rfl (sr_o 0 (sr_v se_int sr_nil))) (se_add se_int (se_callG (c__law_draw tx) Fr.C Fr.tk (by decide) rfl (sr_o 0 (sr_v (se_callG (c__law_some tx) Fr.C Fr.tk (by decide) rfl (sr_o 0 (sr_v (SF.se (sf_lst (sa_cons se_int (sa_cons se_int (sa_cons se_int sa_nil))))) sr_nil))) sr_nil)))))
  (sb_cons (ss_par Fr.C 9 10 (fr_of pm (i := 9)) (fr_of pm (i := 10)) (by decide) (se_sub (se_callG (c__law_draw tx) Fr.C Fr.tk (by decide) rfl (sr_o 0 (sr_v se_int sr_nil))) se_int) (se_sub (se_callG (c__law_draw tx) Fr.C Fr.tk (by decide) rfl (sr_o 0 (sr_v se_int sr_nil))) se_int))
  (sb_cons (ss_set Fr.C.cs 1 (fr_of pm (i := 1)) (se_callG (c__law_floors tx) Fr.C Fr.tk (by decide) rfl (sr_v (se_var 7) (sr_v (se_var 9) (sr_v (se_var 10) (sr_v (se_var 8) sr_nil))))))
  (sb_cons (ss_if (sq_not (sq_tru (se_callG (c__law_is tx 8) Fr.C Fr.tk (by decide) rfl (sr_v (se_callG (c_floor_sum tx) Fr.C Fr.tk (by decide) rfl (sr_v (se_var 7) (sr_v (se_var 9) (sr_v (se_var 10) (sr_v (se_var 8) sr_nil))))) (sr_v (se_var 1) sr_nil))))) (sb_one (ss_ret se_bl)) sb_nil)
  (sb_cons (ss_if (sq_not (sq_tru (se_callG (c__law_is tx 8) Fr.C Fr.tk (by decide) rfl (sr_v (se_callG (c_below_line tx) Fr.C Fr.tk (by decide) rfl (sr_v (se_var 7) (sr_v (se_abs rfl tx.n_abs (se_var 9)) (sr_v (se_abs rfl tx.n_abs (se_var 10)) (sr_v (se_var 8) sr_nil))))) (sr_v (se_callG (c__law_floors tx) Fr.C Fr.tk (by decide) rfl (sr_v (se_var 7) (sr_v (se_abs rfl tx.n_abs (se_var 9)) (sr_v (se_abs rfl tx.n_abs (se_var 10)) (sr_v (se_var 8) sr_nil))))) sr_nil))))) (sb_one (ss_ret se_bl)) sb_nil)
  (sb_cons (ss_par Fr.C 11 12 (fr_of pm (i := 11)) (fr_of pm (i := 12)) (by decide) (se_callG (c__law_draw tx) Fr.C Fr.tk (by decide) rfl (sr_o 0 (sr_v (se_pow se_int se_int) sr_nil))) (se_callG (c__law_draw tx) Fr.C Fr.tk (by decide) rfl (sr_o 0 (sr_v (se_pow se_int se_int) sr_nil))))
  (sb_cons (ss_set Fr.C.cs 2 (fr_of pm (i := 2)) (se_callG (c_floor_sum tx) Fr.C Fr.tk (by decide) rfl (sr_v (se_var 7) (sr_v (se_add (se_var 9) (se_mul (se_var 11) (se_var 8))) (sr_v (se_add (se_var 10) (se_mul (se_var 12) (se_var 8))) (sr_v (se_var 8) sr_nil))))))
  (sb_cons (ss_if (sq_not (sq_tru (se_callG (c__law_is tx 8) Fr.C Fr.tk (by decide) rfl (sr_v (se_var 2) (sr_v (se_add (se_add (se_var 1) (se_mul (se_var 11) (se_div (se_mul (se_var 7) (se_sub (se_var 7) se_int)) se_int))) (se_mul (se_var 12) (se_var 7))) sr_nil))))) (sb_one (ss_ret se_bl)) sb_nil)
  (sb_cons (ss_set Fr.C.cs 3 (fr_of pm (i := 3)) (se_add se_int (se_callG (c__law_draw tx) Fr.C Fr.tk (by decide) rfl (sr_o 0 (sr_v (se_pow se_int se_int) sr_nil)))))
  (sb_cons (ss_set Fr.C.cs 4 (fr_of pm (i := 4)) (se_mul (se_var 7) (se_var 8)))
  (sb_cons (ss_if (sq_cm (cm_lt Fr.C.cs) (se_var 4) se_int) (sb_cons (ss_set Fr.C.cs 13 (fr_of pm (i := 13)) (se_callG (c__law_floors tx) Fr.C Fr.tk (by decide) rfl (sr_v (se_var 4) (sr_v (se_var 9) (sr_v (se_var 10) (sr_v (se_var 8) sr_nil))))))
  (sb_one (ss_if (sq_cm (cm_ne Fr.C.cs) (se_callG (c_floor_sum tx) Fr.C Fr.tk (by decide) rfl (sr_v (se_var 4) (sr_v (se_var 9) (sr_v (se_var 10) (sr_v (se_var 8) sr_nil))))) (se_var 13)) (sb_one (ss_ret se_bl)) sb_nil))) sb_nil)
  (sb_cons (ss_set Fr.C.cs 5 (fr_of pm (i := 5)) (se_callG (c_floor_sum tx) Fr.C Fr.tk (by decide) rfl (sr_v (se_mul (se_var 8) (se_var 3)) (sr_v (se_var 9) (sr_v (se_var 10) (sr_v (se_var 8) sr_nil))))))
  (sb_cons (ss_set Fr.C.cs 6 (fr_of pm (i := 6)) (se_callG (c__law_floors tx) Fr.C Fr.tk (by decide) rfl (sr_v (se_min2 rfl rfl tx.n_min (se_var 8) se_int) (sr_v (se_add (se_var 9) se_int) (sr_v (se_add (se_var 10) (se_mul (se_mul (se_var 9) (se_var 8)) (se_var 3))) (sr_v (se_var 8) sr_nil))))))
  (sb_one (ss_ret (se_cm (cm_eq Fr.C.cs) (se_callG (c_floor_sum tx) Fr.C Fr.tk (by decide) rfl (sr_v (se_add (se_mul (se_var 8) (se_var 3)) (se_min2 rfl rfl tx.n_min (se_var 8) se_int)) (sr_v (se_var 9) (sr_v (se_var 10) (sr_v (se_var 8) sr_nil))))) (se_add (se_var 5) (se_var 6))))))))))))))))))
theorem c__law_is_line_right : Rf.Cal P w K mg base 10 "_law_is_line_right" (spM ⟨K, mg⟩ (tT tx) m__law_is_line_right) := ⟨tx.a__law_is_line_right, tx.fd__law_is_line_right, ["hand"], fnG_of tx.F__law_is_line_right sc__law_is_line_right rfl (bd__law_is_line_right tx), tx.g__law_is_line_right, tx.F__law_is_line_right.kp, tx.B__law_is_line_right⟩
theorem bd__law_are_rests_right : Body P w K mg base 9 "_law_are_rests_right" (tp 24) tx.a__law_are_rests_right ["hand", "high", "good", "due", "rounds_here", "one_round", "many", "whole", "step", "low", "k"] [true] (tT tx) b__law_are_rests_right := fun cdv A outer s H E pins hcd Fr pm =>
  (sb_cons (ss_asg (se_tup (sa_cons (se_callG (c__law_draw tx) Fr.C Fr.tk (by decide) rfl (sr_o 0 (sr_v se_int sr_nil))) (sa_cons (se_add se_int (se_callG (c__law_draw tx) Fr.C Fr.tk (by decide) rfl (sr_o 0 (sr_v (se_callG (c__law_some tx) Fr.C Fr.tk (by decide) rfl (sr_o 0 (sr_v (SF.se (sf_lst (sa_cons se_int (sa_cons se_int (sa_cons se_int sa_nil))))) sr_nil))) sr_nil)))) sa_nil))) (sg_tup Fr.C (sgs_cons (sg_name Fr.C.cs 6 (fr_of pm (i := 6))) (sgs_cons (sg_name Fr.C.cs 7 (fr_of pm (i := 7))) sgs_nil))))
  (sb_cons (ss_asg (se_tup (sa_cons (se_callG (c__law_draw tx) Fr.C Fr.tk (by decide) rfl (sr_o 0 (sr_v se_int sr_nil))) (sa_cons (se_callG (c__law_draw tx) Fr.C Fr.tk (by decide) rfl (sr_o 0 (sr_v (se_var 7) sr_nil))) sa_nil))) (sg_tup Fr.C (sgs_cons (sg_name Fr.C.cs 8 (fr_of pm (i := 8))) (sgs_cons (sg_name Fr.C.cs 9 (fr_of pm (i := 9))) sgs_nil))))
  (sb_cons (ss_set Fr.C.cs 1 (fr_of pm (i := 1)) (se_add (se_var 9) (se_callG (c__law_draw tx) Fr.C Fr.tk (by decide) rfl (sr_o 0 (sr_v (se_sub (se_var 7) (se_var 9)) sr_nil)))))
  (sb_cons (ss_setLc (own := [("k", 10)]) (fr_of pm (i := 2)) Fr.C (frs_of pm) (si_r1 rfl tx.n_range (se_var 6)) (by kernel_rfl) (by decide) (fun _ _ _ _ _ => (sg_name (Ctx.cs (Ctx.blk Fr.C _ _ _ _ _)) 10 (fr_of pm (i := 10)))) (fun _ _ _ _ _ => (sts_one (sq_ch cm_le cm_le (se_var 9) (se_mod (se_toInt rfl tx.n_int (se_mul (se_var 8) (se_var 10))) (se_var 7)) (se_var 1)))) (fun _ _ _ _ _ => (se_var 10)) rfl rfl (sw_true rfl rfl rfl (by decide +kernel)))
  (sb_cons (ss_set Fr.C.cs 3 (fr_of pm (i := 3)) (SF.se (sf_lst (sa_cons (se_lenV 2 rfl tx.n_len) (sa_cons (se_if (sq_cm (cm_ne Fr.C.cs) (se_var 2) (SF.se (sf_lst sa_nil))) (se_ixV Fr.C.cs 2 se_int) se_non) sa_nil)))))
  (sb_cons (ss_if (sq_not (sq_tru (se_callG (c__law_is tx 8) Fr.C Fr.tk (by decide) rfl (sr_v (SF.se (sf_lst (sa_cons (se_callG (c_many_rests tx) Fr.C Fr.tk (by decide) rfl (sr_v (se_var 6) (sr_v (se_var 8) (sr_v (se_var 7) (sr_v (se_var 9) (sr_v (se_var 1) sr_nil)))))) (sa_cons (se_callG (c_first_rest tx) Fr.C Fr.tk (by decide) rfl (sr_v (se_var 6) (sr_v (se_var 8) (sr_v (se_var 7) (sr_v (se_var 9) (sr_v (se_var 1) sr_nil)))))) sa_nil)))) (sr_v (se_var 3) sr_nil))))) (sb_one (ss_ret se_bl)) sb_nil)
  (sb_cons (ss_set Fr.C.cs 4 (fr_of pm (i := 4)) (se_add se_int (se_callG (c__law_draw tx) Fr.C Fr.tk (by decide) rfl (sr_o 0 (sr_v (se_pow se_int se_int) sr_nil)))))
  (sb_cons (ss_set Fr.C.cs 5 (fr_of pm (i := 5)) (se_len rfl tx.n_len (SF.se (sf_lc (own := [("k", 10)]) Fr.C (frs_of pm) (si_r1 rfl tx.n_range (se_var 7)) (by kernel_rfl) (by decide) (fun _ _ _ _ _ => (sg_name (Ctx.cs (Ctx.blk Fr.C _ _ _ _ _)) 10 (fr_of pm (i := 10)))) (fun _ _ _ _ _ => (sts_one (sq_ch cm_le cm_le (se_var 9) (se_mod (se_toInt rfl tx.n_int (se_mul (se_var 8) (se_var 10))) (se_var 7)) (se_var 1)))) (fun _ _ _ _ _ => (se_var 10))))))
  (sb_one (ss_ret (se_callG (c__law_is tx 8) Fr.C Fr.tk (by decide) rfl (sr_v (se_callG (c_many_rests tx) Fr.C Fr.tk (by decide) rfl (sr_v (se_mul (se_var 7) (se_var 4)) (sr_v (se_var 8) (sr_v (se_var 7) (sr_v (se_var 9) (sr_v (se_var 1) sr_nil)))))) (sr_v (se_mul (se_var 5) (se_var 4)) sr_nil)))))))))))))
theorem c__law_are_rests_right : Rf.Cal P w K mg base 10 "_law_are_rests_right" (spM ⟨K, mg⟩ (tT tx) m__law_are_rests_right) := ⟨tx.a__law_are_rests_right, tx.fd__law_are_rests_right, ["hand"], fnG_of tx.F__law_are_rests_right sc__law_are_rests_right rfl (bd__law_are_rests_right tx), tx.g__law_are_rests_right, tx.F__law_are_rests_right.kp, tx.B__law_are_rests_right⟩
theorem bd__law_is_triangle_right : Body P w K mg base 9 "_law_is_triangle_right" (tp 25) tx.a__law_is_triangle_right ["hand", "due", "by", "a", "b", "most", "x"] [true] (tT tx) b__law_is_triangle_right := fun cdv A outer s H E pins hcd Fr pm =>
  (sb_cons (ss_asg (se_tup (sa_cons (se_add se_int (se_callG (c__law_draw tx) Fr.C Fr.tk (by decide) rfl (sr_o 0 (sr_v se_int sr_nil)))) (sa_cons (se_add se_int (se_callG (c__law_draw tx) Fr.C Fr.tk (by decide) rfl (sr_o 0 (sr_v se_int sr_nil)))) (sa_cons (se_callG (c__law_draw tx) Fr.C Fr.tk (by decide) rfl (sr_o 0 (sr_v se_int sr_nil))) sa_nil)))) (sg_tup Fr.C (sgs_cons (sg_name Fr.C.cs 3 (fr_of pm (i := 3))) (sgs_cons (sg_name Fr.C.cs 4 (fr_of pm (i := 4))) (sgs_cons (sg_name Fr.C.cs 5 (fr_of pm (i := 5))) sgs_nil)))))
  (sb_cons (ss_set Fr.C.cs 1 (fr_of pm (i := 1)) (se_sumA rfl rfl tx.n_sum (SF.se (sf_lc (own := [("x", 6)]) Fr.C (frs_of pm) (si_r1 rfl tx.n_range (se_add (se_div (se_var 5) (se_var 3)) se_int)) (by kernel_rfl) (by decide) (fun _ _ _ _ _ => (sg_name (Ctx.cs (Ctx.blk Fr.C _ _ _ _ _)) 6 (fr_of pm (i := 6)))) (fun _ _ _ _ _ => sts_nil) (fun _ _ _ _ _ => (se_add (se_div (se_sub (se_var 5) (se_mul (se_var 3) (se_var 6))) (se_var 4)) se_int))))))
  (sb_cons (ss_if (sq_not (sq_tru (se_callG (c__law_is tx 8) Fr.C Fr.tk (by decide) rfl (sr_v (SF.se (sf_lst (sa_cons (se_callG (c_in_triangle tx) Fr.C Fr.tk (by decide) rfl (sr_v (se_var 3) (sr_v (se_var 4) (sr_v (se_var 5) sr_nil)))) (sa_cons (se_callG (c_in_triangle tx) Fr.C Fr.tk (by decide) rfl (sr_v (se_var 4) (sr_v (se_var 3) (sr_v (se_var 5) sr_nil)))) sa_nil)))) (sr_v (SF.se (sf_lst (sa_cons (se_var 1) (sa_cons (se_var 1) sa_nil)))) sr_nil))))) (sb_one (ss_ret se_bl)) sb_nil)
  (sb_cons (ss_set Fr.C.cs 2 (fr_of pm (i := 2)) (se_add se_int (se_callG (c__law_draw tx) Fr.C Fr.tk (by decide) rfl (sr_o 0 (sr_v (se_pow se_int se_int) sr_nil)))))
  (sb_one (ss_ret (se_callG (c__law_is tx 8) Fr.C Fr.tk (by decide) rfl (sr_v (se_callG (c_in_triangle tx) Fr.C Fr.tk (by decide) rfl (sr_v (se_mul (se_var 3) (se_var 2)) (sr_v (se_mul (se_var 4) (se_var 2)) (sr_v (se_add (se_mul (se_var 5) (se_var 2)) (se_callG (c__law_draw tx) Fr.C Fr.tk (by decide) rfl (sr_o 0 (sr_v (se_var 2) sr_nil)))) sr_nil)))) (sr_v (se_var 1) sr_nil)))))))))
theorem c__law_is_triangle_right : Rf.Cal P w K mg base 10 "_law_is_triangle_right" (spM ⟨K, mg⟩ (tT tx) m__law_is_triangle_right) := ⟨tx.a__law_is_triangle_right, tx.fd__law_is_triangle_right, ["hand"], fnG_of tx.F__law_is_triangle_right sc__law_is_triangle_right rfl (bd__law_is_triangle_right tx), tx.g__law_is_triangle_right, tx.F__law_is_triangle_right.kp, tx.B__law_is_triangle_right⟩
theorem bd__law_refused_right : Body P w K mg base 6 "_law_refused_right" (tp 26) tx.a__law_refused_right ["hand", "bad", "words", "odd", "none", "far"] [true] (tT tx) b__law_refused_right := fun cdv A outer s H E pins hcd Fr pm =>
  (sb_cons (ss_set Fr.C.cs 1 (fr_of pm (i := 1)) (se_callG (c__law_some tx) Fr.C Fr.tk (by decide) rfl (sr_o 0 (sr_v (SF.se (sf_lst (sa_cons (se_tup (sa_cons (se_negD se_int) (sa_cons se_int (sa_cons se_int (sa_cons se_int sa_nil))))) (sa_cons (se_tup (sa_cons se_int (sa_cons se_int (sa_cons se_int (sa_cons se_int sa_nil))))) (sa_cons (se_tup (sa_cons se_int (sa_cons (se_add (se_pow se_int se_int) se_int) (sa_cons se_int (sa_cons se_int sa_nil))))) (sa_cons (se_tup (sa_cons se_int (sa_cons se_int (sa_cons se_non (sa_cons se_int sa_nil))))) (sa_cons (se_tup (sa_cons se_bl (sa_cons se_int (sa_cons se_int (sa_cons se_int sa_nil))))) (sa_cons (se_tup (sa_cons se_str (sa_cons se_int (sa_cons se_int (sa_cons se_int sa_nil))))) sa_nil)))))))) sr_nil))))
  (sb_cons (ss_setO Fr.C.cs 2 (fr_of pm (i := 2)) (sf_lst (sa_cons (se_lam rfl rfl rfl tx.g__law_word tx.F__law_word tx.B__law_word sc__law_word rfl (.inl rfl) (bdG__law_word (k := 4) tx) (tx.T__law_refused_right) (Option.some.inj (hcd.symm.trans tx.c__law_refused_right)) (m_in__law_refused_right tx) (u_of__law_refused_right tx) Fr.C (by decide) (lamS_by (by kernel_rfl)) rfl (fun _ _ _ _ _ => rfl) (fun A outer s H E fL cL CL tL => (se_callG (c_floor_sum tx) CL tL (by decide) rfl (sr_v (se_ixV CL.cs 1 se_int) (sr_v (se_ixV CL.cs 1 se_int) (sr_v (se_ixV CL.cs 1 se_int) (sr_v (se_ixV CL.cs 1 se_int) sr_nil))))))) sa_nil)))
  (sb_cons (ss_set Fr.C.cs 3 (fr_of pm (i := 3)) (se_callG (c__law_some tx) Fr.C Fr.tk (by decide) rfl (sr_o 0 (sr_v (SF.se (sf_lst (sa_cons (se_tup (sa_cons se_int (sa_cons (se_negD se_int) (sa_cons se_int (sa_cons se_int sa_nil))))) (sa_cons (se_tup (sa_cons se_int (sa_cons se_int (sa_cons (se_negD se_int) (sa_cons se_int sa_nil))))) (sa_cons (se_tup (sa_cons se_int (sa_cons se_int (sa_cons se_int (sa_cons se_int sa_nil))))) (sa_cons (se_tup (sa_cons (se_negD se_int) (sa_cons se_int (sa_cons se_int (sa_cons se_int sa_nil))))) sa_nil)))))) sr_nil))))
  (sb_cons (ss_append 2 (se_lam rfl rfl rfl tx.g__law_word tx.F__law_word tx.B__law_word sc__law_word rfl (.inl rfl) (bdG__law_word (k := 4) tx) (tx.T__law_refused_right) (Option.some.inj (hcd.symm.trans tx.c__law_refused_right)) (m_in__law_refused_right tx) (u_of__law_refused_right tx) Fr.C (by decide) (lamS_by (by kernel_rfl)) rfl (fun _ _ _ _ _ => rfl) (fun A outer s H E fL cL CL tL => (se_callG (c_below_line tx) CL tL (by decide) rfl (sr_v (se_ixV CL.cs 3 se_int) (sr_v (se_ixV CL.cs 3 se_int) (sr_v (se_ixV CL.cs 3 se_int) (sr_v (se_ixV CL.cs 3 se_int) sr_nil))))))))
  (sb_cons (ss_set Fr.C.cs 4 (fr_of pm (i := 4)) (se_callG (c__law_some tx) Fr.C Fr.tk (by decide) rfl (sr_o 0 (sr_v (SF.se (sf_lst (sa_cons (se_tup (sa_cons se_int (sa_cons se_int (sa_cons se_int (sa_cons se_int (sa_cons se_int sa_nil)))))) (sa_cons (se_tup (sa_cons se_int (sa_cons se_int (sa_cons se_int (sa_cons se_int (sa_cons se_int sa_nil)))))) (sa_cons (se_tup (sa_cons se_int (sa_cons se_int (sa_cons se_int (sa_cons (se_negD se_int) (sa_cons se_int sa_nil)))))) (sa_cons (se_tup (sa_cons se_int (sa_cons se_int (sa_cons se_int (sa_cons se_int (sa_cons se_int sa_nil)))))) (sa_cons (se_tup (sa_cons (se_negD se_int) (sa_cons se_int (sa_cons se_int (sa_cons se_int (sa_cons se_int sa_nil)))))) sa_nil))))))) sr_nil))))
  (sb_cons (ss_append 2 (se_lam rfl rfl rfl tx.g__law_word tx.F__law_word tx.B__law_word sc__law_word rfl (.inl rfl) (bdG__law_word (k := 4) tx) (tx.T__law_refused_right) (Option.some.inj (hcd.symm.trans tx.c__law_refused_right)) (m_in__law_refused_right tx) (u_of__law_refused_right tx) Fr.C (by decide) (lamS_by (by kernel_rfl)) rfl (fun _ _ _ _ _ => rfl) (fun A outer s H E fL cL CL tL => (se_callG (c_many_rests tx) CL tL (by decide) rfl (sr_v (se_ixV CL.cs 4 se_int) (sr_v (se_ixV CL.cs 4 se_int) (sr_v (se_ixV CL.cs 4 se_int) (sr_v (se_ixV CL.cs 4 se_int) (sr_v (se_ixV CL.cs 4 se_int) sr_nil)))))))))
  (sb_cons (ss_append 2 (se_lam rfl rfl rfl tx.g__law_word tx.F__law_word tx.B__law_word sc__law_word rfl (.inl rfl) (bdG__law_word (k := 4) tx) (tx.T__law_refused_right) (Option.some.inj (hcd.symm.trans tx.c__law_refused_right)) (m_in__law_refused_right tx) (u_of__law_refused_right tx) Fr.C (by decide) (lamS_by (by kernel_rfl)) rfl (fun _ _ _ _ _ => rfl) (fun A outer s H E fL cL CL tL => (se_callG (c_first_rest tx) CL tL (by decide) rfl (sr_v (se_ixV CL.cs 4 se_int) (sr_v (se_ixV CL.cs 4 se_int) (sr_v (se_ixV CL.cs 4 se_int) (sr_v (se_ixV CL.cs 4 se_int) (sr_v (se_ixV CL.cs 4 se_int) sr_nil)))))))))
  (sb_cons (ss_set Fr.C.cs 5 (fr_of pm (i := 5)) (se_callG (c__law_some tx) Fr.C Fr.tk (by decide) rfl (sr_o 0 (sr_v (SF.se (sf_lst (sa_cons (se_tup (sa_cons se_int (sa_cons se_int (sa_cons se_int sa_nil)))) (sa_cons (se_tup (sa_cons se_int (sa_cons se_int (sa_cons se_int sa_nil)))) (sa_cons (se_tup (sa_cons se_int (sa_cons se_int (sa_cons (se_negD se_int) sa_nil)))) (sa_cons (se_tup (sa_cons se_int (sa_cons se_non (sa_cons se_int sa_nil)))) (sa_cons (se_tup (sa_cons (se_add (se_pow se_int se_int) se_int) (sa_cons se_int (sa_cons se_int sa_nil)))) (sa_cons (se_tup (sa_cons se_int (sa_cons se_int (sa_cons (se_add (se_pow se_int se_int) se_int) sa_nil)))) (sa_cons (se_tup (sa_cons se_bl (sa_cons se_int (sa_cons se_int sa_nil)))) sa_nil))))))))) sr_nil))))
  (sb_cons (ss_append 2 (se_lam rfl rfl rfl tx.g__law_word tx.F__law_word tx.B__law_word sc__law_word rfl (.inl rfl) (bdG__law_word (k := 4) tx) (tx.T__law_refused_right) (Option.some.inj (hcd.symm.trans tx.c__law_refused_right)) (m_in__law_refused_right tx) (u_of__law_refused_right tx) Fr.C (by decide) (lamS_by (by kernel_rfl)) rfl (fun _ _ _ _ _ => rfl) (fun A outer s H E fL cL CL tL => (se_callG (c_in_triangle tx) CL tL (by decide) rfl (sr_v (se_ixV CL.cs 5 se_int) (sr_v (se_ixV CL.cs 5 se_int) (sr_v (se_ixV CL.cs 5 se_int) sr_nil)))))))
  (sb_one (ss_ret (se_cm (cm_eq Fr.C.cs) (se_var 2) (SF.se (sf_addL (se_mul (SF.se (sf_lst (sa_cons se_str sa_nil))) se_int) (SF.se (sf_lst (sa_cons se_str sa_nil)))))))))))))))))
theorem c__law_refused_right : Rf.Cal P w K mg base 7 "_law_refused_right" (spM ⟨K, mg⟩ (tT tx) m__law_refused_right) := ⟨tx.a__law_refused_right, tx.fd__law_refused_right, ["hand"], fnG_of tx.F__law_refused_right sc__law_refused_right rfl (bd__law_refused_right tx), tx.g__law_refused_right, tx.F__law_refused_right.kp, tx.B__law_refused_right⟩
theorem bd_law : Body P w K mg base 10 "law" (tp 27) tx.a_law ["script", "hand", "told", "turn"] [false] (tT tx) b_law := fun cdv A outer s H E pins hcd Fr pm =>
  (sb_cons (ss_setO Fr.C.cs 1 (fr_of pm (i := 1)) (sf_callG (c__law_hand tx) Fr.C Fr.tk (by decide) rfl (sr_v (se_var 0) sr_nil)))
  (sb_cons (ss_set Fr.C.cs 2 (fr_of pm (i := 2)) (SF.se (sf_lst (sa_cons (se_callG (c_floor_sum tx) Fr.C Fr.tk (by decide) rfl (sr_v se_int (sr_v se_int (sr_v se_int (sr_v se_int sr_nil))))) (sa_cons (se_callG (c_many_rests tx) Fr.C Fr.tk (by decide) rfl (sr_v se_int (sr_v se_int (sr_v se_int (sr_v se_int (sr_v se_int sr_nil)))))) (sa_cons (se_callG (c_first_rest tx) Fr.C Fr.tk (by decide) rfl (sr_v se_int (sr_v se_int (sr_v se_int (sr_v se_int (sr_v se_int sr_nil)))))) (sa_cons (se_callG (c_in_triangle tx) Fr.C Fr.tk (by decide) rfl (sr_v se_int (sr_v se_int (sr_v se_int sr_nil)))) sa_nil)))))))
  (sb_cons (ss_if (sq_not (sq_tru (se_callG (c__law_is tx 8) Fr.C Fr.tk (by decide) rfl (sr_v (se_var 2) (sr_v (SF.se (sf_lst (sa_cons se_int (sa_cons se_int (sa_cons se_int (sa_cons se_int sa_nil)))))) sr_nil))))) (sb_one (ss_ret se_bl)) sb_nil)
  (sb_cons (ss_for Fr.C Fr.po (si_r1 rfl tx.n_range se_int) (sg_name Fr.C.cs 3 (fr_of pm (i := 3))) (sb_cons (ss_if (sq_not (sq_tru (se_callG (c__law_is_line_right tx) Fr.C Fr.tk (by decide) rfl (sr_o 1 sr_nil)))) (sb_one (ss_ret se_bl)) sb_nil)
  (sb_cons (ss_if (sq_not (sq_tru (se_callG (c__law_are_rests_right tx) Fr.C Fr.tk (by decide) rfl (sr_o 1 sr_nil)))) (sb_one (ss_ret se_bl)) sb_nil)
  (sb_cons (ss_if (sq_not (sq_tru (se_callG (c__law_is_triangle_right tx) Fr.C Fr.tk (by decide) rfl (sr_o 1 sr_nil)))) (sb_one (ss_ret se_bl)) sb_nil)
  (sb_one (ss_if (sq_not (sq_tru (se_callG (c__law_refused_right tx) Fr.C Fr.tk (by decide) rfl (sr_o 1 sr_nil)))) (sb_one (ss_ret se_bl)) sb_nil))))))
  (sb_one (ss_ret se_bl))))))
theorem c_law : Rf.Cal P w K mg base 11 "law" (spM ⟨K, mg⟩ (tT tx) m_law) := ⟨tx.a_law, tx.fd_law, ["script"], fnG_of tx.F_law sc_law rfl (bd_law tx), tx.g_law, tx.F_law.kp, tx.B_law⟩
end
end K35


namespace K35
open PySem L2 LamX Rf
/-! ## sums of floors: plain -/
def sm : Nat → (Nat → Int) → Int
  | 0, _ => 0
  | n + 1, f => sm n f + f n
theorem sm_congr {f g : Nat → Int} : ∀ {n : Nat}, (∀ k, k < n → f k = g k) → sm n f = sm n g
  | 0, _ => rfl
  | n + 1, h => by
    rw [sm, sm, sm_congr fun k hk => h k (by omega), h n (by omega)]
theorem sm_add {f g : Nat → Int} : ∀ n : Nat, sm n (fun k => f k + g k) = sm n f + sm n g
  | 0 => rfl
  | n + 1 => by
    simp only [sm, sm_add n]
    omega
theorem sm_zero : ∀ n : Nat, sm n (fun _ => 0) = 0
  | 0 => rfl
  | n + 1 => by simp only [sm, sm_zero n]; rfl
theorem sm_mul {f : Nat → Int} (c : Int) : ∀ n : Nat, sm n (fun k => c * f k) = c * sm n f
  | 0 => by simp [sm]
  | n + 1 => by
    simp only [sm, sm_mul c n, Int.mul_add]
theorem sm_swap {f : Nat → Nat → Int} {m : Nat} : ∀ n : Nat, sm n (fun k => sm m fun j => f k j) = sm m fun j => sm n fun k => f k j
  | 0 => by simp only [sm, sm_zero]
  | n + 1 => by
    simp only [sm, sm_swap n, sm_add]
theorem sm_cons {f : Nat → Int} : ∀ n : Nat, sm (n + 1) f = f 0 + sm n fun k => f (k + 1)
  | 0 => by simp [sm]
  | n + 1 => by
    rw [sm, sm_cons n]
    simp only [sm]
    omega
theorem sm_rev {f : Nat → Int} : ∀ n : Nat, sm n f = sm n fun i => f (n - 1 - i)
  | 0 => rfl
  | n + 1 => by
    rw [sm_cons (f := fun i => f (n + 1 - 1 - i)), sm, sm_rev n, Int.add_comm]
    congr 1
    exact sm_congr fun k hk => by
      congr 1
      omega
theorem sm_split {f : Nat → Int} (a : Nat) : ∀ b : Nat, sm (a + b) f = sm a f + sm b fun k => f (a + k)
  | 0 => by simp [sm]
  | b + 1 => by
    rw [← Nat.add_assoc, sm, sm_split a b, sm]
    omega
def tri (n : Nat) : Int := (n : Int) * ((n : Int) - 1) / 2
theorem tri_succ (n : Nat) : tri (n + 1) = tri n + n := by
  unfold tri
  have : ((n + 1 : Nat) : Int) * (((n + 1 : Nat) : Int) - 1) = (n : Int) * ((n : Int) - 1) + n * 2 := by
    have : ((n + 1 : Nat) : Int) = (n : Int) + 1 := by omega
    rw [this]
    grind
  rw [this, Int.add_mul_ediv_right _ _ (by decide)]
theorem sm_id : ∀ n : Nat, sm n (fun k => (k : Int)) = tri n
  | 0 => rfl
  | n + 1 => by rw [sm, sm_id n, tri_succ]
theorem sm_const (c : Int) : ∀ n : Nat, sm n (fun _ => c) = c * n
  | 0 => by simp [sm]
  | n + 1 => by
    rw [sm, sm_const c n]
    have : ((n + 1 : Nat) : Int) = (n : Int) + 1 := by omega
    rw [this, Int.mul_add]
    omega
/-- the sum of whole parts -/
def S (n : Nat) (s b w : Int) : Int := sm n fun k => (s * (k : Int) + b) / w
theorem S_shift (n : Nat) {s b w : Int} (hw : 0 < w) (c d : Int) : S n (s + c * w) (b + d * w) w = S n s b w + c * tri n + d * n := by
  unfold S
  have e : ∀ k : Nat, ((s + c * w) * (k : Int) + (b + d * w)) / w = (s * (k : Int) + b) / w + (c * (k : Int) + d) := by
    intro k
    have : (s + c * w) * (k : Int) + (b + d * w) = (s * (k : Int) + b) + (c * (k : Int) + d) * w := by grind
    rw [this, Int.add_mul_ediv_right _ _ (by omega)]
  rw [sm_congr fun k _ => e k, sm_add, sm_add (f := fun k => c * (k : Int)) (g := fun _ => d), sm_mul, sm_id, sm_const]
  omega
theorem S_lin (n : Nat) {s b w : Int} (hw : 0 < w) : S n s b w = s / w * tri n + b / w * n + S n (s % w) (b % w) w := by
  have h := S_shift n (s := s % w) (b := b % w) hw (s / w) (b / w)
  have e1 : s % w + s / w * w = s := by rw [Int.mul_comm]; exact Int.emod_add_mul_ediv s w
  have e2 : b % w + b / w * w = b := by rw [Int.mul_comm]; exact Int.emod_add_mul_ediv b w
  rw [e1, e2] at h
  omega
theorem S_small {n : Nat} {s b w : Int} (hs : 0 ≤ s) (hb : 0 ≤ b) (h : s * n + b < w) : S n s b w = 0 := by
  unfold S
  rw [sm_congr (g := fun _ => 0) fun k hk => ?_, sm_zero]
  have h1 := Int.mul_le_mul_of_nonneg_left (show (k : Int) ≤ (n : Int) by omega) hs
  have h2 := Int.mul_nonneg hs (show 0 ≤ (k : Int) by omega)
  exact Int.ediv_eq_zero_of_lt (by omega) (by omega)
/-- how many of 1 .. m times w are at most v -/
theorem cnt_is {v w : Int} (hw : 0 < w) (hv : 0 ≤ v) : ∀ m : Nat, sm m (fun j => if w * ((j : Int) + 1) ≤ v then 1 else 0) = min (m : Int) (v / w)
  | 0 => by
    have := Int.ediv_nonneg hv (show 0 ≤ w by omega)
    simp only [sm]
    omega
  | m + 1 => by
    have h : w * ((m : Int) + 1) ≤ v ↔ (m : Int) + 1 ≤ v / w := by
      rw [Int.le_ediv_iff_mul_le hw, Int.mul_comm]
    rw [sm, cnt_is hw hv m]
    by_cases c : w * ((m : Int) + 1) ≤ v
    · rw [if_pos c]
      have := h.mp c
      omega
    · rw [if_neg c]
      have : ¬ _ := fun z => c (h.mpr z)
      omega
/-- steps and wholes changed about -/
theorem S_swap {n : Nat} {s b w : Int} (hs : 0 < s) (hb : 0 ≤ b) (hw : 0 < w) (hbw : b < w) : S n s b w = S ((s * n + b) / w).toNat w ((s * n + b) % w) s := by
  generalize hN : s * (n : Int) + b = N
  have sn := Int.mul_nonneg (show 0 ≤ s by omega) (show 0 ≤ (n : Int) by omega)
  have N0 : 0 ≤ N := by omega
  have q0 := Int.ediv_nonneg N0 (show 0 ≤ w by omega)
  obtain ⟨m, hm⟩ : ∃ m : Nat, N / w = (m : Int) := ⟨(N / w).toNat, by omega⟩
  have hmod : N % w = N - w * m := by
    have := Int.emod_add_mul_ediv N w
    rw [hm] at this
    omega
  rw [show (N / w).toNat = m by omega]
  unfold S
  have e1 : ∀ k, k < n → (s * (k : Int) + b) / w = sm m fun j => if w * ((j : Int) + 1) ≤ s * (k : Int) + b then 1 else 0 := by
    intro k hk
    have k0 := Int.mul_nonneg (show 0 ≤ s by omega) (show 0 ≤ (k : Int) by omega)
    rw [cnt_is hw (by omega)]
    have le := Int.mul_le_mul_of_nonneg_left (show (k : Int) ≤ (n : Int) by omega) (show 0 ≤ s by omega)
    have := Int.ediv_le_ediv (a := s * (k : Int) + b) (b := N) hw (by omega)
    omega
  rw [sm_congr e1, sm_swap, sm_rev m]
  refine sm_congr fun j hj => ?_
  have hj' : ((m - 1 - j : Nat) : Int) + 1 = (m : Int) - j := by omega
  rw [hj', sm_rev n]
  have ev : N - w * ((m : Int) - j) = w * (j : Int) + N % w := by
    rw [hmod, Int.mul_sub]
    omega
  have v0 : 0 ≤ w * (j : Int) + N % w := by
    have := Int.mul_nonneg (show 0 ≤ w by omega) (show 0 ≤ (j : Int) by omega)
    have := Int.emod_nonneg N (show w ≠ 0 by omega)
    omega
  have e2 : ∀ i, i < n → (if w * ((m : Int) - j) ≤ s * ((n - 1 - i : Nat) : Int) + b then (1 : Int) else 0) = if s * ((i : Int) + 1) ≤ w * (j : Int) + N % w then 1 else 0 := by
    intro i hi
    have : s * ((n - 1 - i : Nat) : Int) = s * (n : Int) - s * ((i : Int) + 1) := by
      rw [← Int.mul_sub]
      congr 1
      omega
    rw [this, ← ev]
    generalize w * ((m : Int) - j) = A
    generalize s * ((i : Int) + 1) = B
    have : A ≤ s * (n : Int) - B + b ↔ B ≤ N - A := by omega
    simp only [this]
  rw [sm_congr e2, cnt_is hs v0]
  have : (w * (j : Int) + N % w) / s ≤ n := by
    refine Int.le_of_lt_add_one (Int.ediv_lt_of_lt_mul hs ?_)
    rw [← ev, Int.add_mul, Int.one_mul, Int.mul_comm (n : Int) s]
    have := Int.mul_le_mul_of_nonneg_left (show (1 : Int) ≤ (m : Int) - j by omega) (show 0 ≤ w by omega)
    omega
  omega
end K35

set_option exponentiation.threshold 3000
namespace K35
open PySem L2 LamX Rf
theorem sl24 : sizeLine = 16777216 := by decide
def Sb (n : Nat) (x : Int) : Prop := x.natAbs < 2 ^ n
theorem sb_log {n : Nat} {x : Int} (h : Sb n x) (hn : n ≤ 5000) : x.natAbs.log2 < 5001 := by
  by_cases h0 : x.natAbs = 0
  · rw [h0]; decide
  · have := (Nat.log2_lt h0).mpr h
    omega
theorem mul_sb {n m : Nat} {x y : Int} (h : Sb n x) (h2 : Sb m y) (hn : n ≤ 5000) (hm : m ≤ 5000) : dMul (.int x) (.int y) = some (.int (x * y)) := by
  have a := sb_log h hn
  have b := sb_log h2 hm
  show (if okMul x y then some (D.int (x * y)) else none) = _
  have : okMul x y = true := decide_eq_true (by omega)
  rw [this]
  rfl
theorem Sb.mono {n m : Nat} {x : Int} (h : Sb n x) (hm : n ≤ m) : Sb m x := Nat.lt_of_lt_of_le h (Nat.pow_le_pow_right (by decide) hm)
theorem sb_of {n : Nat} {x : Int} (h : x.natAbs < 2 ^ n) : Sb n x := h
abbrev B13 : Int := 10000000000000
theorem m13 {i j : Int} (h : i.natAbs ≤ 10000000000000) (k : j.natAbs ≤ 10000000000000) : dMul (.int i) (.int j) = some (.int (i * j)) := mul_ii (by rw [BD_eq]; omega) (by rw [BD_eq]; omega)
theorem dv {i j : Int} (h : 0 < j) (h2 : j ≤ 10000000000000) : dDiv (.int i) (.int j) = some (.int (i / j)) := div_ii h (by rw [BD_eq]; omega)
theorem q_abs {t b B : Int} (hb : 0 < b) (hB : 1 ≤ B) (ht : t.natAbs ≤ B) : (t / b).natAbs ≤ B := by
  have h1 := Int.mul_ediv_add_emod t b
  have h2 := Int.emod_nonneg t (show b ≠ 0 by omega)
  have h3 := Int.emod_lt_of_pos t hb
  have l1 : t / b ≤ B := by
    refine Int.le_of_lt_add_one (Int.ediv_lt_of_lt_mul hb ?_)
    have := Int.mul_le_mul_of_nonneg_left (show 1 ≤ b by omega) (show 0 ≤ B + 1 by omega)
    omega
  have l2 : -B ≤ t / b := by
    refine Int.le_ediv_of_mul_le hb ?_
    have := Int.mul_le_mul_of_nonneg_left (show 1 ≤ b by omega) (show 0 ≤ B by omega)
    rw [Int.neg_mul]
    omega
  omega
theorem tri_b {n : Nat} (h : n ≤ 10000000000000) : 0 ≤ tri n ∧ tri n ≤ 100000000000000000000000000 := by
  have : 0 ≤ (n : Int) * ((n : Int) - 1) := by
    cases n with
    | zero => simp
    | succ m => exact Int.mul_nonneg (by omega) (by omega)
  have h2 : (n : Int) * ((n : Int) - 1) ≤ 10000000000000 * 10000000000000 := by
    cases n with
    | zero => simp
    | succ m => exact Int.mul_le_mul (by omega) (by omega) (by omega) (by omega)
  unfold tri
  omega
theorem ft_step {n : Nat} {s b w tot t : Int} (hn : n ≤ 10000000000000) (hs : s.natAbs ≤ 10000000000000) (hb : b.natAbs ≤ 10000000000000) (hw : 0 < w) (hw2 : w ≤ 10000000000000) : lb2_floor_total [.v (.int (n : Int)), .v (.int s), .v (.int b), .v (.int w), .v (.int tot), .v (.int t)] = if w ≤ s % w * n + b % w then .nx [.v (.int ((s % w * n + b % w) / w)), .v (.int w), .v (.int ((s % w * n + b % w) % w)), .v (.int (s % w)), .v (.int (tot + (s / w * tri n + b / w * n))), .v (.int (s % w))] else .nx [.v (.int (n : Int)), .v (.int (s % w)), .v (.int (b % w)), .v (.int w), .v (.int (tot + (s / w * tri n + b / w * n))), .v (.int (s % w * n + b % w))] := by
  have d1 := dv (i := s) hw hw2
  have d2 := dv (i := b) hw hw2
  have q1 := q_abs (t := s) (B := 10000000000000) hw (by decide) (by omega)
  have q2 := q_abs (t := b) (B := 10000000000000) hw (by decide) (by omega)
  have m1 := m13 (i := (n : Int)) (j := (n : Int) - 1) (by omega) (by omega)
  have d3 : dDiv (.int ((n : Int) * ((n : Int) - 1))) (.int 2) = some (.int (tri n)) := div_ii (by decide) (by decide)
  obtain ⟨t0, t1⟩ := tri_b hn
  have m2 : dMul (.int (s / w)) (.int (tri n)) = some (.int (s / w * tri n)) := mul_sb (n := 100) (m := 100) (Nat.lt_of_le_of_lt (show _ ≤ 10000000000000 by omega) (by decide)) (Nat.lt_of_le_of_lt (show _ ≤ 100000000000000000000000000 by omega) (by decide)) (by decide) (by decide)
  have m3 := m13 (i := b / w) (j := (n : Int)) (by omega) (by omega)
  have r1 : dMod (.int s) (.int w) = some (.int (s % w)) := mod_ii hw
  have r2 : dMod (.int b) (.int w) = some (.int (b % w)) := mod_ii hw
  have s0 := Int.emod_nonneg s (show w ≠ 0 by omega)
  have s1 := Int.emod_lt_of_pos s hw
  have m4 := m13 (i := s % w) (j := (n : Int)) (by omega) (by omega)
  generalize s % w * (n : Int) = A at *
  generalize s / w * tri n = X1 at *
  generalize b / w * (n : Int) = X2 at *
  generalize (n : Int) * ((n : Int) - 1) = X3 at *
  generalize tri n = X4 at *
  generalize s / w = X5 at *
  generalize b / w = X6 at *
  generalize s % w = s' at *
  generalize b % w = b' at *
  have d4 := dv (i := A + b') hw hw2
  have r4 : dMod (.int (A + b')) (.int w) = some (.int ((A + b') % w)) := mod_ii hw
  generalize (A + b') / w = Y1 at *
  generalize (A + b') % w = Y2 at *
  generalize (n : Int) = N at *
  by_cases c : w ≤ A + b'
  · simp [lb2_floor_total, runM, runF, sSeq, sIf, sRet, sRetF, sSet, sSetO, sSetIx, sAsg, sPar, sNil, sDrop, sRetO, sMut1, oApp, ofRo, Ro.bind, lift, eVar, eC, eOp, eCmp, qCmp, qAnd, qOr, qNot, qTru, eAnd, eOr, eNot, eIf, eNeg, eChain, qChain, eIxV, slotD, dIx, dIxS, isDic, atI, ixN, eCall, aCons, aNil, eTup, eLst, oLen, eLenV, lenD, oInt, eq_ii, lt_ii, gt_ii, ge_ii, le_ii, add_ii, sub_ii, outR, outOk, outs, ownS, isNo, isLstS, List.replicate, eCallD, callM, okAr, arS, putO, rV, rO, rNil, tName, tTupl, tsCons, tsNil, eLc, lcL, iSeq, seqD, qYes, noOwn, isOwn, wipeE, backE, sl24, sAug, slotD, d1, d2, m1, d3, m2, m3, r1, r2, m4, c, d4, r4]
  · simp [lb2_floor_total, runM, runF, sSeq, sIf, sRet, sRetF, sSet, sSetO, sSetIx, sAsg, sPar, sNil, sDrop, sRetO, sMut1, oApp, ofRo, Ro.bind, lift, eVar, eC, eOp, eCmp, qCmp, qAnd, qOr, qNot, qTru, eAnd, eOr, eNot, eIf, eNeg, eChain, qChain, eIxV, slotD, dIx, dIxS, isDic, atI, ixN, eCall, aCons, aNil, eTup, eLst, oLen, eLenV, lenD, oInt, eq_ii, lt_ii, gt_ii, ge_ii, le_ii, add_ii, sub_ii, outR, outOk, outs, ownS, isNo, isLstS, List.replicate, eCallD, callM, okAr, arS, putO, rV, rO, rNil, tName, tTupl, tsCons, tsNil, eLc, lcL, iSeq, seqD, qYes, noOwn, isOwn, wipeE, backE, sl24, sAug, slotD, d1, d2, m1, d3, m2, m3, r1, r2, m4, c]
theorem ft_loop : ∀ (f n : Nat) (s b w tot : Int), n ≤ 10000000000000 → s.natAbs ≤ 10000000000000 → b.natAbs ≤ 10000000000000 → 0 < w → w ≤ 10000000000000 → w.toNat + 1 < f → ∃ n' s' b' w' t' : Int, whileN lq1_floor_total lb2_floor_total f [.v (.int (n : Int)), .v (.int s), .v (.int b), .v (.int w), .v (.int tot), .v (.int w)] = .nx [.v (.int n'), .v (.int s'), .v (.int b'), .v (.int w'), .v (.int (tot + S n s b w)), .v (.int t')]
  | 0, n, s, b, w, tot, _, _, _, _, _, h => absurd h (Nat.not_lt_zero _)
  | f + 1, n, s, b, w, tot, hn, hs, hb, hw, hw2, hf => by
    have q : lq1_floor_total [.v (.int (n : Int)), .v (.int s), .v (.int b), .v (.int w), .v (.int tot), .v (.int w)] = .ok true [.v (.int (n : Int)), .v (.int s), .v (.int b), .v (.int w), .v (.int tot), .v (.int w)] := by
      simp [lq1_floor_total, runM, runF, sSeq, sIf, sRet, sRetF, sSet, sSetO, sSetIx, sAsg, sPar, sNil, sDrop, sRetO, sMut1, oApp, ofRo, Ro.bind, lift, eVar, eC, eOp, eCmp, qCmp, qAnd, qOr, qNot, qTru, eAnd, eOr, eNot, eIf, eNeg, eChain, qChain, eIxV, slotD, dIx, dIxS, isDic, atI, ixN, eCall, aCons, aNil, eTup, eLst, oLen, eLenV, lenD, oInt, eq_ii, lt_ii, gt_ii, ge_ii, le_ii, add_ii, sub_ii, outR, outOk, outs, ownS, isNo, isLstS, List.replicate, eCallD, callM, okAr, arS, putO, rV, rO, rNil, tName, tTupl, tsCons, tsNil, eLc, lcL, iSeq, seqD, qYes, noOwn, isOwn, wipeE, backE, sl24]
    have st := ft_step (t := w) (tot := tot) hn hs hb hw hw2
    have s0 := Int.emod_nonneg s (show w ≠ 0 by omega)
    have s1 := Int.emod_lt_of_pos s hw
    have b0 := Int.emod_nonneg b (show w ≠ 0 by omega)
    have b1 := Int.emod_lt_of_pos b hw
    have li := S_lin n (s := s) (b := b) hw
    by_cases c : w ≤ s % w * n + b % w
    · rw [if_pos c] at st
      have sp : 0 < s % w := by
        rcases Int.lt_or_eq_of_le s0 with h | h
        · exact h
        · rw [← h, Int.zero_mul] at c
          omega
      have sw := S_swap (n := n) sp b0 hw b1
      have nn := Int.mul_nonneg s0 (show 0 ≤ (n : Int) by omega)
      have q0 := Int.ediv_nonneg (a := s % w * n + b % w) (b := w) (by omega) (by omega)
      have q1 : (s % w * n + b % w) / w ≤ n := by
        refine Int.le_of_lt_add_one (Int.ediv_lt_of_lt_mul hw ?_)
        have := Int.mul_le_mul_of_nonneg_right (show s % w ≤ w by omega) (show 0 ≤ (n : Int) by omega)
        rw [Int.add_mul, Int.one_mul, Int.mul_comm (n : Int) w]
        omega
      obtain ⟨m, hm⟩ : ∃ m : Nat, (s % w * n + b % w) / w = (m : Int) := ⟨((s % w * n + b % w) / w).toNat, by omega⟩
      have r0 := Int.emod_nonneg (s % w * n + b % w) (show w ≠ 0 by omega)
      have r1 := Int.emod_lt_of_pos (s % w * n + b % w) hw
      rw [hm, show ((m : Int)).toNat = m by omega] at sw
      rw [hm] at st
      obtain ⟨n', s', b', w', t', ih⟩ := ft_loop f m w ((s % w * n + b % w) % w) (s % w) (tot + (s / w * tri n + b / w * n)) (by omega) (by omega) (by omega) sp (by omega) (by omega)
      refine ⟨n', s', b', w', t', ?_⟩
      have e : tot + (s / w * tri n + b / w * n) + S m w ((s % w * n + b % w) % w) (s % w) = tot + S n s b w := by rw [← sw]; omega
      rw [e] at ih
      simp only [whileN, ofRo, q, st, ih, if_true]
    · rw [if_neg c] at st
      have z := S_small (n := n) (w := w) s0 b0 (by omega)
      have e : tot + (s / w * tri n + b / w * n) = tot + S n s b w := by omega
      rw [e] at st
      refine ⟨n, s % w, b % w, w, s % w * n + b % w, ?_⟩
      obtain ⟨g, rfl⟩ : ∃ g, f = g + 1 := ⟨f - 1, by omega⟩
      generalize s % w * (n : Int) + b % w = T at *
      have q2 : lq1_floor_total [.v (.int (n : Int)), .v (.int (s % w)), .v (.int (b % w)), .v (.int w), .v (.int (tot + S n s b w)), .v (.int T)] = .ok false [.v (.int (n : Int)), .v (.int (s % w)), .v (.int (b % w)), .v (.int w), .v (.int (tot + S n s b w)), .v (.int T)] := by
        simp [lq1_floor_total, runM, runF, sSeq, sIf, sRet, sRetF, sSet, sSetO, sSetIx, sAsg, sPar, sNil, sDrop, sRetO, sMut1, oApp, ofRo, Ro.bind, lift, eVar, eC, eOp, eCmp, qCmp, qAnd, qOr, qNot, qTru, eAnd, eOr, eNot, eIf, eNeg, eChain, qChain, eIxV, slotD, dIx, dIxS, isDic, atI, ixN, eCall, aCons, aNil, eTup, eLst, oLen, eLenV, lenD, oInt, eq_ii, lt_ii, gt_ii, ge_ii, le_ii, add_ii, sub_ii, outR, outOk, outs, ownS, isNo, isLstS, List.replicate, eCallD, callM, okAr, arS, putO, rV, rO, rNil, tName, tTupl, tsCons, tsNil, eLc, lcL, iSeq, seqD, qYes, noOwn, isOwn, wipeE, backE, sl24]
        omega
      rw [whileN, q]
      simp only [ofRo, if_true, st]
      rw [whileN, q2]
      simp [ofRo]
theorem s_ft {n : Nat} {s b w : Int} (hn : n ≤ 10000000000000) (hs : s.natAbs ≤ 10000000000000) (hb : b.natAbs ≤ 10000000000000) (hw : 0 < w) (hw2 : w ≤ 10000000000000) : m_floor_total [.v (.int (n : Int)), .v (.int s), .v (.int b), .v (.int w)] = .ok (.int (S n s b w)) [.no, .no, .no, .no] := by
  obtain ⟨n', s', b', w', t', e⟩ := ft_loop many n s b w 0 hn hs hb hw hw2 (Nat.lt_of_le_of_lt (show _ ≤ 10000000000001 by omega) (by decide +kernel))
  rw [Int.zero_add] at e
  have e : sWhile lq1_floor_total lb2_floor_total [.v (.int (n : Int)), .v (.int s), .v (.int b), .v (.int w), .v (.int 0), .v (.int w)] = _ := e
  have a1 : sPar 4 5 (eC (.int 0)) (eVar 3) [.v (.int (n : Int)), .v (.int s), .v (.int b), .v (.int w), .no, .no] = .nx [.v (.int (n : Int)), .v (.int s), .v (.int b), .v (.int w), .v (.int 0), .v (.int w)] := rfl
  have hb : b_floor_total [.v (.int (n : Int)), .v (.int s), .v (.int b), .v (.int w), .no, .no] = .ret (.int (S n s b w)) [.v (.int n'), .v (.int s'), .v (.int b'), .v (.int w'), .v (.int (S n s b w)), .v (.int t')] := by
    rw [b_floor_total, seq_nx a1, seq_nx e]
    rfl
  exact runM_ret hb rfl rfl rfl rfl
end K35

namespace K35
open PySem L2 LamX Rf
theorem i_ii (i : Int) : isiD .i (.int i) = some true := by kernel_rfl
theorem i_bi (i : Int) : isiD .b (.int i) = some false := by kernel_rfl
theorem s_within (i lo hi : Int) : m_is_within [.v (.int i), .v (.int lo), .v (.int hi)] = .ok (.bl (decide (lo ≤ i ∧ i ≤ hi))) [.no, .no, .no] := by
  have h1 := i_ii i
  have h2 := i_bi i
  by_cases c : lo ≤ i
  · by_cases d : i ≤ hi
    · simp [m_is_within, b_is_within, m_is_integer, b_is_integer, runM, runF, sSeq, sIf, sRet, sRetF, sSet, sSetO, sSetIx, sAsg, sPar, sNil, sDrop, sRetO, sMut1, oApp, ofRo, Ro.bind, lift, eVar, eC, eOp, eCmp, qCmp, qAnd, qOr, qNot, qTru, eAnd, eOr, eNot, eIf, eNeg, eChain, qChain, eIxV, slotD, dIx, dIxS, isDic, atI, ixN, eCall, aCons, aNil, eTup, eLst, oLen, eLenV, lenD, oInt, eq_ii, lt_ii, gt_ii, ge_ii, le_ii, add_ii, sub_ii, outR, outOk, outs, ownS, isNo, isLstS, List.replicate, eCallD, callM, okAr, arS, putO, rV, rO, rNil, tName, tTupl, tsCons, tsNil, eLc, lcL, iSeq, seqD, qYes, noOwn, isOwn, wipeE, backE, sl24, eIsi, h1, h2, truD, c, d]
    · simp [m_is_within, b_is_within, m_is_integer, b_is_integer, runM, runF, sSeq, sIf, sRet, sRetF, sSet, sSetO, sSetIx, sAsg, sPar, sNil, sDrop, sRetO, sMut1, oApp, ofRo, Ro.bind, lift, eVar, eC, eOp, eCmp, qCmp, qAnd, qOr, qNot, qTru, eAnd, eOr, eNot, eIf, eNeg, eChain, qChain, eIxV, slotD, dIx, dIxS, isDic, atI, ixN, eCall, aCons, aNil, eTup, eLst, oLen, eLenV, lenD, oInt, eq_ii, lt_ii, gt_ii, ge_ii, le_ii, add_ii, sub_ii, outR, outOk, outs, ownS, isNo, isLstS, List.replicate, eCallD, callM, okAr, arS, putO, rV, rO, rNil, tName, tTupl, tsCons, tsNil, eLc, lcL, iSeq, seqD, qYes, noOwn, isOwn, wipeE, backE, sl24, eIsi, h1, h2, truD, c, d]
  · simp [m_is_within, b_is_within, m_is_integer, b_is_integer, runM, runF, sSeq, sIf, sRet, sRetF, sSet, sSetO, sSetIx, sAsg, sPar, sNil, sDrop, sRetO, sMut1, oApp, ofRo, Ro.bind, lift, eVar, eC, eOp, eCmp, qCmp, qAnd, qOr, qNot, qTru, eAnd, eOr, eNot, eIf, eNeg, eChain, qChain, eIxV, slotD, dIx, dIxS, isDic, atI, ixN, eCall, aCons, aNil, eTup, eLst, oLen, eLenV, lenD, oInt, eq_ii, lt_ii, gt_ii, ge_ii, le_ii, add_ii, sub_ii, outR, outOk, outs, ownS, isNo, isLstS, List.replicate, eCallD, callM, okAr, arS, putO, rV, rO, rNil, tName, tTupl, tsCons, tsNil, eLc, lcL, iSeq, seqD, qYes, noOwn, isOwn, wipeE, backE, sl24, eIsi, h1, h2, truD, c]
theorem ten12 : dPow (.int 10) (.int 12) = some (.int 1000000000000) := by kernel_rfl
structure Ln (n : Nat) (s b w : Int) : Prop where
  n : n ≤ 1000000000000
  s : s.natAbs ≤ 1000000000000
  b : b.natAbs ≤ 1000000000000
  w0 : 0 < w
  w1 : w ≤ 1000000000000
section
variable {n : Nat} {s b w : Int}
theorem s_check_line (h : Ln n s b w) : m_check_line [.v (.int (n : Int)), .v (.int s), .v (.int b), .v (.int w)] = .ok .non [.no, .no, .no, .no] := by
  have h1 := s_within (n : Int) 0 1000000000000
  have h2 := s_within w 1 1000000000000
  have h3 := s_within s (-1000000000000) 1000000000000
  have h4 := s_within b (-1000000000000) 1000000000000
  have hn := h.n; have hs := h.s; have hb := h.b; have w0 := h.w0; have w1 := h.w1
  rw [decide_eq_true (by omega)] at h1 h2 h3 h4
  simp [m_check_line, b_check_line, runM, runF, sSeq, sIf, sRet, sRetF, sSet, sSetO, sSetIx, sAsg, sPar, sNil, sDrop, sRetO, sMut1, oApp, ofRo, Ro.bind, lift, eVar, eC, eOp, eCmp, qCmp, qAnd, qOr, qNot, qTru, eAnd, eOr, eNot, eIf, eNeg, eChain, qChain, eIxV, slotD, dIx, dIxS, isDic, atI, ixN, eCall, aCons, aNil, eTup, eLst, oLen, eLenV, lenD, oInt, eq_ii, lt_ii, gt_ii, ge_ii, le_ii, add_ii, sub_ii, outR, outOk, outs, ownS, isNo, isLstS, List.replicate, eCallD, callM, okAr, arS, putO, rV, rO, rNil, tName, tTupl, tsCons, tsNil, eLc, lcL, iSeq, seqD, qYes, noOwn, isOwn, wipeE, backE, sl24, h1, h2, h3, h4, ten12, truD]
theorem s_floor_sum (h : Ln n s b w) : m_floor_sum [.v (.int (n : Int)), .v (.int s), .v (.int b), .v (.int w)] = .ok (.int (S n s b w)) [.no, .no, .no, .no] := by
  have c := s_check_line h
  have f := s_ft (n := n) (s := s) (b := b) (w := w) (by have := h.n; omega) (by have := h.s; omega) (by have := h.b; omega) h.w0 (by have := h.w1; omega)
  generalize S n s b w = X at *
  generalize (n : Int) = N at *
  simp [m_floor_sum, b_floor_sum, runM, runF, sSeq, sIf, sRet, sRetF, sSet, sSetO, sSetIx, sAsg, sPar, sNil, sDrop, sRetO, sMut1, oApp, ofRo, Ro.bind, lift, eVar, eC, eOp, eCmp, qCmp, qAnd, qOr, qNot, qTru, eAnd, eOr, eNot, eIf, eNeg, eChain, qChain, eIxV, slotD, dIx, dIxS, isDic, atI, ixN, eCall, aCons, aNil, eTup, eLst, oLen, eLenV, lenD, oInt, eq_ii, lt_ii, gt_ii, ge_ii, le_ii, add_ii, sub_ii, outR, outOk, outs, ownS, isNo, isLstS, List.replicate, eCallD, callM, okAr, arS, putO, rV, rO, rNil, tName, tTupl, tsCons, tsNil, eLc, lcL, iSeq, seqD, qYes, noOwn, isOwn, wipeE, backE, sl24, c, f]
theorem s_below (h : Ln n s b w) (h1 : 0 ≤ s) (h2 : 0 ≤ b) : m_below_line [.v (.int (n : Int)), .v (.int s), .v (.int b), .v (.int w)] = .ok (.int (S n s b w)) [.no, .no, .no, .no] := by
  have c := s_check_line h
  have f := s_ft (n := n) (s := s) (b := b) (w := w) (by have := h.n; omega) (by have := h.s; omega) (by have := h.b; omega) h.w0 (by have := h.w1; omega)
  generalize S n s b w = X at *
  generalize (n : Int) = N at *
  have a1 : ¬ s < 0 := by omega
  have a2 : ¬ b < 0 := by omega
  simp [m_below_line, b_below_line, runM, runF, sSeq, sIf, sRet, sRetF, sSet, sSetO, sSetIx, sAsg, sPar, sNil, sDrop, sRetO, sMut1, oApp, ofRo, Ro.bind, lift, eVar, eC, eOp, eCmp, qCmp, qAnd, qOr, qNot, qTru, eAnd, eOr, eNot, eIf, eNeg, eChain, qChain, eIxV, slotD, dIx, dIxS, isDic, atI, ixN, eCall, aCons, aNil, eTup, eLst, oLen, eLenV, lenD, oInt, eq_ii, lt_ii, gt_ii, ge_ii, le_ii, add_ii, sub_ii, outR, outOk, outs, ownS, isNo, isLstS, List.replicate, eCallD, callM, okAr, arS, putO, rV, rO, rNil, tName, tTupl, tsCons, tsNil, eLc, lcL, iSeq, seqD, qYes, noOwn, isOwn, wipeE, backE, sl24, c, f, a1, a2]
/-- how many rests of s k lie from lo to hi -/
def Rn (n : Nat) (s w lo hi : Int) : Int := sm n fun k => if lo ≤ s * (k : Int) % w ∧ s * (k : Int) % w ≤ hi then 1 else 0
theorem one_rest {v w lo hi : Int} (hw : 0 < w) (h0 : 0 ≤ lo) (h1 : lo ≤ hi) (h2 : hi < w) : (v + (w - lo)) / w - (v + (w - hi - 1)) / w = if lo ≤ v % w ∧ v % w ≤ hi then 1 else 0 := by
  have e := Int.emod_add_mul_ediv v w
  have r0 := Int.emod_nonneg v (show w ≠ 0 by omega)
  have r1 := Int.emod_lt_of_pos v hw
  generalize v % w = r at *
  generalize v / w = q at *
  have e1 : v + (w - lo) = (r + w - lo) + q * w := by rw [Int.mul_comm q w]; omega
  have e2 : v + (w - hi - 1) = (r + w - hi - 1) + q * w := by rw [Int.mul_comm q w]; omega
  rw [e1, e2, Int.add_mul_ediv_right _ _ (by omega), Int.add_mul_ediv_right _ _ (by omega)]
  have f1 : (r + w - lo) / w = if lo ≤ r then 1 else 0 := by
    split
    · rw [show r + w - lo = (r - lo) + 1 * w by omega, Int.add_mul_ediv_right _ _ (by omega), Int.ediv_eq_zero_of_lt (by omega) (by omega)]
      rfl
    · exact Int.ediv_eq_zero_of_lt (by omega) (by omega)
  have f2 : (r + w - hi - 1) / w = if hi < r then 1 else 0 := by
    split
    · rw [show r + w - hi - 1 = (r - hi - 1) + 1 * w by omega, Int.add_mul_ediv_right _ _ (by omega), Int.ediv_eq_zero_of_lt (by omega) (by omega)]
      rfl
    · exact Int.ediv_eq_zero_of_lt (by omega) (by omega)
  rw [f1, f2]
  split <;> split <;> split <;> omega
theorem Rn_is {lo hi : Int} (hw : 0 < w) (h0 : 0 ≤ lo) (h1 : lo ≤ hi) (h2 : hi < w) : S n (s % w) (w - lo) w - S n (s % w) (w - hi - 1) w = Rn n s w lo hi := by
  unfold S Rn
  have e : ∀ k, k < n → (if lo ≤ s * (k : Int) % w ∧ s * (k : Int) % w ≤ hi then (1 : Int) else 0) = (s % w * (k : Int) + (w - lo)) / w + (-1) * ((s % w * (k : Int) + (w - hi - 1)) / w) := by
    intro k _
    have o := one_rest (v := s % w * (k : Int)) hw h0 h1 h2
    have m : s % w * (k : Int) % w = s * (k : Int) % w := by rw [Int.mul_emod, Int.emod_emod, ← Int.mul_emod]
    rw [m] at o
    omega
  rw [sm_congr e, sm_add, sm_mul]
  omega
theorem s_between {lo hi : Int} (hn : n ≤ 1000000000000) (hw : 0 < w) (hw1 : w ≤ 1000000000000) (h0 : 0 ≤ lo) (h1 : lo ≤ hi) (h2 : hi < w) : m_rests_between [.v (.int (n : Int)), .v (.int s), .v (.int w), .v (.int lo), .v (.int hi)] = .ok (.int (Rn n s w lo hi)) [.no, .no, .no, .no, .no] := by
  have r1 : dMod (.int s) (.int w) = some (.int (s % w)) := mod_ii hw
  have s0 := Int.emod_nonneg s (show w ≠ 0 by omega)
  have s1 := Int.emod_lt_of_pos s hw
  have f1 := s_ft (n := n) (s := s % w) (b := w - lo) (w := w) (by omega) (by omega) (by omega) hw (by omega)
  have f2 := s_ft (n := n) (s := s % w) (b := w - hi - 1) (w := w) (by omega) (by omega) (by omega) hw (by omega)
  have e := Rn_is (n := n) (s := s) hw h0 h1 h2
  rw [← e]
  generalize S n (s % w) (w - lo) w = X at *
  generalize S n (s % w) (w - hi - 1) w = Y at *
  generalize (n : Int) = N at *
  generalize s % w = s' at *
  simp [m_rests_between, b_rests_between, runM, runF, sSeq, sIf, sRet, sRetF, sSet, sSetO, sSetIx, sAsg, sPar, sNil, sDrop, sRetO, sMut1, oApp, ofRo, Ro.bind, lift, eVar, eC, eOp, eCmp, qCmp, qAnd, qOr, qNot, qTru, eAnd, eOr, eNot, eIf, eNeg, eChain, qChain, eIxV, slotD, dIx, dIxS, isDic, atI, ixN, eCall, aCons, aNil, eTup, eLst, oLen, eLenV, lenD, oInt, eq_ii, lt_ii, gt_ii, ge_ii, le_ii, add_ii, sub_ii, outR, outOk, outs, ownS, isNo, isLstS, List.replicate, eCallD, callM, okAr, arS, putO, rV, rO, rNil, tName, tTupl, tsCons, tsNil, eLc, lcL, iSeq, seqD, qYes, noOwn, isOwn, wipeE, backE, sl24, r1, f1, f2]
theorem s_many_rests {lo hi : Int} (h : Ln n s 0 w) (h0 : 0 ≤ lo) (h1 : lo ≤ hi) (h2 : hi < w) : m_many_rests [.v (.int (n : Int)), .v (.int s), .v (.int w), .v (.int lo), .v (.int hi)] = .ok (.int (Rn n s w lo hi)) [.no, .no, .no, .no, .no] := by
  have c := s_check_line h
  have b := s_between (s := s) h.n h.w0 h.w1 h0 h1 h2
  have i1 := s_within lo 0 (w - 1)
  have i2 := s_within hi lo (w - 1)
  rw [decide_eq_true (by omega)] at i1 i2
  generalize Rn n s w lo hi = X at *
  generalize (n : Int) = N at *
  simp [m_many_rests, b_many_rests, runM, runF, sSeq, sIf, sRet, sRetF, sSet, sSetO, sSetIx, sAsg, sPar, sNil, sDrop, sRetO, sMut1, oApp, ofRo, Ro.bind, lift, eVar, eC, eOp, eCmp, qCmp, qAnd, qOr, qNot, qTru, eAnd, eOr, eNot, eIf, eNeg, eChain, qChain, eIxV, slotD, dIx, dIxS, isDic, atI, ixN, eCall, aCons, aNil, eTup, eLst, oLen, eLenV, lenD, oInt, eq_ii, lt_ii, gt_ii, ge_ii, le_ii, add_ii, sub_ii, outR, outOk, outs, ownS, isNo, isLstS, List.replicate, eCallD, callM, okAr, arS, putO, rV, rO, rNil, tName, tTupl, tsCons, tsNil, eLc, lcL, iSeq, seqD, qYes, noOwn, isOwn, wipeE, backE, sl24, c, b, i1, i2, truD]
end
end K35

namespace K35
open PySem L2 LamX Rf
/-! ## the first rest -/
section
variable {s w lo hi : Int}
def isR (s w lo hi : Int) (k : Nat) : Bool := decide (lo ≤ s * (k : Int) % w ∧ s * (k : Int) % w ≤ hi)
def good (n : Nat) (s w lo hi : Int) : List Nat := (List.range n).filter (isR s w lo hi)
theorem Rn_len : ∀ n : Nat, Rn n s w lo hi = ((good n s w lo hi).length : Int)
  | 0 => rfl
  | n + 1 => by
    have ih := Rn_len n
    unfold Rn at ih ⊢
    rw [sm, ih]
    unfold good
    rw [List.range_succ, List.filter_append, List.length_append]
    by_cases c : lo ≤ s * (n : Int) % w ∧ s * (n : Int) % w ≤ hi
    · rw [if_pos c, List.filter_cons_of_pos (by simp [isR, c])]
      simp
    · rw [if_neg c, List.filter_cons_of_neg (by simpa [isR] using c)]
      simp
theorem good_head {n m : Nat} (hm : m + 1 ≤ n) (h0 : Rn m s w lo hi = 0) (h1 : 0 < Rn (m + 1) s w lo hi) : ∃ r, good n s w lo hi = m :: r := by
  rw [Rn_len] at h0 h1
  have e0 : good m s w lo hi = [] := List.eq_nil_of_length_eq_zero (by omega)
  have e1 : good (m + 1) s w lo hi = [m] := by
    unfold good at e0 h1 ⊢
    rw [List.range_succ, List.filter_append, e0] at h1 ⊢
    by_cases c : isR s w lo hi m = true
    · rw [List.filter_cons_of_pos c]
      rfl
    · rw [List.filter_cons_of_neg c] at h1
      simp at h1
  obtain ⟨d, rfl⟩ := Nat.exists_eq_add_of_le hm
  refine ⟨((List.range d).map (fun k => m + 1 + k)).filter (isR s w lo hi), ?_⟩
  unfold good at e1 ⊢
  rw [List.range_add, List.filter_append, e1]
  rfl
theorem fr_loop {n : Nat} (hn : n ≤ 1000000000000) (hw : 0 < w) (hw1 : w ≤ 1000000000000) (h0 : 0 ≤ lo) (h1 : lo ≤ hi) (h2 : hi < w) : ∀ (f a b : Nat) (x7 : Slot), a < b → b ≤ n → b - a < f → Rn a s w lo hi = 0 → 0 < Rn b s w lo hi → ∃ (m : Nat) (y7 : Slot), whileN lq1_first_rest lb2_first_rest f [.v (.int (n : Int)), .v (.int s), .v (.int w), .v (.int lo), .v (.int hi), .v (.int (a : Int)), .v (.int (b : Int)), x7] = .nx [.v (.int (n : Int)), .v (.int s), .v (.int w), .v (.int lo), .v (.int hi), .v (.int (m : Int)), .v (.int ((m : Int) + 1)), y7] ∧ m + 1 ≤ n ∧ Rn m s w lo hi = 0 ∧ 0 < Rn (m + 1) s w lo hi
  | 0, a, b, x7, _, _, h, _, _ => absurd h (Nat.not_lt_zero _)
  | f + 1, a, b, x7, hab, hb, hf, z0, z1 => by
    by_cases c : b = a + 1
    · subst c
      refine ⟨a, x7, ?_, hb, z0, z1⟩
      have q : lq1_first_rest [.v (.int (n : Int)), .v (.int s), .v (.int w), .v (.int lo), .v (.int hi), .v (.int (a : Int)), .v (.int ((a : Int) + 1)), x7] = .ok false [.v (.int (n : Int)), .v (.int s), .v (.int w), .v (.int lo), .v (.int hi), .v (.int (a : Int)), .v (.int ((a : Int) + 1)), x7] := by
        have : ¬ 1 < (a : Int) + 1 - a := by omega
        simp [lq1_first_rest, runM, runF, sSeq, sIf, sRet, sRetF, sSet, sSetO, sSetIx, sAsg, sPar, sNil, sDrop, sRetO, sMut1, oApp, ofRo, Ro.bind, lift, eVar, eC, eOp, eCmp, qCmp, qAnd, qOr, qNot, qTru, eAnd, eOr, eNot, eIf, eNeg, eChain, qChain, eIxV, slotD, dIx, dIxS, isDic, atI, ixN, eCall, aCons, aNil, eTup, eLst, oLen, eLenV, lenD, oInt, eq_ii, lt_ii, gt_ii, ge_ii, le_ii, add_ii, sub_ii, outR, outOk, outs, ownS, isNo, isLstS, List.replicate, eCallD, callM, okAr, arS, putO, rV, rO, rNil, tName, tTupl, tsCons, tsNil, eLc, lcL, iSeq, seqD, qYes, noOwn, isOwn, wipeE, backE, sl24, this]
      rw [show ((a + 1 : Nat) : Int) = (a : Int) + 1 by omega, whileN, q]
      simp [ofRo]
    · have cc : 1 < (b : Int) - (a : Int) := by omega
      have q : lq1_first_rest [.v (.int (n : Int)), .v (.int s), .v (.int w), .v (.int lo), .v (.int hi), .v (.int (a : Int)), .v (.int (b : Int)), x7] = .ok true [.v (.int (n : Int)), .v (.int s), .v (.int w), .v (.int lo), .v (.int hi), .v (.int (a : Int)), .v (.int (b : Int)), x7] := by
        simp [lq1_first_rest, runM, runF, sSeq, sIf, sRet, sRetF, sSet, sSetO, sSetIx, sAsg, sPar, sNil, sDrop, sRetO, sMut1, oApp, ofRo, Ro.bind, lift, eVar, eC, eOp, eCmp, qCmp, qAnd, qOr, qNot, qTru, eAnd, eOr, eNot, eIf, eNeg, eChain, qChain, eIxV, slotD, dIx, dIxS, isDic, atI, ixN, eCall, aCons, aNil, eTup, eLst, oLen, eLenV, lenD, oInt, eq_ii, lt_ii, gt_ii, ge_ii, le_ii, add_ii, sub_ii, outR, outOk, outs, ownS, isNo, isLstS, List.replicate, eCallD, callM, okAr, arS, putO, rV, rO, rNil, tName, tTupl, tsCons, tsNil, eLc, lcL, iSeq, seqD, qYes, noOwn, isOwn, wipeE, backE, sl24, cc]
      have d : dDiv (.int ((a : Int) + (b : Int))) (.int 2) = some (.int (((a + b) / 2 : Nat) : Int)) := by
        rw [div_ii (by decide) (by decide)]
        rfl
      have hm1 : a < (a + b) / 2 := by omega
      have hm2 : (a + b) / 2 < b := by omega
      generalize (a + b) / 2 = m at *
      have bt := s_between (n := m) (s := s) (by omega) hw hw1 h0 h1 h2
      by_cases g : 0 < Rn m s w lo hi
      · have bd : lb2_first_rest [.v (.int (n : Int)), .v (.int s), .v (.int w), .v (.int lo), .v (.int hi), .v (.int (a : Int)), .v (.int (b : Int)), x7] = .nx [.v (.int (n : Int)), .v (.int s), .v (.int w), .v (.int lo), .v (.int hi), .v (.int (a : Int)), .v (.int (m : Int)), .v (.int (m : Int))] := by
          generalize Rn m s w lo hi = R at *
          simp [lb2_first_rest, runM, runF, sSeq, sIf, sRet, sRetF, sSet, sSetO, sSetIx, sAsg, sPar, sNil, sDrop, sRetO, sMut1, oApp, ofRo, Ro.bind, lift, eVar, eC, eOp, eCmp, qCmp, qAnd, qOr, qNot, qTru, eAnd, eOr, eNot, eIf, eNeg, eChain, qChain, eIxV, slotD, dIx, dIxS, isDic, atI, ixN, eCall, aCons, aNil, eTup, eLst, oLen, eLenV, lenD, oInt, eq_ii, lt_ii, gt_ii, ge_ii, le_ii, add_ii, sub_ii, outR, outOk, outs, ownS, isNo, isLstS, List.replicate, eCallD, callM, okAr, arS, putO, rV, rO, rNil, tName, tTupl, tsCons, tsNil, eLc, lcL, iSeq, seqD, qYes, noOwn, isOwn, wipeE, backE, sl24, d, bt, g]
        obtain ⟨r, y7, ih, p1, p2, p3⟩ := fr_loop hn hw hw1 h0 h1 h2 f a m (.v (.int (m : Int))) hm1 (by omega) (by omega) z0 g
        refine ⟨r, y7, ?_, p1, p2, p3⟩
        simp only [whileN, ofRo, q, bd, ih, if_true]
      · have bd : lb2_first_rest [.v (.int (n : Int)), .v (.int s), .v (.int w), .v (.int lo), .v (.int hi), .v (.int (a : Int)), .v (.int (b : Int)), x7] = .nx [.v (.int (n : Int)), .v (.int s), .v (.int w), .v (.int lo), .v (.int hi), .v (.int (m : Int)), .v (.int (b : Int)), .v (.int (m : Int))] := by
          generalize Rn m s w lo hi = R at *
          simp [lb2_first_rest, runM, runF, sSeq, sIf, sRet, sRetF, sSet, sSetO, sSetIx, sAsg, sPar, sNil, sDrop, sRetO, sMut1, oApp, ofRo, Ro.bind, lift, eVar, eC, eOp, eCmp, qCmp, qAnd, qOr, qNot, qTru, eAnd, eOr, eNot, eIf, eNeg, eChain, qChain, eIxV, slotD, dIx, dIxS, isDic, atI, ixN, eCall, aCons, aNil, eTup, eLst, oLen, eLenV, lenD, oInt, eq_ii, lt_ii, gt_ii, ge_ii, le_ii, add_ii, sub_ii, outR, outOk, outs, ownS, isNo, isLstS, List.replicate, eCallD, callM, okAr, arS, putO, rV, rO, rNil, tName, tTupl, tsCons, tsNil, eLc, lcL, iSeq, seqD, qYes, noOwn, isOwn, wipeE, backE, sl24, d, bt, g]
        have g0 : Rn m s w lo hi = 0 := by
          have := Rn_len (s := s) (w := w) (lo := lo) (hi := hi) m
          omega
        obtain ⟨r, y7, ih, p1, p2, p3⟩ := fr_loop hn hw hw1 h0 h1 h2 f m b (.v (.int (m : Int))) hm2 hb (by omega) g0 z1
        refine ⟨r, y7, ?_, p1, p2, p3⟩
        simp only [whileN, ofRo, q, bd, ih, if_true]
def fstR (n : Nat) (s w lo hi : Int) : D := match good n s w lo hi with
  | [] => .non
  | m :: _ => .int (m : Int)
def st1_first_rest : Env' → So := sDrop (eCallD m_check_line (rV (eVar 0) (rV (eVar 1) (rV (eC (.int 0)) (rV (eVar 2) (rNil))))))
def st2_first_rest : Env' → So := sIf (qOr (qNot (qTru (eCallD m_is_within (rV (eVar 3) (rV (eC (.int 0)) (rV (eOp dSub (eVar 2) (eC (.int 1))) (rNil))))))) (qNot (qTru (eCallD m_is_within (rV (eVar 4) (rV (eVar 3) (rV (eOp dSub (eVar 2) (eC (.int 1))) (rNil)))))))) (sRaise0 "NoLine") (sNil)
def st3_first_rest : Env' → So := sIf (qCmp bEq (eCallD m_rests_between (rV (eVar 0) (rV (eVar 1) (rV (eVar 2) (rV (eVar 3) (rV (eVar 4) (rNil))))))) (eC (.int 0))) (sRet (eC .non)) (sNil)
def st4_first_rest : Env' → So := sPar 5 6 (eC (.int 0)) (eVar 0)
def st5_first_rest : Env' → So := sWhile (lq1_first_rest) (lb2_first_rest)
def st6_first_rest : Env' → So := sRet (eOp dSub (eVar 6) (eC (.int 1)))
theorem ch_first_rest : b_first_rest = sSeq st1_first_rest (sSeq st2_first_rest (sSeq st3_first_rest (sSeq st4_first_rest (sSeq st5_first_rest (st6_first_rest))))) := rfl
theorem s_first_rest {n : Nat} (h : Ln n s 0 w) (h0 : 0 ≤ lo) (h1 : lo ≤ hi) (h2 : hi < w) : m_first_rest [.v (.int (n : Int)), .v (.int s), .v (.int w), .v (.int lo), .v (.int hi)] = .ok (fstR n s w lo hi) [.no, .no, .no, .no, .no] := by
  have c := s_check_line h
  have b := s_between (s := s) h.n h.w0 h.w1 h0 h1 h2
  have i1 := s_within lo 0 (w - 1)
  have i2 := s_within hi lo (w - 1)
  rw [decide_eq_true (by omega)] at i1 i2
  have a1 : st1_first_rest [.v (.int (n : Int)), .v (.int s), .v (.int w), .v (.int lo), .v (.int hi), .no, .no, .no] = .nx [.v (.int (n : Int)), .v (.int s), .v (.int w), .v (.int lo), .v (.int hi), .no, .no, .no] := by
    generalize (n : Int) = N at *
    simp [st1_first_rest, runM, runF, sSeq, sIf, sRet, sRetF, sSet, sSetO, sSetIx, sAsg, sPar, sNil, sDrop, sRetO, sMut1, oApp, ofRo, Ro.bind, lift, eVar, eC, eOp, eCmp, qCmp, qAnd, qOr, qNot, qTru, eAnd, eOr, eNot, eIf, eNeg, eChain, qChain, eIxV, slotD, dIx, dIxS, isDic, atI, ixN, eCall, aCons, aNil, eTup, eLst, oLen, eLenV, lenD, oInt, eq_ii, lt_ii, gt_ii, ge_ii, le_ii, add_ii, sub_ii, outR, outOk, outs, ownS, isNo, isLstS, List.replicate, eCallD, callM, okAr, arS, putO, rV, rO, rNil, tName, tTupl, tsCons, tsNil, eLc, lcL, iSeq, seqD, qYes, noOwn, isOwn, wipeE, backE, sl24, c]
  have a2 : st2_first_rest [.v (.int (n : Int)), .v (.int s), .v (.int w), .v (.int lo), .v (.int hi), .no, .no, .no] = .nx [.v (.int (n : Int)), .v (.int s), .v (.int w), .v (.int lo), .v (.int hi), .no, .no, .no] := by
    simp [st2_first_rest, runM, runF, sSeq, sIf, sRet, sRetF, sSet, sSetO, sSetIx, sAsg, sPar, sNil, sDrop, sRetO, sMut1, oApp, ofRo, Ro.bind, lift, eVar, eC, eOp, eCmp, qCmp, qAnd, qOr, qNot, qTru, eAnd, eOr, eNot, eIf, eNeg, eChain, qChain, eIxV, slotD, dIx, dIxS, isDic, atI, ixN, eCall, aCons, aNil, eTup, eLst, oLen, eLenV, lenD, oInt, eq_ii, lt_ii, gt_ii, ge_ii, le_ii, add_ii, sub_ii, outR, outOk, outs, ownS, isNo, isLstS, List.replicate, eCallD, callM, okAr, arS, putO, rV, rO, rNil, tName, tTupl, tsCons, tsNil, eLc, lcL, iSeq, seqD, qYes, noOwn, isOwn, wipeE, backE, sl24, i1, i2, truD]
  by_cases z : Rn n s w lo hi = 0
  · have be : bEq (.int (Rn n s w lo hi)) (.int 0) = some true := by
      show some (decide (Rn n s w lo hi = 0)) = _
      simp [z]
    have a3 : st3_first_rest [.v (.int (n : Int)), .v (.int s), .v (.int w), .v (.int lo), .v (.int hi), .no, .no, .no] = .ret .non [.v (.int (n : Int)), .v (.int s), .v (.int w), .v (.int lo), .v (.int hi), .no, .no, .no] := by
      generalize Rn n s w lo hi = R at *
      generalize (n : Int) = N at *
      simp [st3_first_rest, runM, runF, sSeq, sIf, sRet, sRetF, sSet, sSetO, sSetIx, sAsg, sPar, sNil, sDrop, sRetO, sMut1, oApp, ofRo, Ro.bind, lift, eVar, eC, eOp, eCmp, qCmp, qAnd, qOr, qNot, qTru, eAnd, eOr, eNot, eIf, eNeg, eChain, qChain, eIxV, slotD, dIx, dIxS, isDic, atI, ixN, eCall, aCons, aNil, eTup, eLst, oLen, eLenV, lenD, oInt, eq_ii, lt_ii, gt_ii, ge_ii, le_ii, add_ii, sub_ii, outR, outOk, outs, ownS, isNo, isLstS, List.replicate, eCallD, callM, okAr, arS, putO, rV, rO, rNil, tName, tTupl, tsCons, tsNil, eLc, lcL, iSeq, seqD, qYes, noOwn, isOwn, wipeE, backE, sl24, b, be]
    have e : fstR n s w lo hi = .non := by
      rw [Rn_len] at z
      have : good n s w lo hi = [] := List.eq_nil_of_length_eq_zero (by omega)
      simp [fstR, this]
    rw [e]
    have hb := (congrFun ch_first_rest [.v (.int (n : Int)), .v (.int s), .v (.int w), .v (.int lo), .v (.int hi), .no, .no, .no]).trans ((seq_nx a1).trans ((seq_nx a2).trans (seq_ret a3)))
    exact runM_ret hb rfl rfl rfl rfl
  · have rp : 0 < Rn n s w lo hi := by
      have := Rn_len (s := s) (w := w) (lo := lo) (hi := hi) n
      omega
    have be : bEq (.int (Rn n s w lo hi)) (.int 0) = some false := by
      show some (decide (Rn n s w lo hi = 0)) = _
      simp [z]
    have a3 : st3_first_rest [.v (.int (n : Int)), .v (.int s), .v (.int w), .v (.int lo), .v (.int hi), .no, .no, .no] = .nx [.v (.int (n : Int)), .v (.int s), .v (.int w), .v (.int lo), .v (.int hi), .no, .no, .no] := by
      generalize Rn n s w lo hi = R at *
      generalize (n : Int) = N at *
      simp [st3_first_rest, runM, runF, sSeq, sIf, sRet, sRetF, sSet, sSetO, sSetIx, sAsg, sPar, sNil, sDrop, sRetO, sMut1, oApp, ofRo, Ro.bind, lift, eVar, eC, eOp, eCmp, qCmp, qAnd, qOr, qNot, qTru, eAnd, eOr, eNot, eIf, eNeg, eChain, qChain, eIxV, slotD, dIx, dIxS, isDic, atI, ixN, eCall, aCons, aNil, eTup, eLst, oLen, eLenV, lenD, oInt, eq_ii, lt_ii, gt_ii, ge_ii, le_ii, add_ii, sub_ii, outR, outOk, outs, ownS, isNo, isLstS, List.replicate, eCallD, callM, okAr, arS, putO, rV, rO, rNil, tName, tTupl, tsCons, tsNil, eLc, lcL, iSeq, seqD, qYes, noOwn, isOwn, wipeE, backE, sl24, b, be]
    have a4 : st4_first_rest [.v (.int (n : Int)), .v (.int s), .v (.int w), .v (.int lo), .v (.int hi), .no, .no, .no] = .nx [.v (.int (n : Int)), .v (.int s), .v (.int w), .v (.int lo), .v (.int hi), .v (.int ((0 : Nat) : Int)), .v (.int (n : Int)), .no] := rfl
    have n0 : 0 < n := by
      refine Nat.pos_of_ne_zero fun c => ?_
      rw [c] at rp
      have : Rn 0 s w lo hi = 0 := rfl
      omega
    obtain ⟨m, y7, lp, p1, p2, p3⟩ := fr_loop (s := s) h.n h.w0 h.w1 h0 h1 h2 many 0 n .no n0 (Nat.le_refl _) (Nat.lt_of_le_of_lt (show _ ≤ 1000000000000 by have := h.n; omega) (by decide +kernel)) rfl rp
    have a5 : st5_first_rest [.v (.int (n : Int)), .v (.int s), .v (.int w), .v (.int lo), .v (.int hi), .v (.int ((0 : Nat) : Int)), .v (.int (n : Int)), .no] = _ := lp
    obtain ⟨r, hg⟩ := good_head p1 p2 p3
    have e : fstR n s w lo hi = .int (m : Int) := by simp [fstR, hg]
    rw [e]
    have a6 : st6_first_rest [.v (.int (n : Int)), .v (.int s), .v (.int w), .v (.int lo), .v (.int hi), .v (.int (m : Int)), .v (.int ((m : Int) + 1)), y7] = .ret (.int (m : Int)) [.v (.int (n : Int)), .v (.int s), .v (.int w), .v (.int lo), .v (.int hi), .v (.int (m : Int)), .v (.int ((m : Int) + 1)), y7] := by
      have : (m : Int) + 1 - 1 = (m : Int) := by omega
      simp [st6_first_rest, runM, runF, sSeq, sIf, sRet, sRetF, sSet, sSetO, sSetIx, sAsg, sPar, sNil, sDrop, sRetO, sMut1, oApp, ofRo, Ro.bind, lift, eVar, eC, eOp, eCmp, qCmp, qAnd, qOr, qNot, qTru, eAnd, eOr, eNot, eIf, eNeg, eChain, qChain, eIxV, slotD, dIx, dIxS, isDic, atI, ixN, eCall, aCons, aNil, eTup, eLst, oLen, eLenV, lenD, oInt, eq_ii, lt_ii, gt_ii, ge_ii, le_ii, add_ii, sub_ii, outR, outOk, outs, ownS, isNo, isLstS, List.replicate, eCallD, callM, okAr, arS, putO, rV, rO, rNil, tName, tTupl, tsCons, tsNil, eLc, lcL, iSeq, seqD, qYes, noOwn, isOwn, wipeE, backE, sl24]
    have hb := (congrFun ch_first_rest [.v (.int (n : Int)), .v (.int s), .v (.int w), .v (.int lo), .v (.int hi), .no, .no, .no]).trans ((seq_nx a1).trans ((seq_nx a2).trans ((seq_nx a3).trans ((seq_nx a4).trans ((seq_nx a5).trans a6)))))
    exact runM_ret hb rfl rfl rfl rfl
end
end K35

namespace K35
open PySem L2 LamX Rf
/-! ## triangles -/
def Tn (a b m : Int) : Int := sm (m / a + 1).toNat fun x => sm (m / b + 1).toNat fun y => if a * (x : Int) + b * (y : Int) ≤ m then 1 else 0
theorem cnt0 {v w : Int} (hw : 0 < w) (hv : 0 ≤ v) (n : Nat) : sm (n + 1) (fun j => if w * (j : Int) ≤ v then 1 else 0) = min (n : Int) (v / w) + 1 := by
  have e := sm_cons (f := fun j : Nat => if w * (j : Int) ≤ v then (1 : Int) else 0) n
  rw [e, if_pos (by simp; omega)]
  have c := cnt_is hw hv n
  have : sm n (fun j => if w * (((j + 1 : Nat)) : Int) ≤ v then (1 : Int) else 0) = sm n fun j => if w * ((j : Int) + 1) ≤ v then 1 else 0 := sm_congr fun j _ => by rw [show (((j + 1 : Nat)) : Int) = (j : Int) + 1 by omega]
  rw [this, c]
  omega
theorem Tn_comm (a b m : Int) : Tn a b m = Tn b a m := by
  unfold Tn
  rw [sm_swap]
  exact sm_congr fun y _ => sm_congr fun x _ => by rw [Int.add_comm]
/-- by columns -/
theorem Tn_col {a b m : Int} (ha : 0 < a) (hb : 0 < b) (hm : 0 ≤ m) : Tn a b m = sm (m / a + 1).toNat fun x => (m - a * (x : Int)) / b + 1 := by
  unfold Tn
  have q0 := Int.ediv_nonneg hm (show 0 ≤ b by omega)
  have qa := Int.ediv_nonneg hm (show 0 ≤ a by omega)
  refine sm_congr fun x hx => ?_
  have hx' : (x : Int) ≤ m / a := by omega
  have h1 : a * (x : Int) ≤ m := by
    have := (Int.le_ediv_iff_mul_le ha).mp hx'
    rw [Int.mul_comm]
    exact this
  obtain ⟨n, hn⟩ : ∃ n : Nat, m / b = (n : Int) := ⟨(m / b).toNat, by omega⟩
  have c := cnt0 (v := m - a * (x : Int)) hb (by omega) n
  rw [show (m / b + 1).toNat = n + 1 by omega]
  have e : (fun y : Nat => if a * (x : Int) + b * (y : Int) ≤ m then (1 : Int) else 0) = fun j : Nat => if b * (j : Int) ≤ m - a * (x : Int) then 1 else 0 := by
    funext y
    have : a * (x : Int) + b * (y : Int) ≤ m ↔ b * (y : Int) ≤ m - a * (x : Int) := by omega
    simp only [this]
  rw [e, c]
  have le : (m - a * (x : Int)) / b ≤ m / b := Int.ediv_le_ediv hb (by
    have := Int.mul_nonneg (show 0 ≤ a by omega) (show 0 ≤ (x : Int) by omega)
    omega)
  omega
theorem Tn_S {a b m : Int} (ha : 0 < a) (hb : 0 < b) (hm : 0 ≤ m) : Tn a b m = S (m / a + 1).toNat a (m % a) b + (m / a + 1) := by
  rw [Tn_col ha hb hm, sm_rev]
  have qa := Int.ediv_nonneg hm (show 0 ≤ a by omega)
  have e := Int.emod_add_mul_ediv m a
  generalize m / a = q at *
  obtain ⟨n, rfl⟩ : ∃ n : Nat, q = (n : Int) := ⟨q.toNat, by omega⟩
  rw [show ((n : Int) + 1).toNat = n + 1 by omega]
  unfold S
  have : ∀ k, k < n + 1 → (m - a * (((n + 1 - 1 - k : Nat)) : Int)) / b + 1 = (a * (k : Int) + m % a) / b + 1 := by
    intro k hk
    rw [show ((n + 1 - 1 - k : Nat) : Int) = (n : Int) - k by omega, Int.mul_sub]
    congr 2
    omega
  rw [sm_congr this, sm_add, sm_const]
  omega
theorem Tn_scale {a b m c d : Int} (ha : 0 < a) (hb : 0 < b) (hm : 0 ≤ m) (hc : 0 < c) (hd : 0 ≤ d) (hd2 : d < c) : Tn (a * c) (b * c) (m * c + d) = Tn a b m := by
  have e : ∀ z : Int, z * c ≤ m * c + d ↔ z ≤ m := by
    intro z
    constructor
    · intro h
      refine Int.not_lt.mp fun g => ?_
      have := Int.mul_le_mul_of_nonneg_right (show m + 1 ≤ z by omega) (show 0 ≤ c by omega)
      rw [Int.add_mul, Int.one_mul] at this
      omega
    · intro h
      have := Int.mul_le_mul_of_nonneg_right h (show 0 ≤ c by omega)
      omega
  have q : ∀ x : Int, 0 < x → (m * c + d) / (x * c) = m / x := by
    intro x hx
    have q0 := Int.ediv_nonneg hm (show 0 ≤ x by omega)
    have p := Int.mul_pos hx hc
    have h1 := Int.emod_add_mul_ediv m x
    have h2 := Int.emod_nonneg m (show x ≠ 0 by omega)
    have h3 := Int.emod_lt_of_pos m hx
    refine Int.le_antisymm ?_ ?_
    · refine Int.le_of_lt_add_one (Int.ediv_lt_of_lt_mul p ?_)
      refine Int.not_le.mp fun g => ?_
      rw [← Int.mul_assoc] at g
      have := (e _).mp g
      rw [Int.add_mul, Int.one_mul, Int.mul_comm (m / x) x] at this
      omega
    · refine Int.le_ediv_of_mul_le p ?_
      rw [← Int.mul_assoc]
      refine (e _).mpr ?_
      rw [Int.mul_comm (m / x) x]
      omega
  unfold Tn
  rw [q a ha, q b hb]
  refine sm_congr fun x _ => sm_congr fun y _ => ?_
  have : a * c * (x : Int) + b * c * (y : Int) = (a * (x : Int) + b * (y : Int)) * c := by grind
  rw [this]
  simp only [e]
section
variable {a b m : Int}
theorem ten9 : dPow (.int 10) (.int 9) = some (.int 1000000000) := by kernel_rfl
theorem s_tri (ha : 1 ≤ a ∧ a ≤ 1000000000) (hb : 1 ≤ b ∧ b ≤ 1000000000) (hm : 0 ≤ m ∧ m ≤ 1000000000000) : m_in_triangle [.v (.int a), .v (.int b), .v (.int m)] = .ok (.int (Tn a b m)) [.no, .no, .no] := by
  have i1 := s_within a 1 1000000000
  have i2 := s_within b 1 1000000000
  have i3 := s_within m 0 1000000000000
  rw [decide_eq_true (by omega)] at i1 i2 i3
  have d := dv (i := m) (j := a) (by omega) (by omega)
  have r : dMod (.int m) (.int a) = some (.int (m % a)) := mod_ii (by omega)
  have qa := Int.ediv_nonneg hm.1 (show 0 ≤ a by omega)
  have ql := Int.ediv_le_self (a := m) a hm.1
  have m0 := Int.emod_nonneg m (show a ≠ 0 by omega)
  have m1 := Int.emod_lt_of_pos m (show 0 < a by omega)
  have e := Tn_S (a := a) (b := b) (m := m) (by omega) (by omega) hm.1
  obtain ⟨n, hn⟩ : ∃ n : Nat, m / a + 1 = (n : Int) := ⟨(m / a + 1).toNat, by omega⟩
  have f := s_ft (n := n) (s := a) (b := m % a) (w := b) (by omega) (by omega) (by omega) (by omega) (by omega)
  rw [e, hn, show ((n : Int)).toNat = n by omega]
  generalize S n a (m % a) b = X at *
  generalize m % a = R at *
  generalize m / a = Q at *
  simp [m_in_triangle, b_in_triangle, runM, runF, sSeq, sIf, sRet, sRetF, sSet, sSetO, sSetIx, sAsg, sPar, sNil, sDrop, sRetO, sMut1, oApp, ofRo, Ro.bind, lift, eVar, eC, eOp, eCmp, qCmp, qAnd, qOr, qNot, qTru, eAnd, eOr, eNot, eIf, eNeg, eChain, qChain, eIxV, slotD, dIx, dIxS, isDic, atI, ixN, eCall, aCons, aNil, eTup, eLst, oLen, eLenV, lenD, oInt, eq_ii, lt_ii, gt_ii, ge_ii, le_ii, add_ii, sub_ii, outR, outOk, outs, ownS, isNo, isLstS, List.replicate, eCallD, callM, okAr, arS, putO, rV, rO, rNil, tName, tTupl, tsCons, tsNil, eLc, lcL, iSeq, seqD, qYes, noOwn, isOwn, wipeE, backE, sl24, i1, i2, i3, ten9, ten12, truD, d, r, hn, f]
end
end K35

namespace K35
open PySem L2 LamX Rf
/-! ## the law's own looks -/
theorem li_ii (n : Nat) (i j : Int) : m__law_is (n + 1) [.v (.int i), .v (.int j)] = .ok (.bl (decide (i = j))) [.no, .no] := by
  have be : bEq (.int i) (.int j) = some (decide (i = j)) := rfl
  have b1 : ∀ b : Bool, bNe (.bl b) (.bl b) = some false := fun b => by cases b <;> kernel_rfl
  have b2 : ∀ b : Bool, bEq (.bl b) (.bl b) = some true := fun b => by cases b <;> kernel_rfl
  have n1 : bIsN (.int j) .non = some false := by kernel_rfl
  generalize decide (i = j) = B at *
  simp [m__law_is, b__law_is, runM, runF, sSeq, sIf, sRet, sRetF, sSet, sSetO, sSetIx, sAsg, sPar, sNil, sDrop, sRetO, sMut1, oApp, ofRo, Ro.bind, lift, eVar, eC, eOp, eCmp, qCmp, qAnd, qOr, qNot, qTru, eAnd, eOr, eNot, eIf, eNeg, eChain, qChain, eIxV, slotD, dIx, dIxS, isDic, atI, ixN, eCall, aCons, aNil, eTup, eLst, oLen, eLenV, lenD, oInt, eq_ii, lt_ii, gt_ii, ge_ii, le_ii, add_ii, sub_ii, outR, outOk, outs, ownS, isNo, isLstS, List.replicate, eCallD, callM, okAr, arS, putO, rV, rO, rNil, tName, tTupl, tsCons, tsNil, eLc, lcL, iSeq, seqD, qYes, noOwn, isOwn, wipeE, backE, sl24, eIsi2, eIsi, isiD, truD, be, b1, b2, n1]
theorem li_nn (n : Nat) : m__law_is (n + 1) [.v .non, .v .non] = .ok (.bl true) [.no, .no] := by kernel_rfl
theorem li_in (n : Nat) (i : Int) : m__law_is (n + 1) [.v .non, .v (.int i)] = .ok (.bl false) [.no, .no] := by kernel_rfl
theorem li_two (n : Nat) {x y x' y' : D} {p q : Bool} (h1 : m__law_is (n + 1) [.v x, .v x'] = .ok (.bl p) [.no, .no]) (h2 : m__law_is (n + 1) [.v y, .v y'] = .ok (.bl q) [.no, .no]) : m__law_is (n + 2) [.v (.lst [x, y]), .v (.lst [x', y'])] = .ok (.bl (p && q)) [.no, .no] := by
  have b1 : ∀ b : Bool, bNe (.bl b) (.bl b) = some false := fun b => by cases b <;> kernel_rfl
  have n2 : bNe (.int 2) (.int 2) = some false := by kernel_rfl
  have i0 : ∀ a b : D, dIx (.lst [a, b]) (.int 0) = some a := fun _ _ => rfl
  have i1 : ∀ a b : D, dIx (.lst [a, b]) (.int 1) = some b := fun _ _ => rfl
  have al : oQuant allB [.lst [.bl p, .bl q]] = some (.bl (p && q)) := by cases p <;> cases q <;> kernel_rfl
  have kk := eLc_map (vs := [2]) (it := iR1 (eLenV 1)) (t := tName 2) (q := qYes) (f := eCallD (m__law_is (n + 1)) (rV (eIxV 0 (eVar 2)) (rV (eIxV 1 (eVar 2)) (rNil)))) (E := [.v (.lst [x, y]), .v (.lst [x', y']), .no]) (E1 := [.v (.lst [x, y]), .v (.lst [x', y']), .no]) (ds := [.int 0, .int 1]) (fun d => match d with | .int 0 => some (.bl p) | .int 1 => some (.bl q) | _ => none) rfl rfl (by simp) rfl rfl (by
    intro d hd
    simp at hd
    rcases hd with rfl | rfl
    · refine ⟨[.v (.lst [x, y]), .v (.lst [x', y']), .v (.int 0)], rfl, .inr ⟨.bl p, [.v (.lst [x, y]), .v (.lst [x', y']), .v (.int 0)], [.v (.lst [x, y]), .v (.lst [x', y']), .v (.int 0)], rfl, rfl, ?_, rfl, rfl⟩⟩
      generalize m__law_is (n + 1) = M at *
      simp [runM, runF, sSeq, sIf, sRet, sRetF, sSet, sSetO, sSetIx, sAsg, sPar, sNil, sDrop, sRetO, sMut1, oApp, ofRo, Ro.bind, lift, eVar, eC, eOp, eCmp, qCmp, qAnd, qOr, qNot, qTru, eAnd, eOr, eNot, eIf, eNeg, eChain, qChain, eIxV, slotD, eCall, aCons, aNil, eTup, eLst, oLen, eLenV, lenD, oInt, eq_ii, lt_ii, gt_ii, ge_ii, le_ii, add_ii, sub_ii, outR, outOk, outs, ownS, isNo, isLstS, List.replicate, eCallD, callM, okAr, arS, putO, rV, rO, rNil, tName, tTupl, tsCons, tsNil, eLc, lcL, iSeq, seqD, qYes, noOwn, isOwn, wipeE, backE, sl24, i0, h1]
    · refine ⟨[.v (.lst [x, y]), .v (.lst [x', y']), .v (.int 1)], rfl, .inr ⟨.bl q, [.v (.lst [x, y]), .v (.lst [x', y']), .v (.int 1)], [.v (.lst [x, y]), .v (.lst [x', y']), .v (.int 1)], rfl, rfl, ?_, rfl, rfl⟩⟩
      generalize m__law_is (n + 1) = M at *
      simp [runM, runF, sSeq, sIf, sRet, sRetF, sSet, sSetO, sSetIx, sAsg, sPar, sNil, sDrop, sRetO, sMut1, oApp, ofRo, Ro.bind, lift, eVar, eC, eOp, eCmp, qCmp, qAnd, qOr, qNot, qTru, eAnd, eOr, eNot, eIf, eNeg, eChain, qChain, eIxV, slotD, eCall, aCons, aNil, eTup, eLst, oLen, eLenV, lenD, oInt, eq_ii, lt_ii, gt_ii, ge_ii, le_ii, add_ii, sub_ii, outR, outOk, outs, ownS, isNo, isLstS, List.replicate, eCallD, callM, okAr, arS, putO, rV, rO, rNil, tName, tTupl, tsCons, tsNil, eLc, lcL, iSeq, seqD, qYes, noOwn, isOwn, wipeE, backE, sl24, i1, h2])
  have lc : lc1__law_is (m__law_is (n + 1)) [.v (.lst [x, y]), .v (.lst [x', y']), .no] = .ok (.lst [.bl p, .bl q]) [.v (.lst [x, y]), .v (.lst [x', y']), .no] := kk
  rw [m__law_is]
  generalize m__law_is (n + 1) = M at *
  simp [b__law_is, runM, runF, sSeq, sIf, sRet, sRetF, sSet, sSetO, sSetIx, sAsg, sPar, sNil, sDrop, sRetO, sMut1, oApp, ofRo, Ro.bind, lift, eVar, eC, eOp, eCmp, qCmp, qAnd, qOr, qNot, qTru, eAnd, eOr, eNot, eIf, eNeg, eChain, qChain, eIxV, slotD, dIx, dIxS, isDic, atI, ixN, eCall, aCons, aNil, eTup, eLst, oLen, eLenV, lenD, oInt, eq_ii, lt_ii, gt_ii, ge_ii, le_ii, add_ii, sub_ii, outR, outOk, outs, ownS, isNo, isLstS, List.replicate, eCallD, callM, okAr, arS, putO, rV, rO, rNil, tName, tTupl, tsCons, tsNil, eLc, lcL, iSeq, seqD, qYes, noOwn, isOwn, wipeE, backE, sl24, eIsi2, eIsi, isiD, truD, b1, n2, lc, al]
/-! ## the law's own sums -/
theorem ints_map : ∀ l : List Int, ints? (l.map D.int) = some l
  | [] => rfl
  | i :: l => by simp [ints?, ints_map l]
theorem sum_sm (f : Nat → Int) : ∀ n : Nat, ((List.range n).map f).sum = sm n f
  | 0 => rfl
  | n + 1 => by
    rw [List.range_succ, List.map_append, List.sum_append, sum_sm f n, sm]
    simp
theorem s_floors {n : Nat} {s b w : Int} (hn : n ≤ 1000000) (hs : s.natAbs ≤ 1000000000000) (hw : 0 < w) (hw1 : w ≤ 1000000000000) : m__law_floors [.v (.int (n : Int)), .v (.int s), .v (.int b), .v (.int w)] = .ok (.int (S n s b w)) [.no, .no, .no, .no] := by
  have i1 := iR1_nat (f := eVar 0) (E := [.v (.int (n : Int)), .v (.int s), .v (.int b), .v (.int w), .no]) (E' := [.v (.int (n : Int)), .v (.int s), .v (.int b), .v (.int w), .no]) (n := n) rfl (by omega)
  have kk := eLc_map (vs := [4]) (t := tName 4) (q := qYes) (f := eOp dDiv (eOp dAdd (eOp dMul (eVar 1) (eVar 4)) (eVar 2)) (eVar 3)) (E1 := [.v (.int (n : Int)), .v (.int s), .v (.int b), .v (.int w), .no]) (fun d => match d with | .int k => some (.int ((s * k + b) / w)) | _ => none) i1 rfl (by rw [rng_len]; omega) rfl rfl (by
    intro d hd
    obtain ⟨j, hj0⟩ := List.mem_iff_getElem?.mp hd
    obtain ⟨rfl, hj⟩ := rng_get hj0
    rw [Int.zero_add]
    have m := m13 (i := s) (j := (j : Int)) (by omega) (by omega)
    have d := dv (i := s * (j : Int) + b) hw (by omega)
    refine ⟨[.v (.int (n : Int)), .v (.int s), .v (.int b), .v (.int w), .v (.int (j : Int))], rfl, .inr ⟨_, [.v (.int (n : Int)), .v (.int s), .v (.int b), .v (.int w), .v (.int (j : Int))], [.v (.int (n : Int)), .v (.int s), .v (.int b), .v (.int w), .v (.int (j : Int))], rfl, rfl, ?_, rfl, rfl⟩⟩
    generalize s * (j : Int) = z at *
    simp [runM, runF, sSeq, sIf, sRet, sRetF, sSet, sSetO, sSetIx, sAsg, sPar, sNil, sDrop, sRetO, sMut1, oApp, ofRo, Ro.bind, lift, eVar, eC, eOp, eCmp, qCmp, qAnd, qOr, qNot, qTru, eAnd, eOr, eNot, eIf, eNeg, eChain, qChain, eIxV, slotD, dIx, dIxS, isDic, atI, ixN, eCall, aCons, aNil, eTup, eLst, oLen, eLenV, lenD, oInt, eq_ii, lt_ii, gt_ii, ge_ii, le_ii, add_ii, sub_ii, outR, outOk, outs, ownS, isNo, isLstS, List.replicate, eCallD, callM, okAr, arS, putO, rV, rO, rNil, tName, tTupl, tsCons, tsNil, eLc, lcL, iSeq, seqD, qYes, noOwn, isOwn, wipeE, backE, sl24, m, d])
  have fm : (rng 0 n).filterMap (fun d => match d with | .int k => some (.int ((s * k + b) / w)) | _ => none) = ((List.range n).map fun k : Nat => (s * (k : Int) + b) / w).map D.int := by
    rw [rng_nl, nl, List.map_map, List.filterMap_map, List.map_map]
    have : ((fun d => match d with | .int k => some (D.int ((s * k + b) / w)) | _ => none) ∘ D.int ∘ fun i : Nat => (0 : Int) + i) = some ∘ (D.int ∘ fun k : Nat => (s * (k : Int) + b) / w) := by
      funext i
      simp
    rw [this]
    exact congrFun (List.filterMap_eq_map (f := D.int ∘ fun k : Nat => (s * (k : Int) + b) / w)) (List.range n)
  rw [fm] at kk
  have kk : lc1__law_floors [.v (.int (n : Int)), .v (.int s), .v (.int b), .v (.int w), .no] = _ := kk
  have su : oSumA [.lst (((List.range n).map fun k : Nat => (s * (k : Int) + b) / w).map D.int)] = some (.int (S n s b w)) := by
    simp only [oSumA, ints_map, Option.map_some, sum_sm]
    rfl
  generalize ((List.range n).map fun k : Nat => (s * (k : Int) + b) / w).map D.int = L at *
  generalize (n : Int) = N at *
  simp [m__law_floors, b__law_floors, runM, runF, sSeq, sIf, sRet, sRetF, sSet, sSetO, sSetIx, sAsg, sPar, sNil, sDrop, sRetO, sMut1, oApp, ofRo, Ro.bind, lift, eVar, eC, eOp, eCmp, qCmp, qAnd, qOr, qNot, qTru, eAnd, eOr, eNot, eIf, eNeg, eChain, qChain, eIxV, slotD, dIx, dIxS, isDic, atI, ixN, eCall, aCons, aNil, eTup, eLst, oLen, eLenV, lenD, oInt, eq_ii, lt_ii, gt_ii, ge_ii, le_ii, add_ii, sub_ii, outR, outOk, outs, ownS, isNo, isLstS, List.replicate, eCallD, callM, okAr, arS, putO, rV, rO, rNil, tName, tTupl, tsCons, tsNil, eLc, lcL, iSeq, seqD, qYes, noOwn, isOwn, wipeE, backE, sl24, kk, su]
end K35

namespace K35
open PySem L2 LamX Rf
def P : DrawP := ⟨69621, 1, 103, 2147483629, 7919, 48271, 2147483647, 1009, 69621, 2147483647, 2003, 40692, 2147483399⟩
theorem s_draw {n : Nat} {d : D} {m : Int} (hT : Tape2 n d) (hn : n ≤ 1000000000) (hm : 0 < m) (hb : m ≤ 1000000000) : ∃ r tp, m__law_draw [.o d, .v (.int m)] = .ok (.int r) [.o tp, .no] ∧ 0 ≤ r ∧ r < m ∧ Tape2 (n + 1) tp := draw_ok (P := P) (DrawP.ok_of (by decide)) false false hT hn hm (by omega)
theorem s_some {n : Nat} {d : D} {xs : List D} (hT : Tape2 n d) (hn : n ≤ 1000000000) (h0 : 0 < xs.length) (hb : xs.length ≤ 1000000) : ∃ (x : D) (tp : D), x ∈ xs ∧ m__law_some [.o d, .v (.lst xs)] = .ok x [.o tp, .no] ∧ Tape2 (n + 1) tp := by
  obtain ⟨r, tp, e, r1, r2, r3⟩ := s_draw (m := xs.length) hT hn (by omega) (by omega)
  have hl : r.toNat < xs.length := by omega
  refine ⟨xs[r.toNat], tp, List.getElem_mem _, ?_, r3⟩
  have g : xs[r.toNat]? = some xs[r.toNat] := List.getElem?_eq_getElem hl
  simp [m__law_some, b__law_some, runM, runF, sSeq, sIf, sRet, sRetF, sSet, sSetO, sSetIx, sAsg, sPar, sNil, sDrop, sRetO, sMut1, oApp, ofRo, Ro.bind, lift, eVar, eC, eOp, eCmp, qCmp, qAnd, qOr, qNot, qTru, eAnd, eOr, eNot, eIf, eNeg, eChain, qChain, eIxV, slotD, dIx, dIxS, isDic, atI, ixN, eCall, aCons, aNil, eTup, eLst, oLen, eLenV, lenD, oInt, eq_ii, lt_ii, gt_ii, ge_ii, le_ii, add_ii, sub_ii, outR, outOk, outs, ownS, isNo, isLstS, List.replicate, eCallD, callM, okAr, arS, putO, rV, rO, rNil, tName, tTupl, tsCons, tsNil, eLc, lcL, iSeq, seqD, qYes, noOwn, isOwn, wipeE, backE, sl24, e, r1, r2, g]
def st1_law_is_line_right : Env' → So := sPar 7 8 (eCallD m__law_draw (rO 0 (rV (eC (.int 40)) (rNil)))) (eOp dAdd (eC (.int 1)) (eCallD m__law_draw (rO 0 (rV (eCallD m__law_some (rO 0 (rV (eLst (aCons (eC (.int 3)) (aCons (eC (.int 20)) (aCons (eC (.int 1000)) (aNil))))) (rNil)))) (rNil)))))
def st2_law_is_line_right : Env' → So := sPar 9 10 (eOp dSub (eCallD m__law_draw (rO 0 (rV (eC (.int 200)) (rNil)))) (eC (.int 100))) (eOp dSub (eCallD m__law_draw (rO 0 (rV (eC (.int 200)) (rNil)))) (eC (.int 100)))
def st3_law_is_line_right : Env' → So := sSet 1 (eCallD m__law_floors (rV (eVar 7) (rV (eVar 9) (rV (eVar 10) (rV (eVar 8) (rNil))))))
def st4_law_is_line_right : Env' → So := sIf (qNot (qTru (eCallD (m__law_is 8) (rV (eCallD m_floor_sum (rV (eVar 7) (rV (eVar 9) (rV (eVar 10) (rV (eVar 8) (rNil)))))) (rV (eVar 1) (rNil)))))) (sRet (eC (.bl false))) (sNil)
def st5_law_is_line_right : Env' → So := sIf (qNot (qTru (eCallD (m__law_is 8) (rV (eCallD m_below_line (rV (eVar 7) (rV (eCall oAbs (aCons (eVar 9) aNil)) (rV (eCall oAbs (aCons (eVar 10) aNil)) (rV (eVar 8) (rNil)))))) (rV (eCallD m__law_floors (rV (eVar 7) (rV (eCall oAbs (aCons (eVar 9) aNil)) (rV (eCall oAbs (aCons (eVar 10) aNil)) (rV (eVar 8) (rNil)))))) (rNil)))))) (sRet (eC (.bl false))) (sNil)
def st6_law_is_line_right : Env' → So := sPar 11 12 (eCallD m__law_draw (rO 0 (rV (eOp dPow (eC (.int 10)) (eC (.int 6))) (rNil)))) (eCallD m__law_draw (rO 0 (rV (eOp dPow (eC (.int 10)) (eC (.int 6))) (rNil))))
def st7_law_is_line_right : Env' → So := sSet 2 (eCallD m_floor_sum (rV (eVar 7) (rV (eOp dAdd (eVar 9) (eOp dMul (eVar 11) (eVar 8))) (rV (eOp dAdd (eVar 10) (eOp dMul (eVar 12) (eVar 8))) (rV (eVar 8) (rNil))))))
def st8_law_is_line_right : Env' → So := sIf (qNot (qTru (eCallD (m__law_is 8) (rV (eVar 2) (rV (eOp dAdd (eOp dAdd (eVar 1) (eOp dMul (eVar 11) (eOp dDiv (eOp dMul (eVar 7) (eOp dSub (eVar 7) (eC (.int 1)))) (eC (.int 2))))) (eOp dMul (eVar 12) (eVar 7))) (rNil)))))) (sRet (eC (.bl false))) (sNil)
def st9_law_is_line_right : Env' → So := sSet 3 (eOp dAdd (eC (.int 1)) (eCallD m__law_draw (rO 0 (rV (eOp dPow (eC (.int 10)) (eC (.int 6))) (rNil)))))
def st10_law_is_line_right : Env' → So := sSet 4 (eOp dMul (eVar 7) (eVar 8))
def st11_law_is_line_right : Env' → So := sIf (qCmp bLt (eVar 4) (eC (.int 500))) (sSeq (sSet 13 (eCallD m__law_floors (rV (eVar 4) (rV (eVar 9) (rV (eVar 10) (rV (eVar 8) (rNil))))))) (sIf (qCmp bNe (eCallD m_floor_sum (rV (eVar 4) (rV (eVar 9) (rV (eVar 10) (rV (eVar 8) (rNil)))))) (eVar 13)) (sRet (eC (.bl false))) (sNil))) (sNil)
def st12_law_is_line_right : Env' → So := sSet 5 (eCallD m_floor_sum (rV (eOp dMul (eVar 8) (eVar 3)) (rV (eVar 9) (rV (eVar 10) (rV (eVar 8) (rNil))))))
def st13_law_is_line_right : Env' → So := sSet 6 (eCallD m__law_floors (rV (eCall (o2I min2) (aCons (eVar 8) (aCons (eC (.int 300)) aNil))) (rV (eOp dAdd (eVar 9) (eC (.int 0))) (rV (eOp dAdd (eVar 10) (eOp dMul (eOp dMul (eVar 9) (eVar 8)) (eVar 3))) (rV (eVar 8) (rNil))))))
def st14_law_is_line_right : Env' → So := sRet (eCmp bEq (eCallD m_floor_sum (rV (eOp dAdd (eOp dMul (eVar 8) (eVar 3)) (eCall (o2I min2) (aCons (eVar 8) (aCons (eC (.int 300)) aNil)))) (rV (eVar 9) (rV (eVar 10) (rV (eVar 8) (rNil)))))) (eOp dAdd (eVar 5) (eVar 6)))
theorem ch_law_is_line_right : b__law_is_line_right = sSeq st1_law_is_line_right (sSeq st2_law_is_line_right (sSeq st3_law_is_line_right (sSeq st4_law_is_line_right (sSeq st5_law_is_line_right (sSeq st6_law_is_line_right (sSeq st7_law_is_line_right (sSeq st8_law_is_line_right (sSeq st9_law_is_line_right (sSeq st10_law_is_line_right (sSeq st11_law_is_line_right (sSeq st12_law_is_line_right (sSeq st13_law_is_line_right (st14_law_is_line_right))))))))))))) := rfl
theorem li_eq (n : Nat) (i : Int) : m__law_is (n + 1) [.v (.int i), .v (.int i)] = .ok (.bl true) [.no, .no] := by
  have := li_ii n i i
  rw [decide_eq_true rfl] at this
  exact this
theorem S_split (A B : Nat) (s b w : Int) : S (A + B) s b w = S A s b w + S B s (b + s * A) w := by
  unfold S
  rw [sm_split]
  congr 1
  refine sm_congr fun k _ => ?_
  have : ((A + k : Nat) : Int) = (A : Int) + k := by omega
  rw [this, Int.mul_add]
  congr 1
  omega
theorem line_right {m : Nat} {d : D} (hT : Tape2 m d) (hm : m ≤ 10000) : ∃ tp, m__law_is_line_right [.o d] = .ok (.bl true) [.o tp] ∧ Tape2 (m + 8) tp := by
  obtain ⟨n0, t1, q1, n1, n2, T1⟩ := s_draw (m := 40) hT (by omega) (by decide) (by decide)
  obtain ⟨x, t2, hx, q2, T2⟩ := s_some (xs := [.int 3, .int 20, .int 1000]) T1 (by omega) (by simp) (by simp)
  have hg : ∃ g : Int, x = .int g ∧ 0 < g ∧ g ≤ 1000 := by
    simp at hx
    rcases hx with rfl | rfl | rfl <;> exact ⟨_, rfl, by omega, by omega⟩
  obtain ⟨g, rfl, g0, g1⟩ := hg
  obtain ⟨w0, t3, q3, w1, w2, T3⟩ := s_draw (m := g) T2 (by omega) (by omega) (by omega)
  obtain ⟨s0, t4, q4, s1, s2, T4⟩ := s_draw (m := 200) T3 (by omega) (by decide) (by decide)
  obtain ⟨b0, t5, q5, b1, b2, T5⟩ := s_draw (m := 200) T4 (by omega) (by decide) (by decide)
  obtain ⟨mo, t6, q6, mo1, mo2, T6⟩ := s_draw (m := 1000000) T5 (by omega) (by decide) (by decide)
  obtain ⟨fa, t7, q7, fa1, fa2, T7⟩ := s_draw (m := 1000000) T6 (by omega) (by decide) (by decide)
  obtain ⟨ti, t8, q8, ti1, ti2, T8⟩ := s_draw (m := 1000000) T7 (by omega) (by decide) (by decide)
  obtain ⟨n, rfl⟩ : ∃ n : Nat, n0 = (n : Int) := ⟨n0.toNat, by omega⟩
  refine ⟨t8, ?_, T8⟩
  have ten6 : dPow (.int 10) (.int 6) = some (.int 1000000) := by kernel_rfl
  have g1 : st1_law_is_line_right [.o d, .no, .no, .no, .no, .no, .no, .no, .no, .no, .no, .no, .no, .no] = .nx [.o t3, .no, .no, .no, .no, .no, .no, .v (.int (n : Int)), .v (.int (1 + w0)), .no, .no, .no, .no, .no] := by
    simp [st1_law_is_line_right, runM, runF, sSeq, sIf, sRet, sRetF, sSet, sSetO, sSetIx, sAsg, sPar, sNil, sDrop, sRetO, sMut1, oApp, ofRo, Ro.bind, lift, eVar, eC, eOp, eCmp, qCmp, qAnd, qOr, qNot, qTru, eAnd, eOr, eNot, eIf, eNeg, eChain, qChain, eIxV, slotD, dIx, dIxS, isDic, atI, ixN, eCall, aCons, aNil, eTup, eLst, oLen, eLenV, lenD, oInt, eq_ii, lt_ii, gt_ii, ge_ii, le_ii, add_ii, sub_ii, outR, outOk, outs, ownS, isNo, isLstS, List.replicate, eCallD, callM, okAr, arS, putO, rV, rO, rNil, tName, tTupl, tsCons, tsNil, eLc, lcL, iSeq, seqD, qYes, noOwn, isOwn, wipeE, backE, sl24, q1, q2, q3]
  have g2 : st2_law_is_line_right [.o t3, .no, .no, .no, .no, .no, .no, .v (.int (n : Int)), .v (.int (1 + w0)), .no, .no, .no, .no, .no] = .nx [.o t5, .no, .no, .no, .no, .no, .no, .v (.int (n : Int)), .v (.int (1 + w0)), .v (.int (s0 - 100)), .v (.int (b0 - 100)), .no, .no, .no] := by
    simp [st2_law_is_line_right, runM, runF, sSeq, sIf, sRet, sRetF, sSet, sSetO, sSetIx, sAsg, sPar, sNil, sDrop, sRetO, sMut1, oApp, ofRo, Ro.bind, lift, eVar, eC, eOp, eCmp, qCmp, qAnd, qOr, qNot, qTru, eAnd, eOr, eNot, eIf, eNeg, eChain, qChain, eIxV, slotD, dIx, dIxS, isDic, atI, ixN, eCall, aCons, aNil, eTup, eLst, oLen, eLenV, lenD, oInt, eq_ii, lt_ii, gt_ii, ge_ii, le_ii, add_ii, sub_ii, outR, outOk, outs, ownS, isNo, isLstS, List.replicate, eCallD, callM, okAr, arS, putO, rV, rO, rNil, tName, tTupl, tsCons, tsNil, eLc, lcL, iSeq, seqD, qYes, noOwn, isOwn, wipeE, backE, sl24, q4, q5]
  have hw : 0 < 1 + w0 := by omega
  have hw2 : 1 + w0 ≤ 1000 := by omega
  have hs : (s0 - 100).natAbs ≤ 100 := by omega
  have hb : (b0 - 100).natAbs ≤ 100 := by omega
  generalize 1 + w0 = w at *
  generalize s0 - 100 = s at *
  generalize b0 - 100 = b at *
  have f3 := s_floors (n := n) (s := s) (b := b) (w := w) (by omega) (by omega) hw (by omega)
  have f4 := s_floor_sum (n := n) (s := s) (b := b) (w := w) ⟨by omega, by omega, by omega, hw, by omega⟩
  have f5 := s_below (n := n) (s := (s.natAbs : Int)) (b := (b.natAbs : Int)) (w := w) ⟨by omega, by omega, by omega, hw, by omega⟩ (by omega) (by omega)
  have f6 := s_floors (n := n) (s := (s.natAbs : Int)) (b := (b.natAbs : Int)) (w := w) (by omega) (by omega) hw (by omega)
  have ab : ∀ i : Int, oAbs [.int i] = some (.int (i.natAbs : Int)) := fun i => by
    show some (D.int (absI i)) = _
    unfold absI
    congr 2
    split <;> omega
  have l1 := li_eq 7 (S n s b w)
  have l2 := li_eq 7 (S n (s.natAbs : Int) (b.natAbs : Int) w)
  have g3 : st3_law_is_line_right [.o t5, .no, .no, .no, .no, .no, .no, .v (.int (n : Int)), .v (.int w), .v (.int s), .v (.int b), .no, .no, .no] = .nx [.o t5, .v (.int (S n s b w)), .no, .no, .no, .no, .no, .v (.int (n : Int)), .v (.int w), .v (.int s), .v (.int b), .no, .no, .no] := by
    generalize S n s b w = X at *
    generalize (n : Int) = N at *
    simp [st3_law_is_line_right, runM, runF, sSeq, sIf, sRet, sRetF, sSet, sSetO, sSetIx, sAsg, sPar, sNil, sDrop, sRetO, sMut1, oApp, ofRo, Ro.bind, lift, eVar, eC, eOp, eCmp, qCmp, qAnd, qOr, qNot, qTru, eAnd, eOr, eNot, eIf, eNeg, eChain, qChain, eIxV, slotD, dIx, dIxS, isDic, atI, ixN, eCall, aCons, aNil, eTup, eLst, oLen, eLenV, lenD, oInt, eq_ii, lt_ii, gt_ii, ge_ii, le_ii, add_ii, sub_ii, outR, outOk, outs, ownS, isNo, isLstS, List.replicate, eCallD, callM, okAr, arS, putO, rV, rO, rNil, tName, tTupl, tsCons, tsNil, eLc, lcL, iSeq, seqD, qYes, noOwn, isOwn, wipeE, backE, sl24, f3]
  have g4 : st4_law_is_line_right [.o t5, .v (.int (S n s b w)), .no, .no, .no, .no, .no, .v (.int (n : Int)), .v (.int w), .v (.int s), .v (.int b), .no, .no, .no] = .nx [.o t5, .v (.int (S n s b w)), .no, .no, .no, .no, .no, .v (.int (n : Int)), .v (.int w), .v (.int s), .v (.int b), .no, .no, .no] := by
    unfold st4_law_is_line_right
    generalize S n s b w = X at *
    generalize (n : Int) = N at *
    have l1 : m__law_is 8 [.v (.int X), .v (.int X)] = .ok (.bl true) [.no, .no] := l1
    generalize m__law_is 8 = M at *
    simp [runM, runF, sSeq, sIf, sRet, sRetF, sSet, sSetO, sSetIx, sAsg, sPar, sNil, sDrop, sRetO, sMut1, oApp, ofRo, Ro.bind, lift, eVar, eC, eOp, eCmp, qCmp, qAnd, qOr, qNot, qTru, eAnd, eOr, eNot, eIf, eNeg, eChain, qChain, eIxV, slotD, dIx, dIxS, isDic, atI, ixN, eCall, aCons, aNil, eTup, eLst, oLen, eLenV, lenD, oInt, eq_ii, lt_ii, gt_ii, ge_ii, le_ii, add_ii, sub_ii, outR, outOk, outs, ownS, isNo, isLstS, List.replicate, eCallD, callM, okAr, arS, putO, rV, rO, rNil, tName, tTupl, tsCons, tsNil, eLc, lcL, iSeq, seqD, qYes, noOwn, isOwn, wipeE, backE, sl24, f4, l1, truD]
  have g5 : st5_law_is_line_right [.o t5, .v (.int (S n s b w)), .no, .no, .no, .no, .no, .v (.int (n : Int)), .v (.int w), .v (.int s), .v (.int b), .no, .no, .no] = .nx [.o t5, .v (.int (S n s b w)), .no, .no, .no, .no, .no, .v (.int (n : Int)), .v (.int w), .v (.int s), .v (.int b), .no, .no, .no] := by
    unfold st5_law_is_line_right
    have a1 := ab s
    have a2 := ab b
    generalize S n s b w = Y at *
    generalize S n (s.natAbs : Int) (b.natAbs : Int) w = X at *
    generalize (s.natAbs : Int) = s' at *
    generalize (b.natAbs : Int) = b' at *
    generalize (n : Int) = N at *
    have l2 : m__law_is 8 [.v (.int X), .v (.int X)] = .ok (.bl true) [.no, .no] := l2
    generalize m__law_is 8 = M at *
    simp [runM, runF, sSeq, sIf, sRet, sRetF, sSet, sSetO, sSetIx, sAsg, sPar, sNil, sDrop, sRetO, sMut1, oApp, ofRo, Ro.bind, lift, eVar, eC, eOp, eCmp, qCmp, qAnd, qOr, qNot, qTru, eAnd, eOr, eNot, eIf, eNeg, eChain, qChain, eIxV, slotD, dIx, dIxS, isDic, atI, ixN, eCall, aCons, aNil, eTup, eLst, oLen, eLenV, lenD, oInt, eq_ii, lt_ii, gt_ii, ge_ii, le_ii, add_ii, sub_ii, outR, outOk, outs, ownS, isNo, isLstS, List.replicate, eCallD, callM, okAr, arS, putO, rV, rO, rNil, tName, tTupl, tsCons, tsNil, eLc, lcL, iSeq, seqD, qYes, noOwn, isOwn, wipeE, backE, sl24, f5, f6, a1, a2, l2, truD]
  have g6 : st6_law_is_line_right [.o t5, .v (.int (S n s b w)), .no, .no, .no, .no, .no, .v (.int (n : Int)), .v (.int w), .v (.int s), .v (.int b), .no, .no, .no] = .nx [.o t7, .v (.int (S n s b w)), .no, .no, .no, .no, .no, .v (.int (n : Int)), .v (.int w), .v (.int s), .v (.int b), .v (.int mo), .v (.int fa), .no] := by
    generalize S n s b w = Y at *
    generalize (n : Int) = N at *
    simp [st6_law_is_line_right, runM, runF, sSeq, sIf, sRet, sRetF, sSet, sSetO, sSetIx, sAsg, sPar, sNil, sDrop, sRetO, sMut1, oApp, ofRo, Ro.bind, lift, eVar, eC, eOp, eCmp, qCmp, qAnd, qOr, qNot, qTru, eAnd, eOr, eNot, eIf, eNeg, eChain, qChain, eIxV, slotD, dIx, dIxS, isDic, atI, ixN, eCall, aCons, aNil, eTup, eLst, oLen, eLenV, lenD, oInt, eq_ii, lt_ii, gt_ii, ge_ii, le_ii, add_ii, sub_ii, outR, outOk, outs, ownS, isNo, isLstS, List.replicate, eCallD, callM, okAr, arS, putO, rV, rO, rNil, tName, tTupl, tsCons, tsNil, eLc, lcL, iSeq, seqD, qYes, noOwn, isOwn, wipeE, backE, sl24, ten6, q6, q7]
  have mw : (mo * w).natAbs ≤ 1000000000 := by
    rw [Int.natAbs_mul]
    exact Nat.mul_le_mul (show mo.natAbs ≤ 1000000 by omega) (show w.natAbs ≤ 1000 by omega)
  have fw : (fa * w).natAbs ≤ 1000000000 := by
    rw [Int.natAbs_mul]
    exact Nat.mul_le_mul (show fa.natAbs ≤ 1000000 by omega) (show w.natAbs ≤ 1000 by omega)
  have m1 := m13 (i := mo) (j := w) (by omega) (by omega)
  have m2 := m13 (i := fa) (j := w) (by omega) (by omega)
  have f7 := s_floor_sum (n := n) (s := s + mo * w) (b := b + fa * w) (w := w) ⟨by omega, by omega, by omega, hw, by omega⟩
  rw [S_shift n hw mo fa] at f7
  have g7 : st7_law_is_line_right [.o t7, .v (.int (S n s b w)), .no, .no, .no, .no, .no, .v (.int (n : Int)), .v (.int w), .v (.int s), .v (.int b), .v (.int mo), .v (.int fa), .no] = .nx [.o t7, .v (.int (S n s b w)), .v (.int (S n s b w + mo * tri n + fa * n)), .no, .no, .no, .no, .v (.int (n : Int)), .v (.int w), .v (.int s), .v (.int b), .v (.int mo), .v (.int fa), .no] := by
    generalize S n s b w + mo * tri n + fa * n = G at *
    generalize S n s b w = Y at *
    generalize (n : Int) = N at *
    generalize mo * w = U at *
    generalize fa * w = V at *
    simp [st7_law_is_line_right, runM, runF, sSeq, sIf, sRet, sRetF, sSet, sSetO, sSetIx, sAsg, sPar, sNil, sDrop, sRetO, sMut1, oApp, ofRo, Ro.bind, lift, eVar, eC, eOp, eCmp, qCmp, qAnd, qOr, qNot, qTru, eAnd, eOr, eNot, eIf, eNeg, eChain, qChain, eIxV, slotD, dIx, dIxS, isDic, atI, ixN, eCall, aCons, aNil, eTup, eLst, oLen, eLenV, lenD, oInt, eq_ii, lt_ii, gt_ii, ge_ii, le_ii, add_ii, sub_ii, outR, outOk, outs, ownS, isNo, isLstS, List.replicate, eCallD, callM, okAr, arS, putO, rV, rO, rNil, tName, tTupl, tsCons, tsNil, eLc, lcL, iSeq, seqD, qYes, noOwn, isOwn, wipeE, backE, sl24, m1, m2, f7]
  obtain ⟨tr0, tr1⟩ := tri_b (n := n) (by omega)
  have tr2 : tri n ≤ 1600 := by
    have : (n : Int) * ((n : Int) - 1) ≤ 40 * 40 := by
      cases n with
      | zero => simp
      | succ k => exact Int.mul_le_mul (by omega) (by omega) (by omega) (by omega)
    unfold tri
    omega
  have m3 := m13 (i := (n : Int)) (j := (n : Int) - 1) (by omega) (by omega)
  have d3 : dDiv (.int ((n : Int) * ((n : Int) - 1))) (.int 2) = some (.int (tri n)) := div_ii (by decide) (by decide)
  have m4 := m13 (i := mo) (j := tri n) (by omega) (by omega)
  have m5 := m13 (i := fa) (j := (n : Int)) (by omega) (by omega)
  have l3 := li_eq 7 (S n s b w + mo * tri n + fa * n)
  have g8 : st8_law_is_line_right [.o t7, .v (.int (S n s b w)), .v (.int (S n s b w + mo * tri n + fa * n)), .no, .no, .no, .no, .v (.int (n : Int)), .v (.int w), .v (.int s), .v (.int b), .v (.int mo), .v (.int fa), .no] = .nx [.o t7, .v (.int (S n s b w)), .v (.int (S n s b w + mo * tri n + fa * n)), .no, .no, .no, .no, .v (.int (n : Int)), .v (.int w), .v (.int s), .v (.int b), .v (.int mo), .v (.int fa), .no] := by
    unfold st8_law_is_line_right
    have l3 : m__law_is 8 [.v (.int (S n s b w + mo * tri n + fa * n)), .v (.int (S n s b w + mo * tri n + fa * n))] = .ok (.bl true) [.no, .no] := l3
    generalize mo * tri n = A1 at *
    generalize fa * (n : Int) = A2 at *
    generalize (n : Int) * ((n : Int) - 1) = A3 at *
    generalize tri n = A4 at *
    generalize S n s b w = Y at *
    generalize (n : Int) = N at *
    generalize m__law_is 8 = M at *
    simp [runM, runF, sSeq, sIf, sRet, sRetF, sSet, sSetO, sSetIx, sAsg, sPar, sNil, sDrop, sRetO, sMut1, oApp, ofRo, Ro.bind, lift, eVar, eC, eOp, eCmp, qCmp, qAnd, qOr, qNot, qTru, eAnd, eOr, eNot, eIf, eNeg, eChain, qChain, eIxV, slotD, dIx, dIxS, isDic, atI, ixN, eCall, aCons, aNil, eTup, eLst, oLen, eLenV, lenD, oInt, eq_ii, lt_ii, gt_ii, ge_ii, le_ii, add_ii, sub_ii, outR, outOk, outs, ownS, isNo, isLstS, List.replicate, eCallD, callM, okAr, arS, putO, rV, rO, rNil, tName, tTupl, tsCons, tsNil, eLc, lcL, iSeq, seqD, qYes, noOwn, isOwn, wipeE, backE, sl24, m3, d3, m4, m5, l3, truD]
  have g9 : st9_law_is_line_right [.o t7, .v (.int (S n s b w)), .v (.int (S n s b w + mo * tri n + fa * n)), .no, .no, .no, .no, .v (.int (n : Int)), .v (.int w), .v (.int s), .v (.int b), .v (.int mo), .v (.int fa), .no] = .nx [.o t8, .v (.int (S n s b w)), .v (.int (S n s b w + mo * tri n + fa * n)), .v (.int (1 + ti)), .no, .no, .no, .v (.int (n : Int)), .v (.int w), .v (.int s), .v (.int b), .v (.int mo), .v (.int fa), .no] := by
    generalize S n s b w + mo * tri n + fa * n = G at *
    generalize S n s b w = Y at *
    generalize (n : Int) = N at *
    simp [st9_law_is_line_right, runM, runF, sSeq, sIf, sRet, sRetF, sSet, sSetO, sSetIx, sAsg, sPar, sNil, sDrop, sRetO, sMut1, oApp, ofRo, Ro.bind, lift, eVar, eC, eOp, eCmp, qCmp, qAnd, qOr, qNot, qTru, eAnd, eOr, eNot, eIf, eNeg, eChain, qChain, eIxV, slotD, dIx, dIxS, isDic, atI, ixN, eCall, aCons, aNil, eTup, eLst, oLen, eLenV, lenD, oInt, eq_ii, lt_ii, gt_ii, ge_ii, le_ii, add_ii, sub_ii, outR, outOk, outs, ownS, isNo, isLstS, List.replicate, eCallD, callM, okAr, arS, putO, rV, rO, rNil, tName, tTupl, tsCons, tsNil, eLc, lcL, iSeq, seqD, qYes, noOwn, isOwn, wipeE, backE, sl24, ten6, q8]
  obtain ⟨wn, rfl⟩ : ∃ wn : Nat, w = (wn : Int) := ⟨w.toNat, by omega⟩
  obtain ⟨tn, htn⟩ : ∃ tn : Nat, 1 + ti = (tn : Int) := ⟨(1 + ti).toNat, by omega⟩
  rw [htn] at g9
  have m6 := m13 (i := (n : Int)) (j := (wn : Int)) (by omega) (by omega)
  have nw : n * wn ≤ 40 * 1000 := Nat.mul_le_mul (by omega) (by omega)
  have wt : wn * tn ≤ 1000 * 1000000 := Nat.mul_le_mul (by omega) (by omega)
  generalize S n s b (wn : Int) + mo * tri n + fa * n = G at *
  have hS1 : ∀ N : Nat, N ≤ 1000000000000 → m_floor_sum [.v (.int (N : Int)), .v (.int s), .v (.int b), .v (.int (wn : Int))] = .ok (.int (S N s b wn)) [.no, .no, .no, .no] := fun N hN => s_floor_sum ⟨hN, by omega, by omega, hw, by omega⟩
  have g10 : st10_law_is_line_right [.o t8, .v (.int (S n s b wn)), .v (.int G), .v (.int (tn : Int)), .no, .no, .no, .v (.int (n : Int)), .v (.int (wn : Int)), .v (.int s), .v (.int b), .v (.int mo), .v (.int fa), .no] = .nx [.o t8, .v (.int (S n s b wn)), .v (.int G), .v (.int (tn : Int)), .v (.int ((n * wn : Nat) : Int)), .no, .no, .v (.int (n : Int)), .v (.int (wn : Int)), .v (.int s), .v (.int b), .v (.int mo), .v (.int fa), .no] := by
    rw [Int.natCast_mul]
    generalize S n s b wn = Y at *
    generalize (n : Int) * (wn : Int) = Z at *
    simp [st10_law_is_line_right, runM, runF, sSeq, sIf, sRet, sRetF, sSet, sSetO, sSetIx, sAsg, sPar, sNil, sDrop, sRetO, sMut1, oApp, ofRo, Ro.bind, lift, eVar, eC, eOp, eCmp, qCmp, qAnd, qOr, qNot, qTru, eAnd, eOr, eNot, eIf, eNeg, eChain, qChain, eIxV, slotD, dIx, dIxS, isDic, atI, ixN, eCall, aCons, aNil, eTup, eLst, oLen, eLenV, lenD, oInt, eq_ii, lt_ii, gt_ii, ge_ii, le_ii, add_ii, sub_ii, outR, outOk, outs, ownS, isNo, isLstS, List.replicate, eCallD, callM, okAr, arS, putO, rV, rO, rNil, tName, tTupl, tsCons, tsNil, eLc, lcL, iSeq, seqD, qYes, noOwn, isOwn, wipeE, backE, sl24, m6]
  have hne : ∀ i : Int, bNe (.int i) (.int i) = some false := fun i => by
    show some (!decide (i = i)) = _
    simp
  obtain ⟨y13, g11⟩ : ∃ y13, st11_law_is_line_right [.o t8, .v (.int (S n s b wn)), .v (.int G), .v (.int (tn : Int)), .v (.int ((n * wn : Nat) : Int)), .no, .no, .v (.int (n : Int)), .v (.int (wn : Int)), .v (.int s), .v (.int b), .v (.int mo), .v (.int fa), .no] = .nx [.o t8, .v (.int (S n s b wn)), .v (.int G), .v (.int (tn : Int)), .v (.int ((n * wn : Nat) : Int)), .no, .no, .v (.int (n : Int)), .v (.int (wn : Int)), .v (.int s), .v (.int b), .v (.int mo), .v (.int fa), y13] := by
    have f11 := s_floors (n := n * wn) (s := s) (b := b) (w := (wn : Int)) (by omega) (by omega) hw (by omega)
    have f12 := hS1 (n * wn) (by omega)
    by_cases c : ((n * wn : Nat) : Int) < 500
    · refine ⟨.v (.int (S (n * wn) s b wn)), ?_⟩
      have ne := hne (S (n * wn) s b wn)
      generalize S n s b wn = Y at *
      generalize S (n * wn) s b wn = Z at *
      generalize ((n * wn : Nat) : Int) = K at *
      generalize (wn : Int) = W at *
      generalize (n : Int) = N at *
      simp [st11_law_is_line_right, runM, runF, sSeq, sIf, sRet, sRetF, sSet, sSetO, sSetIx, sAsg, sPar, sNil, sDrop, sRetO, sMut1, oApp, ofRo, Ro.bind, lift, eVar, eC, eOp, eCmp, qCmp, qAnd, qOr, qNot, qTru, eAnd, eOr, eNot, eIf, eNeg, eChain, qChain, eIxV, slotD, dIx, dIxS, isDic, atI, ixN, eCall, aCons, aNil, eTup, eLst, oLen, eLenV, lenD, oInt, eq_ii, lt_ii, gt_ii, ge_ii, le_ii, add_ii, sub_ii, outR, outOk, outs, ownS, isNo, isLstS, List.replicate, eCallD, callM, okAr, arS, putO, rV, rO, rNil, tName, tTupl, tsCons, tsNil, eLc, lcL, iSeq, seqD, qYes, noOwn, isOwn, wipeE, backE, sl24, c, f11, f12, ne]
    · refine ⟨.no, ?_⟩
      generalize S n s b wn = Y at *
      generalize ((n * wn : Nat) : Int) = K at *
      generalize (wn : Int) = W at *
      generalize (n : Int) = N at *
      simp [st11_law_is_line_right, runM, runF, sSeq, sIf, sRet, sRetF, sSet, sSetO, sSetIx, sAsg, sPar, sNil, sDrop, sRetO, sMut1, oApp, ofRo, Ro.bind, lift, eVar, eC, eOp, eCmp, qCmp, qAnd, qOr, qNot, qTru, eAnd, eOr, eNot, eIf, eNeg, eChain, qChain, eIxV, slotD, dIx, dIxS, isDic, atI, ixN, eCall, aCons, aNil, eTup, eLst, oLen, eLenV, lenD, oInt, eq_ii, lt_ii, gt_ii, ge_ii, le_ii, add_ii, sub_ii, outR, outOk, outs, ownS, isNo, isLstS, List.replicate, eCallD, callM, okAr, arS, putO, rV, rO, rNil, tName, tTupl, tsCons, tsNil, eLc, lcL, iSeq, seqD, qYes, noOwn, isOwn, wipeE, backE, sl24, c]
  have m7 := m13 (i := (wn : Int)) (j := (tn : Int)) (by omega) (by omega)
  have g12 : st12_law_is_line_right [.o t8, .v (.int (S n s b wn)), .v (.int G), .v (.int (tn : Int)), .v (.int ((n * wn : Nat) : Int)), .no, .no, .v (.int (n : Int)), .v (.int (wn : Int)), .v (.int s), .v (.int b), .v (.int mo), .v (.int fa), y13] = .nx [.o t8, .v (.int (S n s b wn)), .v (.int G), .v (.int (tn : Int)), .v (.int ((n * wn : Nat) : Int)), .v (.int (S (wn * tn) s b wn)), .no, .v (.int (n : Int)), .v (.int (wn : Int)), .v (.int s), .v (.int b), .v (.int mo), .v (.int fa), y13] := by
    have f := hS1 (wn * tn) (by omega)
    rw [← Int.natCast_mul] at m7
    generalize S n s b wn = Y at *
    generalize S (wn * tn) s b wn = Z at *
    generalize ((n * wn : Nat) : Int) = K at *
    generalize ((wn * tn : Nat) : Int) = K2 at *
    generalize (wn : Int) = W at *
    generalize (tn : Int) = V at *
    generalize (n : Int) = N at *
    simp [st12_law_is_line_right, runM, runF, sSeq, sIf, sRet, sRetF, sSet, sSetO, sSetIx, sAsg, sPar, sNil, sDrop, sRetO, sMut1, oApp, ofRo, Ro.bind, lift, eVar, eC, eOp, eCmp, qCmp, qAnd, qOr, qNot, qTru, eAnd, eOr, eNot, eIf, eNeg, eChain, qChain, eIxV, slotD, dIx, dIxS, isDic, atI, ixN, eCall, aCons, aNil, eTup, eLst, oLen, eLenV, lenD, oInt, eq_ii, lt_ii, gt_ii, ge_ii, le_ii, add_ii, sub_ii, outR, outOk, outs, ownS, isNo, isLstS, List.replicate, eCallD, callM, okAr, arS, putO, rV, rO, rNil, tName, tTupl, tsCons, tsNil, eLc, lcL, iSeq, seqD, qYes, noOwn, isOwn, wipeE, backE, sl24, m7, f]
  obtain ⟨q, hq, hq2⟩ : ∃ q : Nat, o2I min2 [.int (wn : Int), .int 300] = some (.int (q : Int)) ∧ q ≤ 300 := by
    by_cases c : wn ≤ 300
    · refine ⟨wn, ?_, c⟩
      simp [o2I, min2]
      omega
    · refine ⟨300, ?_, by omega⟩
      simp [o2I, min2]
      omega
  have sw : (s * (wn : Int)).natAbs ≤ 100 * 1000 := by
    rw [Int.natAbs_mul]
    exact Nat.mul_le_mul hs (by omega)
  have m8 := m13 (i := s) (j := (wn : Int)) (by omega) (by omega)
  have m9 := m13 (i := s * (wn : Int)) (j := (tn : Int)) (by omega) (by omega)
  have e9 : s * (wn : Int) * (tn : Int) = s * ((wn * tn : Nat) : Int) := by rw [Int.natCast_mul, Int.mul_assoc]
  have g13 : st13_law_is_line_right [.o t8, .v (.int (S n s b wn)), .v (.int G), .v (.int (tn : Int)), .v (.int ((n * wn : Nat) : Int)), .v (.int (S (wn * tn) s b wn)), .no, .v (.int (n : Int)), .v (.int (wn : Int)), .v (.int s), .v (.int b), .v (.int mo), .v (.int fa), y13] = .nx [.o t8, .v (.int (S n s b wn)), .v (.int G), .v (.int (tn : Int)), .v (.int ((n * wn : Nat) : Int)), .v (.int (S (wn * tn) s b wn)), .v (.int (S q s (b + s * ((wn * tn : Nat) : Int)) wn)), .v (.int (n : Int)), .v (.int (wn : Int)), .v (.int s), .v (.int b), .v (.int mo), .v (.int fa), y13] := by
    have f := s_floors (n := q) (s := s) (b := b + s * ((wn * tn : Nat) : Int)) (w := (wn : Int)) (by omega) (by omega) hw (by omega)
    rw [e9] at m9
    generalize S q s (b + s * ((wn * tn : Nat) : Int)) wn = Z2 at *
    generalize s * ((wn * tn : Nat) : Int) = U at *
    generalize S n s b wn = Y at *
    generalize S (wn * tn) s b wn = Z at *
    generalize ((n * wn : Nat) : Int) = K at *
    generalize s * (wn : Int) = V2 at *
    generalize (wn : Int) = W at *
    generalize (tn : Int) = V at *
    generalize (n : Int) = N at *
    simp [st13_law_is_line_right, runM, runF, sSeq, sIf, sRet, sRetF, sSet, sSetO, sSetIx, sAsg, sPar, sNil, sDrop, sRetO, sMut1, oApp, ofRo, Ro.bind, lift, eVar, eC, eOp, eCmp, qCmp, qAnd, qOr, qNot, qTru, eAnd, eOr, eNot, eIf, eNeg, eChain, qChain, eIxV, slotD, dIx, dIxS, isDic, atI, ixN, eCall, aCons, aNil, eTup, eLst, oLen, eLenV, lenD, oInt, eq_ii, lt_ii, gt_ii, ge_ii, le_ii, add_ii, sub_ii, outR, outOk, outs, ownS, isNo, isLstS, List.replicate, eCallD, callM, okAr, arS, putO, rV, rO, rNil, tName, tTupl, tsCons, tsNil, eLc, lcL, iSeq, seqD, qYes, noOwn, isOwn, wipeE, backE, sl24, hq, m8, m9, f]
  have g14 : st14_law_is_line_right [.o t8, .v (.int (S n s b wn)), .v (.int G), .v (.int (tn : Int)), .v (.int ((n * wn : Nat) : Int)), .v (.int (S (wn * tn) s b wn)), .v (.int (S q s (b + s * ((wn * tn : Nat) : Int)) wn)), .v (.int (n : Int)), .v (.int (wn : Int)), .v (.int s), .v (.int b), .v (.int mo), .v (.int fa), y13] = .ret (.bl true) [.o t8, .v (.int (S n s b wn)), .v (.int G), .v (.int (tn : Int)), .v (.int ((n * wn : Nat) : Int)), .v (.int (S (wn * tn) s b wn)), .v (.int (S q s (b + s * ((wn * tn : Nat) : Int)) wn)), .v (.int (n : Int)), .v (.int (wn : Int)), .v (.int s), .v (.int b), .v (.int mo), .v (.int fa), y13] := by
    have f := hS1 (wn * tn + q) (by omega)
    rw [S_split, show ((wn * tn + q : Nat) : Int) = ((wn * tn : Nat) : Int) + (q : Int) by omega] at f
    rw [← Int.natCast_mul] at m7
    have be : ∀ i : Int, bEq (.int i) (.int i) = some true := fun i => by
      show some (decide (i = i)) = _
      simp
    generalize S q s (b + s * ((wn * tn : Nat) : Int)) wn = Z2 at *
    generalize S n s b wn = Y at *
    generalize S (wn * tn) s b wn = Z at *
    generalize ((n * wn : Nat) : Int) = K at *
    generalize ((wn * tn : Nat) : Int) = K2 at *
    generalize (wn : Int) = W at *
    generalize (tn : Int) = V at *
    generalize (n : Int) = N at *
    generalize (q : Int) = Q at *
    simp [st14_law_is_line_right, runM, runF, sSeq, sIf, sRet, sRetF, sSet, sSetO, sSetIx, sAsg, sPar, sNil, sDrop, sRetO, sMut1, oApp, ofRo, Ro.bind, lift, eVar, eC, eOp, eCmp, qCmp, qAnd, qOr, qNot, qTru, eAnd, eOr, eNot, eIf, eNeg, eChain, qChain, eIxV, slotD, dIx, dIxS, isDic, atI, ixN, eCall, aCons, aNil, eTup, eLst, oLen, eLenV, lenD, oInt, eq_ii, lt_ii, gt_ii, ge_ii, le_ii, add_ii, sub_ii, outR, outOk, outs, ownS, isNo, isLstS, List.replicate, eCallD, callM, okAr, arS, putO, rV, rO, rNil, tName, tTupl, tsCons, tsNil, eLc, lcL, iSeq, seqD, qYes, noOwn, isOwn, wipeE, backE, sl24, hq, m7, f, be]
  have hb := (congrFun ch_law_is_line_right [.o d, .no, .no, .no, .no, .no, .no, .no, .no, .no, .no, .no, .no, .no]).trans ((seq_nx g1).trans ((seq_nx g2).trans ((seq_nx g3).trans ((seq_nx g4).trans ((seq_nx g5).trans ((seq_nx g6).trans ((seq_nx g7).trans ((seq_nx g8).trans ((seq_nx g9).trans ((seq_nx g10).trans ((seq_nx g11).trans ((seq_nx g12).trans ((seq_nx g13).trans g14)))))))))))))
  exact runM_ret hb rfl rfl rfl rfl
end K35

namespace K35
open PySem L2 LamX Rf
def st1_law_is_triangle_right : Env' → So := sAsg (tTupl 3 (tsCons (tName 3) (tsCons (tName 4) (tsCons (tName 5) (tsNil))))) (eTup (aCons (eOp dAdd (eC (.int 1)) (eCallD m__law_draw (rO 0 (rV (eC (.int 9)) (rNil))))) (aCons (eOp dAdd (eC (.int 1)) (eCallD m__law_draw (rO 0 (rV (eC (.int 9)) (rNil))))) (aCons (eCallD m__law_draw (rO 0 (rV (eC (.int 60)) (rNil)))) (aNil)))))
def st2_law_is_triangle_right : Env' → So := sSet 1 (eCall oSumA (aCons (lc1__law_is_triangle_right) aNil))
def st3_law_is_triangle_right : Env' → So := sIf (qNot (qTru (eCallD (m__law_is 8) (rV (eLst (aCons (eCallD m_in_triangle (rV (eVar 3) (rV (eVar 4) (rV (eVar 5) (rNil))))) (aCons (eCallD m_in_triangle (rV (eVar 4) (rV (eVar 3) (rV (eVar 5) (rNil))))) (aNil)))) (rV (eLst (aCons (eVar 1) (aCons (eVar 1) (aNil)))) (rNil)))))) (sRet (eC (.bl false))) (sNil)
def st4_law_is_triangle_right : Env' → So := sSet 2 (eOp dAdd (eC (.int 1)) (eCallD m__law_draw (rO 0 (rV (eOp dPow (eC (.int 10)) (eC (.int 6))) (rNil)))))
def st5_law_is_triangle_right : Env' → So := sRet (eCallD (m__law_is 8) (rV (eCallD m_in_triangle (rV (eOp dMul (eVar 3) (eVar 2)) (rV (eOp dMul (eVar 4) (eVar 2)) (rV (eOp dAdd (eOp dMul (eVar 5) (eVar 2)) (eCallD m__law_draw (rO 0 (rV (eVar 2) (rNil))))) (rNil))))) (rV (eVar 1) (rNil))))
theorem ch_law_is_triangle_right : b__law_is_triangle_right = sSeq st1_law_is_triangle_right (sSeq st2_law_is_triangle_right (sSeq st3_law_is_triangle_right (sSeq st4_law_is_triangle_right (st5_law_is_triangle_right)))) := rfl
theorem tri_right {k : Nat} {d : D} (hT : Tape2 k d) (hk : k ≤ 10000) : ∃ tp, m__law_is_triangle_right [.o d] = .ok (.bl true) [.o tp] ∧ Tape2 (k + 5) tp := by
  obtain ⟨a0, t1, q1, a1, a2, T1⟩ := s_draw (m := 9) hT (by omega) (by decide) (by decide)
  obtain ⟨b0, t2, q2, b1, b2, T2⟩ := s_draw (m := 9) T1 (by omega) (by decide) (by decide)
  obtain ⟨m, t3, q3, m1, m2, T3⟩ := s_draw (m := 60) T2 (by omega) (by decide) (by decide)
  obtain ⟨c0, t4, q4, c1, c2, T4⟩ := s_draw (m := 1000000) T3 (by omega) (by decide) (by decide)
  obtain ⟨e, t5, q5, e1, e2, T5⟩ := s_draw (m := 1 + c0) T4 (by omega) (by omega) (by omega)
  refine ⟨t5, ?_, T5⟩
  have ten6 : dPow (.int 10) (.int 6) = some (.int 1000000) := by kernel_rfl
  have g1 : st1_law_is_triangle_right [.o d, .no, .no, .no, .no, .no, .no] = .nx [.o t3, .no, .no, .v (.int (1 + a0)), .v (.int (1 + b0)), .v (.int m), .no] := by
    simp [st1_law_is_triangle_right, runM, runF, sSeq, sIf, sRet, sRetF, sSet, sSetO, sSetIx, sAsg, sPar, sNil, sDrop, sRetO, sMut1, oApp, ofRo, Ro.bind, lift, eVar, eC, eOp, eCmp, qCmp, qAnd, qOr, qNot, qTru, eAnd, eOr, eNot, eIf, eNeg, eChain, qChain, eIxV, slotD, dIx, dIxS, isDic, atI, ixN, eCall, aCons, aNil, eTup, eLst, oLen, eLenV, lenD, oInt, eq_ii, lt_ii, gt_ii, ge_ii, le_ii, add_ii, sub_ii, outR, outOk, outs, ownS, isNo, isLstS, List.replicate, eCallD, callM, okAr, arS, putO, rV, rO, rNil, tName, tTupl, tsCons, tsNil, eLc, lcL, iSeq, seqD, qYes, noOwn, isOwn, wipeE, backE, sl24, q1, q2, q3]
  have ha : 1 ≤ 1 + a0 ∧ 1 + a0 ≤ 9 := by omega
  have hb : 1 ≤ 1 + b0 ∧ 1 + b0 ≤ 9 := by omega
  have hc : 1 ≤ 1 + c0 ∧ 1 + c0 ≤ 1000000 := by omega
  generalize 1 + a0 = a at *
  generalize 1 + b0 = b at *
  have qa := Int.ediv_nonneg m1 (show 0 ≤ a by omega)
  have ql := Int.ediv_le_self (a := m) a m1
  obtain ⟨n, hn⟩ : ∃ n : Nat, m / a + 1 = (n : Int) := ⟨(m / a + 1).toNat, by omega⟩
  have dm := dv (i := m) (j := a) (by omega) (by omega)
  have i1 := iR1_nat (f := eOp dAdd (eOp dDiv (eVar 5) (eVar 3)) (eC (.int 1))) (E := [.o t3, .no, .no, .v (.int a), .v (.int b), .v (.int m), .no]) (E' := [.o t3, .no, .no, .v (.int a), .v (.int b), .v (.int m), .no]) (n := n) (by simp [runM, runF, sSeq, sIf, sRet, sRetF, sSet, sSetO, sSetIx, sAsg, sPar, sNil, sDrop, sRetO, sMut1, oApp, ofRo, Ro.bind, lift, eVar, eC, eOp, eCmp, qCmp, qAnd, qOr, qNot, qTru, eAnd, eOr, eNot, eIf, eNeg, eChain, qChain, eIxV, slotD, dIx, dIxS, isDic, atI, ixN, eCall, aCons, aNil, eTup, eLst, oLen, eLenV, lenD, oInt, eq_ii, lt_ii, gt_ii, ge_ii, le_ii, add_ii, sub_ii, outR, outOk, outs, ownS, isNo, isLstS, List.replicate, eCallD, callM, okAr, arS, putO, rV, rO, rNil, tName, tTupl, tsCons, tsNil, eLc, lcL, iSeq, seqD, qYes, noOwn, isOwn, wipeE, backE, sl24, dm, hn]) (by omega)
  have kk := eLc_map (vs := [6]) (t := tName 6) (q := qYes) (f := eOp dAdd (eOp dDiv (eOp dSub (eVar 5) (eOp dMul (eVar 3) (eVar 6))) (eVar 4)) (eC (.int 1))) (E1 := [.o t3, .no, .no, .v (.int a), .v (.int b), .v (.int m), .no]) (fun d => match d with | .int x => some (.int ((m - a * x) / b + 1)) | _ => none) i1 rfl (by rw [rng_len]; omega) rfl rfl (by
    intro d hd
    obtain ⟨j, hj0⟩ := List.mem_iff_getElem?.mp hd
    obtain ⟨rfl, hj⟩ := rng_get hj0
    rw [Int.zero_add]
    have mm := m13 (i := a) (j := (j : Int)) (by omega) (by omega)
    have dd := dv (i := m - a * (j : Int)) (j := b) (by omega) (by omega)
    refine ⟨[.o t3, .no, .no, .v (.int a), .v (.int b), .v (.int m), .v (.int (j : Int))], rfl, .inr ⟨_, [.o t3, .no, .no, .v (.int a), .v (.int b), .v (.int m), .v (.int (j : Int))], [.o t3, .no, .no, .v (.int a), .v (.int b), .v (.int m), .v (.int (j : Int))], rfl, rfl, ?_, rfl, rfl⟩⟩
    generalize a * (j : Int) = z at *
    simp [runM, runF, sSeq, sIf, sRet, sRetF, sSet, sSetO, sSetIx, sAsg, sPar, sNil, sDrop, sRetO, sMut1, oApp, ofRo, Ro.bind, lift, eVar, eC, eOp, eCmp, qCmp, qAnd, qOr, qNot, qTru, eAnd, eOr, eNot, eIf, eNeg, eChain, qChain, eIxV, slotD, dIx, dIxS, isDic, atI, ixN, eCall, aCons, aNil, eTup, eLst, oLen, eLenV, lenD, oInt, eq_ii, lt_ii, gt_ii, ge_ii, le_ii, add_ii, sub_ii, outR, outOk, outs, ownS, isNo, isLstS, List.replicate, eCallD, callM, okAr, arS, putO, rV, rO, rNil, tName, tTupl, tsCons, tsNil, eLc, lcL, iSeq, seqD, qYes, noOwn, isOwn, wipeE, backE, sl24, mm, dd])
  have fm : (rng 0 n).filterMap (fun d => match d with | .int x => some (.int ((m - a * x) / b + 1)) | _ => none) = ((List.range n).map fun x : Nat => (m - a * (x : Int)) / b + 1).map D.int := by
    rw [rng_nl, nl, List.map_map, List.filterMap_map, List.map_map]
    have : ((fun d => match d with | .int x => some (D.int ((m - a * x) / b + 1)) | _ => none) ∘ D.int ∘ fun i : Nat => (0 : Int) + i) = some ∘ (D.int ∘ fun x : Nat => (m - a * (x : Int)) / b + 1) := by
      funext i
      simp
    rw [this]
    exact congrFun (List.filterMap_eq_map (f := D.int ∘ fun x : Nat => (m - a * (x : Int)) / b + 1)) (List.range n)
  rw [fm] at kk
  have kk : lc1__law_is_triangle_right [.o t3, .no, .no, .v (.int a), .v (.int b), .v (.int m), .no] = _ := kk
  have su : oSumA [.lst (((List.range n).map fun x : Nat => (m - a * (x : Int)) / b + 1).map D.int)] = some (.int (Tn a b m)) := by
    rw [Tn_col (by omega) (by omega) m1, hn, show ((n : Int)).toNat = n by omega]
    simp only [oSumA, ints_map, Option.map_some, sum_sm]
  have g2 : st2_law_is_triangle_right [.o t3, .no, .no, .v (.int a), .v (.int b), .v (.int m), .no] = .nx [.o t3, .v (.int (Tn a b m)), .no, .v (.int a), .v (.int b), .v (.int m), .no] := by
    generalize ((List.range n).map fun x : Nat => (m - a * (x : Int)) / b + 1).map D.int = L at *
    generalize Tn a b m = X at *
    simp [st2_law_is_triangle_right, runM, runF, sSeq, sIf, sRet, sRetF, sSet, sSetO, sSetIx, sAsg, sPar, sNil, sDrop, sRetO, sMut1, oApp, ofRo, Ro.bind, lift, eVar, eC, eOp, eCmp, qCmp, qAnd, qOr, qNot, qTru, eAnd, eOr, eNot, eIf, eNeg, eChain, qChain, eIxV, slotD, dIx, dIxS, isDic, atI, ixN, eCall, aCons, aNil, eTup, eLst, oLen, eLenV, lenD, oInt, eq_ii, lt_ii, gt_ii, ge_ii, le_ii, add_ii, sub_ii, outR, outOk, outs, ownS, isNo, isLstS, List.replicate, eCallD, callM, okAr, arS, putO, rV, rO, rNil, tName, tTupl, tsCons, tsNil, eLc, lcL, iSeq, seqD, qYes, noOwn, isOwn, wipeE, backE, sl24, kk, su]
  have f1 := s_tri (a := a) (b := b) (m := m) (by omega) (by omega) (by omega)
  have f2 := s_tri (a := b) (b := a) (m := m) (by omega) (by omega) (by omega)
  rw [Tn_comm b a m] at f2
  have l3 := li_two 6 (li_eq 6 (Tn a b m)) (li_eq 6 (Tn a b m))
  have l4 := li_eq 7 (Tn a b m)
  have g3 : st3_law_is_triangle_right [.o t3, .v (.int (Tn a b m)), .no, .v (.int a), .v (.int b), .v (.int m), .no] = .nx [.o t3, .v (.int (Tn a b m)), .no, .v (.int a), .v (.int b), .v (.int m), .no] := by
    unfold st3_law_is_triangle_right
    have l3 : m__law_is 8 [.v (.lst [.int (Tn a b m), .int (Tn a b m)]), .v (.lst [.int (Tn a b m), .int (Tn a b m)])] = .ok (.bl true) [.no, .no] := l3
    generalize m__law_is 8 = M at *
    generalize Tn a b m = X at *
    simp [runM, runF, sSeq, sIf, sRet, sRetF, sSet, sSetO, sSetIx, sAsg, sPar, sNil, sDrop, sRetO, sMut1, oApp, ofRo, Ro.bind, lift, eVar, eC, eOp, eCmp, qCmp, qAnd, qOr, qNot, qTru, eAnd, eOr, eNot, eIf, eNeg, eChain, qChain, eIxV, slotD, dIx, dIxS, isDic, atI, ixN, eCall, aCons, aNil, eTup, eLst, oLen, eLenV, lenD, oInt, eq_ii, lt_ii, gt_ii, ge_ii, le_ii, add_ii, sub_ii, outR, outOk, outs, ownS, isNo, isLstS, List.replicate, eCallD, callM, okAr, arS, putO, rV, rO, rNil, tName, tTupl, tsCons, tsNil, eLc, lcL, iSeq, seqD, qYes, noOwn, isOwn, wipeE, backE, sl24, f1, f2, l3, truD]
  have g4 : st4_law_is_triangle_right [.o t3, .v (.int (Tn a b m)), .no, .v (.int a), .v (.int b), .v (.int m), .no] = .nx [.o t4, .v (.int (Tn a b m)), .v (.int (1 + c0)), .v (.int a), .v (.int b), .v (.int m), .no] := by
    generalize Tn a b m = X at *
    simp [st4_law_is_triangle_right, runM, runF, sSeq, sIf, sRet, sRetF, sSet, sSetO, sSetIx, sAsg, sPar, sNil, sDrop, sRetO, sMut1, oApp, ofRo, Ro.bind, lift, eVar, eC, eOp, eCmp, qCmp, qAnd, qOr, qNot, qTru, eAnd, eOr, eNot, eIf, eNeg, eChain, qChain, eIxV, slotD, dIx, dIxS, isDic, atI, ixN, eCall, aCons, aNil, eTup, eLst, oLen, eLenV, lenD, oInt, eq_ii, lt_ii, gt_ii, ge_ii, le_ii, add_ii, sub_ii, outR, outOk, outs, ownS, isNo, isLstS, List.replicate, eCallD, callM, okAr, arS, putO, rV, rO, rNil, tName, tTupl, tsCons, tsNil, eLc, lcL, iSeq, seqD, qYes, noOwn, isOwn, wipeE, backE, sl24, ten6, q4]
  generalize 1 + c0 = c at *
  have ac : (a * c).natAbs ≤ 9 * 1000000 := by rw [Int.natAbs_mul]; exact Nat.mul_le_mul (by omega) (by omega)
  have bc : (b * c).natAbs ≤ 9 * 1000000 := by rw [Int.natAbs_mul]; exact Nat.mul_le_mul (by omega) (by omega)
  have mc : (m * c).natAbs ≤ 60 * 1000000 := by rw [Int.natAbs_mul]; exact Nat.mul_le_mul (by omega) (by omega)
  have pa := Int.mul_pos (show 0 < a by omega) (show 0 < c by omega)
  have pb := Int.mul_pos (show 0 < b by omega) (show 0 < c by omega)
  have pm := Int.mul_nonneg m1 (show 0 ≤ c by omega)
  have k1 := m13 (i := a) (j := c) (by omega) (by omega)
  have k2 := m13 (i := b) (j := c) (by omega) (by omega)
  have k3 := m13 (i := m) (j := c) (by omega) (by omega)
  have f3 := s_tri (a := a * c) (b := b * c) (m := m * c + e) (by omega) (by omega) (by omega)
  rw [Tn_scale (by omega) (by omega) m1 (by omega) e1 e2] at f3
  have g5 : st5_law_is_triangle_right [.o t4, .v (.int (Tn a b m)), .v (.int c), .v (.int a), .v (.int b), .v (.int m), .no] = .ret (.bl true) [.o t5, .v (.int (Tn a b m)), .v (.int c), .v (.int a), .v (.int b), .v (.int m), .no] := by
    unfold st5_law_is_triangle_right
    have l4 : m__law_is 8 [.v (.int (Tn a b m)), .v (.int (Tn a b m))] = .ok (.bl true) [.no, .no] := l4
    generalize m__law_is 8 = M at *
    generalize Tn a b m = X at *
    generalize a * c = A at *
    generalize b * c = B at *
    generalize m * c = C at *
    simp [runM, runF, sSeq, sIf, sRet, sRetF, sSet, sSetO, sSetIx, sAsg, sPar, sNil, sDrop, sRetO, sMut1, oApp, ofRo, Ro.bind, lift, eVar, eC, eOp, eCmp, qCmp, qAnd, qOr, qNot, qTru, eAnd, eOr, eNot, eIf, eNeg, eChain, qChain, eIxV, slotD, dIx, dIxS, isDic, atI, ixN, eCall, aCons, aNil, eTup, eLst, oLen, eLenV, lenD, oInt, eq_ii, lt_ii, gt_ii, ge_ii, le_ii, add_ii, sub_ii, outR, outOk, outs, ownS, isNo, isLstS, List.replicate, eCallD, callM, okAr, arS, putO, rV, rO, rNil, tName, tTupl, tsCons, tsNil, eLc, lcL, iSeq, seqD, qYes, noOwn, isOwn, wipeE, backE, sl24, k1, k2, k3, q5, f3, l4]
  have hb := (congrFun ch_law_is_triangle_right [.o d, .no, .no, .no, .no, .no, .no]).trans ((seq_nx g1).trans ((seq_nx g2).trans ((seq_nx g3).trans ((seq_nx g4).trans g5))))
  exact runM_ret hb rfl rfl rfl rfl
end K35

namespace K35
open PySem L2 LamX Rf
def st1_law_are_rests_right : Env' → So := sAsg (tTupl 2 (tsCons (tName 6) (tsCons (tName 7) (tsNil)))) (eTup (aCons (eCallD m__law_draw (rO 0 (rV (eC (.int 60)) (rNil)))) (aCons (eOp dAdd (eC (.int 1)) (eCallD m__law_draw (rO 0 (rV (eCallD m__law_some (rO 0 (rV (eLst (aCons (eC (.int 3)) (aCons (eC (.int 12)) (aCons (eC (.int 50)) (aNil))))) (rNil)))) (rNil))))) (aNil))))
def st2_law_are_rests_right : Env' → So := sAsg (tTupl 2 (tsCons (tName 8) (tsCons (tName 9) (tsNil)))) (eTup (aCons (eCallD m__law_draw (rO 0 (rV (eC (.int 200)) (rNil)))) (aCons (eCallD m__law_draw (rO 0 (rV (eVar 7) (rNil)))) (aNil))))
def st3_law_are_rests_right : Env' → So := sSet 1 (eOp dAdd (eVar 9) (eCallD m__law_draw (rO 0 (rV (eOp dSub (eVar 7) (eVar 9)) (rNil)))))
def st4_law_are_rests_right : Env' → So := sSetO 2 (lc1__law_are_rests_right)
def st5_law_are_rests_right : Env' → So := sSet 3 (eLst (aCons (eLenV 2) (aCons (eIf (qCmp bNe (eVar 2) (eLst (aNil))) (eIxV 2 (eC (.int 0))) (eC .non)) (aNil))))
def st6_law_are_rests_right : Env' → So := sIf (qNot (qTru (eCallD (m__law_is 8) (rV (eLst (aCons (eCallD m_many_rests (rV (eVar 6) (rV (eVar 8) (rV (eVar 7) (rV (eVar 9) (rV (eVar 1) (rNil))))))) (aCons (eCallD m_first_rest (rV (eVar 6) (rV (eVar 8) (rV (eVar 7) (rV (eVar 9) (rV (eVar 1) (rNil))))))) (aNil)))) (rV (eVar 3) (rNil)))))) (sRet (eC (.bl false))) (sNil)
def st7_law_are_rests_right : Env' → So := sSet 4 (eOp dAdd (eC (.int 1)) (eCallD m__law_draw (rO 0 (rV (eOp dPow (eC (.int 10)) (eC (.int 9))) (rNil)))))
def st8_law_are_rests_right : Env' → So := sSet 5 (eCall oLen (aCons (lc2__law_are_rests_right) aNil))
def st9_law_are_rests_right : Env' → So := sRet (eCallD (m__law_is 8) (rV (eCallD m_many_rests (rV (eOp dMul (eVar 7) (eVar 4)) (rV (eVar 8) (rV (eVar 7) (rV (eVar 9) (rV (eVar 1) (rNil))))))) (rV (eOp dMul (eVar 5) (eVar 4)) (rNil))))
theorem ch_law_are_rests_right : b__law_are_rests_right = sSeq st1_law_are_rests_right (sSeq st2_law_are_rests_right (sSeq st3_law_are_rests_right (sSeq st4_law_are_rests_right (sSeq st5_law_are_rests_right (sSeq st6_law_are_rests_right (sSeq st7_law_are_rests_right (sSeq st8_law_are_rests_right (st9_law_are_rests_right)))))))) := rfl
theorem Rn_add (A B : Nat) (s w lo hi : Int) : Rn (A + B) s w lo hi = Rn A s w lo hi + sm B fun k => if lo ≤ s * ((A + k : Nat) : Int) % w ∧ s * ((A + k : Nat) : Int) % w ≤ hi then 1 else 0 := by
  unfold Rn
  exact sm_split A B
theorem Rn_per (s lo hi : Int) (wn : Nat) : ∀ r : Nat, Rn (wn * r) s wn lo hi = Rn wn s wn lo hi * r
  | 0 => by simp [Rn, sm]
  | r + 1 => by
    rw [Nat.mul_succ, Rn_add, Rn_per s lo hi wn r]
    have : (sm wn fun k => if lo ≤ s * ((wn * r + k : Nat) : Int) % (wn : Int) ∧ s * ((wn * r + k : Nat) : Int) % (wn : Int) ≤ hi then (1 : Int) else 0) = Rn wn s wn lo hi := by
      unfold Rn
      refine sm_congr fun k _ => ?_
      have e : s * ((wn * r + k : Nat) : Int) % (wn : Int) = s * (k : Int) % (wn : Int) := by
        have : s * ((wn * r + k : Nat) : Int) = s * (k : Int) + (s * (r : Int)) * (wn : Int) := by
          rw [Int.natCast_add, Int.natCast_mul]
          grind
        rw [this, Int.add_mul_emod_self_right]
      rw [e]
    rw [this]
    have : ((r + 1 : Nat) : Int) = (r : Int) + 1 := by omega
    rw [this, Int.mul_add, Int.mul_one]
theorem okL_ints (n : Nat) : ∀ l : List Nat, okL n (l.map fun k : Nat => D.int (k : Int)) = true
  | [] => rfl
  | k :: l => by
    rw [List.map_cons, okL, okL_ints n l]
    rfl
theorem ne_emp (l : List Nat) : bNe (.lst (l.map fun k : Nat => D.int (k : Int))) (.lst []) = some (!l.isEmpty) := by
  have o : okD 60 (.lst (l.map fun k : Nat => D.int (k : Int))) = true := by rw [okD]; exact okL_ints 59 l
  have o2 : okD 60 (.lst []) = true := rfl
  unfold bNe
  rw [o, o2]
  cases l with
  | nil => rfl
  | cons k l => rfl
theorem fm_good (s w lo hi : Int) : ∀ l : List Nat, (l.map fun k : Nat => D.int (k : Int)).filterMap (fun d => match d with | .int k => if lo ≤ s * k % w ∧ s * k % w ≤ hi then some (D.int k) else none | _ => none) = (l.filter (isR s w lo hi)).map fun k : Nat => D.int (k : Int)
  | [] => rfl
  | k :: l => by
    by_cases c : lo ≤ s * (k : Int) % w ∧ s * (k : Int) % w ≤ hi
    · rw [List.map_cons, List.filterMap_cons, List.filter_cons_of_pos (by simp [isR, c]), List.map_cons, ← fm_good s w lo hi l]
      simp [c]
    · rw [List.map_cons, List.filterMap_cons, List.filter_cons_of_neg (by simpa [isR] using c), ← fm_good s w lo hi l]
      simp [c]
theorem rng_is (n : Nat) : rng 0 n = (List.range n).map fun k : Nat => D.int (k : Int) := by
  rw [rng_nl, nl, List.map_map]
  refine List.map_congr_left fun i _ => ?_
  simp
section
variable {s w lo hi : Int} {n : Nat} {s0 s2 s3 s4 s5 s6 : Slot}
theorem turn_q {j : Nat} (hs : s.natAbs ≤ 1000) (hj : j ≤ 1000) (hw : 0 < w) : qChain bLe bLe (eVar 9) (eOp dMod (eCall oInt (aCons (eOp dMul (eVar 8) (eVar 10)) aNil)) (eVar 7)) (eVar 1) [s0, .v (.int hi), s2, s3, s4, s5, s6, .v (.int w), .v (.int s), .v (.int lo), .v (.int (j : Int))] = .ok (decide (lo ≤ s * (j : Int) % w ∧ s * (j : Int) % w ≤ hi)) [s0, .v (.int hi), s2, s3, s4, s5, s6, .v (.int w), .v (.int s), .v (.int lo), .v (.int (j : Int))] := by
  have m := m13 (i := s) (j := (j : Int)) (by omega) (by omega)
  have r : dMod (.int (s * (j : Int))) (.int w) = some (.int (s * (j : Int) % w)) := mod_ii hw
  have oi : ∀ i : Int, oInt [.int i] = some (.int i) := fun _ => rfl
  generalize s * (j : Int) = z at *
  generalize z % w = y at *
  by_cases c : lo ≤ y
  · by_cases e : y ≤ hi
    · simp [runM, runF, sSeq, sIf, sRet, sRetF, sSet, sSetO, sSetIx, sAsg, sPar, sNil, sDrop, sRetO, sMut1, oApp, ofRo, Ro.bind, lift, eVar, eC, eOp, eCmp, qCmp, qAnd, qOr, qNot, qTru, eAnd, eOr, eNot, eIf, eNeg, eChain, qChain, eIxV, slotD, dIx, dIxS, isDic, atI, ixN, eCall, aCons, aNil, eTup, eLst, oLen, eLenV, lenD, oInt, eq_ii, lt_ii, gt_ii, ge_ii, le_ii, add_ii, sub_ii, outR, outOk, outs, ownS, isNo, isLstS, List.replicate, eCallD, callM, okAr, arS, putO, rV, rO, rNil, tName, tTupl, tsCons, tsNil, eLc, lcL, iSeq, seqD, qYes, noOwn, isOwn, wipeE, backE, sl24, m, r, oi, c, e]
    · simp [runM, runF, sSeq, sIf, sRet, sRetF, sSet, sSetO, sSetIx, sAsg, sPar, sNil, sDrop, sRetO, sMut1, oApp, ofRo, Ro.bind, lift, eVar, eC, eOp, eCmp, qCmp, qAnd, qOr, qNot, qTru, eAnd, eOr, eNot, eIf, eNeg, eChain, qChain, eIxV, slotD, dIx, dIxS, isDic, atI, ixN, eCall, aCons, aNil, eTup, eLst, oLen, eLenV, lenD, oInt, eq_ii, lt_ii, gt_ii, ge_ii, le_ii, add_ii, sub_ii, outR, outOk, outs, ownS, isNo, isLstS, List.replicate, eCallD, callM, okAr, arS, putO, rV, rO, rNil, tName, tTupl, tsCons, tsNil, eLc, lcL, iSeq, seqD, qYes, noOwn, isOwn, wipeE, backE, sl24, m, r, oi, c, e]
  · simp [runM, runF, sSeq, sIf, sRet, sRetF, sSet, sSetO, sSetIx, sAsg, sPar, sNil, sDrop, sRetO, sMut1, oApp, ofRo, Ro.bind, lift, eVar, eC, eOp, eCmp, qCmp, qAnd, qOr, qNot, qTru, eAnd, eOr, eNot, eIf, eNeg, eChain, qChain, eIxV, slotD, dIx, dIxS, isDic, atI, ixN, eCall, aCons, aNil, eTup, eLst, oLen, eLenV, lenD, oInt, eq_ii, lt_ii, gt_ii, ge_ii, le_ii, add_ii, sub_ii, outR, outOk, outs, ownS, isNo, isLstS, List.replicate, eCallD, callM, okAr, arS, putO, rV, rO, rNil, tName, tTupl, tsCons, tsNil, eLc, lcL, iSeq, seqD, qYes, noOwn, isOwn, wipeE, backE, sl24, m, r, oi, c]
theorem good_lc {it : Env' → Ro (List D)} (hs : s.natAbs ≤ 1000) (hn : n ≤ 1000) (hw : 0 < w) (hi2 : it [s0, .v (.int hi), s2, s3, s4, s5, s6, .v (.int w), .v (.int s), .v (.int lo), .no] = .ok (rng 0 n) [s0, .v (.int hi), s2, s3, s4, s5, s6, .v (.int w), .v (.int s), .v (.int lo), .no]) : eLc [10] it (tName 10) (qChain bLe bLe (eVar 9) (eOp dMod (eCall oInt (aCons (eOp dMul (eVar 8) (eVar 10)) aNil)) (eVar 7)) (eVar 1)) (eVar 10) [s0, .v (.int hi), s2, s3, s4, s5, s6, .v (.int w), .v (.int s), .v (.int lo), .no] = .ok (.lst ((good n s w lo hi).map fun k : Nat => D.int (k : Int))) [s0, .v (.int hi), s2, s3, s4, s5, s6, .v (.int w), .v (.int s), .v (.int lo), .no] := by
  have kk := eLc_map (vs := [10]) (t := tName 10) (q := qChain bLe bLe (eVar 9) (eOp dMod (eCall oInt (aCons (eOp dMul (eVar 8) (eVar 10)) aNil)) (eVar 7)) (eVar 1)) (f := eVar 10) (E1 := [s0, .v (.int hi), s2, s3, s4, s5, s6, .v (.int w), .v (.int s), .v (.int lo), .no]) (fun d => match d with | .int k => if lo ≤ s * k % w ∧ s * k % w ≤ hi then some (D.int k) else none | _ => none) hi2 rfl (by rw [rng_len]; omega) rfl rfl (by
    intro d hd
    obtain ⟨j, hj0⟩ := List.mem_iff_getElem?.mp hd
    obtain ⟨rfl, hj⟩ := rng_get hj0
    rw [Int.zero_add]
    have q := turn_q (s0 := s0) (s2 := s2) (s3 := s3) (s4 := s4) (s5 := s5) (s6 := s6) (lo := lo) (hi := hi) hs (show j ≤ 1000 by omega) hw
    refine ⟨[s0, .v (.int hi), s2, s3, s4, s5, s6, .v (.int w), .v (.int s), .v (.int lo), .v (.int (j : Int))], rfl, ?_⟩
    by_cases c : lo ≤ s * (j : Int) % w ∧ s * (j : Int) % w ≤ hi
    · rw [decide_eq_true c] at q
      exact .inr ⟨.int (j : Int), _, _, by simp [c], q, rfl, rfl, rfl⟩
    · rw [decide_eq_false c] at q
      exact .inl ⟨by simp [c], _, q, rfl, rfl⟩)
  rw [kk, rng_is, fm_good]
  rfl
end
end K35

namespace K35
open PySem L2 LamX Rf
theorem rests_right {k : Nat} {d : D} (hT : Tape2 k d) (hk : k ≤ 10000) : ∃ tp, m__law_are_rests_right [.o d] = .ok (.bl true) [.o tp] ∧ Tape2 (k + 7) tp := by
  obtain ⟨n0, t1, q1, n1, n2, T1⟩ := s_draw (m := 60) hT (by omega) (by decide) (by decide)
  obtain ⟨x, t2, hx, q2, T2⟩ := s_some (xs := [.int 3, .int 12, .int 50]) T1 (by omega) (by simp) (by simp)
  have hg : ∃ g : Int, x = .int g ∧ 0 < g ∧ g ≤ 50 := by
    simp at hx
    rcases hx with rfl | rfl | rfl <;> exact ⟨_, rfl, by omega, by omega⟩
  obtain ⟨g, rfl, g0, g1⟩ := hg
  obtain ⟨w0, t3, q3, w1, w2, T3⟩ := s_draw (m := g) T2 (by omega) (by omega) (by omega)
  obtain ⟨s, t4, q4, s1, s2, T4⟩ := s_draw (m := 200) T3 (by omega) (by decide) (by decide)
  obtain ⟨lo, t5, q5, l1, l2, T5⟩ := s_draw (m := 1 + w0) T4 (by omega) (by omega) (by omega)
  obtain ⟨h0, t6, q6, h1, h2, T6⟩ := s_draw (m := 1 + w0 - lo) T5 (by omega) (by omega) (by omega)
  obtain ⟨r0, t7, q7, r1, r2, T7⟩ := s_draw (m := 1000000000) T6 (by omega) (by decide) (by decide)
  obtain ⟨n, rfl⟩ : ∃ n : Nat, n0 = (n : Int) := ⟨n0.toNat, by omega⟩
  refine ⟨t7, ?_, T7⟩
  have c1 : st1_law_are_rests_right [.o d, .no, .no, .no, .no, .no, .no, .no, .no, .no, .no] = .nx [.o t3, .no, .no, .no, .no, .no, .v (.int (n : Int)), .v (.int (1 + w0)), .no, .no, .no] := by
    simp [st1_law_are_rests_right, runM, runF, sSeq, sIf, sRet, sRetF, sSet, sSetO, sSetIx, sAsg, sPar, sNil, sDrop, sRetO, sMut1, oApp, ofRo, Ro.bind, lift, eVar, eC, eOp, eCmp, qCmp, qAnd, qOr, qNot, qTru, eAnd, eOr, eNot, eIf, eNeg, eChain, qChain, eIxV, slotD, dIx, dIxS, isDic, atI, ixN, eCall, aCons, aNil, eTup, eLst, oLen, eLenV, lenD, oInt, eq_ii, lt_ii, gt_ii, ge_ii, le_ii, add_ii, sub_ii, outR, outOk, outs, ownS, isNo, isLstS, List.replicate, eCallD, callM, okAr, arS, putO, rV, rO, rNil, tName, tTupl, tsCons, tsNil, eLc, lcL, iSeq, seqD, qYes, noOwn, isOwn, wipeE, backE, sl24, q1, q2, q3]
  have hw : 0 < 1 + w0 := by omega
  have hw2 : 1 + w0 ≤ 50 := by omega
  generalize 1 + w0 = w at *
  have c2 : st2_law_are_rests_right [.o t3, .no, .no, .no, .no, .no, .v (.int (n : Int)), .v (.int w), .no, .no, .no] = .nx [.o t5, .no, .no, .no, .no, .no, .v (.int (n : Int)), .v (.int w), .v (.int s), .v (.int lo), .no] := by
    simp [st2_law_are_rests_right, runM, runF, sSeq, sIf, sRet, sRetF, sSet, sSetO, sSetIx, sAsg, sPar, sNil, sDrop, sRetO, sMut1, oApp, ofRo, Ro.bind, lift, eVar, eC, eOp, eCmp, qCmp, qAnd, qOr, qNot, qTru, eAnd, eOr, eNot, eIf, eNeg, eChain, qChain, eIxV, slotD, dIx, dIxS, isDic, atI, ixN, eCall, aCons, aNil, eTup, eLst, oLen, eLenV, lenD, oInt, eq_ii, lt_ii, gt_ii, ge_ii, le_ii, add_ii, sub_ii, outR, outOk, outs, ownS, isNo, isLstS, List.replicate, eCallD, callM, okAr, arS, putO, rV, rO, rNil, tName, tTupl, tsCons, tsNil, eLc, lcL, iSeq, seqD, qYes, noOwn, isOwn, wipeE, backE, sl24, q4, q5]
  have c3 : st3_law_are_rests_right [.o t5, .no, .no, .no, .no, .no, .v (.int (n : Int)), .v (.int w), .v (.int s), .v (.int lo), .no] = .nx [.o t6, .v (.int (lo + h0)), .no, .no, .no, .no, .v (.int (n : Int)), .v (.int w), .v (.int s), .v (.int lo), .no] := by
    simp [st3_law_are_rests_right, runM, runF, sSeq, sIf, sRet, sRetF, sSet, sSetO, sSetIx, sAsg, sPar, sNil, sDrop, sRetO, sMut1, oApp, ofRo, Ro.bind, lift, eVar, eC, eOp, eCmp, qCmp, qAnd, qOr, qNot, qTru, eAnd, eOr, eNot, eIf, eNeg, eChain, qChain, eIxV, slotD, dIx, dIxS, isDic, atI, ixN, eCall, aCons, aNil, eTup, eLst, oLen, eLenV, lenD, oInt, eq_ii, lt_ii, gt_ii, ge_ii, le_ii, add_ii, sub_ii, outR, outOk, outs, ownS, isNo, isLstS, List.replicate, eCallD, callM, okAr, arS, putO, rV, rO, rNil, tName, tTupl, tsCons, tsNil, eLc, lcL, iSeq, seqD, qYes, noOwn, isOwn, wipeE, backE, sl24, q6]
  have hh1 : lo ≤ lo + h0 := by omega
  have hh2 : lo + h0 < w := by omega
  generalize lo + h0 = hi at *
  obtain ⟨wn, rfl⟩ : ∃ wn : Nat, w = (wn : Int) := ⟨w.toNat, by omega⟩
  have lc : lc1__law_are_rests_right [.o t6, .v (.int hi), .no, .no, .no, .no, .v (.int (n : Int)), .v (.int (wn : Int)), .v (.int s), .v (.int lo), .no] = .ok (.lst ((good n s wn lo hi).map fun k : Nat => D.int (k : Int))) [.o t6, .v (.int hi), .no, .no, .no, .no, .v (.int (n : Int)), .v (.int (wn : Int)), .v (.int s), .v (.int lo), .no] :=
    good_lc (by omega) (by omega) hw (iR1_nat (n := n) rfl (by omega))
  have c4 : st4_law_are_rests_right [.o t6, .v (.int hi), .no, .no, .no, .no, .v (.int (n : Int)), .v (.int (wn : Int)), .v (.int s), .v (.int lo), .no] = .nx [.o t6, .v (.int hi), .o (.lst ((good n s wn lo hi).map fun k : Nat => D.int (k : Int))), .no, .no, .no, .v (.int (n : Int)), .v (.int (wn : Int)), .v (.int s), .v (.int lo), .no] := by
    generalize (good n s wn lo hi).map (fun k : Nat => D.int (k : Int)) = L at *
    generalize (n : Int) = N at *
    generalize (wn : Int) = W at *
    simp [st4_law_are_rests_right, runM, runF, sSeq, sIf, sRet, sRetF, sSet, sSetO, sSetIx, sAsg, sPar, sNil, sDrop, sRetO, sMut1, oApp, ofRo, Ro.bind, lift, eVar, eC, eOp, eCmp, qCmp, qAnd, qOr, qNot, qTru, eAnd, eOr, eNot, eIf, eNeg, eChain, qChain, eIxV, slotD, dIx, dIxS, isDic, atI, ixN, eCall, aCons, aNil, eTup, eLst, oLen, eLenV, lenD, oInt, eq_ii, lt_ii, gt_ii, ge_ii, le_ii, add_ii, sub_ii, outR, outOk, outs, ownS, isNo, isLstS, List.replicate, eCallD, callM, okAr, arS, putO, rV, rO, rNil, tName, tTupl, tsCons, tsNil, eLc, lcL, iSeq, seqD, qYes, noOwn, isOwn, wipeE, backE, sl24, lc]
  have ln : (((good n s wn lo hi).map fun k : Nat => D.int (k : Int)).length : Int) = Rn n s wn lo hi := by rw [List.length_map, Rn_len]
  have emp := ne_emp (good n s wn lo hi)
  have c5 : st5_law_are_rests_right [.o t6, .v (.int hi), .o (.lst ((good n s wn lo hi).map fun k : Nat => D.int (k : Int))), .no, .no, .no, .v (.int (n : Int)), .v (.int (wn : Int)), .v (.int s), .v (.int lo), .no] = .nx [.o t6, .v (.int hi), .v (.lst ((good n s wn lo hi).map fun k : Nat => D.int (k : Int))), .v (.lst [.int (Rn n s wn lo hi), fstR n s wn lo hi]), .no, .no, .v (.int (n : Int)), .v (.int (wn : Int)), .v (.int s), .v (.int lo), .no] := by
    unfold fstR
    generalize good n s wn lo hi = gl at *
    generalize Rn n s wn lo hi = R at *
    generalize (n : Int) = N at *
    generalize (wn : Int) = W at *
    cases gl with
    | nil =>
      have e2 : bNe (.lst []) (.lst []) = some false := by kernel_rfl
      simp at ln
      simp [st5_law_are_rests_right, runM, runF, sSeq, sIf, sRet, sRetF, sSet, sSetO, sSetIx, sAsg, sPar, sNil, sDrop, sRetO, sMut1, oApp, ofRo, Ro.bind, lift, eVar, eC, eOp, eCmp, qCmp, qAnd, qOr, qNot, qTru, eAnd, eOr, eNot, eIf, eNeg, eChain, qChain, eIxV, slotD, dIx, dIxS, isDic, atI, ixN, eCall, aCons, aNil, eTup, eLst, oLen, eLenV, lenD, oInt, eq_ii, lt_ii, gt_ii, ge_ii, le_ii, add_ii, sub_ii, outR, outOk, outs, ownS, isNo, isLstS, List.replicate, eCallD, callM, okAr, arS, putO, rV, rO, rNil, tName, tTupl, tsCons, tsNil, eLc, lcL, iSeq, seqD, qYes, noOwn, isOwn, wipeE, backE, sl24, e2, ← ln]
    | cons m r =>
      have e2 : bNe (.lst (.int (m : Int) :: r.map fun k : Nat => D.int (k : Int))) (.lst []) = some true := emp
      have i0 : ∀ (a : D) (l : List D), dIx (.lst (a :: l)) (.int 0) = some a := fun _ _ => by simp [dIx, dIxS, isDic, atI, ixN]
      rw [List.map_cons] at ln ⊢
      generalize r.map (fun k : Nat => D.int (k : Int)) = rl at *
      have ln' : ((rl.length + 1 : Nat) : Int) = R := ln
      have ln'' : (rl.length : Int) + 1 = R := by omega
      simp [st5_law_are_rests_right, runM, runF, sSeq, sIf, sRet, sRetF, sSet, sSetO, sSetIx, sAsg, sPar, sNil, sDrop, sRetO, sMut1, oApp, ofRo, Ro.bind, lift, eVar, eC, eOp, eCmp, qCmp, qAnd, qOr, qNot, qTru, eAnd, eOr, eNot, eIf, eNeg, eChain, qChain, eIxV, slotD, eCall, aCons, aNil, eTup, eLst, oLen, eLenV, lenD, oInt, eq_ii, lt_ii, gt_ii, ge_ii, le_ii, add_ii, sub_ii, outR, outOk, outs, ownS, isNo, isLstS, List.replicate, eCallD, callM, okAr, arS, putO, rV, rO, rNil, tName, tTupl, tsCons, tsNil, eLc, lcL, iSeq, seqD, qYes, noOwn, isOwn, wipeE, backE, sl24, e2, i0, ln'']
  have f1 := s_many_rests (n := n) (s := s) (w := wn) (lo := lo) (hi := hi) ⟨by omega, by omega, by decide, hw, by omega⟩ l1 hh1 hh2
  have f2 := s_first_rest (n := n) (s := s) (w := wn) (lo := lo) (hi := hi) ⟨by omega, by omega, by decide, hw, by omega⟩ l1 hh1 hh2
  have lf : m__law_is 7 [.v (fstR n s wn lo hi), .v (fstR n s wn lo hi)] = .ok (.bl true) [.no, .no] := by
    unfold fstR
    split
    · exact li_nn 6
    · exact li_eq 6 _
  have l3 : m__law_is 8 [.v (.lst [.int (Rn n s wn lo hi), fstR n s wn lo hi]), .v (.lst [.int (Rn n s wn lo hi), fstR n s wn lo hi])] = .ok (.bl true) [.no, .no] := li_two 6 (li_eq 6 _) lf
  have c6 : st6_law_are_rests_right [.o t6, .v (.int hi), .v (.lst ((good n s wn lo hi).map fun k : Nat => D.int (k : Int))), .v (.lst [.int (Rn n s wn lo hi), fstR n s wn lo hi]), .no, .no, .v (.int (n : Int)), .v (.int (wn : Int)), .v (.int s), .v (.int lo), .no] = .nx [.o t6, .v (.int hi), .v (.lst ((good n s wn lo hi).map fun k : Nat => D.int (k : Int))), .v (.lst [.int (Rn n s wn lo hi), fstR n s wn lo hi]), .no, .no, .v (.int (n : Int)), .v (.int (wn : Int)), .v (.int s), .v (.int lo), .no] := by
    unfold st6_law_are_rests_right
    generalize m__law_is 8 = M at *
    generalize (good n s wn lo hi).map (fun k : Nat => D.int (k : Int)) = L at *
    generalize fstR n s wn lo hi = F at *
    generalize Rn n s wn lo hi = R at *
    generalize (n : Int) = N at *
    generalize (wn : Int) = W at *
    simp [runM, runF, sSeq, sIf, sRet, sRetF, sSet, sSetO, sSetIx, sAsg, sPar, sNil, sDrop, sRetO, sMut1, oApp, ofRo, Ro.bind, lift, eVar, eC, eOp, eCmp, qCmp, qAnd, qOr, qNot, qTru, eAnd, eOr, eNot, eIf, eNeg, eChain, qChain, eIxV, slotD, dIx, dIxS, isDic, atI, ixN, eCall, aCons, aNil, eTup, eLst, oLen, eLenV, lenD, oInt, eq_ii, lt_ii, gt_ii, ge_ii, le_ii, add_ii, sub_ii, outR, outOk, outs, ownS, isNo, isLstS, List.replicate, eCallD, callM, okAr, arS, putO, rV, rO, rNil, tName, tTupl, tsCons, tsNil, eLc, lcL, iSeq, seqD, qYes, noOwn, isOwn, wipeE, backE, sl24, f1, f2, l3, truD]
  generalize fstR n s wn lo hi = F at *
  generalize (good n s wn lo hi).map (fun k : Nat => D.int (k : Int)) = L at *
  have ten9' : dPow (.int 10) (.int 9) = some (.int 1000000000) := by kernel_rfl
  obtain ⟨rn, hrn⟩ : ∃ rn : Nat, 1 + r0 = (rn : Int) := ⟨(1 + r0).toNat, by omega⟩
  have c7 : st7_law_are_rests_right [.o t6, .v (.int hi), .v (.lst L), .v (.lst [.int (Rn n s wn lo hi), F]), .no, .no, .v (.int (n : Int)), .v (.int (wn : Int)), .v (.int s), .v (.int lo), .no] = .nx [.o t7, .v (.int hi), .v (.lst L), .v (.lst [.int (Rn n s wn lo hi), F]), .v (.int (rn : Int)), .no, .v (.int (n : Int)), .v (.int (wn : Int)), .v (.int s), .v (.int lo), .no] := by
    rw [← hrn]
    simp [st7_law_are_rests_right, runM, runF, sSeq, sIf, sRet, sRetF, sSet, sSetO, sSetIx, sAsg, sPar, sNil, sDrop, sRetO, sMut1, oApp, ofRo, Ro.bind, lift, eVar, eC, eOp, eCmp, qCmp, qAnd, qOr, qNot, qTru, eAnd, eOr, eNot, eIf, eNeg, eChain, qChain, eIxV, slotD, dIx, dIxS, isDic, atI, ixN, eCall, aCons, aNil, eTup, eLst, oLen, eLenV, lenD, oInt, eq_ii, lt_ii, gt_ii, ge_ii, le_ii, add_ii, sub_ii, outR, outOk, outs, ownS, isNo, isLstS, List.replicate, eCallD, callM, okAr, arS, putO, rV, rO, rNil, tName, tTupl, tsCons, tsNil, eLc, lcL, iSeq, seqD, qYes, noOwn, isOwn, wipeE, backE, sl24, ten9', q7]
  have lc2 : lc2__law_are_rests_right [.o t7, .v (.int hi), .v (.lst L), .v (.lst [.int (Rn n s wn lo hi), F]), .v (.int (rn : Int)), .no, .v (.int (n : Int)), .v (.int (wn : Int)), .v (.int s), .v (.int lo), .no] = .ok (.lst ((good wn s wn lo hi).map fun k : Nat => D.int (k : Int))) [.o t7, .v (.int hi), .v (.lst L), .v (.lst [.int (Rn n s wn lo hi), F]), .v (.int (rn : Int)), .no, .v (.int (n : Int)), .v (.int (wn : Int)), .v (.int s), .v (.int lo), .no] :=
    good_lc (by omega) (by omega) hw (iR1_nat (n := wn) rfl (by omega))
  have ln2 : (((good wn s wn lo hi).map fun k : Nat => D.int (k : Int)).length : Int) = Rn wn s wn lo hi := by rw [List.length_map, Rn_len]
  have c8 : st8_law_are_rests_right [.o t7, .v (.int hi), .v (.lst L), .v (.lst [.int (Rn n s wn lo hi), F]), .v (.int (rn : Int)), .no, .v (.int (n : Int)), .v (.int (wn : Int)), .v (.int s), .v (.int lo), .no] = .nx [.o t7, .v (.int hi), .v (.lst L), .v (.lst [.int (Rn n s wn lo hi), F]), .v (.int (rn : Int)), .v (.int (Rn wn s wn lo hi)), .v (.int (n : Int)), .v (.int (wn : Int)), .v (.int s), .v (.int lo), .no] := by
    generalize (good wn s wn lo hi).map (fun k : Nat => D.int (k : Int)) = L2 at *
    generalize Rn wn s wn lo hi = R2 at *
    generalize Rn n s wn lo hi = R at *
    generalize (n : Int) = N at *
    generalize (wn : Int) = W at *
    simp [st8_law_are_rests_right, runM, runF, sSeq, sIf, sRet, sRetF, sSet, sSetO, sSetIx, sAsg, sPar, sNil, sDrop, sRetO, sMut1, oApp, ofRo, Ro.bind, lift, eVar, eC, eOp, eCmp, qCmp, qAnd, qOr, qNot, qTru, eAnd, eOr, eNot, eIf, eNeg, eChain, qChain, eIxV, slotD, dIx, dIxS, isDic, atI, ixN, eCall, aCons, aNil, eTup, eLst, oLen, eLenV, lenD, oInt, eq_ii, lt_ii, gt_ii, ge_ii, le_ii, add_ii, sub_ii, outR, outOk, outs, ownS, isNo, isLstS, List.replicate, eCallD, callM, okAr, arS, putO, rV, rO, rNil, tName, tTupl, tsCons, tsNil, eLc, lcL, iSeq, seqD, qYes, noOwn, isOwn, wipeE, backE, sl24, lc2, ln2]
  have wr : wn * rn ≤ 50 * 1000000000 := Nat.mul_le_mul (by omega) (by omega)
  have f3 := s_many_rests (n := wn * rn) (s := s) (w := wn) (lo := lo) (hi := hi) ⟨by omega, by omega, by decide, hw, by omega⟩ l1 hh1 hh2
  rw [Rn_per] at f3
  have m1 := m13 (i := (wn : Int)) (j := (rn : Int)) (by omega) (by omega)
  rw [← Int.natCast_mul] at m1
  have rb : Rn wn s wn lo hi ≤ 50 := by
    rw [Rn_len]
    have : (good wn s wn lo hi).length ≤ wn := by
      have := List.length_filter_le (isR s wn lo hi) (List.range wn)
      rw [List.length_range] at this
      exact this
    omega
  have rb0 : 0 ≤ Rn wn s wn lo hi := by rw [Rn_len]; omega
  have m2 := m13 (i := Rn wn s wn lo hi) (j := (rn : Int)) (by omega) (by omega)
  have l4 : m__law_is 8 [.v (.int (Rn wn s wn lo hi * rn)), .v (.int (Rn wn s wn lo hi * rn))] = .ok (.bl true) [.no, .no] := li_eq 7 _
  have c9 : st9_law_are_rests_right [.o t7, .v (.int hi), .v (.lst L), .v (.lst [.int (Rn n s wn lo hi), F]), .v (.int (rn : Int)), .v (.int (Rn wn s wn lo hi)), .v (.int (n : Int)), .v (.int (wn : Int)), .v (.int s), .v (.int lo), .no] = .ret (.bl true) [.o t7, .v (.int hi), .v (.lst L), .v (.lst [.int (Rn n s wn lo hi), F]), .v (.int (rn : Int)), .v (.int (Rn wn s wn lo hi)), .v (.int (n : Int)), .v (.int (wn : Int)), .v (.int s), .v (.int lo), .no] := by
    unfold st9_law_are_rests_right
    generalize m__law_is 8 = M at *
    generalize Rn wn s wn lo hi * (rn : Int) = Z at *
    generalize Rn wn s wn lo hi = R2 at *
    generalize Rn n s wn lo hi = R at *
    generalize ((wn * rn : Nat) : Int) = K at *
    generalize (n : Int) = N at *
    generalize (wn : Int) = W at *
    generalize (rn : Int) = Q at *
    simp [runM, runF, sSeq, sIf, sRet, sRetF, sSet, sSetO, sSetIx, sAsg, sPar, sNil, sDrop, sRetO, sMut1, oApp, ofRo, Ro.bind, lift, eVar, eC, eOp, eCmp, qCmp, qAnd, qOr, qNot, qTru, eAnd, eOr, eNot, eIf, eNeg, eChain, qChain, eIxV, slotD, dIx, dIxS, isDic, atI, ixN, eCall, aCons, aNil, eTup, eLst, oLen, eLenV, lenD, oInt, eq_ii, lt_ii, gt_ii, ge_ii, le_ii, add_ii, sub_ii, outR, outOk, outs, ownS, isNo, isLstS, List.replicate, eCallD, callM, okAr, arS, putO, rV, rO, rNil, tName, tTupl, tsCons, tsNil, eLc, lcL, iSeq, seqD, qYes, noOwn, isOwn, wipeE, backE, sl24, m1, f3, m2, l4]
  have hb := (congrFun ch_law_are_rests_right [.o d, .no, .no, .no, .no, .no, .no, .no, .no, .no, .no]).trans ((seq_nx c1).trans ((seq_nx c2).trans ((seq_nx c3).trans ((seq_nx c4).trans ((seq_nx c5).trans ((seq_nx c6).trans ((seq_nx c7).trans ((seq_nx c8).trans c9))))))))
  exact runM_ret hb rfl rfl rfl rfl
end K35

namespace K35
open PySem L2 LamX Rf
def st1_law_refused_right : Env' → So := sSet 1 (eCallD m__law_some (rO 0 (rV (eLst (aCons (eTup (aCons (eNeg (eC (.int 1))) (aCons (eC (.int 1)) (aCons (eC (.int 1)) (aCons (eC (.int 2)) (aNil)))))) (aCons (eTup (aCons (eC (.int 5)) (aCons (eC (.int 1)) (aCons (eC (.int 1)) (aCons (eC (.int 0)) (aNil)))))) (aCons (eTup (aCons (eC (.int 5)) (aCons (eOp dAdd (eOp dPow (eC (.int 10)) (eC (.int 12))) (eC (.int 1))) (aCons (eC (.int 0)) (aCons (eC (.int 2)) (aNil)))))) (aCons (eTup (aCons (eC (.int 5)) (aCons (eC (.int 1)) (aCons (eC .non) (aCons (eC (.int 2)) (aNil)))))) (aCons (eTup (aCons (eC (.bl true)) (aCons (eC (.int 1)) (aCons (eC (.int 1)) (aCons (eC (.int 2)) (aNil)))))) (aCons (eTup (aCons (eC (.str "5")) (aCons (eC (.int 1)) (aCons (eC (.int 1)) (aCons (eC (.int 2)) (aNil)))))) (aNil)))))))) (rNil))))
def st2_law_refused_right : Env' → So := sSetO 2 (eLst (aCons (eLam (runG 4 g__law_word) (eCallD m_floor_sum (rV (eIxV 1 (eC (.int 0))) (rV (eIxV 1 (eC (.int 1))) (rV (eIxV 1 (eC (.int 2))) (rV (eIxV 1 (eC (.int 3))) (rNil))))))) (aNil)))
def st3_law_refused_right : Env' → So := sSet 3 (eCallD m__law_some (rO 0 (rV (eLst (aCons (eTup (aCons (eC (.int 5)) (aCons (eNeg (eC (.int 1))) (aCons (eC (.int 1)) (aCons (eC (.int 2)) (aNil)))))) (aCons (eTup (aCons (eC (.int 5)) (aCons (eC (.int 1)) (aCons (eNeg (eC (.int 1))) (aCons (eC (.int 2)) (aNil)))))) (aCons (eTup (aCons (eC (.int 5)) (aCons (eC (.int 1)) (aCons (eC (.int 1)) (aCons (eC (.int 0)) (aNil)))))) (aCons (eTup (aCons (eNeg (eC (.int 1))) (aCons (eC (.int 1)) (aCons (eC (.int 1)) (aCons (eC (.int 2)) (aNil)))))) (aNil)))))) (rNil))))
def st4_law_refused_right : Env' → So := sMut1 2 oApp (eLam (runG 4 g__law_word) (eCallD m_below_line (rV (eIxV 3 (eC (.int 0))) (rV (eIxV 3 (eC (.int 1))) (rV (eIxV 3 (eC (.int 2))) (rV (eIxV 3 (eC (.int 3))) (rNil)))))))
def st5_law_refused_right : Env' → So := sSet 4 (eCallD m__law_some (rO 0 (rV (eLst (aCons (eTup (aCons (eC (.int 5)) (aCons (eC (.int 1)) (aCons (eC (.int 3)) (aCons (eC (.int 2)) (aCons (eC (.int 1)) (aNil))))))) (aCons (eTup (aCons (eC (.int 5)) (aCons (eC (.int 1)) (aCons (eC (.int 3)) (aCons (eC (.int 0)) (aCons (eC (.int 3)) (aNil))))))) (aCons (eTup (aCons (eC (.int 5)) (aCons (eC (.int 1)) (aCons (eC (.int 3)) (aCons (eNeg (eC (.int 1))) (aCons (eC (.int 2)) (aNil))))))) (aCons (eTup (aCons (eC (.int 5)) (aCons (eC (.int 1)) (aCons (eC (.int 0)) (aCons (eC (.int 0)) (aCons (eC (.int 0)) (aNil))))))) (aCons (eTup (aCons (eNeg (eC (.int 1))) (aCons (eC (.int 1)) (aCons (eC (.int 3)) (aCons (eC (.int 0)) (aCons (eC (.int 1)) (aNil))))))) (aNil))))))) (rNil))))
def st6_law_refused_right : Env' → So := sMut1 2 oApp (eLam (runG 4 g__law_word) (eCallD m_many_rests (rV (eIxV 4 (eC (.int 0))) (rV (eIxV 4 (eC (.int 1))) (rV (eIxV 4 (eC (.int 2))) (rV (eIxV 4 (eC (.int 3))) (rV (eIxV 4 (eC (.int 4))) (rNil))))))))
def st7_law_refused_right : Env' → So := sMut1 2 oApp (eLam (runG 4 g__law_word) (eCallD m_first_rest (rV (eIxV 4 (eC (.int 0))) (rV (eIxV 4 (eC (.int 1))) (rV (eIxV 4 (eC (.int 2))) (rV (eIxV 4 (eC (.int 3))) (rV (eIxV 4 (eC (.int 4))) (rNil))))))))
def st8_law_refused_right : Env' → So := sSet 5 (eCallD m__law_some (rO 0 (rV (eLst (aCons (eTup (aCons (eC (.int 0)) (aCons (eC (.int 1)) (aCons (eC (.int 5)) (aNil))))) (aCons (eTup (aCons (eC (.int 1)) (aCons (eC (.int 0)) (aCons (eC (.int 5)) (aNil))))) (aCons (eTup (aCons (eC (.int 1)) (aCons (eC (.int 1)) (aCons (eNeg (eC (.int 1))) (aNil))))) (aCons (eTup (aCons (eC (.int 1)) (aCons (eC .non) (aCons (eC (.int 5)) (aNil))))) (aCons (eTup (aCons (eOp dAdd (eOp dPow (eC (.int 10)) (eC (.int 9))) (eC (.int 1))) (aCons (eC (.int 1)) (aCons (eC (.int 5)) (aNil))))) (aCons (eTup (aCons (eC (.int 1)) (aCons (eC (.int 1)) (aCons (eOp dAdd (eOp dPow (eC (.int 10)) (eC (.int 12))) (eC (.int 1))) (aNil))))) (aCons (eTup (aCons (eC (.bl true)) (aCons (eC (.int 1)) (aCons (eC (.int 5)) (aNil))))) (aNil))))))))) (rNil))))
def st9_law_refused_right : Env' → So := sMut1 2 oApp (eLam (runG 4 g__law_word) (eCallD m_in_triangle (rV (eIxV 5 (eC (.int 0))) (rV (eIxV 5 (eC (.int 1))) (rV (eIxV 5 (eC (.int 2))) (rNil))))))
def st10_law_refused_right : Env' → So := sRet (eCmp bEq (eVar 2) (eOp dAddL (eOp dMul (eLst (aCons (eC (.str "line")) (aNil))) (eC (.int 4))) (eLst (aCons (eC (.str "number")) (aNil)))))
theorem ch_law_refused_right : b__law_refused_right = sSeq st1_law_refused_right (sSeq st2_law_refused_right (sSeq st3_law_refused_right (sSeq st4_law_refused_right (sSeq st5_law_refused_right (sSeq st6_law_refused_right (sSeq st7_law_refused_right (sSeq st8_law_refused_right (sSeq st9_law_refused_right (st10_law_refused_right))))))))) := rfl
abbrev wl : D := .str "line"
abbrev wn' : D := .str "number"
def t4 (a b c d : D) : D := .tup [a, b, c, d]
def t5 (a b c d e : Int) : D := .tup [.int a, .int b, .int c, .int d, .int e]
def bads : List D := [t4 (.int (-1)) (.int 1) (.int 1) (.int 2), t4 (.int 5) (.int 1) (.int 1) (.int 0), t4 (.int 5) (.int 1000000000001) (.int 0) (.int 2), t4 (.int 5) (.int 1) .non (.int 2), t4 (.bl true) (.int 1) (.int 1) (.int 2), t4 (.str "5") (.int 1) (.int 1) (.int 2)]
def odds : List D := [t4 (.int 5) (.int (-1)) (.int 1) (.int 2), t4 (.int 5) (.int 1) (.int (-1)) (.int 2), t4 (.int 5) (.int 1) (.int 1) (.int 0), t4 (.int (-1)) (.int 1) (.int 1) (.int 2)]
def nons : List D := [t5 5 1 3 2 1, t5 5 1 3 0 3, t5 5 1 3 (-1) 2, t5 5 1 0 0 0, t5 (-1) 1 3 0 1]
def fars : List D := [.tup [.int 0, .int 1, .int 5], .tup [.int 1, .int 0, .int 5], .tup [.int 1, .int 1, .int (-1)], .tup [.int 1, .non, .int 5], .tup [.int 1000000001, .int 1, .int 5], .tup [.int 1, .int 1, .int 1000000000001], .tup [.bl true, .int 1, .int 5]]
theorem u2 (t : D) : bads.map (fun x => st2_law_refused_right [.o t, .v x, .no, .no, .no, .no]) = bads.map fun x => .nx [.o t, .v x, .o (.lst [wl]), .no, .no, .no] := by kernel_rfl
theorem u4 (t x : D) : odds.map (fun y => st4_law_refused_right [.o t, .v x, .o (.lst [wl]), .v y, .no, .no]) = odds.map fun y => .nx [.o t, .v x, .o (.lst [wl, wl]), .v y, .no, .no] := by kernel_rfl
theorem u6 (t x y : D) : nons.map (fun z => st6_law_refused_right [.o t, .v x, .o (.lst [wl, wl]), .v y, .v z, .no]) = nons.map fun z => .nx [.o t, .v x, .o (.lst [wl, wl, wl]), .v y, .v z, .no] := by kernel_rfl
theorem u7 (t x y : D) : nons.map (fun z => st7_law_refused_right [.o t, .v x, .o (.lst [wl, wl, wl]), .v y, .v z, .no]) = nons.map fun z => .nx [.o t, .v x, .o (.lst [wl, wl, wl, wl]), .v y, .v z, .no] := by kernel_rfl
theorem u9 (t x y z : D) : fars.map (fun f => st9_law_refused_right [.o t, .v x, .o (.lst [wl, wl, wl, wl]), .v y, .v z, .v f]) = fars.map fun f => .nx [.o t, .v x, .o (.lst [wl, wl, wl, wl, wn']), .v y, .v z, .v f] := by kernel_rfl
theorem u10 (t x y z f : D) : st10_law_refused_right [.o t, .v x, .o (.lst [wl, wl, wl, wl, wn']), .v y, .v z, .v f] = .ret (.bl true) [.o t, .v x, .v (.lst [wl, wl, wl, wl, wn']), .v y, .v z, .v f] := by kernel_rfl
theorem refused {k : Nat} {d : D} (hT : Tape2 k d) (hk : k ≤ 10000) : ∃ tp, m__law_refused_right [.o d] = .ok (.bl true) [.o tp] ∧ Tape2 (k + 4) tp := by
  have e12 : dPow (.int 10) (.int 12) = some (.int 1000000000000) := by kernel_rfl
  have e9 : dPow (.int 10) (.int 9) = some (.int 1000000000) := by kernel_rfl
  obtain ⟨x, t1, hx, q1, T1⟩ := s_some (xs := bads) hT (by omega) (by decide) (by decide)
  obtain ⟨y, t2, hy, q2, T2⟩ := s_some (xs := odds) T1 (by omega) (by decide) (by decide)
  obtain ⟨z, t3, hz, q3, T3⟩ := s_some (xs := nons) T2 (by omega) (by decide) (by decide)
  obtain ⟨f, t4', hf, q4, T4⟩ := s_some (xs := fars) T3 (by omega) (by decide) (by decide)
  refine ⟨t4', ?_, T4⟩
  have g1 : st1_law_refused_right [.o d, .no, .no, .no, .no, .no] = .nx [.o t1, .v x, .no, .no, .no, .no] := by
    simp only [bads, K35.t4] at q1
    simp [st1_law_refused_right, runM, runF, sSeq, sIf, sRet, sRetF, sSet, sSetO, sSetIx, sAsg, sPar, sNil, sDrop, sRetO, sMut1, oApp, ofRo, Ro.bind, lift, eVar, eC, eOp, eCmp, qCmp, qAnd, qOr, qNot, qTru, eAnd, eOr, eNot, eIf, eNeg, eChain, qChain, eIxV, slotD, dIx, dIxS, isDic, atI, ixN, eCall, aCons, aNil, eTup, eLst, oLen, eLenV, lenD, oInt, eq_ii, lt_ii, gt_ii, ge_ii, le_ii, add_ii, sub_ii, outR, outOk, outs, ownS, isNo, isLstS, List.replicate, eCallD, callM, okAr, arS, putO, rV, rO, rNil, tName, tTupl, tsCons, tsNil, eLc, lcL, iSeq, seqD, qYes, noOwn, isOwn, wipeE, backE, sl24, e12, q1]
  have g3 : st3_law_refused_right [.o t1, .v x, .o (.lst [wl]), .no, .no, .no] = .nx [.o t2, .v x, .o (.lst [wl]), .v y, .no, .no] := by
    simp only [odds, K35.t4] at q2
    simp [st3_law_refused_right, runM, runF, sSeq, sIf, sRet, sRetF, sSet, sSetO, sSetIx, sAsg, sPar, sNil, sDrop, sRetO, sMut1, oApp, ofRo, Ro.bind, lift, eVar, eC, eOp, eCmp, qCmp, qAnd, qOr, qNot, qTru, eAnd, eOr, eNot, eIf, eNeg, eChain, qChain, eIxV, slotD, dIx, dIxS, isDic, atI, ixN, eCall, aCons, aNil, eTup, eLst, oLen, eLenV, lenD, oInt, eq_ii, lt_ii, gt_ii, ge_ii, le_ii, add_ii, sub_ii, outR, outOk, outs, ownS, isNo, isLstS, List.replicate, eCallD, callM, okAr, arS, putO, rV, rO, rNil, tName, tTupl, tsCons, tsNil, eLc, lcL, iSeq, seqD, qYes, noOwn, isOwn, wipeE, backE, sl24, q2]
  have g5 : st5_law_refused_right [.o t2, .v x, .o (.lst [wl, wl]), .v y, .no, .no] = .nx [.o t3, .v x, .o (.lst [wl, wl]), .v y, .v z, .no] := by
    simp only [nons, K35.t5] at q3
    simp [st5_law_refused_right, runM, runF, sSeq, sIf, sRet, sRetF, sSet, sSetO, sSetIx, sAsg, sPar, sNil, sDrop, sRetO, sMut1, oApp, ofRo, Ro.bind, lift, eVar, eC, eOp, eCmp, qCmp, qAnd, qOr, qNot, qTru, eAnd, eOr, eNot, eIf, eNeg, eChain, qChain, eIxV, slotD, dIx, dIxS, isDic, atI, ixN, eCall, aCons, aNil, eTup, eLst, oLen, eLenV, lenD, oInt, eq_ii, lt_ii, gt_ii, ge_ii, le_ii, add_ii, sub_ii, outR, outOk, outs, ownS, isNo, isLstS, List.replicate, eCallD, callM, okAr, arS, putO, rV, rO, rNil, tName, tTupl, tsCons, tsNil, eLc, lcL, iSeq, seqD, qYes, noOwn, isOwn, wipeE, backE, sl24, q3]
  have g8 : st8_law_refused_right [.o t3, .v x, .o (.lst [wl, wl, wl, wl]), .v y, .v z, .no] = .nx [.o t4', .v x, .o (.lst [wl, wl, wl, wl]), .v y, .v z, .v f] := by
    simp only [fars] at q4
    simp [st8_law_refused_right, runM, runF, sSeq, sIf, sRet, sRetF, sSet, sSetO, sSetIx, sAsg, sPar, sNil, sDrop, sRetO, sMut1, oApp, ofRo, Ro.bind, lift, eVar, eC, eOp, eCmp, qCmp, qAnd, qOr, qNot, qTru, eAnd, eOr, eNot, eIf, eNeg, eChain, qChain, eIxV, slotD, dIx, dIxS, isDic, atI, ixN, eCall, aCons, aNil, eTup, eLst, oLen, eLenV, lenD, oInt, eq_ii, lt_ii, gt_ii, ge_ii, le_ii, add_ii, sub_ii, outR, outOk, outs, ownS, isNo, isLstS, List.replicate, eCallD, callM, okAr, arS, putO, rV, rO, rNil, tName, tTupl, tsCons, tsNil, eLc, lcL, iSeq, seqD, qYes, noOwn, isOwn, wipeE, backE, sl24, e12, e9, q4]
  have h := (congrFun ch_law_refused_right [.o d, .no, .no, .no, .no, .no]).trans ((seq_nx g1).trans ((seq_nx (List.map_inj_left.mp (u2 t1) x hx)).trans ((seq_nx g3).trans ((seq_nx (List.map_inj_left.mp (u4 t2 x) y hy)).trans ((seq_nx g5).trans ((seq_nx (List.map_inj_left.mp (u6 t3 x y) z hz)).trans ((seq_nx (List.map_inj_left.mp (u7 t3 x y) z hz)).trans ((seq_nx g8).trans ((seq_nx (List.map_inj_left.mp (u9 t4' x y z) f hf)).trans (u10 t4' x y z f))))))))))
  exact runM_ret h rfl rfl rfl rfl
end K35

namespace K35
open PySem L2 LamX Rf
def st1_law : Env' → So := sSetO 1 (eCallD m__law_hand (rV (eVar 0) (rNil)))
def st2_law : Env' → So := sSet 2 (eLst (aCons (eCallD m_floor_sum (rV (eC (.int 5)) (rV (eC (.int 3)) (rV (eC (.int 1)) (rV (eC (.int 4)) (rNil)))))) (aCons (eCallD m_many_rests (rV (eC (.int 10)) (rV (eC (.int 3)) (rV (eC (.int 10)) (rV (eC (.int 0)) (rV (eC (.int 2)) (rNil))))))) (aCons (eCallD m_first_rest (rV (eC (.int 10)) (rV (eC (.int 3)) (rV (eC (.int 10)) (rV (eC (.int 1)) (rV (eC (.int 1)) (rNil))))))) (aCons (eCallD m_in_triangle (rV (eC (.int 2)) (rV (eC (.int 3)) (rV (eC (.int 6)) (rNil))))) (aNil))))))
def st3_law : Env' → So := sIf (qNot (qTru (eCallD (m__law_is 8) (rV (eVar 2) (rV (eLst (aCons (eC (.int 7)) (aCons (eC (.int 3)) (aCons (eC (.int 7)) (aCons (eC (.int 7)) (aNil)))))) (rNil)))))) (sRet (eC (.bl false))) (sNil)
def st4_law : Env' → So := sFor (iR1 (eC (.int 4))) (tName 3) (lb1_law)
def st5_law : Env' → So := sRet (eC (.bl true))
theorem ch_law : b_law = sSeq st1_law (sSeq st2_law (sSeq st3_law (sSeq st4_law (st5_law)))) := rfl
def st1_lb1_law : Env' → So := sIf (qNot (qTru (eCallD m__law_is_line_right (rO 1 (rNil))))) (sRet (eC (.bl false))) (sNil)
def st2_lb1_law : Env' → So := sIf (qNot (qTru (eCallD m__law_are_rests_right (rO 1 (rNil))))) (sRet (eC (.bl false))) (sNil)
def st3_lb1_law : Env' → So := sIf (qNot (qTru (eCallD m__law_is_triangle_right (rO 1 (rNil))))) (sRet (eC (.bl false))) (sNil)
def st4_lb1_law : Env' → So := sIf (qNot (qTru (eCallD m__law_refused_right (rO 1 (rNil))))) (sRet (eC (.bl false))) (sNil)
theorem ch_lb1_law : lb1_law = sSeq st1_lb1_law (sSeq st2_lb1_law (sSeq st3_lb1_law (st4_lb1_law))) := rfl
theorem body_ok {n : Nat} {d z : D} {x2 x3 : Slot} (hT : Tape2 n d) (hn : n ≤ 1000) : ∃ tp, lb1_law [.v z, .o d, x2, x3] = .nx [.v z, .o tp, x2, x3] ∧ Tape2 (n + 24) tp := by
  obtain ⟨t1, q1, T1⟩ := line_right hT (by omega)
  obtain ⟨t2, q2, T2⟩ := rests_right T1 (by omega)
  obtain ⟨t3, q3, T3⟩ := tri_right T2 (by omega)
  obtain ⟨t4, q4, T4⟩ := refused T3 (by omega)
  refine ⟨t4, ?_, T4⟩
  simp [lb1_law, runM, runF, sSeq, sIf, sRet, sRetF, sSet, sSetO, sSetIx, sAsg, sPar, sNil, sDrop, sRetO, sMut1, oApp, ofRo, Ro.bind, lift, eVar, eC, eOp, eCmp, qCmp, qAnd, qOr, qNot, qTru, eAnd, eOr, eNot, eIf, eNeg, eChain, qChain, eIxV, slotD, dIx, dIxS, isDic, atI, ixN, eCall, aCons, aNil, eTup, eLst, oLen, eLenV, lenD, oInt, eq_ii, lt_ii, gt_ii, ge_ii, le_ii, add_ii, sub_ii, outR, outOk, outs, ownS, isNo, isLstS, List.replicate, eCallD, callM, okAr, arS, putO, rV, rO, rNil, tName, tTupl, tsCons, tsNil, eLc, lcL, iSeq, seqD, qYes, noOwn, isOwn, wipeE, backE, sl24, q1, q2, q3, q4, truD]
theorem loop_ok : ∀ (r : Nat) (lo : Int) {n : Nat} {d z : D} {x2 x3 : Slot}, Tape2 n d → n + 24 * r ≤ 1000 → ∃ tp x3', forL (tName 3) lb1_law (rng lo r) [.v z, .o d, x2, x3] = .nx [.v z, .o tp, x2, x3']
  | 0, lo, n, d, z, x2, x3, h, _ => ⟨d, x3, rfl⟩
  | r + 1, lo, n, d, z, x2, x3, h, hn => by
    obtain ⟨tp, e, T⟩ := body_ok (z := z) (x2 := x2) (x3 := .v (.int lo)) h (by omega)
    obtain ⟨tp2, a, e2⟩ := loop_ok r (lo + 1) (z := z) (x2 := x2) (x3 := .v (.int lo)) T (by omega)
    refine ⟨tp2, a, ?_⟩
    have s : tName 3 (.int lo) [.v z, .o d, x2, x3] = some [.v z, .o d, x2, .v (.int lo)] := rfl
    rw [rng_succ, ← e2]
    simp only [forL, s, e]
def preAll : Env' → So := sSeq st2_law st3_law
def nxg : So → Nat → Slot
  | .nx e, i => e.getD i .no
  | _, _ => .no
theorem pre_ok (z t : D) : preAll [.v z, .o t, .no, .no] = .nx [.v z, .o t, nxg (preAll [.v z, .o t, .no, .no]) 2, nxg (preAll [.v z, .o t, .no, .no]) 3] := by kernel_rfl
theorem plain (ns : List Int) (hl : ns.length ≤ 63) (hb : ∀ z ∈ ns, PySem.Builtin.Int.intBits z ≤ 1048576) : ∃ os, m_law [.v (.scr ns)] = .ok (.bl true) os := by
  obtain ⟨t, q, T⟩ := hand_ok (s0 := 727) (s1 := 120) true false (by decide) (by decide) ns hl hb
  have q' : m__law_hand [.v (.scr ns)] = .ok t [.no] := q
  have p := pre_ok (.scr ns) t
  generalize nxg (preAll [.v (.scr ns), .o t, .no, .no]) 2 = x2 at p
  generalize nxg (preAll [.v (.scr ns), .o t, .no, .no]) 3 = x3 at p
  obtain ⟨tp, y3, e⟩ := loop_ok 4 0 (z := .scr ns) (x2 := x2) (x3 := x3) T (by decide)
  have c1 : st1_law [.v (.scr ns), .no, .no, .no] = .nx [.v (.scr ns), .o t, .no, .no] := by simp [st1_law, runM, runF, sSeq, sIf, sRet, sRetF, sSet, sSetO, sSetIx, sAsg, sPar, sNil, sDrop, sRetO, sMut1, oApp, ofRo, Ro.bind, lift, eVar, eC, eOp, eCmp, qCmp, qAnd, qOr, qNot, qTru, eAnd, eOr, eNot, eIf, eNeg, eChain, qChain, eIxV, slotD, dIx, dIxS, isDic, atI, ixN, eCall, aCons, aNil, eTup, eLst, oLen, eLenV, lenD, oInt, eq_ii, lt_ii, gt_ii, ge_ii, le_ii, add_ii, sub_ii, outR, outOk, outs, ownS, isNo, isLstS, List.replicate, eCallD, callM, okAr, arS, putO, rV, rO, rNil, tName, tTupl, tsCons, tsNil, eLc, lcL, iSeq, seqD, qYes, noOwn, isOwn, wipeE, backE, sl24, q']
  have c4 : st4_law [.v (.scr ns), .o t, x2, x3] = .nx [.v (.scr ns), .o tp, x2, y3] := (sFor_nat (f := eC (.int 4)) (n := 4) rfl (by decide)).trans e
  have h5 : st5_law [.v (.scr ns), .o tp, x2, y3] = .ret (.bl true) [.v (.scr ns), .o tp, x2, y3] := rfl
  have hp : ∀ g : Env' → So, sSeq st2_law (sSeq st3_law g) = sSeq preAll g := fun g => by
    unfold preAll
    rw [seq_assoc]
  have h1 : b_law [.v (.scr ns), .no, .no, .no] = .ret (.bl true) [.v (.scr ns), .o tp, x2, y3] := by
    rw [ch_law, seq_nx c1, hp, seq_nx p, seq_nx c4, h5]
  exact ⟨[.no], runM_ret h1 rfl rfl rfl rfl⟩
end K35

namespace K35
open PySem L2 LamX Rf
open PyProof.Rows hiding St
theorem it_NoNumber : InitT (inClass (tp 5) 0) ["self"] [] := ⟨⟨_, _, _, _, _, _, _, _, _, rfl, rfl, rfl, by decide +kernel, by decide +kernel, rfl, rfl, rfl, rfl, rfl, fun _ _ _ _ _ => ⟨⟨_, rfl⟩, rfl, rfl⟩, fun _ _ _ _ _ _ _ _ us hl => match us, hl with | [_], _ => rfl⟩⟩
theorem it_NoLine : InitT (inClass (tp 6) 0) ["self"] [] := ⟨⟨_, _, _, _, _, _, _, _, _, rfl, rfl, rfl, by decide +kernel, by decide +kernel, rfl, rfl, rfl, rfl, rfl, fun _ _ _ _ _ => ⟨⟨_, rfl⟩, rfl, rfl⟩, fun _ _ _ _ _ _ _ _ us hl => match us, hl with | [_], _ => rfl⟩⟩
theorem mk {K : PySem.W.Frag} {w : World} {h : Heap} {mg : Str → Option Value} {fa : Addr} (X : K.In h) (G : h.Ns mainGlobals mg) (hfa : mg "law" = some (.ref fa))
    {f_is_integer : Addr} {od_is_integer an_is_integer : Option Addr} {sl_is_integer : Array (Option Value)} {oc_is_integer kV_is_integer dc_is_integer pm_is_integer ct_is_integer : Value}
    {cd_is_integer : Value}
    {f_is_within : Addr} {od_is_within an_is_within : Option Addr} {sl_is_within : Array (Option Value)} {oc_is_within kV_is_within dc_is_within pm_is_within ct_is_within : Value}
    {cd_is_within : Value}
    {f_floor_total : Addr} {od_floor_total an_floor_total : Option Addr} {sl_floor_total : Array (Option Value)} {oc_floor_total kV_floor_total dc_floor_total pm_floor_total ct_floor_total : Value}
    {cd_floor_total : Value}
    {f_check_line : Addr} {od_check_line an_check_line : Option Addr} {sl_check_line : Array (Option Value)} {oc_check_line kV_check_line dc_check_line pm_check_line ct_check_line : Value}
    {cd_check_line : Value}
    {f_floor_sum : Addr} {od_floor_sum an_floor_sum : Option Addr} {sl_floor_sum : Array (Option Value)} {oc_floor_sum kV_floor_sum dc_floor_sum pm_floor_sum ct_floor_sum : Value}
    {cd_floor_sum : Value}
    {f_below_line : Addr} {od_below_line an_below_line : Option Addr} {sl_below_line : Array (Option Value)} {oc_below_line kV_below_line dc_below_line pm_below_line ct_below_line : Value}
    {cd_below_line : Value}
    {f_first_rest : Addr} {od_first_rest an_first_rest : Option Addr} {sl_first_rest : Array (Option Value)} {oc_first_rest kV_first_rest dc_first_rest pm_first_rest ct_first_rest : Value}
    {cd_first_rest : Value}
    {f_rests_between : Addr} {od_rests_between an_rests_between : Option Addr} {sl_rests_between : Array (Option Value)} {oc_rests_between kV_rests_between dc_rests_between pm_rests_between ct_rests_between : Value}
    {cd_rests_between : Value}
    {f_many_rests : Addr} {od_many_rests an_many_rests : Option Addr} {sl_many_rests : Array (Option Value)} {oc_many_rests kV_many_rests dc_many_rests pm_many_rests ct_many_rests : Value}
    {cd_many_rests : Value}
    {f_in_triangle : Addr} {od_in_triangle an_in_triangle : Option Addr} {sl_in_triangle : Array (Option Value)} {oc_in_triangle kV_in_triangle dc_in_triangle pm_in_triangle ct_in_triangle : Value}
    {cd_in_triangle : Value}
    {f__law_hand : Addr} {od__law_hand an__law_hand : Option Addr} {sl__law_hand : Array (Option Value)} {oc__law_hand kV__law_hand dc__law_hand pm__law_hand ct__law_hand : Value}
    {cd__law_hand : Value}
    {f__law_draw : Addr} {od__law_draw an__law_draw : Option Addr} {sl__law_draw : Array (Option Value)} {oc__law_draw kV__law_draw dc__law_draw pm__law_draw ct__law_draw : Value}
    {cd__law_draw : Value}
    {f__law_some : Addr} {od__law_some an__law_some : Option Addr} {sl__law_some : Array (Option Value)} {oc__law_some kV__law_some dc__law_some pm__law_some ct__law_some : Value}
    {cd__law_some : Value}
    {f__law_is : Addr} {od__law_is an__law_is : Option Addr} {sl__law_is : Array (Option Value)} {oc__law_is kV__law_is dc__law_is pm__law_is ct__law_is : Value}
    {cd__law_is : Value}
    {f__law_word : Addr} {od__law_word an__law_word : Option Addr} {sl__law_word : Array (Option Value)} {oc__law_word kV__law_word dc__law_word pm__law_word ct__law_word : Value}
    {cd__law_word : Value}
    {f__law_floors : Addr} {od__law_floors an__law_floors : Option Addr} {sl__law_floors : Array (Option Value)} {oc__law_floors kV__law_floors dc__law_floors pm__law_floors ct__law_floors : Value}
    {cd__law_floors : Value}
    {f__law_is_line_right : Addr} {od__law_is_line_right an__law_is_line_right : Option Addr} {sl__law_is_line_right : Array (Option Value)} {oc__law_is_line_right kV__law_is_line_right dc__law_is_line_right pm__law_is_line_right ct__law_is_line_right : Value}
    {cd__law_is_line_right : Value}
    {f__law_are_rests_right : Addr} {od__law_are_rests_right an__law_are_rests_right : Option Addr} {sl__law_are_rests_right : Array (Option Value)} {oc__law_are_rests_right kV__law_are_rests_right dc__law_are_rests_right pm__law_are_rests_right ct__law_are_rests_right : Value}
    {cd__law_are_rests_right : Value}
    {f__law_is_triangle_right : Addr} {od__law_is_triangle_right an__law_is_triangle_right : Option Addr} {sl__law_is_triangle_right : Array (Option Value)} {oc__law_is_triangle_right kV__law_is_triangle_right dc__law_is_triangle_right pm__law_is_triangle_right ct__law_is_triangle_right : Value}
    {cd__law_is_triangle_right : Value}
    {f__law_refused_right : Addr} {od__law_refused_right an__law_refused_right : Option Addr} {sl__law_refused_right : Array (Option Value)} {oc__law_refused_right kV__law_refused_right dc__law_refused_right pm__law_refused_right ct__law_refused_right : Value}
    {cA__law_refused_right P__law_refused_right : Addr} {ccl__law_refused_right : Value} {cdd__law_refused_right : Option Addr} {vs__law_refused_right : Array Value} {ccs__law_refused_right : Array (Option Value)}
    {f_law : Addr} {od_law an_law : Option Addr} {sl_law : Array (Option Value)} {oc_law kV_law dc_law pm_law ct_law : Value}
    {cd_law : Value}
    {C_GridError : Addr}
    {C_NoNumber I_NoNumber : Addr} {nm_NoNumber q_NoNumber : Str} {N_NoNumber : Addr} {bs_NoNumber bm_NoNumber : List Value} {sn_NoNumber : List Str} {sub_NoNumber : List Value} {ab_NoNumber : Bool} {col_NoNumber : Option Bool} {dd_NoNumber : Option Addr} {k0_NoNumber k1_NoNumber k2_NoNumber k3_NoNumber k5_NoNumber : Option Value}
    {ikV_NoNumber idc_NoNumber ipm_NoNumber ict_NoNumber ioc_NoNumber : Value} {ian_NoNumber iod_NoNumber : Option Addr} {isl_NoNumber : Array (Option Value)} {icc_NoNumber icd_NoNumber : Addr} {iccl_NoNumber : Value} {icdd_NoNumber : Option Addr} {ivs_NoNumber : Array Value} {iccs_NoNumber : Array (Option Value)} {ifl_NoNumber : Str} {itf_NoNumber : Tok} {icl_NoNumber : Value} {icld_NoNumber : Option Addr} {icsl_NoNumber : Array (Option Value)}
    {C_NoLine I_NoLine : Addr} {nm_NoLine q_NoLine : Str} {N_NoLine : Addr} {bs_NoLine bm_NoLine : List Value} {sn_NoLine : List Str} {sub_NoLine : List Value} {ab_NoLine : Bool} {col_NoLine : Option Bool} {dd_NoLine : Option Addr} {k0_NoLine k1_NoLine k2_NoLine k3_NoLine k5_NoLine : Option Value}
    {ikV_NoLine idc_NoLine ipm_NoLine ict_NoLine ioc_NoLine : Value} {ian_NoLine iod_NoLine : Option Addr} {isl_NoLine : Array (Option Value)} {icc_NoLine icd_NoLine : Addr} {iccl_NoLine : Value} {icdd_NoLine : Option Addr} {ivs_NoLine : Array Value} {iccs_NoLine : Array (Option Value)} {ifl_NoLine : Str} {itf_NoLine : Tok} {icl_NoLine : Value} {icld_NoLine : Option Addr} {icsl_NoLine : Array (Option Value)}
    (a_is_integer : PySem.W.nsIn K mainGlobals "is_integer" = some (some (.ref f_is_integer)))
    (l_is_integer : K.lookup f_is_integer = some ⟨oc_is_integer, od_is_integer, .func (PySem.W.fnOf "is_integer" "is_integer" (defArgs (tp 1)) (defBody (tp 1)) (defScope (tp 1)) .none kV_is_integer dc_is_integer pm_is_integer an_is_integer cd_is_integer ct_is_integer), sl_is_integer⟩)
    (c_is_integer : PySem.W.codeIn K cd_is_integer "is_integer" = true)
    (k_is_integer : PySem.W.keepIn K (.ref f_is_integer) = true)
    (a_is_within : PySem.W.nsIn K mainGlobals "is_within" = some (some (.ref f_is_within)))
    (l_is_within : K.lookup f_is_within = some ⟨oc_is_within, od_is_within, .func (PySem.W.fnOf "is_within" "is_within" (defArgs (tp 2)) (defBody (tp 2)) (defScope (tp 2)) .none kV_is_within dc_is_within pm_is_within an_is_within cd_is_within ct_is_within), sl_is_within⟩)
    (c_is_within : PySem.W.codeIn K cd_is_within "is_within" = true)
    (k_is_within : PySem.W.keepIn K (.ref f_is_within) = true)
    (a_floor_total : PySem.W.nsIn K mainGlobals "floor_total" = some (some (.ref f_floor_total)))
    (l_floor_total : K.lookup f_floor_total = some ⟨oc_floor_total, od_floor_total, .func (PySem.W.fnOf "floor_total" "floor_total" (defArgs (tp 8)) (defBody (tp 8)) (defScope (tp 8)) .none kV_floor_total dc_floor_total pm_floor_total an_floor_total cd_floor_total ct_floor_total), sl_floor_total⟩)
    (c_floor_total : PySem.W.codeIn K cd_floor_total "floor_total" = true)
    (k_floor_total : PySem.W.keepIn K (.ref f_floor_total) = true)
    (a_check_line : PySem.W.nsIn K mainGlobals "check_line" = some (some (.ref f_check_line)))
    (l_check_line : K.lookup f_check_line = some ⟨oc_check_line, od_check_line, .func (PySem.W.fnOf "check_line" "check_line" (defArgs (tp 9)) (defBody (tp 9)) (defScope (tp 9)) .none kV_check_line dc_check_line pm_check_line an_check_line cd_check_line ct_check_line), sl_check_line⟩)
    (c_check_line : PySem.W.codeIn K cd_check_line "check_line" = true)
    (k_check_line : PySem.W.keepIn K (.ref f_check_line) = true)
    (a_floor_sum : PySem.W.nsIn K mainGlobals "floor_sum" = some (some (.ref f_floor_sum)))
    (l_floor_sum : K.lookup f_floor_sum = some ⟨oc_floor_sum, od_floor_sum, .func (PySem.W.fnOf "floor_sum" "floor_sum" (defArgs (tp 10)) (defBody (tp 10)) (defScope (tp 10)) .none kV_floor_sum dc_floor_sum pm_floor_sum an_floor_sum cd_floor_sum ct_floor_sum), sl_floor_sum⟩)
    (c_floor_sum : PySem.W.codeIn K cd_floor_sum "floor_sum" = true)
    (k_floor_sum : PySem.W.keepIn K (.ref f_floor_sum) = true)
    (a_below_line : PySem.W.nsIn K mainGlobals "below_line" = some (some (.ref f_below_line)))
    (l_below_line : K.lookup f_below_line = some ⟨oc_below_line, od_below_line, .func (PySem.W.fnOf "below_line" "below_line" (defArgs (tp 11)) (defBody (tp 11)) (defScope (tp 11)) .none kV_below_line dc_below_line pm_below_line an_below_line cd_below_line ct_below_line), sl_below_line⟩)
    (c_below_line : PySem.W.codeIn K cd_below_line "below_line" = true)
    (k_below_line : PySem.W.keepIn K (.ref f_below_line) = true)
    (a_first_rest : PySem.W.nsIn K mainGlobals "first_rest" = some (some (.ref f_first_rest)))
    (l_first_rest : K.lookup f_first_rest = some ⟨oc_first_rest, od_first_rest, .func (PySem.W.fnOf "first_rest" "first_rest" (defArgs (tp 12)) (defBody (tp 12)) (defScope (tp 12)) .none kV_first_rest dc_first_rest pm_first_rest an_first_rest cd_first_rest ct_first_rest), sl_first_rest⟩)
    (c_first_rest : PySem.W.codeIn K cd_first_rest "first_rest" = true)
    (k_first_rest : PySem.W.keepIn K (.ref f_first_rest) = true)
    (a_rests_between : PySem.W.nsIn K mainGlobals "rests_between" = some (some (.ref f_rests_between)))
    (l_rests_between : K.lookup f_rests_between = some ⟨oc_rests_between, od_rests_between, .func (PySem.W.fnOf "rests_between" "rests_between" (defArgs (tp 13)) (defBody (tp 13)) (defScope (tp 13)) .none kV_rests_between dc_rests_between pm_rests_between an_rests_between cd_rests_between ct_rests_between), sl_rests_between⟩)
    (c_rests_between : PySem.W.codeIn K cd_rests_between "rests_between" = true)
    (k_rests_between : PySem.W.keepIn K (.ref f_rests_between) = true)
    (a_many_rests : PySem.W.nsIn K mainGlobals "many_rests" = some (some (.ref f_many_rests)))
    (l_many_rests : K.lookup f_many_rests = some ⟨oc_many_rests, od_many_rests, .func (PySem.W.fnOf "many_rests" "many_rests" (defArgs (tp 14)) (defBody (tp 14)) (defScope (tp 14)) .none kV_many_rests dc_many_rests pm_many_rests an_many_rests cd_many_rests ct_many_rests), sl_many_rests⟩)
    (c_many_rests : PySem.W.codeIn K cd_many_rests "many_rests" = true)
    (k_many_rests : PySem.W.keepIn K (.ref f_many_rests) = true)
    (a_in_triangle : PySem.W.nsIn K mainGlobals "in_triangle" = some (some (.ref f_in_triangle)))
    (l_in_triangle : K.lookup f_in_triangle = some ⟨oc_in_triangle, od_in_triangle, .func (PySem.W.fnOf "in_triangle" "in_triangle" (defArgs (tp 15)) (defBody (tp 15)) (defScope (tp 15)) .none kV_in_triangle dc_in_triangle pm_in_triangle an_in_triangle cd_in_triangle ct_in_triangle), sl_in_triangle⟩)
    (c_in_triangle : PySem.W.codeIn K cd_in_triangle "in_triangle" = true)
    (k_in_triangle : PySem.W.keepIn K (.ref f_in_triangle) = true)
    (a__law_hand : PySem.W.nsIn K mainGlobals "_law_hand" = some (some (.ref f__law_hand)))
    (l__law_hand : K.lookup f__law_hand = some ⟨oc__law_hand, od__law_hand, .func (PySem.W.fnOf "_law_hand" "_law_hand" (defArgs (tp 17)) (defBody (tp 17)) (defScope (tp 17)) .none kV__law_hand dc__law_hand pm__law_hand an__law_hand cd__law_hand ct__law_hand), sl__law_hand⟩)
    (c__law_hand : PySem.W.codeIn K cd__law_hand "_law_hand" = true)
    (k__law_hand : PySem.W.keepIn K (.ref f__law_hand) = true)
    (a__law_draw : PySem.W.nsIn K mainGlobals "_law_draw" = some (some (.ref f__law_draw)))
    (l__law_draw : K.lookup f__law_draw = some ⟨oc__law_draw, od__law_draw, .func (PySem.W.fnOf "_law_draw" "_law_draw" (defArgs (tp 18)) (defBody (tp 18)) (defScope (tp 18)) .none kV__law_draw dc__law_draw pm__law_draw an__law_draw cd__law_draw ct__law_draw), sl__law_draw⟩)
    (c__law_draw : PySem.W.codeIn K cd__law_draw "_law_draw" = true)
    (k__law_draw : PySem.W.keepIn K (.ref f__law_draw) = true)
    (a__law_some : PySem.W.nsIn K mainGlobals "_law_some" = some (some (.ref f__law_some)))
    (l__law_some : K.lookup f__law_some = some ⟨oc__law_some, od__law_some, .func (PySem.W.fnOf "_law_some" "_law_some" (defArgs (tp 19)) (defBody (tp 19)) (defScope (tp 19)) .none kV__law_some dc__law_some pm__law_some an__law_some cd__law_some ct__law_some), sl__law_some⟩)
    (c__law_some : PySem.W.codeIn K cd__law_some "_law_some" = true)
    (k__law_some : PySem.W.keepIn K (.ref f__law_some) = true)
    (a__law_is : PySem.W.nsIn K mainGlobals "_law_is" = some (some (.ref f__law_is)))
    (l__law_is : K.lookup f__law_is = some ⟨oc__law_is, od__law_is, .func (PySem.W.fnOf "_law_is" "_law_is" (defArgs (tp 20)) (defBody (tp 20)) (defScope (tp 20)) .none kV__law_is dc__law_is pm__law_is an__law_is cd__law_is ct__law_is), sl__law_is⟩)
    (c__law_is : PySem.W.codeIn K cd__law_is "_law_is" = true)
    (k__law_is : PySem.W.keepIn K (.ref f__law_is) = true)
    (a__law_word : PySem.W.nsIn K mainGlobals "_law_word" = some (some (.ref f__law_word)))
    (l__law_word : K.lookup f__law_word = some ⟨oc__law_word, od__law_word, .func (PySem.W.fnOf "_law_word" "_law_word" (defArgs (tp 21)) (defBody (tp 21)) (defScope (tp 21)) .none kV__law_word dc__law_word pm__law_word an__law_word cd__law_word ct__law_word), sl__law_word⟩)
    (c__law_word : PySem.W.codeIn K cd__law_word "_law_word" = true)
    (k__law_word : PySem.W.keepIn K (.ref f__law_word) = true)
    (a__law_floors : PySem.W.nsIn K mainGlobals "_law_floors" = some (some (.ref f__law_floors)))
    (l__law_floors : K.lookup f__law_floors = some ⟨oc__law_floors, od__law_floors, .func (PySem.W.fnOf "_law_floors" "_law_floors" (defArgs (tp 22)) (defBody (tp 22)) (defScope (tp 22)) .none kV__law_floors dc__law_floors pm__law_floors an__law_floors cd__law_floors ct__law_floors), sl__law_floors⟩)
    (c__law_floors : PySem.W.codeIn K cd__law_floors "_law_floors" = true)
    (k__law_floors : PySem.W.keepIn K (.ref f__law_floors) = true)
    (a__law_is_line_right : PySem.W.nsIn K mainGlobals "_law_is_line_right" = some (some (.ref f__law_is_line_right)))
    (l__law_is_line_right : K.lookup f__law_is_line_right = some ⟨oc__law_is_line_right, od__law_is_line_right, .func (PySem.W.fnOf "_law_is_line_right" "_law_is_line_right" (defArgs (tp 23)) (defBody (tp 23)) (defScope (tp 23)) .none kV__law_is_line_right dc__law_is_line_right pm__law_is_line_right an__law_is_line_right cd__law_is_line_right ct__law_is_line_right), sl__law_is_line_right⟩)
    (c__law_is_line_right : PySem.W.codeIn K cd__law_is_line_right "_law_is_line_right" = true)
    (k__law_is_line_right : PySem.W.keepIn K (.ref f__law_is_line_right) = true)
    (a__law_are_rests_right : PySem.W.nsIn K mainGlobals "_law_are_rests_right" = some (some (.ref f__law_are_rests_right)))
    (l__law_are_rests_right : K.lookup f__law_are_rests_right = some ⟨oc__law_are_rests_right, od__law_are_rests_right, .func (PySem.W.fnOf "_law_are_rests_right" "_law_are_rests_right" (defArgs (tp 24)) (defBody (tp 24)) (defScope (tp 24)) .none kV__law_are_rests_right dc__law_are_rests_right pm__law_are_rests_right an__law_are_rests_right cd__law_are_rests_right ct__law_are_rests_right), sl__law_are_rests_right⟩)
    (c__law_are_rests_right : PySem.W.codeIn K cd__law_are_rests_right "_law_are_rests_right" = true)
    (k__law_are_rests_right : PySem.W.keepIn K (.ref f__law_are_rests_right) = true)
    (a__law_is_triangle_right : PySem.W.nsIn K mainGlobals "_law_is_triangle_right" = some (some (.ref f__law_is_triangle_right)))
    (l__law_is_triangle_right : K.lookup f__law_is_triangle_right = some ⟨oc__law_is_triangle_right, od__law_is_triangle_right, .func (PySem.W.fnOf "_law_is_triangle_right" "_law_is_triangle_right" (defArgs (tp 25)) (defBody (tp 25)) (defScope (tp 25)) .none kV__law_is_triangle_right dc__law_is_triangle_right pm__law_is_triangle_right an__law_is_triangle_right cd__law_is_triangle_right ct__law_is_triangle_right), sl__law_is_triangle_right⟩)
    (c__law_is_triangle_right : PySem.W.codeIn K cd__law_is_triangle_right "_law_is_triangle_right" = true)
    (k__law_is_triangle_right : PySem.W.keepIn K (.ref f__law_is_triangle_right) = true)
    (a__law_refused_right : PySem.W.nsIn K mainGlobals "_law_refused_right" = some (some (.ref f__law_refused_right)))
    (l__law_refused_right : K.lookup f__law_refused_right = some ⟨oc__law_refused_right, od__law_refused_right, .func (PySem.W.fnOf "_law_refused_right" "_law_refused_right" (defArgs (tp 26)) (defBody (tp 26)) (defScope (tp 26)) .none kV__law_refused_right dc__law_refused_right pm__law_refused_right an__law_refused_right (.ref cA__law_refused_right) ct__law_refused_right), sl__law_refused_right⟩)
    (c__law_refused_right : PySem.W.codeIn K (.ref cA__law_refused_right) "_law_refused_right" = true)
    (k__law_refused_right : PySem.W.keepIn K (.ref f__law_refused_right) = true)
    (lc__law_refused_right : K.lookup cA__law_refused_right = some ⟨ccl__law_refused_right, cdd__law_refused_right, .fields vs__law_refused_right, ccs__law_refused_right⟩)
    (lp__law_refused_right : vs__law_refused_right[11]? = some (.ref P__law_refused_right))
    (ch__law_refused_right : PySem.W.codeHdIn K cA__law_refused_right P__law_refused_right = true)
    (np__law_refused_right : K.lookup P__law_refused_right = none)
    (tp__law_refused_right : h.get? P__law_refused_right = some tabO)
    (a_law : PySem.W.nsIn K mainGlobals "law" = some (some (.ref f_law)))
    (l_law : K.lookup f_law = some ⟨oc_law, od_law, .func (PySem.W.fnOf "law" "law" (defArgs (tp 27)) (defBody (tp 27)) (defScope (tp 27)) .none kV_law dc_law pm_law an_law cd_law ct_law), sl_law⟩)
    (c_law : PySem.W.codeIn K cd_law "law" = true)
    (k_law : PySem.W.keepIn K (.ref f_law) = true)
    (z_ValueError : PySem.W.nsIn K mainGlobals "ValueError" = some none)
    (z_abs : PySem.W.nsIn K mainGlobals "abs" = some none)
    (z_all : PySem.W.nsIn K mainGlobals "all" = some none)
    (z_bool : PySem.W.nsIn K mainGlobals "bool" = some none)
    (z_int : PySem.W.nsIn K mainGlobals "int" = some none)
    (z_isinstance : PySem.W.nsIn K mainGlobals "isinstance" = some none)
    (z_len : PySem.W.nsIn K mainGlobals "len" = some none)
    (z_list : PySem.W.nsIn K mainGlobals "list" = some none)
    (z_min : PySem.W.nsIn K mainGlobals "min" = some none)
    (z_range : PySem.W.nsIn K mainGlobals "range" = some none)
    (z_str : PySem.W.nsIn K mainGlobals "str" = some none)
    (z_sum : PySem.W.nsIn K mainGlobals "sum" = some none)
    (z_tuple : PySem.W.nsIn K mainGlobals "tuple" = some none)
    (a_GridError : PySem.W.nsIn K mainGlobals "GridError" = some (some (.ref C_GridError)))
    (opq : PySem.W.nsIn K cStatics "thirdparty.any" = some none)
    (z_super : PySem.W.nsIn K mainGlobals "super" = some none)
    (sp_cls : PySem.W.specialIn K (.builtin "object.__class__") "__get__" = some (some (.builtin "getset_descriptor.__get__")))
    (tk_cls : PySem.W.takesIn K (.builtin "object.__class__") = some true)
    (a_NoNumber : PySem.W.nsIn K mainGlobals "NoNumber" = some (some (.ref C_NoNumber)))
    (l_NoNumber : K.lookup C_NoNumber = some (excClassObj nm_NoNumber q_NoNumber C_NoNumber N_NoNumber bs_NoNumber bm_NoNumber true sn_NoNumber sub_NoNumber ab_NoNumber col_NoNumber dd_NoNumber k0_NoNumber k1_NoNumber k2_NoNumber k3_NoNumber k5_NoNumber "ValueError.__new__"))
    (r_NoNumber : PySem.HandSPX.refsVE bm_NoNumber = true)
    (kc_NoNumber : PySem.W.keepIn K (.ref C_NoNumber) = true)
    (ex_NoNumber : PySem.W.subIn K (.ref C_NoNumber) (.type "BaseException") = some true)
    (ve_NoNumber : PySem.W.subIn K (.ref C_NoNumber) (.type "ValueError") = some true)
    (ty_NoNumber : PySem.W.typeIn K (.ref C_NoNumber) = some (.type "type"))
    (mr_NoNumber : PySem.W.mroIn K C_NoNumber (.ref C_NoNumber) = some true)
    (su_NoNumber : PySem.W.ks_superIn K C_NoNumber C_NoNumber "__init__" = some (some (.builtin "ValueError.__init__")))
    (i_NoNumber : PySem.W.findIn K (.ref C_NoNumber) "__init__" = some (some (.ref I_NoNumber)))
    (li_NoNumber : K.lookup I_NoNumber = some ⟨ioc_NoNumber, iod_NoNumber, .func (PySem.W.ksFn "__init__" "NoNumber.__init__" (defArgs (inClass (tp 5) 0)) (defBody (inClass (tp 5) 0)) (defScope (inClass (tp 5) 0)) .none ikV_NoNumber idc_NoNumber ipm_NoNumber ian_NoNumber (.ref icd_NoNumber) ict_NoNumber icc_NoNumber), isl_NoNumber⟩)
    (ti_NoNumber : PySem.W.typeIn K (.ref I_NoNumber) = some (.type "function"))
    (ci_NoNumber : PySem.W.codeIn K (.ref icd_NoNumber) "NoNumber.__init__" = true)
    (ld_NoNumber : K.lookup icd_NoNumber = some ⟨iccl_NoNumber, icdd_NoNumber, .fields ivs_NoNumber, iccs_NoNumber⟩)
    (l2_NoNumber : ivs_NoNumber[2]? = some (.str ifl_NoNumber itf_NoNumber))
    (lf_NoNumber : ((PySem.Challenge.rw_stepgrids_k35_whole_sums_of_floors.prog.main.file : Str) == ifl_NoNumber) = true)
    (lx_NoNumber : K.lookup icc_NoNumber = some ⟨icl_NoNumber, icld_NoNumber, .cell (some (.ref C_NoNumber)), icsl_NoNumber⟩)
    (x1_NoNumber : PySem.W.findIn K (.ref C_NoNumber) "__getattribute__" = some (some (.builtin "BaseException.__getattribute__")))
    (x2_NoNumber : PySem.W.findIn K (.ref C_NoNumber) "__getattr__" = some none)
    (x3_NoNumber : PySem.W.hasDictIn K C_NoNumber = true)
    (x4_NoNumber : PySem.W.findIn K (.ref C_NoNumber) "__class__" = some (some (.builtin "object.__class__")))
    (x5_NoNumber : PySem.W.mroIn K C_NoNumber (.type "object") = some true)
    (em_NoNumber : PySem.W.exmOne K (.ref C_NoNumber) (.ref C_GridError) = some true)
    (kv_NoNumber : PySem.W.kitOne K (.ref C_NoNumber) (.type "ValueError") = some true)
    (a_NoLine : PySem.W.nsIn K mainGlobals "NoLine" = some (some (.ref C_NoLine)))
    (l_NoLine : K.lookup C_NoLine = some (excClassObj nm_NoLine q_NoLine C_NoLine N_NoLine bs_NoLine bm_NoLine true sn_NoLine sub_NoLine ab_NoLine col_NoLine dd_NoLine k0_NoLine k1_NoLine k2_NoLine k3_NoLine k5_NoLine "ValueError.__new__"))
    (r_NoLine : PySem.HandSPX.refsVE bm_NoLine = true)
    (kc_NoLine : PySem.W.keepIn K (.ref C_NoLine) = true)
    (ex_NoLine : PySem.W.subIn K (.ref C_NoLine) (.type "BaseException") = some true)
    (ve_NoLine : PySem.W.subIn K (.ref C_NoLine) (.type "ValueError") = some true)
    (ty_NoLine : PySem.W.typeIn K (.ref C_NoLine) = some (.type "type"))
    (mr_NoLine : PySem.W.mroIn K C_NoLine (.ref C_NoLine) = some true)
    (su_NoLine : PySem.W.ks_superIn K C_NoLine C_NoLine "__init__" = some (some (.builtin "ValueError.__init__")))
    (i_NoLine : PySem.W.findIn K (.ref C_NoLine) "__init__" = some (some (.ref I_NoLine)))
    (li_NoLine : K.lookup I_NoLine = some ⟨ioc_NoLine, iod_NoLine, .func (PySem.W.ksFn "__init__" "NoLine.__init__" (defArgs (inClass (tp 6) 0)) (defBody (inClass (tp 6) 0)) (defScope (inClass (tp 6) 0)) .none ikV_NoLine idc_NoLine ipm_NoLine ian_NoLine (.ref icd_NoLine) ict_NoLine icc_NoLine), isl_NoLine⟩)
    (ti_NoLine : PySem.W.typeIn K (.ref I_NoLine) = some (.type "function"))
    (ci_NoLine : PySem.W.codeIn K (.ref icd_NoLine) "NoLine.__init__" = true)
    (ld_NoLine : K.lookup icd_NoLine = some ⟨iccl_NoLine, icdd_NoLine, .fields ivs_NoLine, iccs_NoLine⟩)
    (l2_NoLine : ivs_NoLine[2]? = some (.str ifl_NoLine itf_NoLine))
    (lf_NoLine : ((PySem.Challenge.rw_stepgrids_k35_whole_sums_of_floors.prog.main.file : Str) == ifl_NoLine) = true)
    (lx_NoLine : K.lookup icc_NoLine = some ⟨icl_NoLine, icld_NoLine, .cell (some (.ref C_NoLine)), icsl_NoLine⟩)
    (x1_NoLine : PySem.W.findIn K (.ref C_NoLine) "__getattribute__" = some (some (.builtin "BaseException.__getattribute__")))
    (x2_NoLine : PySem.W.findIn K (.ref C_NoLine) "__getattr__" = some none)
    (x3_NoLine : PySem.W.hasDictIn K C_NoLine = true)
    (x4_NoLine : PySem.W.findIn K (.ref C_NoLine) "__class__" = some (some (.builtin "object.__class__")))
    (x5_NoLine : PySem.W.mroIn K C_NoLine (.type "object") = some true)
    (em_NoLine : PySem.W.exmOne K (.ref C_NoLine) (.ref C_GridError) = some true)
    (kv_NoLine : PySem.W.kitOne K (.ref C_NoLine) (.type "ValueError") = some true)
    (kk_NoNumber_NoNumber : PySem.W.kitOne K (.ref C_NoNumber) (.ref C_NoNumber) = some true)
    (kk_NoNumber_NoLine : PySem.W.kitOne K (.ref C_NoNumber) (.ref C_NoLine) = some false)
    (kk_NoLine_NoNumber : PySem.W.kitOne K (.ref C_NoLine) (.ref C_NoNumber) = some false)
    (kk_NoLine_NoLine : PySem.W.kitOne K (.ref C_NoLine) (.ref C_NoLine) = some true)
    : LawAtG PySem.Challenge.rw_stepgrids_k35_whole_sums_of_floors w K 11 63 "script" mg fa h := by
  cases hfa.symm.trans (PySem.W.mg_of X G a_law)
  have hEx : ∀ c C, errs.contains c = true → mg c = some (.ref C) → PySem.W.exmOne K (.ref C) (.ref C_GridError) = some true := fun c C hc e => by
    simp only [errs, List.contains_cons, List.contains_nil, Bool.or_false, Bool.or_eq_true, beq_iff_eq] at hc
    rcases hc with rfl | rfl
    · cases e.symm.trans (PySem.W.mg_of X G a_NoNumber)
      exact em_NoNumber
    · cases e.symm.trans (PySem.W.mg_of X G a_NoLine)
      exact em_NoLine
  have hXc : ∀ c C, errs.contains c = true → mg c = some (.ref C) → ExcC K C := fun c C hc e => by
    simp only [errs, List.contains_cons, List.contains_nil, Bool.or_false, Bool.or_eq_true, beq_iff_eq] at hc
    rcases hc with rfl | rfl
    · cases e.symm.trans (PySem.W.mg_of X G a_NoNumber)
      exact ⟨x1_NoNumber, x2_NoNumber, ex_NoNumber, x3_NoNumber, x4_NoNumber, sp_cls, tk_cls, x5_NoNumber⟩
    · cases e.symm.trans (PySem.W.mg_of X G a_NoLine)
      exact ⟨x1_NoLine, x2_NoLine, ex_NoLine, x3_NoLine, x4_NoLine, sp_cls, tk_cls, x5_NoLine⟩
  have hVe : ∀ c C, errs.contains c = true → mg c = some (.ref C) → PySem.W.kitOne K (.ref C) (.type "ValueError") = some true := fun c C hc e => by
    simp only [errs, List.contains_cons, List.contains_nil, Bool.or_false, Bool.or_eq_true, beq_iff_eq] at hc
    rcases hc with rfl | rfl
    · cases e.symm.trans (PySem.W.mg_of X G a_NoNumber)
      exact kv_NoNumber
    · cases e.symm.trans (PySem.W.mg_of X G a_NoLine)
      exact kv_NoLine
  have hK_NoNumber : ∀ c C, errs.contains c = true → mg c = some (.ref C) → PySem.W.kitOne K (.ref C) (.ref C_NoNumber) = some (c == "NoNumber") := fun c C hc e => by
    simp only [errs, List.contains_cons, List.contains_nil, Bool.or_false, Bool.or_eq_true, beq_iff_eq] at hc
    rcases hc with rfl | rfl
    · cases e.symm.trans (PySem.W.mg_of X G a_NoNumber)
      exact kk_NoNumber_NoNumber
    · cases e.symm.trans (PySem.W.mg_of X G a_NoLine)
      exact kk_NoLine_NoNumber
  have hK_NoLine : ∀ c C, errs.contains c = true → mg c = some (.ref C) → PySem.W.kitOne K (.ref C) (.ref C_NoLine) = some (c == "NoLine") := fun c C hc e => by
    simp only [errs, List.contains_cons, List.contains_nil, Bool.or_false, Bool.or_eq_true, beq_iff_eq] at hc
    rcases hc with rfl | rfl
    · cases e.symm.trans (PySem.W.mg_of X G a_NoNumber)
      exact kk_NoNumber_NoLine
    · cases e.symm.trans (PySem.W.mg_of X G a_NoLine)
      exact kk_NoLine_NoLine
  let mkTx : ∀ base : Heap, (∀ p ∈ ([(cA__law_refused_right, P__law_refused_right)] : List (Addr × Addr)), TabB base mg p.1 p.2) → Tx PySem.Challenge.rw_stepgrids_k35_whole_sums_of_floors.prog K mg base := fun base hB =>
    { a_is_integer := f_is_integer, fd_is_integer := _, g_is_integer := PySem.W.mg_of X G a_is_integer, F_is_integer := L2.fun_mk l_is_integer c_is_integer k_is_integer, B_is_integer := L2.Fun.binds (L2.fun_mk l_is_integer c_is_integer k_is_integer) (fun _ _ _ _ _ _ us hl => match us, hl with | [_], _ => rfl),
      a_is_within := f_is_within, fd_is_within := _, g_is_within := PySem.W.mg_of X G a_is_within, F_is_within := L2.fun_mk l_is_within c_is_within k_is_within, B_is_within := L2.Fun.binds (L2.fun_mk l_is_within c_is_within k_is_within) (fun _ _ _ _ _ _ us hl => match us, hl with | [_, _, _], _ => rfl),
      a_floor_total := f_floor_total, fd_floor_total := _, g_floor_total := PySem.W.mg_of X G a_floor_total, F_floor_total := L2.fun_mk l_floor_total c_floor_total k_floor_total, B_floor_total := L2.Fun.binds (L2.fun_mk l_floor_total c_floor_total k_floor_total) (fun _ _ _ _ _ _ us hl => match us, hl with | [_, _, _, _], _ => rfl),
      a_check_line := f_check_line, fd_check_line := _, g_check_line := PySem.W.mg_of X G a_check_line, F_check_line := L2.fun_mk l_check_line c_check_line k_check_line, B_check_line := L2.Fun.binds (L2.fun_mk l_check_line c_check_line k_check_line) (fun _ _ _ _ _ _ us hl => match us, hl with | [_, _, _, _], _ => rfl),
      a_floor_sum := f_floor_sum, fd_floor_sum := _, g_floor_sum := PySem.W.mg_of X G a_floor_sum, F_floor_sum := L2.fun_mk l_floor_sum c_floor_sum k_floor_sum, B_floor_sum := L2.Fun.binds (L2.fun_mk l_floor_sum c_floor_sum k_floor_sum) (fun _ _ _ _ _ _ us hl => match us, hl with | [_, _, _, _], _ => rfl),
      a_below_line := f_below_line, fd_below_line := _, g_below_line := PySem.W.mg_of X G a_below_line, F_below_line := L2.fun_mk l_below_line c_below_line k_below_line, B_below_line := L2.Fun.binds (L2.fun_mk l_below_line c_below_line k_below_line) (fun _ _ _ _ _ _ us hl => match us, hl with | [_, _, _, _], _ => rfl),
      a_first_rest := f_first_rest, fd_first_rest := _, g_first_rest := PySem.W.mg_of X G a_first_rest, F_first_rest := L2.fun_mk l_first_rest c_first_rest k_first_rest, B_first_rest := L2.Fun.binds (L2.fun_mk l_first_rest c_first_rest k_first_rest) (fun _ _ _ _ _ _ us hl => match us, hl with | [_, _, _, _, _], _ => rfl),
      a_rests_between := f_rests_between, fd_rests_between := _, g_rests_between := PySem.W.mg_of X G a_rests_between, F_rests_between := L2.fun_mk l_rests_between c_rests_between k_rests_between, B_rests_between := L2.Fun.binds (L2.fun_mk l_rests_between c_rests_between k_rests_between) (fun _ _ _ _ _ _ us hl => match us, hl with | [_, _, _, _, _], _ => rfl),
      a_many_rests := f_many_rests, fd_many_rests := _, g_many_rests := PySem.W.mg_of X G a_many_rests, F_many_rests := L2.fun_mk l_many_rests c_many_rests k_many_rests, B_many_rests := L2.Fun.binds (L2.fun_mk l_many_rests c_many_rests k_many_rests) (fun _ _ _ _ _ _ us hl => match us, hl with | [_, _, _, _, _], _ => rfl),
      a_in_triangle := f_in_triangle, fd_in_triangle := _, g_in_triangle := PySem.W.mg_of X G a_in_triangle, F_in_triangle := L2.fun_mk l_in_triangle c_in_triangle k_in_triangle, B_in_triangle := L2.Fun.binds (L2.fun_mk l_in_triangle c_in_triangle k_in_triangle) (fun _ _ _ _ _ _ us hl => match us, hl with | [_, _, _], _ => rfl),
      a__law_hand := f__law_hand, fd__law_hand := _, g__law_hand := PySem.W.mg_of X G a__law_hand, F__law_hand := L2.fun_mk l__law_hand c__law_hand k__law_hand, B__law_hand := L2.Fun.binds (L2.fun_mk l__law_hand c__law_hand k__law_hand) (fun _ _ _ _ _ _ us hl => match us, hl with | [_], _ => rfl),
      a__law_draw := f__law_draw, fd__law_draw := _, g__law_draw := PySem.W.mg_of X G a__law_draw, F__law_draw := L2.fun_mk l__law_draw c__law_draw k__law_draw, B__law_draw := L2.Fun.binds (L2.fun_mk l__law_draw c__law_draw k__law_draw) (fun _ _ _ _ _ _ us hl => match us, hl with | [_, _], _ => rfl),
      a__law_some := f__law_some, fd__law_some := _, g__law_some := PySem.W.mg_of X G a__law_some, F__law_some := L2.fun_mk l__law_some c__law_some k__law_some, B__law_some := L2.Fun.binds (L2.fun_mk l__law_some c__law_some k__law_some) (fun _ _ _ _ _ _ us hl => match us, hl with | [_, _], _ => rfl),
      a__law_is := f__law_is, fd__law_is := _, g__law_is := PySem.W.mg_of X G a__law_is, F__law_is := L2.fun_mk l__law_is c__law_is k__law_is, B__law_is := L2.Fun.binds (L2.fun_mk l__law_is c__law_is k__law_is) (fun _ _ _ _ _ _ us hl => match us, hl with | [_, _], _ => rfl),
      a__law_word := f__law_word, fd__law_word := _, g__law_word := PySem.W.mg_of X G a__law_word, F__law_word := L2.fun_mk l__law_word c__law_word k__law_word, B__law_word := L2.Fun.binds (L2.fun_mk l__law_word c__law_word k__law_word) (fun _ _ _ _ _ _ us hl => match us, hl with | [_], _ => rfl),
      a__law_floors := f__law_floors, fd__law_floors := _, g__law_floors := PySem.W.mg_of X G a__law_floors, F__law_floors := L2.fun_mk l__law_floors c__law_floors k__law_floors, B__law_floors := L2.Fun.binds (L2.fun_mk l__law_floors c__law_floors k__law_floors) (fun _ _ _ _ _ _ us hl => match us, hl with | [_, _, _, _], _ => rfl),
      a__law_is_line_right := f__law_is_line_right, fd__law_is_line_right := _, g__law_is_line_right := PySem.W.mg_of X G a__law_is_line_right, F__law_is_line_right := L2.fun_mk l__law_is_line_right c__law_is_line_right k__law_is_line_right, B__law_is_line_right := L2.Fun.binds (L2.fun_mk l__law_is_line_right c__law_is_line_right k__law_is_line_right) (fun _ _ _ _ _ _ us hl => match us, hl with | [_], _ => rfl),
      a__law_are_rests_right := f__law_are_rests_right, fd__law_are_rests_right := _, g__law_are_rests_right := PySem.W.mg_of X G a__law_are_rests_right, F__law_are_rests_right := L2.fun_mk l__law_are_rests_right c__law_are_rests_right k__law_are_rests_right, B__law_are_rests_right := L2.Fun.binds (L2.fun_mk l__law_are_rests_right c__law_are_rests_right k__law_are_rests_right) (fun _ _ _ _ _ _ us hl => match us, hl with | [_], _ => rfl),
      a__law_is_triangle_right := f__law_is_triangle_right, fd__law_is_triangle_right := _, g__law_is_triangle_right := PySem.W.mg_of X G a__law_is_triangle_right, F__law_is_triangle_right := L2.fun_mk l__law_is_triangle_right c__law_is_triangle_right k__law_is_triangle_right, B__law_is_triangle_right := L2.Fun.binds (L2.fun_mk l__law_is_triangle_right c__law_is_triangle_right k__law_is_triangle_right) (fun _ _ _ _ _ _ us hl => match us, hl with | [_], _ => rfl),
      a__law_refused_right := f__law_refused_right, fd__law_refused_right := _, g__law_refused_right := PySem.W.mg_of X G a__law_refused_right, F__law_refused_right := L2.fun_mk l__law_refused_right c__law_refused_right k__law_refused_right, B__law_refused_right := L2.Fun.binds (L2.fun_mk l__law_refused_right c__law_refused_right k__law_refused_right) (fun _ _ _ _ _ _ us hl => match us, hl with | [_], _ => rfl),
      a_law := fa, fd_law := _, g_law := PySem.W.mg_of X G a_law, F_law := L2.fun_mk l_law c_law k_law, B_law := L2.Fun.binds (L2.fun_mk l_law c_law k_law) (fun _ _ _ _ _ _ us hl => match us, hl with | [_], _ => rfl),
      n_ValueError := PySem.W.mg_none_of X G z_ValueError,
      n_abs := PySem.W.mg_none_of X G z_abs,
      n_all := PySem.W.mg_none_of X G z_all,
      n_bool := PySem.W.mg_none_of X G z_bool,
      n_int := PySem.W.mg_none_of X G z_int,
      n_isinstance := PySem.W.mg_none_of X G z_isinstance,
      n_len := PySem.W.mg_none_of X G z_len,
      n_list := PySem.W.mg_none_of X G z_list,
      n_min := PySem.W.mg_none_of X G z_min,
      n_range := PySem.W.mg_none_of X G z_range,
      n_str := PySem.W.mg_none_of X G z_str,
      n_sum := PySem.W.mg_none_of X G z_sum,
      n_tuple := PySem.W.mg_none_of X G z_tuple,
      aC_GridError := C_GridError, C_GridError := PySem.W.mg_of X G a_GridError, ex_GridError := hEx, xc := hXc, k_ValueError := hVe,
      aC_NoNumber := C_NoNumber, aI_NoNumber := I_NoNumber, C_NoNumber := PySem.W.mg_of X G a_NoNumber, k_NoNumber := hK_NoNumber,
      E_NoNumber := ⟨PySem.W.mg_of X G a_NoNumber, ⟨_, _, _, _, _, _, _, _, _, _, _, _, _, _, _, l_NoNumber, r_NoNumber⟩, kc_NoNumber, ex_NoNumber, ve_NoNumber, ty_NoNumber, su_NoNumber, mr_NoNumber, opq, PySem.W.mg_none_of X G z_super, by decide +kernel⟩,
      I_NoNumber := itx_mk i_NoNumber li_NoNumber ti_NoNumber ci_NoNumber ld_NoNumber l2_NoNumber lf_NoNumber lx_NoNumber it_NoNumber,
      aC_NoLine := C_NoLine, aI_NoLine := I_NoLine, C_NoLine := PySem.W.mg_of X G a_NoLine, k_NoLine := hK_NoLine,
      E_NoLine := ⟨PySem.W.mg_of X G a_NoLine, ⟨_, _, _, _, _, _, _, _, _, _, _, _, _, _, _, l_NoLine, r_NoLine⟩, kc_NoLine, ex_NoLine, ve_NoLine, ty_NoLine, su_NoLine, mr_NoLine, opq, PySem.W.mg_none_of X G z_super, by decide +kernel⟩,
      I_NoLine := itx_mk i_NoLine li_NoLine ti_NoLine ci_NoLine ld_NoLine l2_NoLine lf_NoLine lx_NoLine it_NoLine,
      P__law_refused_right := P__law_refused_right, cA__law_refused_right := cA__law_refused_right, c__law_refused_right := (by unfold Rf.codeAt; rw [l__law_refused_right]), T__law_refused_right := hB (cA__law_refused_right, P__law_refused_right) (by simp) }
  refine ⟨_, [(cA__law_refused_right, P__law_refused_right)], spM ⟨K, mg⟩ ⟨[(P__law_refused_right, ("_law_refused_right.<locals>.<lambda>" : Str))], [], fun _ => none, fun _ => none⟩ m_law, ?_, fun s v => .of_eq rfl, fun H a ns hl hb ht hS => law_sp (tabs_nil ht ?_) hS (plain ns hl hb), fun base hK hN hB => fnG_of (w := w) (mkTx base hB).F_law sc_law rfl (bd_law (mkTx base hB))⟩
  · intro p hp
    simp only [List.mem_cons, List.not_mem_nil, or_false] at hp
    rcases hp with rfl
    · exact ⟨tp__law_refused_right, np__law_refused_right, PySem.W.codeHd_of_K X ch__law_refused_right⟩
  · intro p hp
    simp only [List.mem_cons, List.not_mem_nil, or_false] at hp
    rcases hp with rfl
    · exact ⟨(cA__law_refused_right, P__law_refused_right), by simp, rfl⟩
end K35
open PySem PySem.W PyProof.Rows
set_option maxHeartbeats 0 in
theorem PySem.Challenge.cw_stepgrids_k35_whole_sums_of_floors_holds : PySem.Challenge.rw_stepgrids_k35_whole_sums_of_floors.Holds := by
  w_on; o_law; k_head; (case hw => w_witness2)
  k_fill
  refine Rf.walk_ofG (l := PySem.Challenge.rw_stepgrids_k35_whole_sums_of_floors) (n := 63) (k := 11) (x := "script") rfl (by decide) rfl ⟨rfl, by decide, by decide⟩ (fun w h Y => PySem.W.km_in_of Y) ?F
  case F =>
    intro w mg fa h XPh Y KX G hmg
    refine' K35.mk KX G hmg ?a_is_integer ?l_is_integer ?c_is_integer ?k_is_integer ?a_is_within ?l_is_within ?c_is_within ?k_is_within ?a_floor_total ?l_floor_total ?c_floor_total ?k_floor_total ?a_check_line ?l_check_line ?c_check_line ?k_check_line ?a_floor_sum ?l_floor_sum ?c_floor_sum ?k_floor_sum ?a_below_line ?l_below_line ?c_below_line ?k_below_line ?a_first_rest ?l_first_rest ?c_first_rest ?k_first_rest ?a_rests_between ?l_rests_between ?c_rests_between ?k_rests_between ?a_many_rests ?l_many_rests ?c_many_rests ?k_many_rests ?a_in_triangle ?l_in_triangle ?c_in_triangle ?k_in_triangle ?a__law_hand ?l__law_hand ?c__law_hand ?k__law_hand ?a__law_draw ?l__law_draw ?c__law_draw ?k__law_draw ?a__law_some ?l__law_some ?c__law_some ?k__law_some ?a__law_is ?l__law_is ?c__law_is ?k__law_is ?a__law_word ?l__law_word ?c__law_word ?k__law_word ?a__law_floors ?l__law_floors ?c__law_floors ?k__law_floors ?a__law_is_line_right ?l__law_is_line_right ?c__law_is_line_right ?k__law_is_line_right ?a__law_are_rests_right ?l__law_are_rests_right ?c__law_are_rests_right ?k__law_are_rests_right ?a__law_is_triangle_right ?l__law_is_triangle_right ?c__law_is_triangle_right ?k__law_is_triangle_right ?a__law_refused_right ?l__law_refused_right ?c__law_refused_right ?k__law_refused_right ?lc__law_refused_right ?lp__law_refused_right ?ch__law_refused_right ?np__law_refused_right ?tp__law_refused_right ?a_law ?l_law ?c_law ?k_law ?z_ValueError ?z_abs ?z_all ?z_bool ?z_int ?z_isinstance ?z_len ?z_list ?z_min ?z_range ?z_str ?z_sum ?z_tuple ?a_GridError ?opq ?z_super ?sp_cls ?tk_cls ?a_NoNumber ?l_NoNumber ?r_NoNumber ?kc_NoNumber ?ex_NoNumber ?ve_NoNumber ?ty_NoNumber ?mr_NoNumber ?su_NoNumber ?i_NoNumber ?li_NoNumber ?ti_NoNumber ?ci_NoNumber ?ld_NoNumber ?l2_NoNumber ?lf_NoNumber ?lx_NoNumber ?x1_NoNumber ?x2_NoNumber ?x3_NoNumber ?x4_NoNumber ?x5_NoNumber ?em_NoNumber ?kv_NoNumber ?a_NoLine ?l_NoLine ?r_NoLine ?kc_NoLine ?ex_NoLine ?ve_NoLine ?ty_NoLine ?mr_NoLine ?su_NoLine ?i_NoLine ?li_NoLine ?ti_NoLine ?ci_NoLine ?ld_NoLine ?l2_NoLine ?lf_NoLine ?lx_NoLine ?x1_NoLine ?x2_NoLine ?x3_NoLine ?x4_NoLine ?x5_NoLine ?em_NoLine ?kv_NoLine ?kk_NoNumber_NoNumber ?kk_NoNumber_NoLine ?kk_NoLine_NoNumber ?kk_NoLine_NoLine
    (case a_is_integer => k_is)
    (case l_is_integer => k_is)
    (case c_is_integer => k_is)
    (case k_is_integer => k_is)
    (case a_is_within => k_is)
    (case l_is_within => k_is)
    (case c_is_within => k_is)
    (case k_is_within => k_is)
    (case a_floor_total => k_is)
    (case l_floor_total => k_is)
    (case c_floor_total => k_is)
    (case k_floor_total => k_is)
    (case a_check_line => k_is)
    (case l_check_line => k_is)
    (case c_check_line => k_is)
    (case k_check_line => k_is)
    (case a_floor_sum => k_is)
    (case l_floor_sum => k_is)
    (case c_floor_sum => k_is)
    (case k_floor_sum => k_is)
    (case a_below_line => k_is)
    (case l_below_line => k_is)
    (case c_below_line => k_is)
    (case k_below_line => k_is)
    (case a_first_rest => k_is)
    (case l_first_rest => k_is)
    (case c_first_rest => k_is)
    (case k_first_rest => k_is)
    (case a_rests_between => k_is)
    (case l_rests_between => k_is)
    (case c_rests_between => k_is)
    (case k_rests_between => k_is)
    (case a_many_rests => k_is)
    (case l_many_rests => k_is)
    (case c_many_rests => k_is)
    (case k_many_rests => k_is)
    (case a_in_triangle => k_is)
    (case l_in_triangle => k_is)
    (case c_in_triangle => k_is)
    (case k_in_triangle => k_is)
    (case a__law_hand => k_is)
    (case l__law_hand => k_is)
    (case c__law_hand => k_is)
    (case k__law_hand => k_is)
    (case a__law_draw => k_is)
    (case l__law_draw => k_is)
    (case c__law_draw => k_is)
    (case k__law_draw => k_is)
    (case a__law_some => k_is)
    (case l__law_some => k_is)
    (case c__law_some => k_is)
    (case k__law_some => k_is)
    (case a__law_is => k_is)
    (case l__law_is => k_is)
    (case c__law_is => k_is)
    (case k__law_is => k_is)
    (case a__law_word => k_is)
    (case l__law_word => k_is)
    (case c__law_word => k_is)
    (case k__law_word => k_is)
    (case a__law_floors => k_is)
    (case l__law_floors => k_is)
    (case c__law_floors => k_is)
    (case k__law_floors => k_is)
    (case a__law_is_line_right => k_is)
    (case l__law_is_line_right => k_is)
    (case c__law_is_line_right => k_is)
    (case k__law_is_line_right => k_is)
    (case a__law_are_rests_right => k_is)
    (case l__law_are_rests_right => k_is)
    (case c__law_are_rests_right => k_is)
    (case k__law_are_rests_right => k_is)
    (case a__law_is_triangle_right => k_is)
    (case l__law_is_triangle_right => k_is)
    (case c__law_is_triangle_right => k_is)
    (case k__law_is_triangle_right => k_is)
    (case a__law_refused_right => k_is)
    (case l__law_refused_right => k_is)
    (case c__law_refused_right => k_is)
    (case k__law_refused_right => k_is)
    (case lc__law_refused_right => k_is)
    (case lp__law_refused_right => rfl)
    (case ch__law_refused_right => kernel_rfl)
    (case np__law_refused_right => kernel_rfl)
    (case tp__law_refused_right => exact PySem.W.km_tabs_of Y _ (by decide))
    (case a_law => k_is)
    (case l_law => k_is)
    (case c_law => k_is)
    (case k_law => k_is)
    (case z_ValueError => k_is)
    (case z_abs => k_is)
    (case z_all => k_is)
    (case z_bool => k_is)
    (case z_int => k_is)
    (case z_isinstance => k_is)
    (case z_len => k_is)
    (case z_list => k_is)
    (case z_min => k_is)
    (case z_range => k_is)
    (case z_str => k_is)
    (case z_sum => k_is)
    (case z_tuple => k_is)
    (case a_GridError => k_is)
    (case opq => k_is)
    (case z_super => k_is)
    (case sp_cls => k_is)
    (case tk_cls => k_is)
    (case a_NoNumber => k_is)
    (case l_NoNumber => k_is)
    (case r_NoNumber => decide +kernel)
    (case kc_NoNumber => k_is)
    (case ex_NoNumber => k_is)
    (case ve_NoNumber => k_is)
    (case ty_NoNumber => k_is)
    (case mr_NoNumber => k_is)
    (case su_NoNumber => kernel_rfl)
    (case i_NoNumber => k_is)
    (case li_NoNumber => k_is)
    (case ti_NoNumber => k_is)
    (case ci_NoNumber => k_is)
    (case ld_NoNumber => k_is)
    (case l2_NoNumber => rfl)
    (case lf_NoNumber => decide +kernel)
    (case lx_NoNumber => k_is)
    (case x1_NoNumber => k_is)
    (case x2_NoNumber => k_is)
    (case x3_NoNumber => k_is)
    (case x4_NoNumber => k_is)
    (case x5_NoNumber => k_is)
    (case em_NoNumber => kernel_rfl)
    (case kv_NoNumber => kernel_rfl)
    (case a_NoLine => k_is)
    (case l_NoLine => k_is)
    (case r_NoLine => decide +kernel)
    (case kc_NoLine => k_is)
    (case ex_NoLine => k_is)
    (case ve_NoLine => k_is)
    (case ty_NoLine => k_is)
    (case mr_NoLine => k_is)
    (case su_NoLine => kernel_rfl)
    (case i_NoLine => k_is)
    (case li_NoLine => k_is)
    (case ti_NoLine => k_is)
    (case ci_NoLine => k_is)
    (case ld_NoLine => k_is)
    (case l2_NoLine => rfl)
    (case lf_NoLine => decide +kernel)
    (case lx_NoLine => k_is)
    (case x1_NoLine => k_is)
    (case x2_NoLine => k_is)
    (case x3_NoLine => k_is)
    (case x4_NoLine => k_is)
    (case x5_NoLine => k_is)
    (case em_NoLine => kernel_rfl)
    (case kv_NoLine => kernel_rfl)
    (case kk_NoNumber_NoNumber => kernel_rfl)
    (case kk_NoNumber_NoLine => kernel_rfl)
    (case kk_NoLine_NoNumber => kernel_rfl)
    (case kk_NoLine_NoLine => kernel_rfl)


