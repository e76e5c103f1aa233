import PyProof.Rows.All
import HandS.ForMost
import HandS.Exc
import HandS.TryOnly
import HandS.ExcOwn
import HandS.WordsExc
import HandS.Wide
import HandS.Lambda
import HandS.EndTab
import HandS.TupMul
import HandS.IsInst
import HandS.Deep
import HandS.TupAny
import HandS.Style
import HandS.Flow
import HandS.SortInts
import HandS.TupLe
import HandS.ExcField
import KE.KExcSuper
import KE.KSuper
import HandS.ExcIs
import HandS.SetFor
import HandS.Zip
import HandS.Rev
import HandS.RevRange
import HandS.DictComp
import HandS.More
import HandS.SortRule
import HandS.NamedTupSort
import KE.SortData
import KE.DataMinMax
import KE.GoesZip
import KE.GoesMore
import KE.GoesEnum
import KE.KDictDisplayH
import HandS.Conv
import PySem.Challenge.RW_stepgrids_k02_whole_chains_of_fractions
set_option Elab.async false
set_option linter.all false
set_option maxRecDepth 100000
set_option maxHeartbeats 4000000
namespace Rf
open PySem L2 LamX

/-! ## values as data -/
inductive D where
  | non | bl (b : Bool) | int (i : Int) | str (x : Str)
  | tup (xs : List D) | lst (xs : List D)
  | dK (ks : List Key) (ds : List D) | dT (ks : List (List Key)) (ds : List D)
  | fn (x : Str) | scr (ns : List Int) | ctup (xs : List D)

/-- the module as it stands: what is written, its names -/
structure Gm where
  K : PySem.W.Frag
  mg : Str → Option Value

mutual
def Is (G : Gm) (H : Hp) : D → V → Prop
  | .non, v => v = .non
  | .bl b, v => v = .bl b
  | .int i, v => v = .int i
  | .str x, v => v = .str x
  | .tup xs, v => ∃ a vs, v = .ref a ∧ H a = some (.tup vs) ∧ IsL G H xs vs
  | .ctup xs, v => ∃ a vs, v = .ref a ∧ SqT G.K H a vs ∧ IsL G H xs vs
  | .lst xs, v => ∃ a vs, v = .ref a ∧ H a = some (.lst vs) ∧ IsL G H xs vs
  | .dK ks ds, v => ∃ a vs, v = .ref a ∧ H a = some (.dK (ks.zip vs)) ∧ ks.length = vs.length ∧ IsL G H ds vs
  | .dT ks ds, v => ∃ a vs, v = .ref a ∧ H a = some (.dT (ks.zip vs)) ∧ ks.length = vs.length ∧ IsL G H ds vs
  | .fn x, v => ∃ f, v = .ref f ∧ G.mg x = some (.ref f)
  | .scr ns, v => ∃ a, v = .ref a ∧ SqL G.K H a (ns.map V.int)
def IsL (G : Gm) (H : Hp) : List D → List V → Prop
  | [], vs => vs = []
  | d :: ds, vs => ∃ v r, vs = v :: r ∧ Is G H d v ∧ IsL G H ds r
end

/-- all but the tables of code objects stays -/
def Le (H H' : Hp) : Prop := ∀ a o, H a = some o → (∀ ps, o ≠ .tbl ps) → H' a = some o
theorem Le.refl (H : Hp) : Le H H := fun _ _ h _ => h
theorem Le.trans {H H1 H2 : Hp} (a : Le H H1) (b : Le H1 H2) : Le H H2 := fun x o h n => b x o (a x o h n) n
theorem Le.rd {H H' : Hp} (e : Le H H') {a : Addr} {u : HO} (n : ∀ ps, u ≠ .tbl ps) (h : Rd H a u) : Rd H' a u := by
  rcases h with h | ⟨o, h⟩
  · exact .inl (e _ _ h n)
  · exact .inr ⟨o, e _ _ h (fun ps z => by cases z)⟩
theorem Le.sqT {K : PySem.W.Frag} {H H' : Hp} (e : Le H H') {a : Addr} {xs : List V} (h : SqT K H a xs) : SqT K H' a xs := by
  rcases h with h | h
  · exact .inl (e.rd (fun ps z => by cases z) h)
  · exact .inr h
theorem Le.sqL {K : PySem.W.Frag} {H H' : Hp} (e : Le H H') {a : Addr} {xs : List V} (h : SqL K H a xs) : SqL K H' a xs := by
  rcases h with h | h
  · exact .inl (e.rd (fun ps z => by cases z) h)
  · exact .inr h
theorem Le.tp {H H' : Hp} (e : Le H H') {a : Addr} {xs : List V} (h : H a = some (.tup xs)) : H' a = some (.tup xs) := e _ _ h (fun ps z => by cases z)
theorem Le.tq {K : PySem.W.Frag} {H H' : Hp} (e : Le H H') {a : Addr} {xs : List V} (h : H a = some (.tup xs)) : SqT K H' a xs := .inl (.inl (e.tp h))
theorem Le.lp {H H' : Hp} (e : Le H H') {a : Addr} {xs : List V} (h : H a = some (.lst xs)) : H' a = some (.lst xs) := e _ _ h (fun ps z => by cases z)
theorem Le.lq {K : PySem.W.Frag} {H H' : Hp} (e : Le H H') {a : Addr} {xs : List V} (h : H a = some (.lst xs)) : SqL K H' a xs := .inl (.inl (e.lp h))
mutual
theorem Is.mono {G : Gm} {H H' : Hp} (e : Le H H') : ∀ (d : D) (v : V), Is G H d v → Is G H' d v
  | .non, v, h => h
  | .bl b, v, h => h
  | .int i, v, h => h
  | .str x, v, h => h
  | .tup xs, v, h => by
    obtain ⟨a, vs, e1, e2, e3⟩ := h
    exact ⟨a, vs, e1, e _ _ e2 (fun ps z => by cases z), IsL.mono e xs vs e3⟩
  | .ctup xs, v, h => by
    obtain ⟨a, vs, e1, e2, e3⟩ := h
    exact ⟨a, vs, e1, e.sqT e2, IsL.mono e xs vs e3⟩
  | .lst xs, v, h => by
    obtain ⟨a, vs, e1, e2, e3⟩ := h
    exact ⟨a, vs, e1, e _ _ e2 (fun ps z => by cases z), IsL.mono e xs vs e3⟩
  | .dK ks ds, v, h => by
    obtain ⟨a, vs, e1, e2, e4, e3⟩ := h
    exact ⟨a, vs, e1, e _ _ e2 (fun ps z => by cases z), e4, IsL.mono e ds vs e3⟩
  | .dT ks ds, v, h => by
    obtain ⟨a, vs, e1, e2, e4, e3⟩ := h
    exact ⟨a, vs, e1, e _ _ e2 (fun ps z => by cases z), e4, IsL.mono e ds vs e3⟩
  | .fn x, v, h => h
  | .scr ns, v, h => by
    obtain ⟨a, e1, e2⟩ := h
    exact ⟨a, e1, e.sqL e2⟩
theorem IsL.mono {G : Gm} {H H' : Hp} (e : Le H H') : ∀ (ds : List D) (vs : List V), IsL G H ds vs → IsL G H' ds vs
  | [], vs, h => h
  | d :: ds, vs, h => by
    obtain ⟨v, r, e1, e2, e3⟩ := h
    exact ⟨v, r, e1, Is.mono e d v e2, IsL.mono e ds r e3⟩
end
theorem IsL.length {G : Gm} {H : Hp} : ∀ {ds : List D} {vs : List V}, IsL G H ds vs → ds.length = vs.length
  | [], vs, h => by
    obtain rfl : vs = [] := h
    rfl
  | d :: ds, vs, h => by
    obtain ⟨v, r, rfl, _, e3⟩ := h
    rw [List.length_cons, List.length_cons, IsL.length e3]
theorem IsL.get {G : Gm} {H : Hp} : ∀ {ds : List D} {vs : List V} {i : Nat} {d : D}, IsL G H ds vs → ds[i]? = some d → ∃ v, vs[i]? = some v ∧ Is G H d v
  | [], vs, i, d, h, e => by simp at e
  | x :: ds, vs, 0, d, h, e => by
    obtain ⟨v, r, rfl, e2, e3⟩ := h
    obtain rfl : x = d := by simpa using e
    exact ⟨v, rfl, e2⟩
  | x :: ds, vs, i + 1, d, h, e => by
    obtain ⟨v, r, rfl, e2, e3⟩ := h
    obtain ⟨w, h1, h2⟩ := IsL.get (i := i) (d := d) e3 (by simpa using e)
    exact ⟨w, by simpa using h1, h2⟩
theorem IsL.append {G : Gm} {H : Hp} : ∀ {ds es : List D} {vs ws : List V}, IsL G H ds vs → IsL G H es ws → IsL G H (ds ++ es) (vs ++ ws)
  | [], es, vs, ws, h, k => by
    obtain rfl : vs = [] := h
    exact k
  | d :: ds, es, vs, ws, h, k => by
    obtain ⟨v, r, rfl, e2, e3⟩ := h
    exact ⟨v, r ++ ws, rfl, e2, IsL.append e3 k⟩
theorem IsL.one {G : Gm} {H : Hp} {d : D} {v : V} (h : Is G H d v) : IsL G H [d] [v] := ⟨v, [], rfl, h, rfl⟩
theorem IsL.set {G : Gm} {H : Hp} {d : D} {v : V} (h : Is G H d v) : ∀ {ds : List D} {vs : List V} (i : Nat), IsL G H ds vs → IsL G H (ds.set i d) (vs.set i v)
  | [], vs, i, k => by
    obtain rfl : vs = [] := k
    rfl
  | x :: ds, vs, 0, k => by
    obtain ⟨w, r, rfl, e2, e3⟩ := k
    exact ⟨v, r, rfl, h, e3⟩
  | x :: ds, vs, i + 1, k => by
    obtain ⟨w, r, rfl, e2, e3⟩ := k
    exact ⟨w, r.set i v, rfl, e2, IsL.set h i e3⟩
theorem IsL.take {G : Gm} {H : Hp} : ∀ {ds : List D} {vs : List V} (n : Nat), IsL G H ds vs → IsL G H (ds.take n) (vs.take n)
  | [], vs, n, k => by
    obtain rfl : vs = [] := k
    rw [List.take_nil, List.take_nil]; rfl
  | x :: ds, vs, 0, k => rfl
  | x :: ds, vs, n + 1, k => by
    obtain ⟨w, r, rfl, e2, e3⟩ := k
    exact ⟨w, r.take n, rfl, e2, IsL.take n e3⟩
theorem IsL.drop {G : Gm} {H : Hp} : ∀ {ds : List D} {vs : List V} (n : Nat), IsL G H ds vs → IsL G H (ds.drop n) (vs.drop n)
  | [], vs, n, k => by
    obtain rfl : vs = [] := k
    rw [List.drop_nil, List.drop_nil]; rfl
  | x :: ds, vs, 0, k => k
  | x :: ds, vs, n + 1, k => by
    obtain ⟨w, r, rfl, e2, e3⟩ := k
    exact IsL.drop n e3
theorem IsL.ints {G : Gm} {H : Hp} : ∀ {ns : List Int} {vs : List V}, IsL G H (ns.map D.int) vs → vs = ns.map V.int
  | [], vs, h => h
  | n :: ns, vs, h => by
    obtain ⟨v, r, rfl, e2, e3⟩ := h
    obtain rfl : v = .int n := e2
    rw [IsL.ints e3]; rfl
theorem IsL.of_ints {G : Gm} {H : Hp} : ∀ (ns : List Int), IsL G H (ns.map D.int) (ns.map V.int)
  | [] => rfl
  | n :: ns => ⟨.int n, ns.map V.int, rfl, rfl, IsL.of_ints ns⟩

/-! ## slots: shared data, or a list (a dict) that is owned by the slot alone -/
inductive Slot where
  | no | v (d : D) | o (d : D)
abbrev Env' := List Slot
open Classical in
noncomputable def hid (H : Hp) (O : Addr → Prop) : Hp := fun a => if O a then none else H a
theorem hid_some {H : Hp} {O : Addr → Prop} {a : Addr} {o : HO} : hid H O a = some o ↔ ¬ O a ∧ H a = some o := by
  unfold hid
  by_cases h : O a
  · rw [if_pos h]
    exact ⟨fun z => (by cases z), fun z => absurd h z.1⟩
  · rw [if_neg h]
    exact ⟨fun z => ⟨h, z⟩, fun z => z.2⟩
theorem Le.hid {H H' : Hp} {O O' : Addr → Prop} (h : ∀ a o, H a = some o → (∀ ps, o ≠ .tbl ps) → ¬ O a → ¬ O' a ∧ H' a = some o) : Le (hid H O) (hid H' O') := fun a o e n => by
  obtain ⟨e1, e2⟩ := hid_some.mp e
  exact hid_some.mpr (h a o e2 n e1)
theorem Le.unhid {H : Hp} {O : Addr → Prop} : Le (Rf.hid H O) H := fun a o e n => (hid_some.mp e).2

/-- a slot's own addresses -/
def Ow (σ : St) (env : Env') (a : Addr) : Prop := ∃ (i : Nat) (d : D), env[i]? = some (Slot.o d) ∧ σ[i]? = some (some (V.ref a))
/-- what is hidden: the slots' own, and what others own -/
def Hd (F : Addr → Prop) (σ : St) (env : Env') (a : Addr) : Prop := Ow σ env a ∨ F a
/-- an owned object at a: its items are shared data -/
def OIs (G : Gm) (Hs H : Hp) : D → Addr → Prop
  | .lst xs, a => ∃ vs, H a = some (.lst vs) ∧ IsL G Hs xs vs
  | .dK ks ds, a => ∃ vs, H a = some (.dK (ks.zip vs)) ∧ ks.length = vs.length ∧ IsL G Hs ds vs
  | .dT ks ds, a => ∃ vs, H a = some (.dT (ks.zip vs)) ∧ ks.length = vs.length ∧ IsL G Hs ds vs
  | _, _ => False
def SlotOk (G : Gm) (Hs H : Hp) : Slot → Option V → Prop
  | .no, _ => True
  | .v d, x => ∃ v, x = some v ∧ Is G Hs d v
  | .o d, x => ∃ a, x = some (.ref a) ∧ OIs G Hs H d a
theorem OIs.mono {G : Gm} {Hs Hs' H H' : Hp} (e : Le Hs Hs') {d : D} {a : Addr} (h : OIs G Hs H d a) (k : H' a = H a) : OIs G Hs' H' d a := by
  cases d with
  | lst xs =>
    obtain ⟨vs, e1, e2⟩ := h
    exact ⟨vs, by rw [k]; exact e1, IsL.mono e _ _ e2⟩
  | dK ks ds =>
    obtain ⟨vs, e1, e3, e2⟩ := h
    exact ⟨vs, by rw [k]; exact e1, e3, IsL.mono e _ _ e2⟩
  | dT ks ds =>
    obtain ⟨vs, e1, e3, e2⟩ := h
    exact ⟨vs, by rw [k]; exact e1, e3, IsL.mono e _ _ e2⟩
  | non => exact h.elim
  | bl b => exact h.elim
  | int i => exact h.elim
  | str x => exact h.elim
  | tup xs => exact h.elim
  | fn x => exact h.elim
  | scr ns => exact h.elim
  | ctup xs => exact h.elim
theorem OIs.there {G : Gm} {Hs H : Hp} {d : D} {a : Addr} (h : OIs G Hs H d a) : ∃ o, H a = some o ∧ (∀ ps, o ≠ .tbl ps) ∧ L2.Mut (some o) := by
  cases d with
  | lst xs =>
    obtain ⟨vs, e1, e2⟩ := h
    exact ⟨_, e1, fun ps z => (by cases z), True.intro⟩
  | dK ks ds =>
    obtain ⟨vs, e1, e3, e2⟩ := h
    exact ⟨_, e1, fun ps z => (by cases z), True.intro⟩
  | dT ks ds =>
    obtain ⟨vs, e1, e3, e2⟩ := h
    exact ⟨_, e1, fun ps z => (by cases z), True.intro⟩
  | non => exact h.elim
  | bl b => exact h.elim
  | int i => exact h.elim
  | str x => exact h.elim
  | tup xs => exact h.elim
  | fn x => exact h.elim
  | scr ns => exact h.elim
  | ctup xs => exact h.elim
theorem OIs.mut {G : Gm} {Hs H : Hp} {d : D} {a : Addr} (h : OIs G Hs H d a) : L2.Mut (H a) := by
  obtain ⟨o, e, _, m⟩ := h.there
  rw [e]
  exact m
/-- an owned object that is let go is shared data -/
theorem OIs.is {G : Gm} {Hs Hs' H : Hp} {d : D} {a : Addr} (h : OIs G Hs H d a) (e : Le Hs Hs') (k : ∀ o, H a = some o → Hs' a = some o) : Is G Hs' d (.ref a) := by
  cases d with
  | lst xs =>
    obtain ⟨vs, e1, e2⟩ := h
    exact ⟨a, vs, rfl, k _ e1, IsL.mono e _ _ e2⟩
  | dK ks ds =>
    obtain ⟨vs, e1, e3, e2⟩ := h
    exact ⟨a, vs, rfl, k _ e1, e3, IsL.mono e _ _ e2⟩
  | dT ks ds =>
    obtain ⟨vs, e1, e3, e2⟩ := h
    exact ⟨a, vs, rfl, k _ e1, e3, IsL.mono e _ _ e2⟩
  | non => exact h.elim
  | bl b => exact h.elim
  | int i => exact h.elim
  | str x => exact h.elim
  | tup xs => exact h.elim
  | fn x => exact h.elim
  | scr ns => exact h.elim
  | ctup xs => exact h.elim
theorem SlotOk.mono {G : Gm} {Hs Hs' H H' : Hp} (e : Le Hs Hs') {s : Slot} {x : Option V} (h : SlotOk G Hs H s x) (k : ∀ d a, s = .o d → x = some (.ref a) → H' a = H a) : SlotOk G Hs' H' s x := by
  cases s with
  | no => trivial
  | v d =>
    obtain ⟨v, e1, e2⟩ := h
    exact ⟨v, e1, Is.mono e _ _ e2⟩
  | o d =>
    obtain ⟨a, e1, e2⟩ := h
    exact ⟨a, e1, e2.mono e (k d a rfl e1)⟩

/-- the tables of code objects; the slots that stay as they are -/
structure Tb where
  tabs : List (Addr × Str)
  pins : List (Nat × Addr)
  old : Hp
  vis : Hp
def TabP (T : Tb) (σ : St) (H : Hp) : Prop := Tabs T.tabs H ∧ ∀ p ∈ T.pins, σ[p.1]? = some (some (.ref p.2))
def Fr (T : Tb) (i : Nat) : Prop := ∀ p ∈ T.pins, p.1 ≠ i
theorem TabP.ext {T : Tb} {σ : St} {H H' : Hp} (t : TabP T σ H) (e : ∀ b o, H b = some o → H' b = some o) : TabP T σ H' := ⟨t.1.ext e, t.2⟩
theorem TabP.set {T : Tb} {σ : St} {H : Hp} (t : TabP T σ H) {i : Nat} (f : Fr T i) (x : Option V) : TabP T (σ.set i x) H := ⟨t.1, fun p hp => by
  rw [List.getElem?_set_ne (f p hp).symm]
  exact t.2 p hp⟩
/-- what was there at the frame's start stays, the slots own none of it -/
structure OldP (T : Tb) (σ : St) (H : Hp) (env : Env') : Prop where
  kp : ∀ a o, T.old a = some o → (∀ ps, o ≠ .tbl ps) → H a = some o
  dm : ∀ a, T.old a ≠ none → H a ≠ none
  ow : ∀ a, Ow σ env a → T.old a = none
theorem OldP.to {T : Tb} {σ σ' : St} {H H' : Hp} {env env' : Env'} (t : OldP T σ H env) (hk : ∀ a o, T.old a = some o → (∀ ps, o ≠ .tbl ps) → H a = some o → H' a = some o) (hd : ∀ a, T.old a ≠ none → H a ≠ none → H' a ≠ none) (hw : ∀ a, Ow σ' env' a → Ow σ env a ∨ T.old a = none) : OldP T σ' H' env' :=
  ⟨fun a o e n => hk a o e n (t.kp a o e n), fun a e => hd a e (t.dm a e), fun a z => (hw a z).elim (t.ow a) id⟩
theorem OldP.nil {T : Tb} {σ : St} {H : Hp} {env : Env'} (h : T.old = fun _ => none) : OldP T σ H env where
  kp := fun a o e => by
    rw [h] at e
    cases e
  dm := fun a e => absurd (congrFun h a) e
  ow := fun a _ => congrFun h a
theorem OldP.free {T : Tb} {σ : St} {H : Hp} {env : Env'} (t : OldP T σ H env) {a : Addr} (n : H a = none ∨ Ow σ env a) : T.old a = none := by
  rcases n with n | n
  · cases q : T.old a with
    | none => rfl
    | some o => exact absurd n (t.dm a (by rw [q]; simp))
  · exact t.ow a n
/-- the state at a place of the code: T the tables of code objects -/
structure Sta (G : Gm) (T : Tb) (F : Addr → Prop) (σ : St) (H : Hp) (env : Env') : Prop where
  len : env.length = σ.length
  sl : ∀ (i : Nat) s, env[i]? = some s → ∃ x, σ[i]? = some x ∧ SlotOk G (hid H (Hd F σ env)) H s x
  dis : ∀ (i j : Nat) d e a, env[i]? = some (.o d) → env[j]? = some (.o e) → σ[i]? = some (some (.ref a)) → σ[j]? = some (some (.ref a)) → i = j
  fr : ∀ a, Ow σ env a → ¬ F a
  fd : ∀ a, F a → L2.Mut (H a)
  tab : TabP T σ H
  old : OldP T σ H env
  vis : Le T.vis (hid H (Hd F σ env))
theorem Sta.fn {G : Gm} {T : Tb} {F : Addr → Prop} {σ : St} {H : Hp} {env : Env'} (S : Sta G T F σ H env) (a : Addr) (h : F a) : H a ≠ none := fun e => by
  have q := S.fd a h
  rw [e] at q
  exact q
/-- from a state to a later one -/
structure Stp (σ : St) (H : Hp) (env : Env') (σ' : St) (H' : Hp) (env' : Env') : Prop where
  keep : ∀ a o, H a = some o → (∀ ps, o ≠ .tbl ps) → ¬ Ow σ env a → H' a = some o
  own : ∀ a, H a ≠ none → ¬ Ow σ env a → ¬ Ow σ' env' a
  dom : ∀ a, H a ≠ none → H' a ≠ none
theorem Stp.refl {σ : St} {H : Hp} {env : Env'} : Stp σ H env σ H env := ⟨fun _ _ h _ _ => h, fun _ _ h => h, fun _ h => h⟩
theorem Stp.trans {σ σ1 σ2 : St} {H H1 H2 : Hp} {env env1 env2 : Env'} (a : Stp σ H env σ1 H1 env1) (b : Stp σ1 H1 env1 σ2 H2 env2) : Stp σ H env σ2 H2 env2 where
  keep := fun x o h n k => b.keep x o (a.keep x o h n k) n (a.own x (by rw [h]; simp) k)
  own := fun x h k => b.own x (a.dom x h) (a.own x h k)
  dom := fun x h => b.dom x (a.dom x h)
theorem Stp.le {σ σ' : St} {H H' : Hp} {env env' : Env'} (s : Stp σ H env σ' H' env') (F : Addr → Prop) : Le (hid H (Hd F σ env)) (hid H' (Hd F σ' env')) :=
  Le.hid fun a o e n h => by
    have h1 : ¬ Ow σ env a := fun z => h (.inl z)
    have h2 : ¬ F a := fun z => h (.inr z)
    refine ⟨fun z => ?_, s.keep a o e n h1⟩
    rcases z with z | z
    · exact s.own a (by rw [e]; simp) h1 z
    · exact h2 z

section
variable {G : Gm} {T : Tb} {F : Addr → Prop} {σ : St} {H : Hp} {env : Env'}
theorem Sta.val (S : Sta G T F σ H env) {i : Nat} {d : D} (h : env[i]? = some (.v d)) : ∃ v, σ[i]? = some (some v) ∧ Is G (hid H (Hd F σ env)) d v := by
  obtain ⟨x, e, v, rfl, k⟩ := S.sl i _ h
  exact ⟨v, e, k⟩
theorem Sta.own (S : Sta G T F σ H env) {i : Nat} {d : D} (h : env[i]? = some (.o d)) : ∃ a, σ[i]? = some (some (.ref a)) ∧ OIs G (hid H (Hd F σ env)) H d a ∧ Ow σ env a := by
  obtain ⟨x, e, a, rfl, k⟩ := S.sl i _ h
  exact ⟨a, e, k, ⟨i, d, h, e⟩⟩
/-- slots that are set to what is known -/
theorem get_set {α : Type} {l : List α} {i j : Nat} {x y : α} (h : (l.set i x)[j]? = some y) : (i = j ∧ y = x ∧ i < l.length) ∨ (i ≠ j ∧ l[j]? = some y) := by
  by_cases e : i = j
  · subst e
    by_cases q : i < l.length
    · rw [List.getElem?_set_self q] at h
      exact .inl ⟨rfl, (Option.some.inj h).symm, q⟩
    · rw [List.getElem?_eq_none (by simpa using q)] at h
      cases h
  · rw [List.getElem?_set_ne e] at h
    exact .inr ⟨e, h⟩
/-- an owned slot is let go: it is shared data from now on -/
theorem Sta.letGo (S : Sta G T F σ H env) {i : Nat} {d : D} (h : env[i]? = some (.o d)) : Sta G T F σ H (env.set i (.v d)) ∧ Stp σ H env σ H (env.set i (.v d)) ∧ ∃ v, σ[i]? = some (some v) ∧ Is G (hid H (Hd F σ (env.set i (.v d)))) d v := by
  obtain ⟨a, ea, oa, wa⟩ := S.own h
  have sub : ∀ b, Ow σ (env.set i (.v d)) b → Ow σ env b ∧ b ≠ a := fun b ⟨j, e, h1, h2⟩ => by
    rcases get_set h1 with ⟨_, q, _⟩ | ⟨q, h1⟩
    · cases q
    · refine ⟨⟨j, e, h1, h2⟩, fun z => q ?_⟩
      rw [z] at h2
      exact S.dis i j d e a h h1 ea h2
  have na : ¬ Hd F σ (env.set i (.v d)) a := fun z => by
    rcases z with z | z
    · exact (sub a z).2 rfl
    · exact S.fr a wa z
  have le : Le (hid H (Hd F σ env)) (hid H (Hd F σ (env.set i (.v d)))) := Le.hid fun b o e n k => ⟨fun z => k (by
    rcases z with z | z
    · exact .inl (sub b z).1
    · exact .inr z), e⟩
  have isd : Is G (hid H (Hd F σ (env.set i (.v d)))) d (.ref a) := oa.is le fun o e => hid_some.mpr ⟨na, e⟩
  refine ⟨⟨?_, fun j s e => ?_, fun j k x y b h1 h2 h3 h4 => ?_, fun b z => S.fr b (sub b z).1, S.fd, S.tab, S.old.to (fun _ _ _ _ h => h) (fun _ _ h => h) fun b z => .inl (sub b z).1, S.vis.trans le⟩, ⟨fun _ _ e _ _ => e, fun b _ k z => k (sub b z).1, fun _ e => e⟩, .ref a, ea, isd⟩
  · rw [List.length_set]; exact S.len
  · rcases get_set e with ⟨e1, e2, _⟩ | ⟨_, e⟩
    · subst e1 e2
      exact ⟨_, ea, .ref a, rfl, isd⟩
    · obtain ⟨x, e1, e2⟩ := S.sl j s e
      exact ⟨x, e1, e2.mono le fun _ _ _ _ => rfl⟩
  · rcases get_set h1 with ⟨_, q, _⟩ | ⟨_, h1⟩
    · cases q
    rcases get_set h2 with ⟨_, q, _⟩ | ⟨_, h2⟩
    · cases q
    exact S.dis j k x y b h1 h2 h3 h4
/-- more is hidden by nobody: what was another's alone is let go -/
theorem Sta.open (S : Sta G T (fun b => F b ∨ b = a) σ H env) : Sta G T F σ H env := by
  have le : Le (hid H (Hd (fun b => F b ∨ b = a) σ env)) (hid H (Hd F σ env)) := Le.hid fun b o e n k => ⟨fun z => k (by
    rcases z with z | z
    · exact .inl z
    · exact .inr (.inl z)), e⟩
  exact ⟨S.len, fun i s e => let ⟨x, e1, e2⟩ := S.sl i s e; ⟨x, e1, e2.mono le fun _ _ _ _ => rfl⟩, S.dis, fun b z k => S.fr b z (.inl k), fun b z => S.fd b (.inl z), S.tab, S.old, S.vis.trans le⟩
end
end Rf

namespace Rf
open PySem L2 LamX

/-! ## what a piece of code comes to -/
inductive Ro (α : Type) where
  | ok (a : α) (env : Env') | exc (c : Str) (p : Option (Str × D)) (env : Env') | stk
def Ro.bind {α β : Type} (r : Ro α) (g : α → Env' → Ro β) : Ro β := match r with
  | .ok a e => g a e
  | .exc c p e => .exc c p e
  | .stk => .stk
def lift {α : Type} (o : Option α) (env : Env') : Ro α := match o with
  | some a => .ok a env
  | none => .stk
/-- an exception as it flies -/
def ExcIs (G : Gm) (Hs H : Hp) (c : Str) (p : Option (Str × D)) (cls : Value) (dd : Option Addr) : Prop :=
  ∃ C, G.mg c = some (.ref C) ∧ cls = .ref C ∧ match p with
    | none => dd = none
    | some (f, d) => ∃ x v, dd = some x ∧ H x = some (.xd [(f, v)]) ∧ Is G Hs d v
abbrev Rel (α β : Type) := Hp → α → β → Prop
section
variable {α β γ δ : Type} (G : Gm) (T : Tb) (R : Rel α β) (F : Addr → Prop) (σ : St) (H : Hp) (env : Env') (W : WX) (Q : β → Hp → Prop)
def Rst : Ro α → Prop
  | .ok a env' => ∀ b H', Stp σ H env σ H' env' → Sta G T F σ H' env' → R (hid H' (Hd F σ env')) a b → Q b H'
  | .exc c p env' => ∀ cls dd H', Stp σ H env σ H' env' → Sta G T F σ H' env' → ExcIs G (hid H' (Hd F σ env')) H' c p cls dd → W cls dd σ H'
  | .stk => False
end
/-- the reading of a piece of code by what it comes to -/
def rd {α β : Type} (G : Gm) (T : Tb) (R : Rel α β) (f : Env' → Ro α) (W : WX) : St → Hp → (β → Hp → Prop) → Prop := fun σ H Q => ∃ (F : Addr → Prop) (env : Env'), Sta G T F σ H env ∧ Rst G T R F σ H env W Q (f env)
section
variable {α β γ δ : Type} {G : Gm} {T : Tb} {R : Rel α β} {R2 : Rel γ δ} {F : Addr → Prop} {σ : St} {H H1 : Hp} {env env1 : Env'} {W : WX}
theorem Rst.later {Q : β → Hp → Prop} {r : Ro α} (h : Rst G T R F σ H env W Q r) (s : Stp σ H env σ H1 env1) : Rst G T R F σ H1 env1 W Q r := by
  cases r with
  | ok a e => exact fun b H' s' => h b H' (s.trans s')
  | exc c p e => exact fun cls dd H' s' => h cls dd H' (s.trans s')
  | stk => exact h
theorem rd_bind {f : Env' → Ro α} {g : α → Env' → Ro γ} {Q : δ → Hp → Prop} {K : β → Hp → Prop} (h : rd G T R2 (fun env => (f env).bind g) W σ H Q)
    (k : ∀ F env a b H1, Sta G T F σ H1 env → R (hid H1 (Hd F σ env)) a b → Rst G T R2 F σ H1 env W Q (g a env) → K b H1) : rd G T R f W σ H K := by
  obtain ⟨F, env, S, h⟩ := h
  refine ⟨F, env, S, ?_⟩
  cases e : f env with
  | ok a e1 =>
    simp only [e, Ro.bind] at h
    exact fun b H' s st r => k F e1 a b H' st r (h.later s)
  | exc c p e1 =>
    simp only [e, Ro.bind] at h
    exact h
  | stk =>
    simp only [e, Ro.bind] at h
    exact h
theorem Rst.bind {f : Ro α} {g : α → Env' → Ro γ} {Q : δ → Hp → Prop} {K : β → Hp → Prop} (S : Sta G T F σ H env) (h : Rst G T R2 F σ H env W Q (f.bind g))
    (k : ∀ a b H1 env1, Stp σ H env σ H1 env1 → Sta G T F σ H1 env1 → R (hid H1 (Hd F σ env1)) a b → Rst G T R2 F σ H1 env1 W Q (g a env1) → K b H1) : Rst G T R F σ H env W K f := by
  cases f with
  | ok a e1 =>
    exact fun b H' s st r => k a b H' e1 s st r (Rst.later (r := g a e1) h s)
  | exc c p e1 => exact h
  | stk => exact h
end

/-! ## heaps that grow -/
def New (H H' : Hp) : Prop := ∀ a o, H a = some o → H' a = some o
theorem New.refl (H : Hp) : New H H := fun _ _ h => h
theorem New.trans {H H1 H2 : Hp} (a : New H H1) (b : New H1 H2) : New H H2 := fun x o h => b x o (a x o h)
theorem New.dom {H H' : Hp} (n : New H H') {a : Addr} (h : H a ≠ none) : H' a ≠ none := by
  cases q : H a with
  | none => exact absurd q h
  | some o => rw [n a o q]; simp
theorem New.upd {H : Hp} {p : Addr} {o : HO} (h : H p = none) : New H (upd H p o) := fun a u e => by
  rw [upd_ne (ne_of_none e h)]
  exact e
section
variable {G : Gm} {T : Tb} {F : Addr → Prop} {σ : St} {H H' : Hp} {env : Env'}
theorem mut_keep {H H' : Hp} {a : Addr} (m : L2.Mut (H a)) (k : ∀ o, H a = some o → (∀ ps, o ≠ .tbl ps) → H' a = some o) : L2.Mut (H' a) := by
  cases q : H a with
  | none => rw [q] at m; exact m.elim
  | some o =>
    rw [q] at m
    rw [k o q fun ps z => by rw [z] at m; exact m.elim]
    exact m
theorem Sta.hd_mut (S : Sta G T F σ H env) {a : Addr} (h : Hd F σ env a) : L2.Mut (H a) := by
  rcases h with ⟨i, d, h1, h2⟩ | h
  · obtain ⟨x, e, k⟩ := S.sl i _ h1
    rw [h2] at e
    obtain rfl := Option.some.inj e
    obtain ⟨a', e', k⟩ := k
    obtain rfl : a = a' := by cases e'; rfl
    exact k.mut
  · exact S.fd a h
theorem Sta.hd_there (S : Sta G T F σ H env) {a : Addr} (h : Hd F σ env a) : H a ≠ none := fun e => by
  have m := S.hd_mut h
  rw [e] at m
  exact m
theorem New.le (n : New H H') (S : Sta G T F σ H env) : Le (hid H (Hd F σ env)) (hid H' (Hd F σ env)) := Le.hid fun a o e _ k => ⟨k, n a o e⟩
theorem Sta.new (S : Sta G T F σ H env) (n : New H H') : Sta G T F σ H' env := by
  refine ⟨S.len, fun i s e => ?_, S.dis, S.fr, fun a z => ?_, S.tab.ext n, S.old.to (fun a o _ _ h => n a o h) (fun a _ h => n.dom h) fun _ z => .inl z, S.vis.trans (n.le S)⟩
  · obtain ⟨x, e1, e2⟩ := S.sl i s e
    refine ⟨x, e1, e2.mono (n.le S) fun d a es ex => ?_⟩
    subst es ex
    obtain ⟨a', e', k⟩ := e2
    obtain rfl : a = a' := by cases e'; rfl
    obtain ⟨o, z, _⟩ := k.there
    rw [z, n _ _ z]
  · have m := S.fd a z
    cases q : H a with
    | none => exact absurd q (S.fn a z)
    | some o =>
      rw [n a o q]
      rwa [q] at m
theorem New.stp (n : New H H') : Stp σ H env σ H' env := ⟨fun a o e _ _ => n a o e, fun _ _ k => k, fun a h => by
  cases q : H a with
  | none => exact absurd q h
  | some o => rw [n a o q]; simp⟩
theorem hd_or {p a : Addr} (z : Hd (fun b => F b ∨ b = p) σ env a) : Hd F σ env a ∨ a = p := by
  rcases z with z | z | z
  · exact .inl (.inl z)
  · exact .inl (.inr z)
  · exact .inr z
theorem Sta.leNew (S : Sta G T F σ H env) {p : Addr} {o : HO} (h : H p = none) : Le (hid H (Hd F σ env)) (hid (upd H p o) (Hd (fun b => F b ∨ b = p) σ env)) := Le.hid fun a u e _ k => by
  refine ⟨fun z => ?_, New.upd h a u e⟩
  rcases hd_or z with z | z
  · exact k z
  · rw [z, h] at e
    cases e
/-- a new object, hidden -/
theorem Sta.newHid (S : Sta G T F σ H env) {p : Addr} {o : HO} (h : H p = none) (m : L2.Mut (some o) := by exact True.intro) : Sta G T (fun b => F b ∨ b = p) σ (upd H p o) env := by
  have n : New H (upd H p o) := New.upd h
  have hp : ∀ a, Hd F σ env a → a ≠ p := fun a z e => S.hd_there z (by rw [e]; exact h)
  have le := S.leNew (o := o) h
  refine ⟨S.len, fun i s e => ?_, S.dis, fun a z k => ?_, fun a z => ?_, S.tab.ext n, S.old.to (fun a o _ _ h => n a o h) (fun a _ h => n.dom h) fun _ z => .inl z, S.vis.trans le⟩
  · obtain ⟨x, e1, e2⟩ := S.sl i s e
    refine ⟨x, e1, e2.mono le fun d a es ex => ?_⟩
    subst es ex
    rw [upd_ne (hp a (.inl ⟨i, d, e, e1⟩))]
  · rcases k with k | k
    · exact S.fr a z k
    · exact hp a (.inl z) k
  · rcases z with z | z
    · rw [upd_ne (hp a (.inr z))]
      exact S.fd a z
    · rw [z, upd_same]
      exact m
end

/-! ## the judgements -/
abbrev gm (X : Cx) : Gm := ⟨X.K, X.mg⟩
/-- what a context must give -/
structure Ctx (X : Cx) (k : Nat) : Prop where
  room : Room k X.A
  gd : X.A.guards = some []
  calm : X.calm = true
  nd : X.N.Nodup
/-- .. in an except suite, too -/
structure Cs (X : Cx) : Prop where
  hu : X.A.units + 100 < cLine
  nd : X.N.Nodup
theorem Ctx.cs {X : Cx} {k : Nat} (C : Ctx X k) : Cs X := ⟨by have := C.room.un; omega, C.nd⟩
def isD (G : Gm) : Rel D V := fun Hs d v => Is G Hs d v
def isB : Rel Bool Bool := fun _ a b => a = b
def isA (G : Gm) : Rel (List D) (List V) := fun Hs ds vs => IsL G Hs ds vs
def SE (X : Cx) (T : Tb) (W : WX) (e : Expr) (f : Env' → Ro D) : Prop := PE X e (rd (gm X) T (isD (gm X)) f W)
def SQ (X : Cx) (T : Tb) (W : WX) (e : Expr) (f : Env' → Ro Bool) : Prop := PT X e (rd (gm X) T isB f W)
def SW (X : Cx) (T : Tb) (W : WX) (e : Expr) (f : Env' → Ro Bool) : Prop := PW X e (rd (gm X) T isB f W)
def SA (X : Cx) (T : Tb) (W : WX) (es : List Expr) (f : Env' → Ro (List D)) : Prop := PA X es (rd (gm X) T (isA (gm X)) f W)
theorem PE.weak {X : Cx} {e : Expr} {t u : TE} (h : PE X e t) (k : ∀ σ H Q, u σ H Q → t σ H Q) : PE X e u := ⟨fun pins s σ H Q I q => h.run pins s σ H Q I (k σ H Q q)⟩
theorem PT.weak {X : Cx} {e : Expr} {t u : TT} (h : PT X e t) (k : ∀ σ H Q, u σ H Q → t σ H Q) : PT X e u := ⟨fun pins s σ H Q I q => h.run pins s σ H Q I (k σ H Q q)⟩
theorem PW.weak {X : Cx} {e : Expr} {t u : TT} (h : PW X e t) (k : ∀ σ H Q, u σ H Q → t σ H Q) : PW X e u := ⟨fun wh pins s σ H Q I q => h.run wh pins s σ H Q I (k σ H Q q)⟩
theorem PA.weak {X : Cx} {es : List Expr} {t u : TA} (h : PA X es t) (k : ∀ σ H Q, u σ H Q → t σ H Q) : PA X es u := ⟨fun pos pins s σ H Q I q => h.run pos pins s σ H Q I (k σ H Q q)⟩
theorem PS.weak {X : Cx} {e : Stmt} {t u : TS} (h : PS X e t) (k : ∀ D σ H, u D σ H → t D σ H) : PS X e u := ⟨fun pins s σ H D I q => h.run pins s σ H D I (k D σ H q)⟩
theorem PSs.weak {X : Cx} {e : List Stmt} {t u : TS} (h : PSs X e t) (k : ∀ D σ H, u D σ H → t D σ H) : PSs X e u := ⟨fun pins s σ H D I q => h.run pins s σ H D I (k D σ H q)⟩
theorem PI.weak {X : Cx} {tg it : Expr} {t u : TI} (h : PI X tg it t) (k : ∀ σ H R, u σ H R → t σ H R) : PI X tg it u := ⟨fun pins s σ H R I q => h.run pins s σ H R I (k σ H R q)⟩

/-! a new object as a result: owned by nobody yet -/
def RstF (G : Gm) (T : Tb) (F : Addr → Prop) (σ : St) (H : Hp) (env : Env') (W : WX) (Q : VK) : Ro D → Prop
  | .ok d env' => ∀ a H', Stp σ H env σ H' env' → Sta G T (fun b => F b ∨ b = a) σ H' env' → OIs G (hid H' (Hd (fun b => F b ∨ b = a) σ env')) H' d a → H a = none → Q (.ref a) H'
  | .exc c p env' => ∀ cls dd H', Stp σ H env σ H' env' → Sta G T F σ H' env' → ExcIs G (hid H' (Hd F σ env')) H' c p cls dd → W cls dd σ H'
  | .stk => False
def rdF (G : Gm) (T : Tb) (f : Env' → Ro D) (W : WX) : TE := fun σ H Q => ∃ (F : Addr → Prop) (env : Env'), Sta G T F σ H env ∧ RstF G T F σ H env W Q (f env)
def SF (X : Cx) (T : Tb) (W : WX) (e : Expr) (f : Env' → Ro D) : Prop := PE X e (rdF (gm X) T f W)
theorem le_open {G : Gm} {F : Addr → Prop} {σ : St} {H : Hp} {env : Env'} {a : Addr} : Le (hid H (Hd (fun b => F b ∨ b = a) σ env)) (hid H (Hd F σ env)) := Le.hid fun b o e n k => ⟨fun z => k (by
    rcases z with z | z
    · exact .inl z
    · exact .inr (.inl z)), e⟩
theorem OIs.open {G : Gm} {T : Tb} {F : Addr → Prop} {σ : St} {H H0 : Hp} {env : Env'} {a : Addr} {d : D} (h : OIs G (hid H (Hd (fun b => F b ∨ b = a) σ env)) H d a) (S : Sta G T (fun b => F b ∨ b = a) σ H env) (k : ¬ F a) : Is G (hid H (Hd F σ env)) d (.ref a) :=
  h.is (le_open (G := G)) fun o e => hid_some.mpr ⟨fun z => by
    rcases z with z | z
    · exact S.fr a z (.inr rfl)
    · exact k z, e⟩
section
variable {G : Gm} {T : Tb} {F : Addr → Prop} {σ : St} {H H1 : Hp} {env env1 : Env'} {W : WX}
theorem RstF.later {Q : VK} {r : Ro D} (h : RstF G T F σ H env W Q r) (s : Stp σ H env σ H1 env1) : RstF G T F σ H1 env1 W Q r := by
  cases r with
  | ok a e => exact fun b H' s' st o n => h b H' (s.trans s') st o (by
      cases q : H b with
      | none => rfl
      | some u => exact absurd n (s.dom b (by rw [q]; simp)))
  | exc c p e => exact fun cls dd H' s' => h cls dd H' (s.trans s')
  | stk => exact h
theorem rdF_bind {α β : Type} {R : Rel α β} {f : Env' → Ro α} {g : α → Env' → Ro D} {Q : VK} {K : β → Hp → Prop} (h : rdF G T (fun env => (f env).bind g) W σ H Q)
    (k : ∀ F env a b H1, Sta G T F σ H1 env → R (hid H1 (Hd F σ env)) a b → RstF G T F σ H1 env W Q (g a env) → K b H1) : rd G T R f W σ H K := by
  obtain ⟨F, env, S, h⟩ := h
  refine ⟨F, env, S, ?_⟩
  cases e : f env with
  | ok a e1 =>
    simp only [e, Ro.bind] at h
    exact fun b H' s st r => k F e1 a b H' st r (h.later s)
  | exc c p e1 =>
    simp only [e, Ro.bind] at h
    exact h
  | stk =>
    simp only [e, Ro.bind] at h
    exact h
end
theorem SF.se {X : Cx} {T : Tb} {W : WX} {e : Expr} {f : Env' → Ro D} (h : SF X T W e f) : SE X T W e f := PE.weak h fun σ H Q q => by
  obtain ⟨F, env, S, q⟩ := q
  refine ⟨F, env, S, ?_⟩
  cases e : f env with
  | ok d e1 =>
    rw [e] at q
    intro a H' s st o n
    exact q _ H' s st.open (o.open (H0 := H) st fun z => S.fn a z n)
  | exc c p e1 =>
    rw [e] at q
    exact q
  | stk =>
    rw [e] at q
    exact q
end Rf

namespace Rf
open PySem L2 LamX
/-! tuple * 1 -/
section
open PySem PySem.Spec PyProof.Rows
theorem tuple_mul1 (l : Addr) (items : Array Value) (n : Nat) (dd : Option Addr) (sl : Array (Option Value)) (u : Tok) :
    Meets (Builtin.«tuple.__mul__» ⟨[.ref l, .int 1 u], []⟩) (fun _ R s => s.heap.get? l = some { cls := .type "tuple", dict := dd, data := .seq items n, slots := sl } ∧
      R (.ok (.ret (Value.ref l))) s) :=
  .of_wp fun prog w A R s h => by
    obtain ⟨hp, g, d, tk, os⟩ := s
    obtain ⟨hl, h⟩ := h
    have f1 := AutoSeq1.idx_int
    wp_walk using wpAny_loadPart' hl
    exact ⟨_, rfl, h⟩
def rRepT1 (K : PySem.W.Frag) : L2.R2 := fun x y H Q => ∃ l xs, x = .ref l ∧ y = .int 1 ∧ L2.SqT K H l xs ∧ Q (.ref l) H
theorem op_repT1 {X : L2.Cx} : L2.OpR X (binaryOp .Mult) (rRepT1 X.K) := by
  intro pins s σ H x y v u Q I rx ry h
  obtain ⟨l, xs, rfl, rfl, hT, q⟩ := h
  cases rx
  obtain ⟨t, rfl⟩ := ry
  obtain ⟨its, r, ⟨⟨cls, dd, data, sl⟩, ho, hc, n, hd⟩, hs⟩ := I.tuple hT
  simp only at hc hd
  subst hc hd
  refine wpAny_binaryOp_repeat_ref (T := "tuple") (U := "int") (by decide) ⟨_, ho, rfl⟩ (fun s' => typeIs_int s' 1 t) L2.noFill_tuple_mul F.fills_int_mul F.slot_int_rmul L2.repeat_tuple F.slot_int_index.lookup
    (call_meets F.slot_int_rmul (typeIs_int s 1 t) F.entry_int_rmul (F.args_int_rmul_2 _ _) (L2.int_rmul_tuple 1 t l its.toArray n dd sl)
      ⟨ho, rfl, ⟨_, ho, rfl⟩, call_meets F.slot_tuple_mul ⟨_, ho, rfl⟩ F.entry_tuple_mul (F.args_tuple_mul_2 _ _) (tuple_mul1 l its.toArray n dd sl t) ⟨ho, ?_⟩⟩)
  exact ⟨.ref l, _, I, rfl, q⟩
end

section
variable {G : Gm} {T : Tb} {F : Addr → Prop} {σ : St} {H H' : Hp} {env : Env'} {W : WX}
theorem fin_new {d : D} {v : V} {Q : VK} (S : Sta G T F σ H env) (n : New H H') (his : ∀ Hs', Le (hid H (Hd F σ env)) Hs' → (∀ a o, H a = none → H' a = some o → Hs' a = some o) → Is G Hs' d v)
    (h : Rst G T (isD G) F σ H env W Q (.ok d env)) : Q v H' :=
  h v H' n.stp (S.new n) (his _ (n.le S) fun a o h1 h2 => hid_some.mpr ⟨fun z => S.hd_there z h1, h2⟩)
theorem fin_same {α β : Type} {R : Rel α β} {a : α} {b : β} {Q : β → Hp → Prop} (S : Sta G T F σ H env) (r : R (hid H (Hd F σ env)) a b) (h : Rst G T R F σ H env W Q (.ok a env)) : Q b H := h b H .refl S r
/-- a new list (dict) at p as the result -/
theorem fin_newF {d : D} {p : Addr} {o : HO} {Q : VK} (S : Sta G T F σ H env) (hp : H p = none) (ho : ∀ Hs, Le (hid H (Hd F σ env)) Hs → OIs G Hs (upd H p o) d p) (h : RstF G T F σ H env W Q (.ok d env)) : Q (.ref p) (upd H p o) :=
  h p _ (New.upd hp).stp (S.newHid hp (by have q := (ho _ (Le.refl _)).mut; rwa [upd_same] at q)) (ho _ (S.leNew hp)) hp
end

/-! ## names and constants -/
def eVar (i : Nat) : Env' → Ro D := fun env => match env[i]? with
  | some (.v d) => .ok d env
  | some (.o d) => .ok d (env.set i (.v d))
  | _ => .stk
def eC (d : D) : Env' → Ro D := fun env => .ok d env
section
variable {X : Cx} {T : Tb} {W : WX} {k : Nat}
theorem se_var (i : Nat) {x : Str} {pos : Pos} (hN : X.N[i]? = some x := by rfl) (hv : Vis X.env.scope x := by first | exact Or.inl rfl | exact Or.inr (Or.inl rfl) | exact Or.inr (Or.inr rfl)) (hd : (x == ("__debug__" : Str)) = false := by decide)
    (hcd : (x == ("__classdict__" : Str)) = false := by decide) : SE X T W (.Name x pos) (eVar i) := PE.weak (pe_var hN hv hd hcd) fun σ H Q h => by
  obtain ⟨F, env, S, h⟩ := h
  unfold eVar at h
  split at h
  · rename_i d e
    obtain ⟨v, e1, e2⟩ := S.val e
    exact ⟨v, e1, h v H .refl S e2⟩
  · rename_i d e
    obtain ⟨S', st, v, e1, e2⟩ := S.letGo e
    exact ⟨v, e1, h v H st S' e2⟩
  · exact h.elim
theorem se_const {e : Expr} {v : V} {d : D} (h : PE X e (tC v)) (k : ∀ Hs, Is (gm X) Hs d v) : SE X T W e (eC d) := PE.weak h fun σ H Q h => by
  obtain ⟨F, env, S, h⟩ := h
  exact h v H .refl S (k _)
theorem se_int {i : Int} {j pos} : SE X T W (.Constant (.int i) j pos) (eC (.int i)) := se_const pe_int fun _ => rfl
theorem se_bl {b : Bool} {j pos} : SE X T W (.Constant (.bool b) j pos) (eC (.bl b)) := se_const pe_bl fun _ => rfl
theorem se_non {j pos} : SE X T W (.Constant .none j pos) (eC .non) := se_const pe_non fun _ => rfl
theorem se_str {x : Str} {j pos} : SE X T W (.Constant (.str x) j pos) (eC (.str x)) := se_const pe_str fun _ => rfl
/-- a def of the module as a value -/
theorem se_fn {x : Str} {f : Addr} {pos : Pos} (hg : Gl X x) (hm : X.mg x = some (.ref f)) (hd : (x == ("__debug__" : Str)) = false := by decide) : SE X T W (.Name x pos) (eC (.fn x)) :=
  se_const (pe_glob hg hm (v := .ref f) rfl hd) fun _ => ⟨f, rfl, hm⟩
/-- a module's constant -/
theorem se_glob {x : Str} {v : V} {u : Value} {d : D} {pos : Pos} (hg : Gl X x) (hm : X.mg x = some u) (r : RelV v u) (k : ∀ Hs, Is (gm X) Hs d v) (hd : (x == ("__debug__" : Str)) = false := by decide) : SE X T W (.Name x pos) (eC d) :=
  se_const (pe_glob hg hm r hd) k

/-! ## operators -/
def OpD (G : Gm) (r : R2) (o : D → D → Option D) : Prop := ∀ {Hs H : Hp} {d1 d2 d : D} {v1 v2 : V} {Q : VK}, Le Hs H → Is G Hs d1 v1 → Is G Hs d2 v2 → o d1 d2 = some d →
  (∀ v H', New H H' → (∀ Hs', Le Hs Hs' → (∀ a o, H a = none → H' a = some o → Hs' a = some o) → Is G Hs' d v) → Q v H') → r v1 v2 H Q
def OpB (G : Gm) (r : R2) (o : D → D → Option Bool) : Prop := ∀ {Hs H : Hp} {d1 d2 : D} {b : Bool} {v1 v2 : V} {Q : VK}, Le Hs H → Is G Hs d1 v1 → Is G Hs d2 v2 → o d1 d2 = some b → Q (.bl b) H → r v1 v2 H Q
def eOp (o : D → D → Option D) (f g : Env' → Ro D) : Env' → Ro D := fun env => (f env).bind fun d1 e1 => (g e1).bind fun d2 e2 => lift (o d1 d2) e2
def eCmp (o : D → D → Option Bool) (f g : Env' → Ro D) : Env' → Ro D := eOp (fun a b => (o a b).map D.bl) f g
def qCmp (o : D → D → Option Bool) (f g : Env' → Ro D) : Env' → Ro Bool := fun env => (f env).bind fun d1 e1 => (g e1).bind fun d2 e2 => lift (o d1 d2) e2
theorem OpB.d {G : Gm} {r : R2} {o : D → D → Option Bool} (h : OpB G r o) : OpD G r (fun a b => (o a b).map D.bl) := fun {Hs H d1 d2 d v1 v2 Q} l i1 i2 e q => by
  dsimp only at e
  cases e1 : o d1 d2 with
  | none => rw [e1] at e; cases e
  | some b =>
    rw [e1] at e
    obtain rfl : D.bl b = d := Option.some.inj e
    exact h l i1 i2 e1 (q _ H (New.refl H) fun _ _ _ => rfl)
theorem rd_op {G : Gm} {r : R2} {o : D → D → Option D} {f g : Env' → Ro D} {σ : St} {H : Hp} {Q : VK} (hd : OpD G r o) (h : rd G T (isD G) (eOp o f g) W σ H Q) :
    tOp r (rd G T (isD G) f W) (rd G T (isD G) g W) σ H Q := by
  refine rd_bind h fun F env d1 v1 H1 S1 i1 h1 => ⟨F, env, S1, Rst.bind S1 h1 fun d2 v2 H2 env2 s2 S2 i2 h2 => ?_⟩
  cases e : o d1 d2 with
  | none =>
    rw [e] at h2
    exact h2.elim
  | some d =>
    rw [e] at h2
    exact hd Le.unhid (Is.mono (s2.le F) _ _ i1) i2 e fun v H' n k => fin_new S2 n k h2
theorem rd_opB {G : Gm} {r : R2} {o : D → D → Option Bool} {f g : Env' → Ro D} {σ : St} {H : Hp} {Q : Bool → Hp → Prop} (hd : OpB G r o) (h : rd G T isB (qCmp o f g) W σ H Q) :
    tTest (tOp r (rd G T (isD G) f W) (rd G T (isD G) g W)) σ H Q := by
  refine rd_bind h fun F env d1 v1 H1 S1 i1 h1 => ⟨F, env, S1, Rst.bind S1 h1 fun d2 v2 H2 env2 s2 S2 i2 h2 => ?_⟩
  cases e : o d1 d2 with
  | none =>
    rw [e] at h2
    exact h2.elim
  | some b =>
    rw [e] at h2
    exact hd Le.unhid (Is.mono (s2.le F) _ _ i1) i2 e ⟨b, rfl, fin_same S2 rfl h2⟩
variable {a b : Expr} {f g : Env' → Ro D} {pos : Pos}
theorem se_op {op : Operator} {r : R2} {o : D → D → Option D} (ho : OpR X (binaryOp op) r) (hd : OpD (gm X) r o) (ha : SE X T W a f) (hb : SE X T W b g) : SE X T W (.BinOp a op b pos) (eOp o f g) :=
  PE.weak (pe_op ho ha hb) fun σ H Q h => rd_op hd h
theorem se_cmp {op : CmpOp} {r : R2} {o : D → D → Option Bool} (ho : OpR X (compareOp op) r) (hd : OpB (gm X) r o) (hm : behindInMarks op b = false) (ha : SE X T W a f) (hb : SE X T W b g) : SE X T W (.Compare a [op] [b] pos) (eCmp o f g) :=
  PE.weak (pe_cmpR ho ha hb hm) fun σ H Q h => rd_op hd.d h
theorem sq_cmp {op : CmpOp} {r : R2} {o : D → D → Option Bool} (ho : OpR X (compareOp op) r) (hd : OpB (gm X) r o) (hm : behindInMarks op b = false) (ha : SE X T W a f) (hb : SE X T W b g) : SQ X T W (.Compare a [op] [b] pos) (qCmp o f g) :=
  PT.weak (pt_cmpR ho ha hb hm) fun σ H Q h => rd_opB hd h

/-! ints -/
def dI2 (C : Int → Int → Bool) (f : Int → Int → Int) : D → D → Option D
  | .int i, .int j => if C i j then some (.int (f i j)) else none
  | _, _ => none
theorem dI2_some {C : Int → Int → Bool} {f : Int → Int → Int} {d1 d2 d : D} (h : dI2 C f d1 d2 = some d) : ∃ i j, d1 = .int i ∧ d2 = .int j ∧ C i j = true ∧ d = .int (f i j) := by
  unfold dI2 at h
  split at h
  · rename_i i j
    split at h
    · rename_i hc
      exact ⟨i, j, rfl, rfl, hc, (Option.some.inj h).symm⟩
    · cases h
  · cases h
theorem opI2 {G : Gm} {C : Int → Int → Bool} {P : Int → Int → Prop} {f : Int → Int → Int} (hc : ∀ i j, C i j = true → P i j) : OpD G (rI P fun i j => .int (f i j)) (dI2 C f) := fun {Hs H d1 d2 d v1 v2 Q} l i1 i2 e q => by
  obtain ⟨i, j, rfl, rfl, c, rfl⟩ := dI2_some e
  exact ⟨i, j, i1, i2, hc i j c, q _ H (New.refl H) fun _ _ _ => rfl⟩
def tru2 (_ _ : Int) : Bool := true
theorem opI20 {G : Gm} {f : Int → Int → Int} : OpD G (rI0 fun i j => .int (f i j)) (dI2 tru2 f) := fun {Hs H d1 d2 d v1 v2 Q} l i1 i2 e q => by
  obtain ⟨i, j, rfl, rfl, c, rfl⟩ := dI2_some e
  exact ⟨i, j, i1, i2, q _ H (New.refl H) fun _ _ _ => rfl⟩
/-- * : together less than a hundred million bits -/
def CMulB (i j : Int) : Prop := i.natAbs.log2 + j.natAbs.log2 < 100000000
theorem CMulB.ok {i j : Int} (h : CMulB i j) : PySem.IntMulOk i j := by
  have b : ∀ x : Int, Builtin.Int.intBits x ≤ x.natAbs.log2 + 1 := fun x => by
    unfold Builtin.Int.intBits
    split <;> omega
  have h1 := b i
  have h2 := b j
  have h3 : i.natAbs.log2 + j.natAbs.log2 < 100000000 := h
  have e : bitsLine = 134217728 := by decide
  unfold PySem.IntMulOk
  intro z
  rw [Bool.and_eq_true] at z
  have z2 := z.2
  unfold Builtin.Int.intTooBig at z2
  have z3 := of_decide_eq_true z2
  rw [e] at z3
  omega
theorem op_mulB {X : Cx} : OpR X (binaryOp .Mult) (rI CMulB fun i j => .int (i * j)) := opI fun _ _ _ _ _ _ _ hc q => PyProof.Rows.mul_int q hc.ok
def okMul (i j : Int) : Bool := decide (i.natAbs.log2 + j.natAbs.log2 < 100000000)
/-- // and %: a divisor above nought, below 2 ^ 9000 -/
def CDivN (_ j : Int) : Prop := j ≠ 0 ∧ j.natAbs.log2 < 9000
/-- floored division, by a divisor of either sign -/
def divN (i j : Int) : Int := if j < 0 then (-i) / (-j) else i / j
theorem divN_eq {i j : Int} (h : j ≠ 0) : i.fdiv j = divN i j := by
  unfold divN
  split
  · rw [← Int.fdiv_eq_ediv_of_nonneg (-i) (by omega), Int.neg_fdiv_neg]
  · exact Int.fdiv_eq_ediv_of_nonneg i (by omega)
theorem op_fdivN {X : Cx} : OpR X (binaryOp .FloorDiv) (rI CDivN fun i j => .int (divN i j)) := opI fun i j _ _ _ _ _ hc q => PyProof.Rows.floordiv_int hc.1 (by rw [divN_eq hc.1]; exact q) (.inl (PyProof.noPylong_of_log2 hc.2))
def okDiv (_ j : Int) : Bool := decide (j ≠ 0 ∧ j.natAbs.log2 < 9000)
def okMod (_ j : Int) : Bool := decide (0 < j)
def okPow (i j : Int) : Bool := decide (0 ≤ j ∧ j ≤ 1000000 ∧ i.natAbs < 2 ^ 64)
def dSub : D → D → Option D := dI2 tru2 fun i j => i - j
def dMulI : D → D → Option D := dI2 okMul fun i j => i * j
def dDiv : D → D → Option D := dI2 okDiv divN
def dMod : D → D → Option D := dI2 okMod fun i j => i % j
def dPow : D → D → Option D := dI2 okPow fun i j => i ^ j.toNat
theorem od_sub : OpD (gm X) (rI0 fun i j => .int (i - j)) dSub := opI20
theorem od_mul : OpD (gm X) (rI CMulB fun i j => .int (i * j)) dMulI := opI2 fun i j h => of_decide_eq_true h
theorem od_div : OpD (gm X) (rI CDivN fun i j => .int (divN i j)) dDiv := opI2 fun i j h => of_decide_eq_true h
theorem od_mod : OpD (gm X) (rI (fun _ j => 0 < j) fun i j => .int (i % j)) dMod := opI2 fun i j h => of_decide_eq_true h
theorem od_pow : OpD (gm X) (rI CPow fun i j => .int (i ^ j.toNat)) dPow := opI2 fun i j h => of_decide_eq_true h
theorem se_sub (ha : SE X T W a f) (hb : SE X T W b g) : SE X T W (.BinOp a .Sub b pos) (eOp dSub f g) := se_op op_sub od_sub ha hb
theorem se_mulI (ha : SE X T W a f) (hb : SE X T W b g) : SE X T W (.BinOp a .Mult b pos) (eOp dMulI f g) := se_op op_mulB od_mul ha hb
theorem se_div (ha : SE X T W a f) (hb : SE X T W b g) : SE X T W (.BinOp a .FloorDiv b pos) (eOp dDiv f g) := se_op op_fdivN od_div ha hb
theorem se_mod (ha : SE X T W a f) (hb : SE X T W b g) : SE X T W (.BinOp a .Mod b pos) (eOp dMod f g) := se_op op_mod od_mod ha hb
theorem se_pow (ha : SE X T W a f) (hb : SE X T W b g) : SE X T W (.BinOp a .Pow b pos) (eOp dPow f g) := se_op op_pow od_pow ha hb
/-! + of ints, texts, tuples, lists -/
def dAddT : D → D → Option D
  | .tup xs, .tup ys => if xs.length + ys.length ≤ sizeLine then some (.tup (xs ++ ys)) else none
  | _, _ => none
def dAddL : D → D → Option D
  | .lst xs, .lst ys => if xs.length + ys.length ≤ sizeLine then some (.lst (xs ++ ys)) else none
  | _, _ => none
def dAddS : D → D → Option D
  | .str x, .str y => if x.length + y.length ≤ sizeLine then some (.str (x ++ y)) else none
  | _, _ => none
def dAddI : D → D → Option D := dI2 tru2 fun i j => i + j
def dAdd (a b : D) : Option D := match a with
  | .int _ => dAddI a b
  | .str _ => dAddS a b
  | .tup _ => dAddT a b
  | _ => dAddL a b
theorem od_addI : OpD (gm X) (rI0 fun i j => .int (i + j)) dAddI := opI20
theorem is_tup {G : Gm} {Hs H' : Hp} {xs : List D} {vs : List V} {p : Addr} (h : Hs p = some (.tup vs)) (k : IsL G Hs xs vs) : Is G Hs (.tup xs) (.ref p) := ⟨p, vs, rfl, h, k⟩
theorem od_addT : OpD (gm X) (rCatA X.K) dAddT := fun {Hs H d1 d2 d v1 v2 Q} l i1 i2 e q => by
  unfold dAddT at e
  split at e
  · rename_i xs ys
    obtain ⟨a, vs, rfl, s1, k1⟩ := i1
    obtain ⟨b, ws, rfl, s2, k2⟩ := i2
    split at e
    · rename_i hz
      obtain rfl := Option.some.inj e
      have e1 := IsL.length k1
      have e2 := IsL.length k2
      refine ⟨a, b, vs, ws, rfl, rfl, l.tq s1, l.tq s2, by omega, fun z => ?_, fun _ z => ?_, fun _ _ p hp => ?_⟩
      · subst z
        have e0 : xs = [] := List.eq_nil_of_length_eq_zero e1
        subst e0
        exact q _ H (New.refl H) fun Hs' l' n' => ⟨b, ws, rfl, l'.tp s2, IsL.mono l' _ _ k2⟩
      · subst z
        have e0 : ys = [] := List.eq_nil_of_length_eq_zero e2
        subst e0
        refine q _ H (New.refl H) fun Hs' l' n' => ?_
        rw [List.append_nil]
        exact ⟨a, vs, rfl, l'.tp s1, IsL.mono l' _ _ k1⟩
      · exact q _ _ (New.upd hp) fun Hs' l' n' => ⟨p, vs ++ ws, rfl, n' p _ hp upd_same, IsL.append (IsL.mono l' _ _ k1) (IsL.mono l' _ _ k2)⟩
    · cases e
  · cases e
theorem od_addL : OpD (gm X) rCat dAddL := fun {Hs H d1 d2 d v1 v2 Q} l i1 i2 e q => by
  unfold dAddL at e
  split at e
  · rename_i xs ys
    obtain ⟨a, vs, rfl, s1, k1⟩ := i1
    obtain ⟨b, ws, rfl, s2, k2⟩ := i2
    split at e
    · rename_i hz
      obtain rfl := Option.some.inj e
      have e1 := IsL.length k1
      have e2 := IsL.length k2
      refine ⟨a, b, vs, ws, rfl, rfl, l _ _ s1 (fun ps z => (by cases z)), l _ _ s2 (fun ps z => (by cases z)), by omega, fun p hp => ?_⟩
      exact q _ _ (New.upd hp) fun Hs' l' n' => ⟨p, vs ++ ws, rfl, n' p _ hp upd_same, IsL.append (IsL.mono l' _ _ k1) (IsL.mono l' _ _ k2)⟩
    · cases e
  · cases e
theorem od_addS : OpD (gm X) (fun x y H Q => ∃ i j, x = .str i ∧ y = .str j ∧ i.length + j.length ≤ sizeLine ∧ Q (.str (i ++ j)) H) dAddS := fun {Hs H d1 d2 d v1 v2 Q} l i1 i2 e q => by
  unfold dAddS at e
  split at e
  · rename_i xs ys
    split at e
    · rename_i hz
      obtain rfl := Option.some.inj e
      exact ⟨xs, ys, i1, i2, hz, q _ H (New.refl H) fun _ _ _ => rfl⟩
    · cases e
  · cases e
theorem OpD.or {G : Gm} {r r' : R2} {o o' : D → D → Option D} {t : D → Bool} (h : OpD G r o) (h' : OpD G r' o') : OpD G (fun x y H Q => r x y H Q ∨ r' x y H Q) (fun a b => if t a then o a b else o' a b) := fun {Hs H d1 d2 d v1 v2 Q} l i1 i2 e q => by
  dsimp only at e
  split at e
  · exact .inl (h l i1 i2 e q)
  · exact .inr (h' l i1 i2 e q)
theorem OpD.eq {G : Gm} {r : R2} {o o' : D → D → Option D} (h : OpD G r o) (e : ∀ a b, o' a b = o a b) : OpD G r o' := fun {Hs H d1 d2 d v1 v2 Q} l i1 i2 e1 q => h l i1 i2 (by rw [← e]; exact e1) q
def isI : D → Bool
  | .int _ => true
  | _ => false
def isS : D → Bool
  | .str _ => true
  | _ => false
def isT : D → Bool
  | .tup _ => true
  | _ => false
theorem se_add (ha : SE X T W a f) (hb : SE X T W b g) : SE X T W (.BinOp a .Add b pos) (eOp dAdd f g) :=
  se_op (op_add.or (op_add_str.or (op_catA.or op_cat))) (OpD.eq (OpD.or (t := isI) od_addI (OpD.or (t := isS) od_addS (OpD.or (t := isT) od_addT od_addL))) fun a b => by cases a <;> rfl) ha hb
/-! * of a list, a tuple by an int -/
def dRepL : D → D → Option D
  | .lst xs, .int k => if 0 ≤ k ∧ k < 1000000 ∧ xs.length * k.toNat ≤ sizeLine then some (.lst (List.replicate k.toNat xs).flatten) else none
  | _, _ => none
theorem IsL.rep {G : Gm} {Hs : Hp} {xs : List D} {vs : List V} (h : IsL G Hs xs vs) : ∀ k : Nat, IsL G Hs (List.replicate k xs).flatten (List.replicate k vs).flatten
  | 0 => rfl
  | k + 1 => by
    rw [List.replicate_succ, List.replicate_succ, List.flatten_cons, List.flatten_cons]
    exact IsL.append h (IsL.rep h k)
theorem od_repL : OpD (gm X) rRep dRepL := fun {Hs H d1 d2 d v1 v2 Q} l i1 i2 e q => by
  unfold dRepL at e
  split at e
  · rename_i xs k
    obtain ⟨a, vs, rfl, s1, k1⟩ := i1
    obtain rfl : v2 = .int k := i2
    split at e
    · rename_i hz
      obtain ⟨z1, z2, z3⟩ := hz
      obtain rfl := Option.some.inj e
      have e1 := IsL.length k1
      refine ⟨a, k, vs, rfl, rfl, l _ _ s1 (fun ps z => (by cases z)), by omega, by omega, by rw [← e1]; exact z3, fun p hp => ?_⟩
      exact q _ _ (New.upd hp) fun Hs' l' n' => ⟨p, _, rfl, n' p _ hp upd_same, IsL.rep (IsL.mono l' _ _ k1) _⟩
    · cases e
  · cases e
def isLst : D → Bool
  | .lst _ => true
  | _ => false
def dRepT : D → D → Option D
  | .tup xs, .int k => if 1 ≤ k ∧ k ≤ 1000 ∧ xs.length ≤ 1000 ∧ xs.isEmpty = false then some (.tup (List.replicate k.toNat xs).flatten) else none
  | _, _ => none
theorem od_repT : OpD (gm X) (fun x y H Q => rRepT1 X.K x y H Q ∨ rRepT X.K x y H Q) dRepT := fun {Hs H d1 d2 d v1 v2 Q} l i1 i2 e q => by
  unfold dRepT at e
  split at e
  · rename_i xs k
    obtain ⟨a, vs, rfl, s1, k1⟩ := i1
    obtain rfl : v2 = .int k := i2
    split at e
    · rename_i hz
      obtain ⟨z1, z2, z3, z4⟩ := hz
      obtain rfl := Option.some.inj e
      have e1 := IsL.length k1
      by_cases hk : k = 1
      · subst hk
        refine .inl ⟨a, vs, rfl, rfl, l.tq s1, q _ H (New.refl H) fun Hs' l' n' => ⟨a, vs, rfl, l'.tp s1, ?_⟩⟩
        have : (List.replicate (1 : Int).toNat xs).flatten = xs := by simp
        rw [this]
        exact IsL.mono l' _ _ k1
      · refine .inr ⟨a, k, vs, rfl, rfl, l.tq s1, fun z => ?_, by omega, z2, by omega, fun p hp => ?_⟩
        · subst z
          cases xs with
          | nil => cases z4
          | cons x r => cases e1
        · exact q _ _ (New.upd hp) fun Hs' l' n' => ⟨p, _, rfl, n' p _ hp upd_same, IsL.rep (IsL.mono l' _ _ k1) _⟩
    · cases e
  · cases e
def dMul (a b : D) : Option D := match a with
  | .lst _ => dRepL a b
  | .tup _ => dRepT a b
  | _ => dMulI a b
theorem se_mul (ha : SE X T W a f) (hb : SE X T W b g) : SE X T W (.BinOp a .Mult b pos) (eOp dMul f g) :=
  se_op (op_rep.or ((op_repT1.or op_repT).or op_mulB)) (OpD.eq (OpD.or (t := isLst) od_repL (OpD.or (t := isT) od_repT od_mul)) fun a b => by cases a <;> rfl) ha hb
theorem se_neg {u : Env' → Ro D} (ha : SE X T W a u) : SE X T W (.UnaryOp .USub a pos) (fun env => (u env).bind fun d e => match d with
    | .int i => .ok (.int (-i)) e
    | _ => .stk) := PE.weak (pe_un un_neg ha) fun σ H Q h => by
  refine rd_bind h fun F env d v H1 S1 i1 h1 => ?_
  split at h1
  · rename_i i
    exact ⟨i, i1, h1 _ H1 .refl S1 rfl⟩
  · exact h1.elim
end
end Rf

namespace Rf
open PySem L2 LamX

/-! ## comparisons -/
def bI2 (p : Int → Int → Bool) : D → D → Option Bool
  | .int i, .int j => some (p i j)
  | _, _ => none
theorem ob_I2 {G : Gm} {p : Int → Int → Bool} : OpB G (rI0 fun i j => .bl (p i j)) (bI2 p) := fun {Hs H d1 d2 b v1 v2 Q} l i1 i2 e q => by
  unfold bI2 at e
  split at e
  · rename_i i j
    obtain rfl := Option.some.inj e
    exact ⟨i, j, i1, i2, q⟩
  · cases e
/-- data as ints, all of them -/
def ints? : List D → Option (List Int)
  | [] => some []
  | .int i :: r => (ints? r).map (i :: ·)
  | _ :: _ => none
theorem ints?_is : ∀ {xs : List D} {ns : List Int}, ints? xs = some ns → xs = ns.map D.int
  | [], ns, h => by
    obtain rfl := Option.some.inj h
    rfl
  | .int i :: r, ns, h => by
    unfold ints? at h
    cases e : ints? r with
    | none => rw [e] at h; cases h
    | some ms =>
      rw [e] at h
      obtain rfl := Option.some.inj h
      rw [ints?_is e]
      rfl
  | .non :: _, ns, h => by cases h
  | .bl _ :: _, ns, h => by cases h
  | .str _ :: _, ns, h => by cases h
  | .tup _ :: _, ns, h => by cases h
  | .lst _ :: _, ns, h => by cases h
  | .dK _ _ :: _, ns, h => by cases h
  | .dT _ _ :: _, ns, h => by cases h
  | .fn _ :: _, ns, h => by cases h
  | .scr _ :: _, ns, h => by cases h
  | .ctup _ :: _, ns, h => by cases h
theorem ints?_map : ∀ ns : List Int, ints? (ns.map D.int) = some ns
  | [] => rfl
  | n :: ns => by
    show (ints? (ns.map D.int)).map (n :: ·) = _
    rw [ints?_map ns]
    rfl
def bLtT : D → D → Option Bool
  | .tup xs, .tup ys => match ints? xs, ints? ys with
    | some ns, some ms => some (HT.lexLt ns ms)
    | _, _ => none
  | _, _ => none
theorem ob_ltT {G : Gm} : OpB G (rLtT G.K) bLtT := fun {Hs H d1 d2 b v1 v2 Q} l i1 i2 e q => by
  unfold bLtT at e
  split at e
  · rename_i xs ys
    split at e
    · rename_i ns ms e1 e2
      obtain rfl := Option.some.inj e
      obtain ⟨a, vs, rfl, s1, k1⟩ := i1
      obtain ⟨c, ws, rfl, s2, k2⟩ := i2
      have q1 := ints?_is e1
      have q2 := ints?_is e2
      subst q1 q2
      obtain rfl := IsL.ints k1
      obtain rfl := IsL.ints k2
      exact ⟨a, c, ns, ms, rfl, rfl, l.tq s1, l.tq s2, q⟩
    · cases e
  · cases e
theorem OpB.or {G : Gm} {r r' : R2} {o o' : D → D → Option Bool} {t : D → Bool} (h : OpB G r o) (h' : OpB G r' o') : OpB G (fun x y H Q => r x y H Q ∨ r' x y H Q) (fun a b => if t a then o a b else o' a b) := fun {Hs H d1 d2 d v1 v2 Q} l i1 i2 e q => by
  dsimp only at e
  split at e
  · exact .inl (h l i1 i2 e q)
  · exact .inr (h' l i1 i2 e q)
theorem OpB.eq {G : Gm} {r : R2} {o o' : D → D → Option Bool} (h : OpB G r o) (e : ∀ a b, o' a b = o a b) : OpB G r o' := fun {Hs H d1 d2 d v1 v2 Q} l i1 i2 e1 q => h l i1 i2 (by rw [← e]; exact e1) q
def bLt (a b : D) : Option Bool := match a with
  | .tup _ => bLtT a b
  | _ => bI2 (fun i j => decide (i < j)) a b
def bLe : D → D → Option Bool := bI2 fun i j => decide (i ≤ j)
def bGt : D → D → Option Bool := bI2 fun i j => decide (j < i)
def bGe : D → D → Option Bool := bI2 fun i j => decide (j ≤ i)
theorem ob_lt {G : Gm} : OpB G (fun x y H Q => rLtT G.K x y H Q ∨ rI0 (fun i j => .bl (decide (i < j))) x y H Q) bLt := OpB.eq (OpB.or (t := isT) ob_ltT ob_I2) fun a b => by cases a <;> rfl

/-! ## == of data -/
mutual
def okD : Nat → D → Bool
  | _, .non => true
  | _, .bl _ => true
  | _, .int _ => true
  | _, .str x => PyData.strOk x
  | n, .tup xs => match n with
    | 0 => false
    | m + 1 => okL m xs
  | n, .lst xs => match n with
    | 0 => false
    | m + 1 => okL m xs
  | _, _ => false
def okL : Nat → List D → Bool
  | _, [] => true
  | n, x :: xs => okD n x && okL n xs
end
mutual
def toPy : D → PyData
  | .non => .none
  | .bl b => .bool b
  | .int i => .int i
  | .str x => .str x
  | .tup xs => .tuple (toPyL xs)
  | .lst xs => .list (toPyL xs)
  | .dK _ _ => .none
  | .dT _ _ => .none
  | .fn _ => .none
  | .scr _ => .none
  | .ctup _ => .none
def toPyL : List D → List PyData
  | [] => []
  | x :: xs => toPy x :: toPyL xs
end
mutual
def eqD : D → D → Bool
  | .non, .non => true
  | .bl a, .bl b => a == b
  | .bl a, .int j => (if a then 1 else 0) == j
  | .int i, .bl b => i == (if b then 1 else 0)
  | .int i, .int j => i == j
  | .str x, .str y => x == y
  | .lst xs, .lst ys => eqL xs ys
  | .tup xs, .tup ys => eqL xs ys
  | _, _ => false
def eqL : List D → List D → Bool
  | [], [] => true
  | x :: xs, y :: ys => eqD x y && eqL xs ys
  | _, _ => false
end
mutual
theorem ok_lay : ∀ (n : Nat) (d : D), okD n d = true → (toPy d).canLay0 = true ∧ (toPy d).depth ≤ n
  | n, .non, _ => ⟨rfl, Nat.zero_le _⟩
  | n, .bl _, _ => ⟨rfl, Nat.zero_le _⟩
  | n, .int _, _ => ⟨rfl, Nat.zero_le _⟩
  | n, .str x, h => ⟨h, Nat.zero_le _⟩
  | 0, .tup xs, h => by cases h
  | n + 1, .tup xs, h => by
    obtain ⟨h1, h2⟩ := okL_lay n xs h
    exact ⟨h1, Nat.succ_le_succ h2⟩
  | 0, .lst xs, h => by cases h
  | n + 1, .lst xs, h => by
    obtain ⟨h1, h2⟩ := okL_lay n xs h
    exact ⟨h1, Nat.succ_le_succ h2⟩
  | n, .dK _ _, h => by cases h
  | n, .dT _ _, h => by cases h
  | n, .fn _, h => by cases h
  | n, .scr _, h => by cases h
  | n, .ctup _, h => by cases h
theorem okL_lay : ∀ (n : Nat) (ds : List D), okL n ds = true → PyData.canLayAll0 (toPyL ds) = true ∧ PyData.depthAll (toPyL ds) ≤ n
  | n, [], _ => ⟨rfl, Nat.zero_le _⟩
  | n, x :: xs, h => by
    obtain ⟨h1, h2⟩ := Bool.and_eq_true_iff.mp (show (okD n x && okL n xs) = true from h)
    obtain ⟨a1, a2⟩ := ok_lay n x h1
    obtain ⟨b1, b2⟩ := okL_lay n xs h2
    refine ⟨?_, ?_⟩
    · show ((toPy x).canLay0 && PyData.canLayAll0 (toPyL xs)) = true
      rw [a1, b1]; rfl
    · exact Nat.max_le.mpr ⟨a2, b2⟩
end
theorem ok_shaped {d : D} (h : okD 60 d = true) : SeqAt.shaped (toPy d) = true := by
  obtain ⟨h1, h2⟩ := ok_lay 60 d h
  unfold SeqAt.shaped
  rw [h1, decide_eq_true (Nat.le_trans h2 (by decide))]
  rfl
mutual
theorem is_dp {G : Gm} {H : Hp} : ∀ (n : Nat) (d : D) (v : V), okD n d = true → Is G H d v → Dp G.K H v (toPy d)
  | n, .non, v, _, h => by
    obtain rfl : v = .non := h
    exact .non
  | n, .bl b, v, _, h => by
    obtain rfl : v = .bl b := h
    exact .bl b
  | n, .int i, v, _, h => by
    obtain rfl : v = .int i := h
    exact .int i
  | n, .str x, v, _, h => by
    obtain rfl : v = .str x := h
    exact .str x
  | 0, .tup xs, v, h, _ => by cases h
  | n + 1, .tup xs, v, h, k => by
    obtain ⟨a, vs, rfl, s, k⟩ := k
    exact .tup (.inl (.inl s)) (is_dpL n xs vs h k)
  | 0, .lst xs, v, h, _ => by cases h
  | n + 1, .lst xs, v, h, k => by
    obtain ⟨a, vs, rfl, s, k⟩ := k
    exact .lst (.inl (.inl s)) (is_dpL n xs vs h k)
  | n, .dK _ _, v, h, _ => by cases h
  | n, .dT _ _, v, h, _ => by cases h
  | n, .fn _, v, h, _ => by cases h
  | n, .scr _, v, h, _ => by cases h
  | n, .ctup _, v, h, _ => by cases h
theorem is_dpL {G : Gm} {H : Hp} : ∀ (n : Nat) (ds : List D) (vs : List V), okL n ds = true → IsL G H ds vs → DpAll G.K H vs (toPyL ds)
  | n, [], vs, _, h => by
    obtain rfl : vs = [] := h
    exact .nil
  | n, x :: xs, vs, h, k => by
    obtain ⟨h1, h2⟩ := Bool.and_eq_true_iff.mp (show (okD n x && okL n xs) = true from h)
    obtain ⟨v, r, rfl, k1, k2⟩ := k
    exact .cons (is_dp n x v h1 k1) (is_dpL n xs r h2 k2)
end
mutual
theorem eqv_eq : ∀ (d e : D) (n m : Nat), okD n d = true → okD m e = true → PyData.eqv (toPy d) (toPy e) = eqD d e
  | .non, e, n, m, _, h => by cases e <;> first | rfl | cases h
  | .bl b, e, n, m, _, h => by cases e <;> first | rfl | cases h
  | .int i, e, n, m, _, h => by cases e <;> first | rfl | cases h
  | .str x, e, n, m, _, h => by cases e <;> first | rfl | cases h
  | .tup xs, e, n, m, k, h => by
    cases n with
    | zero => cases k
    | succ n =>
      cases e with
      | tup ys =>
        cases m with
        | zero => cases h
        | succ m => exact eqvL_eq xs ys n m k h
      | _ => first | rfl | cases h
  | .lst xs, e, n, m, k, h => by
    cases n with
    | zero => cases k
    | succ n =>
      cases e with
      | lst ys =>
        cases m with
        | zero => cases h
        | succ m => exact eqvL_eq xs ys n m k h
      | _ => first | rfl | cases h
  | .dK _ _, e, n, m, k, _ => by cases k
  | .dT _ _, e, n, m, k, _ => by cases k
  | .fn _, e, n, m, k, _ => by cases k
  | .scr _, e, n, m, k, _ => by cases k
  | .ctup _, e, n, m, k, _ => by cases k
theorem eqvL_eq : ∀ (ds es : List D) (n m : Nat), okL n ds = true → okL m es = true → PyData.eqvAll (toPyL ds) (toPyL es) = eqL ds es
  | [], [], n, m, _, _ => rfl
  | [], y :: ys, n, m, _, _ => rfl
  | x :: xs, [], n, m, _, _ => rfl
  | x :: xs, y :: ys, n, m, h, k => by
    obtain ⟨h1, h2⟩ := Bool.and_eq_true_iff.mp (show (okD n x && okL n xs) = true from h)
    obtain ⟨k1, k2⟩ := Bool.and_eq_true_iff.mp (show (okD m y && okL m ys) = true from k)
    show (PyData.eqv (toPy x) (toPy y) && PyData.eqvAll (toPyL xs) (toPyL ys)) = (eqD x y && eqL xs ys)
    rw [eqv_eq x y n m h1 k1, eqvL_eq xs ys n m h2 k2]
end
def bEq (a b : D) : Option Bool := if okD 60 a && okD 60 b then some (eqD a b) else none
def bNe (a b : D) : Option Bool := if okD 60 a && okD 60 b then some (!eqD a b) else none
theorem ob_eq {G : Gm} : OpB G (rEqD G.K) bEq := fun {Hs H d1 d2 b v1 v2 Q} l i1 i2 e q => by
  unfold bEq at e
  split at e
  · rename_i h
    obtain ⟨h1, h2⟩ := Bool.and_eq_true_iff.mp h
    obtain rfl := Option.some.inj e
    exact ⟨toPy d1, toPy d2, is_dp 60 _ _ h1 (Is.mono l _ _ i1), is_dp 60 _ _ h2 (Is.mono l _ _ i2), ok_shaped h1, ok_shaped h2, by rw [eqv_eq d1 d2 60 60 h1 h2]; exact q⟩
  · cases e
theorem ob_ne {G : Gm} : OpB G (rNeD G.K) bNe := fun {Hs H d1 d2 b v1 v2 Q} l i1 i2 e q => by
  unfold bNe at e
  split at e
  · rename_i h
    obtain ⟨h1, h2⟩ := Bool.and_eq_true_iff.mp h
    obtain rfl := Option.some.inj e
    exact ⟨toPy d1, toPy d2, is_dp 60 _ _ h1 (Is.mono l _ _ i1), is_dp 60 _ _ h2 (Is.mono l _ _ i2), ok_shaped h1, ok_shaped h2, by rw [eqv_eq d1 d2 60 60 h1 h2]; exact q⟩
  · cases e
/-! in, not in -/
def flatD : D → Bool
  | .non => true
  | .bl _ => true
  | .int _ => true
  | .str _ => true
  | _ => false
def toV : D → V
  | .non => .non
  | .bl b => .bl b
  | .int i => .int i
  | .str x => .str x
  | _ => .non
theorem flat_is {G : Gm} {H : Hp} {d : D} {v : V} (h : flatD d = true) (k : Is G H d v) : v = toV d ∧ flatV v = true := by
  cases d with
  | non => obtain rfl : v = .non := k; exact ⟨rfl, rfl⟩
  | bl b => obtain rfl : v = .bl b := k; exact ⟨rfl, rfl⟩
  | int i => obtain rfl : v = .int i := k; exact ⟨rfl, rfl⟩
  | str x => obtain rfl : v = .str x := k; exact ⟨rfl, rfl⟩
  | _ => cases h
theorem flat_isL {G : Gm} {H : Hp} : ∀ {ds : List D} {vs : List V}, ds.all flatD = true → IsL G H ds vs → vs = ds.map toV ∧ vs.all flatV = true
  | [], vs, _, k => by
    obtain rfl : vs = [] := k
    exact ⟨rfl, rfl⟩
  | d :: ds, vs, h, k => by
    obtain ⟨h1, h2⟩ := Bool.and_eq_true_iff.mp (show (flatD d && ds.all flatD) = true from h)
    obtain ⟨v, r, rfl, k1, k2⟩ := k
    obtain ⟨e1, e2⟩ := flat_is h1 k1
    obtain ⟨e3, e4⟩ := flat_isL h2 k2
    refine ⟨by rw [e1, e3]; rfl, ?_⟩
    show (flatV v && r.all flatV) = true
    rw [e2, e4]
    rfl
theorem eqV_eq {d e : D} (h : flatD d = true) (k : flatD e = true) : eqV (toV d) (toV e) = eqD d e := by
  cases d <;> first | (cases h; done) | (cases e <;> first | rfl | (cases k; done))
theorem anyV_eq {d : D} (k : flatD d = true) : ∀ {ds : List D}, ds.all flatD = true → (ds.map toV).any (fun y => eqV y (toV d)) = ds.any fun y => eqD y d
  | [], _ => rfl
  | x :: ds, h => by
    obtain ⟨h1, h2⟩ := Bool.and_eq_true_iff.mp (show (flatD x && ds.all flatD) = true from h)
    show (eqV (toV x) (toV d) || (ds.map toV).any fun y => eqV y (toV d)) = (eqD x d || ds.any fun y => eqD y d)
    rw [eqV_eq h1 k, anyV_eq k h2]
/-- x in t: t a tuple of flat things, or a list of data -/
def bInT (a b : D) : Option Bool := match b with
  | .tup xs => if flatD a && xs.all flatD then some (xs.any fun y => eqD y a) else none
  | .ctup xs => if flatD a && xs.all flatD then some (xs.any fun y => eqD y a) else none
  | _ => none
def bInL (a b : D) : Option Bool := match b with
  | .lst xs => if okD 60 a && okD 60 b then some (xs.any fun y => eqD y a) else none
  | _ => none
def isTup : D → Bool
  | .tup _ => true
  | .ctup _ => true
  | _ => false
theorem bInT_some {G : Gm} {Hs H : Hp} {a b : D} {c : Bool} {v : V} (l : Le Hs H) (e : bInT a b = some c) (i : Is G Hs b v) : ∃ xs p vs, v = .ref p ∧ SqT G.K H p vs ∧ IsL G Hs xs vs ∧ flatD a = true ∧ xs.all flatD = true ∧ c = xs.any fun y => eqD y a := by
  unfold bInT at e
  split at e
  · rename_i xs
    split at e
    · rename_i h
      obtain ⟨h1, h2⟩ := Bool.and_eq_true_iff.mp h
      obtain ⟨p, vs, rfl, s, k⟩ := i
      exact ⟨xs, p, vs, rfl, l.tq s, k, h1, h2, (Option.some.inj e).symm⟩
    · cases e
  · rename_i xs
    split at e
    · rename_i h
      obtain ⟨h1, h2⟩ := Bool.and_eq_true_iff.mp h
      obtain ⟨p, vs, rfl, s, k⟩ := i
      exact ⟨xs, p, vs, rfl, l.sqT s, k, h1, h2, (Option.some.inj e).symm⟩
    · cases e
  · cases e
theorem ob_inT {G : Gm} {neg : Bool} : OpB G (rIn G.K neg) (fun a b => (bInT a b).map fun c => if neg then !c else c) := fun {Hs H d1 d2 b v1 v2 Q} l i1 i2 e q => by
  dsimp only at e
  cases e0 : bInT d1 d2 with
  | none => rw [e0] at e; cases e
  | some c =>
    rw [e0] at e
    obtain rfl := Option.some.inj e
    obtain ⟨xs, a, vs, rfl, s, k, h1, h2, rfl⟩ := bInT_some l e0 i2
    obtain ⟨e1, e2⟩ := flat_is h1 i1
    obtain ⟨e3, e4⟩ := flat_isL h2 k
    refine ⟨a, vs, rfl, .inr s, e2, e4, ?_⟩
    have z : inV v1 vs = xs.any fun y => eqD y d1 := by
      rw [e1, e3]
      exact anyV_eq h1 h2
    rw [z]
    cases neg <;> exact q
theorem any_eqv {d : D} (h : okD 60 d = true) : ∀ (n : Nat) (xs : List D), okL n xs = true → (toPyL xs).any (fun z => PyData.eqv z (toPy d)) = xs.any fun y => eqD y d
  | n, [], _ => rfl
  | n, x :: xs, k => by
    obtain ⟨k1, k2⟩ := Bool.and_eq_true_iff.mp (show (okD n x && okL n xs) = true from k)
    show (PyData.eqv (toPy x) (toPy d) || (toPyL xs).any fun z => PyData.eqv z (toPy d)) = (eqD x d || xs.any fun y => eqD y d)
    rw [eqv_eq x d n 60 k1 h, any_eqv h n xs k2]
theorem ob_inL {G : Gm} : OpB G (rInD G.K) bInL := fun {Hs H d1 d2 b v1 v2 Q} l i1 i2 e q => by
  unfold bInL at e
  split at e
  · rename_i xs
    split at e
    · rename_i h
      obtain ⟨h1, h2⟩ := Bool.and_eq_true_iff.mp h
      obtain rfl := Option.some.inj e
      refine ⟨toPy d1, toPyL xs, is_dp 60 _ _ h1 (Is.mono l _ _ i1), is_dp 60 (.lst xs) _ h2 (Is.mono l _ _ i2), ok_shaped h1, ok_shaped h2, ?_⟩
      rw [any_eqv h1 59 xs h2]
      exact q
    · cases e
  · cases e
theorem ob_notInL {G : Gm} : OpB G (rNotInD G.K) (fun a b => (bInL a b).map (!·)) := fun {Hs H d1 d2 b v1 v2 Q} l i1 i2 e q => by
  dsimp only [bInL] at e
  split at e
  · rename_i xs
    split at e
    · rename_i h
      obtain ⟨h1, h2⟩ := Bool.and_eq_true_iff.mp h
      obtain rfl := Option.some.inj e
      refine ⟨toPy d1, toPyL xs, is_dp 60 _ _ h1 (Is.mono l _ _ i1), is_dp 60 (.lst xs) _ h2 (Is.mono l _ _ i2), ok_shaped h1, ok_shaped h2, ?_⟩
      rw [any_eqv h1 59 xs h2]
      exact q
    · cases e
  · cases e
theorem OpB.or2 {G : Gm} {r r' : R2} {o o' : D → D → Option Bool} {t : D → Bool} (h : OpB G r o) (h' : OpB G r' o') : OpB G (fun x y H Q => r x y H Q ∨ r' x y H Q) (fun a b => if t b then o a b else o' a b) := fun {Hs H d1 d2 d v1 v2 Q} l i1 i2 e q => by
  dsimp only at e
  split at e
  · exact .inl (h l i1 i2 e q)
  · exact .inr (h' l i1 i2 e q)
def bIn (a b : D) : Option Bool := match b with
  | .tup _ => bInT a b
  | .ctup _ => bInT a b
  | _ => bInL a b
def bNotIn (a b : D) : Option Bool := (bIn a b).map (!·)
theorem ob_in {G : Gm} : OpB G (fun x y H Q => rIn G.K false x y H Q ∨ rInD G.K x y H Q) bIn := OpB.eq (OpB.or2 (t := isTup) (ob_inT (neg := false)) ob_inL) fun a b => by
  cases b <;> first | rfl | (unfold bIn; simp only [isTup, if_true]; cases bInT _ _ <;> rfl)
theorem ob_notIn {G : Gm} : OpB G (fun x y H Q => rIn G.K true x y H Q ∨ rNotInD G.K x y H Q) bNotIn := OpB.eq (OpB.or2 (t := isTup) (ob_inT (neg := true)) ob_notInL) fun a b => by
  cases b <;> rfl
/-! is -/
def isNonD : D → Bool
  | .non => true
  | _ => false
theorem is_non {G : Gm} {H : Hp} {d : D} {v : V} (k : Is G H d v) : decide (v = .non) = isNonD d := by
  cases d with
  | non => obtain rfl : v = .non := k; rfl
  | bl b => obtain rfl : v = .bl b := k; rfl
  | int i => obtain rfl : v = .int i := k; rfl
  | str x => obtain rfl : v = .str x := k; rfl
  | tup xs => obtain ⟨a, _, rfl, _⟩ := k; rfl
  | lst xs => obtain ⟨a, _, rfl, _⟩ := k; rfl
  | dK ks ds => obtain ⟨a, _, rfl, _⟩ := k; rfl
  | dT ks ds => obtain ⟨a, _, rfl, _⟩ := k; rfl
  | fn x => obtain ⟨f, rfl, _⟩ := k; rfl
  | scr ns => obtain ⟨a, rfl, _⟩ := k; rfl
  | ctup xs => obtain ⟨a, _, rfl, _⟩ := k; rfl
def bIsN : D → D → Option Bool := fun a b => match b with
  | .non => some (isNonD a)
  | _ => none
def bIsNotN : D → D → Option Bool := fun a b => match b with
  | .non => some (!isNonD a)
  | _ => none
theorem ob_isN {G : Gm} : OpB G (fun x y H Q => y = .non ∧ Q (.bl (decide (x = .non))) H) bIsN := fun {Hs H d1 d2 b v1 v2 Q} l i1 i2 e q => by
  unfold bIsN at e
  split at e
  · obtain rfl := Option.some.inj e
    exact ⟨i2, by rw [is_non i1]; exact q⟩
  · cases e
theorem ob_isNotN {G : Gm} : OpB G (fun x y H Q => y = .non ∧ Q (.bl (!decide (x = .non))) H) bIsNotN := fun {Hs H d1 d2 b v1 v2 Q} l i1 i2 e q => by
  unfold bIsNotN at e
  split at e
  · obtain rfl := Option.some.inj e
    exact ⟨i2, by rw [is_non i1]; exact q⟩
  · cases e
def bIsB : D → D → Option Bool
  | .bl a, .bl b => some (decide (a = b))
  | _, _ => none
def bIsNotB : D → D → Option Bool
  | .bl a, .bl b => some (!decide (a = b))
  | _, _ => none
theorem ob_isB {G : Gm} : OpB G rIsB bIsB := fun {Hs H d1 d2 b v1 v2 Q} l i1 i2 e q => by
  unfold bIsB at e
  split at e
  · rename_i a b
    obtain rfl := Option.some.inj e
    exact ⟨a, b, i1, i2, q⟩
  · cases e
theorem ob_isNotB {G : Gm} : OpB G rNotB bIsNotB := fun {Hs H d1 d2 b v1 v2 Q} l i1 i2 e q => by
  unfold bIsNotB at e
  split at e
  · rename_i a b
    obtain rfl := Option.some.inj e
    exact ⟨a, b, i1, i2, q⟩
  · cases e
end Rf

namespace Rf
open PySem L2 LamX

section
variable {X : Cx} {T : Tb} {W : WX} {k : Nat} {a b c : Expr} {f g u : Env' → Ro D} {q q' : Env' → Ro Bool} {pos : Pos} {rest : List Expr}

/-! ## truth, and, or, not -/
def truD : D → Option Bool
  | .non => some false
  | .bl b => some b
  | .int i => some (i != 0)
  | .str x => if x.length ≤ sizeLine then some ((x.length : Int) != 0) else none
  | .tup xs => some (!xs.isEmpty)
  | .lst xs => some (!xs.isEmpty)
  | .dK ks ds => some (!ks.isEmpty)
  | _ => none
theorem isEmpty_len {α β : Type} {xs : List α} {ys : List β} (h : xs.length = ys.length) : xs.isEmpty = ys.isEmpty := by
  cases xs <;> cases ys <;> first | rfl | simp at h
theorem tru_of {G : Gm} {Hs H : Hp} {d : D} {v : V} {b : Bool} (l : Le Hs H) (i : Is G Hs d v) (e : truD d = some b) : TruV G.K v H b := by
  cases d with
  | non => obtain rfl : v = .non := i; exact (Option.some.inj e).symm
  | bl x => obtain rfl : v = .bl x := i; exact (Option.some.inj e).symm
  | int x => obtain rfl : v = .int x := i; exact (Option.some.inj e).symm
  | str x =>
    obtain rfl : v = .str x := i
    simp only [truD] at e
    split at e
    · rename_i h
      exact ⟨h, (Option.some.inj e).symm⟩
    · cases e
  | tup xs =>
    obtain ⟨p, vs, rfl, s, m⟩ := i
    refine .inr (.inl ⟨vs, l.tq s, ?_⟩)
    rw [← isEmpty_len (IsL.length m)]
    exact (Option.some.inj e).symm
  | lst xs =>
    obtain ⟨p, vs, rfl, s, m⟩ := i
    refine .inl ⟨vs, .inl (.inl (l _ _ s (fun ps z => (by cases z)))), ?_⟩
    rw [← isEmpty_len (IsL.length m)]
    exact (Option.some.inj e).symm
  | dK ks ds =>
    obtain ⟨p, vs, rfl, s, m, m2⟩ := i
    refine .inr (.inr ⟨_, l _ _ s (fun ps z => (by cases z)), ?_⟩)
    have z : (ks.zip vs).isEmpty = ks.isEmpty := by
      apply isEmpty_len
      rw [List.length_zip]
      omega
    rw [z]
    exact (Option.some.inj e).symm
  | dT ks ds => cases e
  | fn x => cases e
  | scr ns => cases e
  | ctup xs => cases e
def qTru (f : Env' → Ro D) : Env' → Ro Bool := fun env => (f env).bind fun d e => lift (truD d) e
theorem lift_some {G : Gm} {α β : Type} {R : Rel α β} {F : Addr → Prop} {σ : St} {H : Hp} {env : Env'} {Q : β → Hp → Prop} {o : Option α} (h : Rst G T R F σ H env W Q (lift o env)) : ∃ x, o = some x ∧ Rst G T R F σ H env W Q (.ok x env) := by
  cases o with
  | none => exact h.elim
  | some x => exact ⟨x, rfl, h⟩
theorem sq_tru (ha : SE X T W a f) (he : ∀ whole, isTrue a X.env whole = (do let v ← whole; standAt a.pos; holding [v] (truthy v)) := by intro _; rfl) : SQ X T W a (qTru f) :=
  PT.weak (pt_truth ha he) fun σ H Q h => rd_bind h fun F env d v H1 S1 i1 h1 => by
    obtain ⟨x, e, h1⟩ := lift_some h1
    exact ⟨x, tru_of Le.unhid i1 e, fin_same S1 rfl h1⟩
/-- and, or as tests -/
def qAnd (q q' : Env' → Ro Bool) : Env' → Ro Bool := fun env => (q env).bind fun b e => if b then q' e else .ok false e
def qOr (q q' : Env' → Ro Bool) : Env' → Ro Bool := fun env => (q env).bind fun b e => if b then .ok true e else q' e
def qNot (q : Env' → Ro Bool) : Env' → Ro Bool := fun env => (q env).bind fun b e => .ok (!b) e
theorem sw_and1 (ha : SQ X T W a q) : SW X T W (.BoolOp .And [a] pos) q := pw_and1 ha
theorem sw_or1 (ha : SQ X T W a q) : SW X T W (.BoolOp .Or [a] pos) q := pw_or1 ha
theorem sw_and (ha : SQ X T W a q) (hb : SW X T W (.BoolOp .And (b :: rest) pos) q') : SW X T W (.BoolOp .And (a :: b :: rest) pos) (qAnd q q') :=
  PW.weak (pw_and ha hb) fun σ H Q h => rd_bind h fun F env d v H1 S1 i1 h1 => by
    obtain rfl : d = v := i1
    cases d with
    | true => exact ⟨F, env, S1, h1⟩
    | false => exact fin_same S1 rfl h1
theorem sw_or (ha : SQ X T W a q) (hb : SW X T W (.BoolOp .Or (b :: rest) pos) q') : SW X T W (.BoolOp .Or (a :: b :: rest) pos) (qOr q q') :=
  PW.weak (pw_or ha hb) fun σ H Q h => rd_bind h fun F env d v H1 S1 i1 h1 => by
    obtain rfl : d = v := i1
    cases d with
    | true => exact fin_same S1 rfl h1
    | false => exact ⟨F, env, S1, h1⟩
theorem SW.sq (h : SW X T W a q) : SQ X T W a q := PW.pt h
theorem sq_not (ha : SQ X T W a q) : SQ X T W (.UnaryOp .Not a pos) (qNot q) :=
  PT.weak (pt_not ha) fun σ H Q h => rd_bind h fun F env d v H1 S1 i1 h1 => by
    obtain rfl : d = v := i1
    exact fin_same S1 rfl h1
/-- .. as values -/
def eAnd (f g : Env' → Ro D) : Env' → Ro D := fun env => (f env).bind fun d e => match truD d with
  | some true => g e
  | some false => .ok d e
  | none => .stk
def eOr (f g : Env' → Ro D) : Env' → Ro D := fun env => (f env).bind fun d e => match truD d with
  | some true => .ok d e
  | some false => g e
  | none => .stk
def eNot (f : Env' → Ro D) : Env' → Ro D := fun env => (f env).bind fun d e => lift ((truD d).map fun b => D.bl (!b)) e
theorem se_one {op} (ha : SE X T W a f) : SE X T W (.BoolOp op [a] pos) f := pe_one ha
theorem se_and (ha : SE X T W a f) (hb : SE X T W (.BoolOp .And (b :: rest) pos) g) : SE X T W (.BoolOp .And (a :: b :: rest) pos) (eAnd f g) :=
  PE.weak (pe_andT ha hb) fun σ H Q h => rd_bind h fun F env d v H1 S1 i1 h1 => by
    split at h1
    · rename_i e
      exact ⟨true, tru_of Le.unhid i1 e, F, env, S1, h1⟩
    · rename_i e
      exact ⟨false, tru_of Le.unhid i1 e, fin_same S1 i1 h1⟩
    · exact h1.elim
theorem se_or (ha : SE X T W a f) (hb : SE X T W (.BoolOp .Or (b :: rest) pos) g) : SE X T W (.BoolOp .Or (a :: b :: rest) pos) (eOr f g) :=
  PE.weak (pe_orT ha hb) fun σ H Q h => rd_bind h fun F env d v H1 S1 i1 h1 => by
    split at h1
    · rename_i e
      exact ⟨true, tru_of Le.unhid i1 e, fin_same S1 i1 h1⟩
    · rename_i e
      exact ⟨false, tru_of Le.unhid i1 e, F, env, S1, h1⟩
    · exact h1.elim
theorem se_not (ha : SE X T W a f) : SE X T W (.UnaryOp .Not a pos) (eNot f) :=
  PE.weak (pe_notT ha) fun σ H Q h => rd_bind h fun F env d v H1 S1 i1 h1 => by
    obtain ⟨x, e, h1⟩ := lift_some h1
    cases e1 : truD d with
    | none => rw [e1] at e; cases e
    | some y =>
      rw [e1] at e
      obtain rfl : D.bl (!y) = x := Option.some.inj e
      exact ⟨y, tru_of Le.unhid i1 e1, h1 _ H1 .refl S1 rfl⟩
/-! if else -/
def eIf (q : Env' → Ro Bool) (f g : Env' → Ro D) : Env' → Ro D := fun env => (q env).bind fun b e => if b then f e else g e
theorem se_if (hc : SQ X T W c q) (ha : SE X T W a f) (hb : SE X T W b g) : SE X T W (.IfExp c a b pos) (eIf q f g) :=
  PE.weak (pe_ifExp hc ha hb) fun σ H Q h => rd_bind h fun F env d v H1 S1 i1 h1 => by
    obtain rfl : d = v := i1
    cases d with
    | true => exact ⟨F, env, S1, h1⟩
    | false => exact ⟨F, env, S1, h1⟩
/-! a < b < c -/
def eChain (o o' : D → D → Option Bool) (f g u : Env' → Ro D) : Env' → Ro D := fun env => (f env).bind fun d1 e1 => (g e1).bind fun d2 e2 => match o d1 d2 with
  | some true => (u e2).bind fun d3 e3 => lift ((o' d2 d3).map D.bl) e3
  | some false => .ok (.bl false) e2
  | none => .stk
def qChain (o o' : D → D → Option Bool) (f g u : Env' → Ro D) : Env' → Ro Bool := fun env => (f env).bind fun d1 e1 => (g e1).bind fun d2 e2 => match o d1 d2 with
  | some true => (u e2).bind fun d3 e3 => lift (o' d2 d3) e3
  | some false => .ok false e2
  | none => .stk
theorem se_chain {op op' : CmpOp} {r r' : R2} {o o' : D → D → Option Bool} (ho : OpR X (compareOp op) r) (hd : OpB (gm X) r o) (ho' : OpR X (compareOp op') r') (hd' : OpB (gm X) r' o') (ha : SE X T W a f) (hb : SE X T W b g) (hc : SE X T W c u)
    (hm : lastMarks [op, op'] [b, c] = false := by with_unfolding_all rfl) : SE X T W (.Compare a [op, op'] [b, c] pos) (eChain o o' f g u) :=
  PE.weak (pe_chain ho ho' ha hb hc hm) fun σ H Q h => rd_bind h fun F env d1 v1 H1 S1 i1 h1 => ⟨F, env, S1, Rst.bind S1 h1 fun d2 v2 H2 env2 s2 S2 i2 h2 => by
    split at h2
    · rename_i e
      refine hd Le.unhid (Is.mono (s2.le F) _ _ i1) i2 e ⟨true, rfl, ?_⟩
      rw [if_pos rfl]
      refine ⟨F, env2, S2, Rst.bind S2 h2 fun d3 v3 H3 env3 s3 S3 i3 h3 => ?_⟩
      obtain ⟨x, e3, h3⟩ := lift_some h3
      cases e4 : o' d2 d3 with
      | none => rw [e4] at e3; cases e3
      | some y =>
        rw [e4] at e3
        obtain rfl : D.bl y = x := Option.some.inj e3
        exact hd' Le.unhid (Is.mono (s3.le F) _ _ i2) i3 e4 (h3 _ H3 .refl S3 rfl)
    · rename_i e
      refine hd Le.unhid (Is.mono (s2.le F) _ _ i1) i2 e ⟨false, rfl, ?_⟩
      rw [if_neg Bool.false_ne_true]
      exact h2 _ H2 .refl S2 rfl
    · exact h2.elim⟩
theorem sq_chain {op op' : CmpOp} {r r' : R2} {o o' : D → D → Option Bool} (ho : OpR X (compareOp op) r) (hd : OpB (gm X) r o) (ho' : OpR X (compareOp op') r') (hd' : OpB (gm X) r' o') (ha : SE X T W a f) (hb : SE X T W b g) (hc : SE X T W c u)
    (hm : lastMarks [op, op'] [b, c] = false := by with_unfolding_all rfl) : SQ X T W (.Compare a [op, op'] [b, c] pos) (qChain o o' f g u) :=
  PT.weak (pt_chain ho ho' ha hb hc hm) fun σ H Q h => rd_bind h fun F env d1 v1 H1 S1 i1 h1 => ⟨F, env, S1, Rst.bind S1 h1 fun d2 v2 H2 env2 s2 S2 i2 h2 => by
    split at h2
    · rename_i e
      refine hd Le.unhid (Is.mono (s2.le F) _ _ i1) i2 e ⟨true, rfl, ?_⟩
      first
        | rw [if_pos rfl]
        | skip
      refine ⟨F, env2, S2, Rst.bind S2 h2 fun d3 v3 H3 env3 s3 S3 i3 h3 => ?_⟩
      obtain ⟨x, e3, h3⟩ := lift_some h3
      exact hd' Le.unhid (Is.mono (s3.le F) _ _ i2) i3 e3 ⟨x, rfl, fin_same S3 rfl h3⟩
    · rename_i e
      refine hd Le.unhid (Is.mono (s2.le F) _ _ i1) i2 e ⟨false, rfl, ?_⟩
      first
        | rw [if_neg Bool.false_ne_true]
        | skip
      exact ⟨false, rfl, fin_same S2 rfl h2⟩
    · exact h2.elim⟩

/-! ## lists of expressions, tuples, lists -/
def aNil : Env' → Ro (List D) := fun env => .ok [] env
def aCons (f : Env' → Ro D) (r : Env' → Ro (List D)) : Env' → Ro (List D) := fun env => (f env).bind fun d e => (r e).bind fun ds e => .ok (d :: ds) e
variable {r : Env' → Ro (List D)} {es : List Expr}
theorem sa_nil : SA X T W [] aNil := PA.weak pa_nil fun σ H Q h => by
  obtain ⟨F, env, S, h⟩ := h
  exact h [] H .refl S rfl
theorem sa_cons (ha : SE X T W a f) (hr : SA X T W es r) (hs : starEach (a :: es) X.env = (false, eval a X.env) :: starEach es X.env := by rfl) : SA X T W (a :: es) (aCons f r) :=
  PA.weak (pa_cons ha hr hs) fun σ H Q h => rd_bind h fun F env d v H1 S1 i1 h1 => ⟨F, env, S1, Rst.bind S1 h1 fun ds vs H2 env2 s2 S2 i2 h2 => h2 (v :: vs) H2 .refl S2 ⟨v, vs, rfl, Is.mono (s2.le F) _ _ i1, i2⟩⟩
def eTup (r : Env' → Ro (List D)) : Env' → Ro D := fun env => (r env).bind fun ds e => if ds.length ≤ sizeLine then .ok (.tup ds) e else .stk
def eLst (r : Env' → Ro (List D)) : Env' → Ro D := fun env => (r env).bind fun ds e => if ds.length ≤ sizeLine then .ok (.lst ds) e else .stk
theorem se_tup {x1} (h : SA X T W es r) : SE X T W (.Tuple es x1 pos) (eTup r) := PE.weak (pe_tup h) fun σ H Q h => rd_bind h fun F env ds vs H1 S1 i1 h1 => by
  split at h1
  · rename_i hz
    refine ⟨by rw [← IsL.length i1]; exact hz, fun p hp => ?_⟩
    exact fin_new (d := .tup ds) S1 (New.upd hp) (fun Hs' l' n' => ⟨p, vs, rfl, n' p _ hp upd_same, IsL.mono l' _ _ i1⟩) h1
  · exact h1.elim
theorem sf_lst (h : SA X T W es r) : SF X T W (.List es pos) (eLst r) := PE.weak (pe_lst h) fun σ H Q h => rdF_bind h fun F env ds vs H1 S1 i1 h1 => by
  split at h1
  · rename_i hz
    refine ⟨by rw [← IsL.length i1]; exact hz, fun p hp => ?_⟩
    exact fin_newF (d := .lst ds) S1 hp (fun Hs l => ⟨vs, upd_same, IsL.mono l _ _ i1⟩) h1
  · exact h1.elim
theorem se_lst (h : SA X T W es r) : SE X T W (.List es pos) (eLst r) := SF.se (sf_lst h)
theorem sf_dnewK : SF X T W (.Dict [] [] pos) (eC (.dK [] [])) := PE.weak pe_dnewK fun σ H Q h p hp => by
  obtain ⟨F, env, S, h⟩ := h
  exact fin_newF (d := .dK [] []) S hp (fun Hs l => ⟨[], upd_same, rfl, rfl⟩) h
theorem sf_dnewT : SF X T W (.Dict [] [] pos) (eC (.dT [] [])) := PE.weak pe_dnewT fun σ H Q h p hp => by
  obtain ⟨F, env, S, h⟩ := h
  exact fin_newF (d := .dT [] []) S hp (fun Hs l => ⟨[], upd_same, rfl, rfl⟩) h
end
end Rf

namespace Rf
open PySem L2 LamX

/-! ## dicts as two lists -/
section
variable {κ : Type} [DecidableEq κ]
def lookD : List κ → List D → κ → Option D
  | k' :: ks, d :: ds, k => if k' = k then some d else lookD ks ds k
  | _, _, _ => none
def putD (ks : List κ) (ds : List D) (k : κ) (d : D) : List κ × List D :=
  if k ∈ ks then (ks, List.zipWith (fun k' d' => if k' = k then d else d') ks ds) else (ks ++ [k], ds ++ [d])
theorem lookD_val {G : Gm} {Hs : Hp} {k : κ} : ∀ {ks : List κ} {ds : List D} {vs : List V}, ks.length = vs.length → IsL G Hs ds vs →
    (∀ d, lookD ks ds k = some d → ∃ v, valV (ks.zip vs) k = some v ∧ Is G Hs d v) ∧ (lookD ks ds k = none → valV (ks.zip vs) k = none)
  | [], ds, vs, h, m => ⟨fun d e => (by cases e), fun _ => rfl⟩
  | k' :: ks, [], vs, h, m => by
    obtain rfl : vs = [] := m
    cases h
  | k' :: ks, x :: ds, vs, h, m => by
    obtain ⟨v, r, rfl, m1, m2⟩ := m
    have h' : ks.length = r.length := by simpa using h
    obtain ⟨a1, a2⟩ := lookD_val (k := k) h' m2
    show (∀ d, (if k' = k then some x else lookD ks ds k) = some d → ∃ w, valV ((k', v) :: ks.zip r) k = some w ∧ Is G Hs d w) ∧ ((if k' = k then some x else lookD ks ds k) = none → valV ((k', v) :: ks.zip r) k = none)
    by_cases e : k' = k
    · rw [if_pos e, valV_pos (p := (k', v)) e]
      exact ⟨fun d q => ⟨v, rfl, by cases q; exact m1⟩, fun q => by cases q⟩
    · rw [if_neg e, valV_neg (p := (k', v)) e]
      exact ⟨a1, a2⟩
theorem zip_any {k : κ} : ∀ {ks : List κ} {vs : List V}, ks.length = vs.length → ((ks.zip vs).any fun kv => decide (kv.1 = k)) = decide (k ∈ ks)
  | [], vs, h => by simp
  | k' :: ks, [], h => by cases h
  | k' :: ks, v :: vs, h => by
    have h' : ks.length = vs.length := by simpa using h
    show (decide (k' = k) || (ks.zip vs).any fun kv => decide (kv.1 = k)) = _
    rw [zip_any h']
    by_cases e : k' = k
    · subst e; simp
    · simp [e, Ne.symm e]
theorem zip_map {k : κ} {v : V} : ∀ {ks : List κ} {vs : List V}, ks.length = vs.length → (ks.zip vs).map (fun kv => if kv.1 = k then (kv.1, v) else kv) = ks.zip (List.zipWith (fun k' v' => if k' = k then v else v') ks vs)
  | [], vs, h => rfl
  | k' :: ks, [], h => by cases h
  | k' :: ks, w :: vs, h => by
    have h' : ks.length = vs.length := by simpa using h
    show (if k' = k then (k', v) else (k', w)) :: (ks.zip vs).map _ = (k', if k' = k then v else w) :: ks.zip (List.zipWith _ ks vs)
    rw [zip_map h']
    by_cases e : k' = k
    · rw [if_pos e, if_pos e]
    · rw [if_neg e, if_neg e]
theorem isL_zipWith {G : Gm} {Hs : Hp} {k : κ} {d : D} {v : V} (m : Is G Hs d v) : ∀ {ks : List κ} {ds : List D} {vs : List V}, IsL G Hs ds vs → IsL G Hs (List.zipWith (fun k' d' => if k' = k then d else d') ks ds) (List.zipWith (fun k' v' => if k' = k then v else v') ks vs)
  | [], ds, vs, h => rfl
  | k' :: ks, [], vs, h => by
    obtain rfl : vs = [] := h
    rfl
  | k' :: ks, x :: ds, vs, h => by
    obtain ⟨w, r, rfl, m1, m2⟩ := h
    refine ⟨if k' = k then v else w, _, rfl, ?_, isL_zipWith m m2⟩
    dsimp only
    by_cases e : k' = k
    · rw [if_pos e, if_pos e]; exact m
    · rw [if_neg e, if_neg e]; exact m1
theorem putD_val {G : Gm} {Hs : Hp} {k : κ} {d : D} {v : V} {ks : List κ} {ds : List D} {vs : List V} (h : ks.length = vs.length) (m : IsL G Hs ds vs) (i : Is G Hs d v) :
    ∃ vs', putK (ks.zip vs) k v = (putD ks ds k d).1.zip vs' ∧ (putD ks ds k d).1.length = vs'.length ∧ IsL G Hs (putD ks ds k d).2 vs' := by
  unfold putK putD
  rw [zip_any h]
  by_cases e : k ∈ ks
  · rw [if_pos (decide_eq_true e), if_pos e]
    refine ⟨_, zip_map h, ?_, isL_zipWith i m⟩
    rw [List.length_zipWith]
    show ks.length = min ks.length vs.length
    omega
  · rw [if_neg (by simpa using e), if_neg e]
    refine ⟨vs ++ [v], ?_, by simp [h], IsL.append m (IsL.one i)⟩
    rw [List.zip_append h]
    rfl
end
def keyOf : D → Option Key
  | .int i => some (.inl i)
  | .str x => some (.inr x)
  | _ => none
theorem keyOf_is {G : Gm} {Hs : Hp} {d : D} {k : Key} {v : V} (h : keyOf d = some k) (i : Is G Hs d v) : v = kV k := by
  cases d with
  | int x =>
    obtain rfl : v = .int x := i
    obtain rfl := Option.some.inj h
    rfl
  | str x =>
    obtain rfl : v = .str x := i
    obtain rfl := Option.some.inj h
    rfl
  | _ => cases h
def keysOfL : List D → Option (List Key)
  | [] => some []
  | d :: ds => match keyOf d, keysOfL ds with
    | some k, some ks => some (k :: ks)
    | _, _ => none
theorem keysOfL_is {G : Gm} {Hs : Hp} : ∀ {ds : List D} {ks : List Key} {vs : List V}, keysOfL ds = some ks → IsL G Hs ds vs → vs = ks.map kV
  | [], ks, vs, h, m => by
    obtain rfl : vs = [] := m
    obtain rfl := Option.some.inj h
    rfl
  | d :: ds, ks, vs, h, m => by
    obtain ⟨v, r, rfl, m1, m2⟩ := m
    unfold keysOfL at h
    split at h
    · rename_i k ks' e1 e2
      obtain rfl := Option.some.inj h
      rw [keyOf_is e1 m1, keysOfL_is e2 m2]
      rfl
    · cases h
def keysOf : D → Option (List Key)
  | .tup xs => keysOfL xs
  | _ => none
/-- what a dict holds -/
def getD' (d k : D) : Option (Option D) := match d with
  | .dK ks ds => (keyOf k).map fun q => lookD ks ds q
  | .dT ks ds => (keysOf k).map fun q => lookD ks ds q
  | _ => none
/-! ## subscripts -/
theorem IsL.atI {G : Gm} {Hs : Hp} {ds : List D} {vs : List V} {i : Int} {d : D} (m : IsL G Hs ds vs) (h : L2.atI ds i = some d) : ∃ v, L2.atI vs i = some v ∧ Is G Hs d v := by
  unfold L2.atI at h ⊢
  rw [← IsL.length m]
  cases e : ixN ds.length i with
  | none => rw [e] at h; cases h
  | some j =>
    rw [e] at h
    exact IsL.get m h
def isDic : D → Bool
  | .dK _ _ => true
  | .dT _ _ => true
  | _ => false
def dIxS : D → D → Option D
  | .tup xs, .int k => atI xs k
  | .ctup xs, .int k => atI xs k
  | .lst xs, .int k => atI xs k
  | .scr ns, .int k => (atI ns k).map .int
  | .str z, .int i => if z.length ≤ sizeLine then (atI z.cps.toList i).map fun c => .str ⟨#[c]⟩ else none
  | _, _ => none
def dIx (a b : D) : Option D := if isDic a then (getD' a b).bind id else dIxS a b
section
variable {X : Cx} {T : Tb} {W : WX} {k : Nat} {a b c : Expr} {f g u : Env' → Ro D} {q q' : Env' → Ro Bool} {pos : Pos} {rest es : List Expr} {r : Env' → Ro (List D)}
theorem atI_map {ns : List Int} {i : Int} : atI (ns.map V.int) i = (atI ns i).map V.int := by
  unfold atI
  rw [List.length_map]
  cases ixN ns.length i with
  | none => rfl
  | some j => simp
theorem ix_dict (hu : X.A.units + 1 < cLine) : IxR X (fun x y H Q => ∃ a v, x = .ref a ∧ DGet H a y (some v) ∧ Q v H) := by
  intro value slice pins s σ H x y v u Q I rx ry h hs
  obtain ⟨a, w', rfl, g, q⟩ := h
  obtain rfl : v = Value.ref a := rx
  exact PyProof.Rows.tail_any (dict_typeIs I g) PySem.F.slot_dict_getitem.lookup (d_getItem hu I g ry fun z s' I' r' => ⟨w', H, I', r', q⟩) hs
/-- an object that is read here: shared data, or an owned one that is borrowed -/
def BIs (G : Gm) (Hs H : Hp) (d : D) (v : V) : Prop := Is G Hs d v ∨ ∃ p, v = .ref p ∧ OIs G Hs H d p
theorem BIs.tup {G : Gm} {Hs H : Hp} {xs : List D} {v : V} (l : Le Hs H) (b : BIs G Hs H (.tup xs) v) : ∃ p vs, v = .ref p ∧ H p = some (.tup vs) ∧ IsL G Hs xs vs := by
  rcases b with ⟨p, vs, e, s, m⟩ | ⟨p, e, o⟩
  · exact ⟨p, vs, e, l.tp s, m⟩
  · exact o.elim
theorem BIs.ctup {G : Gm} {Hs H : Hp} {xs : List D} {v : V} (l : Le Hs H) (b : BIs G Hs H (.ctup xs) v) : ∃ p vs, v = .ref p ∧ SqT G.K H p vs ∧ IsL G Hs xs vs := by
  rcases b with ⟨p, vs, e, s, m⟩ | ⟨p, e, o⟩
  · exact ⟨p, vs, e, l.sqT s, m⟩
  · exact o.elim
theorem BIs.lst {G : Gm} {Hs H : Hp} {xs : List D} {v : V} (l : Le Hs H) (b : BIs G Hs H (.lst xs) v) : ∃ p vs, v = .ref p ∧ H p = some (.lst vs) ∧ IsL G Hs xs vs := by
  rcases b with ⟨p, vs, e, s, m⟩ | ⟨p, e, vs, s, m⟩
  · exact ⟨p, vs, e, l.lp s, m⟩
  · exact ⟨p, vs, e, s, m⟩
theorem BIs.dK {G : Gm} {Hs H : Hp} {ks : List Key} {ds : List D} {v : V} (l : Le Hs H) (b : BIs G Hs H (.dK ks ds) v) : ∃ p vs, v = .ref p ∧ H p = some (.dK (ks.zip vs)) ∧ ks.length = vs.length ∧ IsL G Hs ds vs := by
  rcases b with ⟨p, vs, e, s, n, m⟩ | ⟨p, e, vs, s, n, m⟩
  · exact ⟨p, vs, e, l _ _ s (fun ps z => by cases z), n, m⟩
  · exact ⟨p, vs, e, s, n, m⟩
theorem BIs.dT {G : Gm} {Hs H : Hp} {ks : List (List Key)} {ds : List D} {v : V} (l : Le Hs H) (b : BIs G Hs H (.dT ks ds) v) : ∃ p vs, v = .ref p ∧ H p = some (.dT (ks.zip vs)) ∧ ks.length = vs.length ∧ IsL G Hs ds vs := by
  rcases b with ⟨p, vs, e, s, n, m⟩ | ⟨p, e, vs, s, n, m⟩
  · exact ⟨p, vs, e, l _ _ s (fun ps z => by cases z), n, m⟩
  · exact ⟨p, vs, e, s, n, m⟩
theorem BIs.scal {G : Gm} {Hs H : Hp} {d : D} {v : V} (b : BIs G Hs H d v) (h : ∀ p, OIs G Hs H d p → False) : Is G Hs d v := by
  rcases b with b | ⟨p, _, o⟩
  · exact b
  · exact (h p o).elim
theorem getD'_is {G : Gm} {Hs H : Hp} {d k : D} {o : Option D} {x y : V} (l : Le Hs H) (i1 : BIs G Hs H d x) (i2 : Is G Hs k y) (e : getD' d k = some o) :
    ∃ a r, x = .ref a ∧ DGet H a y r ∧ (∀ z, o = some z → ∃ w, r = some w ∧ Is G Hs z w) ∧ (o = none → r = none) := by
  unfold getD' at e
  split at e
  · rename_i ks ds
    obtain ⟨a, vs, rfl, h1, h2, h3⟩ := i1.dK l
    cases e1 : keyOf k with
    | none => rw [e1] at e; cases e
    | some q =>
      rw [e1] at e
      obtain rfl := Option.some.inj e
      obtain ⟨m1, m2⟩ := lookD_val (k := q) h2 h3
      refine ⟨a, _, rfl, .inl ⟨_, q, .inl h1, keyOf_is e1 i2, rfl⟩, m1, m2⟩
  · rename_i ks ds
    obtain ⟨a, vs, rfl, h1, h2, h3⟩ := i1.dT l
    cases e1 : keysOf k with
    | none => rw [e1] at e; cases e
    | some q =>
      rw [e1] at e
      obtain rfl := Option.some.inj e
      obtain ⟨m1, m2⟩ := lookD_val (k := q) h2 h3
      unfold keysOf at e1
      split at e1
      · obtain ⟨b, ws, rfl, k1, k2⟩ := i2
        have z := keysOfL_is e1 k2
        subst z
        exact ⟨a, _, rfl, .inr ⟨_, q, b, .inl h1, rfl, l.tp k1, rfl⟩, m1, m2⟩
      · cases e1
  · cases e
def rIxA (K : PySem.W.Frag) : R2 := fun x y H Q => (∃ a v, x = .ref a ∧ DGet H a y (some v) ∧ Q v H) ∨ rIx K x y H Q
/-- an item -/
theorem bix_run {Hs H : Hp} {d k e : D} {x y : V} (l : Le Hs H) (b : BIs (gm X) Hs H d x) (i : Is (gm X) Hs k y) (h : dIx d k = some e) : ∃ v, Is (gm X) Hs e v ∧ ∀ Q : VK, Q v H → rIxA X.K x y H Q := by
  unfold dIx at h
  split at h
  · cases e1 : getD' d k with
    | none => rw [e1] at h; cases h
    | some o =>
      rw [e1] at h
      obtain ⟨a, r, rfl, g, k1, k2⟩ := getD'_is l b i e1
      obtain ⟨w, rfl, k3⟩ := k1 e h
      exact ⟨w, k3, fun Q q => .inl ⟨a, w, rfl, g, q⟩⟩
  · rename_i hnd
    clear hnd
    unfold dIxS at h
    split at h
    · rename_i xs k
      obtain ⟨p, vs, rfl, s, m⟩ := b.tup l
      obtain ⟨v, h1, h2⟩ := m.atI h
      exact ⟨v, h2, fun Q q => .inr (.inr (.inl ⟨p, vs, k, v, rfl, i, .inl (.inl s), h1, q⟩))⟩
    · rename_i xs k
      obtain ⟨p, vs, rfl, s, m⟩ := b.ctup l
      obtain ⟨v, h1, h2⟩ := m.atI h
      exact ⟨v, h2, fun Q q => .inr (.inr (.inl ⟨p, vs, k, v, rfl, i, s, h1, q⟩))⟩
    · rename_i xs k
      obtain ⟨p, vs, rfl, s, m⟩ := b.lst l
      obtain ⟨v, h1, h2⟩ := m.atI h
      exact ⟨v, h2, fun Q q => .inr (.inl ⟨p, vs, k, v, rfl, i, .inl (.inl s), h1, q⟩)⟩
    · rename_i ns k
      obtain ⟨p, rfl, s⟩ := b.scal fun p o => o
      cases e1 : atI ns k with
      | none => rw [e1] at h; cases h
      | some z =>
        rw [e1] at h
        obtain rfl := Option.some.inj h
        exact ⟨.int z, rfl, fun Q q => .inr (.inl ⟨p, _, k, .int z, rfl, i, l.sqL s, by rw [atI_map, e1]; rfl, q⟩)⟩
    · rename_i z i'
      split at h
      · rename_i hz
        cases e1 : atI z.cps.toList i' with
        | none => rw [e1] at h; cases h
        | some c =>
          rw [e1] at h
          obtain rfl := Option.some.inj h
          exact ⟨_, rfl, fun Q q => .inr (.inr (.inr ⟨z, i', c, b.scal fun p o => o, i, hz, e1, q⟩))⟩
      · cases h
    · cases h
theorem od_ix : OpD (gm X) (rIxA X.K) dIx := fun {Hs H d1 d2 d v1 v2 Q} l i1 i2 e q => by
  obtain ⟨v, h1, h2⟩ := bix_run l (.inl i1) i2 e
  exact h2 Q (q v H (New.refl H) fun _ l' _ => Is.mono l' _ _ h1)
theorem se_ix (C : Cs X) (ha : SE X T W a f) (hb : SE X T W b g) (hs : PlainIx b := by intro _ _; rfl) : SE X T W (.Subscript a b pos) (eOp dIx f g) :=
  PE.weak (pe_ix ((ix_dict (by have := C.hu; omega)).or ix_seq) ha hb hs) fun σ H Q h => rd_op od_ix h
/-- a name's object by what stands there: an owned one stays owned -/
def slotD (env : Env') (i : Nat) : Option D := match env[i]? with
  | some (.v d) => some d
  | some (.o d) => some d
  | _ => none
theorem slot_is {G : Gm} {F : Addr → Prop} {σ : St} {H : Hp} {env : Env'} {i : Nat} {d : D} (S : Sta G T F σ H env) (h : slotD env i = some d) : ∃ v, σ[i]? = some (some v) ∧ Is G H d v := by
  unfold slotD at h
  split at h
  · rename_i d' e
    obtain rfl := Option.some.inj h
    obtain ⟨v, e1, e2⟩ := S.val e
    exact ⟨v, e1, Is.mono Le.unhid _ _ e2⟩
  · rename_i d' e
    obtain rfl := Option.some.inj h
    obtain ⟨p, e1, e2, e3⟩ := S.own e
    exact ⟨.ref p, e1, e2.is Le.unhid fun o z => z⟩
  · cases h
theorem slot_bis {G : Gm} {F : Addr → Prop} {σ : St} {H : Hp} {env : Env'} {i : Nat} {d : D} (S : Sta G T F σ H env) (h : slotD env i = some d) : ∃ v, σ[i]? = some (some v) ∧ BIs G (hid H (Hd F σ env)) H d v := by
  unfold slotD at h
  split at h
  · rename_i d' e
    obtain rfl := Option.some.inj h
    obtain ⟨v, e1, e2⟩ := S.val e
    exact ⟨v, e1, .inl e2⟩
  · rename_i d' e
    obtain rfl := Option.some.inj h
    obtain ⟨p, e1, e2, e3⟩ := S.own e
    exact ⟨.ref p, e1, .inr ⟨p, rfl, e2⟩⟩
  · cases h
def eIxV (i : Nat) (g : Env' → Ro D) : Env' → Ro D := fun env => match slotD env i with
  | some _ => (g env).bind fun k e => match slotD e i with
    | some d => lift (dIx d k) e
    | none => .stk
  | none => .stk
theorem se_ixV (C : Cs X) (i : Nat) {x : Str} {p : Pos} (hb : SE X T W b g) (hN : X.N[i]? = some x := by rfl) (hv : Vis X.env.scope x := by first | exact Or.inl rfl | exact Or.inr (Or.inl rfl) | exact Or.inr (Or.inr rfl)) (hs : PlainIx b := by intro _ _; rfl)
    (hd : (x == ("__debug__" : Str)) = false := by decide) (hcd : (x == ("__classdict__" : Str)) = false := by decide) : SE X T W (.Subscript (.Name x p) b pos) (eIxV i g) :=
  PE.weak (pe_ix ((ix_dict (by have := C.hu; omega)).or ix_seq) (pe_var hN hv hd hcd) hb hs) fun σ H Q h => by
    obtain ⟨F, env, S, h⟩ := h
    unfold eIxV at h
    split at h
    · rename_i d0 e0
      obtain ⟨v, h1, _⟩ := slot_bis S e0
      refine ⟨v, h1, F, env, S, Rst.bind S h fun d2 v2 H2 env2 s2 S2 i2 h2 => ?_⟩
      split at h2
      · rename_i d e
        obtain ⟨v', h1', b⟩ := slot_bis S2 e
        rw [h1] at h1'
        obtain rfl := Option.some.inj (Option.some.inj h1')
        obtain ⟨z, e2, h2⟩ := lift_some h2
        obtain ⟨w, k1, k2⟩ := bix_run Le.unhid b i2 e2
        exact k2 Q (fin_same S2 k1 h2)
      · exact h2.elim
    · exact h.elim
end
end Rf

namespace Rf
open PySem L2 LamX

section
variable {X : Cx} {T : Tb} {W : WX} {k : Nat} {a b c : Expr} {f g u : Env' → Ro D} {q q' : Env' → Ro Bool} {pos p p2 : Pos} {rest es : List Expr} {r : Env' → Ro (List D)} {x : Str}

/-! ## slices -/
def cut {α : Type} (xs : List α) (lo hi : Option Int) : List α := (xs.drop (HT.sIx xs.length 0 lo)).take (HT.sIx xs.length xs.length hi - HT.sIx xs.length 0 lo)
theorem cut_is {G : Gm} {Hs : Hp} {xs : List D} {vs : List V} (m : IsL G Hs xs vs) (lo hi : Option Int) : IsL G Hs (cut xs lo hi) (cutV vs lo hi) := by
  unfold cut cutV
  rw [IsL.length m]
  exact IsL.take _ (IsL.drop _ m)
theorem cut_map {ns : List Int} (lo hi : Option Int) : cutV (ns.map V.int) lo hi = (cut ns lo hi).map V.int := by
  unfold cut cutV
  rw [List.length_map, List.map_take, List.map_drop]
theorem cut_whole {α : Type} {xs : List α} {lo hi : Option Int} (h : HT.sIx xs.length 0 lo = 0 ∧ HT.sIx xs.length xs.length hi = xs.length) : cut xs lo hi = xs := by
  unfold cut
  rw [h.1, h.2]
  simp
def dSl (d : D) (lo hi : Option Int) : Option D := match d with
  | .lst xs => some (.lst (cut xs lo hi))
  | .tup xs => some (.tup (cut xs lo hi))
  | .scr ns => some (.lst ((cut ns lo hi).map .int))
  | _ => none
def isO : Rel (Option Int) (Option Int) := fun _ a b => a = b
def SO (X : Cx) (T : Tb) (W : WX) (e : Option Expr) (f : Env' → Ro (Option Int)) : Prop := PO X e (rd (gm X) T isO f W)
theorem PO.weak {e : Option Expr} {t t' : TO} (h : PO X e t) (j : ∀ σ H Q, t' σ H Q → t σ H Q) : PO X e t' := ⟨fun pins s σ H Q I q => h.run pins s σ H Q I (j σ H Q q)⟩
def oNone : Env' → Ro (Option Int) := fun env => .ok none env
def oSome (f : Env' → Ro D) : Env' → Ro (Option Int) := fun env => (f env).bind fun d e => match d with
  | .int i => .ok (some i) e
  | _ => .stk
theorem so_none : SO X T W none oNone := PO.weak po_none fun σ H Q h => by
  obtain ⟨F, env, S, h⟩ := h
  exact h none H .refl S rfl
theorem so_some (ha : SE X T W a f) : SO X T W (some a) (oSome f) := PO.weak (po_some ha) fun σ H Q h => rd_bind h fun F env d v H1 S1 i1 h1 => by
  split at h1
  · rename_i i
    exact ⟨i, i1, fin_same S1 rfl h1⟩
  · exact h1.elim
def eSl (f : Env' → Ro D) (lo hi : Env' → Ro (Option Int)) : Env' → Ro D := fun env => (f env).bind fun d e => (lo e).bind fun l e => (hi e).bind fun h e => lift (dSl d l h) e
def rSlX (K : PySem.W.Frag) : V → Option Int → Option Int → Hp → VK → Prop := fun x lo hi H Q => rSlL K x lo hi H Q ∨ rSlA K x lo hi H Q
variable {lo hi : Option Expr} {fl fh : Env' → Ro (Option Int)}
theorem se_slice (ha : SE X T W a f) (hl : SO X T W lo fl) (hh : SO X T W hi fh) : SE X T W (.Subscript a (.Slice lo hi none p2) pos) (eSl f fl fh) :=
  PE.weak (pe_slice (r := rSlX X.K) (sl_list.or sl_tupA) ha hl hh) fun σ H Q h => rd_bind h fun F env d v H1 S1 i1 h1 => ⟨F, env, S1, Rst.bind S1 h1 fun l l' H2 env2 s2 S2 i2 h2 => ⟨F, env2, S2, Rst.bind S2 h2 fun o o' H3 env3 s3 S3 i3 h3 => by
    obtain rfl : l = l' := i2
    obtain rfl : o = o' := i3
    replace i1 := Is.mono ((s2.trans s3).le F) _ _ i1
    obtain ⟨z, e, h3⟩ := lift_some h3
    unfold dSl at e
    split at e
    · rename_i xs
      obtain rfl := Option.some.inj e
      obtain ⟨y, vs, rfl, s, m⟩ := i1
      refine .inl ⟨y, vs, rfl, Le.unhid.lq s, fun w hw => ?_⟩
      exact fin_new (d := .lst (cut xs l o)) S3 (New.upd hw) (fun Hs' l' n' => ⟨w, _, rfl, n' w _ hw upd_same, IsL.mono l' _ _ (cut_is m _ _)⟩) h3
    · rename_i xs
      obtain rfl := Option.some.inj e
      obtain ⟨y, vs, rfl, s, m⟩ := i1
      have hlen := IsL.length m
      refine .inr ⟨y, vs, rfl, Le.unhid.tq s, fun hw => ?_, fun _ w hw => ?_⟩
      · rw [← hlen] at hw
        rw [cut_whole hw] at h3
        exact fin_same (R := isD (gm X)) (a := .tup xs) S3 ⟨y, vs, rfl, s, m⟩ h3
      · exact fin_new (d := .tup (cut xs l o)) S3 (New.upd hw) (fun Hs' l' n' => ⟨w, _, rfl, n' w _ hw upd_same, IsL.mono l' _ _ (cut_is m _ _)⟩) h3
    · rename_i ns
      obtain rfl := Option.some.inj e
      obtain ⟨y, rfl, s⟩ := i1
      refine .inl ⟨y, _, rfl, Le.unhid.sqL s, fun w hw => ?_⟩
      rw [cut_map]
      exact fin_new (d := .lst ((cut ns l o).map .int)) S3 (New.upd hw) (fun Hs' l' n' => ⟨w, _, rfl, n' w _ hw upd_same, IsL.of_ints _⟩) h3
    · cases e⟩⟩

/-! ## built-in functions -/
def OpC (G : Gm) (r : List V → Hp → VK → Prop) (o : List D → Option D) : Prop := ∀ {Hs H : Hp} {ds : List D} {d : D} {vs : List V} {Q : VK}, Le Hs H → IsL G Hs ds vs → o ds = some d →
  (∀ v H', New H H' → (∀ Hs', Le Hs Hs' → (∀ a o, H a = none → H' a = some o → Hs' a = some o) → Is G Hs' d v) → Q v H') → r vs H Q
def eCall (o : List D → Option D) (r : Env' → Ro (List D)) : Env' → Ro D := fun env => (r env).bind fun ds e => lift (o ds) e
theorem rd_call {G : Gm} {t : List V → Hp → VK → Prop} {o : List D → Option D} {σ : St} {H : Hp} {Q : VK} (hd : OpC G t o) (h : rd G T (isD G) (eCall o r) W σ H Q) : tCB t (rd G T (isA G) r W) σ H Q :=
  rd_bind h fun F env ds vs H1 S1 i1 h1 => by
    obtain ⟨d, e, h1⟩ := lift_some h1
    exact hd Le.unhid i1 e fun v H' n j => fin_new S1 n j h1
theorem se_callB {id : String} {t : List V → Hp → VK → Prop} {o : List D → Option D} (hc : CallR X (.builtin id) t) (hd : OpC (gm X) t o) (hg : Gl X x) (hm : X.mg x = none) (hv : bootBuiltins x = some (.builtin id)) (ha : SA X T W (a :: es) r) (hn : x ≠ "__name__" := by decide) (hdb : (x == ("__debug__" : Str)) = false := by decide)
    (he : starEach (a :: es) X.env = (false, eval a X.env) :: starEach es X.env := by rfl) (hpl : (backTo pos (starEach es X.env)).any (·.1) = false := by rfl) : SE X T W (.Call (.Name x p) (a :: es) [] pos) (eCall o r) :=
  PE.weak (pe_callB hc hg hm hv ha hn hdb he hpl) fun σ H Q h => rd_call hd h
theorem se_callTy {n : String} {t : List V → Hp → VK → Prop} {o : List D → Option D} (hc : CallR X (.type n) t) (hd : OpC (gm X) t o) (hg : Gl X x) (hm : X.mg x = none) (hv : bootBuiltins x = some (.type n)) (ha : SA X T W (a :: es) r) (hn : x ≠ "__name__" := by decide) (hdb : (x == ("__debug__" : Str)) = false := by decide)
    (he : starEach (a :: es) X.env = (false, eval a X.env) :: starEach es X.env := by rfl) (hpl : (backTo pos (starEach es X.env)).any (·.1) = false := by rfl) : SE X T W (.Call (.Name x p) (a :: es) [] pos) (eCall o r) :=
  PE.weak (pe_callTy hc hg hm hv ha hn hdb he hpl) fun σ H Q h => rd_call hd h
theorem isL1 {G : Gm} {Hs : Hp} {d : D} {vs : List V} (m : IsL G Hs [d] vs) : ∃ v, vs = [v] ∧ Is G Hs d v := by
  obtain ⟨v, r, rfl, m1, m2⟩ := m
  obtain rfl : r = [] := m2
  exact ⟨v, rfl, m1⟩
theorem isL2 {G : Gm} {Hs : Hp} {d e : D} {vs : List V} (m : IsL G Hs [d, e] vs) : ∃ v w, vs = [v, w] ∧ Is G Hs d v ∧ Is G Hs e w := by
  obtain ⟨v, r, rfl, m1, m2⟩ := m
  obtain ⟨w, rfl, m3⟩ := isL1 m2
  exact ⟨v, w, rfl, m1, m3⟩
/-! len -/
def lenD : D → Option Nat
  | .str x => if x.length ≤ sizeLine then some x.length else none
  | .tup xs => some xs.length
  | .ctup xs => some xs.length
  | .lst xs => some xs.length
  | .scr ns => some ns.length
  | .dK ks _ => some ks.length
  | _ => none
def rLenA (K : PySem.W.Frag) : List V → Hp → VK → Prop := fun xs H Q => (∃ x n, xs = [x] ∧ LenV K x H n ∧ Q (.int n) H) ∨ ∃ a kvs, xs = [V.ref a] ∧ H a = some (.dK kvs) ∧ Q (.int kvs.length) H
theorem len_run {G : Gm} {Hs H : Hp} {d : D} {n : Nat} {v : V} {Q : VK} (l : Le Hs H) (b : BIs G Hs H d v) (e : lenD d = some n) (j : Q (.int n) H) : rLenA G.K [v] H Q := by
  unfold lenD at e
  split at e
  · rename_i x
    split at e
    · rename_i hx
      obtain rfl := Option.some.inj e
      obtain rfl : v = .str x := b.scal fun p o => o
      exact .inl ⟨_, _, rfl, ⟨hx, rfl⟩, j⟩
    · cases e
  · rename_i xs
    obtain rfl := Option.some.inj e
    obtain ⟨y, vs, rfl, s, m⟩ := b.tup l
    exact .inl ⟨_, _, rfl, .inr ⟨vs, .inl (.inl s), IsL.length m⟩, j⟩
  · rename_i xs
    obtain rfl := Option.some.inj e
    obtain ⟨y, vs, rfl, s, m⟩ := b.ctup l
    exact .inl ⟨_, _, rfl, .inr ⟨vs, s, IsL.length m⟩, j⟩
  · rename_i xs
    obtain rfl := Option.some.inj e
    obtain ⟨y, vs, rfl, s, m⟩ := b.lst l
    exact .inl ⟨_, _, rfl, .inl ⟨vs, .inl (.inl s), IsL.length m⟩, j⟩
  · rename_i ns
    obtain rfl := Option.some.inj e
    obtain ⟨y, rfl, s⟩ := b.scal fun p o => o
    exact .inl ⟨_, _, rfl, .inl ⟨_, l.sqL s, by rw [List.length_map]⟩, j⟩
  · rename_i ks ds
    obtain rfl := Option.some.inj e
    obtain ⟨y, vs, rfl, s, m, m2⟩ := b.dK l
    refine .inr ⟨_, _, rfl, s, ?_⟩
    rw [List.length_zip, ← m, Nat.min_self]
    exact j
  · cases e
def oLen : List D → Option D
  | [d] => (lenD d).map fun n => .int n
  | _ => none
theorem oc_len : OpC (gm X) (rLenA X.K) oLen := fun {Hs H ds d vs Q} l m e j => by
  unfold oLen at e
  split at e
  · rename_i z
    obtain ⟨v, rfl, i⟩ := isL1 m
    cases e1 : lenD z with
    | none => rw [e1] at e; cases e
    | some n =>
      rw [e1] at e
      obtain rfl := Option.some.inj e
      exact len_run l (.inl i) e1 (j _ H (New.refl H) fun _ _ _ => rfl)
  · cases e
theorem se_len (hg : Gl X "len") (hm : X.mg "len" = none) (ha : SE X T W a f) (h0 : starEach [a] X.env = (false, eval a X.env) :: starEach [] X.env := by rfl) : SE X T W (.Call (.Name "len" p) [a] [] pos) (eCall oLen (aCons f aNil)) :=
  se_callB (call_len.or call_lenD) oc_len hg hm PySem.boot_len (sa_cons ha sa_nil h0) (he := h0)
/-- len of a name's object -/
def eLenV (i : Nat) : Env' → Ro D := fun env => match slotD env i with
  | some d => lift ((lenD d).map fun n => .int n) env
  | none => .stk
theorem se_lenV (i : Nat) {y : Str} {p3 : Pos} (hg : Gl X "len") (hm : X.mg "len" = none) (hN : X.N[i]? = some y := by rfl) (hv : Vis X.env.scope y := by first | exact Or.inl rfl | exact Or.inr (Or.inl rfl) | exact Or.inr (Or.inr rfl))
    (hd : (y == ("__debug__" : Str)) = false := by decide) (hcd : (y == ("__classdict__" : Str)) = false := by decide) (h0 : starEach [.Name y p3] X.env = (false, eval (.Name y p3) X.env) :: starEach [] X.env := by rfl) : SE X T W (.Call (.Name "len" p) [.Name y p3] [] pos) (eLenV i) :=
  PE.weak (pe_callB (call_len.or call_lenD) hg hm PySem.boot_len (pa_cons (pe_var hN hv hd hcd) pa_nil h0) (he := h0)) fun σ H Q h => by
    obtain ⟨F, env, S, h⟩ := h
    unfold eLenV at h
    split at h
    · rename_i d e
      obtain ⟨v, h1, b⟩ := slot_bis S e
      obtain ⟨z, e2, h⟩ := lift_some h
      cases e1 : lenD d with
      | none => rw [e1] at e2; cases e2
      | some n =>
        rw [e1] at e2
        obtain rfl := Option.some.inj e2
        exact ⟨v, h1, len_run Le.unhid b e1 (fin_same (R := isD (gm X)) (a := .int n) S rfl h)⟩
    · exact h.elim
/-! abs, int, max, min, sum, all, any of lists -/
def oAbs : List D → Option D
  | [.int i] => some (.int (if i < 0 then -i else i))
  | _ => none
theorem oc_abs : OpC (gm X) (fun xs H Q => ∃ i, xs = [.int i] ∧ Q (.int (if i < 0 then -i else i)) H) oAbs := fun {Hs H ds d vs Q} l m e j => by
  unfold oAbs at e
  split at e
  · rename_i i
    obtain ⟨v, rfl, i1⟩ := isL1 m
    obtain rfl : v = .int i := i1
    obtain rfl := Option.some.inj e
    exact ⟨i, rfl, j _ H (New.refl H) fun _ _ _ => rfl⟩
  · cases e
def oInt : List D → Option D
  | [.int i] => some (.int i)
  | [.bl b] => some (.int (if b then 1 else 0))
  | _ => none
theorem oc_int : OpC (gm X) (fun xs H Q => (∃ i, xs = [.int i] ∧ Q (.int i) H) ∨ ∃ k, xs = [.bl k] ∧ Q (.int (if k then 1 else 0)) H) oInt := fun {Hs H ds d vs Q} l m e j => by
  unfold oInt at e
  split at e
  · rename_i i
    obtain ⟨v, rfl, i1⟩ := isL1 m
    obtain rfl : v = .int i := i1
    obtain rfl := Option.some.inj e
    exact .inl ⟨i, rfl, j _ H (New.refl H) fun _ _ _ => rfl⟩
  · rename_i i
    obtain ⟨v, rfl, i1⟩ := isL1 m
    obtain rfl : v = .bl i := i1
    obtain rfl := Option.some.inj e
    exact .inr ⟨i, rfl, j _ H (New.refl H) fun _ _ _ => rfl⟩
  · cases e
def o2I (h : Int → Int → Int) : List D → Option D
  | [.int i, .int j] => some (.int (h i j))
  | _ => none
theorem oc_2I {h : Int → Int → Int} : OpC (gm X) (fun xs H Q => ∃ i j, xs = [.int i, .int j] ∧ Q (.int (h i j)) H) (o2I h) := fun {Hs H ds d vs Q} l m e j => by
  unfold o2I at e
  split at e
  · rename_i i i'
    obtain ⟨v, w, rfl, i1, i2⟩ := isL2 m
    obtain rfl : v = .int i := i1
    obtain rfl : w = .int i' := i2
    obtain rfl := Option.some.inj e
    exact ⟨i, i', rfl, j _ H (New.refl H) fun _ _ _ => rfl⟩
  · cases e
def max2 (i j : Int) : Int := if j > i then j else i
def min2 (i j : Int) : Int := if j < i then j else i
def oSum : List D → Option D
  | [.lst xs] => (ints? xs).map fun ns => .int ns.sum
  | _ => none
theorem oc_sum : OpC (gm X) (rSum X.K) oSum := fun {Hs H ds d vs Q} l m e j => by
  unfold oSum at e
  split at e
  · rename_i xs
    obtain ⟨v, rfl, i1⟩ := isL1 m
    cases e1 : ints? xs with
    | none => rw [e1] at e; cases e
    | some ns =>
      rw [e1] at e
      obtain rfl := Option.some.inj e
      obtain ⟨y, vs, rfl, s, m⟩ := i1
      rw [ints?_is e1] at m
      rw [IsL.ints m] at s
      exact ⟨y, ns, rfl, l.lq s, j _ H (New.refl H) fun _ _ _ => rfl⟩
  · cases e
/-- data as truth values, all of them -/
def bls? : List D → Option (List Bool)
  | [] => some []
  | .bl i :: r => (bls? r).map (i :: ·)
  | _ :: _ => none
theorem bls?_is {G : Gm} {Hs : Hp} : ∀ {xs : List D} {bs : List Bool} {vs : List V}, bls? xs = some bs → IsL G Hs xs vs → vs = bs.map V.bl
  | [], bs, vs, h, m => by
    obtain rfl := Option.some.inj h
    exact m
  | d :: xs, bs, vs, h, m => by
    obtain ⟨v, r, rfl, m1, m2⟩ := m
    cases d with
    | bl b =>
      obtain rfl : v = .bl b := m1
      unfold bls? at h
      cases e : bls? xs with
      | none => rw [e] at h; cases h
      | some cs =>
        rw [e] at h
        obtain rfl := Option.some.inj h
        rw [bls?_is e m2]
        rfl
    | _ => cases h
theorem bls?_map : ∀ bs : List Bool, bls? (bs.map D.bl) = some bs
  | [] => rfl
  | n :: ns => by
    show (bls? (ns.map D.bl)).map (n :: ·) = _
    rw [bls?_map ns]
    rfl
def oBls (h : List Bool → Bool) : List D → Option D
  | [.lst xs] => (bls? xs).map fun bs => .bl (h bs)
  | _ => none
theorem oc_bls {h : List Bool → Bool} : OpC (gm X) (fun vs H Q => ∃ (a : Addr) (bs : List Bool), vs = [V.ref a] ∧ SqL X.K H a (bs.map V.bl) ∧ Q (.bl (h bs)) H) (oBls h) := fun {Hs H ds d vs Q} l m e j => by
  unfold oBls at e
  split at e
  · rename_i xs
    obtain ⟨v, rfl, i1⟩ := isL1 m
    cases e1 : bls? xs with
    | none => rw [e1] at e; cases e
    | some bs =>
      rw [e1] at e
      obtain rfl := Option.some.inj e
      obtain ⟨y, vs, rfl, s, m⟩ := i1
      rw [bls?_is e1 m] at s
      exact ⟨y, bs, rfl, l.lq s, j _ H (New.refl H) fun _ _ _ => rfl⟩
  · cases e
def allB (bs : List Bool) : Bool := bs.all id
def anyB (bs : List Bool) : Bool := bs.any id
/-- the greatest, the least of some ints -/
def maxL : List Int → Int
  | [] => 0
  | [n] => n
  | n :: ns => if maxL ns < n then n else maxL ns
def minL : List Int → Int
  | [] => 0
  | [n] => n
  | n :: ns => if n < minL ns then n else minL ns
theorem maxL_is : ∀ {ns : List Int} {m : Int}, m ∈ ns → (∀ y ∈ ns, y ≤ m) → maxL ns = m
  | [], m, h, _ => by cases h
  | [n], m, h, _ => by
    obtain rfl : m = n := by simpa using h
    rfl
  | n :: n' :: ns, m, h, k => by
    have hn := k n (by simp)
    show (if maxL (n' :: ns) < n then n else maxL (n' :: ns)) = m
    rcases List.mem_cons.mp h with e | e
    · subst e
      have hm : maxL (n' :: ns) ∈ n' :: ns ∧ ∀ y ∈ n' :: ns, y ≤ maxL (n' :: ns) := maxL_max n' ns
      have := k _ (List.mem_cons_of_mem _ hm.1)
      split
      · rfl
      · omega
    · rw [maxL_is e fun y hy => k y (List.mem_cons_of_mem _ hy), if_neg (by omega)]
where maxL_max : ∀ (n : Int) (ns : List Int), maxL (n :: ns) ∈ n :: ns ∧ ∀ y ∈ n :: ns, y ≤ maxL (n :: ns)
  | n, [] => by
    refine ⟨by simp [maxL], fun y hy => ?_⟩
    obtain rfl : y = n := by simpa using hy
    simp [maxL]
  | n, n' :: ns => by
    obtain ⟨a1, a2⟩ := maxL_max n' ns
    have e : maxL (n :: n' :: ns) = if maxL (n' :: ns) < n then n else maxL (n' :: ns) := rfl
    rw [e]
    split
    · refine ⟨by simp, fun y hy => ?_⟩
      rcases List.mem_cons.mp hy with rfl | hy
      · omega
      · have := a2 y hy; omega
    · refine ⟨List.mem_cons_of_mem _ a1, fun y hy => ?_⟩
      rcases List.mem_cons.mp hy with rfl | hy
      · omega
      · exact a2 y hy
theorem minL_is : ∀ {ns : List Int} {m : Int}, m ∈ ns → (∀ y ∈ ns, m ≤ y) → minL ns = m
  | [], m, h, _ => by cases h
  | [n], m, h, _ => by
    obtain rfl : m = n := by simpa using h
    rfl
  | n :: n' :: ns, m, h, k => by
    have hn := k n (by simp)
    show (if n < minL (n' :: ns) then n else minL (n' :: ns)) = m
    rcases List.mem_cons.mp h with e | e
    · subst e
      have hm : minL (n' :: ns) ∈ n' :: ns ∧ ∀ y ∈ n' :: ns, minL (n' :: ns) ≤ y := minL_min n' ns
      have := k _ (List.mem_cons_of_mem _ hm.1)
      split
      · rfl
      · omega
    · rw [minL_is e fun y hy => k y (List.mem_cons_of_mem _ hy), if_neg (by omega)]
where minL_min : ∀ (n : Int) (ns : List Int), minL (n :: ns) ∈ n :: ns ∧ ∀ y ∈ n :: ns, minL (n :: ns) ≤ y
  | n, [] => by
    refine ⟨by simp [minL], fun y hy => ?_⟩
    obtain rfl : y = n := by simpa using hy
    simp [minL]
  | n, n' :: ns => by
    obtain ⟨a1, a2⟩ := minL_min n' ns
    have e : minL (n :: n' :: ns) = if n < minL (n' :: ns) then n else minL (n' :: ns) := rfl
    rw [e]
    split
    · refine ⟨by simp, fun y hy => ?_⟩
      rcases List.mem_cons.mp hy with rfl | hy
      · omega
      · have := a2 y hy; omega
    · refine ⟨List.mem_cons_of_mem _ a1, fun y hy => ?_⟩
      rcases List.mem_cons.mp hy with rfl | hy
      · omega
      · exact a2 y hy
def oMx (h : List Int → Int) : List D → Option D
  | [.lst xs] => match ints? xs with
    | some (n :: ns) => some (.int (h (n :: ns)))
    | _ => none
  | _ => none
theorem oc_max : OpC (gm X) (rMax X.K) (oMx maxL) := fun {Hs H ds d vs Q} l m e j => by
  unfold oMx at e
  split at e
  · rename_i xs
    split at e
    · rename_i n ns e1
      obtain rfl := Option.some.inj e
      obtain ⟨v, rfl, y, vs, rfl, s, m⟩ := isL1 m
      rw [ints?_is e1] at m
      rw [IsL.ints m] at s
      refine ⟨y, n :: ns, rfl, l.lq s, by simp, fun z h1 h2 => ?_⟩
      rw [← maxL_is h1 h2]
      exact j _ H (New.refl H) fun _ _ _ => rfl
    · cases e
  · cases e
theorem oc_min : OpC (gm X) (rMin X.K) (oMx minL) := fun {Hs H ds d vs Q} l m e j => by
  unfold oMx at e
  split at e
  · rename_i xs
    split at e
    · rename_i n ns e1
      obtain rfl := Option.some.inj e
      obtain ⟨v, rfl, y, vs, rfl, s, m⟩ := isL1 m
      rw [ints?_is e1] at m
      rw [IsL.ints m] at s
      refine ⟨y, n :: ns, rfl, l.lq s, by simp, fun z h1 h2 => ?_⟩
      rw [← minL_is h1 h2]
      exact j _ H (New.refl H) fun _ _ _ => rfl
    · cases e
  · cases e
/-! list(x), tuple(x) -/
def oList : List D → Option D
  | [.lst xs] => some (.lst xs)
  | [.tup xs] => some (.lst xs)
  | [.ctup xs] => some (.lst xs)
  | _ => none
def oTuple : List D → Option D
  | [.lst xs] => some (.tup xs)
  | [.tup xs] => some (.tup xs)
  | _ => none
def rListOf (K : PySem.W.Frag) : List V → Hp → VK → Prop := fun xs H Q => ∃ p ys, xs = [.ref p] ∧ (SqL K H p ys ∨ SqT K H p ys) ∧ ∀ l, H l = none → Q (.ref l) (upd H l (.lst ys))
theorem list_run {G : Gm} {Hs H : Hp} {ds : List D} {d : D} {vs : List V} (l : Le Hs H) (m : IsL G Hs ds vs) (e : oList ds = some d) : ∃ p ys zs, vs = [.ref p] ∧ d = .lst zs ∧ (SqL G.K H p ys ∨ SqT G.K H p ys) ∧ IsL G Hs zs ys := by
  unfold oList at e
  split at e
  · rename_i xs
    obtain rfl := Option.some.inj e
    obtain ⟨v, rfl, y, vs, rfl, s, m⟩ := isL1 m
    exact ⟨y, vs, xs, rfl, rfl, .inl (l.lq s), m⟩
  · rename_i xs
    obtain rfl := Option.some.inj e
    obtain ⟨v, rfl, y, vs, rfl, s, m⟩ := isL1 m
    exact ⟨y, vs, xs, rfl, rfl, .inr (l.tq s), m⟩
  · rename_i xs
    obtain rfl := Option.some.inj e
    obtain ⟨v, rfl, y, vs, rfl, s, m⟩ := isL1 m
    exact ⟨y, vs, xs, rfl, rfl, .inr (l.sqT s), m⟩
  · cases e
theorem sf_list (hg : Gl X "list") (hm : X.mg "list" = none) (ha : SE X T W a f) (h0 : starEach [a] X.env = (false, eval a X.env) :: starEach [] X.env := by rfl) : SF X T W (.Call (.Name "list" p) [a] [] pos) (eCall oList (aCons f aNil)) :=
  PE.weak (pe_callTy call_list_of hg hm (by decide +kernel) (sa_cons ha sa_nil h0) (he := h0)) fun σ H Q h => rdF_bind h fun F env ds vs H1 S1 i1 h1 => by
    cases e : oList ds with
    | none =>
      rw [e] at h1
      exact h1.elim
    | some d =>
      rw [e] at h1
      obtain ⟨y, ys, zs, rfl, rfl, s, m⟩ := list_run Le.unhid i1 e
      exact ⟨y, ys, rfl, s, fun w hw => fin_newF (d := .lst zs) S1 hw (fun Hs l => ⟨ys, upd_same, IsL.mono l _ _ m⟩) h1⟩
theorem se_tuple (hg : Gl X "tuple") (hm : X.mg "tuple" = none) (ha : SE X T W a f) (h0 : starEach [a] X.env = (false, eval a X.env) :: starEach [] X.env := by rfl) : SE X T W (.Call (.Name "tuple" p) [a] [] pos) (eCall oTuple (aCons f aNil)) :=
  PE.weak (pe_callTy call_tuple_of hg hm (by decide +kernel) (sa_cons ha sa_nil h0) (he := h0)) fun σ H Q h => rd_bind h fun F env ds vs H1 S1 i1 h1 => by
    obtain ⟨d, e, h1⟩ := lift_some h1
    unfold oTuple at e
    split at e
    · rename_i xs
      obtain rfl := Option.some.inj e
      obtain ⟨v, rfl, y, vs, rfl, s, m⟩ := isL1 i1
      exact ⟨y, vs, rfl, .inl ⟨Le.unhid.lq s, fun w hw => fin_new (d := .tup xs) S1 (New.upd hw) (fun Hs' l' n' => ⟨w, vs, rfl, n' w _ hw upd_same, IsL.mono l' _ _ m⟩) h1⟩⟩
    · rename_i xs
      obtain rfl := Option.some.inj e
      obtain ⟨v, rfl, y, vs, rfl, s, m⟩ := isL1 i1
      exact ⟨y, vs, rfl, .inr ⟨Le.unhid.tq s, fin_same (R := isD (gm X)) (a := .tup xs) S1 ⟨y, vs, rfl, s, m⟩ h1⟩⟩
    · cases e
/-! isinstance(x, T) -/
inductive Ty6 where
  | i | b | s | t | l | d
def Ty6.nm : Ty6 → String
  | .i => "int"
  | .b => "bool"
  | .s => "str"
  | .t => "tuple"
  | .l => "list"
  | .d => "dict"
def tyD : D → Option String
  | .non => some "NoneType"
  | .bl _ => some "bool"
  | .int _ => some "int"
  | .str _ => some "str"
  | .tup _ => some "tuple"
  | .lst _ => some "list"
  | .dK _ _ => some "dict"
  | .dT _ _ => some "dict"
  | _ => none
def isiD (t : Ty6) : D → Option Bool
  | .non => some false
  | .bl _ => some (match t with | .b => true | .i => true | _ => false)
  | .int _ => some (match t with | .i => true | _ => false)
  | .str _ => some (match t with | .s => true | _ => false)
  | .tup _ => some (match t with | .t => true | _ => false)
  | .lst _ => some (match t with | .l => true | _ => false)
  | .dK _ _ => some (match t with | .d => true | _ => false)
  | .dT _ _ => some (match t with | .d => true | _ => false)
  | _ => none
theorem kit6 : ∀ t : Ty6, kitB "NoneType" t.nm = some false ∧ kitB "bool" t.nm = some (match t with | .b => true | .i => true | _ => false) ∧ kitB "int" t.nm = some (match t with | .i => true | _ => false) ∧ kitB "str" t.nm = some (match t with | .s => true | _ => false) ∧
    kitB "tuple" t.nm = some (match t with | .t => true | _ => false) ∧ kitB "list" t.nm = some (match t with | .l => true | _ => false) ∧ kitB "dict" t.nm = some (match t with | .d => true | _ => false)
  | .i => by decide +kernel
  | .b => by decide +kernel
  | .s => by decide +kernel
  | .t => by decide +kernel
  | .l => by decide +kernel
  | .d => by decide +kernel
theorem isi_ty {G : Gm} {Hs H : Hp} {t : Ty6} {d : D} {v : V} {b : Bool} (l : Le Hs H) (i : Is G Hs d v) (e : isiD t d = some b) : ∃ n, TyX G.K H v (.type n) ∧ kitB n t.nm = some b := by
  obtain ⟨z0, z1, z2, z3, z4, z5, z6⟩ := kit6 t
  cases d with
  | non => obtain rfl : v = .non := i; obtain rfl := Option.some.inj e; exact ⟨_, .base .non, z0⟩
  | bl x => obtain rfl : v = .bl x := i; obtain rfl := Option.some.inj e; exact ⟨_, .base (.bl x), z1⟩
  | int x => obtain rfl : v = .int x := i; obtain rfl := Option.some.inj e; exact ⟨_, .base (.int x), z2⟩
  | str x => obtain rfl : v = .str x := i; obtain rfl := Option.some.inj e; exact ⟨_, .base (.str x), z3⟩
  | tup xs => obtain ⟨p, vs, rfl, s, m⟩ := i; obtain rfl := Option.some.inj e; exact ⟨_, .base (.tup (l.tp s)), z4⟩
  | lst xs => obtain ⟨p, vs, rfl, s, m⟩ := i; obtain rfl := Option.some.inj e; exact ⟨_, .base (.lst (l.lp s)), z5⟩
  | dK ks ds => obtain ⟨p, vs, rfl, s, m⟩ := i; obtain rfl := Option.some.inj e; exact ⟨_, .base (.dK (l _ _ s (fun ps z => by cases z))), z6⟩
  | dT ks ds => obtain ⟨p, vs, rfl, s, m⟩ := i; obtain rfl := Option.some.inj e; exact ⟨_, .base (.dT (l _ _ s (fun ps z => by cases z))), z6⟩
  | fn y => cases e
  | scr ns => cases e
  | ctup xs => cases e
def eIsi (t : Ty6) (f : Env' → Ro D) : Env' → Ro D := fun env => (f env).bind fun d e => lift ((isiD t d).map .bl) e
theorem se_isi (t : Ty6) {n : Str} (hn : bootBuiltins n = some (.type t.nm)) (hg : Gl X "isinstance") (hm : X.mg "isinstance" = none) (hg2 : Gl X n) (hm2 : X.mg n = none) (ha : SE X T W a f) (hnn : n ≠ "__name__" := by decide) (hnd : (n == ("__debug__" : Str)) = false := by decide)
    (h0 : starEach [a, .Name n p2] X.env = (false, eval a X.env) :: starEach [.Name n p2] X.env := by rfl) (h1 : starEach [.Name n p2] X.env = (false, eval (.Name n p2) X.env) :: starEach [] X.env := by rfl) (hpl : (backTo pos (starEach [.Name n p2] X.env)).any (·.1) = false := by rfl) :
    SE X T W (.Call (.Name "isinstance" p) [a, .Name n p2] [] pos) (eIsi t f) :=
  PE.weak (pe_callB call_isi hg hm (by decide +kernel) (pa_cons ha (pa_cons (pe_bltn (v := .ty t.nm) hg2 hm2 hn rfl hnn hnd) pa_nil h1) h0) (he := h0) (hpl := hpl)) fun σ H Q h => rd_bind h fun F env d v H1 S1 i1 h1 => by
    obtain ⟨z, e, h1⟩ := lift_some h1
    cases e1 : isiD t d with
    | none => rw [e1] at e; cases e
    | some b =>
      rw [e1] at e
      obtain rfl := Option.some.inj e
      obtain ⟨n', ty, ek⟩ := isi_ty Le.unhid i1 e1
      exact ⟨v, .ty t.nm, _, _, b, rfl, .ty _, ty, kit_ty ek, fin_same (R := isD (gm X)) (a := .bl b) S1 rfl h1⟩
end
end Rf

namespace Rf
open PySem L2 LamX

/-! ## statements -/
inductive So where
  | nx (e : Env') | ret (d : D) (e : Env') | retF (d : D) (e : Env') | bk (e : Env') | ct (e : Env') | exc (c : Str) (p : Option (Str × D)) (e : Env') | stk
def ofRo {α : Type} (r : Ro α) (g : α → Env' → So) : So := match r with
  | .ok a e => g a e
  | .exc c p e => .exc c p e
  | .stk => .stk
abbrev Pl (F : Addr → Prop) (a : Addr) : Addr → Prop := fun b => F b ∨ b = a
def RstS (G : Gm) (T : Tb) (F : Addr → Prop) (σ : St) (H : Hp) (env : Env') (W : WX) (D : Ends) : So → Prop
  | .nx e => ∀ σ' H', Stp σ H env σ' H' e → Sta G T F σ' H' e → D.nx σ' H'
  | .bk e => ∀ σ' H', Stp σ H env σ' H' e → Sta G T F σ' H' e → D.bk σ' H'
  | .ct e => ∀ σ' H', Stp σ H env σ' H' e → Sta G T F σ' H' e → D.ct σ' H'
  | .ret d e => ∀ v σ' H', Stp σ H env σ' H' e → Sta G T F σ' H' e → Is G (hid H' (Hd F σ' e)) d v → D.rt v H'
  | .retF d e => ∀ a σ' H', Stp σ H env σ' H' e → Sta G T (Pl F a) σ' H' e → OIs G (hid H' (Hd (Pl F a) σ' e)) H' d a → (H a = none ∨ Ow σ env a) → D.rt (.ref a) H'
  | .exc c p e => ∀ cls dd σ' H', Stp σ H env σ' H' e → Sta G T F σ' H' e → ExcIs G (hid H' (Hd F σ' e)) H' c p cls dd → W cls dd σ' H'
  | .stk => False
def rdS (G : Gm) (T : Tb) (f : Env' → So) (W : WX) : TS := fun D σ H => ∃ (F : Addr → Prop) (env : Env'), Sta G T F σ H env ∧ RstS G T F σ H env W D (f env)
def SS (X : Cx) (T : Tb) (W : WX) (st : Stmt) (f : Env' → So) : Prop := PS X st (rdS (gm X) T f W)
def SB (X : Cx) (T : Tb) (W : WX) (st : List Stmt) (f : Env' → So) : Prop := PSs X st (rdS (gm X) T f W)
theorem Stp.back {σ σ1 : St} {H H1 : Hp} {env env1 : Env'} (s : Stp σ H env σ1 H1 env1) {a : Addr} (h : H1 a = none ∨ Ow σ1 env1 a) : H a = none ∨ Ow σ env a := by
  by_cases z : H a = none
  · exact .inl z
  · by_cases o : Ow σ env a
    · exact .inr o
    · rcases h with h | h
      · exact absurd h (s.dom a z)
      · exact absurd h (s.own a z o)
section
variable {G : Gm} {T : Tb} {F : Addr → Prop} {σ σ1 : St} {H H1 : Hp} {env env1 : Env'} {W : WX} {De : Ends}
theorem RstS.later {r : So} (h : RstS G T F σ H env W De r) (s : Stp σ H env σ1 H1 env1) : RstS G T F σ1 H1 env1 W De r := by
  cases r with
  | nx e => exact fun σ' H' s' => h σ' H' (s.trans s')
  | bk e => exact fun σ' H' s' => h σ' H' (s.trans s')
  | ct e => exact fun σ' H' s' => h σ' H' (s.trans s')
  | ret d e => exact fun v σ' H' s' => h v σ' H' (s.trans s')
  | retF d e => exact fun a σ' H' s' st o n => h a σ' H' (s.trans s') st o (s.back n)
  | exc c p e => exact fun cls dd σ' H' s' => h cls dd σ' H' (s.trans s')
  | stk => exact h
/-- an expression ahead of what a statement does with it -/
theorem rdS_bind {α β : Type} {R : Rel α β} {f : Env' → Ro α} {g : α → Env' → So} {K : β → Hp → Prop} (h : rdS G T (fun env => ofRo (f env) g) W De σ H)
    (k : ∀ F env a b H1, Sta G T F σ H1 env → R (hid H1 (Hd F σ env)) a b → RstS G T F σ H1 env W De (g a env) → K b H1) : rd G T R f W σ H K := by
  obtain ⟨F, env, S, h⟩ := h
  refine ⟨F, env, S, ?_⟩
  cases e : f env with
  | ok a e1 =>
    simp only [e, ofRo] at h
    exact fun b H' s st r => k F e1 a b H' st r (h.later s)
  | exc c p e1 =>
    simp only [e, ofRo] at h
    exact fun cls dd H' s st x => h cls dd σ H' s st x
  | stk =>
    simp only [e, ofRo] at h
    exact h
theorem RstS.bind {α β : Type} {R : Rel α β} {f : Ro α} {g : α → Env' → So} {K : β → Hp → Prop} (S : Sta G T F σ H env) (h : RstS G T F σ H env W De (ofRo f g))
    (k : ∀ a b H1 env1, Stp σ H env σ H1 env1 → Sta G T F σ H1 env1 → R (hid H1 (Hd F σ env1)) a b → RstS G T F σ H1 env1 W De (g a env1) → K b H1) : Rst G T R F σ H env W K f := by
  cases f with
  | ok a e1 => exact fun b H' s st r => k a b H' e1 s st r (RstS.later (r := g a e1) h s)
  | exc c p e1 => exact fun cls dd H' s st x => h cls dd σ H' s st x
  | stk => exact h
/-- .. with a new object as its value -/
theorem rdS_bindF {f : Env' → Ro D} {g : D → Env' → So} {K : VK} (h : rdS G T (fun env => ofRo (f env) g) W De σ H)
    (k : ∀ F σ0 H0 env0 env d a H1, RstS G T F σ0 H0 env0 W De (g d env) → Stp σ0 H0 env0 σ H1 env → H0 a = none → Sta G T (Pl F a) σ H1 env → OIs G (hid H1 (Hd (Pl F a) σ env)) H1 d a → K (.ref a) H1) : rdF G T f W σ H K := by
  obtain ⟨F, env, S, h⟩ := h
  refine ⟨F, env, S, ?_⟩
  cases e : f env with
  | ok d e1 =>
    simp only [e, ofRo] at h
    exact fun a H' s st o n => k F σ H env e1 d a H' h s n st o
  | exc c p e1 =>
    simp only [e, ofRo] at h
    exact fun cls dd H' s st x => h cls dd σ H' s st x
  | stk =>
    simp only [e, ofRo] at h
    exact h

/-! ### storing into slots -/
theorem ow_set {i : Nat} {x : Option V} {d : D} {a : Addr} (h : Ow (σ.set i x) (env.set i (.v d)) a) : Ow σ env a := by
  obtain ⟨j, e, h1, h2⟩ := h
  rcases get_set h1 with ⟨_, q, _⟩ | ⟨q, h1⟩
  · cases q
  rcases get_set h2 with ⟨q', _⟩ | ⟨_, h2⟩
  · exact absurd q' q
  exact ⟨j, e, h1, h2⟩
theorem Sta.set (S : Sta G T F σ H env) {i : Nat} {d : D} {v : V} (fr : Fr T i) (h : Is G (hid H (Hd F σ env)) d v) : Sta G T F (σ.set i (some v)) H (env.set i (.v d)) ∧ Stp σ H env (σ.set i (some v)) H (env.set i (.v d)) := by
  have le : Le (hid H (Hd F σ env)) (hid H (Hd F (σ.set i (some v)) (env.set i (.v d)))) := Le.hid fun b o e n k => ⟨fun z => k (by
    rcases z with z | z
    · exact .inl (ow_set z)
    · exact .inr z), e⟩
  refine ⟨⟨by rw [List.length_set, List.length_set]; exact S.len, fun j s e => ?_, fun j k x y a h1 h2 h3 h4 => ?_, fun a z => S.fr a (ow_set z), S.fd, S.tab.set fr _, S.old.to (fun _ _ _ _ h => h) (fun _ _ h => h) fun b z => .inl (ow_set z), S.vis.trans le⟩, fun a o e _ _ => e, fun a _ k z => k (ow_set z), fun _ e => e⟩
  · rcases get_set e with ⟨e1, e2, e3⟩ | ⟨e1, e⟩
    · subst e1 e2
      exact ⟨some v, List.getElem?_set_self (by rw [← S.len]; exact e3), v, rfl, Is.mono le _ _ h⟩
    · obtain ⟨x, q1, q2⟩ := S.sl j s e
      exact ⟨x, by rw [List.getElem?_set_ne e1]; exact q1, q2.mono le fun _ _ _ _ => rfl⟩
  · rcases get_set h1 with ⟨_, q, _⟩ | ⟨e1, h1⟩
    · cases q
    rcases get_set h2 with ⟨_, q, _⟩ | ⟨e2, h2⟩
    · cases q
    rw [List.getElem?_set_ne e1] at h3
    rw [List.getElem?_set_ne e2] at h4
    exact S.dis j k x y a h1 h2 h3 h4
/-- a new object goes to a slot of its own -/
theorem Sta.setO {σ0 : St} {H0 : Hp} {env0 : Env'} {a : Addr} {i : Nat} {d : D} (s : Stp σ0 H0 env0 σ H env) (n : H0 a = none ∨ Ow σ0 env0 a) (S : Sta G T (Pl F a) σ H env) (o : OIs G (hid H (Hd (Pl F a) σ env)) H d a) (nF : ¬ F a) (fr : Fr T i) (od : T.old a = none) :
    Sta G T F (σ.set i (some (.ref a))) H (env.set i (.o d)) ∧ Stp σ0 H0 env0 (σ.set i (some (.ref a))) H (env.set i (.o d)) := by
  have hw : ∀ b, Ow (σ.set i (some (.ref a))) (env.set i (.o d)) b → Ow σ env b ∨ b = a := fun b ⟨j, e, h1, h2⟩ => by
    rcases get_set h2 with ⟨q1, q2, _⟩ | ⟨q, h2⟩
    · right
      cases q2
      rfl
    · rcases get_set h1 with ⟨q', _⟩ | ⟨_, h1⟩
      · exact absurd q' q
      · exact .inl ⟨j, e, h1, h2⟩
  have le : Le (hid H (Hd (Pl F a) σ env)) (hid H (Hd F (σ.set i (some (.ref a))) (env.set i (.o d)))) := Le.hid fun b u e _ k => ⟨fun z => k (by
    rcases z with z | z
    · rcases hw b z with z | z
      · exact .inl z
      · exact .inr (.inr z)
    · exact .inr (.inl z)), e⟩
  have na : ∀ {j : Nat} {e : D}, env[j]? = some (.o e) → σ[j]? = some (some (.ref a)) → False := fun {j e} h1 h2 => S.fr a ⟨j, e, h1, h2⟩ (.inr rfl)
  refine ⟨⟨by rw [List.length_set, List.length_set]; exact S.len, fun j s' e => ?_, fun j k x y b h1 h2 h3 h4 => ?_, fun b z => ?_, fun b z => S.fd b (.inl z), S.tab.set fr _, S.old.to (fun _ _ _ _ h => h) (fun _ _ h => h) fun b z => (hw b z).imp id fun e => by rw [e]; exact od, S.vis.trans le⟩, s.keep, fun b h k z => ?_, s.dom⟩
  · rcases get_set e with ⟨e1, e2, e3⟩ | ⟨e1, e⟩
    · subst e1 e2
      exact ⟨_, List.getElem?_set_self (by rw [← S.len]; exact e3), a, rfl, o.mono le rfl⟩
    · obtain ⟨x, q1, q2⟩ := S.sl j s' e
      exact ⟨x, by rw [List.getElem?_set_ne e1]; exact q1, q2.mono le fun _ _ _ _ => rfl⟩
  · rcases get_set h1 with ⟨q1, _, _⟩ | ⟨e1, h1⟩
    · rcases get_set h2 with ⟨q2, _, _⟩ | ⟨e2, h2⟩
      · exact q1.symm.trans q2
      · exfalso
        rw [List.getElem?_set_ne e2] at h4
        rcases get_set h3 with ⟨_, q3, _⟩ | ⟨q3, _⟩
        · cases q3
          exact na h2 h4
        · exact q3 q1
    · rcases get_set h2 with ⟨q2, _, _⟩ | ⟨e2, h2⟩
      · exfalso
        rw [List.getElem?_set_ne e1] at h3
        rcases get_set h4 with ⟨_, q3, _⟩ | ⟨q3, _⟩
        · cases q3
          exact na h1 h3
        · exact q3 q2
      · rw [List.getElem?_set_ne e1] at h3
        rw [List.getElem?_set_ne e2] at h4
        exact S.dis j k x y b h1 h2 h3 h4
  · rcases hw b z with z | z
    · exact fun q => S.fr b z (.inl q)
    · rw [z]; exact nF
  · rcases hw b z with z | z
    · exact s.own b h k z
    · rw [z] at h k
      rcases n with n | n
      · exact h n
      · exact k n
/-- an owned object is changed where it stands -/
theorem Sta.mut (S : Sta G T F σ H env) {i : Nat} {d d' : D} {a : Addr} {u : HO} (h : env[i]? = some (.o d)) (ha : σ[i]? = some (some (.ref a))) (o : OIs G (hid H (Hd F σ env)) (upd H a u) d' a) :
    Sta G T F σ (upd H a u) (env.set i (.o d')) ∧ Stp σ H env σ (upd H a u) (env.set i (.o d')) := by
  obtain ⟨a', ea, oa, wa⟩ := S.own h
  obtain rfl : a' = a := by
    rw [ha] at ea
    cases ea
    rfl
  have hw : ∀ b, Ow σ (env.set i (.o d')) b ↔ Ow σ env b := fun b => by
    refine ⟨fun ⟨j, e, h1, h2⟩ => ?_, fun ⟨j, e, h1, h2⟩ => ?_⟩
    · rcases get_set h1 with ⟨q, _, _⟩ | ⟨_, h1⟩
      · subst q
        exact ⟨i, d, h, h2⟩
      · exact ⟨j, e, h1, h2⟩
    · by_cases q : i = j
      · subst q
        exact ⟨i, d', List.getElem?_set_self (List.getElem?_eq_some_iff.mp h).1, h2⟩
      · exact ⟨j, e, by rw [List.getElem?_set_ne q]; exact h1, h2⟩
  have eH : hid (upd H a' u) (Hd F σ (env.set i (.o d'))) = hid H (Hd F σ env) := by
    funext b
    have e : Hd F σ (env.set i (.o d')) b ↔ Hd F σ env b := ⟨fun z => z.elim (fun z => .inl ((hw b).mp z)) .inr, fun z => z.elim (fun z => .inl ((hw b).mpr z)) .inr⟩
    unfold hid
    by_cases q : Hd F σ env b
    · rw [if_pos q, if_pos (e.mpr q)]
    · rw [if_neg q, if_neg fun z => q (e.mp z)]
      exact upd_ne fun z => q (by rw [z]; exact .inl wa)
  obtain ⟨o0, eo, nt, mu⟩ := oa.there
  have nOld : ∀ b, T.old b ≠ none → b ≠ a' := fun b e z => e (by rw [z]; exact S.old.ow a' wa)
  have nTab : ∀ p ∈ T.tabs, ∀ ps, H p.1 = some (.tbl ps) → p.1 ≠ a' := fun p _ ps e z => by
    rw [z, eo] at e
    exact nt ps (Option.some.inj e)
  refine ⟨⟨by rw [List.length_set]; exact S.len, fun j s e => ?_, fun j k x y b h1 h2 h3 h4 => ?_, fun b z => S.fr b ((hw b).mp z), fun b z => ?_, ⟨fun p hp => ?_, S.tab.2⟩, S.old.to (fun b ob e _ h => (upd_ne fun z => nOld b (by rw [e]; simp) z).trans h) (fun b e h => by rw [upd_ne (nOld b e)]; exact h) fun b z => .inl ((hw b).mp z), by rw [eH]; exact S.vis⟩, fun b ob e _ k => ?_, fun b _ k z => k ((hw b).mp z), fun b e => ?_⟩
  · rw [eH]
    rcases get_set e with ⟨q, e2, _⟩ | ⟨q, e⟩
    · subst q e2
      exact ⟨_, ha, a', rfl, o⟩
    · obtain ⟨x, q1, q2⟩ := S.sl j s e
      refine ⟨x, q1, q2.mono (Le.refl _) fun e' b es ex => ?_⟩
      subst es ex
      refine upd_ne fun z => q ?_
      rw [z] at q1
      exact S.dis i j d e' a' h e ha q1
  · have key : ∀ {j : Nat} {z : D}, (env.set i (.o d'))[j]? = some (.o z) → ∃ z', env[j]? = some (.o z') := fun {j z} q => by
      rcases get_set q with ⟨q1, _, _⟩ | ⟨_, q1⟩
      · subst q1; exact ⟨d, h⟩
      · exact ⟨z, q1⟩
    obtain ⟨x', h1⟩ := key h1
    obtain ⟨y', h2⟩ := key h2
    exact S.dis j k x' y' b h1 h2 h3 h4
  · by_cases q : b = a'
    · rw [q]; exact o.mut
    · rw [upd_ne q]; exact S.fd b z
  · obtain ⟨ps, t1, t2, t3⟩ := S.tab.1 p hp
    refine ⟨ps, by rw [upd_ne (nTab p hp ps t1)]; exact t1, t2, fun pos cv hc => ?_⟩
    obtain ⟨c, e1, e2⟩ := t3 pos cv hc
    refine ⟨c, e1, ?_⟩
    rw [upd_ne fun z => ?_]
    · exact e2
    · rw [z, eo] at e2
      have e3 := Option.some.inj e2
      rw [e3] at mu
      cases d <;> first
        | exact oa.elim
        | (obtain ⟨vs, e4, _⟩ := oa
           rw [eo] at e4
           have e5 := (Option.some.inj e4).symm.trans e3
           unfold CodeO at e5
           cases e5)
  · exact (upd_ne fun z => k (by rw [z]; exact wa)).trans e
  · by_cases q : b = a'
    · rw [q, upd_same]; simp
    · rw [upd_ne q]; exact e
end

section
variable {X : Cx} {T : Tb} {W : WX} {k : Nat} {a b c : Expr} {f g u : Env' → Ro D} {q q' : Env' → Ro Bool} {pos p p2 : Pos} {rest es : List Expr} {r : Env' → Ro (List D)} {x : Str} {st : Stmt} {sts body : List Stmt} {F1 F2 F3 : Env' → So}
def sNil : Env' → So := fun e => .nx e
def sSeq (f g : Env' → So) : Env' → So := fun env => match f env with
  | .nx e => g e
  | r => r
theorem sb_nil : SB X T W [] sNil := PSs.weak pss_nil fun De σ H h => by
  obtain ⟨F, env, S, h⟩ := h
  exact h σ H .refl S
theorem sb_cons (h1 : SS X T W st F1) (h2 : SB X T W sts F2) : SB X T W (st :: sts) (sSeq F1 F2) := PSs.weak (pss_cons h1 h2) fun De σ H h => by
  obtain ⟨F, env, S, h⟩ := h
  refine ⟨F, env, S, ?_⟩
  unfold sSeq at h
  cases e : F1 env with
  | nx e1 =>
    rw [e] at h
    exact fun σ' H' s st => ⟨F, e1, st, RstS.later h s⟩
  | _ =>
    rw [e] at h
    exact h
theorem sb_one (h1 : SS X T W st F1) : SB X T W [st] F1 := pss_one h1
theorem ss_pass : SS X T W (.Pass pos) sNil := PS.weak ps_pass fun De σ H h => by
  obtain ⟨F, env, S, h⟩ := h
  exact h σ H .refl S
def sBreak : Env' → So := fun e => .bk e
def sCont : Env' → So := fun e => .ct e
theorem ss_break : SS X T W (.Break pos) sBreak := PS.weak ps_break fun De σ H h => by
  obtain ⟨F, env, S, h⟩ := h
  exact h σ H .refl S
theorem ss_cont : SS X T W (.Continue pos) sCont := PS.weak ps_continue fun De σ H h => by
  obtain ⟨F, env, S, h⟩ := h
  exact h σ H .refl S
theorem ss_doc {y : Str} {j} {pos'} : SS X T W (.Expr (.Constant (.str y) j pos) pos') sNil := PS.weak ps_doc fun De σ H h => by
  obtain ⟨F, env, S, h⟩ := h
  exact h σ H .refl S
/-- an expression as a statement -/
def sDrop (f : Env' → Ro D) : Env' → So := fun env => ofRo (f env) fun _ e => .nx e
theorem ss_expr (ha : SE X T W a f) (hs : swapsWith a none pos.line X.env = pure false := by rfl) : SS X T W (.Expr a pos) (sDrop f) := PS.weak (ps_expr ha hs) fun De σ H h => rdS_bind h fun F env d v H1 S1 i1 h1 => h1 σ H1 .refl S1
/-- return -/
def sRet (f : Env' → Ro D) : Env' → So := fun env => ofRo (f env) fun d e => .ret d e
def sRetF (f : Env' → Ro D) : Env' → So := fun env => ofRo (f env) fun d e => .retF d e
def sRetN : Env' → So := fun e => .ret .non e
def sRetO (i : Nat) : Env' → So := fun e => match e[i]? with
  | some (.o d) => .retF d (e.set i .no)
  | _ => .stk
theorem ss_ret (ha : SE X T W a f) : SS X T W (.Return (some a) pos) (sRet f) := PS.weak (ps_ret ha) fun De σ H h => rdS_bind h fun F env d v H1 S1 i1 h1 => h1 v σ H1 .refl S1 i1
theorem ss_retF (ha : SF X T W a f) : SS X T W (.Return (some a) pos) (sRetF f) := PS.weak (ps_ret ha) fun De σ H h => rdS_bindF h fun F σ0 H0 env0 env d a H1 h1 s n S o => h1 a σ H1 s S o (.inl n)
theorem ss_retN : SS X T W (.Return none pos) sRetN := PS.weak ps_retN fun De σ H h => by
  obtain ⟨F, env, S, h⟩ := h
  exact h .non σ H .refl S rfl
/-- an owned slot is handed on -/
theorem Sta.give {G : Gm} {F : Addr → Prop} {σ : St} {H : Hp} {env : Env'} (S : Sta G T F σ H env) {i : Nat} {d : D} {a : Addr} (h : env[i]? = some (.o d)) (ha : σ[i]? = some (some (.ref a))) (oa : OIs G (hid H (Hd F σ env)) H d a) :
    Sta G T (Pl F a) σ H (env.set i .no) ∧ Stp σ H env σ H (env.set i .no) ∧ OIs G (hid H (Hd (Pl F a) σ (env.set i .no))) H d a := by
  have sub : ∀ b, Ow σ (env.set i .no) b → Ow σ env b ∧ b ≠ a := fun b ⟨j, e, h1, h2⟩ => by
    rcases get_set h1 with ⟨_, q, _⟩ | ⟨q, h1⟩
    · cases q
    · refine ⟨⟨j, e, h1, h2⟩, fun z => q ?_⟩
      rw [z] at h2
      exact S.dis i j d e a h h1 ha h2
  have le : Le (hid H (Hd F σ env)) (hid H (Hd (Pl F a) σ (env.set i .no))) := Le.hid fun b o e n k => ⟨fun z => k (by
    rcases z with z | z | z
    · exact .inl (sub b z).1
    · exact .inr z
    · rw [z]; exact .inl ⟨i, d, h, ha⟩), e⟩
  refine ⟨⟨by rw [List.length_set]; exact S.len, fun j s e => ?_, fun j k x y b h1 h2 h3 h4 => ?_, fun b z k => ?_, fun b z => ?_, S.tab, S.old.to (fun _ _ _ _ h => h) (fun _ _ h => h) fun b z => .inl (sub b z).1, S.vis.trans le⟩, ⟨fun _ _ e _ _ => e, fun b _ k z => k (sub b z).1, fun _ e => e⟩, oa.mono le rfl⟩
  · rcases get_set e with ⟨e1, e2, _⟩ | ⟨_, e⟩
    · subst e1 e2
      exact ⟨_, ha, trivial⟩
    · obtain ⟨x, e1, e2⟩ := S.sl j s e
      exact ⟨x, e1, e2.mono le fun _ _ _ _ => rfl⟩
  · rcases get_set h1 with ⟨_, q, _⟩ | ⟨_, h1⟩
    · cases q
    rcases get_set h2 with ⟨_, q, _⟩ | ⟨_, h2⟩
    · cases q
    exact S.dis j k x y b h1 h2 h3 h4
  · rcases k with k | k
    · exact S.fr b (sub b z).1 k
    · exact (sub b z).2 k
  · rcases z with z | z
    · exact S.fd b z
    · rw [z]
      exact oa.mut
theorem ss_retO (i : Nat) {y : Str} (hN : X.N[i]? = some y := by rfl) (hv : Vis X.env.scope y := by first | exact Or.inl rfl | exact Or.inr (Or.inl rfl) | exact Or.inr (Or.inr rfl)) (hd : (y == ("__debug__" : Str)) = false := by decide)
    (hcd : (y == ("__classdict__" : Str)) = false := by decide) : SS X T W (.Return (some (.Name y p)) pos) (sRetO i) := PS.weak (ps_ret (pe_var hN hv hd hcd)) fun De σ H h => by
  obtain ⟨F, env, S, h⟩ := h
  unfold sRetO at h
  split at h
  · rename_i d e
    obtain ⟨a, ea, oa, wa⟩ := S.own e
    obtain ⟨S', s, o'⟩ := S.give e ea oa
    exact ⟨.ref a, ea, h a σ H s S' o' (.inr wa)⟩
  · exact h.elim
/-- if -/
def sIf (q : Env' → Ro Bool) (f g : Env' → So) : Env' → So := fun env => ofRo (q env) fun b e => if b then f e else g e
theorem ss_if {bs : List Stmt} (hc : SQ X T W c q) (ha : SB X T W body F1) (hb : SB X T W bs F2) : SS X T W (.If c body bs pos) (sIf q F1 F2) := PS.weak (ps_if hc ha hb) fun De σ H h => rdS_bind h fun F env d v H1 S1 i1 h1 => by
  obtain rfl : d = v := i1
  cases d with
  | true => exact ⟨F, env, S1, h1⟩
  | false => exact ⟨F, env, S1, h1⟩
/-- name = e -/
def sSet (i : Nat) (f : Env' → Ro D) : Env' → So := fun env => ofRo (f env) fun d e => .nx (e.set i (.v d))
def sSetO (i : Nat) (f : Env' → Ro D) : Env' → So := fun env => ofRo (f env) fun d e => .nx (e.set i (.o d))
theorem ss_set (C : Cs X) (i : Nat) (fr : Fr T i) {pos' : Pos} (ha : SE X T W a f) (hi : X.N[i]? = some x := by rfl) (hx : Loc X.env.scope x := by first | exact Or.inl rfl | exact Or.inr rfl) (hs : swapsWith a (some (.Name x pos')) pos.line X.env = pure false := by rfl)
    (hf : X.fn x = true ∨ X.env.scope.names.lookup x = some .local := by first | exact .inl rfl | exact .inr rfl | assumption) : SS X T W (.Assign [.Name x pos'] a pos) (sSet i f) :=
  PS.weak (ps_set C.nd hi hx ha hs hf) fun De σ H h => rdS_bind h fun F env d v H1 S1 i1 h1 => by
    obtain ⟨S', s⟩ := S1.set (i := i) fr i1
    exact h1 _ H1 s S'
theorem ss_setO (C : Cs X) (i : Nat) (fr : Fr T i) {pos' : Pos} (ha : SF X T W a f) (hi : X.N[i]? = some x := by rfl) (hx : Loc X.env.scope x := by first | exact Or.inl rfl | exact Or.inr rfl) (hs : swapsWith a (some (.Name x pos')) pos.line X.env = pure false := by rfl)
    (hf : X.fn x = true ∨ X.env.scope.names.lookup x = some .local := by first | exact .inl rfl | exact .inr rfl | assumption) : SS X T W (.Assign [.Name x pos'] a pos) (sSetO i f) :=
  PS.weak (ps_set C.nd hi hx ha hs hf) fun De σ H h => by
    obtain ⟨F, env, S, h⟩ := h
    refine ⟨F, env, S, ?_⟩
    unfold sSetO at h
    cases e : f env with
    | ok d e1 =>
      rw [e] at h
      intro a H' s st o n
      obtain ⟨S', s'⟩ := Sta.setO (i := i) s (.inl n) st o (fun z => S.fn a z n) fr (S.old.free (.inl n))
      exact h _ H' s' S'
    | exc c p e1 =>
      rw [e] at h
      exact fun cls dd H' s st x => h cls dd σ H' s st x
    | stk =>
      rw [e] at h
      exact h
end
end Rf

namespace Rf
open PySem L2 LamX

/-! ## targets -/
abbrev Tg := D → Env' → Option Env'
abbrev Tgs := List D → Env' → Option Env'
/-- from σ to σ' only slots of us are set -/
def Only (us : List Nat) (σ σ' : St) : Prop := σ'.length = σ.length ∧ ∀ i, i ∉ us → σ'[i]? = σ[i]?
theorem Only.refl {us : List Nat} {σ : St} : Only us σ σ := ⟨rfl, fun _ _ => rfl⟩
theorem Only.trans {us vs : List Nat} {σ σ1 σ2 : St} (a : Only us σ σ1) (b : Only vs σ1 σ2) : Only (us ++ vs) σ σ2 := ⟨b.1.trans a.1, fun i h => (b.2 i fun z => h (List.mem_append_right _ z)).trans (a.2 i fun z => h (List.mem_append_left _ z))⟩
theorem wipe_in {σ : St} {i : Nat} : ∀ {vs : List Nat}, i ∈ vs → i < σ.length → (wipe σ vs)[i]? = some none
  | [], h, _ => by cases h
  | v :: vs, h, hl => by
    unfold wipe
    by_cases e : v = i
    · subst e
      exact List.getElem?_set_self (by rw [wipe_length]; exact hl)
    · rw [List.getElem?_set_ne e]
      exact wipe_in ((List.mem_cons.mp h).resolve_left fun z => e z.symm) hl
theorem Only.wipe {us vs : List Nat} {σ σ' : St} (a : Only us σ σ') (h : ∀ i ∈ us, i ∈ vs) : L2.wipe σ' vs = L2.wipe σ vs := by
  refine List.ext_getElem? fun i => ?_
  by_cases hi : i ∈ vs
  · by_cases hl : i < σ.length
    · rw [wipe_in hi hl, wipe_in hi (by rw [a.1]; exact hl)]
    · rw [List.getElem?_eq_none (by rw [wipe_length, a.1]; omega), List.getElem?_eq_none (by rw [wipe_length]; omega)]
  · rw [wipe_out hi, wipe_out hi]
    exact a.2 i fun z => hi (h i z)
def rdG (G : Gm) (T : Tb) (us : List Nat) (t : Tg) : TG := fun v σ H Q => ∃ (F : Addr → Prop) (env : Env') (d : D) (e : Env'), Sta G T F σ H env ∧ Is G (hid H (Hd F σ env)) d v ∧ t d env = some e ∧ ∀ σ', Only us σ σ' → Stp σ H env σ' H e → Sta G T F σ' H e → Q σ' H
def rdGs (G : Gm) (T : Tb) (us : List Nat) (t : Tgs) : TGs := fun vs σ H Q => ∃ (F : Addr → Prop) (env : Env') (ds : List D) (e : Env'), Sta G T F σ H env ∧ IsL G (hid H (Hd F σ env)) ds vs ∧ t ds env = some e ∧ ∀ σ', Only us σ σ' → Stp σ H env σ' H e → Sta G T F σ' H e → Q σ' H
def SG (X : Cx) (T : Tb) (us : List Nat) (tg : Expr) (t : Tg) : Prop := PG X tg (rdG (gm X) T us t)
def SGs (X : Cx) (T : Tb) (us : List Nat) (tgs : List Expr) (t : Tgs) : Prop := PGs X tgs (rdGs (gm X) T us t)
def tName (i : Nat) : Tg := fun d e => some (e.set i (.v d))
def tsNil : Tgs := fun ds e => match ds with
  | [] => some e
  | _ => none
def tsCons (t : Tg) (r : Tgs) : Tgs := fun ds e => match ds with
  | d :: ds => match t d e with
    | some e1 => r ds e1
    | none => none
  | [] => none
def tTupl (n : Nat) (r : Tgs) : Tg := fun d e => match d with
  | .tup xs => if xs.length = n then r xs e else none
  | .lst xs => if xs.length = n then r xs e else none
  | _ => none
section
variable {X : Cx} {T : Tb} {W : WX} {k : Nat} {a b c : Expr} {f g u : Env' → Ro D} {q q' : Env' → Ro Bool} {pos p p2 : Pos} {rest es : List Expr} {r : Env' → Ro (List D)} {x : Str} {st : Stmt} {sts body : List Stmt} {F1 F2 F3 : Env' → So} {t : Tg} {ts : Tgs} {tg : Expr} {tgs : List Expr}
theorem PG.weak {t t' : TG} (h : PG X tg t) (j : ∀ v σ H Q, t' v σ H Q → t v σ H Q) : PG X tg t' := ⟨fun pins s σ H v u Q I r q => h.run pins s σ H v u Q I r (j v σ H Q q)⟩
theorem PGs.weak {t t' : TGs} (h : PGs X tgs t) (j : ∀ v σ H Q, t' v σ H Q → t v σ H Q) : PGs X tgs t' := ⟨fun pins s σ H v u Q I r q => h.run pins s σ H v u Q I r (j v σ H Q q)⟩
theorem sg_name (C : Cs X) (i : Nat) (fr : Fr T i) {pos' : Pos} (hi : X.N[i]? = some x := by rfl) (hx : Loc X.env.scope x := by first | exact Or.inl rfl | exact Or.inr rfl)
    (hf : X.fn x = true ∨ X.env.scope.names.lookup x = some .local := by first | exact .inl rfl | exact .inr rfl | assumption) : SG X T [i] (.Name x pos') (tName i) :=
  PG.weak (pg_name C.nd hi hx hf) fun v σ H Q h => by
    obtain ⟨F, env, d, e, S, i1, ht, h⟩ := h
    obtain rfl := Option.some.inj ht
    obtain ⟨S', s⟩ := S.set (i := i) fr i1
    exact h _ ⟨List.length_set, fun j hj => List.getElem?_set_ne fun z => hj (by rw [z]; exact List.mem_cons_self)⟩ s S'
theorem sgs_nil : SGs X T [] [] tsNil := PGs.weak pgs_nil fun v σ H Q h => by
  obtain ⟨F, env, ds, e, S, i1, ht, h⟩ := h
  unfold tsNil at ht
  split at ht
  · obtain rfl := Option.some.inj ht
    exact ⟨i1, h σ .refl .refl S⟩
  · cases ht
theorem sgs_cons {us vs : List Nat} (h1 : SG X T us tg t) (h2 : SGs X T vs tgs ts) (hs : (assignEach (tg :: tgs) X.env).map (·.2) = assign tg X.env :: (assignEach tgs X.env).map (·.2) := by rfl) : SGs X T (us ++ vs) (tg :: tgs) (tsCons t ts) :=
  PGs.weak (pgs_cons h1 h2 hs) fun vs σ H Q h => by
    obtain ⟨F, env, ds, e, S, i1, ht, h⟩ := h
    unfold tsCons at ht
    split at ht
    · rename_i d ds
      split at ht
      · rename_i e1 h3
        obtain ⟨v, r, rfl, m1, m2⟩ := i1
        exact ⟨v, r, rfl, F, env, d, e1, S, m1, h3, fun σ' o s S' => ⟨F, e1, ds, e, S', IsL.mono (s.le F) _ _ m2, ht, fun σ2 o2 s2 S2 => h σ2 (o.trans o2) (s.trans s2) S2⟩⟩
      · cases ht
    · cases ht
theorem pg_or {e : Expr} {t u : TG} (h1 : PG X e t) (h2 : PG X e u) : PG X e (fun v σ H Q => t v σ H Q ∨ u v σ H Q) := ⟨fun pins s σ H v w Q I r hw => hw.elim (h1.run pins s σ H v w Q I r) (h2.run pins s σ H v w Q I r)⟩
theorem sg_tup {n kk : Nat} {us : List Nat} (C : Ctx X k) (h : SGs X T us tgs ts) (hn : (assignEach tgs X.env).length = n := by rfl) (hst : (assignEach tgs X.env).findIdx? (·.1) = none := by rfl) : SG X T us (.Tuple tgs kk pos) (tTupl n ts) :=
  PG.weak (pg_or (pg_tup C.calm h hn hst) (pg_lst C.calm h hn hst)) fun v σ H Q h => by
    obtain ⟨F, env, d, e, S, i1, ht, h⟩ := h
    unfold tTupl at ht
    split at ht
    · rename_i xs
      split at ht
      · rename_i hl
        obtain ⟨p, vs, rfl, s, m⟩ := i1
        exact .inl ⟨p, vs, rfl, Le.unhid.tq s, by rw [← IsL.length m]; exact hl, F, env, xs, e, S, m, ht, h⟩
      · cases ht
    · rename_i xs
      split at ht
      · rename_i hl
        obtain ⟨p, vs, rfl, s, m⟩ := i1
        exact .inr ⟨p, vs, rfl, Le.unhid.lq s, by rw [← IsL.length m]; exact hl, F, env, xs, e, S, m, ht, h⟩
      · cases ht
    · cases ht
/-- target = e -/
def sAsg (t : Tg) (f : Env' → Ro D) : Env' → So := fun env => ofRo (f env) fun d e => match t d e with
  | some e1 => .nx e1
  | none => .stk
theorem ss_asg {us : List Nat} (ha : SE X T W a f) (hg : SG X T us tg t) (hs : swapsWithSole [tg] a pos.line X.env = pure false := by rfl) (hw : swappedStores [tg] a X.env = pure none := by rfl)
    (h1 : (assignEach [tg] X.env).map (·.2) = [assign tg X.env] := by rfl) : SS X T W (.Assign [tg] a pos) (sAsg t f) :=
  PS.weak (ps_asg ha hg hs hw h1) fun De σ H h => rdS_bind h fun F env d v H1 S1 i1 h1 => by
    split at h1
    · rename_i e1 e
      exact ⟨F, env, d, e1, S1, i1, e, fun σ' _ s S' => h1 σ' H1 s S'⟩
    · exact h1.elim
/-- a, b = x, y with two local names -/
def sPar (i j : Nat) (f g : Env' → Ro D) : Env' → So := fun env => ofRo (f env) fun d e => ofRo (g e) fun d' e => .nx ((e.set i (.v d)).set j (.v d'))
theorem ss_par (C : Ctx X k) (i j : Nat) (fr : Fr T i) (fr2 : Fr T j) {y : Str} {px py pt : Pos} {kt k2 pt2} (hij : i ≠ j) (ha : SE X T W a f) (hb : SE X T W b g) (hi : X.N[i]? = some x := by rfl) (hj : X.N[j]? = some y := by rfl) (hx : X.env.scope.names.lookup x = some .local := by rfl) (hy : X.env.scope.names.lookup y = some .local := by rfl)
    (hw : swappedStores [.Tuple [.Name x px, .Name y py] kt pt] (.Tuple [a, b] k2 pt2) X.env = pure (some [x, y]) := by rfl)
    (hs : swapsWithSole [.Tuple [.Name x px, .Name y py] kt pt] (.Tuple [a, b] k2 pt2) pos.line X.env = pure false := by rfl)
    (h1 : starEach [a, b] X.env = (false, eval a X.env) :: starEach [b] X.env := by rfl) (h2 : starEach [b] X.env = (false, eval b X.env) :: starEach [] X.env := by rfl) :
    SS X T W (.Assign [.Tuple [.Name x px, .Name y py] kt pt] (.Tuple [a, b] k2 pt2) pos) (sPar i j f g) :=
  PS.weak (ps_par C.calm C.nd hi hj hij hx hy (sa_cons ha (sa_cons hb sa_nil h2) h1) hw hs) fun De σ H h => by
    obtain ⟨F, env, S, h⟩ := h
    refine ⟨F, env, S, ?_⟩
    unfold sPar at h
    unfold aCons aNil
    cases e : f env with
    | ok d e1 =>
      simp only [e, ofRo] at h
      simp only [Ro.bind]
      cases e' : g e1 with
      | ok d' e2 =>
        simp only [e'] at h
        simp only [Ro.bind]
        intro vs H' s st m
        obtain ⟨v, w, rfl, m1, m2⟩ := isL2 m
        refine ⟨v, w, rfl, ?_⟩
        obtain ⟨S1, s1⟩ := st.set (i := i) fr m1
        obtain ⟨S2, s2⟩ := S1.set (i := j) fr2 (Is.mono (s1.le F) _ _ m2)
        exact h _ H' (s.trans (s1.trans s2)) S2
      | exc c p e2 =>
        simp only [e'] at h
        exact fun cls dd H' s st x => h cls dd σ H' s st x
      | stk =>
        simp only [e'] at h
        exact h
    | exc c p e1 =>
      simp only [e, ofRo] at h
      exact fun cls dd H' s st x => h cls dd σ H' s st x
    | stk =>
      simp only [e, ofRo] at h
      exact h
/-- name += e, name -= e for ints -/
def sAug (i : Nat) (o : Int → Int → Int) (f : Env' → Ro D) : Env' → So := fun env => match slotD env i with
  | some (.int n) => ofRo (f env) fun d e => match d with
    | .int m => .nx (e.set i (.v (.int (o n m))))
    | _ => .stk
  | _ => .stk
theorem slot_int {G : Gm} {F : Addr → Prop} {σ : St} {H : Hp} {env : Env'} {i : Nat} {n : Int} (S : Sta G T F σ H env) (h : slotD env i = some (.int n)) : σ[i]? = some (some (.int n)) := by
  obtain ⟨v, e, b⟩ := slot_bis S h
  obtain rfl : v = .int n := b.scal fun p o => o
  exact e
theorem ss_aug {o : Int → Int → Int} {op : Operator} (C : Cs X) (ho : PIp X op (ipI o)) (i : Nat) (fr : Fr T i) {pos' : Pos} (ha : SE X T W a f) (hi : X.N[i]? = some x := by rfl) (hx : Loc X.env.scope x := by first | exact Or.inl rfl | exact Or.inr rfl)
    (hf : X.fn x = true ∨ X.env.scope.names.lookup x = some .local := by first | exact .inl rfl | exact .inr rfl | assumption) : SS X T W (.AugAssign (.Name x pos') op a pos) (sAug i o f) :=
  PS.weak (ps_aug C.nd hi hx ha ho hf) fun De σ H h => by
    obtain ⟨F, env, S, h⟩ := h
    unfold sAug at h
    split at h
    · rename_i n e0
      refine ⟨.int n, slot_int S e0, F, env, S, RstS.bind S h fun d v H1 env1 s1 S1 i1 h1 => ?_⟩
      split at h1
      · rename_i m
        obtain ⟨S', s'⟩ := S1.set (i := i) fr (d := .int (o n m)) (v := .int (o n m)) rfl
        exact ⟨n, m, rfl, i1, h1 _ H1 s' S'⟩
      · exact h1.elim
    · exact h.elim

/-! ## an owned list, an owned dict changed -/
theorem own_lst {G : Gm} {F : Addr → Prop} {σ : St} {H : Hp} {env : Env'} {i : Nat} {xs : List D} (S : Sta G T F σ H env) (h : env[i]? = some (.o (.lst xs))) : ∃ p vs, σ[i]? = some (some (.ref p)) ∧ H p = some (.lst vs) ∧ IsL G (hid H (Hd F σ env)) xs vs := by
  obtain ⟨p, e1, ⟨vs, e2, e3⟩, _⟩ := S.own h
  exact ⟨p, vs, e1, e2, e3⟩
def isLstS (env : Env') (i : Nat) : Bool := match env[i]? with
  | some (.o (.lst _)) => true
  | _ => false
theorem isLstS_at {env : Env'} {i : Nat} (h : isLstS env i = true) : ∃ xs, env[i]? = some (.o (.lst xs)) := by
  unfold isLstS at h
  split at h
  · rename_i xs e
    exact ⟨xs, e⟩
  · cases h
/-- xs.m(e, ..) on an owned list: o says what the list becomes -/
def sMut1 (i : Nat) (o : List D → D → Option (List D)) (f : Env' → Ro D) : Env' → So := fun env => if isLstS env i then ofRo (f env) fun d e => match e[i]? with
    | some (.o (.lst xs)) => match o xs d with
      | some ys => .nx (e.set i (.o (.lst ys)))
      | none => .stk
    | _ => .stk
  else .stk
def oApp (xs : List D) (d : D) : Option (List D) := if xs.length < sizeLine then some (xs ++ [d]) else none
def oExt (xs : List D) (d : D) : Option (List D) := match d with
  | .lst ys => if xs.length + ys.length ≤ sizeLine then some (xs ++ ys) else none
  | _ => none
theorem rd_mut1 {rr : V → List V → Hp → VK → Prop} {o : List D → D → Option (List D)} {i : Nat} {σ : St} {H : Hp} {De : Ends}
    (ho : ∀ {Hs H : Hp} {p : Addr} {xs ys : List D} {d : D} {vs : List V} {v : V} {Q : VK}, Le Hs H → H p = some (.lst vs) → IsL (gm X) Hs xs vs → Is (gm X) Hs d v → o xs d = some ys → (∀ w zs, IsL (gm X) Hs ys zs → Q w (upd H p (.lst zs))) → rr (.ref p) [v] H Q)
    (h : rdS (gm X) T (sMut1 i o f) W De σ H) : tDrop (tBM X.K "list" rr (tVar i) (tCons (rd (gm X) T (isD (gm X)) f W) tNil)) De σ H := by
  obtain ⟨F, env, S, h⟩ := h
  unfold sMut1 at h
  split at h
  · rename_i hl
    obtain ⟨xs, e⟩ := isLstS_at hl
    obtain ⟨p, vs, e1, e2, e3⟩ := own_lst S e
    refine ⟨.ref p, e1, .inl ⟨rfl, vs, .inl (.inl e2)⟩, F, env, S, RstS.bind S h fun d v H1 env1 s1 S1 i1 h1 => ?_⟩
    split at h1
    · rename_i xs' e'
      split at h1
      · rename_i ys ey
        obtain ⟨p', vs', e1', e2', e3'⟩ := own_lst S1 e'
        rw [e1] at e1'
        cases e1'
        refine ho Le.unhid e2' e3' i1 ey fun w zs m => ?_
        obtain ⟨S', s'⟩ := S1.mut (d' := .lst ys) (u := .lst zs) e' e1 ⟨zs, upd_same, m⟩
        exact h1 σ _ s' S'
      · exact h1.elim
    · exact h1.elim
  · exact h.elim
theorem ss_append (i : Nat) {p3 : Pos} (ha : SE X T W a f) (hN : X.N[i]? = some x := by rfl) (hv : Vis X.env.scope x := by first | exact Or.inl rfl | exact Or.inr (Or.inl rfl) | exact Or.inr (Or.inr rfl)) (hd : (x == ("__debug__" : Str)) = false := by decide)
    (hcd : (x == ("__classdict__" : Str)) = false := by decide) (hs : swapsWith (.Call (.Attribute (.Name x p) "append" p2) [a] [] p3) none pos.line X.env = pure false := by rfl) (hb : attributeBase (.Name x p) "append" X.env (eval (.Name x p) X.env) = eval (.Name x p) X.env := by rfl)
    (hfew : ((backTo p3 (starEach [a] X.env)).all (fun x => !x.1) && (backToKw p3 (keywordEach [] X.env)).all (fun x => x.1.isSome) && decide ([a].length + ([] : List Keyword).length + (if ([] : List Keyword).isEmpty then 0 else 1) < 30)) = true := by rfl)
    (hline : (p2.endLine == p3.line) = true := by rfl) (h0 : starEach [a] X.env = (false, eval a X.env) :: starEach [] X.env := by rfl) :
    SS X T W (.Expr (.Call (.Attribute (.Name x p) "append" p2) [a] [] p3) pos) (sMut1 i oApp f) :=
  PS.weak (ps_expr (pe_bm PySem.F.plainAttrs_list PySem.F.slot_list_append PySem.F.type_list_append mt_append (pe_var hN hv hd hcd) (pa_cons ha pa_nil h0) hb hfew hline h0) hs) fun De σ H h => rd_mut1 (fun {Hs H p xs ys d vs v Q} l e1 e2 e3 e4 j => by
    unfold oApp at e4
    split at e4
    · rename_i hz
      obtain rfl := Option.some.inj e4
      exact ⟨p, vs, v, rfl, rfl, e1, by rw [← IsL.length e2]; exact hz, j _ _ (IsL.append e2 (IsL.one e3))⟩
    · cases e4) h
theorem ss_extend (i : Nat) {p3 : Pos} (ha : SE X T W a f) (hN : X.N[i]? = some x := by rfl) (hv : Vis X.env.scope x := by first | exact Or.inl rfl | exact Or.inr (Or.inl rfl) | exact Or.inr (Or.inr rfl)) (hd : (x == ("__debug__" : Str)) = false := by decide)
    (hcd : (x == ("__classdict__" : Str)) = false := by decide) (hs : swapsWith (.Call (.Attribute (.Name x p) "extend" p2) [a] [] p3) none pos.line X.env = pure false := by rfl) (hb : attributeBase (.Name x p) "extend" X.env (eval (.Name x p) X.env) = eval (.Name x p) X.env := by rfl)
    (hfew : ((backTo p3 (starEach [a] X.env)).all (fun x => !x.1) && (backToKw p3 (keywordEach [] X.env)).all (fun x => x.1.isSome) && decide ([a].length + ([] : List Keyword).length + (if ([] : List Keyword).isEmpty then 0 else 1) < 30)) = true := by rfl)
    (hline : (p2.endLine == p3.line) = true := by rfl) (h0 : starEach [a] X.env = (false, eval a X.env) :: starEach [] X.env := by rfl) :
    SS X T W (.Expr (.Call (.Attribute (.Name x p) "extend" p2) [a] [] p3) pos) (sMut1 i oExt f) :=
  PS.weak (ps_expr (pe_bm PySem.F.plainAttrs_list PySem.F.slot_list_extend PySem.F.type_list_extend mt_extend (pe_var hN hv hd hcd) (pa_cons ha pa_nil h0) hb hfew hline h0) hs) fun De σ H h => rd_mut1 (fun {Hs H p xs ys d vs v Q} l e1 e2 e3 e4 j => by
    unfold oExt at e4
    split at e4
    · rename_i zs
      split at e4
      · rename_i hz
        obtain rfl := Option.some.inj e4
        obtain ⟨b, ws, rfl, s, m⟩ := e3
        exact ⟨p, b, vs, ws, rfl, rfl, e1, l.lp s, by rw [← IsL.length e2, ← IsL.length m]; exact hz, j _ _ (IsL.append e2 m)⟩
      · cases e4
    · cases e4) h
/-- xs.pop() of an owned list -/
def ePop (i : Nat) : Env' → Ro D := fun env => match env[i]? with
  | some (.o (.lst xs)) => match xs[xs.length - 1]? with
    | some d => .ok d (env.set i (.o (.lst xs.dropLast)))
    | none => .stk
  | _ => .stk
theorem IsL.dropLast {G : Gm} {Hs : Hp} {ds : List D} {vs : List V} (h : IsL G Hs ds vs) : IsL G Hs ds.dropLast vs.dropLast := by
  rw [List.dropLast_eq_take, List.dropLast_eq_take, IsL.length h]
  exact IsL.take _ h
theorem se_pop (i : Nat) {p3 : Pos} (hN : X.N[i]? = some x := by rfl) (hv : Vis X.env.scope x := by first | exact Or.inl rfl | exact Or.inr (Or.inl rfl) | exact Or.inr (Or.inr rfl)) (hd : (x == ("__debug__" : Str)) = false := by decide)
    (hcd : (x == ("__classdict__" : Str)) = false := by decide) (hb : attributeBase (.Name x p) "pop" X.env (eval (.Name x p) X.env) = eval (.Name x p) X.env := by rfl) (hline : (p2.endLine == p3.line) = true := by rfl) :
    SE X T W (.Call (.Attribute (.Name x p) "pop" p2) [] [] p3) (ePop i) :=
  PE.weak (pe_bm0 PySem.F.plainAttrs_list PySem.F.slot_list_pop PySem.F.type_list_pop mt_pop (pe_var hN hv hd hcd) hb hline) fun σ H Q h => by
    obtain ⟨F, env, S, h⟩ := h
    unfold ePop at h
    split at h
    · rename_i xs e
      split at h
      · rename_i d ed
        obtain ⟨p, vs, e1, e2, e3⟩ := own_lst S e
        rw [IsL.length e3] at ed
        obtain ⟨v, ev, iv⟩ := IsL.get e3 ed
        refine ⟨.ref p, e1, .inl ⟨rfl, vs, .inl (.inl e2)⟩, p, vs, v, rfl, rfl, e2, ev, ?_⟩
        obtain ⟨S', s'⟩ := S.mut (d' := .lst xs.dropLast) (u := .lst vs.dropLast) e e1 ⟨_, upd_same, IsL.dropLast e3⟩
        exact h v _ s' S' (Is.mono (s'.le F) _ _ iv)
      · exact h.elim
    · exact h.elim
/-- xs[i] = e of an owned list -/
def sSetIx (i : Nat) (g f : Env' → Ro D) : Env' → So := fun env => ofRo (f env) fun d e => if isLstS e i then ofRo (g e) fun n e => match n, e[i]? with
      | .int j, some (.o (.lst xs)) => match ixN xs.length j with
        | some m => .nx (e.set i (.o (.lst (xs.set m d))))
        | none => .stk
      | _, _ => .stk
    else .stk
theorem ss_setIx (i : Nat) (hb : SE X T W b g) (ha : SE X T W a f) (hN : X.N[i]? = some x := by rfl) (hv : Vis X.env.scope x := by first | exact Or.inl rfl | exact Or.inr (Or.inl rfl) | exact Or.inr (Or.inr rfl)) (hd : (x == ("__debug__" : Str)) = false := by decide)
    (hcd : (x == ("__classdict__" : Str)) = false := by decide)
    (hasg : ∀ v, assign (.Subscript (.Name x p) b p2) X.env v = (do
      let ov ← holding [v] (eval (.Name x p) X.env)
      let iv ← holding [v, ov] (eval b X.env)
      standAt p2
      holding [v, ov, iv] (setItem ov iv v)
      release [v, ov, iv] []) := by intro _; rfl)
    (hs : swapsWithSole [.Subscript (.Name x p) b p2] a pos.line X.env = pure false := by rfl) (hw : swappedStores [.Subscript (.Name x p) b p2] a X.env = pure none := by rfl)
    (h1 : (assignEach [.Subscript (.Name x p) b p2] X.env).map (·.2) = [assign (.Subscript (.Name x p) b p2) X.env] := by rfl) : SS X T W (.Assign [.Subscript (.Name x p) b p2] a pos) (sSetIx i g f) :=
  PS.weak (ps_asg ha (pg_sub (pe_var hN hv hd hcd) hb set_list hasg) hs hw h1) fun De σ H h => rdS_bind h fun F env d v H1 S1 i1 h1 => by
    split at h1
    · rename_i hl
      obtain ⟨xs0, e0⟩ := isLstS_at hl
      obtain ⟨p, vs0, e1, e2, e3⟩ := own_lst S1 e0
      refine ⟨.ref p, e1, F, env, S1, RstS.bind S1 h1 fun n w H2 env2 s2 S2 i2 h2 => ?_⟩
      split at h2
      · rename_i j xs ex
        split at h2
        · rename_i m em
          obtain ⟨p', vs, e1', e2', e3'⟩ := own_lst S2 ex
          rw [e1] at e1'
          cases e1'
          refine ⟨p, vs, j, m, rfl, i2, e2', by rw [← IsL.length e3']; exact em, ?_⟩
          obtain ⟨S', s'⟩ := S2.mut (d' := .lst (xs.set m d)) (u := .lst (vs.set m v)) ex e1 ⟨_, upd_same, IsL.set (Is.mono (s2.le F) _ _ i1) m e3'⟩
          exact h2 σ _ s' S'
        · exact h2.elim
      · exact h2.elim
    · exact h1.elim
/-- d[k] = e of an owned dict -/
def putX (d k v : D) : Option D := match d with
  | .dK ks ds => match keyOf k with
    | some q => if ks.length < sizeLine then some (.dK (putD ks ds q v).1 (putD ks ds q v).2) else none
    | none => none
  | .dT ks ds => match keysOf k with
    | some q => if ks.length < sizeLine then some (.dT (putD ks ds q v).1 (putD ks ds q v).2) else none
    | none => none
  | _ => none
def ownD (env : Env') (i : Nat) : Option D := match env[i]? with
  | some (.o d) => some d
  | _ => none
theorem ownD_at {env : Env'} {i : Nat} {d : D} (h : ownD env i = some d) : env[i]? = some (.o d) := by
  unfold ownD at h
  split at h
  · rename_i d' e
    rw [e, Option.some.inj h]
  · cases h
def sPutIx (i : Nat) (g f : Env' → Ro D) : Env' → So := fun env => ofRo (f env) fun d e => match ownD e i with
  | some _ => ofRo (g e) fun n e => match ownD e i with
      | some dd => match putX dd n d with
        | some dd' => .nx (e.set i (.o dd'))
        | none => .stk
      | none => .stk
  | none => .stk
theorem putX_is {G : Gm} {Hs H : Hp} {d k v d' : D} {p : Addr} {y z : V} (l : Le Hs H) (o : OIs G Hs H d p) (i1 : Is G Hs k y) (i2 : Is G Hs v z) (e : putX d k v = some d') : ∃ u, DPut H p y z (upd H p u) ∧ OIs G Hs (upd H p u) d' p := by
  unfold putX at e
  split at e
  · rename_i ks ds
    obtain ⟨vs, e1, e2, e3⟩ := o
    split at e
    · rename_i q eq
      split at e
      · rename_i hz
        obtain rfl := Option.some.inj e
        obtain ⟨vs', a1, a2, a3⟩ := putD_val (k := q) e2 e3 i2
        refine ⟨.dK (putK (ks.zip vs) q z), .inl ⟨ks.zip vs, q, e1, keyOf_is eq i1, ?_, rfl⟩, vs', ?_, a2, a3⟩
        · rw [List.length_zip]; omega
        · rw [upd_same, a1]
      · cases e
    · cases e
  · rename_i ks ds
    obtain ⟨vs, e1, e2, e3⟩ := o
    split at e
    · rename_i q eq
      split at e
      · rename_i hz
        obtain rfl := Option.some.inj e
        obtain ⟨vs', a1, a2, a3⟩ := putD_val (k := q) e2 e3 i2
        unfold keysOf at eq
        split at eq
        · obtain ⟨b, ws, rfl, k1, k2⟩ := i1
          have z1 := keysOfL_is eq k2
          subst z1
          refine ⟨.dT (putK (ks.zip vs) q z), .inr ⟨ks.zip vs, q, b, e1, rfl, l.tp k1, ?_, rfl⟩, vs', ?_, a2, a3⟩
          · rw [List.length_zip]; omega
          · rw [upd_same, a1]
        · cases eq
      · cases e
    · cases e
  · cases e
theorem ss_putIx (C : Cs X) (i : Nat) (hb : SE X T W b g) (ha : SE X T W a f) (hN : X.N[i]? = some x := by rfl) (hv : Vis X.env.scope x := by first | exact Or.inl rfl | exact Or.inr (Or.inl rfl) | exact Or.inr (Or.inr rfl)) (hd : (x == ("__debug__" : Str)) = false := by decide)
    (hcd : (x == ("__classdict__" : Str)) = false := by decide) (hs : swapsWith a (some (.Subscript (.Name x p) b p2)) pos.line X.env = pure false := by rfl) : SS X T W (.Assign [.Subscript (.Name x p) b p2] a pos) (sPutIx i g f) :=
  PS.weak (ps_dput (by have := C.hu; omega) (pe_var hN hv hd hcd) hb ha hs) fun De σ H h => rdS_bind h fun F env d v H1 S1 i1 h1 => by
    split at h1
    · rename_i d0 e0
      obtain ⟨p, e1, oa0, _⟩ := S1.own (ownD_at e0)
      refine ⟨.ref p, e1, F, env, S1, RstS.bind S1 h1 fun n w H2 env2 s2 S2 i2 h2 => ?_⟩
      split at h2
      · rename_i dd ed
        split at h2
        · rename_i dd' ep
          obtain ⟨p', e1', oa, _⟩ := S2.own (ownD_at ed)
          rw [e1] at e1'
          cases e1'
          obtain ⟨u, hp, ou⟩ := putX_is Le.unhid oa i2 (Is.mono (s2.le F) _ _ i1) ep
          obtain ⟨S', s'⟩ := S2.mut (d' := dd') (u := u) (ownD_at ed) e1 ou
          exact ⟨p, _, rfl, hp, h2 σ _ s' S'⟩
        · exact h2.elim
      · exact h2.elim
    · exact h1.elim
end
end Rf

namespace Rf
open PySem L2 LamX

/-! ## what is walked -/
/-- J yields ds, from any heap that bears Hs0 -/
structure JIs (G : Gm) (Hs0 : Hp) (J : It) (ds : List D) : Prop where
  go : ∀ i Hs H, i < ds.length → Le Hs0 Hs → Le Hs H → J.go i H
  stop : ∀ Hs H, Le Hs0 Hs → Le Hs H → J.stop ds.length H
  yld : ∀ i d Hs H x H', ds[i]? = some d → Le Hs0 Hs → Le Hs H → J.yld i H x H' → New H H' ∧ ∀ Hs', Le Hs Hs' → (∀ a o, H a = none → H' a = some o → Hs' a = some o) → Is G Hs' d x
def SI (X : Cx) (T : Tb) (W : WX) (tg it : Expr) (f : Env' → Ro (List D)) : Prop := PI X tg it (rd (gm X) T (fun Hs ds J => JIs (gm X) Hs J ds) f W)
section
variable {G : Gm} {Hs0 : Hp} {p : Addr} {xs : List D} {vs : List V}
theorem JIs.lst (s : Hs0 p = some (.lst vs)) (m : IsL G Hs0 xs vs) : JIs G Hs0 (Itl G.K p) xs where
  go := fun i Hs H hi l1 l2 => by
    have e := IsL.length m
    exact ⟨vs, vs[i], (l1.trans l2).lq s, by simp [← e, hi]⟩
  stop := fun Hs H l1 l2 => ⟨vs, (l1.trans l2).lq s, by rw [IsL.length m]; exact Nat.le_refl _⟩
  yld := fun i d Hs H x H' hd l1 l2 h => by
    obtain ⟨rfl, h⟩ := h
    obtain ⟨v, e1, e2⟩ := IsL.get m hd
    have e3 := h vs ((l1.trans l2).lq s)
    rw [e1] at e3
    obtain rfl := Option.some.inj e3
    exact ⟨New.refl _, fun Hs' l3 _ => Is.mono (l1.trans l3) _ _ e2⟩
theorem JIs.tup (s : SqT G.K Hs0 p vs) (m : IsL G Hs0 xs vs) : JIs G Hs0 (Itt G.K p) xs where
  go := fun i Hs H hi l1 l2 => by
    have e := IsL.length m
    exact ⟨vs, vs[i], (l1.trans l2).sqT s, by simp [← e, hi]⟩
  stop := fun Hs H l1 l2 => ⟨vs, (l1.trans l2).sqT s, by rw [IsL.length m]; exact Nat.le_refl _⟩
  yld := fun i d Hs H x H' hd l1 l2 h => by
    obtain ⟨rfl, h⟩ := h
    obtain ⟨v, e1, e2⟩ := IsL.get m hd
    have e3 := h vs ((l1.trans l2).sqT s)
    rw [e1] at e3
    obtain rfl := Option.some.inj e3
    exact ⟨New.refl _, fun Hs' l3 _ => Is.mono (l1.trans l3) _ _ e2⟩
/-- lo, lo + 1, .. -/
def rng (lo : Int) (n : Nat) : List D := (List.range n).map fun (i : Nat) => D.int (lo + (i : Int))
theorem rng_len (lo : Int) (n : Nat) : (rng lo n).length = n := by simp [rng]
theorem rng_get {lo : Int} {n i : Nat} {d : D} (h : (rng lo n)[i]? = some d) : d = .int (lo + (i : Int)) ∧ i < n := by
  unfold rng at h
  rw [List.getElem?_map] at h
  by_cases hi : i < n
  · rw [List.getElem?_range hi] at h
    exact ⟨(Option.some.inj h).symm, hi⟩
  · rw [List.getElem?_eq_none (by simpa using hi)] at h
    cases h
theorem JIs.rng {lo : Int} {n : Nat} : JIs G Hs0 (Itr lo n) (rng lo n) where
  go := fun i Hs H hi _ _ => by rw [rng_len] at hi; exact hi
  stop := fun Hs H _ _ => by rw [rng_len]; exact Nat.le_refl _
  yld := fun i d Hs H x H' hd _ _ h => by
    obtain ⟨e1, e2⟩ := h
    obtain ⟨e, hi⟩ := rng_get hd
    subst e1
    subst e
    refine ⟨New.refl _, fun Hs' _ _ => ?_⟩
    rw [e2]
    rfl
end
/-- the items of a sequence -/
def seqD : D → Option (List D)
  | .lst xs => some xs
  | .tup xs => some xs
  | .ctup xs => some xs
  | _ => none
def iSeq (f : Env' → Ro D) : Env' → Ro (List D) := fun env => (f env).bind fun d e => lift (seqD d) e
section
variable {X : Cx} {T : Tb} {W : WX} {k : Nat} {a b c tg : Expr} {f g u : Env' → Ro D} {q q' : Env' → Ro Bool} {pos p p2 : Pos} {rest es : List Expr} {r : Env' → Ro (List D)} {x : Str} {st : Stmt} {sts body : List Stmt} {F1 F2 F3 : Env' → So} {t : Tg} {ts : Tgs} {tgs : List Expr} {it : Env' → Ro (List D)}
/-- a list or a tuple, by what it is -/
theorem pi_seq {tl : TE} (hl : PE X a tl) : PI X tg a (fun σ H R => tl σ H fun x H1 => (∃ p, x = .ref p ∧ (∃ xs, SqL X.K H1 p xs) ∧ R (Itl X.K p) H1) ∨ ∃ p, x = .ref p ∧ (∃ xs, SqT X.K H1 p xs) ∧ R (Itt X.K p) H1) := ⟨fun pins s σ H R I h =>
  thn (hl.run pins s σ H _ I h) fun v s1 ⟨x, H1, I1, r1, q1⟩ => by
    have fresh : ∀ b ∈ [s1.heap.objs.size], FpOk X pins H1 b := fun b hb => by
      rw [List.mem_singleton.mp hb]
      exact I1.fpOk (Nat.le_refl _) (I1.hok.fresh (Nat.le_refl _))
    have grown : ∀ {o : Obj}, Inv X pins σ H1 { s1 with heap := s1.heap.push o } := fun {o} => I1.kept (t' := s1.toks) fun b u e => Heap.get?_push_of_some _ e
    rcases q1 with ⟨y, e, ⟨xs, hq⟩, q⟩ | ⟨y, e, ⟨xs, hq⟩, q⟩
    · subst e
      cases r1
      obtain ⟨its, _, pl, _⟩ := I1.list hq
      exact wpAny_pyIter_list pl.isList ⟨_, [s1.heap.objs.size], _, _, H1, rfl, grown, turn_list y _, ⟨_, Heap.get?_push_size _ rfl, rfl, rfl⟩, fresh, q⟩
    · subst e
      cases r1
      obtain ⟨its, _, pl, _⟩ := I1.tuple hq
      exact wpAny_pyIter_tuple (show s1.heap.IsTuple y its.toArray from pl) ⟨_, [s1.heap.objs.size], _, _, H1, rfl, grown, turn_tuple y _, ⟨_, Heap.get?_push_size _ rfl, rfl, rfl⟩, fresh, q⟩⟩
theorem si_seq (ha : SE X T W a f) : SI X T W tg a (iSeq f) := PI.weak (pi_seq ha) fun σ H R h => rd_bind h fun F env d v H1 S1 i1 h1 => by
  obtain ⟨xs, e, h1⟩ := lift_some h1
  unfold seqD at e
  split at e
  · obtain rfl := Option.some.inj e
    obtain ⟨y, vs, rfl, s, m⟩ := i1
    exact .inl ⟨y, rfl, ⟨vs, Le.unhid.lq s⟩, fin_same (R := fun Hs ds J => JIs (gm X) Hs J ds) S1 (JIs.lst s m) h1⟩
  · obtain rfl := Option.some.inj e
    obtain ⟨y, vs, rfl, s, m⟩ := i1
    exact .inr ⟨y, rfl, ⟨vs, Le.unhid.tq s⟩, fin_same (R := fun Hs ds J => JIs (gm X) Hs J ds) S1 (JIs.tup (.inl (.inl s)) m) h1⟩
  · obtain rfl := Option.some.inj e
    obtain ⟨y, vs, rfl, s, m⟩ := i1
    exact .inr ⟨y, rfl, ⟨vs, Le.unhid.sqT s⟩, fin_same (R := fun Hs ds J => JIs (gm X) Hs J ds) S1 (JIs.tup s m) h1⟩
  · cases e
/-- range -/
def okR (i : Int) : Bool := decide (i.natAbs < 2 ^ 62)
theorem okR_bd {i : Int} (h : okR i = true) : -(2 ^ 62) ≤ i ∧ i < 2 ^ 62 := by
  have := of_decide_eq_true h
  omega
def iR1 (f : Env' → Ro D) : Env' → Ro (List D) := fun env => (f env).bind fun d e => match d with
  | .int j => if okR j then .ok (rng 0 j.toNat) e else .stk
  | _ => .stk
def iR2 (f g : Env' → Ro D) : Env' → Ro (List D) := fun env => (f env).bind fun d e => (g e).bind fun d' e => match d, d' with
  | .int i, .int j => if okR i && okR j then .ok (rng i (j - i).toNat) e else .stk
  | _, _ => .stk
theorem si_r1 (hg : Gl X "range") (hm : X.mg "range" = none) (ha : SE X T W a f) (h0 : starEach [a] X.env = [(false, eval a X.env)] := by rfl) (h1 : starEach [a] X.env = (false, eval a X.env) :: starEach [] X.env := by rfl) : SI X T W tg (.Call (.Name "range" p) [a] [] pos) (iR1 f) :=
  PI.weak (pi_range1 hg hm (pa_cons ha pa_nil h1) h0) fun σ H R h => rd_bind h fun F env d v H1 S1 i1 h1 => by
    split at h1
    · rename_i j
      split at h1
      · rename_i ok
        obtain ⟨o1, o2⟩ := okR_bd ok
        obtain rfl : v = .int j := i1
        exact ⟨j, rfl, o1, o2, fin_same (R := fun Hs ds J => JIs (gm X) Hs J ds) S1 JIs.rng h1⟩
      · exact h1.elim
    · exact h1.elim
theorem si_r2 (hg : Gl X "range") (hm : X.mg "range" = none) (ha : SE X T W a f) (hb : SE X T W b g) (hs : starEach [a, b] X.env = [(false, eval a X.env), (false, eval b X.env)] := by rfl) (hs2 : starEach [b] X.env = [(false, eval b X.env)] := by rfl)
    (h3 : starEach [a, b] X.env = (false, eval a X.env) :: starEach [b] X.env := by rfl) (h4 : starEach [b] X.env = (false, eval b X.env) :: starEach [] X.env := by rfl) : SI X T W tg (.Call (.Name "range" p) [a, b] [] pos) (iR2 f g) :=
  PI.weak (pi_range2 hg hm (pa_cons ha (pa_cons hb pa_nil h4) h3) hs hs2) fun σ H R h => rd_bind h fun F env d v H1 S1 i1 h1 => ⟨F, env, S1, Rst.bind S1 h1 fun d' v' H2 env2 s2 S2 i2 h2 => by
    split at h2
    · rename_i i j
      split at h2
      · rename_i ok
        obtain ⟨o1, o2⟩ := Bool.and_eq_true_iff.mp ok
        obtain ⟨a1, a2⟩ := okR_bd o1
        obtain ⟨a3, a4⟩ := okR_bd o2
        obtain rfl : v = .int i := i1
        obtain rfl : v' = .int j := i2
        exact ⟨i, j, rfl, ⟨a1, a2, a3, a4⟩, fin_same (R := fun Hs ds J => JIs (gm X) Hs J ds) S2 JIs.rng h2⟩
      · exact h2.elim
    · exact h2.elim⟩

/-! ## for -/
def forL (t : Tg) (body : Env' → So) : List D → Env' → So
  | [], e => .nx e
  | d :: ds, e => match t d e with
    | some e1 => match body e1 with
      | .nx e2 => forL t body ds e2
      | .ct e2 => forL t body ds e2
      | .bk e2 => .nx e2
      | r => r
    | none => .stk
def sFor (it : Env' → Ro (List D)) (t : Tg) (body : Env' → So) : Env' → So := fun env => ofRo (it env) fun ds e => forL t body ds e
theorem ss_for {us : List Nat} (C : Ctx X k) (po : PassesOwn (model X.prog X.w) X.A X.env X.xe) (hi : SI X T W tg a it) (hg : SG X T us tg t) (hb : SB X T W body F1) (hs : ∀ x, foldedSetIterable a X.env x = pure x := by intro _; rfl) : SS X T W (.For tg a body [] pos) (sFor it t F1) :=
  PS.weak (ps_for po C.calm hi hg hb hs) fun De σ H h => rdS_bind h fun F env ds J H1 S1 i1 h1 => by
    have i1 : JIs (gm X) (hid H1 (Hd F σ env)) J ds := i1
    refine ⟨fun i m σ' H' => m = ds.length - i ∧ i ≤ ds.length ∧ ∃ e, Sta (gm X) T F σ' H' e ∧ Le (hid H1 (Hd F σ env)) (hid H' (Hd F σ' e)) ∧ RstS (gm X) T F σ' H' e W De (forL t F1 (ds.drop i) e),
      ⟨ds.length, rfl, Nat.zero_le _, env, S1, Le.refl _, h1⟩, ?_⟩
    rintro i m σ' H' ⟨rfl, hi', e, S, le, h⟩
    by_cases hlt : i < ds.length
    · have hd : ds[i]? = some ds[i] := by simp [hlt]
      rw [List.drop_eq_getElem_cons hlt] at h
      refine .inr ⟨i1.go i _ H' hlt le Le.unhid, fun σ2 H2 => ∃ e2, Sta (gm X) T F σ2 H2 e2 ∧ Le (hid H1 (Hd F σ env)) (hid H2 (Hd F σ2 e2)) ∧ RstS (gm X) T F σ2 H2 e2 W De (forL t F1 (ds.drop (i + 1)) e2),
        fun σ2 H2 ⟨e2, a1, a2, a3⟩ => ⟨ds.length - (i + 1), by omega, rfl, hlt, e2, a1, a2, a3⟩, fun y H2 hy => ?_⟩
      obtain ⟨n, j⟩ := i1.yld i _ _ H' y H2 hd le Le.unhid hy
      have S2 := S.new n
      have iy := j (hid H2 (Hd F σ' e)) (n.le S) fun a o h1 h2 => hid_some.mpr ⟨fun z => S.hd_there z h1, h2⟩
      simp only [forL] at h
      cases et : t ds[i] e with
      | none =>
        rw [et] at h
        exact h.elim
      | some e1 =>
        rw [et] at h
        simp only at h
        refine ⟨F, e, ds[i], e1, S2, iy, et, fun σ3 _ s3 S3 => ⟨F, e1, S3, ?_⟩⟩
        have s13 : Stp σ' H' e σ3 H2 e1 := (n.stp).trans s3
        cases eb : F1 e1 with
        | nx e2 =>
          rw [eb] at h
          exact fun σ4 H4 s4 S4 => ⟨e2, S4, (le.trans (s13.le F)).trans (s4.le F), h.later (s13.trans s4)⟩
        | ct e2 =>
          rw [eb] at h
          exact fun σ4 H4 s4 S4 => ⟨e2, S4, (le.trans (s13.le F)).trans (s4.le F), h.later (s13.trans s4)⟩
        | bk e2 =>
          rw [eb] at h
          exact fun σ4 H4 s4 S4 => h σ4 H4 (s13.trans s4) S4
        | ret d e2 =>
          rw [eb] at h
          exact RstS.later (r := .ret d e2) h s13
        | retF d e2 =>
          rw [eb] at h
          exact RstS.later (r := .retF d e2) h s13
        | exc c p e2 =>
          rw [eb] at h
          exact RstS.later (r := .exc c p e2) h s13
        | stk =>
          rw [eb] at h
          exact h.elim
    · have e0 : i = ds.length := by omega
      subst e0
      rw [List.drop_length] at h
      exact .inl ⟨i1.stop _ H' le Le.unhid, h σ' H' .refl S⟩

/-! ## while -/
def whileN (q : Env' → Ro Bool) (body : Env' → So) : Nat → Env' → So
  | 0, _ => .stk
  | n + 1, e => ofRo (q e) fun b e => if b then match body e with
      | .nx e2 => whileN q body n e2
      | .ct e2 => whileN q body n e2
      | .bk e2 => .nx e2
      | r => r
    else .nx e
/-- turns enough for any loop here -/
def many : Nat := 2 ^ 200
def sWhile (q : Env' → Ro Bool) (body : Env' → So) : Env' → So := fun env => whileN q body many env
theorem ss_while (po : PassesOwn (model X.prog X.w) X.A X.env X.xe) (hc : SQ X T W c q) (hb : SB X T W body F1) : SS X T W (.While c body [] pos) (sWhile q F1) :=
  PS.weak (ps_while po hc hb) fun De σ H h => by
    obtain ⟨F, env, S, h⟩ := h
    refine ⟨fun m σ' H' => ∃ e, Sta (gm X) T F σ' H' e ∧ RstS (gm X) T F σ' H' e W De (whileN q F1 m e), ⟨many, env, S, h⟩, ?_⟩
    rintro m σ' H' ⟨e, S, h⟩
    cases m with
    | zero => exact h.elim
    | succ m =>
      simp only [whileN] at h
      refine ⟨F, e, S, RstS.bind S h fun b b' H1 e1 s1 S1 i1 h1 => ?_⟩
      obtain rfl : b = b' := i1
      cases b with
      | false => exact h1 σ' H1 .refl S1
      | true =>
        simp only [if_true] at h1 ⊢
        refine ⟨fun σ2 H2 => ∃ e2, Sta (gm X) T F σ2 H2 e2 ∧ RstS (gm X) T F σ2 H2 e2 W De (whileN q F1 m e2), fun σ2 H2 ⟨e2, a1, a2⟩ => ⟨m, Nat.lt_succ_self m, e2, a1, a2⟩, F, e1, S1, ?_⟩
        cases eb : F1 e1 with
        | nx e2 =>
          rw [eb] at h1
          exact fun σ4 H4 s4 S4 => ⟨e2, S4, h1.later s4⟩
        | ct e2 =>
          rw [eb] at h1
          exact fun σ4 H4 s4 S4 => ⟨e2, S4, h1.later s4⟩
        | bk e2 =>
          rw [eb] at h1
          exact fun σ4 H4 s4 S4 => h1 σ4 H4 s4 S4
        | ret d e2 =>
          rw [eb] at h1
          exact h1
        | retF d e2 =>
          rw [eb] at h1
          exact h1
        | exc c p e2 =>
          rw [eb] at h1
          exact h1
        | stk =>
          rw [eb] at h1
          exact h1.elim

/-! ## comprehensions -/
def wipeE (e : Env') : List Nat → Env'
  | [] => e
  | v :: vs => (wipeE e vs).set v .no
/-- the outer slots again -/
def backE (e0 e : Env') : List Nat → Env'
  | [] => e
  | v :: vs => (backE e0 e vs).set v (e0.getD v .no)
def isOwn (e : Env') (i : Nat) : Bool := match e[i]? with
  | some (.o _) => true
  | _ => false
def noOwn (e : Env') (vs : List Nat) : Bool := vs.all fun v => !isOwn e v
theorem noOwn_at {e : Env'} {vs : List Nat} (h : noOwn e vs = true) {v : Nat} (hv : v ∈ vs) (d : D) : e[v]? ≠ some (.o d) := fun z => by
  have := List.all_eq_true.mp h v hv
  unfold isOwn at this
  rw [z] at this
  cases this
theorem wipeE_len (e : Env') : ∀ vs, (wipeE e vs).length = e.length
  | [] => rfl
  | v :: vs => by unfold wipeE; rw [List.length_set, wipeE_len e vs]
theorem backE_len (e0 e : Env') : ∀ vs, (backE e0 e vs).length = e.length
  | [] => rfl
  | v :: vs => by unfold backE; rw [List.length_set, backE_len e0 e vs]
theorem wipeE_get {e : Env'} {i : Nat} : ∀ {vs : List Nat}, i ∉ vs → (wipeE e vs)[i]? = e[i]?
  | [], _ => rfl
  | v :: vs, h => by
    have h1 : v ≠ i := fun z => h (by simp [z])
    have h2 : i ∉ vs := fun z => h (List.mem_cons_of_mem _ z)
    unfold wipeE
    rw [List.getElem?_set_ne h1, wipeE_get h2]
theorem wipeE_own {e : Env'} {i : Nat} : ∀ {vs : List Nat}, i ∈ vs → ∀ s, (wipeE e vs)[i]? = some s → s = .no
  | [], h, _, _ => by cases h
  | v :: vs, h, s, hs => by
    unfold wipeE at hs
    rcases get_set hs with ⟨_, q, _⟩ | ⟨q, hs⟩
    · exact q
    · rcases List.mem_cons.mp h with z | z
      · exact absurd z.symm q
      · exact wipeE_own z s hs
theorem backE_get {e0 e : Env'} {i : Nat} : ∀ {vs : List Nat}, i ∉ vs → (backE e0 e vs)[i]? = e[i]?
  | [], _ => rfl
  | v :: vs, h => by
    have h1 : v ≠ i := fun z => h (by simp [z])
    have h2 : i ∉ vs := fun z => h (List.mem_cons_of_mem _ z)
    unfold backE
    rw [List.getElem?_set_ne h1, backE_get h2]
theorem backE_own {e0 e : Env'} {i : Nat} : ∀ {vs : List Nat}, i ∈ vs → ∀ s, (backE e0 e vs)[i]? = some s → s = e0.getD i .no
  | [], h, _, _ => by cases h
  | v :: vs, h, s, hs => by
    unfold backE at hs
    rcases get_set hs with ⟨e1, q, _⟩ | ⟨q, hs⟩
    · rw [q, e1]
    · rcases List.mem_cons.mp h with z | z
      · exact absurd z.symm q
      · exact backE_own z s hs
theorem wipe_len (σ : St) : ∀ vs : List Nat, (wipe σ vs).length = σ.length := fun vs => wipe_length σ vs
theorem ow_wipe {σ : St} {e : Env'} {vs : List Nat} (h : noOwn e vs = true) {a : Addr} : Ow (wipe σ vs) (wipeE e vs) a ↔ Ow σ e a := by
  refine ⟨fun ⟨i, d, h1, h2⟩ => ?_, fun ⟨i, d, h1, h2⟩ => ?_⟩
  · by_cases hi : i ∈ vs
    · have := wipeE_own hi _ h1
      cases this
    · rw [wipeE_get hi] at h1
      rw [wipe_out hi] at h2
      exact ⟨i, d, h1, h2⟩
  · have hi : i ∉ vs := fun z => noOwn_at h z d h1
    exact ⟨i, d, by rw [wipeE_get hi]; exact h1, by rw [wipe_out hi]; exact h2⟩
variable {G : Gm} {F F' : Addr → Prop} {σ : St} {H H' : Hp} {env e : Env'} {vs : List Nat}
theorem hid_eq {O O' : Addr → Prop} (h : ∀ a, O a ↔ O' a) : hid H O = hid H O' := by
  have : O = O' := funext fun a => propext (h a)
  rw [this]
theorem hd_iff {σ σ' : St} {e e' : Env'} (h : ∀ a, Ow σ e a ↔ Ow σ' e' a) (a : Addr) : Hd F σ e a ↔ Hd F σ' e' a := ⟨fun z => z.elim (fun z => .inl ((h a).mp z)) .inr, fun z => z.elim (fun z => .inl ((h a).mpr z)) .inr⟩
theorem TabP.wipe (t : TabP T σ H) (f : ∀ i ∈ vs, Fr T i) : TabP T (L2.wipe σ vs) H := ⟨t.1, fun p hp => by
  rw [wipe_out fun z => f _ z p hp rfl]
  exact t.2 p hp⟩
theorem Sta.wipe (S : Sta G T F σ H env) (fr : ∀ i ∈ vs, Fr T i) (h : noOwn env vs = true) : Sta G T F (L2.wipe σ vs) H (wipeE env vs) := by
  have hw := fun a => ow_wipe (σ := σ) h (a := a)
  refine ⟨by rw [wipeE_len, wipe_len]; exact S.len, fun i s hs => ?_, fun i j d d' a h1 h2 h3 h4 => ?_, fun a z => S.fr a ((hw a).mp z), S.fd, S.tab.wipe fr, S.old.to (fun _ _ _ _ h => h) (fun _ _ h => h) fun a z => .inl ((hw a).mp z), by rw [hid_eq (hd_iff hw)]; exact S.vis⟩
  · rw [hid_eq (hd_iff hw)]
    by_cases hi : i ∈ vs
    · obtain rfl := wipeE_own hi s hs
      have hl : i < (L2.wipe σ vs).length := by
        rw [wipe_len, ← S.len, ← wipeE_len env vs]
        exact (List.getElem?_eq_some_iff.mp hs).1
      exact ⟨(L2.wipe σ vs)[i], by simp [hl], trivial⟩
    · rw [wipeE_get hi] at hs
      obtain ⟨x, e1, e2⟩ := S.sl i s hs
      exact ⟨x, by rw [wipe_out hi]; exact e1, e2⟩
  · have n1 : i ∉ vs := fun z => by have := wipeE_own z _ h1; cases this
    have n2 : j ∉ vs := fun z => by have := wipeE_own z _ h2; cases this
    rw [wipeE_get n1] at h1
    rw [wipeE_get n2] at h2
    rw [wipe_out n1] at h3
    rw [wipe_out n2] at h4
    exact S.dis i j d d' a h1 h2 h3 h4
/-- behind a turn: the block's own slots are forgotten -/
theorem Sta.rewipe {σ2 : St} (fr : ∀ i ∈ vs, Fr T i) (S : Sta G T F σ2 H e) (hw : L2.wipe σ2 vs = L2.wipe σ vs) (h : noOwn e vs = true) : Sta G T F (L2.wipe σ vs) H (wipeE e vs) ∧ Stp σ2 H e (L2.wipe σ vs) H (wipeE e vs) := by
  rw [← hw]
  exact ⟨S.wipe fr h, fun _ _ e _ _ => e, fun a _ k z => k ((ow_wipe h).mp z), fun _ e => e⟩
/-- behind the block -/
theorem back_ok (S : Sta G T F σ H env) (h0 : noOwn env vs = true) (s : Stp (L2.wipe σ vs) H (wipeE env vs) (L2.wipe σ vs) H' e) (S' : Sta G T F' (L2.wipe σ vs) H' e) (h1 : noOwn e vs = true) (hF : ∀ a, F' a → F a ∨ H a = none) :
    Sta G T F' σ H' (backE env e vs) ∧ Stp σ H env σ H' (backE env e vs) := by
  have hb : ∀ a, Ow σ (backE env e vs) a ↔ Ow (L2.wipe σ vs) e a := fun a => by
    refine ⟨fun ⟨i, d, a1, a2⟩ => ?_, fun ⟨i, d, a1, a2⟩ => ?_⟩
    · by_cases hi : i ∈ vs
      · have z := backE_own hi _ a1
        rw [List.getD_eq_getElem?_getD] at z
        cases q : env[i]? with
        | none => rw [q] at z; cases z
        | some s =>
          rw [q] at z
          have z' : Slot.o d = s := z
          exact absurd (by rw [q, ← z']) (noOwn_at h0 hi d)
      · rw [backE_get hi] at a1
        exact ⟨i, d, a1, by rw [wipe_out hi]; exact a2⟩
    · have hi : i ∉ vs := fun z => noOwn_at h1 z d a1
      rw [wipe_out hi] at a2
      exact ⟨i, d, by rw [backE_get hi]; exact a1, a2⟩
  have hw := fun a => ow_wipe (σ := σ) h0 (a := a)
  have st : Stp σ H env σ H' (backE env e vs) := ⟨fun a o e1 n k => s.keep a o e1 n fun z => k ((hw a).mp z), fun a q k z => s.own a q (fun y => k ((hw a).mp y)) ((hb a).mp z), s.dom⟩
  refine ⟨⟨?_, fun i sl hs => ?_, fun i j d d' a a1 a2 a3 a4 => ?_, fun a z => S'.fr a ((hb a).mp z), S'.fd, ⟨S'.tab.1, S.tab.2⟩, S'.old.to (fun _ _ _ _ h => h) (fun _ _ h => h) fun a z => .inl ((hb a).mp z), by rw [hid_eq (hd_iff hb)]; exact S'.vis⟩, st⟩
  · rw [backE_len, S'.len, wipe_len]
  · rw [hid_eq (hd_iff hb)]
    by_cases hi : i ∈ vs
    · have z := backE_own hi _ hs
      rw [List.getD_eq_getElem?_getD] at z
      cases q : env[i]? with
      | none =>
        rw [q] at z
        obtain rfl : sl = .no := z
        have hl : i < σ.length := by
          have := (List.getElem?_eq_some_iff.mp hs).1
          rw [backE_len, S'.len, wipe_len] at this
          exact this
        exact ⟨σ[i], by simp [hl], trivial⟩
      | some s0 =>
        rw [q] at z
        obtain rfl : sl = s0 := z
        obtain ⟨x, e1, e2⟩ := S.sl i sl q
        refine ⟨x, e1, ?_⟩
        cases sl with
        | no => trivial
        | o d => exact absurd q (noOwn_at h0 hi d)
        | v d =>
          obtain ⟨v, rfl, e2⟩ := e2
          refine ⟨v, rfl, Is.mono ?_ _ _ e2⟩
          refine Le.hid fun b o e3 n k => ⟨fun y => ?_, s.keep b o e3 n fun y => k (.inl ((hw b).mp y))⟩
          rcases y with y | y
          · exact s.own b (by rw [e3]; simp) (fun y' => k (.inl ((hw b).mp y'))) y
          · rcases hF b y with y | y
            · exact k (.inr y)
            · rw [e3] at y; cases y
    · rw [backE_get hi] at hs
      obtain ⟨x, e1, e2⟩ := S'.sl i sl hs
      rw [wipe_out hi] at e1
      exact ⟨x, e1, e2⟩
  · have key : ∀ {i : Nat} {d : D}, (backE env e vs)[i]? = some (.o d) → i ∉ vs ∧ e[i]? = some (.o d) := fun {i d} q => by
      by_cases hi : i ∈ vs
      · have z := backE_own hi _ q
        rw [List.getD_eq_getElem?_getD] at z
        cases q' : env[i]? with
        | none => rw [q'] at z; cases z
        | some s =>
          rw [q'] at z
          have z' : Slot.o d = s := z
          exact absurd (by rw [q', ← z']) (noOwn_at h0 hi d)
      · rw [backE_get hi] at q
        exact ⟨hi, q⟩
    obtain ⟨n1, b1⟩ := key a1
    obtain ⟨n2, b2⟩ := key a2
    exact S'.dis i j d d' a b1 b2 (by rw [wipe_out n1]; exact a3) (by rw [wipe_out n2]; exact a4)
/-- the turns of a comprehension: vs the block's own slots -/
def lcL (vs : List Nat) (t : Tg) (q : Env' → Ro Bool) (f : Env' → Ro D) : List D → List D → Env' → Ro (List D)
  | [], acc, e => .ok acc e
  | d :: ds, acc, e => match t d e with
    | some e1 => match q e1 with
      | .ok true e2 => match f e2 with
        | .ok y e3 => if acc.length < sizeLine && noOwn e3 vs then lcL vs t q f ds (acc ++ [y]) (wipeE e3 vs) else .stk
        | _ => .stk
      | .ok false e2 => if noOwn e2 vs then lcL vs t q f ds acc (wipeE e2 vs) else .stk
      | _ => .stk
    | none => .stk
def qYes : Env' → Ro Bool := fun e => .ok true e
def eLc (vs : List Nat) (it : Env' → Ro (List D)) (t : Tg) (q : Env' → Ro Bool) (f : Env' → Ro D) : Env' → Ro D := fun env => (it env).bind fun ds e => if noOwn e vs then match lcL vs t q f ds [] (wipeE e vs) with
    | .ok acc e' => if noOwn e' vs then .ok (.lst acc) (backE e e' vs) else .stk
    | _ => .stk
  else .stk
def noW : WX := fun _ _ _ _ => False
end
end Rf

namespace Rf
open PySem L2 LamX

/-! ## list comprehensions -/
abbrev BlkCx (X : Cx) (scope : Scope) (s : Shared) (H : Hp) (C : Addr) (cl : List (Str × Addr)) (fp : List Addr) : Cx := X.blk s H scope (compEnvC scope cl C X.env) fp
theorem Ctx.blk {X : Cx} {k : Nat} (C : Ctx X k) (scope : Scope) (s : Shared) (H : Hp) (cenv : Env) (fp : List Addr) : Ctx (X.blk s H scope cenv fp) k := ⟨C.room, C.gd, C.calm, C.nd⟩
/-- a clause's tests -/
def STs (X : Cx) (T : Tb) (W : WX) (ifs : List Expr) (q : Env' → Ro Bool) : Prop := PTs X ifs (rd (gm X) T isB q W)
theorem PTs.weak {X : Cx} {ifs : List Expr} {t u : TT} (h : PTs X ifs t) (k : ∀ σ H Q, u σ H Q → t σ H Q) : PTs X ifs u := ⟨fun pins s σ H Q I q => h.run pins s σ H Q I (k σ H Q q)⟩
theorem sts_nil {X : Cx} {T : Tb} {W : WX} : STs X T W [] qYes := PTs.weak pts_nil fun σ H Q h => by
  obtain ⟨F, env, S, h⟩ := h
  exact h true H .refl S rfl
theorem sts_one {X : Cx} {T : Tb} {W : WX} {c : Expr} {q : Env' → Ro Bool} (h : SQ X T W c q) : STs X T W [c] q := pts_one h
section
variable {G : Gm} {T : Tb} {F F' : Addr → Prop} {σ σ1 : St} {H H1 H' : Hp} {env e e0 : Env'} {vs : List Nat} {W : WX}
/-- the new list at D by what it holds -/
def Acc (G : Gm) (F : Addr → Prop) (σ : St) (H : Hp) (e : Env') (L : Addr) (acc : List D) : Prop := ∃ avs, H L = some (.lst avs) ∧ IsL G (hid H (Hd (Pl F L) σ e)) acc avs
/-- within the block: from the block's start at H1 to H -/
structure InB (G : Gm) (T : Tb) (F : Addr → Prop) (L : Addr) (σ1 : St) (H1 : Hp) (e1 : Env') (σ : St) (H : Hp) (e : Env') (acc : List D) : Prop where
  st : Sta G T (Pl F L) σ H e
  sp : Stp σ1 H1 e1 σ H e
  ac : Acc G F σ H e L acc
  nn : H1 L = none
  ol : T.old L = none
theorem Stp.nn (s : Stp σ H env σ1 H1 e) {L : Addr} (h : H1 L = none) : H L = none := by
  cases q : H L with
  | none => rfl
  | some o => exact absurd h (s.dom L (by rw [q]; simp))
variable {L : Addr} {σ2 : St} {H2 : Hp} {e1 e2 : Env'} {acc : List D}
theorem InB.step (b : InB G T F L σ1 H1 e1 σ H e acc) (s : Stp σ H e σ2 H2 e2) (S : Sta G T (Pl F L) σ2 H2 e2) : InB G T F L σ1 H1 e1 σ2 H2 e2 acc := by
  obtain ⟨avs, h1, h2⟩ := b.ac
  refine ⟨S, b.sp.trans s, ⟨avs, s.keep L _ h1 (fun ps z => by cases z) fun z => b.st.fr L z (.inr rfl), IsL.mono (s.le (Pl F L)) _ _ h2⟩, b.nn, b.ol⟩
/-- an item more -/
theorem InB.add (b : InB G T F L σ1 H1 e1 σ H e acc) {d : D} {v : V} (i : Is G (hid H (Hd (Pl F L) σ e)) d v) :
    ∃ avs, H L = some (.lst avs) ∧ avs.length = acc.length ∧ InB G T F L σ1 H1 e1 σ (upd H L (.lst (avs ++ [v]))) e (acc ++ [d]) := by
  obtain ⟨avs, h1, h2⟩ := b.ac
  have nOld : ∀ c, T.old c ≠ none → c ≠ L := fun c e z => e (by rw [z]; exact b.ol)
  have nL : ∀ a, a ≠ L → upd H L (.lst (avs ++ [v])) a = H a := fun a z => upd_ne z
  have le : Le (hid H (Hd (Pl F L) σ e)) (hid (upd H L (.lst (avs ++ [v]))) (Hd (Pl F L) σ e)) := Le.hid fun a o h _ k => ⟨k, by
    rw [nL a fun z => k (.inr (.inr z))]
    exact h⟩
  refine ⟨avs, h1, (IsL.length h2).symm, ⟨⟨b.st.len, fun j s q => ?_, b.st.dis, b.st.fr, fun a z => ?_, ?_, b.st.old.to (fun a o e _ h => (nL a (fun z => nOld a (by rw [e]; simp) z)).trans h) (fun a e h => by rw [nL a (nOld a e)]; exact h) fun _ z => .inl z, b.st.vis.trans le⟩, ⟨fun a o h n k => ?_, b.sp.own, fun a h => ?_⟩, ⟨avs ++ [v], upd_same, IsL.mono le _ _ (IsL.append h2 (IsL.one i))⟩, b.nn, b.ol⟩⟩
  · obtain ⟨x, q1, q2⟩ := b.st.sl j s q
    refine ⟨x, q1, q2.mono le fun d' a es ex => nL a fun z => ?_⟩
    subst es ex
    exact b.st.fr a ⟨j, d', q, q1⟩ (.inr z)
  · by_cases z' : a = L
    · rw [z', upd_same]; exact True.intro
    · rw [nL a z']; exact b.st.fd a z
  · refine ⟨fun p hp => ?_, b.st.tab.2⟩
    obtain ⟨ps, q1, q2, q3⟩ := b.st.tab.1 p hp
    refine ⟨ps, by rw [nL _ fun z => by rw [z, h1] at q1; cases q1]; exact q1, q2, fun pos cv hc => ?_⟩
    obtain ⟨c, q4, q5⟩ := q3 pos cv hc
    exact ⟨c, q4, by rw [nL _ fun z => by rw [z, h1] at q5; cases q5]; exact q5⟩
  · rw [nL a fun z => by rw [z, b.nn] at h; cases h]
    exact b.sp.keep a o h n k
  · by_cases z' : a = L
    · rw [z', upd_same]; simp
    · rw [nL a z']; exact b.sp.dom a h
theorem ow_back {e0 : Env'} (h0 : noOwn e0 vs = true) (h1 : noOwn e vs = true) (a : Addr) : Ow σ (backE e0 e vs) a ↔ Ow (L2.wipe σ vs) e a := by
  refine ⟨fun ⟨i, d, a1, a2⟩ => ?_, fun ⟨i, d, a1, a2⟩ => ?_⟩
  · by_cases hi : i ∈ vs
    · have z := backE_own hi _ a1
      rw [List.getD_eq_getElem?_getD] at z
      cases q : e0[i]? with
      | none => rw [q] at z; cases z
      | some s =>
        rw [q] at z
        have z' : Slot.o d = s := z
        exact absurd (by rw [q, ← z']) (noOwn_at h0 hi d)
    · rw [backE_get hi] at a1
      exact ⟨i, d, a1, by rw [wipe_out hi]; exact a2⟩
  · have hi : i ∉ vs := fun z => noOwn_at h1 z d a1
    rw [wipe_out hi] at a2
    exact ⟨i, d, by rw [backE_get hi]; exact a1, a2⟩
/-- behind a turn -/
theorem InB.turn (fr : ∀ i ∈ vs, Fr T i) (b : InB G T F L σ1 H1 e1 σ2 H e acc) (hw : L2.wipe σ2 vs = L2.wipe σ vs) (h : noOwn e vs = true) : InB G T F L σ1 H1 e1 (L2.wipe σ vs) H (wipeE e vs) acc := by
  obtain ⟨S, s⟩ := b.st.rewipe fr hw h
  exact b.step s S
/-- the block's end -/
theorem InB.back {e0 : Env'} (S0 : Sta G T F σ H1 e0) (h0 : noOwn e0 vs = true) (b : InB G T F L (L2.wipe σ vs) H1 (wipeE e0 vs) (L2.wipe σ vs) H e acc) (h1 : noOwn e vs = true) :
    Stp σ H1 e0 σ H (backE e0 e vs) ∧ Sta G T (Pl F L) σ H (backE e0 e vs) ∧ OIs G (hid H (Hd (Pl F L) σ (backE e0 e vs))) H (.lst acc) L := by
  obtain ⟨S, s⟩ := back_ok S0 h0 b.sp b.st h1 fun a z => by
    rcases z with z | z
    · exact .inl z
    · exact .inr (by rw [z]; exact b.nn)
  obtain ⟨avs, h3, h4⟩ := b.ac
  refine ⟨s, S, avs, h3, ?_⟩
  rw [hid_eq (hd_iff (ow_back h0 h1))]
  exact h4
/-- the block's start -/
theorem InB.start (fr : ∀ i ∈ vs, Fr T i) (S : Sta G T F σ H env) (h : noOwn env vs = true) (n : H L = none) : InB G T F L (L2.wipe σ vs) H (wipeE env vs) (L2.wipe σ vs) (upd H L (.lst [])) (wipeE env vs) [] :=
  ⟨(S.wipe fr h).newHid n, (New.upd n).stp, ⟨[], upd_same, rfl⟩, n, S.old.free (.inl n)⟩
end
section
variable {X : Cx} {T : Tb} {W : WX} {k : Nat} {tg iter elt : Expr} {ifs : List Expr} {scope : Scope} {own : List (Str × Nat)} {it : Env' → Ro (List D)} {t : Tg} {q : Env' → Ro Bool} {f : Env' → Ro D} {us : List Nat} {pos : Pos}
theorem wipe_twice {σ : St} {vs : List Nat} : wipe (wipe σ vs) vs = wipe σ vs := (show Only vs σ (wipe σ vs) from ⟨wipe_length σ vs, fun _ h => wipe_out h⟩).wipe fun _ h => h
theorem lc_law {G : Gm} {vs : List Nat} {σ : St} {H : Hp} {Q : VK} (fr : ∀ i ∈ vs, Fr T i) (hu : ∀ i ∈ us, i ∈ vs) (h : rdF G T (eLc vs it t q f) W σ H Q) :
    tLc (rd G T (fun Hs ds J => JIs G Hs J ds) it W) (rdG G T us t) (rd G T isB q noW) (rd G T (isD G) f noW) vs σ H Q := by
  refine rdF_bind h fun F env ds J H1 S1 i1 h1 L nL => ?_
  have i1 : JIs G (hid H1 (Hd F σ env)) J ds := i1
  split at h1
  · rename_i no
    split at h1
    · rename_i acc' e' er
      split at h1
      · rename_i no'
        refine ⟨fun i m H2 => m = ds.length - i ∧ i ≤ ds.length ∧ ∃ e acc, InB G T F L (wipe σ vs) H1 (wipeE env vs) (wipe σ vs) H2 e acc ∧ lcL vs t q f (ds.drop i) acc e = .ok acc' e',
          ⟨ds.length, rfl, Nat.zero_le _, _, [], InB.start fr S1 no nL, er⟩, ?_⟩
        rintro i m H2 ⟨rfl, hi', e, acc, B, er2⟩
        have le : Le (hid H1 (Hd F σ env)) (hid H2 (Hd (Pl F L) (wipe σ vs) e)) := by
          have z : hid H1 (Hd F σ env) = hid H1 (Hd F (wipe σ vs) (wipeE env vs)) := hid_eq (hd_iff fun a => (ow_wipe no).symm)
          rw [z]
          refine Le.hid fun b o e3 n k => ⟨fun y => ?_, B.sp.keep b o e3 n fun y => k (.inl y)⟩
          rcases y with y | y | y
          · exact B.sp.own b (by rw [e3]; simp) (fun y' => k (.inl y')) y
          · exact k (.inr y)
          · rw [y, nL] at e3; cases e3
        by_cases hlt : i < ds.length
        · have hd : ds[i]? = some ds[i] := by simp [hlt]
          rw [List.drop_eq_getElem_cons hlt] at er2
          refine .inr ⟨i1.go i _ H2 hlt le Le.unhid, fun H3 => ∃ e acc, InB G T F L (wipe σ vs) H1 (wipeE env vs) (wipe σ vs) H3 e acc ∧ lcL vs t q f (ds.drop (i + 1)) acc e = .ok acc' e',
            fun H3 ⟨e3, a3, b1, b2⟩ => ⟨ds.length - (i + 1), by omega, rfl, hlt, e3, a3, b1, b2⟩, fun y H3 hy => ?_⟩
          obtain ⟨n, j⟩ := i1.yld i _ _ H2 y H3 hd le Le.unhid hy
          have B3 := B.step n.stp (B.st.new n)
          have iy := j (hid H3 (Hd (Pl F L) (wipe σ vs) e)) (n.le B.st) fun a o h1 h2 => hid_some.mpr ⟨fun z => B.st.hd_there z h1, h2⟩
          simp only [lcL] at er2
          cases et : t ds[i] e with
          | none => rw [et] at er2; cases er2
          | some e1 =>
            rw [et] at er2
            simp only at er2
            refine ⟨Pl F L, e, ds[i], e1, B3.st, iy, et, fun σ3 o3 s3 S3 => ?_⟩
            have hw : wipe σ3 vs = wipe σ vs := (o3.wipe hu).trans wipe_twice
            refine ⟨hw, ?_⟩
            have B4 := B3.step s3 S3
            refine ⟨Pl F L, e1, S3, ?_⟩
            cases eq : q e1 with
            | ok b e2 =>
              rw [eq] at er2
              intro b' H4 s4 S4 hb'
              obtain rfl : b = b' := hb'
              have B5 := B4.step s4 S4
              cases b with
              | false =>
                simp only at er2
                split at er2
                · rename_i no2
                  exact ⟨wipeE e2 vs, acc, InB.turn fr B5 hw no2, er2⟩
                · cases er2
              | true =>
                simp only at er2
                simp only [if_true]
                refine ⟨Pl F L, e2, S4, ?_⟩
                cases ef : f e2 with
                | ok d e3 =>
                  rw [ef] at er2
                  simp only at er2
                  split at er2
                  · rename_i hc
                    obtain ⟨hc1, no2⟩ := Bool.and_eq_true_iff.mp hc
                    have hc1 := of_decide_eq_true hc1
                    intro v H5 s5 S5 iv
                    obtain ⟨avs, a1, a2, B6⟩ := (B5.step s5 S5).add iv
                    exact ⟨avs, a1, by rw [a2]; exact hc1, wipeE e3 vs, acc ++ [d], InB.turn fr B6 hw no2, er2⟩
                  · cases er2
                | exc c p e3 => rw [ef] at er2; cases er2
                | stk => rw [ef] at er2; cases er2
            | exc c p e2 => rw [eq] at er2; cases er2
            | stk => rw [eq] at er2; cases er2
        · have e0 : i = ds.length := by omega
          subst e0
          rw [List.drop_length] at er2
          simp only [lcL] at er2
          cases er2
          obtain ⟨s, S, o⟩ := B.back S1 no no'
          exact .inl ⟨i1.stop _ H2 le Le.unhid, h1 L H2 s S o nL⟩
      · exact h1.elim
    · exact h1.elim
  · exact h1.elim
theorem setO_law {G : Gm} {i : Nat} (fr : Fr T i) {f : Env' → Ro D} {De : Ends} {σ : St} {H : Hp} (h : rdS G T (sSetO i f) W De σ H) : rdF G T f W σ H fun x H1 => De.nx (σ.set i (some x)) H1 := by
  obtain ⟨F, env, S, h⟩ := h
  refine ⟨F, env, S, ?_⟩
  unfold sSetO at h
  cases e : f env with
  | ok d e1 =>
    rw [e] at h
    intro a H' s st o n
    obtain ⟨S', s'⟩ := Sta.setO (i := i) s (.inl n) st o (fun z => S.fn a z n) fr (S.old.free (.inl n))
    exact h _ H' s' S'
  | exc c p e1 =>
    rw [e] at h
    exact fun cls dd H' s st x => h cls dd σ H' s st x
  | stk =>
    rw [e] at h
    exact h
/-- a list comprehension as a value -/
theorem sf_lc (C : Ctx X k) (fr : ∀ i ∈ own.map (·.2), Fr T i) (hi : SI X T W tg iter it) (ok : blkC X.N X.env.scope scope own = true) (hu : ∀ i ∈ us, i ∈ own.map (·.2))
    (hg : ∀ s H C cl fp, SG (BlkCx X scope s H C cl fp) T us tg t) (ht : ∀ s H C cl fp, STs (BlkCx X scope s H C cl fp) T noW ifs q) (he : ∀ s H C cl fp, SE (BlkCx X scope s H C cl fp) T noW elt f)
    (hs : ∀ x, foldedSetIterable iter X.env x = pure x := by intro _; rfl) : SF X T W (.ListComp elt [⟨tg, iter, ifs, 0⟩] scope pos) (eLc (own.map (·.2)) it t q f) :=
  PE.weak (pe_lc (g := rdG (gm X) T us t) (tt := rd (gm X) T isB q noW) (te := rd (gm X) T (isD (gm X)) f noW) C.calm C.nd hi (blkOk_by ok) hg ht he hs) fun σ H Q h => lc_law fr hu h
/-- name = [..] on one line: the new list the slot's own -/
theorem ss_setLc {i : Nat} (fi : Fr T i) {y : Str} {py spos : Pos} (C : Ctx X k) (fr : ∀ i ∈ own.map (·.2), Fr T i) (hi : SI X T W tg iter it) (ok : blkC X.N X.env.scope scope own = true) (hu : ∀ i ∈ us, i ∈ own.map (·.2))
    (hg : ∀ s H C cl fp, SG (BlkCx X scope s H C cl fp) T us tg t) (ht : ∀ s H C cl fp, STs (BlkCx X scope s H C cl fp) T noW ifs q) (he : ∀ s H C cl fp, SE (BlkCx X scope s H C cl fp) T noW elt f)
    (hy : X.N[i]? = some y) (hyl : X.env.scope.names.lookup y = some .local) (hsw : swapsWith (.ListComp elt [⟨tg, iter, ifs, 0⟩] scope pos) (some (.Name y py)) spos.line X.env = pure true)
    (hs : ∀ x, foldedSetIterable iter X.env x = pure x := by intro _; rfl) : SS X T W (.Assign [.Name y py] (.ListComp elt [⟨tg, iter, ifs, 0⟩] scope pos) spos) (sSetO i (eLc (own.map (·.2)) it t q f)) :=
  PS.weak (ps_setLc (g := rdG (gm X) T us t) (tt := rd (gm X) T isB q noW) (te := rd (gm X) T (isD (gm X)) f noW) C.calm C.nd hy hyl hsw hi (blkOk_by ok) hg ht he hs) fun De σ H h => lc_law fr hu (setO_law fi h)
end
end Rf

namespace Rf
open PySem L2 LamX

/-! ## defs -/
/-- a def's promise where no other text is shown around -/
structure FnG (P : Program) (w : World) (K : PySem.W.Frag) (mg : Str → Option Value) (base : Heap) (k : Nat) (f : Addr) (fd : FuncData) (ps : List Str) (sp : Sp) : Prop where
  len : ∀ vs H Q E, sp vs H Q E → vs.length = ps.length
  go : ∀ (A : Around) (outer : List Env) (s : Shared) (H : Hp) (args : Args) (us : List Value) (vs : List V) (Q : VK) (E : XK), Room k A → A.guards = some [] → Env0 P w K mg base A outer s H → BindsTo s fd args (ps.zip us) → Vals vs us → sp vs H Q E →
    codeAny (model P w) A (.call (.ref f) args) (CR (L2.CX P w) outer P w H s Q E) s
/-- what a def makes of its arguments, and of those that it may write to -/
abbrev Fm := Env' → Ro D
def ownS : Slot → Bool
  | .o _ => true
  | _ => false
def isNo : Slot → Bool
  | .no => true
  | _ => false
/-- the parameters' slots behind the call -/
def outs : Env' → Env' → Env'
  | .o _ :: as, s :: e => s :: outs as e
  | _ :: as, _ :: e => .no :: outs as e
  | _, _ => []
/-- what was owned is owned -/
def outOk : Env' → Env' → Bool
  | .o _ :: as, s :: e => ownS s && outOk as e
  | _ :: as, _ :: e => outOk as e
  | [], _ => true
  | _ :: _, [] => false
def outR (args e : Env') (d : D) : Ro D := if outOk args e then .ok d (outs args e) else .stk
/-- md: which parameters it may write to; n: how many names -/
def runM (md : List Bool) (n : Nat) (b : Env' → So) : Fm := fun args => if args.map ownS = md ∧ args.all (fun s => !isNo s) = true then
    match b (args ++ List.replicate (n - args.length) .no) with
    | .nx e => outR args e .non
    | .ret d e => outR args e d
    | .retF d e => outR args e d
    | .exc c p e => if outOk args e then .exc c p (outs args e) else .stk
    | _ => .stk
  else .stk
/-- .. each of its ends hands on a new object -/
def runF (md : List Bool) (n : Nat) (b : Env' → So) : Fm := fun args => if args.map ownS = md ∧ args.all (fun s => !isNo s) = true then
    match b (args ++ List.replicate (n - args.length) .no) with
    | .retF d e => outR args e d
    | .exc c p e => if outOk args e then .exc c p (outs args e) else .stk
    | _ => .stk
  else .stk
theorem Le.nil {H : Hp} : Le (fun _ => none) H := fun _ _ e _ => nomatch e
def tbP (T : Tb) (l : List (Nat × Addr)) : Tb := ⟨T.tabs, l, fun _ => none, fun _ => none⟩
abbrev tb0 (T : Tb) : Tb := tbP T []
abbrev WofE (E : XK) : WX := fun cls d _ H => E cls d H
def spM (G : Gm) (T : Tb) (m : Fm) : Sp := fun vs H Q E => ∃ (F : Addr → Prop) (args : Env'), Sta G (tb0 T) F (vs.map some) H args ∧ Rst G (tb0 T) (isD G) F (vs.map some) H args (WofE E) Q (m args)
def spF (G : Gm) (T : Tb) (m : Fm) : Sp := fun vs H Q E => ∃ (F : Addr → Prop) (args : Env'), Sta G (tb0 T) F (vs.map some) H args ∧ RstF G (tb0 T) F (vs.map some) H args (WofE E) Q (m args)
/-- the slots that stay: the parameters that are written to -/
def pinsOf : Nat → Env' → List V → List (Nat × Addr)
  | i, .o _ :: as, .ref a :: vs => (i, a) :: pinsOf (i + 1) as vs
  | i, _ :: as, _ :: vs => pinsOf (i + 1) as vs
  | _, _, _ => []
theorem pins_in {p : Nat × Addr} : ∀ {i : Nat} {as : Env'} {vs : List V}, p ∈ pinsOf i as vs → i ≤ p.1 ∧ ∃ d, as[p.1 - i]? = some (.o d) ∧ vs[p.1 - i]? = some (.ref p.2)
  | i, [], vs, h => by unfold pinsOf at h; cases h
  | i, s :: as, [], h => by
    cases s <;> simp [pinsOf] at h
  | i, s :: as, v :: vs, h => by
    have tl : p ∈ pinsOf (i + 1) as vs → i ≤ p.1 ∧ ∃ d, (s :: as)[p.1 - i]? = some (.o d) ∧ (v :: vs)[p.1 - i]? = some (.ref p.2) := fun h => by
      obtain ⟨h1, d, h2, h3⟩ := pins_in h
      have e : p.1 - i = (p.1 - (i + 1)) + 1 := by omega
      exact ⟨by omega, d, by rw [e, List.getElem?_cons_succ]; exact h2, by rw [e, List.getElem?_cons_succ]; exact h3⟩
    unfold pinsOf at h
    split at h
    · rename_i e1 e2
      cases e1
      cases e2
      rcases List.mem_cons.mp h with h | h
      · rw [h]
        exact ⟨Nat.le_refl _, by simp⟩
      · exact tl h
    · rename_i e1 e2
      cases e1
      cases e2
      exact tl h
    · cases h
theorem pins_all {d : D} {a : Addr} : ∀ {i j : Nat} {as : Env'} {vs : List V}, as[j]? = some (.o d) → vs[j]? = some (.ref a) → (i + j, a) ∈ pinsOf i as vs
  | i, j, [], vs, h, _ => by simp at h
  | i, j, s :: as, [], _, h => by simp at h
  | i, 0, s :: as, v :: vs, h, h2 => by
    simp at h h2
    subst h h2
    unfold pinsOf
    exact List.mem_cons_self
  | i, j + 1, s :: as, v :: vs, h, h2 => by
    have q := pins_all (i := i + 1) (j := j) (as := as) (vs := vs) (by simpa using h) (by simpa using h2)
    have e : i + 1 + j = i + (j + 1) := by omega
    rw [e] at q
    unfold pinsOf
    split
    · rename_i e1 e2
      cases e1
      cases e2
      exact List.mem_cons_of_mem _ q
    · rename_i e1 e2
      cases e1
      cases e2
      exact q
    · rename_i e1 e2 z
      exact (z _ _ _ _ rfl rfl).elim
theorem ownS_some {s : Slot} (h : ownS s = true) : ∃ d, s = .o d := by
  cases s with
  | o d => exact ⟨d, rfl⟩
  | v d => cases h
  | no => cases h
theorem outs_len : ∀ {as e : Env'}, outOk as e = true → (outs as e).length = as.length
  | [], e, _ => by unfold outs; rfl
  | s :: as, [], h => by
    cases s <;> simp [outOk] at h
  | s :: as, x :: e, h => by
    cases s with
    | o d =>
      simp only [outOk, Bool.and_eq_true] at h
      simp only [outs, List.length_cons, outs_len h.2]
    | v d =>
      simp only [outOk] at h
      simp only [outs, List.length_cons, outs_len h]
    | no =>
      simp only [outOk] at h
      simp only [outs, List.length_cons, outs_len h]
theorem outs_get {s : Slot} : ∀ {as e : Env'} {i : Nat}, (outs as e)[i]? = some s → s = .no ∨ (∃ d, as[i]? = some (.o d)) ∧ e[i]? = some s
  | [], e, i, h => by unfold outs at h; simp at h
  | a :: as, [], i, h => by
    cases a <;> simp [outs] at h
  | a :: as, x :: e, 0, h => by
    cases a with
    | o d =>
      simp only [outs, List.getElem?_cons_zero, Option.some.injEq] at h
      exact .inr ⟨⟨d, rfl⟩, by simp [h]⟩
    | v d =>
      simp only [outs, List.getElem?_cons_zero, Option.some.injEq] at h
      exact .inl h.symm
    | no =>
      simp only [outs, List.getElem?_cons_zero, Option.some.injEq] at h
      exact .inl h.symm
  | a :: as, x :: e, i + 1, h => by
    have h' : (outs as e)[i]? = some s := by
      cases a <;> simpa [outs] using h
    rcases outs_get h' with q | ⟨⟨d, q1⟩, q2⟩
    · exact .inl q
    · exact .inr ⟨⟨d, by simpa using q1⟩, by simpa using q2⟩
theorem outOk_get {d : D} : ∀ {as e : Env'} {i : Nat}, outOk as e = true → as[i]? = some (.o d) → ∃ d', e[i]? = some (.o d') ∧ (outs as e)[i]? = some (.o d')
  | [], e, i, _, h => by simp at h
  | a :: as, [], i, h, _ => by
    cases a <;> simp [outOk] at h
  | a :: as, x :: e, 0, h, k => by
    simp at k
    subst k
    simp only [outOk, Bool.and_eq_true] at h
    obtain ⟨d', q⟩ := ownS_some h.1
    exact ⟨d', by simp [q], by simp [outs, q]⟩
  | a :: as, x :: e, i + 1, h, k => by
    have h' : outOk as e = true := by
      cases a <;> simp only [outOk, Bool.and_eq_true] at h <;> first | exact h.2 | exact h
    obtain ⟨d', q1, q2⟩ := outOk_get (i := i) h' (by simpa using k)
    refine ⟨d', by simpa using q1, ?_⟩
    cases a <;> simpa [outs] using q2

section
variable {G : Gm} {T : Tb} {F F' : Addr → Prop} {σ' : St} {H H' : Hp} {args e : Env'} {N : List Str} {vs : List V}
theorem start_get (hl : vs.length ≤ N.length) {i : Nat} {x : V} (h : vs[i]? = some x) : (L2.start N vs)[i]? = some (some x) := by
  have hi := (List.getElem?_eq_some_iff.mp h).1
  unfold L2.start
  rw [List.getElem?_append_left (by simpa using hi), List.getElem?_map, h]
  rfl
theorem env0_get {n i : Nat} {s : Slot} (h : (args ++ List.replicate n Slot.no)[i]? = some s) : args[i]? = some s ∨ s = .no := by
  by_cases hi : i < args.length
  · rw [List.getElem?_append_left hi] at h
    exact .inl h
  · rw [List.getElem?_append_right (Nat.le_of_not_lt hi), List.getElem?_replicate] at h
    split at h
    · exact .inr (Option.some.inj h).symm
    · cases h
theorem map_get {i : Nat} {x : Option V} (h : (vs.map some)[i]? = some x) : ∃ v, vs[i]? = some v ∧ x = some v := by
  rw [List.getElem?_map] at h
  cases q : vs[i]? with
  | none => rw [q] at h; cases h
  | some v => rw [q] at h; exact ⟨v, rfl, (Option.some.inj h).symm⟩
theorem ow_start (hl : vs.length ≤ N.length) (ha : args.length = vs.length) {n : Nat} (a : Addr) : Ow (L2.start N vs) (args ++ List.replicate n .no) a ↔ Ow (vs.map some) args a := by
  refine ⟨fun ⟨i, d, h1, h2⟩ => ?_, fun ⟨i, d, h1, h2⟩ => ?_⟩
  · rcases env0_get h1 with h1 | h1
    · refine ⟨i, d, h1, ?_⟩
      have hi : i < vs.length := by rw [← ha]; exact (List.getElem?_eq_some_iff.mp h1).1
      unfold L2.start at h2
      rw [List.getElem?_append_left (by simpa using hi)] at h2
      exact h2
    · cases h1
  · have hi := (List.getElem?_eq_some_iff.mp h1).1
    refine ⟨i, d, by rw [List.getElem?_append_left hi]; exact h1, ?_⟩
    unfold L2.start
    rw [List.getElem?_append_left (by simpa [← ha] using hi)]
    exact h2
/-- the body's L2.start -/
theorem sta_start (S : Sta G (tb0 T) F (vs.map some) H args) (hl : vs.length ≤ N.length) : Sta G (tbP T (pinsOf 0 args vs)) F (L2.start N vs) H (args ++ List.replicate (N.length - args.length) .no) := by
  have ha : args.length = vs.length := by rw [S.len, List.length_map]
  have hw := fun a => ow_start (N := N) (n := N.length - args.length) hl ha a
  refine ⟨?_, fun i s hs => ?_, fun i j d d' a h1 h2 h3 h4 => ?_, fun a z => S.fr a ((hw a).mp z), S.fd, ⟨S.tab.1, fun p hp => ?_⟩, .nil rfl, Le.nil⟩
  · unfold L2.start
    rw [List.length_append, List.length_append, List.length_replicate, List.length_replicate, List.length_map, ha]
  · rw [hid_eq (hd_iff hw)]
    by_cases hi : i < args.length
    · rw [List.getElem?_append_left hi] at hs
      obtain ⟨x, e1, e2⟩ := S.sl i s hs
      obtain ⟨v, e3, e4⟩ := map_get e1
      exact ⟨x, by rw [e4]; exact start_get hl e3, e2⟩
    · have hlen := (List.getElem?_eq_some_iff.mp hs).1
      rcases env0_get hs with q | q
      · exact absurd (List.getElem?_eq_some_iff.mp q).1 hi
      · subst q
        rw [List.length_append, List.length_replicate] at hlen
        refine ⟨none, ?_, trivial⟩
        unfold L2.start
        rw [List.getElem?_append_right (by rw [List.length_map]; omega), List.getElem?_replicate, if_pos (by rw [List.length_map]; omega)]
  · have key : ∀ {i : Nat} {d : D} {a : Addr}, (args ++ List.replicate (N.length - args.length) Slot.no)[i]? = some (.o d) → (L2.start N vs)[i]? = some (some (.ref a)) → args[i]? = some (.o d) ∧ (vs.map some)[i]? = some (some (.ref a)) := fun {i d a} q1 q2 => by
      rcases env0_get q1 with q | q
      · have hi : i < vs.length := by rw [← ha]; exact (List.getElem?_eq_some_iff.mp q).1
        unfold L2.start at q2
        rw [List.getElem?_append_left (by simpa using hi)] at q2
        exact ⟨q, q2⟩
      · cases q
    obtain ⟨k1, k3⟩ := key h1 h3
    obtain ⟨k2, k4⟩ := key h2 h4
    exact S.dis i j d d' a k1 k2 k3 k4
  · obtain ⟨_, d, h2, h3⟩ := pins_in hp
    exact start_get hl h3
/-- the body's end -/
theorem sta_end (S : Sta G (tb0 T) F (vs.map some) H args) (hl : vs.length ≤ N.length) (s : Stp (L2.start N vs) H (args ++ List.replicate (N.length - args.length) .no) σ' H' e) (S' : Sta G (tbP T (pinsOf 0 args vs)) F' σ' H' e) (hF : ∀ a, F' a → F a ∨ H a = none) (ok : outOk args e = true) :
    Stp (vs.map some) H args (vs.map some) H' (outs args e) ∧ Sta G (tb0 T) F' (vs.map some) H' (outs args e) ∧ Le (hid H' (Hd F' σ' e)) (hid H' (Hd F' (vs.map some) (outs args e))) ∧ ∀ a, Ow (vs.map some) args a → Ow σ' e a := by
  have ha : args.length = vs.length := by rw [S.len, List.length_map]
  have hw := fun a => ow_start (N := N) (n := N.length - args.length) hl ha a
  have at' : ∀ {i : Nat} {d : D} {a : Addr}, args[i]? = some (.o d) → vs[i]? = some (.ref a) → σ'[i]? = some (some (.ref a)) := fun {i d a} h1 h2 => by
    have q := S'.tab.2 (0 + i, a) (pins_all h1 h2)
    simpa using q
  have sub : ∀ a, Ow (vs.map some) (outs args e) a → Ow σ' e a := fun a ⟨i, d, h1, h2⟩ => by
    rcases outs_get h1 with q | ⟨⟨d', q1⟩, q2⟩
    · cases q
    · obtain ⟨v, e1, e2⟩ := map_get h2
      cases e2
      exact ⟨i, d, q2, at' q1 e1⟩
  have le : Le (hid H' (Hd F' σ' e)) (hid H' (Hd F' (vs.map some) (outs args e))) := Le.hid fun b o e n k => ⟨fun z => k (by
    rcases z with z | z
    · exact .inl (sub b z)
    · exact .inr z), e⟩
  refine ⟨⟨fun a o e1 n k => s.keep a o e1 n fun z => k ((hw a).mp z), fun a q k z => s.own a q (fun y => k ((hw a).mp y)) (sub a z), s.dom⟩, ⟨by rw [outs_len ok, S.len], fun i sl hs => ?_, fun i j d d' a h1 h2 h3 h4 => ?_, fun a z => S'.fr a (sub a z), S'.fd, ⟨S'.tab.1, fun p hp => ?_⟩, .nil rfl, Le.nil⟩, le, fun a ⟨i, d, h1, h2⟩ => ?_⟩
  · have hi : i < args.length := by
      have := (List.getElem?_eq_some_iff.mp hs).1
      rw [outs_len ok] at this
      exact this
    have hv : i < vs.length := by rw [← ha]; exact hi
    rcases outs_get hs with q | ⟨⟨d', q1⟩, q2⟩
    · subst q
      exact ⟨some vs[i], by simp [hv], trivial⟩
    · obtain ⟨x, e1, e2⟩ := S.sl i _ q1
      obtain ⟨a, rfl, _⟩ := e2
      obtain ⟨v, e3, e4⟩ := map_get e1
      cases e4
      obtain ⟨x', e5, e6⟩ := S'.sl i _ q2
      rw [at' q1 e3] at e5
      cases e5
      refine ⟨_, e1, e6.mono le fun _ _ _ _ => rfl⟩
  · have key : ∀ {i : Nat} {d : D} {a : Addr}, (outs args e)[i]? = some (.o d) → (vs.map some)[i]? = some (some (.ref a)) → e[i]? = some (.o d) ∧ σ'[i]? = some (some (.ref a)) := fun {i d a} q1 q2 => by
      rcases outs_get q1 with q | ⟨⟨d', q1⟩, q3⟩
      · cases q
      · obtain ⟨v, e1, e2⟩ := map_get q2
        cases e2
        exact ⟨q3, at' q1 e1⟩
    obtain ⟨k1, k3⟩ := key h1 h3
    obtain ⟨k2, k4⟩ := key h2 h4
    exact S'.dis i j d d' a k1 k2 k3 k4
  · cases hp
  · obtain ⟨d', q1, q2⟩ := outOk_get ok h1
    obtain ⟨v, e1, e2⟩ := map_get h2
    cases e2
    exact ⟨i, d', q1, at' h1 e1⟩
end
end Rf

namespace Rf
open PySem L2 LamX

/-- what a frame must give -/
structure Fra (X : Cx) (k : Nat) (W : WX) : Prop where
  C : Ctx X k
  tk : Takes X W
  po : PassesOwn (model X.prog X.w) X.A X.env X.xe
def PinMd (T : Tb) (md : List Bool) : Prop := ∀ p ∈ T.pins, md[p.1]? = some true
theorem fr_of {T : Tb} {md : List Bool} (h : PinMd T md) {i : Nat} (hi : md.getD i false = false := by rfl) : Fr T i := fun p hp e => by
  have q := h p hp
  rw [e] at q
  rw [List.getD_eq_getElem?_getD, q] at hi
  cases hi
theorem frs_of {T : Tb} {md : List Bool} (h : PinMd T md) {vs : List Nat} (hi : vs.all (fun i => !md.getD i false) = true := by rfl) : ∀ i ∈ vs, Fr T i := fun i hv => fr_of h (by simpa using List.all_eq_true.mp hi i hv)
abbrev Bcx (P : Program) (w : World) (K : PySem.W.Frag) (mg : Str → Option Value) (base : Heap) (N : List Str) (qual : Str) (st : Stmt) (f : Addr) (cdv : Value) (A : Around) (outer : List Env) (s : Shared) (H : Hp) (E : XK) : Cx :=
  cxOf (L2.CX P w) P w K mg base N qual (defScope st) f cdv A outer s H E
section
variable {P : Program} {w : World} {K : PySem.W.Frag} {mg : Str → Option Value} {base : Heap} {x qual : Str} {st : Stmt} {f : Addr} {fd : FuncData} {N ps : List Str} {k : Nat} {md : List Bool} {b : Env' → So} {T : Tb}
theorem fra_of {cdv : Value} {A : Around} {outer : List Env} {s : Shared} {H : Hp} {E : XK} (r : Room k (A.deeper (PyProof.Rows.envOfC qual (defScope st) s.heap.objs.size f cdv))) (g : A.guards = some []) (nd : N.Nodup) : Fra (Bcx P w K mg base N qual st f cdv A outer s H E) k (WofE E) :=
  ⟨⟨r, g, rfl, nd⟩, takes_of rfl rfl rfl rfl, passes_of rfl⟩
/-- the code object of a def of the text -/
def codeAt (K : PySem.W.Frag) (f : Addr) : Option Value := match K.lookup f with
  | some ⟨_, _, .func fd, _⟩ => some fd.code
  | _ => none
/-- a def's body, in each frame of it -/
def Body (P : Program) (w : World) (K : PySem.W.Frag) (mg : Str → Option Value) (base : Heap) (k : Nat) (qual : Str) (st : Stmt) (f : Addr) (N : List Str) (md : List Bool) (T : Tb) (b : Env' → So) : Prop :=
  ∀ (cdv : Value) (A : Around) (outer : List Env) (s : Shared) (H : Hp) (E : XK) (pins : List (Nat × Addr)), codeAt K f = some cdv → Fra (Bcx P w K mg base N qual st f cdv A outer s H E) k (WofE E) → PinMd (tbP T pins) md →
    SB (Bcx P w K mg base N qual st f cdv A outer s H E) (tbP T pins) (WofE E) (defBody st) b
theorem pin_md {args : Env'} {vs : List V} (h : args.map ownS = md) (T : Tb) : PinMd (tbP T (pinsOf 0 args vs)) md := fun p hp => by
  obtain ⟨_, d, h2, _⟩ := pins_in hp
  rw [← h, List.getElem?_map]
  rw [show p.1 - 0 = p.1 from rfl] at h2
  rw [h2]
  rfl
theorem outR_ok {args e a : Env'} {d d' : D} (h : outR args e d = .ok d' a) : outOk args e = true ∧ d' = d ∧ a = outs args e := by
  unfold outR at h
  split at h
  · rename_i q
    cases h
    exact ⟨q, rfl, rfl⟩
  · cases h
theorem fn_ends {vs : List V} {H : Hp} {Q : VK} {E : XK} {args : Env'} {F : Addr → Prop} (S : Sta ⟨K, mg⟩ (tb0 T) F (vs.map some) H args) (hl : vs.length ≤ N.length)
    (h : Rst ⟨K, mg⟩ (tb0 T) (isD ⟨K, mg⟩) F (vs.map some) H args (WofE E) Q (runM md N.length b args)) :
    args.map ownS = md ∧ RstS ⟨K, mg⟩ (tbP T (pinsOf 0 args vs)) F (L2.start N vs) H (args ++ List.replicate (N.length - args.length) .no) (WofE E) { nx := fun _ H' => Q .non H', rt := Q } (b (args ++ List.replicate (N.length - args.length) .no)) := by
  have S0 := sta_start S hl
  have hwS := fun a => ow_start (N := N) (n := N.length - args.length) hl (show args.length = vs.length by rw [S.len, List.length_map]) a
  unfold runM at h
  split at h
  · rename_i hm
    refine ⟨hm.1, ?_⟩
    cases hb : b (args ++ List.replicate (N.length - args.length) .no) with
    | nx e =>
      rw [hb] at h
      simp only [outR] at h
      split at h
      · rename_i ok
        intro σ' H' s S'
        obtain ⟨s1, S1, le, _⟩ := sta_end S hl s S' (fun _ z => .inl z) ok
        exact h .non H' s1 S1 rfl
      · exact h.elim
    | ret d e =>
      rw [hb] at h
      simp only [outR] at h
      split at h
      · rename_i ok
        intro v σ' H' s S' i
        obtain ⟨s1, S1, le, _⟩ := sta_end S hl s S' (fun _ z => .inl z) ok
        exact h v H' s1 S1 (Is.mono le _ _ i)
      · exact h.elim
    | retF d e =>
      rw [hb] at h
      simp only [outR] at h
      split at h
      · rename_i ok
        intro a σ' H' s S' o n
        have nF : ¬ F a := fun z => by
          rcases n with n | n
          · exact S0.fn a z n
          · exact S0.fr a n z
        obtain ⟨s1, S1, le, _⟩ := sta_end S hl s S'.open (fun _ z => .inl z) ok
        exact h (.ref a) H' s1 S1 (Is.mono le _ _ (OIs.open (H0 := H) o S' nF))
      · exact h.elim
    | exc c p e =>
      rw [hb] at h
      simp only at h
      split at h
      · rename_i ok
        intro cls dd σ' H' s S' i
        obtain ⟨s1, S1, le, _⟩ := sta_end S hl s S' (fun _ z => .inl z) ok
        refine h cls dd H' s1 S1 ?_
        obtain ⟨C, e1, e2, e3⟩ := i
        refine ⟨C, e1, e2, ?_⟩
        split at e3
        · exact e3
        · rename_i fld d
          obtain ⟨x, v, h1, h2, h3⟩ := e3
          exact ⟨x, v, h1, h2, Is.mono le _ _ h3⟩
      · exact h.elim
    | bk e => rw [hb] at h; exact h.elim
    | ct e => rw [hb] at h; exact h.elim
    | stk => rw [hb] at h; exact h.elim
  · exact h.elim
theorem fn_endsF {vs : List V} {H : Hp} {Q : VK} {E : XK} {args : Env'} {F : Addr → Prop} (S : Sta ⟨K, mg⟩ (tb0 T) F (vs.map some) H args) (hl : vs.length ≤ N.length)
    (h : RstF ⟨K, mg⟩ (tb0 T) F (vs.map some) H args (WofE E) Q (runF md N.length b args)) :
    args.map ownS = md ∧ RstS ⟨K, mg⟩ (tbP T (pinsOf 0 args vs)) F (L2.start N vs) H (args ++ List.replicate (N.length - args.length) .no) (WofE E) { nx := fun _ H' => Q .non H', rt := Q } (b (args ++ List.replicate (N.length - args.length) .no)) := by
  have S0 := sta_start S hl
  have hwS := fun a => ow_start (N := N) (n := N.length - args.length) hl (show args.length = vs.length by rw [S.len, List.length_map]) a
  unfold runF at h
  split at h
  · rename_i hm
    refine ⟨hm.1, ?_⟩
    cases hb : b (args ++ List.replicate (N.length - args.length) .no) with
    | retF d e =>
      rw [hb] at h
      simp only [outR] at h
      split at h
      · rename_i ok
        intro a σ' H' s S' o n
        have key : Ow (vs.map some) args a → Ow σ' e a := fun ⟨i, d, h1, h2⟩ => by
          obtain ⟨d', q1, q2⟩ := outOk_get ok h1
          obtain ⟨v, e1, e2⟩ := map_get h2
          cases e2
          have q := S'.tab.2 (0 + i, a) (pins_all h1 e1)
          exact ⟨i, d', q1, by simpa using q⟩
        have nw : H a = none := by
          rcases n with n | n
          · exact n
          · exact absurd (.inr rfl) (S'.fr a (key ((hwS a).mp n)))
        obtain ⟨s1, S1, le, _⟩ := sta_end S hl s S' (fun b z => by
          rcases z with z | z
          · exact .inl z
          · exact .inr (by rw [z]; exact nw)) ok
        exact h a H' s1 S1 (o.mono le rfl) nw
      · exact h.elim
    | exc c p e =>
      rw [hb] at h
      simp only at h
      split at h
      · rename_i ok
        intro cls dd σ' H' s S' i
        obtain ⟨s1, S1, le, _⟩ := sta_end S hl s S' (fun _ z => .inl z) ok
        refine h cls dd H' s1 S1 ?_
        obtain ⟨C, e1, e2, e3⟩ := i
        refine ⟨C, e1, e2, ?_⟩
        split at e3
        · exact e3
        · rename_i fld d
          obtain ⟨x, v, h1, h2, h3⟩ := e3
          exact ⟨x, v, h1, h2, Is.mono le _ _ h3⟩
      · exact h.elim
    | nx e => rw [hb] at h; exact h.elim
    | ret d e => rw [hb] at h; exact h.elim
    | bk e => rw [hb] at h; exact h.elim
    | ct e => rw [hb] at h; exact h.elim
    | stk => rw [hb] at h; exact h.elim
  · exact h.elim
theorem sp_len {m : Fm} (hm : ∀ args, args.map ownS = md ∨ m args = .stk) (hmd : md.length = ps.length) : ∀ vs H Q E, spM ⟨K, mg⟩ T m vs H Q E → vs.length = ps.length := fun vs H Q E ⟨F, args, S, h⟩ => by
  rcases hm args with e | e
  · have l := S.len
    rw [List.length_map] at l
    rw [← l, ← hmd, ← e, List.length_map]
  · rw [e] at h
    exact h.elim
theorem spF_len {m : Fm} (hm : ∀ args, args.map ownS = md ∨ m args = .stk) (hmd : md.length = ps.length) : ∀ vs H Q E, spF ⟨K, mg⟩ T m vs H Q E → vs.length = ps.length := fun vs H Q E ⟨F, args, S, h⟩ => by
  rcases hm args with e | e
  · have l := S.len
    rw [List.length_map] at l
    rw [← l, ← hmd, ← e, List.length_map]
  · rw [e] at h
    exact h.elim
theorem runM_md (args : Env') : args.map ownS = md ∨ runM md N.length b args = .stk := by
  by_cases h : args.map ownS = md
  · exact .inl h
  · right
    unfold runM
    rw [if_neg fun z => h z.1]
theorem runF_md (args : Env') : args.map ownS = md ∨ runF md N.length b args = .stk := by
  by_cases h : args.map ownS = md
  · exact .inl h
  · right
    unfold runF
    rw [if_neg fun z => h z.1]
theorem pre_le (S : FnScope N ps (defScope st)) : ps.length ≤ N.length := by
  have := congrArg List.length S.pre
  rw [List.length_take] at this
  omega
/-- a def by its body -/
theorem fnG_of (Fu : L2.Fun K x qual st f fd) (S : FnScope N ps (defScope st)) (hmd : md.length = ps.length) (hb : Body P w K mg base k qual st f N md T b) : FnG P w K mg base (k + 1) f fd ps (spM ⟨K, mg⟩ T (runM md N.length b)) := by
  have hlen := sp_len (K := K) (mg := mg) (T := T) (ps := ps) (runM_md (md := md) (N := N) (b := b)) hmd
  refine ⟨hlen, fun A outer s H args us vs Q E hr hg e0 hbd r hsp => ?_⟩
  obtain ⟨oc, od, kV, doc, pm, an, cdv, ct, osl, rfl, lk, hcd⟩ := Fu.ex
  have hl := hlen _ _ _ _ hsp
  obtain ⟨F, as, S1, h1⟩ := hsp
  obtain ⟨hm, h2⟩ := fn_ends (N := N) S1 (by rw [hl]; exact pre_le S) h1
  exact run_ofS lk hcd S hr e0 hbd r hl fun hr' => ⟨_, hb cdv A outer s H E _ (by unfold codeAt; rw [lk] <;> rfl) (fra_of hr' hg S.nd) (pin_md hm _), F, _, sta_start S1 (by rw [hl]; exact pre_le S), h2⟩
theorem fnF_of (Fu : L2.Fun K x qual st f fd) (S : FnScope N ps (defScope st)) (hmd : md.length = ps.length) (hb : Body P w K mg base k qual st f N md T b) : FnG P w K mg base (k + 1) f fd ps (spF ⟨K, mg⟩ T (runF md N.length b)) := by
  have hlen := spF_len (K := K) (mg := mg) (T := T) (ps := ps) (runF_md (md := md) (N := N) (b := b)) hmd
  refine ⟨hlen, fun A outer s H args us vs Q E hr hg e0 hbd r hsp => ?_⟩
  obtain ⟨oc, od, kV, doc, pm, an, cdv, ct, osl, rfl, lk, hcd⟩ := Fu.ex
  have hl := hlen _ _ _ _ hsp
  obtain ⟨F, as, S1, h1⟩ := hsp
  obtain ⟨hm, h2⟩ := fn_endsF (N := N) S1 (by rw [hl]; exact pre_le S) h1
  exact run_ofS lk hcd S hr e0 hbd r hl fun hr' => ⟨_, hb cdv A outer s H E _ (by unfold codeAt; rw [lk] <;> rfl) (fra_of hr' hg S.nd) (pin_md hm _), F, _, sta_start S1 (by rw [hl]; exact pre_le S), h2⟩
theorem FnG.mono {sp : Sp} {j : Nat} (Fn : FnG P w K mg base j f fd ps sp) (h : j ≤ k) : FnG P w K mg base k f fd ps sp := ⟨Fn.len, fun A outer s H args us vs Q E r => Fn.go A outer s H args us vs Q E (r.mono h)⟩
end
end Rf

namespace Rf
open PySem L2 LamX

/-! ## arguments of own defs: shared data, or a slot's own list that the def may write to -/
inductive Arg where
  | v (d : D) | o (i : Nat)
def ArL (G : Gm) (σ : St) (Hs : Hp) : List Arg → List V → Prop
  | [], vs => vs = []
  | .v d :: as, vs => ∃ v r, vs = v :: r ∧ Is G Hs d v ∧ ArL G σ Hs as r
  | .o i :: as, vs => ∃ a r, vs = .ref a :: r ∧ σ[i]? = some (some (.ref a)) ∧ ArL G σ Hs as r
def rdA (G : Gm) (T : Tb) (f : Env' → Ro (List Arg)) (W : WX) : TA := fun σ H Q => rd G T (fun Hs as vs => ArL G σ Hs as vs) f W σ H Q
def SR (X : Cx) (T : Tb) (W : WX) (es : List Expr) (f : Env' → Ro (List Arg)) : Prop := PA X es (rdA (gm X) T f W)
def rNil : Env' → Ro (List Arg) := fun env => .ok [] env
def rV (f : Env' → Ro D) (r : Env' → Ro (List Arg)) : Env' → Ro (List Arg) := fun env => (f env).bind fun d e => (r e).bind fun as e => .ok (.v d :: as) e
def rO (i : Nat) (r : Env' → Ro (List Arg)) : Env' → Ro (List Arg) := fun env => if ownS (env.getD i .no) then (r env).bind fun as e => .ok (.o i :: as) e else .stk
theorem getD_own {e : Env'} {i : Nat} (h : ownS (e.getD i .no) = true) : ∃ d, e[i]? = some (.o d) := by
  obtain ⟨d, q⟩ := ownS_some h
  rw [List.getD_eq_getElem?_getD] at q
  cases z : e[i]? with
  | none => rw [z] at q; cases q
  | some s =>
    rw [z] at q
    have q : s = .o d := q
    exact ⟨d, by rw [q]⟩
section
variable {X : Cx} {T : Tb} {W : WX} {k : Nat} {a : Expr} {es : List Expr} {f : Env' → Ro D} {r : Env' → Ro (List Arg)} {x : Str} {p pos : Pos}
theorem sr_nil : SR X T W [] rNil := PA.weak pa_nil fun σ H Q h => by
  obtain ⟨F, env, S, h⟩ := h
  exact h [] H .refl S rfl
theorem sr_v (ha : SE X T W a f) (hr : SR X T W es r) (hs : starEach (a :: es) X.env = (false, eval a X.env) :: starEach es X.env := by rfl) : SR X T W (a :: es) (rV f r) :=
  PA.weak (pa_cons ha hr hs) fun σ H Q h => rd_bind (R := isD (gm X)) h fun F env d v H1 S1 i1 h1 => ⟨F, env, S1, Rst.bind S1 h1 fun ds vs H2 env2 s2 S2 i2 h2 => h2 (v :: vs) H2 .refl S2 ⟨v, vs, rfl, Is.mono (s2.le F) _ _ i1, i2⟩⟩
theorem sr_o (i : Nat) (hr : SR X T W es r) (hN : X.N[i]? = some x := by rfl) (hv : Vis X.env.scope x := by first | exact Or.inl rfl | exact Or.inr (Or.inl rfl) | exact Or.inr (Or.inr rfl)) (hd : (x == ("__debug__" : Str)) = false := by decide)
    (hcd : (x == ("__classdict__" : Str)) = false := by decide) (hs : starEach (.Name x p :: es) X.env = (false, eval (.Name x p) X.env) :: starEach es X.env := by rfl) : SR X T W (.Name x p :: es) (rO i r) :=
  PA.weak (pa_cons (pe_var hN hv hd hcd) hr hs) fun σ H Q h => by
    obtain ⟨F, env, S, h⟩ := h
    unfold rO at h
    split at h
    · rename_i o
      obtain ⟨d, e⟩ := getD_own o
      obtain ⟨a', ea, oa, wa⟩ := S.own e
      exact ⟨.ref a', ea, F, env, S, Rst.bind S h fun ds vs H2 env2 s2 S2 i2 h2 => h2 (.ref a' :: vs) H2 .refl S2 ⟨a', vs, rfl, ea, i2⟩⟩
    · exact h.elim
end
/-! ### the call -/
def arS (e : Env') : Arg → Slot
  | .v d => .v d
  | .o i => e.getD i .no
def arIx : Arg → Option Nat
  | .v _ => none
  | .o i => some i
def putO : List Arg → Env' → Env' → Env'
  | .o i :: as, s :: os, e => putO as os (e.set i s)
  | .v _ :: as, _ :: os, e => putO as os e
  | _, _, e => e
/-- each a slot of its own -/
def okAr (e : Env') : List Arg → Bool
  | [] => true
  | .v _ :: as => okAr e as
  | .o i :: as => ownS (e.getD i .no) && !(as.any fun a => match a with | .o j => j == i | _ => false) && okAr e as
def callM (m : Fm) (as : List Arg) (e : Env') : Ro D := if okAr e as = true then
    match m (as.map (arS e)) with
    | .ok d os => if outOk (as.map (arS e)) os && decide (os.length = as.length) then .ok d (putO as os e) else .stk
    | .exc c p os => if outOk (as.map (arS e)) os && decide (os.length = as.length) then .exc c p (putO as os e) else .stk
    | .stk => .stk
  else .stk
def eCallD (m : Fm) (r : Env' → Ro (List Arg)) : Env' → Ro D := fun env => (r env).bind fun as e => callM m as e
theorem putO_len : ∀ (as : List Arg) (os e : Env'), (putO as os e).length = e.length
  | [], os, e => by unfold putO; rfl
  | .o i :: as, [], e => by unfold putO; rfl
  | .v d :: as, [], e => by unfold putO; rfl
  | .o i :: as, s :: os, e => by unfold putO; rw [putO_len as os, List.length_set]
  | .v d :: as, s :: os, e => by unfold putO; rw [putO_len as os]
theorem putO_out {j : Nat} : ∀ {as : List Arg} {os e : Env'}, (∀ n : Nat, as[n]? ≠ some (Arg.o j)) → (putO as os e)[j]? = e[j]?
  | [], os, e, _ => by unfold putO; rfl
  | .o i :: as, [], e, _ => by unfold putO; rfl
  | .v d :: as, [], e, _ => by unfold putO; rfl
  | .o i :: as, s :: os, e, h => by
    unfold putO
    rw [putO_out (as := as) fun n z => h (n + 1) (by simpa using z), List.getElem?_set_ne]
    intro z
    exact h 0 (by simp [z])
  | .v d :: as, s :: os, e, h => by
    unfold putO
    rw [putO_out (as := as) fun n z => h (n + 1) (by simpa using z)]
theorem okAr_at {e : Env'} {j : Nat} : ∀ {as : List Arg} {n : Nat}, okAr e as = true → as[n]? = some (.o j) → ∃ d, e[j]? = some (.o d)
  | [], n, _, h => by simp at h
  | .v d :: as, 0, _, h => by simp at h
  | .v d :: as, n + 1, k, h => okAr_at (as := as) (n := n) k (by simpa using h)
  | .o i :: as, 0, k, h => by
    simp at h
    subst h
    simp only [okAr, Bool.and_eq_true] at k
    exact getD_own k.1.1
  | .o i :: as, n + 1, k, h => by
    simp only [okAr, Bool.and_eq_true] at k
    exact okAr_at (as := as) (n := n) k.2 (by simpa using h)
theorem okAr_ne {e : Env'} {i j : Nat} {as : List Arg} {n : Nat} (k : okAr e (.o i :: as) = true) (h : as[n]? = some (.o j)) : j ≠ i := fun z => by
  subst z
  simp only [okAr, Bool.and_eq_true, Bool.not_eq_true', List.any_eq_false] at k
  have q := k.1.2 _ (List.mem_of_getElem? h)
  simp at q
theorem okAr_inj {e : Env'} {j : Nat} : ∀ {as : List Arg} {n m : Nat}, okAr e as = true → as[n]? = some (.o j) → as[m]? = some (.o j) → n = m
  | [], n, m, _, h, _ => by simp at h
  | a :: as, 0, 0, _, _, _ => rfl
  | a :: as, 0, m + 1, k, h, h2 => by
    simp at h
    subst h
    exact absurd rfl (okAr_ne k (by simpa using h2))
  | a :: as, n + 1, 0, k, h, h2 => by
    simp at h2
    subst h2
    exact absurd rfl (okAr_ne k (by simpa using h))
  | a :: as, n + 1, m + 1, k, h, h2 => by
    have k' : okAr e as = true := by
      cases a <;> simp only [okAr, Bool.and_eq_true] at k <;> first | exact k.2 | exact k
    rw [okAr_inj (as := as) (n := n) (m := m) k' (by simpa using h) (by simpa using h2)]
theorem putO_in {j : Nat} {s : Slot} {e0 : Env'} : ∀ {as : List Arg} {os e : Env'} {n : Nat}, okAr e0 as = true → as[n]? = some (.o j) → os[n]? = some s → j < e.length → (putO as os e)[j]? = some s
  | [], os, e, n, _, h, _, _ => by simp at h
  | a :: as, [], e, n, _, _, h, _ => by simp at h
  | .v d :: as, x :: os, e, 0, _, h, _, _ => by simp at h
  | .v d :: as, x :: os, e, n + 1, k, h, h2, hl => by
    unfold putO
    exact putO_in (as := as) (n := n) k (by simpa using h) (by simpa using h2) hl
  | .o i :: as, x :: os, e, 0, k, h, h2, hl => by
    simp at h h2
    subst h h2
    unfold putO
    rw [putO_out (as := as) fun n z => okAr_ne k z rfl]
    exact List.getElem?_set_self hl
  | .o i :: as, x :: os, e, n + 1, k, h, h2, hl => by
    have k' : okAr e0 as = true := by
      simp only [okAr, Bool.and_eq_true] at k
      exact k.2
    unfold putO
    exact putO_in (as := as) (n := n) k' (by simpa using h) (by simpa using h2) (by rw [List.length_set]; exact hl)
section
variable {G : Gm} {T : Tb} {F : Addr → Prop} {σ : St} {H H' : Hp} {e os : Env'} {as : List Arg} {vs : List V}
theorem ArL.len {Hs : Hp} : ∀ {as : List Arg} {vs : List V}, ArL G σ Hs as vs → as.length = vs.length
  | [], vs, h => by
    obtain rfl : vs = [] := h
    rfl
  | .v d :: as, vs, h => by
    obtain ⟨v, r, rfl, _, m⟩ := h
    rw [List.length_cons, List.length_cons, ArL.len m]
  | .o i :: as, vs, h => by
    obtain ⟨v, r, rfl, _, m⟩ := h
    rw [List.length_cons, List.length_cons, ArL.len m]
theorem ArL.v {Hs : Hp} {d : D} : ∀ {as : List Arg} {vs : List V} {n : Nat}, ArL G σ Hs as vs → as[n]? = some (.v d) → ∃ v, vs[n]? = some v ∧ Is G Hs d v
  | [], vs, n, _, h => by simp at h
  | .v d' :: as, vs, 0, k, h => by
    simp at h
    subst h
    obtain ⟨v, r, rfl, i, m⟩ := k
    exact ⟨v, rfl, i⟩
  | .o i :: as, vs, 0, k, h => by simp at h
  | .v d' :: as, vs, n + 1, k, h => by
    obtain ⟨v, r, rfl, i, m⟩ := k
    simpa using ArL.v (n := n) m (by simpa using h)
  | .o i :: as, vs, n + 1, k, h => by
    obtain ⟨v, r, rfl, i, m⟩ := k
    simpa using ArL.v (n := n) m (by simpa using h)
theorem ArL.o {Hs : Hp} {j : Nat} : ∀ {as : List Arg} {vs : List V} {n : Nat}, ArL G σ Hs as vs → as[n]? = some (.o j) → ∃ a, vs[n]? = some (.ref a) ∧ σ[j]? = some (some (.ref a))
  | [], vs, n, _, h => by simp at h
  | .v d' :: as, vs, 0, k, h => by simp at h
  | .o i :: as, vs, 0, k, h => by
    simp at h
    subst h
    obtain ⟨v, r, rfl, i, m⟩ := k
    exact ⟨v, rfl, i⟩
  | .v d' :: as, vs, n + 1, k, h => by
    obtain ⟨v, r, rfl, i, m⟩ := k
    simpa using ArL.o (n := n) m (by simpa using h)
  | .o i :: as, vs, n + 1, k, h => by
    obtain ⟨v, r, rfl, i, m⟩ := k
    simpa using ArL.o (n := n) m (by simpa using h)
/-- what is hidden from the callee: all but what it is handed -/
def Hid2 (F : Addr → Prop) (σ : St) (e : Env') (vs : List V) (as : List Arg) : Addr → Prop := fun a => Hd F σ e a ∧ ¬ Ow (vs.map some) (as.map (arS e)) a
theorem ar_own {Hs : Hp} (m : ArL G σ Hs as vs) {a : Addr} {n : Nat} {d : D} (h : (as.map (arS e))[n]? = some (.o d)) (h2 : (vs.map some)[n]? = some (some (.ref a))) : ∃ j, as[n]? = some (.o j) ∧ e[j]? = some (.o d) ∧ σ[j]? = some (some (.ref a)) := by
  rw [List.getElem?_map] at h
  cases q : as[n]? with
  | none => rw [q] at h; cases h
  | some x =>
    rw [q] at h
    have h : arS e x = .o d := Option.some.inj h
    cases x with
    | v d' => cases h
    | o j =>
      obtain ⟨v, e1, e2⟩ := map_get h2
      cases e2
      obtain ⟨a', e3, e4⟩ := ArL.o m q
      rw [e1] at e3
      cases e3
      obtain ⟨d'', e5⟩ := getD_own (e := e) (i := j) (by rw [show e.getD j .no = .o d from h]; rfl)
      have h : e.getD j .no = .o d := h
      rw [List.getD_eq_getElem?_getD, e5] at h
      exact ⟨j, rfl, by rw [e5]; exact congrArg some h, e4⟩
theorem ow_args {Hs : Hp} (m : ArL G σ Hs as vs) {a : Addr} (h : Ow (vs.map some) (as.map (arS e)) a) : Ow σ e a := by
  obtain ⟨n, d, h1, h2⟩ := h
  obtain ⟨j, _, h3, h4⟩ := ar_own m h1 h2
  exact ⟨j, d, h3, h4⟩
theorem hd2 {Hs : Hp} (m : ArL G σ Hs as vs) (a : Addr) : Hd (Hid2 F σ e vs as) (vs.map some) (as.map (arS e)) a ↔ Hd F σ e a := by
  refine ⟨fun z => ?_, fun z => ?_⟩
  · rcases z with z | z
    · exact .inl (ow_args m z)
    · exact z.1
  · by_cases q : Ow (vs.map some) (as.map (arS e)) a
    · exact .inl q
    · exact .inr ⟨z, q⟩
theorem sta_args (S : Sta G T F σ H e) (m : ArL G σ (hid H (Hd F σ e)) as vs) (ok : okAr e as = true) : Sta G (tb0 T) (Hid2 F σ e vs as) (vs.map some) H (as.map (arS e)) := by
  have hm := fun a => hd2 (F := F) (e := e) m a
  refine ⟨by rw [List.length_map, List.length_map]; exact ArL.len m, fun i s hs => ?_, fun i j d d' a h1 h2 h3 h4 => ?_, fun a z k => k.2 z, fun a z => S.hd_mut z.1, ⟨S.tab.1, fun p hp => by cases hp⟩, .nil rfl, Le.nil⟩
  · rw [hid_eq hm]
    have hs0 := hs
    rw [List.getElem?_map] at hs
    cases q : as[i]? with
    | none => rw [q] at hs; cases hs
    | some x =>
      rw [q] at hs
      have hs : arS e x = s := Option.some.inj hs
      cases x with
      | v d =>
        obtain ⟨v, e1, e2⟩ := ArL.v m q
        rw [← hs]
        exact ⟨some v, by rw [List.getElem?_map, e1]; rfl, v, rfl, e2⟩
      | o j =>
        obtain ⟨a, e1, e2⟩ := ArL.o m q
        obtain ⟨d, e3⟩ := okAr_at ok q
        obtain ⟨x, e4, e5⟩ := S.sl j _ e3
        rw [e2] at e4
        cases e4
        have hs : e.getD j .no = s := hs
        rw [List.getD_eq_getElem?_getD, e3] at hs
        have hs : Slot.o d = s := hs
        rw [← hs]
        exact ⟨_, by rw [List.getElem?_map, e1]; rfl, e5⟩
  · obtain ⟨i', q1, q2, q3⟩ := ar_own m h1 h3
    obtain ⟨j', q4, q5, q6⟩ := ar_own m h2 h4
    have z := S.dis i' j' d d' a q2 q5 q3 q6
    subst z
    exact okAr_inj ok q1 q4
/-- behind the call -/
theorem sta_back {Fx : Addr → Prop} (S : Sta G T F σ H e) (m : ArL G σ (hid H (Hd F σ e)) as vs) (ok : okAr e as = true) (s : Stp (vs.map some) H (as.map (arS e)) (vs.map some) H' os) (S' : Sta G (tb0 T) (fun a => Hid2 F σ e vs as a ∨ Fx a) (vs.map some) H' os) (oo : outOk (as.map (arS e)) os = true) (ol : os.length = as.length)
    (hx : ∀ a, Fx a → H a = none) : Stp σ H e σ H' (putO as os e) ∧ Sta G T (fun a => F a ∨ Fx a) σ H' (putO as os e) ∧ ∀ a, Hd (fun a => F a ∨ Fx a) σ (putO as os e) a → Hd (fun a => Hid2 F σ e vs as a ∨ Fx a) (vs.map some) os a := by
  have back : ∀ {n j : Nat}, as[n]? = some (.o j) → ∃ d a, os[n]? = some (.o d) ∧ (putO as os e)[j]? = some (.o d) ∧ σ[j]? = some (some (.ref a)) ∧ (vs.map some)[n]? = some (some (.ref a)) := fun {n j} q => by
    obtain ⟨d0, e0⟩ := okAr_at ok q
    have e1 : (as.map (arS e))[n]? = some (.o d0) := by
      rw [List.getElem?_map, q]
      show some (e.getD j .no) = _
      rw [List.getD_eq_getElem?_getD, e0]
      rfl
    obtain ⟨d, e2, _⟩ := outOk_get oo e1
    obtain ⟨a, e3, e4⟩ := ArL.o m q
    exact ⟨d, a, e2, putO_in ok q e2 (List.getElem?_eq_some_iff.mp e0).1, e4, by rw [List.getElem?_map, e3]; rfl⟩
  have whose : ∀ (j : Nat) (sl : Slot), (putO as os e)[j]? = some sl → (∃ n : Nat, as[n]? = some (Arg.o j)) ∨ e[j]? = some sl := fun j sl h => by
    by_cases q : ∃ n : Nat, as[n]? = some (Arg.o j)
    · exact .inl q
    · rw [putO_out (j := j) fun (n : Nat) z => q ⟨n, z⟩] at h
      exact .inr h
  have ow1 : ∀ a, Ow σ (putO as os e) a → Ow σ e a := fun a ⟨j, d, h1, h2⟩ => by
    rcases whose j _ h1 with ⟨n, q⟩ | q
    · obtain ⟨d0, e0⟩ := okAr_at ok q
      exact ⟨j, d0, e0, h2⟩
    · exact ⟨j, d, q, h2⟩
  have ow2 : ∀ a, Ow σ (putO as os e) a → Ow (vs.map some) (as.map (arS e)) a → Ow (vs.map some) os a := fun a _ ⟨n, d, h1, h2⟩ => by
    obtain ⟨j, q1, q2, q3⟩ := ar_own m h1 h2
    obtain ⟨d', a', e1, e2, e3, e4⟩ := back q1
    rw [q3] at e3
    cases e3
    exact ⟨n, d', e1, e4⟩
  have hdd : ∀ a, Hd (fun a => F a ∨ Fx a) σ (putO as os e) a → Hd (fun a => Hid2 F σ e vs as a ∨ Fx a) (vs.map some) os a := fun a z => by
    rcases z with z | z | z
    · by_cases q : Ow (vs.map some) (as.map (arS e)) a
      · exact .inl (ow2 a z q)
      · exact .inr (.inl ⟨.inl (ow1 a z), q⟩)
    · by_cases q : Ow (vs.map some) (as.map (arS e)) a
      · exact absurd z (S.fr a (ow_args m q))
      · exact .inr (.inl ⟨.inr z, q⟩)
    · exact .inr (.inr z)
  have le : Le (hid H (Hd F σ e)) (hid H' (Hd (fun a => F a ∨ Fx a) σ (putO as os e))) := Le.hid fun b o e1 n k => ⟨(fun z => by
    rcases z with z | z | z
    · exact k (.inl (ow1 b z))
    · exact k (.inr z)
    · have q := hx b z
      rw [e1] at q
      cases q), s.keep b o e1 n fun z => k (.inl (ow_args m z))⟩
  have le2 : Le (hid H' (Hd (fun a => Hid2 F σ e vs as a ∨ Fx a) (vs.map some) os)) (hid H' (Hd (fun a => F a ∨ Fx a) σ (putO as os e))) := Le.hid fun b o e1 n k => ⟨fun z => k (hdd b z), e1⟩
  refine ⟨⟨fun a o e1 n k => s.keep a o e1 n fun z => k (ow_args m z), fun a _ k z => k (ow1 a z), s.dom⟩, ⟨by rw [putO_len]; exact S.len, fun j sl h => ?_, fun i j d d' a h1 h2 h3 h4 => ?_, fun a z k => ?_, fun a z => ?_, ⟨S'.tab.1, S.tab.2⟩, S.old.to (fun a o e nt h => s.keep a o h nt fun z => nomatch e.symm.trans (S.old.ow a (ow_args m z))) (fun a _ h => s.dom a h) fun a z => .inl (ow1 a z), S.vis.trans le⟩, hdd⟩
  · by_cases q : ∃ n : Nat, as[n]? = some (Arg.o j)
    · obtain ⟨n, q⟩ := q
      obtain ⟨d, a, e1, e2, e3, e4⟩ := back q
      rw [h] at e2
      cases e2
      obtain ⟨x, e5, e6⟩ := S'.sl n _ e1
      rw [e4] at e5
      cases e5
      exact ⟨_, e3, e6.mono le2 fun _ _ _ _ => rfl⟩
    · rw [putO_out (j := j) fun (n : Nat) z => q ⟨n, z⟩] at h
      obtain ⟨x, e1, e2⟩ := S.sl j sl h
      refine ⟨x, e1, e2.mono le fun d a es ex => ?_⟩
      subst es ex
      obtain ⟨a', ea, k⟩ := e2
      cases ea
      obtain ⟨o, eo, nt, _⟩ := k.there
      rw [eo]
      refine s.keep a o eo nt fun ⟨n, d', h1, h2⟩ => ?_
      obtain ⟨j', q1, q2, q3⟩ := ar_own m h1 h2
      have z := S.dis j j' d d' a h q2 e1 q3
      subst z
      exact q ⟨n, q1⟩
  · have key : ∀ {i : Nat} {d : D}, (putO as os e)[i]? = some (.o d) → ∃ d', e[i]? = some (.o d') := fun {i d} q => by
      rcases whose i _ q with ⟨n, z⟩ | z
      · exact okAr_at ok z
      · exact ⟨d, z⟩
    obtain ⟨x, h1⟩ := key h1
    obtain ⟨y, h2⟩ := key h2
    exact S.dis i j x y a h1 h2 h3 h4
  · rcases k with k | k
    · exact S.fr a (ow1 a z) k
    · exact S.hd_there (.inl (ow1 a z)) (hx a k)
  · rcases z with z | z
    · exact mut_keep (S.fd a z) fun o e n => s.keep a o e n fun w => S.fr a (ow_args m w) z
    · exact S'.fd a (.inr z)
end
end Rf

namespace Rf
open PySem L2 LamX

section
variable {X : Cx} {T : Tb} {W : WX} {k j : Nat} {m : Fm} {σ : St} {H : Hp} {Q : VK} {F : Addr → Prop} {e : Env'} {as : List Arg} {vs : List V} {G : Gm}
theorem exc_mono {Hs Hs' H : Hp} {c : Str} {p : Option (Str × D)} {cls : Value} {dd : Option Addr} (l : Le Hs Hs') (h : ExcIs G Hs H c p cls dd) : ExcIs G Hs' H c p cls dd := by
  obtain ⟨C, e1, e2, e3⟩ := h
  refine ⟨C, e1, e2, ?_⟩
  split at e3
  · exact e3
  · obtain ⟨x, v, h1, h2, h3⟩ := e3
    exact ⟨x, v, h1, h2, Is.mono l _ _ h3⟩
theorem noX {A : Addr → Prop} : (fun a => A a ∨ False) = A := funext fun a => by simp
theorem call_sp (S : Sta G T F σ H e) (i : ArL G σ (hid H (Hd F σ e)) as vs) (h : Rst G T (isD G) F σ H e W Q (callM m as e)) : spM G T m vs H Q (WE W σ) := by
  unfold callM at h
  split at h
  · rename_i ok
    refine ⟨Hid2 F σ e vs as, as.map (arS e), sta_args S i ok, ?_⟩
    cases hm : m (as.map (arS e)) with
    | ok d os =>
      rw [hm] at h
      simp only at h
      split at h
      · rename_i hc
        obtain ⟨oo, ol⟩ := Bool.and_eq_true_iff.mp hc
        intro v H' s S' iv
        have S0 : Sta G (tb0 T) (fun a => Hid2 F σ e vs as a ∨ False) (vs.map some) H' os := by rw [noX]; exact S'
        obtain ⟨s2, S2, hd⟩ := sta_back (Fx := fun _ => False) S i ok s S0 oo (of_decide_eq_true ol) fun _ z => z.elim
        rw [noX] at S2
        refine h v H' s2 S2 (Is.mono (Le.hid fun b o e1 n k => ⟨fun z => k ?_, e1⟩) _ _ iv)
        have q := hd b (by rw [noX]; exact z)
        rw [noX] at q
        exact q
      · exact h.elim
    | exc c p os =>
      rw [hm] at h
      simp only at h
      split at h
      · rename_i hc
        obtain ⟨oo, ol⟩ := Bool.and_eq_true_iff.mp hc
        intro cls dd H' s S' iv
        have S0 : Sta G (tb0 T) (fun a => Hid2 F σ e vs as a ∨ False) (vs.map some) H' os := by rw [noX]; exact S'
        obtain ⟨s2, S2, hd⟩ := sta_back (Fx := fun _ => False) S i ok s S0 oo (of_decide_eq_true ol) fun _ z => z.elim
        rw [noX] at S2
        refine h cls dd H' s2 S2 (exc_mono (Le.hid fun b o e1 n k => ⟨fun z => k ?_, e1⟩) iv)
        have q := hd b (by rw [noX]; exact z)
        rw [noX] at q
        exact q
      · exact h.elim
    | stk => rw [hm] at h; exact h.elim
  · exact h.elim
theorem call_spF (S : Sta G T F σ H e) (i : ArL G σ (hid H (Hd F σ e)) as vs) (h : RstF G T F σ H e W Q (callM m as e)) : spF G T m vs H Q (WE W σ) := by
  unfold callM at h
  split at h
  · rename_i ok
    refine ⟨Hid2 F σ e vs as, as.map (arS e), sta_args S i ok, ?_⟩
    cases hm : m (as.map (arS e)) with
    | ok d os =>
      rw [hm] at h
      simp only at h
      split at h
      · rename_i hc
        obtain ⟨oo, ol⟩ := Bool.and_eq_true_iff.mp hc
        intro a H' s S' iv n
        obtain ⟨s2, S2, hd⟩ := sta_back (Fx := fun b => b = a) S i ok s S' oo (of_decide_eq_true ol) fun b z => by rw [z]; exact n
        exact h a H' s2 S2 (iv.mono (Le.hid fun b o e1 n k => ⟨fun z => k (hd b z), e1⟩) rfl) n
      · exact h.elim
    | exc c p os =>
      rw [hm] at h
      simp only at h
      split at h
      · rename_i hc
        obtain ⟨oo, ol⟩ := Bool.and_eq_true_iff.mp hc
        intro cls dd H' s S' iv
        have S0 : Sta G (tb0 T) (fun a => Hid2 F σ e vs as a ∨ False) (vs.map some) H' os := by rw [noX]; exact S'
        obtain ⟨s2, S2, hd⟩ := sta_back (Fx := fun _ => False) S i ok s S0 oo (of_decide_eq_true ol) fun _ z => z.elim
        rw [noX] at S2
        refine h cls dd H' s2 S2 (exc_mono (Le.hid fun b o e1 n k => ⟨fun z => k ?_, e1⟩) iv)
        have q := hd b (by rw [noX]; exact z)
        rw [noX] at q
        exact q
      · exact h.elim
    | stk => rw [hm] at h; exact h.elim
  · exact h.elim
end
/-- a def that stands under its name -/
structure Cal (P : Program) (w : World) (K : PySem.W.Frag) (mg : Str → Option Value) (base : Heap) (k : Nat) (x : Str) (sp : Sp) : Prop where
  ex : ∃ (f : Addr) (fd : FuncData) (ps : List Str), FnG P w K mg base k f fd ps sp ∧ mg x = some (.ref f) ∧ PySem.W.keepIn K (.ref f) = true ∧ Binds K fd ps []
section
variable {X : Cx} {T : Tb} {W : WX} {k j : Nat} {m : Fm} {sp : Sp} {x y : Str} {p pos : Pos} {e : Expr} {es : List Expr} {t : TA} {r : Env' → Ro (List Arg)} {f : Addr} {fd : FuncData} {ps : List Str}
theorem run_G {pins : List (Addr × Obj)} {σ : St} {H : Hp} {s : Shared} {Q : VK} {us : List Value} {vs : List V} (Fn : FnG X.prog X.w X.K X.mg X.base k f fd ps sp) (R : Fra X j W ∨ (Ctx X j ∧ Takes X W)) (hk : k ≤ j) (hb : Binds X.K fd ps []) (I : Inv X pins σ H s) (r : Vals vs us) (h : sp vs H Q (WE W σ)) :
    wpAny (model X.prog X.w) X.A (call (.ref f) us) (EP X pins σ Q) X.xe s := by
  obtain ⟨C, tk⟩ : Ctx X j ∧ Takes X W := R.elim (fun R => ⟨R.C, R.tk⟩) id
  have b := hb s us I.kIn (by rw [List.append_nil, ← r.length]; exact Fn.len _ _ _ _ h)
  rw [List.append_nil] at b
  have run := Fn.go X.A X.stack s H ⟨us, []⟩ us vs Q (WE W σ) (C.room.mono hk) C.gd I.env0 b r h
  refine wpAny_call (codeAny_mono run fun res s2 hq => ?_)
  match res, hq with
  | .error err, hq => exact passAt tk σ pins H s err s2 I hq
  | .ok (.ret v), hq => exact I.after hq
  | .ok .next, hq => exact hq.elim
  | .ok .brk, hq => exact hq.elim
  | .ok .cont, hq => exact hq.elim
/-- a call of a def of the module -/
theorem pe_callG (c : Cal X.prog X.w X.K X.mg X.base k x sp) (C : Ctx X j) (tk : Takes X W) (hk : k ≤ j) (hg : Gl X x) (ha : PA X (e :: es) t) (hdb : (x == ("__debug__" : Str)) = false := by decide)
    (he : starEach (e :: es) X.env = (false, eval e X.env) :: starEach es X.env := by rfl) (hpl : (backTo pos (starEach es X.env)).any (·.1) = false := by rfl) : PE X (.Call (.Name x p) (e :: es) [] pos) (tCallS sp (WE W) t) := by
  obtain ⟨f, fd, ps, Fn, hm, kp, hb⟩ := c.ex
  exact ⟨fun pins s σ H Q I h => wpAny_Call_Name_kw (ld_glob I hg hm (PySem.W.callWith_K (h₀ := X.base) I.ok.mod.kin kp (thn (ha.run pos pins s σ H _ I h) fun us s1 ⟨vs, H1, I1, r, q⟩ => ⟨I1.kIn, run_G Fn (.inr ⟨C, tk⟩) hk hb I1 r q⟩) he hpl) hdb)⟩
theorem pe_callG0 (c : Cal X.prog X.w X.K X.mg X.base k x sp) (C : Ctx X j) (tk : Takes X W) (hk : k ≤ j) (hg : Gl X x) (hdb : (x == ("__debug__" : Str)) = false := by decide) : PE X (.Call (.Name x p) [] [] pos) (tCallS sp (WE W) tNil) := by
  obtain ⟨f, fd, ps, Fn, hm, kp, hb⟩ := c.ex
  exact ⟨fun pins s σ H Q I h => wpAny_Call_Name_kw (ld_glob I hg hm (PySem.W.callWith_K0 I.kIn kp (run_G (us := []) Fn (.inr ⟨C, tk⟩) hk hb I .nil h)) hdb)⟩
theorem se_callG (c : Cal X.prog X.w X.K X.mg X.base k x (spM (gm X) T m)) (C : Ctx X j) (tk : Takes X W) (hk : k ≤ j) (hg : Gl X x) (ha : SR X T W (e :: es) r) (hdb : (x == ("__debug__" : Str)) = false := by decide)
    (he : starEach (e :: es) X.env = (false, eval e X.env) :: starEach es X.env := by rfl) (hpl : (backTo pos (starEach es X.env)).any (·.1) = false := by rfl) : SE X T W (.Call (.Name x p) (e :: es) [] pos) (eCallD m r) :=
  PE.weak (pe_callG c C tk hk hg ha hdb he hpl) fun σ H Q h => rd_bind (R := fun Hs as vs => ArL (gm X) σ Hs as vs) h fun F env as vs H1 S1 i1 h1 => call_sp S1 i1 h1
theorem sf_callG (c : Cal X.prog X.w X.K X.mg X.base k x (spF (gm X) T m)) (C : Ctx X j) (tk : Takes X W) (hk : k ≤ j) (hg : Gl X x) (ha : SR X T W (e :: es) r) (hdb : (x == ("__debug__" : Str)) = false := by decide)
    (he : starEach (e :: es) X.env = (false, eval e X.env) :: starEach es X.env := by rfl) (hpl : (backTo pos (starEach es X.env)).any (·.1) = false := by rfl) : SF X T W (.Call (.Name x p) (e :: es) [] pos) (eCallD m r) :=
  PE.weak (pe_callG c C tk hk hg ha hdb he hpl) fun σ H Q h => rdF_bind (R := fun Hs as vs => ArL (gm X) σ Hs as vs) h fun F env as vs H1 S1 i1 h1 => call_spF S1 i1 h1
theorem se_callG0 (c : Cal X.prog X.w X.K X.mg X.base k x (spM (gm X) T m)) (C : Ctx X j) (tk : Takes X W) (hk : k ≤ j) (hg : Gl X x) (hdb : (x == ("__debug__" : Str)) = false := by decide) : SE X T W (.Call (.Name x p) [] [] pos) (eCallD m rNil) :=
  PE.weak (pe_callG0 c C tk hk hg hdb) fun σ H Q h => by
    obtain ⟨F, env, S, h⟩ := h
    exact call_sp (as := []) (vs := []) S rfl h
theorem sf_callG0 (c : Cal X.prog X.w X.K X.mg X.base k x (spF (gm X) T m)) (C : Ctx X j) (tk : Takes X W) (hk : k ≤ j) (hg : Gl X x) (hdb : (x == ("__debug__" : Str)) = false := by decide) : SF X T W (.Call (.Name x p) [] [] pos) (eCallD m rNil) :=
  PE.weak (pe_callG0 c C tk hk hg hdb) fun σ H Q h => by
    obtain ⟨F, env, S, h⟩ := h
    exact call_spF (as := []) (vs := []) S rfl h
/-! ### a local name that holds a def -/
/-- the defs that may be held, by their names -/
def eCallV (i : Nat) (M : Str → Option Fm) (r : Env' → Ro (List Arg)) : Env' → Ro D := fun env => match env[i]? with
  | some (.v (.fn x)) => (match M x with
    | some m => (r env).bind fun as e => callM m as e
    | none => .stk)
  | _ => .stk
theorem se_callV (i : Nat) {M : Str → Option Fm} (c : ∀ y m, M y = some m → Cal X.prog X.w X.K X.mg X.base k y (spM (gm X) T m)) (C : Ctx X j) (tk : Takes X W) (hk : k ≤ j) (ha : SR X T W (e :: es) r) (hN : X.N[i]? = some x := by rfl)
    (hv : Vis X.env.scope x := by first | exact Or.inl rfl | exact Or.inr (Or.inl rfl) | exact Or.inr (Or.inr rfl)) (hdb : (x == ("__debug__" : Str)) = false := by decide) (hcd : (x == ("__classdict__" : Str)) = false := by decide)
    (he : starEach (e :: es) X.env = (false, eval e X.env) :: starEach es X.env := by rfl) (hpl : (backTo pos (starEach es X.env)).any (·.1) = false := by rfl) : SE X T W (.Call (.Name x p) (e :: es) [] pos) (eCallV i M r) := by
  refine ⟨fun pins s σ H Q I h => ?_⟩
  obtain ⟨F, env, S, h⟩ := h
  unfold eCallV at h
  split at h
  · rename_i y ey
    obtain ⟨v, e1, e2⟩ := S.val ey
    split at h
    · rename_i m em
      obtain ⟨f, fd, ps, Fn, hm, kp, hb⟩ := (c y m em).ex
      obtain ⟨f', rfl, e3⟩ := e2
      have e3 : X.mg y = some (.ref f') := e3
      rw [hm] at e3
      cases e3
      refine wpAny_Call_Name_kw (thn ((pe_var (pos := p) hN hv hdb hcd).run pins s σ H (fun v H1 => v = .ref f ∧ H = H1) I ⟨.ref f, e1, rfl, rfl⟩) fun u s1 ⟨v, H1, I1, r1, q1⟩ => ?_)
      obtain ⟨rfl, q2⟩ := q1
      rw [← q2] at I1
      obtain rfl : u = Value.ref f := r1
      have h' : rd (gm X) T (fun Hs as vs => ArL (gm X) σ Hs as vs) r W σ H fun vs H1 => spM (gm X) T m vs H1 Q (WE W σ) := rd_bind (R2 := isD (gm X)) (f := r) (g := callM m) ⟨F, env, S, h⟩ fun F env as vs H1 S1 i1 h1 => call_sp S1 i1 h1
      exact PySem.W.callWith_K (h₀ := X.base) I.ok.mod.kin kp (thn (ha.run pos pins s1 σ H _ I1 h') fun us s2 ⟨vs, H2, I2, r2, q⟩ => ⟨I2.kIn, run_G Fn (.inr ⟨C, tk⟩) hk hb I2 r2 q⟩) he hpl
    · exact h.elim
  · exact h.elim
end
end Rf

namespace Rf
open PySem L2 LamX
open PyProof.Rows hiding St

/-! ## the end: the law's own def called on the script -/
section
variable {P : Program} {w : World} {K : PySem.W.Frag} {mg mb : Str → Option Value} {k : Nat} {fa a : Addr} {cs : List (Addr × Addr)} {fd : FuncData} {x : Str} {sp : Sp} {st : Shared} {vs : List Value} {ns : List Int}
/-- an empty table of code objects -/
abbrev tabO : Obj := { cls := .none, data := .fields #[] }
abbrev scrO (vs : List Value) : Obj := { cls := .type "list", data := .seq vs.toArray }
def isTab (cs : List (Addr × Addr)) (b : Addr) : Bool := cs.any fun p => p.2 == b
theorem isTab_mem {b : Addr} (h : isTab cs b = true) : ∃ p ∈ cs, p.2 = b := by
  obtain ⟨p, hp, e⟩ := List.any_eq_true.mp h
  exact ⟨p, hp, by simpa using e⟩
theorem isTab_of {p : Addr × Addr} (h : p ∈ cs) : isTab cs p.2 = true := List.any_eq_true.mpr ⟨p, h, by simp⟩
/-- what is told of the heap at the start: the tables, and the script if it is no part of the text's own -/
def hpLaw (K : PySem.W.Frag) (cs : List (Addr × Addr)) (a : Addr) (vs : List Value) (ns : List Int) : Hp := fun b =>
  if isTab cs b then some (.tbl #[]) else if b = a ∧ K.lookup a = none then some (.frz (scrO vs) (.lst (ns.map V.int))) else none
theorem hpLaw_some {b : Addr} {o : HO} (h : hpLaw K cs a vs ns b = some o) : (isTab cs b = true ∧ o = .tbl #[]) ∨ (b = a ∧ K.lookup a = none ∧ o = .frz (scrO vs) (.lst (ns.map V.int))) := by
  unfold hpLaw at h
  split at h
  · rename_i q
    cases h
    exact .inl ⟨q, rfl⟩
  · split at h
    · rename_i q
      cases h
      exact .inr ⟨q.1, q.2, rfl⟩
    · cases h
theorem hpLaw_tab {p : Addr × Addr} (h : p ∈ cs) : hpLaw K cs a vs ns p.2 = some (.tbl #[]) := by
  unfold hpLaw
  rw [if_pos (isTab_of h)]
theorem end_G (KX : K.In st.heap) (hns : st.heap.Ns mainGlobals mg) (hb : st.heap.Ns builtinsNs mb) (hbb : ∀ y : Str, y ≠ "__name__" → mb y = bootBuiltins y) (nl : st.heap.NoLimit) (gs : st.gens = #[])
    (tO : ∀ p ∈ cs, st.heap.get? p.2 = some tabO) (tK : ∀ p ∈ cs, K.lookup p.2 = none) (tC : ∀ p ∈ cs, PySem.W.CodeHd st.heap p.1 p.2)
    (bmn : ∃ (bm : Addr) (ob : Obj), mg "__builtins__" = some (.ref bm) ∧ bm ≠ builtinsNs ∧ st.heap.get? bm = some ob ∧ ob.cls = .type "module" ∧ ob.dict = some builtinsNs ∧ ob.data = .plain)
    (ha : st.heap.get? a = some (scrO vs)) (hi : IntsAre vs ns) (hl : ns.length ≤ sizeLine) (hr : Room k callerA)
    (Fn : ∀ base : Heap, K.In base → base.Ns mainGlobals mg → (∀ p ∈ cs, TabB base mg p.1 p.2) → FnG P w K mg base k fa fd [x] sp) (bd : ∀ (s : Shared) (u : Value), BindsTo s fd ⟨[u], []⟩ [(x, u)])
    (hsp : ∀ H : Hp, (∀ p ∈ cs, H p.2 = some (.tbl #[])) → SqL K H a (ns.map V.int) → sp [.ref a] H (fun v _ => v = .bl true) fun _ _ _ => False) :
    codeAny (model P w) callerA (.call (.ref fa) ⟨[.ref a], []⟩) (fun r s' => r = .ok (.ret (.bool true)) ∧ OldK st.heap s'.heap ∧ s'.os = st.os ∧ AllBare s'.gens) st := by
  have rv := vals_ints hi
  have len := hi.length
  have tab_at : ∀ {b : Addr}, isTab cs b = true → st.heap.get? b = some tabO := fun q => by
    obtain ⟨p, hp, e⟩ := isTab_mem q
    exact e ▸ tO p hp
  have na : isTab cs a = false := by
    cases q : isTab cs a with
    | false => rfl
    | true =>
      have z := (tab_at q).symm.trans ha
      have z := congrArg Obj.data (Option.some.inj z)
      cases z
  have Hf : ∀ {H : Hp}, H = hpLaw K cs a vs ns → ∀ {b : Addr} {o : Obj}, st.heap.get? b = some o → o.data ≠ .fields #[] → (∀ l n, o.data ≠ .seq l n) → H b = none := fun {H} hH {b o} e d1 d2 => by
    cases q : H b with
    | none => rfl
    | some u =>
      rw [hH] at q
      rcases hpLaw_some q with ⟨q, _⟩ | ⟨q, _, _⟩
      · rw [tab_at q] at e
        cases e
        exact absurd rfl d1
      · rw [q, ha] at e
        cases e
        exact absurd rfl (d2 _ _)
  generalize hH : hpLaw K cs a vs ns = H at *
  have free := @Hf H rfl
  have dfree : ∀ {b : Addr} {o : Obj} {es : Array DictEntry} {n : Nat}, st.heap.get? b = some o → o.data = .dict es n → H b = none := fun e d => free e (by rw [d]; intro z; cases z) (by intro l n z; rw [d] at z; cases z)
  have nsB : ∀ {b : Addr} {m : Str → Option Value}, st.heap.Ns b m → (hidT st.heap H).Ns b m := fun ⟨o, es, n, e, d, r⟩ => ⟨o, es, n, hidT_get e (dfree e d), d, r⟩
  have kIn : K.In (hidT st.heap H) := fun b o e => hidT_get (KX b o e) (by
    cases q : H b with
    | none => rfl
    | some u =>
      rw [← hH] at q
      rcases hpLaw_some q with ⟨q, _⟩ | ⟨q, q2, _⟩
      · obtain ⟨p, hp, ep⟩ := isTab_mem q
        rw [← ep, tK p hp] at e
        cases e
      · rw [q, q2] at e
        cases e)
  have md : L2.Mod K mg (hidT st.heap H) := by
    obtain ⟨mc, c1, c2⟩ := nl
    exact ⟨kIn, nsB hns, ⟨mb, nsB hb, hbb⟩, mc, nsB c1, c2⟩
  have ok : HOk P w H st.heap := fun b u z => by
    rw [← hH] at z
    rcases hpLaw_some z with ⟨q, rfl⟩ | ⟨q, _, rfl⟩
    · exact tab_at q
    · rw [q]
      exact ⟨ha, by rw [List.length_map]; exact hl, vs, _, rv, ha⟩
  have scr : SqL K H a (ns.map V.int) := by
    cases q : K.lookup a with
    | none => exact .inl (.inr ⟨scrO vs, by rw [← hH]; unfold hpLaw; rw [if_neg (by rw [na]; decide), if_pos ⟨rfl, q⟩]⟩)
    | some o =>
      have e := KX a o q
      rw [ha] at e
      cases e
      exact .inr ⟨_, vs.toArray, _, q, rfl, rfl, rfl, by rw [List.size_toArray, len]; exact hl, by simpa using rv⟩
  have tb : ∀ p ∈ cs, H p.2 = some (.tbl #[]) := fun p hp => by rw [← hH]; exact hpLaw_tab hp
  have tbB : ∀ p ∈ cs, TabB (hidT st.heap H) mg p.1 p.2 := fun p hp => by
    have tp := tO p hp
    refine ⟨?_, ?_, fun z => ?_⟩
    · obtain ⟨o, us, fl, tf, fg, tg, iF, tx, tt, e1, r1, r2, r3, r⟩ := tC p hp
      refine ⟨o, us, fl, tf, fg, tg, iF, tx, tt, hidT_get e1 (free e1 (fun z => ?_) fun l n z => ?_), r1, r2, r3, r⟩
      · rw [r2] at z
        cases z
        simp at r3
      · rw [r2] at z
        cases z
    · obtain ⟨bm, ob, b1, b2, b3, b4, b5, b6⟩ := bmn
      refine ⟨bm, ob, b1, b2, fun q => ?_, fun q => ?_, hidT_get b3 (free b3 (fun z => ?_) fun l n z => ?_), b4, b5, b6⟩
      · obtain ⟨o, es, n, e, d, _⟩ := hns
        rw [q, e] at b3
        cases b3
        rw [d] at b6
        cases b6
      · rw [q, tp] at b3
        cases b3
        cases b6
      · rw [b6] at z
        cases z
      · rw [b6] at z
        cases z
    · obtain ⟨o, es, n, e, d, _⟩ := hns
      rw [z, tp] at e
      cases e
      cases d
  have en : Env0 P w K mg (hidT st.heap H) callerA [] st H := ⟨rfl, md, fun b o e => of_hidT e, Nat.le_of_eq (hidT_size _ _), trivial, fun b z => absurd (show b ∈ ([] : List Addr) from z) List.not_mem_nil, ok, .of_eq gs⟩
  have run := (Fn _ kIn (nsB hns) tbB).go callerA [] st H ⟨[.ref a], []⟩ [.ref a] [.ref a] _ _ hr rfl en (bd st (.ref a)) (.cons rfl .nil) (hsp H tb scr)
  refine codeAny_mono run fun r s' h => ?_
  match r, h with
  | .error e, h =>
    obtain ⟨_, _, _, _, _, _, _, _, _, _, _, _, z⟩ := h
    exact z.elim
  | .ok .next, h => exact h.elim
  | .ok .brk, h => exact h.elim
  | .ok .cont, h => exact h.elim
  | .ok (.ret u), h =>
    obtain ⟨v, H', os, bare, un, ok', r', q⟩ := h
    obtain rfl : v = .bl true := q
    obtain rfl : u = Value.bool true := r'
    have keep : ∀ b o, isTab cs b = false → st.heap.get? b = some o → s'.heap.get? b = some o := fun b o nb e => by
      cases q : H b with
      | none => exact un.keep b o e q (fun z => absurd (show b ∈ ([] : List Addr) from z) List.not_mem_nil) (by simp)
      | some u =>
        have q' := q
        rw [← hH] at q'
        rcases hpLaw_some q' with ⟨z, _⟩ | ⟨_, _, rfl⟩
        · rw [nb] at z
          cases z
        · obtain ⟨e1, _⟩ := ok b _ q
          obtain ⟨e2, _⟩ := ok' b _ (un.frzs b _ _ q)
          rw [e] at e1
          cases e1
          exact e2
    have more : ∀ p ∈ cs, ∃ m : Array Value, s'.heap.get? p.2 = some { cls := .none, data := .fields (#[] ++ m) } := fun p hp => by
      obtain ⟨m, z⟩ := un.tbls p.2 #[] (tb p hp)
      exact ⟨m, ok' p.2 _ z⟩
    refine ⟨rfl, ⟨fun b o e => ?_, fun b o e => ?_⟩, os, bare⟩
    · cases hb : isTab cs b with
      | true =>
        obtain ⟨p, hp, ep⟩ := isTab_mem hb
        obtain ⟨m, hm⟩ := more p hp
        rw [tab_at hb] at e
        cases e
        rw [← ep]
        exact .inr (.inl ⟨((tC p hp).tab (tO p hp)).isCodeTable, rfl, #[], m, rfl, hm⟩)
      | false => exact .inl (keep b o hb e)
    · cases hb : isTab cs b with
      | true =>
        obtain ⟨p, hp, ep⟩ := isTab_mem hb
        obtain ⟨m, hm⟩ := more p hp
        rw [← ep]
        exact ⟨_, hm⟩
      | false => exact ⟨o, keep b o hb e⟩
/-- what is known of the law's def at the top's heap h -/
def LawAtG (l : PySem.W.OpenLaw) (w : World) (K : PySem.W.Frag) (k n : Nat) (x : Str) (mg : Str → Option Value) (fa : Addr) (h : Heap) : Prop :=
  ∃ (fd : FuncData) (cs : List (Addr × Addr)) (sp : Sp), (∀ p ∈ cs, h.get? p.2 = some tabO ∧ K.lookup p.2 = none ∧ PySem.W.CodeHd h p.1 p.2) ∧ (∀ (s : Shared) (u : Value), BindsTo s fd ⟨[u], []⟩ [(x, u)]) ∧
    (∀ (H : Hp) (a : Addr) (ns : List Int), ns.length ≤ n → (∀ z ∈ ns, Builtin.Int.intBits z ≤ 1048576) → (∀ p ∈ cs, H p.2 = some (.tbl #[])) → SqL K H a (ns.map V.int) → sp [.ref a] H (fun v _ => v = .bl true) fun _ _ _ => False) ∧
    ∀ base : Heap, K.In base → base.Ns mainGlobals mg → (∀ p ∈ cs, TabB base mg p.1 p.2) → FnG l.prog w K mg base k fa fd [x] sp
theorem walk_ofG {l : PySem.W.OpenLaw} {n k : Nat} {q : Program} {loose : List Str} {XP : (Str → Option Value) → Heap → Prop} {YP : World → Heap → Prop} {d : DefRec} {K : Params → PySem.W.Frag} {x : Str} (hn : l.most = some n) (hn2 : n ≤ sizeLine) (nd : d.params.defaults = []) (hr : Room k callerA)
    (hY : ∀ (w : World) (h : Heap), YP w h → (K w.params).In h) (F : ∀ (w : World) (mg : Str → Option Value) (fa : Addr) (h : Heap), XP mg h → YP w h → (K w.params).In h → h.Ns mainGlobals mg → mg d.name = some (.ref fa) → LawAtG l w (K w.params) k n x mg fa h) :
    PySem.W.WalkO q loose XP YP l.row.toRowW d [] (fun f vs => PySem.call f vs) :=
  Att.attach_callB hn nd fun w s₀ s₁ mg mb fa o pm cd doc a vs ns G Y ho hd hcd hmg hobj hints hlen hbits hg => by
    obtain ⟨fd, cs, sp, hT, hb, hsp, hF⟩ := F w mg fa _ G.X Y (hY w _ Y) G.T.g hmg
    exact end_G (hY w _ Y) G.T.g G.T.b G.T.builtins G.T.nolimit hg (fun p hp => (hT p hp).1) (fun p hp => (hT p hp).2.1) (fun p hp => (hT p hp).2.2) G.T.bmain hobj hints (Nat.le_trans hlen hn2) hr hF hb fun H hH hS => hsp H a ns hlen hbits hH hS
end
end Rf

namespace Rf
open PySem L2 LamX
open PySem.W (Frag Looks)

/-! ## own exceptions whose __init__ says super().__init__('..') -/
/-- the text of such an __init__ -/
abbrev supE (txt : Str) (j : Nat) (p0 p1 p2 p3 p4 : Pos) : Expr := .Call (.Attribute (.Call (.Name "super" p0) [] [] p1) "__init__" p2) [.Constant (.str txt) j p3] [] p4
abbrev supS (txt : Str) (j : Nat) (p0 p1 p2 p3 p4 p5 : Pos) : Stmt := .Expr (supE txt j p0 p1 p2 p3 p4) p5
/-- how it is read -/
abbrev supEv (env : Env) (pl : Sem Bool) (txt : Str) (j : Nat) (p0 p1 p2 p3 p4 : Pos) : Prop := eval (supE txt j p0 p1 p2 p3 p4) env = (do
  let ov ← attributeBase (.Call (.Name "super" p0) [] [] p1) "__init__" env (eval (.Call (.Name "super" p0) [] [] p1) env)
  standAt p2.atName
  let (f, first) ← holding [ov] (getMethod ov "__init__" pl)
  callWith p4 f first (backTo p4 (starEach [.Constant (.str txt) j p3] env)) [])
/-- what the written part says of the class at C -/
structure ETx (P : Program) (K : Frag) (mg : Str → Option Value) (x : Str) (C : Addr) : Prop where
  gC : mg x = some (.ref C)
  cls : ∃ nm q N bs bm sn sub ab col dd k0 k1 k2 k3 k5, K.lookup C = some (excClassObj nm q C N bs bm true sn sub ab col dd k0 k1 k2 k3 k5 "ValueError.__new__") ∧ PySem.HandSPX.refsVE bm = true
  kC : PySem.W.keepIn K (.ref C) = true
  exC : PySem.W.subIn K (.ref C) (.type "BaseException") = some true
  veC : PySem.W.subIn K (.ref C) (.type "ValueError") = some true
  tyC : PySem.W.typeIn K (.ref C) = some (.type "type")
  sup : PySem.W.ks_superIn K C C "__init__" = some (some (.builtin "ValueError.__init__"))
  mro : PySem.W.mroIn K C (.ref C) = some true
  opq : PySem.W.nsIn K cStatics "thirdparty.any" = some none
  nsu : mg "super" = none
  top : (P.main.scope.names.lookup ("super" : Str)).isSome = false
/-- .. of its __init__; rest: what stands behind super().__init__('..') -/
structure ITx (P : Program) (K : Frag) (C fI : Addr) (ps : List Str) (rest : List Stmt) : Prop where
  iC : PySem.W.findIn K (.ref C) "__init__" = some (some (.ref fI))
  tI : PySem.W.typeIn K (.ref fI) = some (.type "function")
  fn : ∃ (qual : Str) (params : Arguments) (scope : Scope) (kV doc pm ct oc : Value) (an od : Option Addr) (osl : Array (Option Value)) (cc cda : Addr) (ccl : Value) (cdd : Option Addr) (vs : Array Value) (ccs : Array (Option Value)) (file : Str) (tf : Tok) (cl : Value) (cld : Option Addr) (csl : Array (Option Value)) (ar : PySem.Arg)
      (txt : Str) (j : Nat) (p0 p1 p2 p3 p4 p5 : Pos),
    K.lookup fI = some ⟨oc, od, .func (PySem.W.ksFn "__init__" qual params (supS txt j p0 p1 p2 p3 p4 p5 :: rest) scope .none kV doc pm an (.ref cda) ct cc), osl⟩ ∧ PySem.W.codeIn K (.ref cda) qual = true ∧ K.lookup cda = some ⟨ccl, cdd, .fields vs, ccs⟩ ∧ vs[2]? = some (.str file tf) ∧ ((P.main.file : Str) == file) = true ∧
      K.lookup cc = some ⟨cl, cld, .cell (some (.ref C)), csl⟩ ∧ (∀ us : List Value, us.length = ps.length → bindArgs (PySem.W.ksFn "__init__" qual params (supS txt j p0 p1 p2 p3 p4 p5 :: rest) scope .none kV doc pm an (.ref cda) ct cc) ⟨us, []⟩ = pure (ps.zip us)) ∧
      (params.posonlyargs ++ params.args).head? = some ar ∧ ar.arg = "self" ∧ (∀ y ∈ scope.names, y.2 ≠ .cell) ∧ (∀ y ∈ ps, scope.names.lookup y = some .local) ∧ scope.names.lookup ("super" : Str) = some .globalImplicit ∧ scope.names.lookup ("__class__" : Str) = some .free ∧
      scope.kind = .function ∧ scope.isCoroutine = false ∧ scope.isGenerator = false ∧
      (∀ L, (∃ pl, supEv (PySem.W.ksEnv qual scope L fI (.ref cda) cc) pl txt j p0 p1 p2 p3 p4) ∧ interactive (PySem.W.ksEnv qual scope L fI (.ref cda) cc) = false ∧ swapsWith (supE txt j p0 p1 p2 p3 p4) none p5.line (PySem.W.ksEnv qual scope L fI (.ref cda) cc) = pure false)
section
variable {P : Program} {w : World} {A : Around} {E : Value → Shared → Prop} {h : Heap} {g : Array GenState} {d : Drawn} {t : Nat} {os : OsState} {K : Frag} {mg : Str → Option Value} {x : Str} {C fI e u t0 : Addr}
abbrev exO (C t : Addr) : Obj := PySem.HandSPX.excO C t
/-- the bound ValueError.__init__ -/
theorem call_mw {rest : List Value} {Q : Value → Shared → Prop} (T : ETx P K mg x C) (X : K.In h) (he : h.get? e = some (exO C t0)) (hu : h.get? u = some (PySem.W.kxs_mw "ValueError.__init__" e)) (hz : rest.length ≤ sizeLine)
    (hq : ∀ h' t1, (∀ b o, b ≠ e → h.get? b = some o → h'.get? b = some o) → h'.get? e = some (exO C t1) → Q .none ⟨h', g, d, t, os⟩) : wpAny (model P w) A (call (.ref u) rest) Q E ⟨h, g, d, t, os⟩ := by
  obtain ⟨nm, q, N, bs, bm, sn, sub, ab, col, dd, k0, k1, k2, k3, k5, lC, hbm⟩ := T.cls
  refine wpAny_call (codeAny_of_tree (show wpAny _ A.in1 (callAny (.ref u) ⟨rest, []⟩) _ _ _ from ?_))
  simp only [callAny]
  refine wpAny_bind (wpAny_load hu ?_)
  simp only [PySem.W.kxs_mw]
  refine PySem.W.KFB.if_so (by decide) (wpAny_bind (PySem.W.check_bound_init PySem.F.excBase_ValueError.toExcCallFacts (X _ _ lC) he rfl (wpAny_bind (wpAny_pure (wpAny_pure ⟨PySem.plainId_quiet PySem.F.excBase_ValueError.init.plain _, codeAny_builtin PySem.F.excBase_ValueError.initEntry ?_⟩)))))
  exact PySem.W.exc_init_tree (cls := .ref C) (t0 := t0) (dv := none) (c2 := .none) (c3 := .none) (b4 := .bool false) he hz fun h' k o' _ => hq h' _ k o'
/-- super().__init__('..') -/
theorem sup_at {qual : Str} {params : Arguments} {body : List Stmt} {scope : Scope} {kV doc pm ct oc : Value} {an od : Option Addr} {osl : Array (Option Value)} {cc cda L : Addr} {ccl : Value} {cdd : Option Addr} {vs : Array Value} {ccs : Array (Option Value)} {file : Str} {tf : Tok} {cl : Value} {cld : Option Addr} {csl : Array (Option Value)} {ar : PySem.Arg}
    {m mb : Str → Option Value} {txt : Str} {j : Nat} {p0 p1 p2 p3 p4 p5 : Pos} {Q : Flow → Shared → Prop} (T : ETx P K mg x C) (X : K.In h) (gl : h.Ns mainGlobals mg) (bl : h.Ns builtinsNs mb) (bs : mb "super" = bootBuiltins "super") (he : h.get? e = some (exO C t0)) (hn : h.Ns L m) (hs : m "self" = some (.ref e))
    (lI : K.lookup fI = some ⟨oc, od, .func (PySem.W.ksFn "__init__" qual params body scope .none kV doc pm an (.ref cda) ct cc), osl⟩) (lD : K.lookup cda = some ⟨ccl, cdd, .fields vs, ccs⟩) (l2 : vs[2]? = some (.str file tf)) (lf : ((P.main.file : Str) == file) = true)
    (lC : K.lookup cc = some ⟨cl, cld, .cell (some (.ref C)), csl⟩) (hp : (params.posonlyargs ++ params.args).head? = some ar) (ha : ar.arg = "self") (k1 : scope.names.lookup ("super" : Str) = some .globalImplicit) (k2 : scope.names.lookup ("__class__" : Str) = some .free) (k3 : scope.names.lookup ("self" : Str) = some .local) (k4 : scope.kind = .function)
    {pl : Sem Bool} (ev : supEv (PySem.W.ksEnv qual scope L fI (.ref cda) cc) pl txt j p0 p1 p2 p3 p4) (hi : interactive (PySem.W.ksEnv qual scope L fI (.ref cda) cc) = false) (hw : swapsWith (supE txt j p0 p1 p2 p3 p4) none p5.line (PySem.W.ksEnv qual scope L fI (.ref cda) cc) = pure false)
    (hq : ∀ h' tk t1, (∀ b o, b ≠ e → h.get? b = some o → h'.get? b = some o) → h'.get? e = some (exO C t1) → Q .next ⟨h', g, d, tk, os⟩) :
    PySem.wpAt (model P w) A (.func body (PySem.W.ksEnv qual scope L fI (.ref cda) cc)) (exec (supS txt j p0 p1 p2 p3 p4 p5) (PySem.W.ksEnv qual scope L fI (.ref cda) cc)) Q E ⟨h, g, d, t, os⟩ := by
  obtain ⟨nm, q, N, bas, bm, sn, sub, ab, col, dd, w0, w1, w2, w3, w5, lcls, hbm⟩ := T.cls
  have hC := X _ _ lcls
  have nC : e ≠ C := fun z => by
    rw [z, hC] at he
    cases he
  have hcl : PySem.W.clsIn K C = some { name := nm, bases := bas, mro := .ref C :: bm, ns := N, qualname := q, hasDict := true, slotNames := sn, subclasses := sub, abstract := ab, collection := col, hasDel := false } := by unfold PySem.W.clsIn; rw [lcls] <;> rfl
  refine PySem.ks_wpAt_Expr_any (PySem.ks_wpAt_MethodCall (pl := pl) (PySem.ks_wpAt_super_base (env := PySem.W.ksEnv qual scope L fI (.ref cda) cc) k1 k2 (by decide) rfl (X _ _ lI) rfl hp rfl (X _ _ lD) rfl l2 lf T.top ?_) ev) hi hw
  refine PySem.W.ks_loadName_global k4 k1 (Calls.loadGlobal_builtin (env := PySem.W.ksEnv qual scope L fI (.ref cda) cc) gl T.nsu bl (bs.trans (show bootBuiltins "super" = some (.type "super") by decide +kernel)) ⟨rfl, ?_⟩)
  rw [ha]
  refine wpAny_loadName_free k4 k2 rfl ⟨_, X _ _ lC, rfl⟩ (wpAny_loadName_local k4 k3 hn hs (PySem.ks_wpAny_isType_cls hC rfl ⟨rfl, ?_⟩))
  refine PySem.ks_wpAny_call_super hC rfl he rfl (fun c z => by cases z) (PySem.W.looks_mroIn X T.mro) fun h2 so kp => ?_
  have X2 : K.In h2 := X.keeps kp
  have he2 := kp _ _ he
  have I2 : PySem.W.InstAt h2 e (exO C t0) C none := ⟨he2, rfl, rfl, trivial⟩
  have al := T.sup
  unfold PySem.W.ks_superIn at al
  rw [hcl] at al
  refine PySem.W.kxs_getMethod PySem.W.kxs_ValueError so (PySem.W.looks_opaque X2 T.opq) (fun A' Q' E' s' k q' => wpAny_bind ((PySem.W.looks_clsIn X2 hcl) A' _ E' s' k (wpAny_pure q'))) rfl X2 al (I2.type.andThen (PySem.W.looks_subIn X2 T.veC)) nC (by decide) ?_
  have kp3 : ∀ b o, h2.get? b = some o → (h2.push (PySem.W.kxs_mw "ValueError.__init__" e)).get? b = some o := fun b o z => Heap.get?_push_of_some _ z
  have hu : (h2.push (PySem.W.kxs_mw "ValueError.__init__" e)).get? h2.objs.size = some (PySem.W.kxs_mw "ValueError.__init__" e) := Heap.get?_push_at rfl rfl
  refine PySem.W.kxs_callWith (i := "ValueError.__init__") (x := e) rfl (Calls.evalArgs_plain (Calls.spliced_cons (Calls.Constant_str (k := j) (pos := p3) (Calls.spliced_nil ⟨hu, ?_⟩))))
  exact call_mw T (X2.keeps kp3) (kp3 _ _ he2) hu (show 1 ≤ sizeLine by rw [sizeLine_eq]; decide) fun h' t1 k o' => hq h' _ t1 (fun b o nb z => k b o nb (kp3 b o (kp b o z))) o'
theorem init0 {R : Result → Shared → Prop} (T : ETx P K mg x C) (Ix : ITx P K C fI ["self"] []) (X : K.In h) (nl : h.NoLimit) (gl : h.Ns mainGlobals mg) {mb : Str → Option Value} (bl : h.Ns builtinsNs mb) (bs : mb "super" = bootBuiltins "super") (he : h.get? e = some (exO C t0)) (room : A.depth < recursionLimit)
    (hq : ∀ h' tk t1, (∀ b o, b ≠ e → h.get? b = some o → h'.get? b = some o) → h'.get? e = some (exO C t1) → R (.ok (.ret .none)) ⟨h', g, d, tk, os⟩) : codeAny (model P w) A (.call (.ref fI) ⟨[.ref e], []⟩) R ⟨h, g, d, t, os⟩ := by
  obtain ⟨qual, params, scope, kV, doc, pm, ct, oc, an, od, osl, cc, cda, ccl, cdd, vs, ccs, file, tf, cl, cld, csl, ar, txt, j, p0, p1, p2, p3, p4, p5, lI, lcd, lD, l2, lf, lC, lb, hp, ha, hc, hl, k1, k2, k4, k5, k6, kE⟩ := Ix.fn
  refine PySem.ks_codeAny_call_defAt (binds := [("self", .ref e)]) room (X _ _ lI) rfl nl (PySem.W.codeRec_of X lcd) rfl (BindsTo.of_eq (lb [.ref e] rfl)) hc (fun y hy => ?_) (fun h1 hn kp => ?_) k5 k6 k4
  · rw [List.mem_singleton.mp hy]
    exact hl _ List.mem_cons_self
  · obtain ⟨⟨pl, ev⟩, hi, hw⟩ := kE h.objs.size
    refine PySem.ks_wpAt_execs_cons (sup_at T (X.keeps kp) (gl.keeps kp) (bl.keeps kp) bs (kp _ _ he) hn (by rfl) lI lD l2 lf lC hp ha k1 k2 (hl _ List.mem_cons_self) k4 ev hi hw fun h' tk t1 k o' => ?_)
    exact PySem.wpAt_of_wpAny (wpAny_execs_nil (hq h' tk t1 (fun b o nb z => k b o nb (kp b o z)) o'))
end
section
variable {X : Cx} {W : WX} {T : Tb} {k : Nat} {x f : Str} {C fI : Addr} {p pos pos2 : Pos} {a : Expr} {g : Env' → Ro D}
/-- C() -/
theorem pmk0 (tx : ETx X.prog X.K X.mg x C) (ix : ITx X.prog X.K C fI ["self"] []) (hr : Room (k + 1) X.A) (hg : Gl X x) (hdb : (x == ("__debug__" : Str)) = false := by decide) : PMk X (.Call (.Name x p) [] [] pos) (fun _ H Q => Q (.ref C) none H) := by
  intro pins s σ H Q I h
  obtain ⟨nm, q, N, bas, bm, sn, sub, ab, col, dd, w0, w1, w2, w3, w5, lcls, hbm⟩ := tx.cls
  obtain ⟨mb, b1, b2⟩ := I.mod.blt
  have gl := I.mod.glob.keeps I.bk
  have bl := b1.keeps I.bk
  have nl := I.nolimit
  refine wpAny_Call_Name_kw (ld_glob I hg tx.gC (PySem.W.callWith_K0 I.kIn tx.kC ?_) hdb)
  obtain ⟨hp, gs, dr, tk, os⟩ := s
  have kp : ∀ b o, hp.get? b = some o → ((hp.push (PySem.W.kdv_tup [])).push (PySem.HandSPX.excO C hp.objs.size)).get? b = some o := fun b o e => Heap.get?_push_of_some _ (Heap.get?_push_of_some _ e)
  have he : ((hp.push (PySem.W.kdv_tup [])).push (PySem.HandSPX.excO C hp.objs.size)).get? (hp.objs.size + 1) = some (exO C hp.objs.size) := by heap_get
  have big : hp.objs.size ≤ hp.objs.size + 1 := Nat.le_succ _
  refine wpAny_call (PySem.HandSPX.call_own PySem.F.excBase_ValueError (fun Y => PySem.HandSPX.refsVE_contains Y bm hbm) (I.kIn _ _ lcls) (PySem.W.looks_findIn I.kIn ix.iC) (fun self => PySem.W.bind_fn I.kIn self ix.tI) (Nat.zero_le _) ?_)
  refine init0 tx ix (I.kIn.keeps kp) (nl.keeps kp) (gl.keeps kp) (bl.keeps kp) (b2 _ (by decide)) he (by rw [make_depth]; have := hr.dp; omega) fun h' t' t1 k o' => ?_
  have old : ∀ b o, hp.get? b = some o → h'.get? b = some o := fun b o e => k b o (Nat.ne_of_lt (Nat.lt_of_lt_of_le (Heap.lt_size e) big)) (kp b o e)
  have no : hp.get? (hp.objs.size + 1) = none := Heap.get?_none_of_le big
  exact ⟨rfl, _, _, _, ⟨hp, gs, dr, tk, os⟩, H, .ref C, none, rfl, I, old, no, o', ⟨rfl, rfl⟩, rfl, rfl, I.hok.fresh big, rfl, I.bare, raises_own tx.exC tx.tyC, h⟩
/-- raise C() -/
def sRaise0 (x : Str) : Env' → So := fun env => .exc x none env
theorem ss_raise0 (Fr : Fra X j W) (tx : ETx X.prog X.K X.mg x C) (ix : ITx X.prog X.K C fI ["self"] []) (hk : k + 1 ≤ j) (hg : Gl X x) (hdb : (x == ("__debug__" : Str)) = false := by decide) : SS X T W (.Raise (some (.Call (.Name x p) [] [] pos)) none pos2) (sRaise0 x) :=
  PS.weak (ps_raise Fr.C.calm Fr.tk (pmk0 (k := k) tx ix (Fr.C.room.mono hk) hg hdb)) fun De σ H h => by
    obtain ⟨F, env, S, h⟩ := h
    exact h (.ref C) none σ H .refl S ⟨C, tx.gC, rfl, rfl⟩
end
/-! ### .. and keeps what it got in a field -/
abbrev keepS (f : Str) (q1 q2 q3 q4 : Pos) : Stmt := .Assign [.Attribute (.Name "self" q1) f q2] (.Name f q3) q4
/-- what the class says of its field f -/
structure FTx (K : Frag) (C : Addr) (f : Str) : Prop where
  sa : PySem.W.findIn K (.ref C) "__setattr__" = some (some (.builtin "object.__setattr__"))
  no : PySem.W.findIn K (.ref C) f = some none
  xf : L2.XfC K C
section
variable {P : Program} {w : World} {A : Around} {E : Value → Shared → Prop} {h : Heap} {g : Array GenState} {d : Drawn} {t : Nat} {os : OsState} {K : Frag} {mg : Str → Option Value} {x f : Str} {C fI e u t0 : Addr}
theorem init1 {R : Result → Shared → Prop} {v : Value} {q1 q2 q3 q4 : Pos} (T : ETx P K mg x C) (Fx : FTx K C f) (hf : f ≠ "self") (Ix : ITx P K C fI ["self", f] [keepS f q1 q2 q3 q4]) (sw : ∀ env : Env, swapsWith (.Name f q3) (some (.Attribute (.Name "self" q1) f q2)) q4.line env = pure false) (hd : (f == ("__debug__" : Str)) = false)
    (hnx : K.lookup e = none) (X : K.In h) (nl : h.NoLimit) (gl : h.Ns mainGlobals mg) {mb : Str → Option Value} (bl : h.Ns builtinsNs mb) (bs : mb "super" = bootBuiltins "super") (he : h.get? e = some (exO C t0)) (room : A.depth < recursionLimit)
    (hq : ∀ h' tk t1 dx, (∀ b o, b ≠ e → h.get? b = some o → h'.get? b = some o) → h'.get? e = some { cls := .ref C, dict := some dx, data := .fields #[.ref t1, .none, .none, .none, .bool false, .none] } → h.objs.size ≤ dx → dx ≠ e → h'.Ns1 dx (fun y => if y = f then some v else none) → R (.ok (.ret .none)) ⟨h', g, d, tk, os⟩) :
    codeAny (model P w) A (.call (.ref fI) ⟨[.ref e, v], []⟩) R ⟨h, g, d, t, os⟩ := by
  obtain ⟨qual, params, scope, kV, doc, pm, ct, oc, an, od, osl, cc, cda, ccl, cdd, vs, ccs, file, tf, cl, cld, csl, ar, txt, j, p0, p1, p2, p3, p4, p5, lI, lcd, lD, l2, lf, lC, lb, hp, ha, hc, hl, k1, k2, k4, k5, k6, kE⟩ := Ix.fn
  obtain ⟨nm, q, N, bas, bm, sn, sub, ab, col, dd, w0, w1, w2, w3, w5, lcls, hbm⟩ := T.cls
  have hcl : PySem.W.clsIn K C = some { name := nm, bases := bas, mro := .ref C :: bm, ns := N, qualname := q, hasDict := true, slotNames := sn, subclasses := sub, abstract := ab, collection := col, hasDel := false } := by unfold PySem.W.clsIn; rw [lcls] <;> rfl
  refine PySem.ks_codeAny_call_defAt (binds := [("self", .ref e), (f, v)]) room (X _ _ lI) rfl nl (PySem.W.codeRec_of X lcd) rfl (BindsTo.of_eq (lb [.ref e, v] rfl)) hc (fun y hy => ?_) (fun h1 hn kp => ?_) k5 k6 k4
  · rcases List.mem_cons.mp hy with z | z
    · rw [z]
      exact hl _ List.mem_cons_self
    · rw [List.mem_singleton.mp z]
      exact hl _ (List.mem_cons_of_mem _ List.mem_cons_self)
  · obtain ⟨⟨pl, ev⟩, hi, hw⟩ := kE h.objs.size
    have m1 : ([(("self" : Str), Value.ref e), (f, v)] : List (Str × Value)).reverse.lookup ("self" : Str) = some (Value.ref e) := by
      have z : (("self" : Str) == f) = false := by simpa using Ne.symm hf
      simp [List.lookup, z]
    have m2 : ([(("self" : Str), Value.ref e), (f, v)] : List (Str × Value)).reverse.lookup f = some v := by simp [List.lookup]
    refine PySem.ks_wpAt_execs_cons (sup_at T (X.keeps kp) (gl.keeps kp) (bl.keeps kp) bs (kp _ _ he) hn m1 lI lD l2 lf lC hp ha k1 k2 (hl _ List.mem_cons_self) k4 ev hi hw fun h2 tk t1 k o2 => ?_)
    have kn : e ≠ h.objs.size := Nat.ne_of_lt (Heap.lt_size he)
    have hn2 : h2.Ns h.objs.size (fun y => ([(("self" : Str), Value.ref e), (f, v)] : List (Str × Value)).reverse.lookup y) := by
      obtain ⟨o, es, n, z1, z2⟩ := hn
      exact ⟨o, es, n, k _ _ (Ne.symm kn) z1, z2⟩
    have X2 : K.In h2 := fun b o z => k b o (fun y => by
      rw [y, hnx] at z
      cases z) (kp _ _ (X _ _ z))
    refine PySem.wpAt_of_wpAny (wpAny_execs_cons (plainObj_wpAny_Assign_Attribute (wpAny_Name (wpAny_loadName_local k4 (hl _ (List.mem_cons_of_mem _ List.mem_cons_self)) hn2 m2 (wpAny_Name (wpAny_loadName_local k4 (hl _ List.mem_cons_self) hn2 m1 ?_) (by decide))) hd) (sw _)))
    refine PySem.W.set_plain X2 (ox := exO C t1) (od := none) ⟨o2, rfl, rfl, trivial⟩ Fx.sa (PySem.HandSPX.exc_osa X2 o2 hcl (show PySem.HandSPX.refsVE (.ref C :: bm) = true from hbm) rfl Fx.no fun h3 tk3 dx k3 dn dne o3 n3 => ?_)
    exact wpAny_execs_nil (hq h3 tk3 t1 dx (fun b o nb z => k3 b o nb (k b o nb (kp b o z))) o3 (Nat.le_of_lt (Nat.lt_of_lt_of_le hn2.lt dn)) dne n3)
end
section
variable {X : Cx} {W : WX} {T : Tb} {k j : Nat} {x f : Str} {C fI : Addr} {p pos pos2 : Pos} {a : Expr} {g : Env' → Ro D} {ta : TA}
theorem relO_one {v : V} {v' : Value} (r : RelV v v') (y : Str) : RelO (List.lookup y [(f, v)]) (if y = f then some v' else none) := by
  by_cases hw : y = f
  · subst hw
    simpa [List.lookup, RelO] using r
  · have qw : (y == f) = false := by simpa using hw
    rw [if_neg hw]
    simp [List.lookup, qw, RelO]
/-- C(e) -/
theorem pmk1 {q1 q2 q3 q4 : Pos} (tx : ETx X.prog X.K X.mg x C) (fx : FTx X.K C f) (hf : f ≠ "self") (ix : ITx X.prog X.K C fI ["self", f] [keepS f q1 q2 q3 q4]) (sw : ∀ env : Env, swapsWith (.Name f q3) (some (.Attribute (.Name "self" q1) f q2)) q4.line env = pure false) (hd : (f == ("__debug__" : Str)) = false) (hr : Room (k + 1) X.A) (ha : PA X [a] ta) (hg : Gl X x)
    (hdb : (x == ("__debug__" : Str)) = false := by decide) (he : starEach (a :: []) X.env = (false, eval a X.env) :: starEach [] X.env := by rfl) (hpl : (backTo pos (starEach [] X.env)).any (·.1) = false := by rfl) :
    PMk X (.Call (.Name x p) [a] [] pos) (fun σ H Q => ta σ H fun vs H1 => ∃ v, vs = [v] ∧ ∀ dx, H1 dx = none → Q (.ref C) (some dx) (upd H1 dx (.xd [(f, v)]))) := by
  intro pins s σ H Q I h
  obtain ⟨nm, q, N, bas, bm, sn, sub, ab, col, dd, w0, w1, w2, w3, w5, lcls, hbm⟩ := tx.cls
  refine wpAny_Call_Name_kw (ld_glob I hg tx.gC (PySem.W.callWith_K (h₀ := X.base) I.ok.mod.kin tx.kC (thn (ha.run pos pins s σ H _ I h) fun us s1 hh => ?_) he hpl) hdb)
  obtain ⟨vs, H1, I1, r1, v, rfl, q1'⟩ := hh
  refine ⟨I1.kIn, ?_⟩
  obtain ⟨v', rfl, rv⟩ := vals1 r1
  obtain ⟨mb, b1, b2⟩ := I1.mod.blt
  have gl := I1.mod.glob.keeps I1.bk
  have bl := b1.keeps I1.bk
  have nl := I1.nolimit
  obtain ⟨hp, gs, dr, tk, os⟩ := s1
  have kp : ∀ b o, hp.get? b = some o → ((hp.push (PySem.W.kdv_tup [v'])).push (PySem.HandSPX.excO C hp.objs.size)).get? b = some o := fun b o e => Heap.get?_push_of_some _ (Heap.get?_push_of_some _ e)
  have he' : ((hp.push (PySem.W.kdv_tup [v'])).push (PySem.HandSPX.excO C hp.objs.size)).get? (hp.objs.size + 1) = some (exO C hp.objs.size) := by heap_get
  have big : hp.objs.size ≤ hp.objs.size + 1 := Nat.le_succ _
  have no : hp.get? (hp.objs.size + 1) = none := Heap.get?_none_of_le big
  have hnx : X.K.lookup (hp.objs.size + 1) = none := by
    cases e : X.K.lookup (hp.objs.size + 1) with
    | none => rfl
    | some o =>
      have z := I1.kIn _ _ e
      rw [show (Shared.heap ⟨hp, gs, dr, tk, os⟩).get? (hp.objs.size + 1) = none from no] at z
      cases z
  refine wpAny_call (PySem.HandSPX.call_own PySem.F.excBase_ValueError (fun Y => PySem.HandSPX.refsVE_contains Y bm hbm) (I1.kIn _ _ lcls) (PySem.W.looks_findIn I1.kIn ix.iC) (fun self => PySem.W.bind_fn I1.kIn self ix.tI) (show 1 ≤ sizeLine by rw [sizeLine_eq]; decide) ?_)
  refine init1 tx fx hf ix sw hd hnx (I1.kIn.keeps kp) (nl.keeps kp) (gl.keeps kp) (bl.keeps kp) (b2 _ (by decide)) he' (by rw [make_depth]; have := hr.dp; omega) fun h' t' t1 dx k o' dn dne ns => ?_
  have dn' : hp.objs.size ≤ dx := by
    have z := dn
    rw [Heap.size_push, Heap.size_push] at z
    omega
  have old : ∀ b o, hp.get? b = some o → h'.get? b = some o := fun b o e => k b o (Nat.ne_of_lt (Nat.lt_of_lt_of_le (Heap.lt_size e) big)) (kp b o e)
  obtain ⟨G', g1, g2⟩ := restrict h' fun b => decide (b ≠ hp.objs.size + 1)
  have gk : ∀ b, b ≠ hp.objs.size + 1 → G'.get? b = h'.get? b := fun b hb => g1 b (decide_eq_true hb)
  have ge : G'.get? (hp.objs.size + 1) = none := g2 _ (by simp)
  have ob : ObjOk X.prog X.w (upd H1 dx (.xd [(f, v)])) G' dx (.xd [(f, v)]) := ⟨_, ns.at (fun o z => (gk dx dne).trans z), fun y => relO_one rv y⟩
  have J : Inv X pins σ (upd H1 dx (.xd [(f, v)])) ⟨G', gs, dr, t', os⟩ := I1.laid (t' := t') (fun b o z => (gk b (Nat.ne_of_lt (Nat.lt_of_lt_of_le (Heap.lt_size z) big))).trans (old b o z)) dn' ob
  refine ⟨rfl, _, _, _, ⟨G', gs, dr, t', os⟩, _, .ref C, some dx, rfl, J, fun b o z => ?_, ge, o', ⟨rfl, rfl⟩, rfl, rfl, ?_, rfl, I1.bare, raises_own tx.exC tx.tyC, q1' dx (I1.hok.fresh dn')⟩
  · have nb : b ≠ hp.objs.size + 1 := fun e => by
      have z' : G'.get? b = some o := z
      rw [e, ge] at z'
      cases z'
    exact (gk b nb).symm.trans z
  · rw [upd_ne (Ne.symm dne)]
    exact I1.hok.fresh big
/-- raise C(e) -/
def sRaise1 (x f : Str) (g : Env' → Ro D) : Env' → So := fun env => ofRo (g env) fun d e => .exc x (some (f, d)) e
theorem ss_raise1 {q1 q2 q3 q4 : Pos} (Fr : Fra X j W) (tx : ETx X.prog X.K X.mg x C) (fx : FTx X.K C f) (hf : f ≠ "self") (ix : ITx X.prog X.K C fI ["self", f] [keepS f q1 q2 q3 q4]) (sw : ∀ env : Env, swapsWith (.Name f q3) (some (.Attribute (.Name "self" q1) f q2)) q4.line env = pure false) (hd : (f == ("__debug__" : Str)) = false) (hk : k + 1 ≤ j) (ha : SE X T W a g) (hg : Gl X x)
    (hdb : (x == ("__debug__" : Str)) = false := by decide) (he : starEach (a :: []) X.env = (false, eval a X.env) :: starEach [] X.env := by rfl) (hpl : (backTo pos (starEach [] X.env)).any (·.1) = false := by rfl) : SS X T W (.Raise (some (.Call (.Name x p) [a] [] pos)) none pos2) (sRaise1 x f g) :=
  PS.weak (ps_raise Fr.C.calm Fr.tk (pmk1 (k := k) tx fx hf ix sw hd (Fr.C.room.mono hk) (pa_cons ha pa_nil he) hg hdb he hpl)) fun De σ H h => rdS_bind (R := isD (gm X)) h fun F env d v H1 S1 i1 h1 => ⟨v, rfl, fun dx hn => by
    have n : New H1 (upd H1 dx (.xd [(f, v)])) := New.upd hn
    exact h1 (.ref C) (some dx) σ _ n.stp (S1.new n) ⟨C, tx.gC, rfl, dx, v, rfl, upd_same, Is.mono (n.le S1) _ _ i1⟩⟩
end
end Rf

namespace Rf
open PySem L2 LamX

/-! ## try -/
section
variable {G : Gm} {T : Tb} {F : Addr → Prop} {σ σ' : St} {H H' : Hp} {env e : Env'} {i : Nat} {a : Addr}
theorem ow_drop {x : Option V} {b : Addr} (z : Ow (σ.set i x) (env.set i .no) b) : Ow σ env b := by
  obtain ⟨j, d, h1, h2⟩ := z
  rcases get_set h1 with ⟨_, q, _⟩ | ⟨q, h1⟩
  · cases q
  · rw [List.getElem?_set_ne q] at h2
    exact ⟨j, d, h1, h2⟩
theorem le_drop {x : Option V} : Le (hid H (Hd F σ env)) (hid H (Hd F (σ.set i x) (env.set i .no))) := Le.hid fun b o e _ k => ⟨fun z => k (by
  rcases z with z | z
  · exact .inl (ow_drop z)
  · exact .inr z), e⟩
theorem stp_drop {x : Option V} : Stp σ H env (σ.set i x) H (env.set i .no) := ⟨fun _ _ e _ _ => e, fun a _ k z => k (ow_drop z), fun _ e => e⟩
/-- the slot i is let go, or holds what is no data; T2 what is kept from now on -/
theorem Sta.drop {T2 : Tb} (S : Sta G T F σ H env) (x : Option V) (tb : TabP T2 (σ.set i x) H) (ol : OldP T2 (σ.set i x) H (env.set i .no)) (vi : Le T2.vis (hid H (Hd F (σ.set i x) (env.set i .no)))) : Sta G T2 F (σ.set i x) H (env.set i .no) := by
  refine ⟨by rw [List.length_set, List.length_set]; exact S.len, fun j s e => ?_, fun j k d d' b h1 h2 h3 h4 => ?_, fun b z => S.fr b (ow_drop z), S.fd, tb, ol, vi⟩
  · rcases get_set e with ⟨e1, e2, e3⟩ | ⟨e1, e⟩
    · subst e1 e2
      exact ⟨x, List.getElem?_set_self (by rw [← S.len]; exact e3), trivial⟩
    · obtain ⟨y, q1, q2⟩ := S.sl j s e
      exact ⟨y, by rw [List.getElem?_set_ne e1]; exact q1, q2.mono le_drop fun _ _ _ _ => rfl⟩
  · rcases get_set h1 with ⟨_, q, _⟩ | ⟨n1, h1⟩
    · cases q
    rcases get_set h2 with ⟨_, q, _⟩ | ⟨n2, h2⟩
    · cases q
    rw [List.getElem?_set_ne n1] at h3
    rw [List.getElem?_set_ne n2] at h4
    exact S.dis j k d d' b h1 h2 h3 h4
open Classical in
/-- the frame from here on: slot i holds a -/
noncomputable def tbS (T : Tb) (σ : St) (H : Hp) (env : Env') (F : Addr → Prop) (i : Nat) (a : Addr) : Tb := ⟨T.tabs, (i, a) :: T.pins, fun b => if Ow σ env b then none else H b, hid H (Hd F σ env)⟩
theorem tbS_old {b : Addr} {o : HO} (h : (tbS T σ H env F i a).old b = some o) : ¬ Ow σ env b ∧ H b = some o := by
  unfold tbS at h
  simp only at h
  split at h
  · cases h
  · rename_i q
    exact ⟨q, h⟩
theorem tbS_no {b : Addr} (h : (tbS T σ H env F i a).old b = none) : H b = none ∨ Ow σ env b := by
  unfold tbS at h
  simp only at h
  split at h
  · rename_i q
    exact .inr q
  · exact .inl h
theorem sta_suite (S : Sta G T F σ H env) (fr : Fr T i) (hl : i < σ.length) : Sta G (tbS T σ H env F i a) F (σ.set i (some (.ref a))) H (env.set i .no) := by
  refine S.drop _ ⟨S.tab.1, fun p hp => ?_⟩ ⟨fun b o e _ => (tbS_old e).2, fun b e => ?_, fun b z => ?_⟩ le_drop
  · rcases List.mem_cons.mp hp with z | z
    · rw [z]
      exact List.getElem?_set_self hl
    · rw [List.getElem?_set_ne (fr p z).symm]
      exact S.tab.2 p z
  · cases q : (tbS T σ H env F i a).old b with
    | none => exact absurd q e
    | some o =>
      rw [(tbS_old q).2]
      simp
  · unfold tbS
    simp only
    rw [if_pos (ow_drop z)]
theorem sta_unsuite {F' : Addr → Prop} (S : Sta G T F σ H env) (fr : Fr T i) (S' : Sta G (tbS T σ H env F i a) F' σ' H' e) : Sta G T F' (σ'.set i none) H' (e.set i .no) := by
  refine S'.drop _ ⟨S'.tab.1, fun p hp => ?_⟩ ⟨fun b o z n => ?_, fun b z => ?_, fun b z => ?_⟩ ((S.vis.trans S'.vis).trans le_drop)
  · rw [List.getElem?_set_ne (fr p hp).symm]
    exact S'.tab.2 p (List.mem_cons_of_mem _ hp)
  · refine S'.old.kp b o ?_ n
    unfold tbS
    simp only
    rw [if_neg fun w => by rw [S.old.ow b w] at z; cases z]
    exact S.old.kp b o z n
  · refine S'.old.dm b ?_
    unfold tbS
    simp only
    rw [if_neg fun w => by rw [S.old.ow b w] at z; exact z rfl]
    exact S.old.dm b z
  · exact S.old.free (tbS_no (S'.old.ow b (ow_drop z)))
end
/-- the exception that a suite holds in slot i: an own one of the class c, what it keeps -/
structure HeldX (X : Cx) (T : Tb) (i : Nat) (c : Str) (p : Option (Str × D)) (a C : Addr) (dd : Option Addr) (oe : Obj) : Prop where
  hz : Zc (.ref C) dd oe
  hf : ∃ vs, oe.data = .fields vs
  gC : X.mg c = some (.ref C)
  pin : (i, a) ∈ T.pins
  fld : match p with
    | none => dd = none
    | some (f, d) => ∃ x v, dd = some x ∧ T.old x = some (.xd [(f, v)]) ∧ Is (gm X) T.vis d v
def offS (i : Nat) : So → So
  | .nx e => .nx (e.set i .no)
  | .ret d e => .ret d (e.set i .no)
  | .retF d e => .retF d (e.set i .no)
  | .bk e => .bk (e.set i .no)
  | .ct e => .ct (e.set i .no)
  | .exc _ _ _ => .stk
  | .stk => .stk
/-- try: .. except E as n: ..; errs: the own classes that E takes -/
def sTry (i : Nat) (errs : List Str) (f : Env' → So) (g : Str → Option (Str × D) → Env' → So) : Env' → So := fun env => match f env with
  | .exc c p e => if errs.contains c && decide (i < e.length) then offS i (g c p (e.set i .no)) else .stk
  | r => r
section
variable {X : Cx} {T : Tb} {W : WX} {k i : Nat} {x n : Str} {C0 : Addr} {body suite : List Stmt} {b₀ : Stmt} {np pos pos' : Pos} {f : Env' → So} {g : Str → Option (Str × D) → Env' → So} {errs : List Str}
theorem ss_try (Fr' : Fra X k W) (hs : X.stack = X.env :: X.outer) (hf : X.env.frame = some X.env.locals) (hi : X.N[i]? = some n) (hln : X.env.kindOf n = some .local) (hg : Gl X x) (hm : X.mg x = some (.ref C0)) (hdb : (x == ("__debug__" : Str)) = false) (fr : Fr T i)
    (he : ∀ c C, errs.contains c = true → X.mg c = some (.ref C) → PySem.W.exmOne X.K (.ref C) (.ref C0) = some true) (hb : ∀ W' pn xe, Fra (X.tr pn xe) k W' → SB (X.tr pn xe) T W' body f)
    (hsu : ∀ (T' : Tb) (c : Str) (p : Option (Str × D)) (a C : Addr) (dd : Option Addr) (oe : Obj) (pn : List (Addr × Obj)), errs.contains c = true → HeldX X T' i c p a C dd oe → (∀ q ∈ T'.pins, q = (i, a) ∨ q ∈ T.pins) → SB (X.suite a ((a, oe) :: pn)) T' noW (b₀ :: suite) (g c p)) :
    SS X T W (.Try body [.ExceptHandler (some (.Name x np)) (some n) (b₀ :: suite) pos'] [] [] pos) (sTry i errs f g) := by
  refine PS.weak (ps_try_as (c := .ref C0) (i := i) (tb := fun W' => rdS (gm X) T f W')
    (ts := fun a cls dd De σ H => ∃ (T' : Tb) (c : Str) (p : Option (Str × D)) (C : Addr), cls = .ref C ∧ errs.contains c = true ∧ (∀ oe, Zc cls dd oe → (∃ vs, oe.data = .fields vs) → HeldX X T' i c p a C dd oe) ∧ (∀ q ∈ T'.pins, q = (i, a) ∨ q ∈ T.pins) ∧ rdS (gm X) T' (g c p) noW De σ H)
    hs hf Fr'.C.nd hi hln ⟨hg, hdb, .inl hm⟩ Fr'.tk (fun W' pn xe tk po => hb W' pn xe ⟨⟨Fr'.C.room, Fr'.C.gd, Fr'.C.calm, Fr'.C.nd⟩, tk, po⟩)
    (fun a oe cls dd pn hz hv => ⟨fun pins s σ H De I h => by
      obtain ⟨T', c, p, C, ec, hc, hh, hp, h⟩ := h
      have q := hh oe hz hv
      exact (hsu T' c p a C dd oe pn hc q hp).run pins s σ H De I h⟩)) fun De σ H h => ?_
  obtain ⟨F, env, S, h⟩ := h
  refine ⟨F, env, S, ?_⟩
  unfold sTry at h
  cases ef : f env with
  | exc c p e =>
    rw [ef] at h
    simp only at h
    split at h
    · rename_i hc
      obtain ⟨hc, hl⟩ := Bool.and_eq_true_iff.mp hc
      have hl := of_decide_eq_true hl
      intro cls dd σ1 H1 s1 S1 ix
      obtain ⟨C, gC, rfl, hp⟩ := ix
      refine ⟨true, he c C hc gC, fun _ a na => ?_, fun z => by cases z⟩
      refine ⟨tbS T σ1 H1 e F i a, c, p, C, rfl, hc, fun oe hz hv => ⟨hz, hv, gC, List.mem_cons_self, ?_⟩, fun q hq => List.mem_cons.mp hq, F, e.set i .no, sta_suite S1 fr (by rw [← S1.len]; exact hl), ?_⟩
      · cases p with
        | none => exact hp
        | some p =>
          obtain ⟨fl, d⟩ := p
          obtain ⟨y, v, h1, h2, h3⟩ := hp
          refine ⟨y, v, h1, ?_, h3⟩
          unfold tbS
          simp only
          rw [if_neg fun w => ?_]
          · exact h2
          · obtain ⟨j, d', w1, w2⟩ := w
            obtain ⟨x', w3, w4⟩ := S1.sl j _ w1
            rw [w2] at w3
            cases w3
            obtain ⟨a', w5, w6⟩ := w4
            cases w5
            cases d' <;> first
              | exact w6.elim
              | (obtain ⟨vs, w7, _⟩ := w6
                 rw [h2] at w7
                 cases w7)
      · have sE : Stp σ1 H1 e (σ1.set i (some (.ref a))) H1 (e.set i .no) := stp_drop
        cases eg : g c p (e.set i .no) with
        | nx e2 =>
          rw [eg] at h
          intro σ2 H2 s2 S2
          exact h _ H2 (((s1.trans sE).trans s2).trans stp_drop) (sta_unsuite S1 fr S2)
        | bk e2 =>
          rw [eg] at h
          intro σ2 H2 s2 S2
          exact h _ H2 (((s1.trans sE).trans s2).trans stp_drop) (sta_unsuite S1 fr S2)
        | ct e2 =>
          rw [eg] at h
          intro σ2 H2 s2 S2
          exact h _ H2 (((s1.trans sE).trans s2).trans stp_drop) (sta_unsuite S1 fr S2)
        | ret d e2 =>
          rw [eg] at h
          intro v σ2 H2 s2 S2 iv
          exact h v _ H2 (((s1.trans sE).trans s2).trans stp_drop) (sta_unsuite S1 fr S2) (Is.mono le_drop _ _ iv)
        | retF d e2 =>
          rw [eg] at h
          intro b σ2 H2 s2 S2 o nb
          exact h b _ H2 (((s1.trans sE).trans s2).trans stp_drop) (sta_unsuite S1 fr S2) (o.mono le_drop rfl) ((s1.trans sE).back nb)
        | exc c' p' e2 => rw [eg] at h; exact h.elim
        | stk => rw [eg] at h; exact h.elim
    · exact h.elim
  | nx e => rw [ef] at h; exact h
  | ret d e => rw [ef] at h; exact h
  | retF d e => rw [ef] at h; exact h
  | bk e => rw [ef] at h; exact h
  | ct e => rw [ef] at h; exact h
  | stk => rw [ef] at h; exact h
end
end Rf

namespace Rf
open PySem L2 LamX
open PyProof.Rows hiding St

/-! ## isinstance of the exception that a suite holds -/
section
variable {X : Cx} {T : Tb} {W : WX} {i : Nat} {c : Str} {a C Dy : Addr} {dd : Option Addr} {oe : Obj} {pn : List (Addr × Obj)} {n y : Str} {b : Bool} {p p1 p2 pos : Pos}
theorem is_law {cv : Value} {cV : V} (hp : (i, a) ∈ T.pins) (hcv : ∀ u, RelV cV u → u = cv) (hk : PySem.W.kitOne X.K (.ref C) cv = some b) {σ : St} {H : Hp} {Q : VK} (h : rd (gm X) T (isD (gm X)) (eC (.bl b)) W σ H Q) : tCB (rIsE X.K C a) (tCons (tVar i) (tCons (tC cV) tNil)) σ H Q := by
  obtain ⟨F, env, S, h⟩ := h
  exact ⟨.ref a, S.tab.2 _ hp, cV, cv, b, rfl, hcv, hk, h (.bl b) H .refl S rfl⟩
/-- isinstance(e, Y), Y an own class -/
theorem se_isX (hh : HeldX X T i c none a C dd oe) (ec : ExcC X.K C) (hk : PySem.W.kitOne X.K (.ref C) (.ref Dy) = some b) (hm : X.mg y = some (.ref Dy)) (hN : X.N[i]? = some n) (hv : X.env.kindOf n = some .local) (hg : Gl X "isinstance") (hmi : X.mg "isinstance" = none) (hgy : Gl X y)
    (hd : (n == ("__debug__" : Str)) = false := by decide) (hcd : (n == ("__classdict__" : Str)) = false := by decide) (hdy : (y == ("__debug__" : Str)) = false := by decide)
    (h0 : starEach [.Name n p1, .Name y p2] X.env = (false, eval (.Name n p1) X.env) :: starEach [.Name y p2] X.env := by rfl) (h1 : starEach [.Name y p2] X.env = (false, eval (.Name y p2) X.env) :: starEach [] X.env := by rfl) (hpl : (backTo pos (starEach [.Name y p2] X.env)).any (·.1) = false := by rfl) :
    SE (X.suite a ((a, oe) :: pn)) T W (.Call (.Name "isinstance" p) [.Name n p1, .Name y p2] [] pos) (eC (.bl b)) := by
  have hz := hh.hz
  have e0 : dd = none := hh.fld
  rw [e0] at hz
  exact PE.weak (pe_callB (X := X.suite a ((a, oe) :: pn)) (call_isE ec hz hh.hf) hg hmi (by decide +kernel) (pa_cons (pe_var (i := i) hN (.inl hv) hd hcd) (pa_cons (pe_glob (v := .ref Dy) hgy hm rfl hdy) pa_nil h1) h0) (he := h0) (hpl := hpl)) fun σ H Q h => is_law (cv := .ref Dy) (cV := .ref Dy) hh.pin (fun u r => r) hk h
/-- isinstance(e, Y), Y a built-in class -/
theorem se_isB {id : String} (hh : HeldX X T i c none a C dd oe) (ec : ExcC X.K C) (hk : PySem.W.kitOne X.K (.ref C) (.type id) = some b) (hm : X.mg y = none) (hby : bootBuiltins y = some (.type id)) (hN : X.N[i]? = some n) (hv : X.env.kindOf n = some .local) (hg : Gl X "isinstance") (hmi : X.mg "isinstance" = none) (hgy : Gl X y)
    (hny : y ≠ "__name__" := by decide) (hd : (n == ("__debug__" : Str)) = false := by decide) (hcd : (n == ("__classdict__" : Str)) = false := by decide) (hdy : (y == ("__debug__" : Str)) = false := by decide)
    (h0 : starEach [.Name n p1, .Name y p2] X.env = (false, eval (.Name n p1) X.env) :: starEach [.Name y p2] X.env := by rfl) (h1 : starEach [.Name y p2] X.env = (false, eval (.Name y p2) X.env) :: starEach [] X.env := by rfl) (hpl : (backTo pos (starEach [.Name y p2] X.env)).any (·.1) = false := by rfl) :
    SE (X.suite a ((a, oe) :: pn)) T W (.Call (.Name "isinstance" p) [.Name n p1, .Name y p2] [] pos) (eC (.bl b)) := by
  have hz := hh.hz
  have e0 : dd = none := hh.fld
  rw [e0] at hz
  exact PE.weak (pe_callB (X := X.suite a ((a, oe) :: pn)) (call_isE ec hz hh.hf) hg hmi (by decide +kernel) (pa_cons (pe_var (i := i) hN (.inl hv) hd hcd) (pa_cons (pe_bltn (v := .ty id) hgy hm hby rfl hny hdy) pa_nil h1) h0) (he := h0) (hpl := hpl)) fun σ H Q h => is_law (cv := .type id) (cV := .ty id) hh.pin (fun u r => r) hk h
end
/-! ## list.count, list.index of flat items -/
def fltV : D → Option V
  | .non => some .non
  | .bl b => some (.bl b)
  | .int i => some (.int i)
  | .str x => some (.str x)
  | _ => none
def fltVs : List D → Option (List V)
  | [] => some []
  | d :: ds => match fltV d, fltVs ds with
    | some v, some vs => some (v :: vs)
    | _, _ => none
theorem fltV_is {G : Gm} {H : Hp} {d : D} {v w : V} (e : fltV d = some v) (i : Is G H d w) : w = v ∧ flatV v = true := by
  cases d <;> first
    | (simp only [fltV, Option.some.injEq] at e; subst e; exact ⟨i, rfl⟩)
    | (simp [fltV] at e)
theorem fltVs_is {G : Gm} {H : Hp} : ∀ {ds : List D} {vs ws : List V}, fltVs ds = some vs → IsL G H ds ws → ws = vs ∧ vs.all flatV = true
  | [], vs, ws, e, i => by
    simp only [fltVs, Option.some.injEq] at e
    subst e
    exact ⟨i, rfl⟩
  | d :: ds, vs, ws, e, i => by
    unfold fltVs at e
    split at e
    · rename_i v r e1 e2
      obtain rfl := Option.some.inj e
      obtain ⟨x, r', rfl, i1, i2⟩ := i
      obtain ⟨z1, f1⟩ := fltV_is e1 i1
      obtain ⟨z2, f2⟩ := fltVs_is e2 i2
      rw [z1, z2]
      exact ⟨rfl, by rw [List.all_cons, f1, f2]; rfl⟩
    · cases e
def rCntF (K : PySem.W.Frag) : V → List V → Hp → VK → Prop := fun x xs H Q => ∃ (a : Addr) (ys : List V) (y : V), x = V.ref a ∧ xs = [y] ∧ SqL K H a ys ∧ flatV y = true ∧ ys.all flatV = true ∧ Q (.int (ys.countP (fun z => eqV z y) : Nat)) H
theorem cnt_eqU {y : V} : ∀ {ys : List V} {us : List Value}, Vals ys us → ys.all flatV = true → us.countP (eqU y) = ys.countP fun z => eqV z y
  | _, _, .nil, _ => rfl
  | z :: ys, u :: us, .cons r t, f => by
    rw [List.all_cons, Bool.and_eq_true] at f
    rw [List.countP_cons, List.countP_cons, cnt_eqU t f.2, eqU_of r f.1]
theorem mt_cntF {X : Cx} : MtR X "list.count" (rCntF X.K) := by
  intro pins s σ H x xs v us Q I rx rxs h
  obtain ⟨a, ys, y, rfl, rfl, hs, fy, fys, q⟩ := h
  cases rx
  obtain ⟨u, rfl, ry⟩ := rxs.one
  obtain ⟨its, rv, ⟨⟨cls, dd, data, sl⟩, n, ho, hc, hdn, hd⟩, hlen⟩ := I.list hs
  simp only at hc hd
  subst hc hd
  refine call_meets PySem.F.slot_list_count ⟨_, ho, rfl⟩ PySem.F.entry_list_count (PySem.F.args_list_count_2 _ _) (SeqAt.list_countAt a its.toArray n dd sl u (eqU y)) ⟨ho, fun z hz => mem_eqAt ry fy rv fys z (by simpa using hz), ?_⟩
  refine ⟨.int (ys.countP (fun z => eqV z y) : Nat), H, I.tok _, ⟨s.toks, ?_⟩, q⟩
  show Value.int ((its.toArray.toList.countP (eqU y) : Nat) : Int) s.toks = Value.int ((ys.countP (fun z => eqV z y) : Nat) : Int) s.toks
  rw [show its.toArray.toList.countP (eqU y) = its.countP (eqU y) by simp, cnt_eqU rv fys]
def dCount (xs : List D) (y : D) : Option D := match fltVs xs, fltV y with
  | some ys, some v => some (.int (ys.countP (fun z => eqV z v) : Nat))
  | _, _ => none
def dIndex (xs : List D) (y : D) : Option D := match fltVs xs, fltV y with
  | some ys, some v => (match ys.findIdx? (fun z => eqV z v) with
    | some j => some (.int (j : Nat))
    | none => none)
  | _, _ => none
/-- a method of the list that a name holds -/
def eLm (o : List D → D → Option D) (i : Nat) (g : Env' → Ro D) : Env' → Ro D := fun env => match slotD env i with
  | some (.lst _) => (g env).bind fun k e => match slotD e i with
    | some (.lst xs) => lift (o xs k) e
    | _ => .stk
  | _ => .stk
section
variable {X : Cx} {T : Tb} {W : WX} {b : Expr} {g : Env' → Ro D} {x name : Str} {p p2 p3 : Pos} {id : String} {r : V → List V → Hp → VK → Prop} {o : List D → D → Option D}
theorem se_lm (i : Nat) (slot : PySem.Slot "list" name id) (hty : typeOf (.builtin id) = pure (.type "method_descriptor")) (hm : MtR X id r)
    (ho : ∀ {Hs H : Hp} {a : Addr} {xs : List D} {vs : List V} {k d : D} {w : V} {Q : VK}, Le Hs H → H a = some (.lst vs) → IsL (gm X) Hs xs vs → Is (gm X) Hs k w → o xs k = some d → (∀ v, Is (gm X) Hs d v → Q v H) → r (.ref a) [w] H Q) (hb : SE X T W b g) (hN : X.N[i]? = some x := by rfl)
    (hv : Vis X.env.scope x := by first | exact Or.inl rfl | exact Or.inr (Or.inl rfl) | exact Or.inr (Or.inr rfl)) (hd : (x == ("__debug__" : Str)) = false := by decide) (hcd : (x == ("__classdict__" : Str)) = false := by decide)
    (hbase : attributeBase (.Name x p) name X.env (eval (.Name x p) X.env) = eval (.Name x p) X.env := by rfl)
    (hfew : ((backTo p3 (starEach (b :: []) X.env)).all (fun x => !x.1) && (backToKw p3 (keywordEach [] X.env)).all (fun x => x.1.isSome) && decide ((b :: []).length + ([] : List Keyword).length + (if ([] : List Keyword).isEmpty then 0 else 1) < 30)) = true := by rfl)
    (hline : (p2.endLine == p3.line) = true := by rfl) (hs : starEach (b :: []) X.env = (false, eval b X.env) :: starEach [] X.env := by rfl) : SE X T W (.Call (.Attribute (.Name x p) name p2) [b] [] p3) (eLm o i g) :=
  PE.weak (pe_bm PySem.F.plainAttrs_list slot hty hm (pe_var hN hv hd hcd) (pa_cons hb pa_nil hs) hbase hfew hline hs (by rfl)) fun σ H Q h => by
    obtain ⟨F, env, S, h⟩ := h
    unfold eLm at h
    split at h
    · rename_i xs0 e0
      obtain ⟨v, h1, b0⟩ := slot_bis S e0
      obtain ⟨a, vs0, rfl, s0, m0⟩ := b0.lst Le.unhid
      refine ⟨.ref a, h1, .inl ⟨rfl, vs0, .inl (.inl s0)⟩, F, env, S, Rst.bind (R := isD (gm X)) S h fun d2 w H2 env2 s2 S2 i2 h2 => ?_⟩
      split at h2
      · rename_i xs e
        obtain ⟨v', h1', b2⟩ := slot_bis S2 e
        rw [h1] at h1'
        obtain rfl := Option.some.inj (Option.some.inj h1')
        obtain ⟨z, e2, h2⟩ := lift_some h2
        obtain ⟨a', vs, e3, s3, m3⟩ := b2.lst Le.unhid
        cases e3
        exact ho Le.unhid s3 m3 i2 e2 fun v iv => fin_same (R := isD (gm X)) S2 iv h2
      · exact h2.elim
    · exact h.elim
theorem se_count (i : Nat) (hb : SE X T W b g) (hN : X.N[i]? = some x := by rfl) (hv : Vis X.env.scope x := by first | exact Or.inl rfl | exact Or.inr (Or.inl rfl) | exact Or.inr (Or.inr rfl)) (hd : (x == ("__debug__" : Str)) = false := by decide)
    (hcd : (x == ("__classdict__" : Str)) = false := by decide) (hbase : attributeBase (.Name x p) "count" X.env (eval (.Name x p) X.env) = eval (.Name x p) X.env := by rfl)
    (hfew : ((backTo p3 (starEach (b :: []) X.env)).all (fun x => !x.1) && (backToKw p3 (keywordEach [] X.env)).all (fun x => x.1.isSome) && decide ((b :: []).length + ([] : List Keyword).length + (if ([] : List Keyword).isEmpty then 0 else 1) < 30)) = true := by rfl)
    (hline : (p2.endLine == p3.line) = true := by rfl) (hs : starEach (b :: []) X.env = (false, eval b X.env) :: starEach [] X.env := by rfl) : SE X T W (.Call (.Attribute (.Name x p) "count" p2) [b] [] p3) (eLm dCount i g) :=
  se_lm i PySem.F.slot_list_count PySem.F.type_list_count mt_cntF (fun {Hs H a xs vs k d w Q} l s m ik e q => by
    unfold dCount at e
    split at e
    · rename_i ys v e1 e2
      obtain rfl := Option.some.inj e
      obtain ⟨z1, f1⟩ := fltVs_is e1 m
      obtain ⟨z2, f2⟩ := fltV_is e2 ik
      exact ⟨a, ys, v, rfl, by rw [z2], by rw [← z1]; exact .inl (.inl s), f2, f1, q _ rfl⟩
    · cases e) hb hN hv hd hcd hbase hfew hline hs
theorem se_index (i : Nat) (hb : SE X T W b g) (hN : X.N[i]? = some x := by rfl) (hv : Vis X.env.scope x := by first | exact Or.inl rfl | exact Or.inr (Or.inl rfl) | exact Or.inr (Or.inr rfl)) (hd : (x == ("__debug__" : Str)) = false := by decide)
    (hcd : (x == ("__classdict__" : Str)) = false := by decide) (hbase : attributeBase (.Name x p) "index" X.env (eval (.Name x p) X.env) = eval (.Name x p) X.env := by rfl)
    (hfew : ((backTo p3 (starEach (b :: []) X.env)).all (fun x => !x.1) && (backToKw p3 (keywordEach [] X.env)).all (fun x => x.1.isSome) && decide ((b :: []).length + ([] : List Keyword).length + (if ([] : List Keyword).isEmpty then 0 else 1) < 30)) = true := by rfl)
    (hline : (p2.endLine == p3.line) = true := by rfl) (hs : starEach (b :: []) X.env = (false, eval b X.env) :: starEach [] X.env := by rfl) : SE X T W (.Call (.Attribute (.Name x p) "index" p2) [b] [] p3) (eLm dIndex i g) :=
  se_lm i PySem.F.slot_list_index PySem.F.type_list_index mt_index (fun {Hs H a xs vs k d w Q} l s m ik e q => by
    unfold dIndex at e
    split at e
    · rename_i ys v e1 e2
      split at e
      · rename_i j e3
        obtain rfl := Option.some.inj e
        obtain ⟨z1, f1⟩ := fltVs_is e1 m
        obtain ⟨z2, f2⟩ := fltV_is e2 ik
        obtain ⟨hj, h1, h2⟩ := List.findIdx?_eq_some_iff_getElem.mp e3
        refine ⟨a, ys, v, j, ys[j], rfl, by rw [z2], by rw [← z1]; exact .inl (.inl s), f2, f1, by simp [hj], h1, fun n z' hn hz => ?_, q _ rfl⟩
        have h3 := h2 n hn
        have hn' : n < ys.length := by omega
        rw [List.getElem?_eq_getElem hn'] at hz
        cases hz
        simpa using h3
      · cases e
    · cases e) hb hN hv hd hcd hbase hfew hline hs
end
end Rf

namespace Rf
open PySem L2 LamX
open PyProof.Rows hiding St

/-! ## g(lambda: e), g a def that calls what it got -/
section
variable {G : Gm} {T : Tb} {F : Addr → Prop} {σ : St} {H H' : Hp} {env : Env'}
theorem Sta.grow (S : Sta G T F σ H env) (k : ∀ a o, H a = some o → (∀ ps, o ≠ .tbl ps) → H' a = some o) (dm : ∀ a, H a ≠ none → H' a ≠ none) (tb : Tabs T.tabs H') : Sta G T F σ H' env := by
  have le : Le (hid H (Hd F σ env)) (hid H' (Hd F σ env)) := Le.hid fun a o e n q => ⟨q, k a o e n⟩
  refine ⟨S.len, fun i s e => ?_, S.dis, S.fr, fun a z => mut_keep (S.fd a z) fun o e n => k a o e n, ⟨tb, S.tab.2⟩, S.old.to (fun a o _ n h => k a o h n) (fun a _ h => dm a h) fun _ z => .inl z, S.vis.trans le⟩
  obtain ⟨x, e1, e2⟩ := S.sl i s e
  refine ⟨x, e1, e2.mono le fun d a es ex => ?_⟩
  subst es ex
  obtain ⟨a', e', q⟩ := e2
  cases e'
  obtain ⟨o, z, nt, _⟩ := q.there
  rw [z, k _ _ z nt]
/-- what a lambda's body may see of its maker's slots -/
def pub : Slot → Slot
  | .v d => .v d
  | _ => .no
theorem pub_own {a : Addr} : ¬ Ow σ (env.map pub) a := fun ⟨i, d, h1, _⟩ => by
  rw [List.getElem?_map] at h1
  cases q : env[i]? with
  | none => rw [q] at h1; cases h1
  | some s =>
    rw [q] at h1
    cases s <;> cases h1
/-- the lambda's maker as it stands while g runs: Z the hidden ones of g's frame -/
theorem Sta.pubs {Z : Addr → Prop} {HZ : Hp} (S : Sta G T F σ H env) (k : ∀ a o, H a = some o → (∀ ps, o ≠ .tbl ps) → HZ a = some o) (dm : ∀ a, H a ≠ none → HZ a ≠ none) (tb : Tabs T.tabs HZ) (zd : ∀ a, Z a → L2.Mut (HZ a)) (vi : Le (hid H (Hd F σ env)) (hid HZ Z)) : Sta G T Z σ HZ (env.map pub) := by
  have eZ : hid HZ (Hd Z σ (env.map pub)) = hid HZ Z := hid_eq fun a => ⟨fun z => z.elim (fun z => absurd z pub_own) id, .inr⟩
  refine ⟨by rw [List.length_map]; exact S.len, fun i s e => ?_, fun i j d d' a h1 h2 h3 h4 => absurd ⟨i, d, h1, h3⟩ pub_own, fun a z => absurd z pub_own, zd, ⟨tb, S.tab.2⟩, S.old.to (fun a o _ n h => k a o h n) (fun a _ h => dm a h) fun _ z => absurd z pub_own, by rw [eZ]; exact S.vis.trans vi⟩
  rw [eZ]
  rw [List.getElem?_map] at e
  cases q : env[i]? with
  | none => rw [q] at e; cases e
  | some t =>
    rw [q] at e
    obtain ⟨x, e1, e2⟩ := S.sl i t q
    cases t with
    | v d =>
      cases e
      obtain ⟨v, rfl, e3⟩ := e2
      exact ⟨some v, e1, v, rfl, Is.mono vi _ _ e3⟩
    | o d => cases e; exact ⟨x, e1, trivial⟩
    | no => cases e; exact ⟨x, e1, trivial⟩
end
/-- what a thunk comes to, as g sees it -/
def eTh (r : Ro D) : Env' → Ro D := fun e => match r with
  | .ok d _ => .ok d e
  | .exc c p _ => .exc c p e
  | .stk => .stk
/-- g's frame from its start on -/
noncomputable def tbZ (T : Tb) (σ : St) (H : Hp) (env : Env') (F : Addr → Prop) (f : Addr) : Tb := ⟨T.tabs, [(0, f)], H, hid H (Hd F σ env)⟩
section
variable {X : Cx} {T : Tb} {W : WX} {k j : Nat} {params : Arguments} {body : Expr} {scope : Scope} {τ : Env' → Ro D} {pins : List (Addr × Obj)} {s : Shared} {σ : St} {H : Hp} {F : Addr → Prop} {env : Env'}
/-- the lambda's body, in each frame of it -/
def LamB (X : Cx) (T : Tb) (k : Nat) (scope : Scope) (body : Expr) (τ : Env' → Ro D) : Prop := ∀ (A : Around) (outer : List Env) (s : Shared) (H : Hp) (E : XK) (f c' : Addr), Ctx (lamCx X A outer s H E scope f c') k → Takes (lamCx X A outer s H E scope f c') (WofE E) → SE (lamCx X A outer s H E scope f c') T (WofE E) body τ
theorem se_act {Ng : List Str} {qg a : Str} {stg : Stmt} {g f c' : Addr} {cdg pm ctv : Value} {pn : List (Addr × Obj)} {xe : Value → Shared → Prop} {p1 p2 : Pos} {E : XK} (I : Inv X pins σ H s) (S : Sta (gm X) T F σ H env) (L : LamS X.env.scope scope)
    (hf : s.heap.get? f = some (PySem.W.kla_obj "<lambda>" (X.env.qual ++ "<lambda>") params body scope (cloFrom X.env.cells scope.names []) pm c' ctv)) (hfn : H f = none) (hfr : f ∉ frs X.stack) (hco : H c' = some (CodeO c' (X.env.qual ++ "<lambda>")))
    (hbind : bindArgs (PySem.W.kla_fn "<lambda>" (X.env.qual ++ "<lambda>") params body scope (cloFrom X.env.cells scope.names []) pm (.ref c') ctv) ⟨[], []⟩ = pure []) (hg : X.A.guards = some []) (hN : X.N.Nodup)
    (hr : Room (k + 1) (X.A.deeper (PyProof.Rows.envOfC qg (defScope stg) s.heap.objs.size g cdg))) (hb : LamB X T k scope body τ) (hNg : Ng[0]? = some a) (hv : Vis (defScope stg) a) (hd : (a == ("__debug__" : Str)) = false := by decide) (hcd : (a == ("__classdict__" : Str)) = false := by decide)
    (tk : Takes ((Bcx X.prog X.w X.K X.mg X.base Ng qg stg g cdg X.A X.stack s H E).tr pn xe) W) :
    SE ((Bcx X.prog X.w X.K X.mg X.base Ng qg stg g cdg X.A X.stack s H E).tr pn xe) (tbZ T σ H env F f) W (.Call (.Name a p1) [] [] p2) (eTh (τ (env.map pub))) := by
  refine ⟨fun pZ sZ σZ HZ Q IZ h => ?_⟩
  obtain ⟨FZ, eZ, SZ, h⟩ := h
  have hs : σZ[0]? = some (some (.ref f)) := SZ.tab.2 _ List.mem_cons_self
  have keep : ∀ b o, H b = some o → (∀ ps, o ≠ .tbl ps) → HZ b = some o := SZ.old.kp
  have dom : ∀ b, H b ≠ none → HZ b ≠ none := SZ.old.dm
  have SM : Sta (gm X) T (Hd FZ σZ eZ) σ HZ (env.map pub) := S.pubs keep dom SZ.tab.1 (fun b z => SZ.hd_mut z) SZ.vis
  refine wpAny_Call_Name_kw (thn ((pe_var (pos := p1) (i := 0) hNg hv hd hcd).run pZ sZ σZ HZ (fun v H1 => v = .ref f ∧ HZ = H1) IZ ⟨.ref f, hs, rfl, rfl⟩) fun u s1 ⟨v, H1, I1, r1, q1⟩ => ?_)
  obtain ⟨rfl, q2⟩ := q1
  rw [← q2] at I1
  obtain rfl : u = Value.ref f := r1
  have of1 := I1.base.keep f _ hf hfn hfr (fun z => nomatch (show f ∈ ([] : List Addr) from z))
  refine PySem.W.callWith_F0 ⟨_, _, _, _, of1⟩ ?_
  obtain ⟨⟨oc, vs, t, hoc, hdc, hvc⟩, _, _⟩ := I1.hok c' _ (keep _ _ hco codeO_ne)
  have run : codeAny (model X.prog X.w) (X.A.deeper (PyProof.Rows.envOfC qg (defScope stg) s.heap.objs.size g cdg)) (.call (.ref f) ⟨[], []⟩) (CR (L2.CX X.prog X.w) (PyProof.Rows.envOfC qg (defScope stg) s.heap.objs.size g cdg :: X.stack) X.prog X.w HZ s1 Q (WE W σZ)) s1 := by
    refine PySem.W.kla_callFunE hr.depth of1 rfl L.co L.gen rfl ⟨c', oc, vs, t, rfl, hoc, hdc, hvc⟩ ?_
    rw [hbind]
    refine wpAny_pure (wpAny_newFunctionEnv (fun y hy => (L.own y hy).2) (fun y hy => absurd hy List.not_mem_nil) (fun h1 hns hsb => ⟨I1.nolimit.fresh _ hsb, ?_⟩) L.kind)
    have kp : ∀ b o, s1.heap.get? b = some o → h1.get? b = some o := fun b o e => hsb.extBut b o (Nat.ne_of_lt (Heap.lt_size e)) (Heap.get?_push_of_some _ e)
    have J : Inv (lamCx X (X.A.deeper (PyProof.Rows.envOfC qg (defScope stg) s.heap.objs.size g cdg)) (PyProof.Rows.envOfC qg (defScope stg) s.heap.objs.size g cdg :: X.stack) s1 HZ (WE W σZ) scope f c') [] σ HZ { s1 with heap := h1, toks := s1.toks + ([] : List (Str × Value)).length } :=
      lam_start2 I L I1.env0 hr.hd (show Un (frs X.stack) [] H HZ s.heap s1.heap from I1.base) hns kp
    have Cl : Ctx (lamCx X (X.A.deeper (PyProof.Rows.envOfC qg (defScope stg) s.heap.objs.size g cdg)) (PyProof.Rows.envOfC qg (defScope stg) s.heap.objs.size g cdg :: X.stack) s1 HZ (WE W σZ) scope f c') k := ⟨hr.deeper _, hg, rfl, hN⟩
    refine PySem.W.kla_codeExpr (wpAny_mono ((hb _ _ s1 HZ (WE W σZ) f c' Cl (takes_of rfl rfl rfl rfl)).run [] _ _ HZ Q J ⟨Hd FZ σZ eZ, env.map pub, SM, ?_⟩) (fun v s' hq => ?_) fun e s' hq => hq)
    · have back : ∀ {H2 : Hp} {e2 : Env'}, Stp σ HZ (env.map pub) σ H2 e2 → Sta (gm X) T (Hd FZ σZ eZ) σ H2 e2 → Stp σZ HZ eZ σZ H2 eZ ∧ Sta (gm X) (tbZ T σ H env F f) FZ σZ H2 eZ ∧ Le (hid H2 (Hd (Hd FZ σZ eZ) σ e2)) (hid H2 (Hd FZ σZ eZ)) := fun {H2 e2} st S2 =>
        ⟨⟨fun b o e n _ => st.keep b o e n pub_own, fun _ _ k => k, st.dom⟩, SZ.grow (fun b o e n => st.keep b o e n pub_own) st.dom S2.tab.1, Le.hid fun b o e _ n => ⟨fun z => n (.inr z), e⟩⟩
      cases er : τ (env.map pub) with
      | ok d e2 =>
        rw [er] at h
        intro v H2 st S2 iv
        obtain ⟨s3, S3, le⟩ := back st S2
        exact h v H2 s3 S3 (Is.mono le _ _ iv)
      | exc c p e2 =>
        rw [er] at h
        intro cls dd H2 st S2 iv
        obtain ⟨s3, S3, le⟩ := back st S2
        exact h cls dd H2 s3 S3 (exc_mono le iv)
      | stk =>
        rw [er] at h
        exact h.elim
    · obtain ⟨w', H2, J', rv, q⟩ := hq
      exact ⟨w', H2, J'.os, J'.bare, J'.base, J'.hok, rv, q⟩
  refine wpAny_call (codeAny_mono run fun r s' hq => ?_)
  match r, hq with
  | .error er, hq => exact passAt tk σZ pZ HZ s1 er s' I1 hq
  | .ok (.ret u), hq => exact I1.after hq
  | .ok .next, hq => exact hq.elim
  | .ok .brk, hq => exact hq.elim
  | .ok .cont, hq => exact hq.elim
end
end Rf

namespace Rf
open PySem L2 LamX
open PyProof.Rows hiding St

section
variable {X : Cx} {pins : List (Addr × Obj)} {σ : St} {H : Hp} {s : Shared}
/-- a lambda is made: all that was there is there -/
theorem lam_new {tt : List (Addr × Str)} {c P : Addr} {q : Str} {params : Arguments} {body : Expr} {scope : Scope} {pos : Pos} {E : Value → Shared → Prop} {Q : Value → Shared → Prop} (eq : X.env.qual ++ "<lambda>" = q) (I : Inv X pins σ H s) (TB : TabB X.base X.mg c P) (hcode : X.env.code = .ref c) (hm : (P, q) ∈ tt) (hu : ∀ p ∈ tt, p.1 = P → p.2 = q)
    (hT : Tabs tt H) (hdef : defaultsOf params X.env = ([], [])) (hfree : ∀ y ∈ scope.names, y.2 = .free → ∃ c, X.env.cells.lookup y.1 = some c)
    (fin : ∀ (f c' : Addr) (pm ctv : Value) (H1 : Hp) (s' : Shared), Inv X pins σ H1 s' → ExtN H H1 → (∀ b, H b ≠ none → H1 b ≠ none) → Tabs tt H1 → s'.heap.get? f = some (PySem.W.kla_obj "<lambda>" q params body scope (cloFrom X.env.cells scope.names []) pm c' ctv) → H1 f = none → f ∉ frs X.stack → H1 c' = some (CodeO c' q) → Q (.ref f) s') :
    wpAny (model X.prog X.w) X.A (eval (.Lambda params body scope pos) X.env) Q E s := by
  subst eq
  obtain ⟨ps, tP, trip, am⟩ := hT _ hm
  have gP : s.heap.get? P = some { cls := .none, data := .fields ps } := I.hok P _ tP
  have outF : ∀ f, s.heap.objs.size ≤ f → f ∉ frs X.stack := fun f hf z => by
    rcases List.mem_cons.mp (I.stkSub _ z) with e | e
    · rw [e] at hf
      exact Nat.lt_irrefl _ (Nat.lt_of_lt_of_le I.lt hf)
    · exact I.nofs hf e
  refine PySem.W.kla_eval hdef ?_
  cases among : codeAmong pos ps.toList with
  | some cv =>
    obtain ⟨c', rfl, co⟩ := am pos cv among
    refine PySem.W.kla_makeFunctionHit (mg := X.mg) (c := c) (P := P) (ps := ps) (closure_ok hfree) I.ok.glob (I.mod.glob.keeps I.bk) hcode (TB.code.keeps I.bk) gP trip among (TB.bm.keeps I.bk) fun ctv h' tk kp sz => ?_
    exact fin h'.objs.size c' ((X.mg "__name__").getD .none) ctv H _ (I.kept (t' := tk) fun b o e => Heap.get?_push_of_some _ (kp b o e)) (ExtN.refl H) (fun _ h => h) hT (Heap.get?_push_size _ rfl) (I.hok.fresh sz) (outF _ sz) co
  | none =>
    refine PySem.W.kla_makeFunction (mg := X.mg) (c := c) (P := P) (ps := ps) (closure_ok hfree) I.ok.glob (I.mod.glob.keeps I.bk) hcode (TB.code.keeps I.bk) gP trip among TB.gP (TB.bm.keeps I.bk) fun c' ctv h' tk kp ge lt rc tb => ?_
    obtain ⟨c2, oc, vs, t, e2, oc1, oc2, oc3⟩ := rc
    cases e2
    have sz : s.heap.objs.size ≤ h'.objs.size := Nat.le_trans ge (Nat.le_of_lt lt)
    have nC : H c' = none := I.hok.fresh ge
    have nPc := ne_of_none tP nC
    have new1 := inv_table (t' := tk) (more := #[rawInt pos.line, rawInt pos.col, .ref c']) (h' := h'.push (PySem.W.kla_obj "<lambda>" (X.env.qual ++ "<lambda>") params body scope (cloFrom X.env.cells scope.names []) ((X.mg "__name__").getD .none) c' ctv)) I tP (fun b o hb e => Heap.get?_push_of_some _ (kp b o hb e)) (Heap.get?_push_of_some _ tb) ge ⟨oc, vs, t, Heap.get?_push_of_some _ oc1, oc2, oc3⟩
    have ext : ExtN H (upd (upd H P (.tbl (ps ++ #[rawInt pos.line, rawInt pos.col, .ref c']))) c' (CodeO c' (X.env.qual ++ "<lambda>"))) := fun b o e n => by
      have nbP : b ≠ P := fun z => by
        rw [z] at e
        exact n ps (Option.some.inj (e.symm.trans tP))
      rw [upd_ne (ne_of_none e nC), upd_ne nbP]
      exact e
    have lst : (ps ++ #[rawInt pos.line, rawInt pos.col, .ref c']).toList = ps.toList ++ [rawInt pos.line, rawInt pos.col, .ref c'] := by simp
    refine fin h'.objs.size c' ((X.mg "__name__").getD .none) ctv _ _ new1 ext (fun b hb => ?_) (fun p hp => ?_) (Heap.get?_push_size _ rfl) ?_ (outF _ sz) upd_same
    · by_cases h1 : b = c'
      · rw [h1, upd_same]; simp
      · rw [upd_ne h1]
        by_cases h2 : b = P
        · rw [h2, upd_same]; simp
        · rw [upd_ne h2]; exact hb
    · by_cases hb : p.1 = P
      · rw [hu p hp hb, hb]
        refine ⟨_, by rw [upd_ne nPc, upd_same], by rw [lst]; exact PySem.TriplesOk_snoc _ _ _ _ trip, fun pp cv hcv => ?_⟩
        rw [lst] at hcv
        rcases among_app _ trip hcv with z | z
        · obtain ⟨c0, e1, e2⟩ := am pp cv z
          exact ⟨c0, e1, ext _ _ e2 codeO_ne⟩
        · exact ⟨c', z, upd_same⟩
      · obtain ⟨qs, a1, a2, a3⟩ := hT p hp
        refine ⟨qs, by rw [upd_ne (ne_of_none a1 nC), upd_ne hb]; exact a1, a2, fun pp cv hcv => ?_⟩
        obtain ⟨c0, e1, e2⟩ := a3 pp cv hcv
        exact ⟨c0, e1, ext _ _ e2 codeO_ne⟩
    · rw [upd_ne (Nat.ne_of_gt lt), upd_ne (Nat.ne_of_gt (Nat.lt_of_lt_of_le (Heap.lt_size gP) sz))]
      exact I.hok.fresh sz
end
/-- g's end as its caller sees it: n names, the thunk in the first -/
def runG (n : Nat) (gB : Ro D → Env' → So) (r : Ro D) : Option D := match gB r (List.replicate n .no) with
  | .ret d _ => some d
  | .retF d _ => some d
  | .nx _ => some .non
  | _ => none
/-- g(lambda: e) -/
def eLam (m : Ro D → Option D) (τ : Env' → Ro D) : Env' → Ro D := fun env => match m (τ (env.map pub)) with
  | some d => .ok d env
  | none => .stk
/-- the thunk is called in g's frame -/
def ActT (Z : Cx) (T : Tb) (a : Str) (r : Ro D) : Prop := ∀ (W : WX) (pn : List (Addr × Obj)) (xe : Value → Shared → Prop) (p1 p2 : Pos), Takes (Z.tr pn xe) W → SE (Z.tr pn xe) T W (.Call (.Name a p1) [] [] p2) (eTh r)
/-- g's body, in each frame of it, whatever the thunk comes to -/
def BodyG (P : Program) (w : World) (K : PySem.W.Frag) (mg : Str → Option Value) (base : Heap) (k : Nat) (qual : Str) (st : Stmt) (f : Addr) (N : List Str) (a : Str) (tabs : List (Addr × Str)) (gB : Ro D → Env' → So) : Prop :=
  ∀ (cdv : Value) (A : Around) (outer : List Env) (s : Shared) (H : Hp) (E : XK) (T : Tb) (r : Ro D), Fra (Bcx P w K mg base N qual st f cdv A outer s H E) k (WofE E) → T.tabs = tabs → (∀ p ∈ T.pins, p.1 = 0) → ActT (Bcx P w K mg base N qual st f cdv A outer s H E) T a r →
    SB (Bcx P w K mg base N qual st f cdv A outer s H E) T (WofE E) (defBody st) (gB r)
section
variable {X : Cx} {T : Tb} {W : WX} {k j : Nat} {params : Arguments} {body : Expr} {scope : Scope} {τ : Env' → Ro D} {x a q : Str} {g c P : Addr} {st : Stmt} {fd : FuncData} {Ng : List Str} {gB : Ro D → Env' → So} {p lpos pos : Pos}
theorem fr_zero {T : Tb} (h : ∀ p ∈ T.pins, p.1 = 0) {i : Nat} (hi : i ≠ 0) : Fr T i := fun p hp e => hi (e.symm.trans (h p hp))
theorem frs_zero {T : Tb} (h : ∀ p ∈ T.pins, p.1 = 0) {vs : List Nat} (hi : vs.all (fun i => decide (i ≠ 0)) = true := by rfl) : ∀ i ∈ vs, Fr T i := fun i hv => fr_zero h (by simpa using List.all_eq_true.mp hi i hv)
theorem se_lam {n : Nat} (hn : Ng.length = n) (eq : X.env.qual ++ "<lambda>" = q) (hg : Gl X x) (hm : X.mg x = some (.ref g)) (Fu : L2.Fun X.K x x st g fd) (bd : Binds X.K fd [a] []) (Sg : FnScope Ng [a] (defScope st)) (hNg : Ng[0]? = some a) (hva : Vis (defScope st) a) (hB : BodyG X.prog X.w X.K X.mg X.base (k + 1) x st g Ng a T.tabs gB)
    (TB : TabB X.base X.mg c P) (hcode : X.env.code = .ref c) (hmT : (P, q) ∈ T.tabs) (hu : ∀ p ∈ T.tabs, p.1 = P → p.2 = q) (C : Ctx X j) (hk : k + 2 ≤ j) (L : LamS X.env.scope scope) (hdef : defaultsOf params X.env = ([], []))
    (hbind : ∀ (q : Str) (cl : List (Str × Addr)) (pm cv ctv : Value), bindArgs (PySem.W.kla_fn "<lambda>" q params body scope cl pm cv ctv) ⟨[], []⟩ = pure []) (hb : LamB X T k scope body τ) (hdb : (x == ("__debug__" : Str)) = false := by decide) (hd : (a == ("__debug__" : Str)) = false := by decide) (hcd : (a == ("__classdict__" : Str)) = false := by decide) :
    SE X T W (.Call (.Name x p) [.Lambda params body scope lpos] [] pos) (eLam (runG n gB) τ) := by
  subst hn
  refine ⟨fun pins s σ H Q I h => ?_⟩
  obtain ⟨F, env, S, h⟩ := h
  have hr : Room (k + 2) X.A := C.room.mono hk
  refine wpAny_Call_Name_kw (ld_glob I hg hm (PySem.W.callWith_K (h₀ := X.base) I.ok.mod.kin Fu.kp ?_ (by rfl) (by rfl)) hdb)
  show wpAny _ _ (spliced ((false, eval (.Lambda params body scope lpos) X.env) :: backTo pos (starEach [] X.env))) _ _ s
  refine Calls.spliced_cons (lam_new eq I TB hcode hmT hu S.tab.1 hdef (L.has I.ok) fun f c' pm ctv H1 s1 I1 ext dm T1 hf hfn hfr hco => Calls.spliced_nil ⟨I1.kIn, ?_⟩)
  have S1 : Sta (gm X) T F σ H1 env := S.grow ext dm T1
  obtain ⟨oc, od, kV, doc, pmv, an, cdv, ct, osl, rfl, lk, hcd'⟩ := Fu.ex
  subst eq
  have run : codeAny (model X.prog X.w) X.A (.call (.ref g) ⟨[.ref f], []⟩) (CR (L2.CX X.prog X.w) X.stack X.prog X.w H1 s1 Q fun _ _ _ => False) s1 := by
    refine run_ofS (N := Ng) (ps := [a]) (us := [.ref f]) (vs := [.ref f]) lk hcd' Sg hr I1.env0 (bd s1 [.ref f] I1.kIn rfl) (.cons rfl .nil) rfl fun hr' => ?_
    have hl : 1 ≤ Ng.length := (List.getElem?_eq_some_iff.mp hNg).1
    have noO : ∀ {b : Addr}, ¬ Ow (L2.start Ng [V.ref f]) (List.replicate Ng.length Slot.no) b := fun {b} ⟨i, d, h1, _⟩ => by
      rw [List.getElem?_replicate] at h1
      split at h1 <;> cases h1
    have eh : hid H1 (Hd (Hd F σ env) (L2.start Ng [V.ref f]) (List.replicate Ng.length Slot.no)) = hid H1 (Hd F σ env) := hid_eq fun b => ⟨fun z => z.elim (fun z => absurd z noO) id, .inr⟩
    have SZ : Sta (gm X) (tbZ T σ H1 env F f) (Hd F σ env) (L2.start Ng [V.ref f]) H1 (List.replicate Ng.length .no) := by
      have lenS : (L2.start Ng [V.ref f]).length = Ng.length := by
        unfold L2.start
        rw [List.length_append, List.length_map, List.length_replicate, List.length_singleton]
        omega
      refine ⟨by rw [lenS, List.length_replicate], fun i t e => ?_, fun i j d d' b h1 h2 h3 h4 => absurd ⟨i, d, h1, h3⟩ noO, fun b z => absurd z noO, fun b z => S1.hd_mut z, ⟨T1, fun p hp => ?_⟩, ⟨fun b o e _ => e, fun b e => e, fun b z => absurd z noO⟩, by rw [eh]; exact Le.refl _⟩
      · rw [List.getElem?_replicate] at e
        split at e
        · rename_i hi
          cases e
          exact ⟨(L2.start Ng [V.ref f])[i]'(by rw [lenS]; exact hi), by simp, trivial⟩
        · cases e
      · rw [List.mem_singleton.mp hp]
        unfold L2.start
        rfl
    refine ⟨_, hB cdv X.A X.stack s1 H1 _ (tbZ T σ H1 env F f) (τ (env.map pub)) (fra_of hr' C.gd Sg.nd) rfl (fun p hp => by rw [List.mem_singleton.mp hp]) (fun W' pn xe p1 p2 tk => se_act I1 S1 L hf hfn hfr hco (hbind _ _ _ _ _) C.gd C.nd hr' hb hNg hva hd hcd tk), Hd F σ env, _, SZ, ?_⟩
    unfold eLam at h
    have back : ∀ {σ' : St} {H' : Hp} {e : Env'}, Stp (L2.start Ng [V.ref f]) H1 (List.replicate Ng.length .no) σ' H' e → Tabs T.tabs H' → Stp σ H env σ H' env ∧ Sta (gm X) T F σ H' env := fun {σ' H' e} st tb =>
      ⟨⟨fun b o e n _ => st.keep b o (ext b o e n) n noO, fun _ _ k => k, fun b e => st.dom b (dm b e)⟩, S.grow (fun b o e n => st.keep b o (ext b o e n) n noO) (fun b e => st.dom b (dm b e)) tb⟩
    have le : ∀ {σ' : St} {H' : Hp} {e : Env'}, Le (hid H' (Hd (Hd F σ env) σ' e)) (hid H' (Hd F σ env)) := fun {σ' H' e} => Le.hid fun b o e _ n => ⟨fun z => n (.inr z), e⟩
    unfold runG at h
    cases eg : gB (τ (env.map pub)) (List.replicate Ng.length .no) with
    | nx e =>
      rw [eg] at h
      intro σ' H' st S'
      obtain ⟨s2, S2⟩ := back st S'.tab.1
      exact h .non H' s2 S2 rfl
    | ret d e =>
      rw [eg] at h
      intro v σ' H' st S' iv
      obtain ⟨s2, S2⟩ := back st S'.tab.1
      exact h v H' s2 S2 (Is.mono le _ _ iv)
    | retF d e =>
      rw [eg] at h
      intro b σ' H' st S' o n
      obtain ⟨s2, S2⟩ := back st S'.tab.1
      have nF : ¬ Hd F σ env b := fun z => by
        rcases n with n | n
        · exact S1.hd_there z n
        · exact noO n
      exact h (.ref b) H' s2 S2 (Is.mono le _ _ (OIs.open (H0 := H1) o S' nF))
    | bk e => rw [eg] at h; exact h.elim
    | ct e => rw [eg] at h; exact h.elim
    | exc c p e => rw [eg] at h; exact h.elim
    | stk => rw [eg] at h; exact h.elim
  refine wpAny_call (codeAny_mono run fun r s' hq => ?_)
  match r, hq with
  | .error er, hq =>
    obtain ⟨_, _, _, _, _, _, _, _, _, _, _, _, z⟩ := hq
    exact z.elim
  | .ok (.ret u), hq => exact I1.after hq
  | .ok .next, hq => exact hq.elim
  | .ok .brk, hq => exact hq.elim
  | .ok .cont, hq => exact hq.elim
end
end Rf

namespace Rf
open PySem L2 LamX
open PyProof.Rows hiding St

/-! ## repr -/
mutual
/-- no shorter than the text -/
def szD : D → Nat
  | .non => 4
  | .bl _ => 5
  | .int i => i.natAbs.log2 + 2
  | .str x => (reprText x).length
  | .tup xs => szL xs + 4
  | .lst xs => szL xs + 4
  | _ => 4
def szL : List D → Nat
  | [] => 0
  | x :: xs => szD x + 2 + szL xs
end
mutual
def shD : D → Bool
  | .int i => decide (i.natAbs.log2 < 1920)
  | .tup xs => shL xs
  | .lst xs => shL xs
  | _ => true
def shL : List D → Bool
  | [] => true
  | x :: xs => shD x && shL xs
end
theorem textFrom_sz : ∀ (ts : List Str) (k : Nat) (acc : Str), (textFrom k acc ts).length ≤ acc.length + piled ts
  | [], k, acc => by
    show acc.length ≤ acc.length + piled []
    omega
  | t :: ts, k, acc => by
    have h := textFrom_sz ts (k + 1) (acc ++ (if k > 0 then ", " else "" : String) ++ t)
    have e : (acc ++ (if k > 0 then ", " else "" : String) ++ t).length ≤ acc.length + 2 + t.length := by
      rw [strLen_append, strLen_append]
      have : (((if k > 0 then ", " else "" : String) : Str)).length ≤ 2 := by split <;> decide
      omega
    show (textFrom (k + 1) _ ts).length ≤ _
    rw [piled_cons]
    omega
theorem listText_sz (ts : List Str) : (listText ts).length ≤ piled ts + 2 := by
  unfold listText
  rw [strLen_append]
  have h := textFrom_sz ts 0 "["
  have e1 : (("[" : String) : Str).length = 1 := rfl
  have e2 : (("]" : String) : Str).length = 1 := rfl
  omega
theorem tupleText_sz (ts : List Str) : (tupleText ts).length ≤ piled ts + 3 := by
  unfold tupleText
  rw [strLen_append, strLen_append]
  have e1 : (("(" : String) : Str).length = 1 := rfl
  have e3 : (((if ts.length == 1 then ",)" else ")" : String) : Str)).length ≤ 2 := by split <;> decide
  by_cases h : ts = []
  · subst h
    have e4 : (Str.join ", " []).length = 0 := rfl
    omega
  · have := join_length_add ts h
    omega
mutual
theorem sz_ok : ∀ d : D, (PyData.shown (toPy d)).length ≤ szD d
  | .non => by decide
  | .bl b => by cases b <;> decide
  | .int i => by
    have h := int_text_length_le (a := i) (k := i.natAbs.log2 + 1) (by omega) (by omega)
    show (Str.ofString (toString i)).length ≤ _
    rw [PySem.ofString_length]
    show _ ≤ i.natAbs.log2 + 2
    omega
  | .str x => Nat.le_refl _
  | .tup xs => by
    have h := sz_okL xs
    have h2 := tupleText_sz (PyData.shownAll (toPyL xs))
    show (tupleText (PyData.shownAll (toPyL xs))).length ≤ szL xs + 4
    omega
  | .lst xs => by
    have h := sz_okL xs
    have h2 := listText_sz (PyData.shownAll (toPyL xs))
    show (listText (PyData.shownAll (toPyL xs))).length ≤ szL xs + 4
    omega
  | .dK _ _ => by
    show (PyData.shown .none).length ≤ 4
    decide
  | .dT _ _ => by
    show (PyData.shown .none).length ≤ 4
    decide
  | .fn _ => by
    show (PyData.shown .none).length ≤ 4
    decide
  | .scr _ => by
    show (PyData.shown .none).length ≤ 4
    decide
  | .ctup _ => by
    show (PyData.shown .none).length ≤ 4
    decide
theorem sz_okL : ∀ ds : List D, piled (PyData.shownAll (toPyL ds)) ≤ szL ds
  | [] => Nat.le_refl _
  | d :: ds => by
    have h1 := sz_ok d
    have h2 := sz_okL ds
    show piled (PyData.shown (toPy d) :: PyData.shownAll (toPyL ds)) ≤ szD d + 2 + szL ds
    rw [piled_cons]
    omega
end
mutual
theorem sh_ok : ∀ d : D, shD d = true → PyData.showable (toPy d) = true
  | .non, _ => rfl
  | .bl _, _ => rfl
  | .int _, h => h
  | .str _, _ => rfl
  | .tup xs, h => sh_okL xs h
  | .lst xs, h => sh_okL xs h
  | .dK _ _, _ => rfl
  | .dT _ _, _ => rfl
  | .fn _, _ => rfl
  | .scr _, _ => rfl
  | .ctup _, _ => rfl
theorem sh_okL : ∀ ds : List D, shL ds = true → PyData.showableAll (toPyL ds) = true
  | [], _ => rfl
  | d :: ds, h => by
    have h : (shD d && shL ds) = true := h
    obtain ⟨h1, h2⟩ := Bool.and_eq_true_iff.mp h
    show (PyData.showable (toPy d) && PyData.showableAll (toPyL ds)) = true
    rw [sh_ok d h1, sh_okL ds h2]
    rfl
end
def okRep (d : D) : Bool := okD 60 d && shD d && decide (szD d ≤ 16000000)
def oRepr : List D → Option D
  | [d] => if okRep d then some (.str (PyData.shown (toPy d))) else none
  | _ => none
def rRepr (K : PySem.W.Frag) : List V → Hp → VK → Prop := fun xs H Q => ∃ v d, xs = [v] ∧ Dp K H v d ∧ d.canLay0 = true ∧ d.depth ≤ 60 ∧ PyData.showable d = true ∧ (PyData.shown d).length ≤ sizeLine ∧ Q (.str (PyData.shown d)) H
theorem call_repr {X : Cx} {k : Nat} (C : Ctx X k) : CallR X (.builtin "repr") (rRepr X.K) := by
  intro pins s σ H xs us Q I r h
  obtain ⟨v, d, rfl, dp, hl, hd, hs, hz, q⟩ := h
  obtain ⟨u, rfl, rv⟩ := vals1 r
  have fin : ∀ (h' : Heap) (u' : Tok) (tk : Nat), (∀ b o, s.heap.get? b = some o → h'.get? b = some o) → EP X pins σ Q (.str (PyData.shown d) u') { s with heap := h', toks := tk } := fun h' u' tk kp => ⟨.str (PyData.shown d), H, I.kept (t' := tk) kp, ⟨_, rfl⟩, q⟩
  obtain ⟨as, rd⟩ := Dp.reads I d v u dp rv
  have hu := C.room.units
  cases dp with
  | non =>
    obtain rfl : u = Value.none := rv
    exact P.repr_of_none (fin s.heap _ _ fun _ _ e => e)
  | bl b =>
    obtain rfl : u = Value.bool b := rv
    have f := fin s.heap s.toks (s.toks + 1) fun _ _ e => e
    refine P.repr_of_bool ?_
    cases b <;> exact f
  | int i =>
    obtain ⟨t, rfl⟩ := rv
    exact P.repr_of_int (of_decide_eq_true hs) (fin s.heap _ _ fun _ _ e => e)
  | str x =>
    obtain ⟨t, rfl⟩ := rv
    exact P.repr_of_str (fin s.heap _ _ fun _ _ e => e) hz
  | lst sq dd =>
    cases rv
    exact repr_of_reads' rd hs (PyData.noDict_hsm (PyData.hasDict_of_canLay _ hl)) C.gd (by omega) (fun _ _ e => e) (fun h' u' tk kp => fin h' u' tk kp) hz
  | tup sq dd =>
    cases rv
    exact repr_of_reads' rd hs (PyData.noDict_hsm (PyData.hasDict_of_canLay _ hl)) C.gd (by omega) (fun _ _ e => e) (fun h' u' tk kp => fin h' u' tk kp) hz
section
variable {X : Cx} {T : Tb} {W : WX} {k : Nat} {a : Expr} {f : Env' → Ro D} {p pos : Pos}
theorem oc_repr : OpC (gm X) (rRepr X.K) oRepr := fun {Hs H ds d vs Q} l m e j => by
  unfold oRepr at e
  split at e
  · rename_i d0
    split at e
    · rename_i ok
      obtain rfl := Option.some.inj e
      simp only [okRep, Bool.and_eq_true, decide_eq_true_eq] at ok
      obtain ⟨⟨ok1, ok2⟩, ok3⟩ := ok
      obtain ⟨v, rfl, iv⟩ := isL1 m
      obtain ⟨c1, c2⟩ := ok_lay 60 d0 ok1
      exact ⟨v, toPy d0, rfl, is_dp 60 d0 v ok1 (Is.mono l _ _ iv), c1, c2, sh_ok d0 ok2, Nat.le_trans (sz_ok d0) (by rw [sizeLine_eq]; omega), j _ H (New.refl H) fun _ _ _ => rfl⟩
    · cases e
  · cases e
theorem se_repr (C : Ctx X k) (hg : Gl X "repr") (hm : X.mg "repr" = none) (ha : SE X T W a f) (h0 : starEach [a] X.env = (false, eval a X.env) :: starEach [] X.env := by rfl) : SE X T W (.Call (.Name "repr" p) [a] [] pos) (eCall oRepr (aCons f aNil)) :=
  se_callB (call_repr C) oc_repr hg hm (by decide +kernel) (sa_cons ha sa_nil h0) (by decide) (by decide) h0 (by rfl)
end
/-! ## any, all of numbers, True, False, None -/
def numV : V → Bool
  | .non => true
  | .bl _ => true
  | .int _ => true
  | _ => false
def truF : V → Bool
  | .bl b => b
  | .int i => i != 0
  | _ => false
theorem truth_num {prog : Program} {w : World} {A : Around} {ys : List V} {its : List Value} (rv : Vals ys its) (fl : ys.all numV = true) : TruthOf prog w A (fun i v => its.toArray[i]? = some v) (fun i => truF (ys.getD i .non)) := fun i v s Q E hv hq => by
  have hv' : its[i]? = some v := by simpa using hv
  have hi := (List.getElem?_eq_some_iff.mp hv').1
  have hi' : i < ys.length := by rw [Paired.length rv]; exact hi
  obtain ⟨u, hu, r⟩ := rv.get (List.getElem?_eq_getElem hi')
  rw [hv'] at hu
  cases hu
  have hg : ys.getD i .non = ys[i] := by rw [List.getD_eq_getElem?_getD, List.getElem?_eq_getElem hi']; rfl
  have hq : Q (truF (ys.getD i .non)) s := hq
  rw [hg] at hq
  have hf := List.all_eq_true.mp fl _ (List.getElem_mem hi')
  generalize ys[i] = y at *
  cases y with
  | non => obtain rfl : v = Value.none := r; exact truthy_none hq
  | bl b => obtain rfl : v = Value.bool b := r; exact wpAny_truthy_bool hq
  | int j => obtain ⟨t, rfl⟩ := r; exact PySem.P.truthy_int hq
  | _ => cases hf
theorem any_rangeV : ∀ ys : List V, (List.range ys.length).any (fun i => truF (ys.getD i .non)) = ys.any truF
  | [] => rfl
  | b :: bs => by
    rw [List.length_cons, List.range_succ_eq_map, List.any_cons, List.any_map, List.any_cons, ← any_rangeV bs]
    all_goals rfl
theorem all_rangeV : ∀ ys : List V, (List.range ys.length).all (fun i => truF (ys.getD i .non)) = ys.all truF
  | [] => rfl
  | b :: bs => by
    rw [List.length_cons, List.range_succ_eq_map, List.all_cons, List.all_map, List.all_cons, ← all_rangeV bs]
    all_goals rfl
def rQuant (K : PySem.W.Frag) (g : List V → Bool) : List V → Hp → VK → Prop := fun vs H Q => ∃ (a : Addr) (ys : List V), vs = [V.ref a] ∧ (SqL K H a ys ∨ SqT K H a ys) ∧ ys.all numV = true ∧ Q (.bl (g ys)) H
theorem cr_anyN {X : Cx} (hc : X.calm = true) : CallR X (.builtin "any") (rQuant X.K fun ys => ys.any truF) := by
  intro pins s σ H vs us Q I r h
  obtain ⟨a, ys, rfl, hs, fl, q⟩ := h
  rw [Vals.ref1 r]
  rcases hs with hs | hs
  · obtain ⟨its, rv, hl, _⟩ := I.list hs
    refine call_any_walk (iter_any hl.isList fun s₂ e2 st hne => ?_)
    subst e2
    refine ⟨_, _, _, _, _, _, _, rfl, Walks.list (A := X.A.in1) (I.ok.hd hc) _ a hne its.toArray, st, truth_num rv fl, fun h' tk hk => ⟨.bl _, H, I.kept fun b o eo => hk b o (fun hmem => ?_) (Heap.get?_push_of_some _ eo), ?_, q⟩⟩
    · rw [List.mem_singleton] at hmem
      exact absurd (hmem ▸ Heap.lt_size eo) (Nat.lt_irrefl _)
    · show Value.bool _ = Value.bool _
      rw [List.size_toArray, ← Paired.length rv, any_rangeV]
  · obtain ⟨its, rv, hl, _⟩ := I.tuple hs
    have ht : s.heap.IsTuple a its.toArray := hl
    have hlt : a < s.heap.objs.size := by obtain ⟨_, e, _⟩ := ht; exact Heap.lt_size e
    refine call_any_walk (wpAny_pyIter_tuple ht ?_)
    refine ⟨_, _, _, _, _, _, _, rfl, Walks.tuple (A := X.A.in1) (I.ok.hd hc) _ a (Nat.ne_of_lt hlt) its.toArray, ⟨⟨_, Heap.get?_push_size _ rfl, rfl, rfl⟩, ht.push _⟩, truth_num rv fl, fun h' tk hk => ⟨.bl _, H, I.kept fun b o eo => hk b o (fun hmem => ?_) (Heap.get?_push_of_some _ eo), ?_, q⟩⟩
    · rw [List.mem_singleton] at hmem
      exact absurd (hmem ▸ Heap.lt_size eo) (Nat.lt_irrefl _)
    · show Value.bool _ = Value.bool _
      rw [List.size_toArray, ← Paired.length rv, any_rangeV]
theorem cr_allN {X : Cx} (hc : X.calm = true) : CallR X (.builtin "all") (rQuant X.K fun ys => ys.all truF) := by
  intro pins s σ H vs us Q I r h
  obtain ⟨a, ys, rfl, hs, fl, q⟩ := h
  rw [Vals.ref1 r]
  rcases hs with hs | hs
  · obtain ⟨its, rv, hl, _⟩ := I.list hs
    refine call_all_walk (iter_any hl.isList fun s₂ e2 st hne => ?_)
    subst e2
    refine ⟨_, _, _, _, _, _, _, rfl, Walks.list (A := X.A.in1) (I.ok.hd hc) _ a hne its.toArray, st, truth_num rv fl, fun h' tk hk => ⟨.bl _, H, I.kept fun b o eo => hk b o (fun hmem => ?_) (Heap.get?_push_of_some _ eo), ?_, q⟩⟩
    · rw [List.mem_singleton] at hmem
      exact absurd (hmem ▸ Heap.lt_size eo) (Nat.lt_irrefl _)
    · show Value.bool _ = Value.bool _
      rw [List.size_toArray, ← Paired.length rv, all_rangeV]
  · obtain ⟨its, rv, hl, _⟩ := I.tuple hs
    have ht : s.heap.IsTuple a its.toArray := hl
    have hlt : a < s.heap.objs.size := by obtain ⟨_, e, _⟩ := ht; exact Heap.lt_size e
    refine call_all_walk (wpAny_pyIter_tuple ht ?_)
    refine ⟨_, _, _, _, _, _, _, rfl, Walks.tuple (A := X.A.in1) (I.ok.hd hc) _ a (Nat.ne_of_lt hlt) its.toArray, ⟨⟨_, Heap.get?_push_size _ rfl, rfl, rfl⟩, ht.push _⟩, truth_num rv fl, fun h' tk hk => ⟨.bl _, H, I.kept fun b o eo => hk b o (fun hmem => ?_) (Heap.get?_push_of_some _ eo), ?_, q⟩⟩
    · rw [List.mem_singleton] at hmem
      exact absurd (hmem ▸ Heap.lt_size eo) (Nat.lt_irrefl _)
    · show Value.bool _ = Value.bool _
      rw [List.size_toArray, ← Paired.length rv, all_rangeV]
/-- the items' truth, numbers, flags and None alone -/
def numT : D → Option Bool
  | .non => some false
  | .bl b => some b
  | .int i => some (i != 0)
  | _ => none
def numTs : List D → Option (List Bool)
  | [] => some []
  | d :: ds => match numT d, numTs ds with
    | some b, some bs => some (b :: bs)
    | _, _ => none
theorem numTs_is {G : Gm} {H : Hp} : ∀ {ds : List D} {bs : List Bool} {vs : List V}, numTs ds = some bs → IsL G H ds vs → vs.all numV = true ∧ vs.any truF = bs.any id ∧ vs.all truF = bs.all id
  | [], bs, vs, e, i => by
    obtain rfl : vs = [] := i
    simp only [numTs, Option.some.injEq] at e
    subst e
    exact ⟨rfl, rfl, rfl⟩
  | d :: ds, bs, vs, e, i => by
    unfold numTs at e
    split at e
    · rename_i b r e1 e2
      obtain rfl := Option.some.inj e
      obtain ⟨x, r', rfl, i1, i2⟩ := i
      obtain ⟨f1, f2, f3⟩ := numTs_is e2 i2
      have hx : numV x = true ∧ truF x = b := by
        cases d <;> simp only [numT, Option.some.injEq] at e1 <;> first
          | (cases e1; done)
          | (subst e1
             have i1 := i1
             unfold Is at i1
             subst i1
             exact ⟨rfl, rfl⟩)
      rw [List.all_cons, List.any_cons, List.all_cons, hx.1, hx.2, f1, f2, f3]
      exact ⟨rfl, rfl, rfl⟩
    · cases e
def oQuant (h : List Bool → Bool) : List D → Option D
  | [.lst xs] => (numTs xs).map fun bs => .bl (h bs)
  | [.tup xs] => (numTs xs).map fun bs => .bl (h bs)
  | _ => none
section
variable {X : Cx} {T : Tb} {W : WX} {k : Nat} {a : Expr} {f : Env' → Ro D} {p pos : Pos}
theorem oc_quant {g : List V → Bool} {h : List Bool → Bool} (hg : ∀ {G : Gm} {H : Hp} {ds : List D} {bs : List Bool} {vs : List V}, numTs ds = some bs → IsL G H ds vs → g vs = h bs) : OpC (gm X) (rQuant X.K g) (oQuant h) := fun {Hs H ds d vs Q} l m e j => by
  unfold oQuant at e
  split at e
  · rename_i xs
    cases e1 : numTs xs with
    | none => rw [e1] at e; cases e
    | some bs =>
      rw [e1] at e
      obtain rfl := Option.some.inj e
      obtain ⟨v, rfl, p, ws, rfl, s, m'⟩ := isL1 m
      exact ⟨p, ws, rfl, .inl (l.lq s), (numTs_is e1 m').1, by rw [hg e1 m']; exact j _ H (New.refl H) fun _ _ _ => rfl⟩
  · rename_i xs
    cases e1 : numTs xs with
    | none => rw [e1] at e; cases e
    | some bs =>
      rw [e1] at e
      obtain rfl := Option.some.inj e
      obtain ⟨v, rfl, p, ws, rfl, s, m'⟩ := isL1 m
      exact ⟨p, ws, rfl, .inr (l.tq s), (numTs_is e1 m').1, by rw [hg e1 m']; exact j _ H (New.refl H) fun _ _ _ => rfl⟩
  · cases e
theorem se_any (hc : X.calm = true) (hg : Gl X "any") (hm : X.mg "any" = none) (ha : SE X T W a f) (h0 : starEach [a] X.env = (false, eval a X.env) :: starEach [] X.env := by rfl) : SE X T W (.Call (.Name "any" p) [a] [] pos) (eCall (oQuant anyB) (aCons f aNil)) :=
  se_callB (cr_anyN hc) (oc_quant fun e m => (numTs_is e m).2.1) hg hm (by decide +kernel) (sa_cons ha sa_nil h0) (by decide) (by decide) h0 (by rfl)
theorem se_all (hc : X.calm = true) (hg : Gl X "all") (hm : X.mg "all" = none) (ha : SE X T W a f) (h0 : starEach [a] X.env = (false, eval a X.env) :: starEach [] X.env := by rfl) : SE X T W (.Call (.Name "all" p) [a] [] pos) (eCall (oQuant allB) (aCons f aNil)) :=
  se_callB (cr_allN hc) (oc_quant fun e m => (numTs_is e m).2.2) hg hm (by decide +kernel) (sa_cons ha sa_nil h0) (by decide) (by decide) h0 (by rfl)
end
end Rf

namespace Rf
open PySem L2 LamX
open PyProof.Rows hiding St

section
variable {X : Cx} {T : Tb} {W : WX} {k : Nat} {a b : Expr} {f g : Env' → Ro D} {x : Str} {p pos : Pos} {op : Operator} {r : R2} {o : D → D → Option D}
/-! ## new lists by + and * -/
def OpF (G : Gm) (r : R2) (o : D → D → Option D) : Prop := ∀ {Hs H : Hp} {d1 d2 d : D} {v1 v2 : V} {Q : VK}, Le Hs H → Is G Hs d1 v1 → Is G Hs d2 v2 → o d1 d2 = some d →
  (∀ p u, H p = none → (∀ Hs', Le Hs Hs' → OIs G Hs' (upd H p u) d p) → Q (.ref p) (upd H p u)) → r v1 v2 H Q
theorem sf_op (ho : OpR X (binaryOp op) r) (hd : OpF (gm X) r o) (ha : SE X T W a f) (hb : SE X T W b g) : SF X T W (.BinOp a op b pos) (eOp o f g) :=
  PE.weak (pe_op ho ha hb) fun σ H Q h => rdF_bind (R := isD (gm X)) h fun F env d1 v1 H1 S1 i1 h1 => by
    refine ⟨F, env, S1, ?_⟩
    cases e : g env with
    | ok d2 e2 =>
      rw [e] at h1
      intro v2 H2 s2 S2 i2
      simp only [Ro.bind] at h1
      cases eo : o d1 d2 with
      | none => rw [eo] at h1; exact h1.elim
      | some d =>
        rw [eo] at h1
        refine hd (Hs := hid H2 (Hd F σ e2)) Le.unhid (Is.mono (s2.le F) _ _ i1) i2 eo fun p u hp q => ?_
        exact fin_newF (d := d) S2 hp (fun Hs l => q Hs l) (RstF.later (r := .ok d e2) h1 s2)
    | exc c p e2 => rw [e] at h1; exact h1
    | stk => rw [e] at h1; exact h1
theorem of_addL {G : Gm} : OpF G rCat dAddL := fun {Hs H d1 d2 d v1 v2 Q} l i1 i2 e q => by
  unfold dAddL at e
  split at e
  · obtain ⟨a, vs, rfl, s1, k1⟩ := i1
    obtain ⟨b, ws, rfl, s2, k2⟩ := i2
    split at e
    · rename_i hz
      obtain rfl := Option.some.inj e
      have e1 := IsL.length k1
      have e2 := IsL.length k2
      refine ⟨a, b, vs, ws, rfl, rfl, l.lp s1, l.lp s2, by omega, fun p hp => q p _ hp fun Hs' l' => ⟨vs ++ ws, upd_same, IsL.append (IsL.mono l' _ _ k1) (IsL.mono l' _ _ k2)⟩⟩
    · cases e
  · cases e
theorem of_repL {G : Gm} : OpF G rRep dRepL := fun {Hs H d1 d2 d v1 v2 Q} l i1 i2 e q => by
  unfold dRepL at e
  split at e
  · rename_i xs k
    obtain ⟨a, vs, rfl, s1, k1⟩ := i1
    obtain rfl : v2 = .int k := i2
    split at e
    · rename_i hz
      obtain ⟨z1, z2, z3⟩ := hz
      obtain rfl := Option.some.inj e
      have e1 := IsL.length k1
      refine ⟨a, k, vs, rfl, rfl, l.lp s1, by omega, by omega, by rw [← e1]; exact z3, fun p hp => q p _ hp fun Hs' l' => ⟨_, upd_same, IsL.rep (IsL.mono l' _ _ k1) _⟩⟩
    · cases e
  · cases e
theorem sf_addL (ha : SE X T W a f) (hb : SE X T W b g) : SF X T W (.BinOp a .Add b pos) (eOp dAddL f g) := sf_op op_cat of_addL ha hb
theorem sf_repL (ha : SE X T W a f) (hb : SE X T W b g) : SF X T W (.BinOp a .Mult b pos) (eOp dRepL f g) := sf_op op_rep of_repL ha hb
def eNeg (u : Env' → Ro D) : Env' → Ro D := fun env => (u env).bind fun d e => match d with
  | .int i => .ok (.int (-i)) e
  | _ => .stk
theorem se_negD {u : Env' → Ro D} (ha : SE X T W a u) : SE X T W (.UnaryOp .USub a pos) (eNeg u) := se_neg ha
/-- a, b = [..], y: the new list the first slot's own -/
def sParO (i j : Nat) (f g : Env' → Ro D) : Env' → So := fun env => ofRo (f env) fun d e => ofRo (g e) fun d' e => .nx ((e.set i (.o d)).set j (.v d'))
theorem ow_setO {σ : St} {env : Env'} {i : Nat} {c q : Addr} {d : D} (z : Ow (σ.set i (some (.ref c))) (env.set i (.o d)) q) : Ow σ env q ∨ q = c := by
  obtain ⟨j, e, h1, h2⟩ := z
  rcases get_set h2 with ⟨_, q2, _⟩ | ⟨n, h2⟩
  · right
    cases q2
    rfl
  · rcases get_set h1 with ⟨z, _⟩ | ⟨_, h1⟩
    · exact absurd z n
    · exact .inl ⟨j, e, h1, h2⟩
theorem ss_parO (C : Ctx X k) (i j : Nat) (fr : Fr T i) (fr2 : Fr T j) {y : Str} {px py pt : Pos} {kt k2 pt2} (hij : i ≠ j) (ha : SF X T W a f) (hb : SE X T W b g) (hi : X.N[i]? = some x := by rfl) (hj : X.N[j]? = some y := by rfl) (hx : X.env.scope.names.lookup x = some .local := by rfl) (hy : X.env.scope.names.lookup y = some .local := by rfl)
    (hw : swappedStores [.Tuple [.Name x px, .Name y py] kt pt] (.Tuple [a, b] k2 pt2) X.env = pure (some [x, y]) := by rfl)
    (hs : swapsWithSole [.Tuple [.Name x px, .Name y py] kt pt] (.Tuple [a, b] k2 pt2) pos.line X.env = pure false := by rfl)
    (h1 : starEach [a, b] X.env = (false, eval a X.env) :: starEach [b] X.env := by rfl) (h2 : starEach [b] X.env = (false, eval b X.env) :: starEach [] X.env := by rfl) :
    SS X T W (.Assign [.Tuple [.Name x px, .Name y py] kt pt] (.Tuple [a, b] k2 pt2) pos) (sParO i j f g) :=
  PS.weak (ps_par C.calm C.nd hi hj hij hx hy (pa_cons ha (pa_cons hb pa_nil h2) h1) hw hs) fun De σ H h => by
    obtain ⟨F, env, S, h⟩ := h
    refine ⟨F, env, S, ?_⟩
    unfold sParO at h
    cases e : f env with
    | exc c q e1 => rw [e] at h; exact fun cls dd H' s st x => h cls dd σ H' s st x
    | stk => rw [e] at h; exact h
    | ok d e1 =>
      rw [e] at h
      simp only [ofRo] at h
      intro c H1 s1 S1 o1 n
      refine ⟨Pl F c, e1, S1, ?_⟩
      cases e' : g e1 with
      | exc c' q e2 =>
        rw [e'] at h
        have nF : ¬ F c := fun z => S.fn c z n
        exact fun cls dd H' s st x => h cls dd σ H' (s1.trans s) st.open (exc_mono (le_open (G := gm X) (F := F)) x)
      | stk => rw [e'] at h; exact h
      | ok d' e2 =>
        rw [e'] at h
        simp only [ofRo] at h
        intro w H2 s2 S2 i2
        obtain ⟨u, eu, nt, _⟩ := o1.there
        have k2 : H2 c = H1 c := by rw [s2.keep c u eu nt fun z => S1.fr c z (.inr rfl), eu]
        have o2 := o1.mono (s2.le (Pl F c)) k2
        obtain ⟨S3, s3⟩ := Sta.setO (i := i) (s1.trans s2) (.inl n) S2 o2 (fun z => S.fn c z n) fr (S.old.free (.inl n))
        have le : Le (hid H2 (Hd (Pl F c) σ e2)) (hid H2 (Hd F (σ.set i (some (.ref c))) (e2.set i (.o d)))) := Le.hid fun q u e _ kk => ⟨fun z => kk (by
          rcases z with z | z
          · rcases ow_setO z with z | z
            · exact .inl z
            · exact .inr (.inr z)
          · exact .inr (.inl z)), e⟩
        obtain ⟨S4, s4⟩ := S3.set (i := j) fr2 (Is.mono le _ _ i2)
        exact ⟨.ref c, w, rfl, h _ H2 (s3.trans s4) S4⟩
end
end Rf

namespace Rf
open PySem L2 LamX
open PyProof.Rows hiding St

/-! ## comparisons, by what they come to -/
def CmpR (X : Cx) (op : CmpOp) (o : D → D → Option Bool) : Prop := ∃ r, OpR X (compareOp op) r ∧ OpB (gm X) r o
section
variable {X : Cx} {T : Tb} {W : WX} {k : Nat} {a b c : Expr} {f g u : Env' → Ro D} {pos : Pos} {op op' : CmpOp} {o o' : D → D → Option Bool}
theorem cm_eq (C : Cs X) : CmpR X .Eq bEq := ⟨_, op_eqD (by have := C.hu; omega), ob_eq⟩
theorem cm_ne (C : Cs X) : CmpR X .NotEq bNe := ⟨_, op_neD (by have := C.hu; omega), ob_ne⟩
theorem cm_lt (C : Cs X) : CmpR X .Lt bLt := ⟨_, (op_ltT (by have := C.hu; omega)).or op_lt, ob_lt⟩
theorem cm_le : CmpR X .LtE bLe := ⟨_, op_le, ob_I2⟩
theorem cm_gt : CmpR X .Gt bGt := ⟨_, op_gt, ob_I2⟩
theorem cm_ge : CmpR X .GtE bGe := ⟨_, op_ge, ob_I2⟩
theorem cm_in (C : Cs X) : CmpR X .In bIn := ⟨_, op_in_seq.or (op_inD (by have := C.hu; omega)), ob_in⟩
theorem cm_notIn (C : Cs X) : CmpR X .NotIn bNotIn := ⟨_, op_notIn_seq.or (op_notInD (by have := C.hu; omega)), ob_notIn⟩
theorem cm_isN : CmpR X .Is bIsN := ⟨_, op_isN, ob_isN⟩
theorem cm_isNotN : CmpR X .IsNot bIsNotN := ⟨_, op_notN, ob_isNotN⟩
theorem cm_isB : CmpR X .Is bIsB := ⟨_, op_isBl, ob_isB⟩
theorem cm_isNotB : CmpR X .IsNot bIsNotB := ⟨_, op_notBl, ob_isNotB⟩
theorem se_cm (h : CmpR X op o) (ha : SE X T W a f) (hb : SE X T W b g) (hm : behindInMarks op b = false := by rfl) : SE X T W (.Compare a [op] [b] pos) (eCmp o f g) := by
  obtain ⟨r, h1, h2⟩ := h
  exact se_cmp h1 h2 hm ha hb
theorem sq_cm (h : CmpR X op o) (ha : SE X T W a f) (hb : SE X T W b g) (hm : behindInMarks op b = false := by rfl) : SQ X T W (.Compare a [op] [b] pos) (qCmp o f g) := by
  obtain ⟨r, h1, h2⟩ := h
  exact sq_cmp h1 h2 hm ha hb
theorem se_ch (h : CmpR X op o) (h' : CmpR X op' o') (ha : SE X T W a f) (hb : SE X T W b g) (hc : SE X T W c u) (hm : lastMarks [op, op'] [b, c] = false := by with_unfolding_all rfl) : SE X T W (.Compare a [op, op'] [b, c] pos) (eChain o o' f g u) := by
  obtain ⟨r, h1, h2⟩ := h
  obtain ⟨r', h3, h4⟩ := h'
  exact se_chain h1 h2 h3 h4 ha hb hc hm
theorem sq_ch (h : CmpR X op o) (h' : CmpR X op' o') (ha : SE X T W a f) (hb : SE X T W b g) (hc : SE X T W c u) (hm : lastMarks [op, op'] [b, c] = false := by with_unfolding_all rfl) : SQ X T W (.Compare a [op, op'] [b, c] pos) (qChain o o' f g u) := by
  obtain ⟨r, h1, h2⟩ := h
  obtain ⟨r', h3, h4⟩ := h'
  exact sq_chain h1 h2 h3 h4 ha hb hc hm
/-! calls of built-in functions, in short -/
variable {p : Pos} {x : Str}
theorem se_abs (hg : Gl X "abs") (hm : X.mg "abs" = none) (ha : SE X T W a f) (h0 : starEach [a] X.env = (false, eval a X.env) :: starEach [] X.env := by rfl) : SE X T W (.Call (.Name "abs" p) [a] [] pos) (eCall oAbs (aCons f aNil)) :=
  se_callB call_abs oc_abs hg hm (by decide +kernel) (sa_cons ha sa_nil h0) (by decide) (by decide) h0 (by rfl)
theorem se_toInt (hg : Gl X "int") (hm : X.mg "int" = none) (ha : SE X T W a f) (h0 : starEach [a] X.env = (false, eval a X.env) :: starEach [] X.env := by rfl) : SE X T W (.Call (.Name "int" p) [a] [] pos) (eCall oInt (aCons f aNil)) :=
  se_callTy call_int1 oc_int hg hm (by decide +kernel) (sa_cons ha sa_nil h0) (by decide) (by decide) h0 (by rfl)
theorem se_sum (hc : X.calm = true) (hg : Gl X "sum") (hm : X.mg "sum" = none) (ha : SE X T W a f) (h0 : starEach [a] X.env = (false, eval a X.env) :: starEach [] X.env := by rfl) : SE X T W (.Call (.Name "sum" p) [a] [] pos) (eCall oSum (aCons f aNil)) :=
  se_callB (cr_sum hc) oc_sum hg hm (by decide +kernel) (sa_cons ha sa_nil h0) (by decide) (by decide) h0 (by rfl)
theorem se_max1 (hc : X.calm = true) (hg : Gl X "max") (hm : X.mg "max" = none) (ha : SE X T W a f) (h0 : starEach [a] X.env = (false, eval a X.env) :: starEach [] X.env := by rfl) : SE X T W (.Call (.Name "max" p) [a] [] pos) (eCall (oMx maxL) (aCons f aNil)) :=
  se_callB (cr_max hc) oc_max hg hm (by decide +kernel) (sa_cons ha sa_nil h0) (by decide) (by decide) h0 (by rfl)
theorem se_min1 (hc : X.calm = true) (hg : Gl X "min") (hm : X.mg "min" = none) (ha : SE X T W a f) (h0 : starEach [a] X.env = (false, eval a X.env) :: starEach [] X.env := by rfl) : SE X T W (.Call (.Name "min" p) [a] [] pos) (eCall (oMx minL) (aCons f aNil)) :=
  se_callB (cr_min hc) oc_min hg hm (by decide +kernel) (sa_cons ha sa_nil h0) (by decide) (by decide) h0 (by rfl)
theorem se_max2 (hc : X.calm = true) (hg : Gl X "max") (hm : X.mg "max" = none) (ha : SE X T W a f) (hb : SE X T W b g) (h0 : starEach [a, b] X.env = (false, eval a X.env) :: starEach [b] X.env := by rfl) (h1 : starEach [b] X.env = (false, eval b X.env) :: starEach [] X.env := by rfl)
    (hpl : (backTo pos (starEach [b] X.env)).any (·.1) = false := by rfl) : SE X T W (.Call (.Name "max" p) [a, b] [] pos) (eCall (o2I max2) (aCons f (aCons g aNil))) :=
  se_callB (call_max2 hc) oc_2I hg hm (by decide +kernel) (sa_cons ha (sa_cons hb sa_nil h1) h0) (by decide) (by decide) h0 hpl
theorem se_min2 (hc : X.calm = true) (hg : Gl X "min") (hm : X.mg "min" = none) (ha : SE X T W a f) (hb : SE X T W b g) (h0 : starEach [a, b] X.env = (false, eval a X.env) :: starEach [b] X.env := by rfl) (h1 : starEach [b] X.env = (false, eval b X.env) :: starEach [] X.env := by rfl)
    (hpl : (backTo pos (starEach [b] X.env)).any (·.1) = false := by rfl) : SE X T W (.Call (.Name "min" p) [a, b] [] pos) (eCall (o2I min2) (aCons f (aCons g aNil))) :=
  se_callB (call_min2 hc) oc_2I hg hm (by decide +kernel) (sa_cons ha (sa_cons hb sa_nil h1) h0) (by decide) (by decide) h0 hpl
end
end Rf

namespace Rf
open PySem L2 LamX
open PyProof.Rows hiding St

/-! ## words for the printed texts -/
theorem fr_suite {T T2 : Tb} {i j : Nat} {a : Addr} (hp : ∀ q ∈ T2.pins, q = (i, a) ∨ q ∈ T.pins) (fr : Fr T j) (h : i ≠ j) : Fr T2 j := fun p hq e => by
  rcases hp p hq with z | z
  · rw [z] at e
    exact h e
  · exact fr p z e
theorem Cs.suite {X : Cx} (C : Cs X) {a : Addr} {pn : List (Addr × Obj)} : Cs (X.suite a pn) := ⟨C.hu, C.nd⟩
def onlyN (b : Str → Env' → So) : Str → Option (Str × D) → Env' → So := fun c p => match p with
  | none => b c
  | some _ => fun _ => .stk
theorem sb_stk {X : Cx} {T : Tb} {W : WX} {sts : List Stmt} : SB X T W sts fun _ => .stk := ⟨fun pins s σ H De I h => by
  obtain ⟨F, env, S, h⟩ := h
  exact h.elim⟩
theorem sb_onlyN {X : Cx} {T : Tb} {W : WX} {sts : List Stmt} {b : Str → Env' → So} {c : Str} {p : Option (Str × D)} (h : p = none → SB X T W sts (b c)) : SB X T W sts (onlyN b c p) := by
  cases p with
  | none => exact h rfl
  | some _ => exact sb_stk
theorem spM_spF {G : Gm} {T : Tb} {m : Fm} {vs : List V} {H : Hp} {Q : VK} {E : XK} (h : spM G T m vs H Q E) : spF G T m vs H Q E := by
  obtain ⟨F, args, S, h⟩ := h
  refine ⟨F, args, S, ?_⟩
  cases e : m args with
  | ok d e2 =>
    rw [e] at h
    exact fun a H' s st o n => h _ H' s st.open (o.open (H0 := H) st fun z => S.fn a z n)
  | exc c p e2 =>
    rw [e] at h
    exact h
  | stk =>
    rw [e] at h
    exact h
theorem Cal.open {P : Program} {w : World} {K : PySem.W.Frag} {mg : Str → Option Value} {base : Heap} {k : Nat} {x : Str} {G : Gm} {T : Tb} {m : Fm} (c : Cal P w K mg base k x (spF G T m)) : Cal P w K mg base k x (spM G T m) := by
  obtain ⟨f, fd, ps, Fn, h1, h2, h3⟩ := c.ex
  exact ⟨f, fd, ps, ⟨fun vs H Q E h => Fn.len vs H Q E (spM_spF h), fun A outer s H args us vs Q E a b c d e h => Fn.go A outer s H args us vs Q E a b c d e (spM_spF h)⟩, h1, h2, h3⟩
theorem Cal.mono {P : Program} {w : World} {K : PySem.W.Frag} {mg : Str → Option Value} {base : Heap} {j k : Nat} {x : Str} {sp : Sp} (c : Cal P w K mg base j x sp) (h : j ≤ k) : Cal P w K mg base k x sp := by
  obtain ⟨f, fd, ps, Fn, h1, h2, h3⟩ := c.ex
  exact ⟨f, fd, ps, Fn.mono h, h1, h2, h3⟩
/-- a constant of the module -/
structure Con (K : PySem.W.Frag) (mg : Str → Option Value) (x : Str) (d : D) : Prop where
  ex : ∃ v u, mg x = some u ∧ RelV v u ∧ ∀ Hs, Is ⟨K, mg⟩ Hs d v
theorem se_con {X : Cx} {T : Tb} {W : WX} {x : Str} {d : D} {pos : Pos} (c : Con X.K X.mg x d) (hg : Gl X x) (hd : (x == ("__debug__" : Str)) = false := by decide) : SE X T W (.Name x pos) (eC d) := by
  obtain ⟨v, u, h1, h2, h3⟩ := c.ex
  exact se_glob hg h1 h2 h3 hd
end Rf

namespace Rf
open PySem L2 LamX
open PyProof.Rows hiding St
open PySem.W (Frag)

/-! ## words for the head -/
theorem law_sp {K : Frag} {mg : Str → Option Value} {T : Tb} {m : Fm} {H : Hp} {a : Addr} {ns : List Int} (hT : Tabs T.tabs H) (hS : SqL K H a (ns.map V.int)) (e : ∃ os, m [.v (.scr ns)] = .ok (.bl true) os) : spM ⟨K, mg⟩ T m [.ref a] H (fun v _ => v = .bl true) fun _ _ _ => False := by
  obtain ⟨os, e⟩ := e
  have no : ∀ b, ¬ Ow [some (V.ref a)] [Slot.v (.scr ns)] b := fun b ⟨i, d, h1, _⟩ => by
    cases i with
    | zero => simp at h1
    | succ i => simp at h1
  have le : Le H (hid H (Hd (fun _ => False) [some (V.ref a)] [Slot.v (.scr ns)])) := fun b o e _ => hid_some.mpr ⟨fun z => z.elim (no b) id, e⟩
  refine ⟨fun _ => False, [.v (.scr ns)], ⟨rfl, fun i s h => ?_, fun i j d d' b h1 h2 h3 h4 => absurd ⟨i, d, h1, h3⟩ (no b), fun b z => absurd z (no b), fun b z => z.elim, ⟨hT, fun p hp => by cases hp⟩, .nil rfl, Le.nil⟩, ?_⟩
  · cases i with
    | zero =>
      simp at h
      subst h
      exact ⟨_, rfl, .ref a, rfl, a, rfl, le.sqL hS⟩
    | succ i => simp at h
  · rw [e]
    exact fun v H' _ _ i => i
theorem tabs_nil {cs : List (Addr × Addr)} {tt : List (Addr × Str)} {H : Hp} (h : ∀ p ∈ cs, H p.2 = some (.tbl #[])) (e : ∀ p ∈ tt, ∃ q ∈ cs, q.2 = p.1) : Tabs tt H := fun p hp => by
  obtain ⟨q, hq, z⟩ := e p hp
  have y := h q hq
  rw [z] at y
  exact TabS.nil y
theorem con_loose {K : Frag} {mg : Str → Option Value} {h : Heap} {p : Program} {lv : List (Str × PySem.W.WData)} {x : Str} {i : Int} (X : PySem.W.XL p lv mg h) (hm : (x, .int i) ∈ lv) : Con K mg x (.int i) := by
  obtain ⟨v, h1, h2⟩ := X.2.val _ hm
  cases h2
  exact ⟨.int i, _, h1, ⟨_, rfl⟩, fun _ => rfl⟩
theorem con_int {K : Frag} {h : Heap} {mg : Str → Option Value} {x : Str} {i : Int} {t : Tok} (X : K.In h) (G : h.Ns mainGlobals mg) (e : PySem.W.nsIn K mainGlobals x = some (some (.int i t))) : Con K mg x (.int i) := ⟨.int i, _, PySem.W.mg_of X G e, ⟨_, rfl⟩, fun _ => rfl⟩
theorem con_str {K : Frag} {h : Heap} {mg : Str → Option Value} {x i : Str} {t : Tok} (X : K.In h) (G : h.Ns mainGlobals mg) (e : PySem.W.nsIn K mainGlobals x = some (some (.str i t))) : Con K mg x (.str i) := ⟨.str i, _, PySem.W.mg_of X G e, ⟨_, rfl⟩, fun _ => rfl⟩
/-- a constant tuple of numbers and texts -/
def flat1 : D → Value → Bool
  | .int i, .int j _ => i == j
  | .str x, .str y _ => x == y
  | .bl a, .bool b => a == b
  | .non, .none => true
  | _, _ => false
def flats : List D → List Value → Bool
  | [], [] => true
  | d :: ds, v :: vs => flat1 d v && flats ds vs
  | _, _ => false
theorem flat1_is {G : Gm} {H : Hp} {d : D} {u : Value} (h : flat1 d u = true) : ∃ v, RelV v u ∧ Is G H d v := by
  cases d <;> cases u <;> simp only [flat1, beq_iff_eq, Bool.false_eq_true] at h
  · exact ⟨.non, rfl, rfl⟩
  · subst h
    exact ⟨.bl _, rfl, rfl⟩
  · subst h
    exact ⟨.int _, ⟨_, rfl⟩, rfl⟩
  · subst h
    exact ⟨.str _, ⟨_, rfl⟩, rfl⟩
theorem flats_is {G : Gm} {H : Hp} : ∀ {ds : List D} {us : List Value}, flats ds us = true → ∃ vs, Vals vs us ∧ IsL G H ds vs
  | [], [], _ => ⟨[], .nil, rfl⟩
  | [], _ :: _, h => by cases h
  | _ :: _, [], h => by cases h
  | d :: ds, u :: us, h => by
    have h : (flat1 d u && flats ds us) = true := h
    obtain ⟨h1, h2⟩ := Bool.and_eq_true_iff.mp h
    obtain ⟨vs, r, i⟩ := flats_is (G := G) (H := H) h2
    obtain ⟨v, r1, i1⟩ := flat1_is (G := G) (H := H) h1
    exact ⟨v :: vs, .cons r1 r, v, vs, rfl, i1, i⟩
theorem con_tup {K : Frag} {h : Heap} {mg : Str → Option Value} {x : Str} {a : Addr} {od : Option Addr} {its : Array Value} {n : Nat} {sl : Array (Option Value)} {ds : List D} (X : K.In h) (G : h.Ns mainGlobals mg) (e : PySem.W.nsIn K mainGlobals x = some (some (.ref a))) (l : K.lookup a = some ⟨.type "tuple", od, .seq its n, sl⟩) (f : flats ds its.toList = true) (z : its.size ≤ 1000) : Con K mg x (.ctup ds) := by
  refine ⟨.ref a, _, PySem.W.mg_of X G e, rfl, fun Hs => ?_⟩
  obtain ⟨vs, r, i⟩ := flats_is (G := ⟨K, mg⟩) (H := Hs) f
  exact ⟨a, vs, rfl, .inr ⟨_, its, n, l, rfl, rfl, by rw [sizeLine_eq]; omega, r⟩, i⟩
/-- the text of an __init__ that says super().__init__('..') first -/
structure InitT (st : Stmt) (ps : List Str) (rest : List Stmt) : Prop where
  ex : ∃ (txt : Str) (j : Nat) (p0 p1 p2 p3 p4 p5 : Pos) (ar : PySem.Arg), defBody st = supS txt j p0 p1 p2 p3 p4 p5 :: rest ∧
    ((defArgs st).posonlyargs ++ (defArgs st).args).head? = some ar ∧ ar.arg = "self" ∧ (∀ y ∈ (defScope st).names, y.2 ≠ .cell) ∧ (∀ y ∈ ps, (defScope st).names.lookup y = some .local) ∧ (defScope st).names.lookup ("super" : Str) = some .globalImplicit ∧ (defScope st).names.lookup ("__class__" : Str) = some .free ∧
      (defScope st).kind = .function ∧ (defScope st).isCoroutine = false ∧ (defScope st).isGenerator = false ∧
    (∀ qual L fI cda cc, (∃ pl, supEv (PySem.W.ksEnv qual (defScope st) L fI (.ref cda) cc) pl txt j p0 p1 p2 p3 p4) ∧ interactive (PySem.W.ksEnv qual (defScope st) L fI (.ref cda) cc) = false ∧ swapsWith (supE txt j p0 p1 p2 p3 p4) none p5.line (PySem.W.ksEnv qual (defScope st) L fI (.ref cda) cc) = pure false) ∧
    ∀ qual kV doc pm an cda ct cc (us : List Value), us.length = ps.length → bindArgs (PySem.W.ksFn "__init__" qual (defArgs st) (defBody st) (defScope st) .none kV doc pm an (.ref cda) ct cc) ⟨us, []⟩ = pure (ps.zip us)
theorem itx_mk {P : Program} {K : Frag} {C fI : Addr} {ps : List Str} {rest : List Stmt} {st : Stmt} {qual : Str} {kV doc pm ct oc : Value} {an od : Option Addr} {osl : Array (Option Value)} {cc cda : Addr} {ccl : Value} {cdd : Option Addr} {vs : Array Value} {ccs : Array (Option Value)} {file : Str} {tf : Tok} {cl : Value} {cld : Option Addr} {csl : Array (Option Value)}
    (iC : PySem.W.findIn K (.ref C) "__init__" = some (some (.ref fI))) (l : K.lookup fI = some ⟨oc, od, .func (PySem.W.ksFn "__init__" qual (defArgs st) (defBody st) (defScope st) .none kV doc pm an (.ref cda) ct cc), osl⟩) (tI : PySem.W.typeIn K (.ref fI) = some (.type "function")) (cI : PySem.W.codeIn K (.ref cda) qual = true)
    (lD : K.lookup cda = some ⟨ccl, cdd, .fields vs, ccs⟩) (l2 : vs[2]? = some (.str file tf)) (lf : ((P.main.file : Str) == file) = true) (lC : K.lookup cc = some ⟨cl, cld, .cell (some (.ref C)), csl⟩) (S : InitT st ps rest) : ITx P K C fI ps rest := by
  obtain ⟨txt, j, p0, p1, p2, p3, p4, p5, ar, e, h1, h2, h3, h4, h5, h6, h7, h8, h9, h10, h11⟩ := S.ex
  refine ⟨iC, tI, qual, _, _, kV, doc, pm, ct, oc, an, od, osl, cc, cda, ccl, cdd, vs, ccs, file, tf, cl, cld, csl, ar, txt, j, p0, p1, p2, p3, p4, p5, by rw [e] at l; exact l, cI, lD, l2, lf, lC, fun us hl => ?_, h1, h2, h3, h4, h5, h6, h7, h8, h9, fun L => h10 qual L fI cda cc⟩
  have z := h11 qual kV doc pm an cda ct cc us hl
  rw [e] at z
  exact z
end Rf

namespace Rf
open PySem L2 LamX

/-! ## the tape that the laws draw from -/
def b_tape : Env' → So := sSeq (sSetO 1 (eLc [2] (iSeq (eSl (eVar 0) (oNone) (oSome (eC (.int 63))))) (tName 2) (qYes) (eCall oAbs (aCons (eCall oInt (aCons (eVar 2) aNil)) aNil))))
  (sRetF (eLst (aCons (eVar 1) (aCons (eC (.int 0)) (aCons (eC (.int 0)) (aCons (eOp dAdd (eC (.int 31)) (eLenV 1)) (aCons (eC (.int 0)) (aNil))))))))
def tapeM : Fm := runF [false] 3 b_tape
def b_pick : Env' → So := sSeq (sIf (qAnd (qCmp bEq (eIxV 0 (eC (.int 2))) (eC (.int 0))) (qCmp bLt (eIxV 0 (eC (.int 1))) (eCall oLen (aCons (eIxV 0 (eC (.int 0))) aNil)))) (sSeq (sSet 3 (eOp dIx (eIxV 0 (eC (.int 0))) (eIxV 0 (eC (.int 1)))))
  (sSeq (sSetIx 0 (eC (.int 1)) (eOp dAdd (eIxV 0 (eC (.int 1))) (eC (.int 1))))
  (sSeq (sSetIx 0 (eC (.int 3)) (eOp dMod (eCall oInt (aCons (eOp dAdd (eOp dAdd (eOp dMul (eIxV 0 (eC (.int 3))) (eC (.int 69621))) (eVar 3)) (eC (.int 11))) aNil)) (eC (.int 2147483629))))
  (sIf (qCmp bGe (eVar 3) (eOp dPow (eC (.int 10)) (eC (.int 18)))) (sSetIx 0 (eC (.int 2)) (eVar 3)) (sNil))))) (sNil))
  (sSeq (sIf (qCmp bGt (eIxV 0 (eC (.int 2))) (eC (.int 0))) (sSeq (sSet 4 (eOp dMod (eCall oInt (aCons (eIxV 0 (eC (.int 2))) aNil)) (eVar 1)))
  (sSeq (sSetIx 0 (eC (.int 2)) (eOp dDiv (eIxV 0 (eC (.int 2))) (eVar 1)))
  (sRet (eVar 4)))) (sNil))
  (sSeq (sSetIx 0 (eC (.int 4)) (eOp dAdd (eIxV 0 (eC (.int 4))) (eC (.int 1))))
  (sSeq (sSet 2 (eOp dMod (eCall oInt (aCons (eOp dMul (eCall oInt (aCons (eOp dAdd (eIxV 0 (eC (.int 3))) (eOp dMul (eC (.int 7919)) (eIxV 0 (eC (.int 4))))) aNil)) (eC (.int 48271))) aNil)) (eC (.int 2147483647))))
  (sSeq (sSet 2 (eOp dMod (eCall oInt (aCons (eOp dMul (eVar 2) (eOp dAdd (eOp dDiv (eVar 2) (eC (.int 1009))) (eC (.int 69621)))) aNil)) (eC (.int 2147483647))))
  (sSeq (sSet 2 (eOp dMod (eCall oInt (aCons (eOp dMul (eVar 2) (eOp dAdd (eOp dDiv (eVar 2) (eC (.int 2003))) (eC (.int 40692)))) aNil)) (eC (.int 2147483399))))
  (sRet (eOp dMod (eCall oInt (aCons (eOp dDiv (eVar 2) (eC (.int 16))) aNil)) (eVar 1)))))))) 
def pickM : Fm := runM [true, false] 5 b_pick

/-- integers of some size may be multiplied -/
def BD : Int := 10 ^ 30
theorem log2_lt {i : Int} (h : -BD ≤ i ∧ i ≤ BD) : i.natAbs.log2 < 1000 := by
  have h1 : i.natAbs ≤ 10 ^ 30 := by
    have : BD = ((10 ^ 30 : Nat) : Int) := by decide
    omega
  by_cases h0 : i.natAbs = 0
  · rw [h0]; decide
  · exact (Nat.log2_lt h0).mpr (Nat.lt_of_le_of_lt h1 (by decide +kernel))
theorem okMul_of {i j : Int} (h1 : -BD ≤ i ∧ i ≤ BD) (h2 : -BD ≤ j ∧ j ≤ BD) : okMul i j = true := by
  have := log2_lt h1
  have := log2_lt h2
  exact decide_eq_true (by omega)
theorem okDiv_of {i j : Int} (h1 : 0 < j) (h2 : j ≤ BD) : okDiv i j = true := by
  have := log2_lt (i := j) ⟨by have : (0 : Int) ≤ BD := by decide
                               omega, h2⟩
  exact decide_eq_true ⟨by omega, by omega⟩
theorem okMod_of {i j : Int} (h1 : 0 < j) : okMod i j = true := decide_eq_true h1
theorem mul_ii {i j : Int} (h1 : -BD ≤ i ∧ i ≤ BD) (h2 : -BD ≤ j ∧ j ≤ BD) : dMul (.int i) (.int j) = some (.int (i * j)) := by
  show (if okMul i j then some (D.int (i * j)) else none) = _
  rw [okMul_of h1 h2]; rfl
theorem div_ii {i j : Int} (h1 : 0 < j) (h2 : j ≤ BD) : dDiv (.int i) (.int j) = some (.int (i / j)) := by
  show (if okDiv i j then some (D.int (divN i j)) else none) = _
  have e : divN i j = i / j := if_neg (by omega)
  rw [okDiv_of h1 h2, e]; rfl
theorem div_nn {i j : Int} (h1 : j < 0) (h2 : -BD ≤ j) : dDiv (.int i) (.int j) = some (.int ((-i) / (-j))) := by
  show (if okDiv i j then some (D.int (divN i j)) else none) = _
  have e : divN i j = (-i) / (-j) := if_pos h1
  have l := log2_lt (i := j) ⟨h2, by have : (0 : Int) ≤ BD := by decide
                                     omega⟩
  have k : okDiv i j = true := decide_eq_true ⟨by omega, by omega⟩
  rw [k, e]; rfl
theorem mod_ii {i j : Int} (h1 : 0 < j) : dMod (.int i) (.int j) = some (.int (i % j)) := by
  show (if okMod i j then some (D.int (i % j)) else none) = _
  rw [okMod_of h1]; rfl
theorem add_ii (i j : Int) : dAdd (.int i) (.int j) = some (.int (i + j)) := rfl
theorem sub_ii (i j : Int) : dSub (.int i) (.int j) = some (.int (i - j)) := rfl
theorem eq_ii (i j : Int) : bEq (.int i) (.int j) = some (decide (i = j)) := by
  show some (eqD (.int i) (.int j)) = _
  rfl
theorem lt_ii (i j : Int) : bLt (.int i) (.int j) = some (decide (i < j)) := rfl
theorem gt_ii (i j : Int) : bGt (.int i) (.int j) = some (decide (j < i)) := rfl
theorem le_ii (i j : Int) : bLe (.int i) (.int j) = some (decide (i ≤ j)) := rfl
theorem ge_ii (i j : Int) : bGe (.int i) (.int j) = some (decide (j ≤ i)) := rfl
theorem BD_eq : BD = 1000000000000000000000000000000 := by decide

/-- the tape; n bounds the draws so far -/
def tapeD (cells : List Int) (i t s c : Int) : D := .lst [.lst (cells.map .int), .int i, .int t, .int s, .int c]
def Tape (n : Nat) (d : D) : Prop := ∃ (cells : List Int) (i t s c : Int), d = tapeD cells i t s c ∧ (∀ x ∈ cells, 0 ≤ x) ∧ 0 ≤ i ∧ 0 ≤ t ∧ 0 ≤ s ∧ s ≤ 2147483647 ∧ 0 ≤ c ∧ c ≤ n
theorem ixN_nat {n : Nat} {i : Int} (h : 0 ≤ i) (h2 : i < n) : ixN n i = some i.toNat := by
  unfold ixN
  rw [if_pos h, if_pos h2]
def stepI (i s : Int) (cell : Int) : Int × Int := (i + 1, (s * 69621 + cell + 11) % 2147483629)

def b_pick1 : Env' → So := sSeq (sSet 3 (eOp dIx (eIxV 0 (eC (.int 0))) (eIxV 0 (eC (.int 1)))))
  (sSeq (sSetIx 0 (eC (.int 1)) (eOp dAdd (eIxV 0 (eC (.int 1))) (eC (.int 1))))
  (sSeq (sSetIx 0 (eC (.int 3)) (eOp dMod (eCall oInt (aCons (eOp dAdd (eOp dAdd (eOp dMul (eIxV 0 (eC (.int 3))) (eC (.int 69621))) (eVar 3)) (eC (.int 11))) aNil)) (eC (.int 2147483629))))
  (sIf (qCmp bGe (eVar 3) (eOp dPow (eC (.int 10)) (eC (.int 18)))) (sSetIx 0 (eC (.int 2)) (eVar 3)) (sNil))))
def b_pick2 : Env' → So := sSeq (sIf (qCmp bGt (eIxV 0 (eC (.int 2))) (eC (.int 0))) (sSeq (sSet 4 (eOp dMod (eCall oInt (aCons (eIxV 0 (eC (.int 2))) aNil)) (eVar 1)))
  (sSeq (sSetIx 0 (eC (.int 2)) (eOp dDiv (eIxV 0 (eC (.int 2))) (eVar 1)))
  (sRet (eVar 4)))) (sNil))
  (sSeq (sSetIx 0 (eC (.int 4)) (eOp dAdd (eIxV 0 (eC (.int 4))) (eC (.int 1))))
  (sSeq (sSet 2 (eOp dMod (eCall oInt (aCons (eOp dMul (eCall oInt (aCons (eOp dAdd (eIxV 0 (eC (.int 3))) (eOp dMul (eC (.int 7919)) (eIxV 0 (eC (.int 4))))) aNil)) (eC (.int 48271))) aNil)) (eC (.int 2147483647))))
  (sSeq (sSet 2 (eOp dMod (eCall oInt (aCons (eOp dMul (eVar 2) (eOp dAdd (eOp dDiv (eVar 2) (eC (.int 1009))) (eC (.int 69621)))) aNil)) (eC (.int 2147483647))))
  (sSeq (sSet 2 (eOp dMod (eCall oInt (aCons (eOp dMul (eVar 2) (eOp dAdd (eOp dDiv (eVar 2) (eC (.int 2003))) (eC (.int 40692)))) aNil)) (eC (.int 2147483399))))
  (sRet (eOp dMod (eCall oInt (aCons (eOp dDiv (eVar 2) (eC (.int 16))) aNil)) (eVar 1)))))))
theorem pick_split : b_pick = sSeq (sIf (qAnd (qCmp bEq (eIxV 0 (eC (.int 2))) (eC (.int 0))) (qCmp bLt (eIxV 0 (eC (.int 1))) (eCall oLen (aCons (eIxV 0 (eC (.int 0))) aNil)))) b_pick1 sNil) b_pick2 := rfl
theorem pow_ten : dPow (.int 10) (.int 18) = some (.int 1000000000000000000) := by kernel_rfl
/-- the second part: digits, or a number -/
theorem pick2 {cells : List Int} {i t s c m : Int} {n : Nat} (x3 : Slot) (hc : ∀ x ∈ cells, 0 ≤ x) (hi : 0 ≤ i) (ht : 0 ≤ t) (hs : 0 ≤ s ∧ s ≤ 2147483647) (hn : 0 ≤ c ∧ c ≤ n) (hn2 : n ≤ 1000000000) (hm : 0 < m) (hb : m ≤ 1000000000000000000000) :
    ∃ r tp x2 x4, b_pick2 [.o (tapeD cells i t s c), .v (.int m), .no, x3, .no] = .ret (.int r) [.o tp, .v (.int m), x2, x3, x4] ∧ 0 ≤ r ∧ r < m ∧ Tape (n + 1) tp := by
  have hb' : m ≤ BD := by rw [BD_eq]; omega
  by_cases h : 0 < t
  · refine ⟨t % m, tapeD cells i (t / m) s c, .no, .v (.int (t % m)), ?_, Int.emod_nonneg _ (by omega), Int.emod_lt_of_pos _ hm, cells, i, _, s, c, rfl, hc, hi, Int.ediv_nonneg ht (by omega), hs.1, hs.2, hn.1, by omega⟩
    have h0 : ¬ t = 0 := by omega
    simp [b_pick2, tapeD, sSeq, sIf, sRet, sSet, sSetIx, sNil, ofRo, Ro.bind, lift, eVar, eC, eOp, qCmp, qAnd, eIxV, slotD, dIx, dIxS, isDic, atI, ixN, eCall, aCons, aNil, oLen, lenD, oInt, eq_ii, lt_ii, gt_ii, ge_ii, add_ii, outR, outOk, outs, ownS, isNo, isLstS, List.replicate, mod_ii hm, div_ii hm hb', h]
  · obtain rfl : t = 0 := by omega
    have m1 : ∀ z : Int, 0 ≤ z % 2147483647 ∧ z % 2147483647 < 2147483647 := fun z => ⟨Int.emod_nonneg _ (by decide), Int.emod_lt_of_pos _ (by decide)⟩
    have m2 : ∀ z : Int, 0 ≤ z % 2147483399 ∧ z % 2147483399 < 2147483399 := fun z => ⟨Int.emod_nonneg _ (by decide), Int.emod_lt_of_pos _ (by decide)⟩
    have e1 : dMul (.int 7919) (.int (c + 1)) = some (.int (7919 * (c + 1))) := mul_ii (by decide) (by rw [BD_eq]; omega)
    have e2 : dMul (.int (s + 7919 * (c + 1))) (.int 48271) = some (.int ((s + 7919 * (c + 1)) * 48271)) := mul_ii (by rw [BD_eq]; omega) (by decide)
    generalize hz : (s + 7919 * (c + 1)) * 48271 % 2147483647 = z at *
    have z1 : 0 ≤ z ∧ z < 2147483647 := hz ▸ m1 _
    have e3 : dDiv (.int z) (.int 1009) = some (.int (z / 1009)) := div_ii (by decide) (by decide)
    have e4 : dMul (.int z) (.int (z / 1009 + 69621)) = some (.int (z * (z / 1009 + 69621))) := mul_ii (by rw [BD_eq]; omega) (by rw [BD_eq]; omega)
    generalize hy : z * (z / 1009 + 69621) % 2147483647 = y at *
    have y1 : 0 ≤ y ∧ y < 2147483647 := hy ▸ m1 _
    have e5 : dDiv (.int y) (.int 2003) = some (.int (y / 2003)) := div_ii (by decide) (by decide)
    have e6 : dMul (.int y) (.int (y / 2003 + 40692)) = some (.int (y * (y / 2003 + 40692))) := mul_ii (by rw [BD_eq]; omega) (by rw [BD_eq]; omega)
    generalize hx : y * (y / 2003 + 40692) % 2147483399 = x at *
    have e7 : dDiv (.int x) (.int 16) = some (.int (x / 16)) := div_ii (by decide) (by decide)
    have q1 : ∀ i, dMod (.int i) (.int 2147483647) = some (.int (i % 2147483647)) := fun i => mod_ii (by decide)
    have q2 : ∀ i, dMod (.int i) (.int 2147483399) = some (.int (i % 2147483399)) := fun i => mod_ii (by decide)
    refine ⟨x / 16 % m, tapeD cells i 0 s (c + 1), .v (.int x), .no, ?_, Int.emod_nonneg _ (by omega), Int.emod_lt_of_pos _ hm, cells, i, 0, s, c + 1, rfl, hc, hi, by omega, hs.1, hs.2, by omega, by omega⟩
    simp [b_pick2, tapeD, sSeq, sIf, sRet, sSet, sSetIx, sNil, ofRo, Ro.bind, lift, eVar, eC, eOp, qCmp, qAnd, eIxV, slotD, dIx, dIxS, isDic, atI, ixN, eCall, aCons, aNil, oLen, lenD, oInt, eq_ii, lt_ii, gt_ii, ge_ii, add_ii, outR, outOk, outs, ownS, isNo, isLstS, List.replicate, e1, e2, e3, e4, e5, e6, e7, q1, q2, hz, hy, hx, mod_ii hm]
theorem pick1 {cells : List Int} {i t s c : Int} (xm : Slot) (hi : 0 ≤ i) (hl : i < cells.length) (hs : 0 ≤ s ∧ s ≤ 2147483647) :
    ∃ cell s' t', cell ∈ cells ∧ (t' = t ∨ t' = cell) ∧ 0 ≤ s' ∧ s' ≤ 2147483647 ∧ b_pick1 [.o (tapeD cells i t s c), xm, .no, .no, .no] = .nx [.o (tapeD cells (i + 1) t' s' c), xm, .no, .v (.int cell), .no] := by
  have hl' : i.toNat < cells.length := by omega
  have g : cells[i.toNat]? = some cells[i.toNat] := List.getElem?_eq_getElem hl'
  generalize hcell : cells[i.toNat] = cell at g
  have q1 : ∀ i, dMod (.int i) (.int 2147483629) = some (.int (i % 2147483629)) := fun i => mod_ii (by decide)
  have e1 : dMul (.int s) (.int 69621) = some (.int (s * 69621)) := mul_ii (by rw [BD_eq]; omega) (by decide)
  have hix : ixN cells.length i = some i.toNat := ixN_nat hi (by omega)
  have hix2 : dIxS (.lst (cells.map .int)) (.int i) = some (.int cell) := by
    simp only [dIxS, atI, List.length_map, hix, Option.bind_some, List.getElem?_map, g, Option.map_some]
  have m2 : ∀ z : Int, 0 ≤ z % 2147483629 ∧ z % 2147483629 < 2147483629 := fun z => ⟨Int.emod_nonneg _ (by decide), Int.emod_lt_of_pos _ (by decide)⟩
  by_cases h : (1000000000000000000 : Int) ≤ cell
  · refine ⟨cell, (s * 69621 + cell + 11) % 2147483629, cell, hcell ▸ List.getElem_mem _, .inr rfl, (m2 _).1, by have := (m2 (s * 69621 + cell + 11)).2; omega, ?_⟩
    have q0 : dIx (.lst [.lst (cells.map .int), .int i, .int t, .int s, .int c]) (.int 0) = some (.lst (cells.map .int)) := rfl
    simp [b_pick1, tapeD, sSeq, sIf, sRet, sSet, sSetIx, sNil, ofRo, Ro.bind, lift, eVar, eC, eOp, qCmp, qAnd, eIxV, slotD, dIx, dIxS, isDic, atI, ixN, eCall, aCons, aNil, oLen, lenD, oInt, eq_ii, lt_ii, gt_ii, ge_ii, add_ii, outR, outOk, outs, ownS, isNo, isLstS, List.replicate, q1, e1, hi, hl, g, pow_ten, h, hcell]
  · refine ⟨cell, (s * 69621 + cell + 11) % 2147483629, t, hcell ▸ List.getElem_mem _, .inl rfl, (m2 _).1, by have := (m2 (s * 69621 + cell + 11)).2; omega, ?_⟩
    simp [b_pick1, tapeD, sSeq, sIf, sRet, sSet, sSetIx, sNil, ofRo, Ro.bind, lift, eVar, eC, eOp, qCmp, qAnd, eIxV, slotD, dIx, dIxS, isDic, atI, ixN, eCall, aCons, aNil, oLen, lenD, oInt, eq_ii, lt_ii, gt_ii, ge_ii, add_ii, outR, outOk, outs, ownS, isNo, isLstS, List.replicate, q1, e1, hi, hl, g, pow_ten, h, hcell]
theorem pick_ok {n : Nat} {d : D} {m : Int} (hT : Tape n d) (hn : n ≤ 1000000000) (hm : 0 < m) (hb : m ≤ 1000000000000000000000) : ∃ r tp, pickM [.o d, .v (.int m)] = .ok (.int r) [.o tp, .no] ∧ 0 ≤ r ∧ r < m ∧ Tape (n + 1) tp := by
  obtain ⟨cells, i, t, s, c, rfl, hc, hi, ht, hs, hs2, h0, h1⟩ := hT
  have run : ∀ {x3 t' s' : _} {i' : Int}, 0 ≤ i' → 0 ≤ t' → 0 ≤ s' ∧ s' ≤ 2147483647 → (b_pick [.o (tapeD cells i t s c), .v (.int m), .no, .no, .no] = b_pick2 [.o (tapeD cells i' t' s' c), .v (.int m), .no, x3, .no]) → ∃ r tp, pickM [.o (tapeD cells i t s c), .v (.int m)] = .ok (.int r) [.o tp, .no] ∧ 0 ≤ r ∧ r < m ∧ Tape (n + 1) tp := fun {x3 t' s' i'} a1 a2 a3 e => by
    obtain ⟨r, tp, x2, x4, q, r1, r2, r3⟩ := pick2 x3 hc a1 a2 a3 ⟨h0, h1⟩ hn hm hb
    refine ⟨r, tp, ?_, r1, r2, r3⟩
    show (match b_pick [.o (tapeD cells i t s c), .v (.int m), .no, .no, .no] with | .nx e => _ | .ret d e => _ | .retF d e => _ | .exc c p e => _ | _ => _) = _
    rw [e, q]
    rfl
  by_cases h : t = 0 ∧ i < cells.length
  · obtain ⟨cell, s', t', k1, k2, k3, k4, k5⟩ := pick1 (t := t) (c := c) (.v (.int m)) hi h.2 ⟨hs, hs2⟩
    refine run (x3 := .v (.int cell)) (t' := t') (s' := s') (i' := i + 1) (by omega) ?_ ⟨k3, k4⟩ ?_
    · have := hc _ k1
      rcases k2 with k2 | k2 <;> omega
    · rw [pick_split]
      simp only [tapeD] at k5
      simp [tapeD, sSeq, sIf, sNil, ofRo, Ro.bind, lift, eC, qCmp, qAnd, eIxV, slotD, dIx, dIxS, isDic, atI, ixN, eCall, aCons, aNil, oLen, lenD, eq_ii, lt_ii, h.1, h.2] at k5 ⊢
      rw [k5]
  · refine run (x3 := .no) (t' := t) (s' := s) (i' := i) hi ht ⟨hs, hs2⟩ ?_
    rw [pick_split]
    by_cases h2 : t = 0
    · have h3 : ¬ i < cells.length := fun z => h ⟨h2, z⟩
      simp [tapeD, sSeq, sIf, sNil, ofRo, Ro.bind, lift, eC, qCmp, qAnd, eIxV, slotD, dIx, dIxS, isDic, atI, ixN, eCall, aCons, aNil, oLen, lenD, eq_ii, lt_ii, h2, h3]
    · simp [tapeD, sSeq, sIf, sNil, ofRo, Ro.bind, lift, eC, qCmp, qAnd, eIxV, slotD, dIx, dIxS, isDic, atI, ixN, eCall, aCons, aNil, oLen, lenD, eq_ii, lt_ii, h2]
def absI (i : Int) : Int := if i < 0 then -i else i
theorem absI_nn (i : Int) : 0 ≤ absI i := by unfold absI; split <;> omega
theorem tape_loop (z : D) : ∀ (ns : List Int) (acc : List D), acc.length + ns.length ≤ 1000 → lcL [2] (tName 2) qYes (eCall oAbs (aCons (eCall oInt (aCons (eVar 2) aNil)) aNil)) (ns.map D.int) acc [.v z, .no, .no] = .ok (acc ++ ns.map fun i => D.int (absI i)) [.v z, .no, .no]
  | [], acc, h => by simp [lcL]
  | i :: ns, acc, h => by
    have h' : acc.length < sizeLine := by
      have : sizeLine = 16777216 := by decide
      rw [List.length_cons] at h
      omega
    have ih := tape_loop z ns (acc ++ [D.int (absI i)]) (by rw [List.length_append]; simp at h ⊢; omega)
    rw [List.map_cons]
    have e : absI i = if i < 0 then -i else i := rfl
    simp [lcL, tName, qYes, eCall, aCons, aNil, eVar, Ro.bind, lift, oAbs, oInt, h', noOwn, isOwn, wipeE, ← e, ih]
theorem tape_ok (ns : List Int) (hl : ns.length ≤ 63) : ∃ d, tapeM [.v (.scr ns)] = .ok d [.no] ∧ Tape 0 d := by
  have hc : cut ns none (some 63) = ns := cut_whole ⟨rfl, by
    unfold HT.sIx
    simp
    omega⟩
  have e := tape_loop (.scr ns) ns [] (by simp; omega)
  refine ⟨tapeD (ns.map absI) 0 0 (31 + ns.length) 0, ?_, ns.map absI, 0, 0, _, 0, rfl, fun x hx => ?_, by omega, by omega, by omega, by omega, by omega, by omega⟩
  · have e2 : (cut ns none (some 63)).map D.int = ns.map D.int := by rw [hc]
    simp [tapeM, runF, b_tape, ownS, isNo, List.replicate, sSeq, sSetO, sRetF, ofRo, Ro.bind, lift, eLc, iSeq, eSl, eVar, eC, oNone, oSome, dSl, seqD, noOwn, isOwn, wipeE, backE, e2, e, eLst, aCons, aNil, eOp, eLenV, slotD, lenD, add_ii, outR, outOk, outs, tapeD, List.map_map, Function.comp_def, sizeLine]
  · obtain ⟨z, _, rfl⟩ := List.mem_map.mp hx
    exact absI_nn z
end Rf

namespace Rf
open PySem L2 LamX

/-! ## repr of numbers and what is laid of them is a plain text -/
theorem ok_ofString (s : String) : PyData.strOk (Str.ofString s) = true := by
  rw [Str.ofString_eq_toList]
  unfold PyData.strOk
  rw [List.all_toArray]
  refine List.all_eq_true.mpr fun x hx => ?_
  obtain ⟨c, _, rfl⟩ := List.mem_map.mp hx
  refine decide_eq_true ?_
  have := c.valid
  unfold Char.toNat
  rcases this with h | h
  · have := h; omega
  · exact h.2
theorem ok_app {a b : Str} (ha : PyData.strOk a = true) (hb : PyData.strOk b = true) : PyData.strOk (a ++ b) = true := by
  show (a.cps ++ b.cps).all _ = true
  rw [Array.all_append]
  exact Bool.and_eq_true_iff.mpr ⟨ha, hb⟩
theorem ok_from : ∀ (ts : List Str) (k : Nat) (acc : Str), PyData.strOk acc = true → (∀ t ∈ ts, PyData.strOk t = true) → PyData.strOk (PySem.textFrom k acc ts) = true
  | [], k, acc, h, _ => h
  | t :: r, k, acc, h, ht => ok_from r (k + 1) _ (ok_app (ok_app h (ok_ofString _)) (ht t (by simp))) fun u hu => ht u (by simp [hu])
theorem ok_join : ∀ (ts : List Str), (∀ t ∈ ts, PyData.strOk t = true) → PyData.strOk (Str.join ", " ts) = true
  | [], _ => ok_ofString ""
  | [x], h => h x (by simp)
  | x :: y :: r, h => ok_app (ok_app (h x (by simp)) (ok_ofString _)) (ok_join (y :: r) fun t ht => h t (by simp at ht ⊢; exact .inr ht))
mutual
def noS : D → Bool
  | .non => true
  | .bl _ => true
  | .int _ => true
  | .tup xs => noSL xs
  | .lst xs => noSL xs
  | _ => false
def noSL : List D → Bool
  | [] => true
  | x :: xs => noS x && noSL xs
end
mutual
theorem shown_ok : ∀ d : D, noS d = true → PyData.strOk (PyData.shown (toPy d)) = true
  | .non, _ => ok_ofString _
  | .bl b, _ => by cases b <;> exact ok_ofString _
  | .int i, _ => ok_ofString _
  | .str x, h => by cases h
  | .tup xs, h => ok_app (ok_app (ok_ofString _) (ok_join _ (shown_okL xs h))) (ok_ofString _)
  | .lst xs, h => ok_app (ok_from _ _ _ (ok_ofString _) (shown_okL xs h)) (ok_ofString _)
  | .dK _ _, h => by cases h
  | .dT _ _, h => by cases h
  | .fn _, h => by cases h
  | .scr _, h => by cases h
  | .ctup _, h => by cases h
theorem shown_okL : ∀ ds : List D, noSL ds = true → ∀ t ∈ PyData.shownAll (toPyL ds), PyData.strOk t = true
  | [], _, t, ht => by cases ht
  | d :: ds, h, t, ht => by
    obtain ⟨h1, h2⟩ := Bool.and_eq_true_iff.mp (show (noS d && noSL ds) = true from h)
    rcases List.mem_cons.mp (show t ∈ PyData.shown (toPy d) :: PyData.shownAll (toPyL ds) from ht) with e | e
    · rw [e]
      exact shown_ok d h1
    · exact shown_okL ds h2 t e
end
/-- repr of it is had, and is like itself -/
def rp (d : D) : Bool := okRep d && noS d
theorem repr_of {d : D} (h : rp d = true) : oRepr [d] = some (.str (PyData.shown (toPy d))) := by
  unfold rp at h
  obtain ⟨h1, h2⟩ := Bool.and_eq_true_iff.mp h
  unfold oRepr
  simp only [h1, if_true]
theorem ne_repr {d : D} (h : rp d = true) : bNe (.str (PyData.shown (toPy d))) (.str (PyData.shown (toPy d))) = some false := by
  unfold rp at h
  obtain ⟨h1, h2⟩ := Bool.and_eq_true_iff.mp h
  have h3 := shown_ok d h2
  show (if PyData.strOk (PyData.shown (toPy d)) && PyData.strOk (PyData.shown (toPy d)) then some (!(PyData.shown (toPy d) == PyData.shown (toPy d))) else none) = _
  rw [h3, beq_self_eq_true]
  rfl
end Rf

namespace Rf
open PySem L2 LamX

/-! ## more that is walked: zip, enumerate, reversed, range with a step -/
section
variable {G : Gm} {Hs0 : Hp} {p p2 : Addr} {xs ys : List D} {vs ws : List V}
theorem get_zip {xs ys : List D} {i : Nat} {d : D} (h : (List.zipWith (fun x y => D.tup [x, y]) xs ys)[i]? = some d) : ∃ x y, xs[i]? = some x ∧ ys[i]? = some y ∧ d = .tup [x, y] := by
  rw [List.getElem?_zipWith] at h
  cases e1 : xs[i]? with
  | none => rw [e1] at h; simp at h
  | some x =>
    cases e2 : ys[i]? with
    | none => rw [e1, e2] at h; simp at h
    | some y =>
      rw [e1, e2] at h
      exact ⟨x, y, rfl, rfl, by simpa using h.symm⟩
theorem pair_is {G : Gm} {Hs Hs' H : Hp} {T : Addr} {d e : D} {v w : V} (l : Le Hs Hs') (hn : H T = none) (hk : ∀ a o, H a = none → upd H T (.tup [v, w]) a = some o → Hs' a = some o) (i1 : Is G Hs d v) (i2 : Is G Hs e w) : Is G Hs' (.tup [d, e]) (.ref T) :=
  ⟨T, [v, w], rfl, hk T _ hn upd_same, v, [w], rfl, Is.mono l _ _ i1, w, [], rfl, Is.mono l _ _ i2, rfl⟩
theorem new_upd {H : Hp} {T : Addr} {o : HO} (hn : H T = none) : New H (upd H T o) := fun a u e => by
  rw [upd_ne (fun z => by rw [z, hn] at e; cases e)]
  exact e
theorem JIs.zipL (s : Hs0 p = some (.lst vs)) (m : IsL G Hs0 xs vs) (s2 : Hs0 p2 = some (.lst ws)) (m2 : IsL G Hs0 ys ws) : JIs G Hs0 (Itz G.K p p2) (List.zipWith (fun x y => D.tup [x, y]) xs ys) where
  go := fun i Hs H hi l1 l2 => by
    rw [List.length_zipWith, IsL.length m, IsL.length m2] at hi
    have h1 : i < vs.length := by omega
    have h2 : i < ws.length := by omega
    exact ⟨vs, ws, vs[i], ws[i], (l1.trans l2).lq s, (l1.trans l2).lq s2, by simp [h1], by simp [h2]⟩
  stop := fun Hs H l1 l2 => ⟨vs, ws, (l1.trans l2).lq s, (l1.trans l2).lq s2, by rw [List.length_zipWith, IsL.length m, IsL.length m2]; omega⟩
  yld := fun i d Hs H x H' hd l1 l2 h => by
    obtain ⟨T, x1, y1, rfl, hn, rfl, a1, a2⟩ := h
    obtain ⟨d1, d2, g1, g2, rfl⟩ := get_zip hd
    obtain ⟨v, e1, e2⟩ := IsL.get m g1
    obtain ⟨w, e3, e4⟩ := IsL.get m2 g2
    have q1 := a1 vs ((l1.trans l2).lq s)
    have q2 := a2 ws ((l1.trans l2).lq s2)
    rw [e1] at q1
    rw [e3] at q2
    obtain rfl := Option.some.inj q1
    obtain rfl := Option.some.inj q2
    exact ⟨new_upd hn, fun Hs' l3 k => pair_is (l1.trans l3) hn k e2 e4⟩
theorem JIs.zipT (s : SqT G.K Hs0 p vs) (m : IsL G Hs0 xs vs) (s2 : SqT G.K Hs0 p2 ws) (m2 : IsL G Hs0 ys ws) : JIs G Hs0 (RZ.ItzT G.K p p2) (List.zipWith (fun x y => D.tup [x, y]) xs ys) where
  go := fun i Hs H hi l1 l2 => by
    rw [List.length_zipWith, IsL.length m, IsL.length m2] at hi
    have h1 : i < vs.length := by omega
    have h2 : i < ws.length := by omega
    exact ⟨vs, ws, vs[i], ws[i], (l1.trans l2).sqT s, (l1.trans l2).sqT s2, by simp [h1], by simp [h2]⟩
  stop := fun Hs H l1 l2 => ⟨vs, ws, (l1.trans l2).sqT s, (l1.trans l2).sqT s2, by rw [List.length_zipWith, IsL.length m, IsL.length m2]; omega⟩
  yld := fun i d Hs H x H' hd l1 l2 h => by
    obtain ⟨T, x1, y1, rfl, hn, rfl, a1, a2⟩ := h
    obtain ⟨d1, d2, g1, g2, rfl⟩ := get_zip hd
    obtain ⟨v, e1, e2⟩ := IsL.get m g1
    obtain ⟨w, e3, e4⟩ := IsL.get m2 g2
    have q1 := a1 vs ((l1.trans l2).sqT s)
    have q2 := a2 ws ((l1.trans l2).sqT s2)
    rw [e1] at q1
    rw [e3] at q2
    obtain rfl := Option.some.inj q1
    obtain rfl := Option.some.inj q2
    exact ⟨new_upd hn, fun Hs' l3 k => pair_is (l1.trans l3) hn k e2 e4⟩
/-- (0, x), (1, y), .. -/
def enumD : Nat → List D → List D
  | _, [] => []
  | n, x :: xs => .tup [.int (n : Int), x] :: enumD (n + 1) xs
theorem enum_len : ∀ (n : Nat) (xs : List D), (enumD n xs).length = xs.length
  | _, [] => rfl
  | n, x :: xs => by
    show (enumD (n + 1) xs).length + 1 = _
    rw [enum_len (n + 1) xs]; rfl
theorem enum_get : ∀ (n : Nat) (xs : List D) (i : Nat) (d : D), (enumD n xs)[i]? = some d → ∃ x, xs[i]? = some x ∧ d = .tup [.int ((n + i : Nat) : Int), x]
  | n, [], i, d, h => by simp [enumD] at h
  | n, x :: xs, 0, d, h => ⟨x, rfl, by simpa [enumD] using h.symm⟩
  | n, x :: xs, i + 1, d, h => by
    obtain ⟨y, e1, e2⟩ := enum_get (n + 1) xs i d (by simpa [enumD] using h)
    exact ⟨y, by simpa using e1, by rw [e2]; congr 4; omega⟩
theorem JIs.enum (s : Hs0 p = some (.lst vs)) (m : IsL G Hs0 xs vs) : JIs G Hs0 (Ite G.K p) (enumD 0 xs) where
  go := fun i Hs H hi l1 l2 => by
    rw [enum_len, IsL.length m] at hi
    exact ⟨vs, vs[i], (l1.trans l2).lq s, by simp [hi]⟩
  stop := fun Hs H l1 l2 => ⟨vs, (l1.trans l2).lq s, by rw [enum_len, IsL.length m]; exact Nat.le_refl _⟩
  yld := fun i d Hs H x H' hd l1 l2 h => by
    obtain ⟨T, x1, rfl, hn, rfl, a1⟩ := h
    obtain ⟨d1, g1, rfl⟩ := enum_get 0 xs i d hd
    obtain ⟨v, e1, e2⟩ := IsL.get m g1
    have q1 := a1 vs ((l1.trans l2).lq s)
    rw [e1] at q1
    obtain rfl := Option.some.inj q1
    exact ⟨new_upd hn, fun Hs' l3 k => pair_is (d := .int ((0 + i : Nat) : Int)) (v := .int (i : Nat)) (l1.trans l3) hn k (by rw [Nat.zero_add]; rfl) e2⟩
theorem rev_get {α : Type} {xs : List α} {i : Nat} {d : α} (h : xs.reverse[i]? = some d) : i < xs.length ∧ xs[xs.length - 1 - i]? = some d := by
  by_cases hi : i < xs.length
  · rw [List.getElem?_reverse hi] at h
    exact ⟨hi, h⟩
  · rw [List.getElem?_eq_none (by simpa using hi)] at h
    cases h
theorem JIs.revL (s : Hs0 p = some (.lst vs)) (m : IsL G Hs0 xs vs) : JIs G Hs0 (Itv G.K p vs.length) xs.reverse where
  go := fun i Hs H hi l1 l2 => by
    rw [List.length_reverse, IsL.length m] at hi
    have h1 : vs.length - 1 - i < vs.length := by omega
    exact ⟨hi, vs, vs[vs.length - 1 - i], (l1.trans l2).lq s, List.getElem?_eq_getElem h1⟩
  stop := fun Hs H l1 l2 => by rw [List.length_reverse, IsL.length m]; exact Nat.le_refl _
  yld := fun i d Hs H x H' hd l1 l2 h => by
    obtain ⟨rfl, h⟩ := h
    obtain ⟨hi, g⟩ := rev_get hd
    obtain ⟨v, e1, e2⟩ := IsL.get m g
    have q := h vs ((l1.trans l2).lq s)
    rw [← IsL.length m, e1] at q
    obtain rfl := Option.some.inj q
    exact ⟨New.refl _, fun Hs' l3 _ => Is.mono (l1.trans l3) _ _ e2⟩
theorem JIs.revT (s : SqT G.K Hs0 p vs) (m : IsL G Hs0 xs vs) : JIs G Hs0 (RT.ItvT G.K p vs.length) xs.reverse where
  go := fun i Hs H hi l1 l2 => by
    rw [List.length_reverse, IsL.length m] at hi
    have h1 : vs.length - 1 - i < vs.length := by omega
    exact ⟨hi, vs, vs[vs.length - 1 - i], (l1.trans l2).sqT s, List.getElem?_eq_getElem h1⟩
  stop := fun Hs H l1 l2 => by rw [List.length_reverse, IsL.length m]; exact Nat.le_refl _
  yld := fun i d Hs H x H' hd l1 l2 h => by
    obtain ⟨rfl, h⟩ := h
    obtain ⟨hi, g⟩ := rev_get hd
    obtain ⟨v, e1, e2⟩ := IsL.get m g
    have q := h vs ((l1.trans l2).sqT s)
    rw [← IsL.length m, e1] at q
    obtain rfl := Option.some.inj q
    exact ⟨New.refl _, fun Hs' l3 _ => Is.mono (l1.trans l3) _ _ e2⟩
/-- lo, lo + c, .. -/
def rngC (lo c : Int) (n : Nat) : List D := (List.range n).map fun (i : Nat) => D.int (lo + (i : Int) * c)
theorem rngC_len (lo c : Int) (n : Nat) : (rngC lo c n).length = n := by simp [rngC]
theorem rngC_get {lo c : Int} {n i : Nat} {d : D} (h : (rngC lo c n)[i]? = some d) : d = .int (lo + (i : Int) * c) ∧ i < n := by
  unfold rngC at h
  rw [List.getElem?_map] at h
  by_cases hi : i < n
  · rw [List.getElem?_range hi] at h
    exact ⟨(Option.some.inj h).symm, hi⟩
  · rw [List.getElem?_eq_none (by simpa using hi)] at h
    cases h
theorem JIs.rngC {lo c : Int} {n : Nat} : JIs G Hs0 (Itc lo c n) (rngC lo c n) where
  go := fun i Hs H hi _ _ => by rw [rngC_len] at hi; exact hi
  stop := fun Hs H _ _ => by rw [rngC_len]; exact Nat.le_refl _
  yld := fun i d Hs H x H' hd _ _ h => by
    obtain ⟨e1, e2⟩ := h
    obtain ⟨e, hi⟩ := rngC_get hd
    subst e1
    subst e
    refine ⟨New.refl _, fun Hs' _ _ => ?_⟩
    rw [e2]
    rfl
end
def tupD : D → Option (List D)
  | .tup xs => some xs
  | .ctup xs => some xs
  | _ => none
def lstD : D → Option (List D)
  | .lst xs => some xs
  | _ => none
theorem tupD_is {G : Gm} {Hs : Hp} {d : D} {v : V} {xs : List D} (h : tupD d = some xs) (i : Is G Hs d v) : ∃ p vs, v = .ref p ∧ SqT G.K Hs p vs ∧ IsL G Hs xs vs := by
  unfold tupD at h
  split at h
  · obtain rfl := Option.some.inj h
    obtain ⟨p, vs, rfl, s, m⟩ := i
    exact ⟨p, vs, rfl, .inl (.inl s), m⟩
  · obtain rfl := Option.some.inj h
    obtain ⟨p, vs, rfl, s, m⟩ := i
    exact ⟨p, vs, rfl, s, m⟩
  · cases h
theorem lstD_is {G : Gm} {Hs : Hp} {d : D} {v : V} {xs : List D} (h : lstD d = some xs) (i : Is G Hs d v) : ∃ p vs, v = .ref p ∧ Hs p = some (.lst vs) ∧ IsL G Hs xs vs := by
  unfold lstD at h
  split at h
  · obtain rfl := Option.some.inj h
    exact i
  · cases h
def zipD (a b : D) : Option (List D) := match lstD a, lstD b with
  | some xs, some ys => some (List.zipWith (fun x y => D.tup [x, y]) xs ys)
  | _, _ => match tupD a, tupD b with
    | some xs, some ys => some (List.zipWith (fun x y => D.tup [x, y]) xs ys)
    | _, _ => none
def iZip2 (f g : Env' → Ro D) : Env' → Ro (List D) := fun env => (f env).bind fun d e => (g e).bind fun d' e => lift (zipD d d') e
def iEnu (f : Env' → Ro D) : Env' → Ro (List D) := fun env => (f env).bind fun d e => lift ((lstD d).map (enumD 0)) e
def revD (d : D) : Option (List D) := match lstD d with
  | some xs => some xs.reverse
  | none => (tupD d).map List.reverse
def iRevD (f : Env' → Ro D) : Env' → Ro (List D) := fun env => (f env).bind fun d e => lift (revD d) e
def stepN (i j c : Int) : Nat := (Builtin.Range.rangeSize i j c).toNat
def okR3 (i j c : Int) : Bool := decide (c ≠ 0 ∧ c.natAbs < 1073741824 ∧ Builtin.Range.small i j c = true ∧ Builtin.Range.rangeSize i j c = (stepN i j c : Int))
def iR3 (f g u : Env' → Ro D) : Env' → Ro (List D) := fun env => (f env).bind fun d e => (g e).bind fun d' e => (u e).bind fun d'' e => match d, d', d'' with
  | .int i, .int j, .int c => if okR3 i j c then .ok (rngC i c (stepN i j c)) e else .stk
  | _, _, _ => .stk
section
variable {X : Cx} {T : Tb} {W : WX} {k : Nat} {a b c tg : Expr} {f g u : Env' → Ro D} {pos p tpos : Pos} {elts : List Expr} {kk : Nat}
theorem si_zip (hg : Gl X "zip") (hm : X.mg "zip" = none) (ha : SE X T W a f) (hb : SE X T W b g) (hs : starEach [a, b] X.env = (false, eval a X.env) :: starEach [b] X.env := by rfl) (hs2 : starEach [b] X.env = (false, eval b X.env) :: starEach [] X.env := by rfl)
    (hpl : (backTo pos (starEach [b] X.env)).any (·.1) = false := by rfl) : SI X T W (.Tuple elts kk tpos) (.Call (.Name "zip" p) [a, b] [] pos) (iZip2 f g) :=
  PI.weak (RZ.pi_zipA hg hm (pa_cons ha (pa_cons hb pa_nil hs2) hs) hs hpl) fun σ H R h => rd_bind h fun F env d v H1 S1 i1 h1 => ⟨F, env, S1, Rst.bind S1 h1 fun d' v' H2 env2 s2 S2 i2 h2 => by
    obtain ⟨zs, e, h2⟩ := lift_some h2
    replace i1 := Is.mono (s2.le F) _ _ i1
    unfold zipD at e
    split at e
    · rename_i xs ys e1 e2
      obtain rfl := Option.some.inj e
      obtain ⟨q1, vs, rfl, s1, m1⟩ := lstD_is e1 i1
      obtain ⟨q2, ws, rfl, s3, m2⟩ := lstD_is e2 i2
      exact ⟨q1, q2, vs, ws, rfl, .inl ⟨Le.unhid.lq s1, Le.unhid.lq s3, fin_same (R := fun Hs ds J => JIs (gm X) Hs J ds) S2 (JIs.zipL s1 m1 s3 m2) h2⟩⟩
    · split at e
      · rename_i xs ys e1 e2
        obtain rfl := Option.some.inj e
        obtain ⟨q1, vs, rfl, s1, m1⟩ := tupD_is e1 i1
        obtain ⟨q2, ws, rfl, s3, m2⟩ := tupD_is e2 i2
        exact ⟨q1, q2, vs, ws, rfl, .inr ⟨Le.unhid.sqT s1, Le.unhid.sqT s3, fin_same (R := fun Hs ds J => JIs (gm X) Hs J ds) S2 (JIs.zipT s1 m1 s3 m2) h2⟩⟩
      · cases e⟩
theorem si_enum (hg : Gl X "enumerate") (hm : X.mg "enumerate" = none) (ha : SE X T W a f) (hs : starEach [a] X.env = [(false, eval a X.env)] := by rfl) (h1 : starEach [a] X.env = (false, eval a X.env) :: starEach [] X.env := by rfl) :
    SI X T W (.Tuple elts kk tpos) (.Call (.Name "enumerate" p) [a] [] pos) (iEnu f) :=
  PI.weak (pi_enum hg hm (pa_cons ha pa_nil h1) hs) fun σ H R h => rd_bind h fun F env d v H1 S1 i1 h1 => by
    obtain ⟨zs, e, h1⟩ := lift_some h1
    cases e1 : lstD d with
    | none => rw [e1] at e; cases e
    | some xs =>
      rw [e1] at e
      obtain rfl := Option.some.inj e
      obtain ⟨q, vs, rfl, s, m⟩ := lstD_is e1 i1
      exact ⟨q, vs, rfl, Le.unhid.lq s, fin_same (R := fun Hs ds J => JIs (gm X) Hs J ds) S1 (JIs.enum s m) h1⟩
theorem si_rev (hg : Gl X "reversed") (hm : X.mg "reversed" = none) (ha : SE X T W a f) (hs : starEach [a] X.env = (false, eval a X.env) :: starEach [] X.env := by rfl) : SI X T W tg (.Call (.Name "reversed" p) [a] [] pos) (iRevD f) :=
  PI.weak (RT.pi_revA hg hm ha hs) fun σ H R h => rd_bind h fun F env d v H1 S1 i1 h1 => by
    obtain ⟨zs, e, h1⟩ := lift_some h1
    unfold revD at e
    split at e
    · rename_i xs e1
      obtain rfl := Option.some.inj e
      obtain ⟨q, vs, rfl, s, m⟩ := lstD_is e1 i1
      exact ⟨q, vs, rfl, .inl ⟨Le.unhid.lq s, fin_same (R := fun Hs ds J => JIs (gm X) Hs J ds) S1 (JIs.revL s m) h1⟩⟩
    · cases e1 : tupD d with
      | none => rw [e1] at e; cases e
      | some xs =>
        rw [e1] at e
        obtain rfl := Option.some.inj e
        obtain ⟨q, vs, rfl, s, m⟩ := tupD_is e1 i1
        exact ⟨q, vs, rfl, .inr ⟨Le.unhid.sqT s, fin_same (R := fun Hs ds J => JIs (gm X) Hs J ds) S1 (JIs.revT s m) h1⟩⟩
theorem si_r3 (hg : Gl X "range") (hm : X.mg "range" = none) (ha : SE X T W a f) (hb : SE X T W b g) (hc : SE X T W c u) (hs : starEach [a, b, c] X.env = (false, eval a X.env) :: starEach [b, c] X.env := by rfl) (hpl : (backTo pos (starEach [b, c] X.env)).any (·.1) = false := by rfl)
    (h4 : starEach [b, c] X.env = (false, eval b X.env) :: starEach [c] X.env := by rfl) (h5 : starEach [c] X.env = (false, eval c X.env) :: starEach [] X.env := by rfl) : SI X T W tg (.Call (.Name "range" p) [a, b, c] [] pos) (iR3 f g u) :=
  PI.weak (pi_range3 hg hm (pa_cons ha (pa_cons hb (pa_cons hc pa_nil h5) h4) hs) hs hpl) fun σ H R h => rd_bind h fun F env d v H1 S1 i1 h1 => ⟨F, env, S1, Rst.bind S1 h1 fun d' v' H2 env2 s2 S2 i2 h2 => ⟨F, env2, S2, Rst.bind S2 h2 fun d'' v'' H3 env3 s3 S3 i3 h3 => by
    split at h3
    · rename_i i j c
      split at h3
      · rename_i ok
        obtain ⟨o1, o2, o3, o4⟩ := of_decide_eq_true ok
        obtain rfl : v = .int i := i1
        obtain rfl : v' = .int j := i2
        obtain rfl : v'' = .int c := i3
        exact ⟨i, j, c, _, rfl, ⟨o1, o2, o3, o4⟩, fin_same (R := fun Hs ds J => JIs (gm X) Hs J ds) S3 JIs.rngC h3⟩
      · exact h3.elim
    · exact h3.elim⟩⟩
end
end Rf

namespace Rf
open PySem L2 LamX

/-! ## dict comprehensions (keys: numbers, texts) -/
section
variable {G : Gm} {T : Tb} {F F' : Addr → Prop} {σ σ1 : St} {H H1 H' : Hp} {env e e0 : Env'} {vs : List Nat} {W : WX}
/-- within a block whose own new object at L is d -/
structure InK (G : Gm) (T : Tb) (F : Addr → Prop) (L : Addr) (σ1 : St) (H1 : Hp) (e1 : Env') (σ : St) (H : Hp) (e : Env') (d : D) : Prop where
  st : Sta G T (Pl F L) σ H e
  sp : Stp σ1 H1 e1 σ H e
  ac : OIs G (hid H (Hd (Pl F L) σ e)) H d L
  nn : H1 L = none
  ol : T.old L = none
variable {L : Addr} {σ2 : St} {H2 : Hp} {e1 e2 : Env'} {d d' : D}
theorem InK.step (b : InK G T F L σ1 H1 e1 σ H e d) (s : Stp σ H e σ2 H2 e2) (S : Sta G T (Pl F L) σ2 H2 e2) : InK G T F L σ1 H1 e1 σ2 H2 e2 d := by
  obtain ⟨o, h1, h2, _⟩ := b.ac.there
  refine ⟨S, b.sp.trans s, b.ac.mono (s.le (Pl F L)) ?_, b.nn, b.ol⟩
  rw [h1]
  exact s.keep L _ h1 h2 fun z => b.st.fr L z (.inr rfl)
theorem InK.put (b : InK G T F L σ1 H1 e1 σ H e d) {o' : HO} (k : ∀ Hs, Le (hid H (Hd (Pl F L) σ e)) Hs → OIs G Hs (upd H L o') d' L) : InK G T F L σ1 H1 e1 σ (upd H L o') e d' := by
  obtain ⟨o, h1, h2, _⟩ := b.ac.there
  have nOld : ∀ c, T.old c ≠ none → c ≠ L := fun c e z => e (by rw [z]; exact b.ol)
  have nL : ∀ a, a ≠ L → upd H L o' a = H a := fun a z => upd_ne z
  have le : Le (hid H (Hd (Pl F L) σ e)) (hid (upd H L o') (Hd (Pl F L) σ e)) := Le.hid fun a o h _ k => ⟨k, by
    rw [nL a fun z => k (.inr (.inr z))]
    exact h⟩
  refine ⟨⟨b.st.len, fun j s q => ?_, b.st.dis, b.st.fr, fun a z => ?_, ?_, b.st.old.to (fun a o e _ h => (nL a (fun z => nOld a (by rw [e]; simp) z)).trans h) (fun a e h => by rw [nL a (nOld a e)]; exact h) fun _ z => .inl z, b.st.vis.trans le⟩, ⟨fun a o h n k => ?_, b.sp.own, fun a h => ?_⟩, k _ le, b.nn, b.ol⟩
  · obtain ⟨x, q1, q2⟩ := b.st.sl j s q
    refine ⟨x, q1, q2.mono le fun d' a es ex => nL a fun z => ?_⟩
    subst es ex
    exact b.st.fr a ⟨j, d', q, q1⟩ (.inr z)
  · by_cases z' : a = L
    · rw [z']; exact (k _ (Le.refl _)).mut
    · rw [nL a z']; exact b.st.fd a z
  · refine ⟨fun p hp => ?_, b.st.tab.2⟩
    obtain ⟨ps, q1, q2, q3⟩ := b.st.tab.1 p hp
    refine ⟨ps, by rw [nL _ fun z => by rw [z, h1] at q1; cases q1; exact h2 _ rfl]; exact q1, q2, fun pos cv hc => ?_⟩
    obtain ⟨c, q4, q5⟩ := q3 pos cv hc
    refine ⟨c, q4, (nL _ fun z => ?_).trans q5⟩
    have ac := b.ac
    rw [z, h1] at q5
    cases q5
    cases d with
    | lst xs => obtain ⟨_, z1, _⟩ := ac; rw [h1] at z1; cases z1
    | dK ks ds => obtain ⟨_, z1, _⟩ := ac; rw [h1] at z1; cases z1
    | dT ks ds => obtain ⟨_, z1, _⟩ := ac; rw [h1] at z1; cases z1
    | non => exact ac.elim
    | bl b => exact ac.elim
    | int i => exact ac.elim
    | str x => exact ac.elim
    | tup xs => exact ac.elim
    | fn x => exact ac.elim
    | scr ns => exact ac.elim
    | ctup xs => exact ac.elim
  · rw [nL a fun z => by rw [z, b.nn] at h; cases h]
    exact b.sp.keep a o h n k
  · by_cases z' : a = L
    · rw [z', upd_same]; simp
    · rw [nL a z']; exact b.sp.dom a h
theorem InK.turn (fr : ∀ i ∈ vs, Fr T i) (b : InK G T F L σ1 H1 e1 σ2 H e d) (hw : L2.wipe σ2 vs = L2.wipe σ vs) (h : noOwn e vs = true) : InK G T F L σ1 H1 e1 (L2.wipe σ vs) H (wipeE e vs) d := by
  obtain ⟨S, s⟩ := b.st.rewipe fr hw h
  exact b.step s S
theorem InK.back {e0 : Env'} (S0 : Sta G T F σ H1 e0) (h0 : noOwn e0 vs = true) (b : InK G T F L (L2.wipe σ vs) H1 (wipeE e0 vs) (L2.wipe σ vs) H e d) (h1 : noOwn e vs = true) :
    Stp σ H1 e0 σ H (backE e0 e vs) ∧ Sta G T (Pl F L) σ H (backE e0 e vs) ∧ OIs G (hid H (Hd (Pl F L) σ (backE e0 e vs))) H d L := by
  obtain ⟨S, s⟩ := back_ok S0 h0 b.sp b.st h1 fun a z => by
    rcases z with z | z
    · exact .inl z
    · exact .inr (by rw [z]; exact b.nn)
  refine ⟨s, S, ?_⟩
  have ac := b.ac
  rw [hid_eq (hd_iff (ow_back h0 h1))]
  exact ac
theorem InK.start {o : HO} (fr : ∀ i ∈ vs, Fr T i) (S : Sta G T F σ H env) (h : noOwn env vs = true) (n : H L = none) (k : ∀ Hs, OIs G Hs (upd H L o) d L) : InK G T F L (L2.wipe σ vs) H (wipeE env vs) (L2.wipe σ vs) (upd H L o) (wipeE env vs) d :=
  ⟨(S.wipe fr h).newHid n (by have q := (k H).mut; rwa [upd_same] at q), (New.upd n).stp, k _, n, S.old.free (.inl n)⟩
end
def dcL (vs : List Nat) (t : Tg) (q : Env' → Ro Bool) (fk fv : Env' → Ro D) : List D → List Key → List D → Env' → Ro (List Key × List D)
  | [], ks, acc, e => .ok (ks, acc) e
  | d :: ds, ks, acc, e => match t d e with
    | some e1 => match q e1 with
      | .ok true e2 => match fk e2 with
        | .ok kd e3 => match fv e3, keyOf kd with
          | .ok y e4, some kk => if ks.length < sizeLine && noOwn e4 vs then dcL vs t q fk fv ds (putD ks acc kk y).1 (putD ks acc kk y).2 (wipeE e4 vs) else .stk
          | _, _ => .stk
        | _ => .stk
      | .ok false e2 => if noOwn e2 vs then dcL vs t q fk fv ds ks acc (wipeE e2 vs) else .stk
      | _ => .stk
    | none => .stk
def eDc (vs : List Nat) (it : Env' → Ro (List D)) (t : Tg) (q : Env' → Ro Bool) (fk fv : Env' → Ro D) : Env' → Ro D := fun env => (it env).bind fun ds e => if noOwn e vs then match dcL vs t q fk fv ds [] [] (wipeE e vs) with
    | .ok r e' => if noOwn e' vs then .ok (.dK r.1 r.2) (backE e e' vs) else .stk
    | _ => .stk
  else .stk
section
variable {X : Cx} {T : Tb} {W : WX} {k : Nat} {tg iter kx vx : Expr} {ifs : List Expr} {scope : Scope} {own : List (Str × Nat)} {it : Env' → Ro (List D)} {t : Tg} {q : Env' → Ro Bool} {fk fv : Env' → Ro D} {us : List Nat} {pos : Pos}
theorem dc_law {G : Gm} {vs : List Nat} {σ : St} {H : Hp} {Q : VK} (fr : ∀ i ∈ vs, Fr T i) (hu : ∀ i ∈ us, i ∈ vs) (h : rdF G T (eDc vs it t q fk fv) W σ H Q) :
    tDc (rd G T (fun Hs ds J => JIs G Hs J ds) it W) (rdG G T us t) (rd G T isB q noW) (rd G T (isD G) fk noW) (rd G T (isD G) fv noW) vs σ H Q := by
  refine rdF_bind h fun F env ds J H1 S1 i1 h1 L nL => ?_
  have i1 : JIs G (hid H1 (Hd F σ env)) J ds := i1
  split at h1
  · rename_i no
    split at h1
    · rename_i acc' e' er
      split at h1
      · rename_i no'
        refine ⟨fun i m H2 => m = ds.length - i ∧ i ≤ ds.length ∧ ∃ e ks acc, InK G T F L (wipe σ vs) H1 (wipeE env vs) (wipe σ vs) H2 e (.dK ks acc) ∧ dcL vs t q fk fv (ds.drop i) ks acc e = .ok acc' e',
          ⟨ds.length, rfl, Nat.zero_le _, _, [], [], InK.start fr S1 no nL fun Hs => ⟨[], upd_same, rfl, rfl⟩, er⟩, ?_⟩
        rintro i m H2 ⟨rfl, hi', e, ks, acc, B, er2⟩
        have le : Le (hid H1 (Hd F σ env)) (hid H2 (Hd (Pl F L) (wipe σ vs) e)) := by
          have z : hid H1 (Hd F σ env) = hid H1 (Hd F (wipe σ vs) (wipeE env vs)) := hid_eq (hd_iff fun a => (ow_wipe no).symm)
          rw [z]
          refine Le.hid fun b o e3 n k => ⟨fun y => ?_, B.sp.keep b o e3 n fun y => k (.inl y)⟩
          rcases y with y | y | y
          · exact B.sp.own b (by rw [e3]; simp) (fun y' => k (.inl y')) y
          · exact k (.inr y)
          · rw [y, nL] at e3; cases e3
        by_cases hlt : i < ds.length
        · have hd : ds[i]? = some ds[i] := by simp [hlt]
          rw [List.drop_eq_getElem_cons hlt] at er2
          refine .inr ⟨i1.go i _ H2 hlt le Le.unhid, fun H3 => ∃ e ks acc, InK G T F L (wipe σ vs) H1 (wipeE env vs) (wipe σ vs) H3 e (.dK ks acc) ∧ dcL vs t q fk fv (ds.drop (i + 1)) ks acc e = .ok acc' e',
            fun H3 ⟨e3, k3, a3, b1, b2⟩ => ⟨ds.length - (i + 1), by omega, rfl, hlt, e3, k3, a3, b1, b2⟩, fun y H3 hy => ?_⟩
          obtain ⟨n, j⟩ := i1.yld i _ _ H2 y H3 hd le Le.unhid hy
          have B3 := B.step n.stp (B.st.new n)
          have iy := j (hid H3 (Hd (Pl F L) (wipe σ vs) e)) (n.le B.st) fun a o h1 h2 => hid_some.mpr ⟨fun z => B.st.hd_there z h1, h2⟩
          simp only [dcL] at er2
          cases et : t ds[i] e with
          | none => rw [et] at er2; cases er2
          | some e1 =>
            rw [et] at er2
            simp only at er2
            refine ⟨Pl F L, e, ds[i], e1, B3.st, iy, et, fun σ3 o3 s3 S3 => ?_⟩
            have hw : wipe σ3 vs = wipe σ vs := (o3.wipe hu).trans wipe_twice
            refine ⟨hw, ?_⟩
            have B4 := B3.step s3 S3
            refine ⟨Pl F L, e1, S3, ?_⟩
            cases eq : q e1 with
            | ok b e2 =>
              rw [eq] at er2
              intro b' H4 s4 S4 hb'
              obtain rfl : b = b' := hb'
              have B5 := B4.step s4 S4
              cases b with
              | false =>
                simp only at er2
                split at er2
                · rename_i no2
                  exact ⟨wipeE e2 vs, ks, acc, InK.turn fr B5 hw no2, er2⟩
                · cases er2
              | true =>
                simp only at er2
                simp only [if_true]
                refine ⟨Pl F L, e2, S4, ?_⟩
                cases ef : fk e2 with
                | ok kd e3 =>
                  rw [ef] at er2
                  simp only at er2
                  intro vk H5 s5 S5 ik
                  have B6 := B5.step s5 S5
                  refine ⟨Pl F L, e3, S5, ?_⟩
                  cases eg : fv e3 with
                  | ok y e4 =>
                    rw [eg] at er2
                    cases ek : keyOf kd with
                    | some kk =>
                      rw [ek] at er2
                      simp only at er2
                      split at er2
                      · rename_i hc
                        obtain ⟨hc1, no2⟩ := Bool.and_eq_true_iff.mp hc
                        have hc1 := of_decide_eq_true hc1
                        intro v H6 s6 S6 iv
                        have B7 := B6.step s6 S6
                        obtain ⟨avs, a1, a2, a3⟩ := B7.ac
                        obtain ⟨vs', b1, b2, b3⟩ := putD_val (k := kk) a2 a3 iv
                        refine ⟨ks.zip avs, kk, keyOf_is ek ik, a1, by rw [List.length_zip, ← a2, Nat.min_self]; exact hc1, wipeE e4 vs, _, _, InK.turn fr (B7.put (d' := .dK (putD ks acc kk y).1 (putD ks acc kk y).2) fun Hs l => ⟨vs', by rw [b1]; exact upd_same, b2, IsL.mono l _ _ b3⟩) hw no2, er2⟩
                      · cases er2
                    | none => rw [ek] at er2; cases er2
                  | exc c p e4 => rw [eg] at er2; cases er2
                  | stk => rw [eg] at er2; cases er2
                | exc c p e3 => rw [ef] at er2; cases er2
                | stk => rw [ef] at er2; cases er2
            | exc c p e2 => rw [eq] at er2; cases er2
            | stk => rw [eq] at er2; cases er2
        · have e0 : i = ds.length := by omega
          subst e0
          rw [List.drop_length] at er2
          simp only [dcL] at er2
          cases er2
          obtain ⟨s, S, o⟩ := B.back S1 no no'
          exact .inl ⟨i1.stop _ H2 le Le.unhid, h1 L H2 s S o nL⟩
      · exact h1.elim
    · exact h1.elim
  · exact h1.elim
/-- a dict comprehension as a value -/
theorem sf_dc (C : Ctx X k) (fr : ∀ i ∈ own.map (·.2), Fr T i) (hi : SI X T W tg iter it) (ok : blkC X.N X.env.scope scope own = true) (hu : ∀ i ∈ us, i ∈ own.map (·.2))
    (hg : ∀ s H C cl fp, SG (BlkCx X scope s H C cl fp) T us tg t) (ht : ∀ s H C cl fp, STs (BlkCx X scope s H C cl fp) T noW ifs q) (hk : ∀ s H C cl fp, SE (BlkCx X scope s H C cl fp) T noW kx fk) (he : ∀ s H C cl fp, SE (BlkCx X scope s H C cl fp) T noW vx fv)
    (hs : ∀ x, foldedSetIterable iter X.env x = pure x := by intro _; rfl) : SF X T W (.DictComp kx vx [⟨tg, iter, ifs, 0⟩] scope pos) (eDc (own.map (·.2)) it t q fk fv) :=
  PE.weak (pe_dc (g := rdG (gm X) T us t) (tt := rd (gm X) T isB q noW) (tk := rd (gm X) T (isD (gm X)) fk noW) (tv := rd (gm X) T (isD (gm X)) fv noW) C.calm C.nd hi (blkOk_by ok) hg ht hk he hs) fun σ H Q h => dc_law fr hu h
end
end Rf

namespace Rf
open PySem L2 LamX
open PyProof.Rows hiding St

/-! ## sorted -/
def insI (x : Int) : List Int → List Int
  | [] => [x]
  | y :: ys => if x ≤ y then x :: y :: ys else y :: insI x ys
def sortI : List Int → List Int
  | [] => []
  | x :: xs => insI x (sortI xs)
theorem insI_perm (x : Int) : ∀ ys, (insI x ys).Perm (x :: ys)
  | [] => .refl _
  | y :: ys => by
    unfold insI
    split
    · exact .refl _
    · exact (List.Perm.cons y (insI_perm x ys)).trans (List.Perm.swap x y ys)
theorem sortI_perm : ∀ xs, (sortI xs).Perm xs
  | [] => .refl _
  | x :: xs => (insI_perm x _).trans (List.Perm.cons x (sortI_perm xs))
theorem insI_sorted (x : Int) : ∀ ys, ys.Pairwise (· ≤ ·) → (insI x ys).Pairwise (· ≤ ·)
  | [], _ => by simp [insI]
  | y :: ys, h => by
    obtain ⟨h1, h2⟩ := List.pairwise_cons.mp h
    unfold insI
    split
    · rename_i q
      exact List.pairwise_cons.mpr ⟨fun z hz => by
        rcases List.mem_cons.mp hz with rfl | hz
        · exact q
        · exact Int.le_trans q (h1 z hz), h⟩
    · rename_i q
      refine List.pairwise_cons.mpr ⟨fun z hz => ?_, insI_sorted x ys h2⟩
      rcases List.mem_cons.mp ((insI_perm x ys).mem_iff.mp hz) with rfl | hz
      · omega
      · exact h1 z hz
theorem sortI_sorted : ∀ xs, (sortI xs).Pairwise (· ≤ ·)
  | [] => .nil
  | x :: xs => insI_sorted x _ (sortI_sorted xs)
theorem sortI_eq {ys xs : List Int} (p : ys.Perm xs) (s : ys.Pairwise (· ≤ ·)) : ys = sortI xs :=
  List.Perm.eq_of_pairwise (fun _ _ _ _ h1 h2 => Int.le_antisymm h1 h2) s (sortI_sorted xs) (p.trans (sortI_perm xs).symm)
/-- the keys that are numbers -/
def intKs : List Key → Option (List Int)
  | [] => some []
  | .inl i :: r => (intKs r).map (i :: ·)
  | .inr _ :: _ => none
theorem intKs_is : ∀ {ks : List Key} {ns : List Int}, intKs ks = some ns → ks = ns.map Sum.inl
  | [], ns, h => by
    obtain rfl := Option.some.inj h
    rfl
  | .inl i :: r, ns, h => by
    unfold intKs at h
    cases e : intKs r with
    | none => rw [e] at h; cases h
    | some ms =>
      rw [e] at h
      obtain rfl := Option.some.inj h
      rw [intKs_is e]
      rfl
  | .inr _ :: _, ns, h => by cases h
def rSortedDK : List V → Hp → VK → Prop := fun xs H Q => ∃ (a : Addr) (kvs : List (Key × V)) (ks : List Int), xs = [.ref a] ∧ Rd H a (.dK kvs) ∧ kvs.map (·.1) = ks.map Sum.inl ∧
    ∀ (ys : List Int) (p : Addr), ys.Perm ks → ys.Pairwise (· ≤ ·) → H p = none → Q (.ref p) (upd H p (.lst (ys.map V.int)))
/-- sorted of a dict whose keys are numbers, any number of them -/
theorem cr_sortedDK {X : Cx} (hcalm : X.calm = true) : CallR X (.builtin "sorted") rSortedDK := by
  intro pins s σ H xs us Q I r q
  obtain ⟨a, kvs, ks, ex, hd, hks, q⟩ := q
  subst ex
  obtain ⟨u, eu, rx⟩ := vals1 r
  subst eu
  cases rx
  obtain ⟨z, lo, vs, rel, dd⟩ := dk_rd I.hok hd
  obtain ⟨ep, hat⟩ := dd.dictAt
  have hkeys : vs.map (·.1) = ks.map Sum.inl := rel.keys.symm.trans hks
  have hl : vs.length = ks.length := by
    have e := congrArg List.length hkeys
    rw [List.length_map, List.length_map] at e
    exact e
  have h16 : vs.length ≤ sizeLine := by rw [← rel.length]; exact z
  refine Calls.call_function_entry PyProof.Rows.kind_sorted PyProof.Rows.plain_sorted PyProof.Rows.entry_sorted (PyProof.Rows.args_sorted1 _) ?_
  unfold Builtin.«sorted»
  refine wpAny_bind (m := checkCount "sorted" 1 1 _) (wpAny_pure ?_)
  refine wpAny_bind (PySem.W.kdu_collect (A := X.A.in1) (PySem.W.kdl_dict (knd := mixKind X.prog X.w) (kvs := vs) (ep := ep) lo) (I.ok.hd hcalm) hat h16 fun h' tk acc hk hacc => ?_)
  have hal : acc.toList.length = ks.length := by rw [Array.length_toList, hacc.1, hl]
  have hS : IntsAre acc.toList ks := ints_each hal fun j v e => by
    obtain ⟨k, x, e1, e2⟩ := hacc.2 j v (by rw [← Array.getElem?_toList]; exact e)
    have e3 : (vs.map (·.1))[j]? = some k := by rw [List.getElem?_map, e1]; rfl
    rw [hkeys, List.getElem?_map] at e3
    cases e4 : ks[j]? with
    | none => rw [e4] at e3; cases e3
    | some y =>
      rw [e4] at e3
      have e5 : Sum.inl y = k := Option.some.inj e3
      subst e5
      rcases keyIs_shape (show keyIs (Sum.inl y) v = true from e2) with ⟨i, t, ek, ev⟩ | ⟨z, t, ek, ev⟩
      · cases ek
        exact ⟨y, t, rfl, ev⟩
      · cases ek
  have I1 : Inv X pins σ H { s with heap := h', toks := tk } := I.kept hk
  refine wpAny_bind (wpAny_newList ?_ (by rw [hal, ← hl]; exact h16))
  have hoL : (h'.push (seqObj "list" acc.toList.toArray 0)).get? h'.objs.size = some (seqObj "list" acc.toList.toArray 0) := Heap.get?_push_size _ rfl
  show wpAny _ _ _ _ _ { s with heap := h'.push (seqObj "list" acc.toList.toArray 0), toks := tk }
  refine wpAny_bind (wpAny_holding (wpAny_call_entry PyProof.Rows.slot_list_sort ⟨_, hoL, rfl⟩ PyProof.Rows.entry_list_sort
    (SrtO.list_sort_ord (s := { s with heap := h'.push (seqObj "list" acc.toList.toArray 0), toks := tk }) SrtO.swo_int hoL (by rw [hal, ← hl]; exact h16) (fun h2 => SrtO.ints_sortable hS h2) fun out g1 g2 => ⟨_, rfl, ?_⟩) (PyProof.Rows.args_list_sort _)))
  obtain ⟨k1, k2, k3⟩ := SrtO.ints_out hS g1 g2
  obtain ⟨e', he'⟩ := PyProof.Rows.sortedHeap_at (vs := acc.toList) (out := out.toArray) hoL
  have hlen : ((out.map SrtO.iv).map V.int).length ≤ sizeLine := by
    rw [List.length_map, k2.length_eq, ← hl]
    exact h16
  refine wpAny_pure ⟨_, rfl, .ref h'.objs.size, upd H h'.objs.size (.lst ((out.map SrtO.iv).map V.int)), I1.laid (t' := tk) (fun b u e => ?_) (Nat.le_refl _)
    (show ObjOk X.prog X.w _ _ _ (.lst ((out.map SrtO.iv).map V.int)) from ⟨hlen, out, e', vals_of_ints k1, he'⟩), rfl, q _ _ k2 k3 (I1.hok.fresh (Nat.le_refl _))⟩
  have hb : b < h'.objs.size := Heap.lt_size e
  rw [PyProof.Rows.sortedHeap_old (Nat.ne_of_lt hb) (by rw [size_push']; exact Nat.lt_succ_of_lt hb)]
  exact Heap.get?_push_of_some _ e
/-- a call that gives a new list, or dict -/
def OpCF (G : Gm) (r : List V → Hp → VK → Prop) (o : List D → Option D) : Prop := ∀ {Hs H : Hp} {ds : List D} {d : D} {vs : List V} {Q : VK}, Le Hs H → IsL G Hs ds vs → o ds = some d →
  (∀ p u, H p = none → (∀ Hs', Le Hs Hs' → OIs G Hs' (upd H p u) d p) → Q (.ref p) (upd H p u)) → r vs H Q
section
variable {X : Cx} {T : Tb} {W : WX} {k : Nat} {a b : Expr} {es : List Expr} {f g : Env' → Ro D} {x : Str} {p pos : Pos} {r : Env' → Ro (List D)}
theorem sf_callB {id : String} {t : List V → Hp → VK → Prop} {o : List D → Option D} (hc : CallR X (.builtin id) t) (hd : OpCF (gm X) t o) (hg : Gl X x) (hm : X.mg x = none) (hv : bootBuiltins x = some (.builtin id)) (ha : SA X T W (a :: es) r) (hn : x ≠ "__name__" := by decide) (hdb : (x == ("__debug__" : Str)) = false := by decide)
    (he : starEach (a :: es) X.env = (false, eval a X.env) :: starEach es X.env := by rfl) (hpl : (backTo pos (starEach es X.env)).any (·.1) = false := by rfl) : SF X T W (.Call (.Name x p) (a :: es) [] pos) (eCall o r) :=
  PE.weak (pe_callB hc hg hm hv ha hn hdb he hpl) fun σ H Q h => rdF_bind (R := isA (gm X)) h fun F env ds vs H1 S1 i1 h1 => by
    cases e : o ds with
    | none => rw [e] at h1; exact h1.elim
    | some d =>
      rw [e] at h1
      exact hd (Hs := hid H1 (Hd F σ env)) Le.unhid i1 e fun p u hp q => fin_newF (d := d) S1 hp q h1
theorem CallR.or {v : Value} {r r' : List V → Hp → VK → Prop} (h : CallR X v r) (h' : CallR X v r') : CallR X v (fun xs H Q => r xs H Q ∨ r' xs H Q) := fun pins s σ H xs us Q I R q => by
  rcases q with q | q
  · exact h pins s σ H xs us Q I R q
  · exact h' pins s σ H xs us Q I R q
/-- pairs of numbers, as they are ordered -/
def oSort : List D → Option D
  | [.lst xs] => (ints? xs).map fun ns => .lst ((sortI ns).map .int)
  | [.dK ks _] => (intKs ks).map fun ns => .lst ((sortI ns).map .int)
  | _ => none
theorem of_sort {K : PySem.W.Frag} {mg : Str → Option Value} : OpCF ⟨K, mg⟩ (fun xs H Q => rSortedI K xs H Q ∨ rSortedDK xs H Q) oSort := fun {Hs H ds d vs Q} l m e q => by
  unfold oSort at e
  split at e
  · rename_i xs
    cases e1 : ints? xs with
    | none => rw [e1] at e; cases e
    | some ns =>
      rw [e1] at e
      obtain rfl := Option.some.inj e
      obtain ⟨v, rfl, i⟩ := isL1 m
      obtain ⟨p, ws, rfl, s, m2⟩ := i
      have z := ints?_is e1
      subst z
      have z := IsL.ints m2
      subst z
      refine .inl ⟨p, ns, rfl, l.lq s, fun ys a p1 p2 n => ?_⟩
      have z := sortI_eq p1 p2
      subst z
      exact q a _ n fun Hs' _ => ⟨_, upd_same, IsL.of_ints _⟩
  · rename_i ks ds
    cases e1 : intKs ks with
    | none => rw [e1] at e; cases e
    | some ns =>
      rw [e1] at e
      obtain rfl := Option.some.inj e
      obtain ⟨v, rfl, i⟩ := isL1 m
      obtain ⟨p, ws, rfl, s, hl, m2⟩ := i
      have z := intKs_is e1
      subst z
      refine .inr ⟨p, (ns.map Sum.inl).zip ws, ns, rfl, .inl (l _ _ s (fun ps z => by cases z)), List.map_fst_zip (Nat.le_of_eq hl), fun ys a p1 p2 n => ?_⟩
      have z := sortI_eq p1 p2
      subst z
      exact q a _ n fun Hs' _ => ⟨_, upd_same, IsL.of_ints _⟩
  · cases e
theorem sf_sorted (hcalm : X.calm = true) (hg : Gl X "sorted") (hm : X.mg "sorted" = none) (ha : SE X T W a f) (h0 : starEach [a] X.env = (false, eval a X.env) :: starEach [] X.env := by rfl) : SF X T W (.Call (.Name "sorted" p) [a] [] pos) (eCall oSort (aCons f aNil)) :=
  sf_callB (cr_sortedI.or (cr_sortedDK hcalm)) of_sort hg hm (by decide +kernel) (sa_cons ha sa_nil h0) (by decide) (by decide) h0 (by rfl)
end
end Rf

/-! isinstance of an exception that bears a field -/
namespace Rf
open PySem PySem.W PySem.Spec PySem.Calls PyProof.Rows
section
variable {prog : Program} {w : World} {A : Around} {E : Value → Shared → Prop} {s : Shared} {K : PySem.W.Frag} {x D : Addr} {ox : Obj} {zz : Option Obj}
theorem findObj_dataA {zz : Option Obj} {C : Addr} {nm : Str} {at1 gt1 : Value} (hc : (clsIn K C).isSome = true) (h1 : findIn K (.ref C) nm = some (some at1)) (h2 : specialIn K at1 "__get__" = some (some gt1)) (h3 : takesIn K at1 = some true) : findObj K C zz nm = some (.bind gt1 at1) := by
  obtain ⟨cdc, qc⟩ := Option.isSome_iff_exists.mp hc
  unfold findObj
  rw [qc, Option.bind_some, h1, Option.bind_some]; simp [h2, h3]
theorem kin_classZ {Q : Option Value → Shared → Prop} (ga1 : findIn K (.ref D) "__getattribute__" = some (some (.builtin "BaseException.__getattribute__"))) (ga2 : findIn K (.ref D) "__getattr__" = some none) (ga3 : subIn K (.ref D) (.type "BaseException") = some true)
    (ga4 : hasDictIn K D = true) (ha : findIn K (.ref D) "__class__" = some (some (.builtin "object.__class__")))
    (hn : specialIn K (.builtin "object.__class__") "__get__" = some (some (.builtin "getset_descriptor.__get__"))) (ga6 : takesIn K (.builtin "object.__class__") = some true) (hm : mroIn K D (.type "object") = some true)
    (X : K.In s.heap) (I : InstAt s.heap x ox D zz) (h : Q (some (.ref D)) { s with toks := s.toks + 1 }) : wpAny (model prog w) A (getAttr? (.ref x) "__class__") Q E s := by
  have hfo : findObj K D zz "__class__" = some (.bind (.builtin "getset_descriptor.__get__") (.builtin "object.__class__")) := findObj_dataA (by obtain ⟨cd, hc, _⟩ := any_some ga4; rw [hc]; rfl) ha hn ga6
  obtain ⟨hq, g, d, t, os⟩ := s
  have W0 := I.type (M := model prog w)
  have W1 := looks_findIn (M := model prog w) X ga1
  have W2 := looks_findIn (M := model prog w) X ga2
  have W3 := looks_find (M := model prog w) X I hfo
  have subb : Looks (model prog w) hq (isInstance (.ref x) (.type "BaseException")) true := W0.andThen (looks_subIn X ga3)
  have y0 : (false && onTheHeap (Value.builtin "BaseException.__getattribute__")) = false := rfl
  have y2 : (Value.builtin "BaseException.__getattribute__" == Value.builtin "object.__getattribute__") = false := by decide +kernel
  have y1 : (onTheHeap (Value.ref D) && Value.builtin "BaseException.__getattribute__" == Value.builtin "object.__getattribute__") = false := by rw [y2]; rfl
  unfold getAttr? getAttrBy? getAttrBy; refine wpAny_bind (wpAny_mkText (wpAny_bind (wpAny_attempt (wpAny_holding (wpAny_bind (W0.at (wpAny_bind (W1.at ?_))))))))
  show wpAny _ _ (if (onTheHeap (Value.ref D) && Value.builtin "BaseException.__getattribute__" == Value.builtin "object.__getattribute__") = true then _ else _) _ _ _; rw [y1, if_neg Bool.false_ne_true]
  unfold getAttrByItsOwn hookBefore; refine wpAny_bind ?_
  rw [if_pos (show onTheHeap (Value.ref D) = true from rfl)]; refine W2.at ?_
  refine wpAny_bind (wpAny_attempt (wpAny_holding ?_)); unfold callGetattribute
  rw [y0, if_neg Bool.false_ne_true]; unfold boundAndCalled
  rw [PySem.F.excAttr_ValueError.ga.bind (.ref x)]; refine wpAny_bind (wpAny_pure ?_)
  show wpAny _ _ (call (.builtin "BaseException.__getattribute__") [.ref x, .str "__class__" t]) _ _ _; refine wpAny_call (codeAny_call_builtin PySem.F.excAttr_ValueError.ga.plain PySem.F.entry_bexc_ga ?_)
  refine @check_slot (model prog w) _ _ ⟨hq, g, d, t + 1, os⟩ "BaseException.__getattribute__" "BaseException" "__getattribute__" (.ref x) [.str "__class__" t] [] _ (by decide +kernel) (by decide +kernel) subb (PySem.F.args_bexc_ga (.ref x) (.str "__class__" t)) ?_; unfold Builtin.«object.__getattribute__»
  refine wpAny_bind (wpAny_of_eq (a := ((Value.ref x : Value), [Value.str "__class__" t])) (by first | rfl | (simp only [slotArgs]; rfl)) ?_)
  refine wpAny_bind (wpAny_pure (wpAny_bind (W0.at (wpAny_bind (W3.at ?_))))); show wpAny _ _ (holding [Value.builtin "object.__class__"] (call (.builtin "getset_descriptor.__get__") [.builtin "object.__class__", .ref x, .ref D]) >>= ret) _ _ _
  refine wpAny_bind (wpAny_holding (wpAny_call (class_get (s := ⟨hq, g, d, t + 1, os⟩) (ox := ox) (od := zz) X I hm ?_))); refine wpAny_pure ?_
  show wpAny _ _ (handedOut (.ref D)) _ _ _; rw [handedOut_of (v := .ref D) rfl]
  first
    | exact wpAny_pure (wpAny_pure h)
    | exact wpAny_pure h
    | exact wpAny_pure (wpAny_bind (wpAny_pure (wpAny_pure h)))
theorem kitx_excZ (ga1 : findIn K (.ref D) "__getattribute__" = some (some (.builtin "BaseException.__getattribute__"))) (ga2 : findIn K (.ref D) "__getattr__" = some none) (ga3 : subIn K (.ref D) (.type "BaseException") = some true) (ga4 : hasDictIn K D = true) (ha : findIn K (.ref D) "__class__" = some (some (.builtin "object.__class__")))
    (hn : specialIn K (.builtin "object.__class__") "__get__" = some (some (.builtin "getset_descriptor.__get__"))) (ga6 : takesIn K (.builtin "object.__class__") = some true) (hm : mroIn K D (.type "object") = some true) :
    KitX K (.ref x) (.ref D) (fun h => InstAt h x ox D zz) where
  ty := fun _ _ _ I => I.type
  it := fun _ _ X _ => by
    obtain ⟨cD, hcd, _⟩ := any_some ga4
    unfold clsIn at hcd
    split at hcd
    · rename_i c' d' cd' sl' ho
      intro A' Q' E' s' k q
      unfold isType loadHead
      exact wpAny_bind (wpAny_loadPart (k _ _ (X _ _ ho)) (wpAny_pure q))
    · cases hcd
  ne := fun h tp dd its n sl X htp => by
    obtain ⟨cD, hcd, _⟩ := any_some ga4
    refine Bool.eq_false_iff.mpr fun q => ?_
    have e : D = tp := Value.ref.inj (beq_iff_eq.mp q)
    subst e
    unfold clsIn at hcd
    split at hcd
    · rename_i c' d' cd' sl' ho
      have z := (X _ _ ho).symm.trans htp
      cases z
    · cases hcd
  ca := fun X I k => kin_classZ ga1 ga2 ga3 ga4 ha hn ga6 hm X I k
end
end Rf

namespace Rf
open PySem L2 LamX
open PyProof.Rows hiding St

/-! ## a suite that holds an exception with a field -/
def rIsEX (K : PySem.W.Frag) (C a : Addr) (dd : Option Addr) : List V → Hp → VK → Prop := fun xs H Q => ∃ (c : V) (cv : Value) (b : Bool), xs = [.ref a, c] ∧ (∀ u, RelV c u → u = cv) ∧ PySem.W.kitOne K (.ref C) cv = some b ∧ (∀ x, dd = some x → ∃ fs, H x = some (.xd fs)) ∧ Q (.bl b) H
theorem call_isEX {X : Cx} {a C : Addr} {oe : Obj} {dd : Option Addr} {pn : List (Addr × Obj)} (ec : ExcC X.K C) (hz : Zc (.ref C) dd oe) (hf : ∃ vs, oe.data = .fields vs) : CallR (X.suite a ((a, oe) :: pn)) (.builtin "isinstance") (rIsEX X.K C a dd) := by
  intro pins s σ H xs us Q I r h
  obtain ⟨c, cv, b, rfl, hcv, e, hx, q⟩ := h
  obtain ⟨u1, us1, rfl, r1, r⟩ : ∃ u1 us1, us = u1 :: us1 ∧ RelV (.ref a) u1 ∧ Vals [c] us1 := by
    cases r with
    | cons r1 r2 => exact ⟨_, _, rfl, r1, r2⟩
  obtain ⟨u2, rfl, r2⟩ := vals1 r
  obtain rfl : u1 = Value.ref a := r1
  obtain rfl := hcv _ r2
  obtain ⟨hget, _⟩ := I.pin (a, oe) (List.mem_append.mpr (.inl List.mem_cons_self))
  obtain ⟨vs, hv⟩ := hf
  have hnc : PySem.W.notCls oe = true := by unfold PySem.W.notCls; rw [hv] <;> rfl
  cases dd with
  | none =>
    have J : PySem.W.InstAt s.heap a oe C none := by
      obtain ⟨oc, od, oda, osl⟩ := oe
      obtain ⟨h1, h2⟩ := hz
      dsimp only at h1 h2 hv
      subst h1 h2 hv
      exact ⟨hget, rfl, rfl, trivial⟩
    exact PySem.W.kia_one (kitx_excZ ec.hg ec.hk ec.hs ec.hd ec.ha ec.hn ec.ht ec.hm) I.kIn J e (fun z => nomatch z) fun tk => ⟨.bl b, H, I.kept (t' := tk) fun _ _ z => z, rfl, q⟩
  | some x =>
    obtain ⟨fs, hxd⟩ := hx x rfl
    have ho : ObjOk X.prog X.w H s.heap x (.xd fs) := I.hok x _ hxd
    obtain ⟨mA, hns, hr⟩ := ho
    obtain ⟨od, ho, hl⟩ := lookIn_ns hns
    have J : PySem.W.InstAt s.heap a oe C (some od) := ⟨hget, hz.1, hnc, by rw [hz.2]; exact ho⟩
    exact PySem.W.kia_one (kitx_excZ ec.hg ec.hk ec.hs ec.hd ec.ha ec.hn ec.ht ec.hm) I.kIn J e (fun z => nomatch z) fun tk => ⟨.bl b, H, I.kept (t' := tk) fun _ _ z => z, rfl, q⟩
section
variable {X : Cx} {T : Tb} {W : WX} {i : Nat} {c : Str} {pp : Option (Str × D)} {a C Dy : Addr} {dd : Option Addr} {oe : Obj} {pn : List (Addr × Obj)} {n y : Str} {b : Bool} {p p1 p2 pos : Pos}
theorem HeldX.xd (hh : HeldX X T i c pp a C dd oe) {F : Addr → Prop} {σ : St} {H : Hp} {env : Env'} (S : Sta (gm X) T F σ H env) (x : Addr) (e : dd = some x) : ∃ fs, H x = some (.xd fs) := by
  have z := hh.fld
  cases pp with
  | none => rw [show dd = none from z] at e; cases e
  | some fd =>
    obtain ⟨x', v, e1, e2, _⟩ := z
    rw [e] at e1
    obtain rfl := Option.some.inj e1
    exact ⟨_, S.old.kp _ _ e2 (fun ps z => by cases z)⟩
theorem is_lawX {cv : Value} {cV : V} (hh : HeldX X T i c pp a C dd oe) (hcv : ∀ u, RelV cV u → u = cv) (hk : PySem.W.kitOne X.K (.ref C) cv = some b) {σ : St} {H : Hp} {Q : VK} (h : rd (gm X) T (isD (gm X)) (eC (.bl b)) W σ H Q) : tCB (rIsEX X.K C a dd) (tCons (tVar i) (tCons (tC cV) tNil)) σ H Q := by
  obtain ⟨F, env, S, h⟩ := h
  exact ⟨.ref a, S.tab.2 _ hh.pin, cV, cv, b, rfl, hcv, hk, hh.xd S, h (.bl b) H .refl S rfl⟩
theorem se_isXf (hh : HeldX X T i c pp a C dd oe) (ec : ExcC X.K C) (hk : PySem.W.kitOne X.K (.ref C) (.ref Dy) = some b) (hm : X.mg y = some (.ref Dy)) (hN : X.N[i]? = some n) (hv : X.env.kindOf n = some .local) (hg : Gl X "isinstance") (hmi : X.mg "isinstance" = none) (hgy : Gl X y)
    (hd : (n == ("__debug__" : Str)) = false := by decide) (hcd : (n == ("__classdict__" : Str)) = false := by decide) (hdy : (y == ("__debug__" : Str)) = false := by decide)
    (h0 : starEach [.Name n p1, .Name y p2] X.env = (false, eval (.Name n p1) X.env) :: starEach [.Name y p2] X.env := by rfl) (h1 : starEach [.Name y p2] X.env = (false, eval (.Name y p2) X.env) :: starEach [] X.env := by rfl) (hpl : (backTo pos (starEach [.Name y p2] X.env)).any (·.1) = false := by rfl) :
    SE (X.suite a ((a, oe) :: pn)) T W (.Call (.Name "isinstance" p) [.Name n p1, .Name y p2] [] pos) (eC (.bl b)) :=
  PE.weak (pe_callB (X := X.suite a ((a, oe) :: pn)) (call_isEX ec hh.hz hh.hf) hg hmi (by decide +kernel) (pa_cons (pe_var (i := i) hN (.inl hv) hd hcd) (pa_cons (pe_glob (v := .ref Dy) hgy hm rfl hdy) pa_nil h1) h0) (he := h0) (hpl := hpl)) fun σ H Q h => is_lawX (cv := .ref Dy) (cV := .ref Dy) hh (fun u r => r) hk h
theorem se_isBf {id : String} (hh : HeldX X T i c pp a C dd oe) (ec : ExcC X.K C) (hk : PySem.W.kitOne X.K (.ref C) (.type id) = some b) (hm : X.mg y = none) (hby : bootBuiltins y = some (.type id)) (hN : X.N[i]? = some n) (hv : X.env.kindOf n = some .local) (hg : Gl X "isinstance") (hmi : X.mg "isinstance" = none) (hgy : Gl X y)
    (hny : y ≠ "__name__" := by decide) (hd : (n == ("__debug__" : Str)) = false := by decide) (hcd : (n == ("__classdict__" : Str)) = false := by decide) (hdy : (y == ("__debug__" : Str)) = false := by decide)
    (h0 : starEach [.Name n p1, .Name y p2] X.env = (false, eval (.Name n p1) X.env) :: starEach [.Name y p2] X.env := by rfl) (h1 : starEach [.Name y p2] X.env = (false, eval (.Name y p2) X.env) :: starEach [] X.env := by rfl) (hpl : (backTo pos (starEach [.Name y p2] X.env)).any (·.1) = false := by rfl) :
    SE (X.suite a ((a, oe) :: pn)) T W (.Call (.Name "isinstance" p) [.Name n p1, .Name y p2] [] pos) (eC (.bl b)) :=
  PE.weak (pe_callB (X := X.suite a ((a, oe) :: pn)) (call_isEX ec hh.hz hh.hf) hg hmi (by decide +kernel) (pa_cons (pe_var (i := i) hN (.inl hv) hd hcd) (pa_cons (pe_bltn (v := .ty id) hgy hm hby rfl hny hdy) pa_nil h1) h0) (he := h0) (hpl := hpl)) fun σ H Q h => is_lawX (cv := .type id) (cV := .ty id) hh (fun u r => r) hk h
/-- the field of the exception that the suite holds -/
def eFld (pp : Option (Str × D)) (f : Str) : Env' → Ro D := fun env => match pp with
  | some (g, d) => if g = f then .ok d env else .stk
  | none => .stk
theorem se_fldX {f : Str} (hh : HeldX X T i c pp a C dd oe) (xf : ∀ d, pp = some (f, d) → FTx X.K C f) (hN : X.N[i]? = some n) (hv : X.env.kindOf n = some .local)
    (hd : (n == ("__debug__" : Str)) = false := by decide) (hcd : (n == ("__classdict__" : Str)) = false := by decide) (hb : attributeBase (.Name n p1) f X.env (eval (.Name n p1) X.env) = eval (.Name n p1) X.env := by rfl) :
    SE (X.suite a ((a, oe) :: pn)) T W (.Attribute (.Name n p1) f pos) (eFld pp f) := by
  have z := hh.fld
  cases pp with
  | none => exact ⟨fun pins s σ H Q I h => by
      obtain ⟨F, env, S, h⟩ := h
      exact h.elim⟩
  | some fd =>
    obtain ⟨g, d⟩ := fd
    obtain ⟨x, v, e1, e2, e3⟩ := z
    by_cases hg : g = f
    · subst hg
      refine PE.weak (pe_xf (X := X) (n := g) (xf d rfl).xf (xf d rfl).no hh.hz hh.hf (pe_var (X := X.suite a ((a, oe) :: pn)) (i := i) hN (.inl hv) hd hcd) hb) fun σ H Q h => ?_
      obtain ⟨F, env, S, h⟩ := h
      simp only [eFld, if_true] at h
      refine ⟨.ref a, S.tab.2 _ hh.pin, rfl, rfl, x, [(g, v)], v, e1, S.old.kp _ _ e2 (fun ps z => by cases z), by simp, ?_⟩
      exact h v H .refl S (Is.mono S.vis _ _ e3)
    · exact ⟨fun pins s σ H Q I h => by
        obtain ⟨F, env, S, h⟩ := h
        simp only [eFld, if_neg hg] at h
        exact h.elim⟩
end
end Rf

namespace Rf
open PySem L2 LamX
open PyProof.Rows hiding St
/-! ## errors that keep a field: the places of their __init__ left open -/
def ITX (P : Program) (K : PySem.W.Frag) (C fI : Addr) (f : Str) : Prop := ∃ q1 q2 q3 q4, ITx P K C fI ["self", f] [keepS f q1 q2 q3 q4] ∧ ∀ env : Env, swapsWith (.Name f q3) (some (.Attribute (.Name "self" q1) f q2)) q4.line env = pure false
def InitX (st : Stmt) (f : Str) : Prop := ∃ q1 q2 q3 q4, InitT st ["self", f] [keepS f q1 q2 q3 q4] ∧ ∀ env : Env, swapsWith (.Name f q3) (some (.Attribute (.Name "self" q1) f q2)) q4.line env = pure false
section
variable {X : Cx} {T : Tb} {W : WX} {k j : Nat} {a : Expr} {g : Env' → Ro D} {x f : Str} {C fI : Addr} {p pos pos2 : Pos}
theorem ss_raise1E (Fr : Fra X j W) (tx : ETx X.prog X.K X.mg x C) (fx : FTx X.K C f) (hf : f ≠ "self") (ix : ITX X.prog X.K C fI f) (hd : (f == ("__debug__" : Str)) = false) (hk : k + 1 ≤ j) (ha : SE X T W a g) (hg : Gl X x)
    (hdb : (x == ("__debug__" : Str)) = false := by decide) (he : starEach (a :: []) X.env = (false, eval a X.env) :: starEach [] X.env := by rfl) (hpl : (backTo pos (starEach [] X.env)).any (·.1) = false := by rfl) : SS X T W (.Raise (some (.Call (.Name x p) [a] [] pos)) none pos2) (sRaise1 x f g) := by
  obtain ⟨q1, q2, q3, q4, ix, sw⟩ := ix
  exact ss_raise1 (k := k) Fr tx fx hf ix sw hd hk ha hg hdb he hpl
end
end Rf

namespace Rf
open PySem L2 LamX
open PyProof.Rows hiding St
/-! ## sum of a tuple -/
section
variable {prog : Program} {w : World} {A : Around} {E : Value → Shared → Prop} {s : Shared} {l : Addr} {its : List Value} {ns : List Int} {Q : Value → Shared → Prop}
theorem sum_rawT (hh : A.handled = none) (hl : s.heap.IsTuple l its.toArray) (hi : IntsAre its ns)
    (h : ∀ h' tk t', (∀ b o, s.heap.get? b = some o → h'.get? b = some o) → Q (.int ns.sum t') { s with heap := h', toks := tk }) : wpAny (model prog w) A (call (.builtin "sum") [.ref l]) Q E s := by
  obtain ⟨xs, e⟩ := hi.allInts.items
  have hn : numsOf (intItems xs).toList = ns := by rw [← e]; exact hi.numsOf
  rw [nums_intItems] at hn
  rw [e] at hl
  have hlt : l < s.heap.objs.size := by obtain ⟨_, z, _⟩ := hl; exact Heap.lt_size z
  refine call_sum_walkG (wpAny_pyIter_tuple hl ?_)
  refine ⟨_, _, _, _, _, _, numAt xs, rfl, Walks.tuple (A := A.in1) hh _ l (Nat.ne_of_lt hlt) (intItems xs), ⟨⟨_, Heap.get?_push_size _ rfl, rfl, rfl⟩, hl.push _⟩, ?_, (fun _ _ => intItems_at), fun h' tk t' hk => ?_⟩
  · intro b hb
    show b < (s.heap.push _).objs.size
    rw [Heap.size_push]
    rcases List.mem_cons.mp hb with rfl | hb
    · exact Nat.lt_succ_self _
    · first
        | (rcases List.mem_cons.mp hb with rfl | hb
           · exact Nat.lt_succ_of_lt hlt
           · cases hb)
        | cases hb
  · have q := h h' tk t' fun b o eo => hk b o (fun hm => ?_) (Heap.get?_push_of_some _ eo)
    · rw [← hn] at q
      rw [preSum_eq, List.take_of_length_le (by simp [intItems])]
      exact q
    · rw [List.mem_singleton] at hm
      exact absurd (hm ▸ Heap.lt_size eo) (Nat.lt_irrefl _)
/-- the sum of a list or a tuple of numbers -/
def rSumA (K : PySem.W.Frag) : List V → Hp → VK → Prop := fun vs H Q => ∃ (a : Addr) (ns : List Int), vs = [V.ref a] ∧ SqT K H a (ns.map V.int) ∧ Q (.int ns.sum) H
theorem cr_sumT {X : Cx} (hc : X.calm = true) : CallR X (.builtin "sum") (rSumA X.K) := by
  intro pins s σ H vs us Q I r h
  obtain ⟨a, ns, rfl, hs, q⟩ := h
  obtain ⟨its, rv, hl, _⟩ := I.tuple hs
  rw [Vals.ref1 r]
  exact sum_rawT (I.ok.hd hc) hl rv.ints fun h' tk t' hk => ⟨.int _, H, I.kept hk, ⟨_, rfl⟩, q⟩
def oSumA : List D → Option D
  | [.lst xs] => (ints? xs).map fun ns => .int ns.sum
  | [.tup xs] => (ints? xs).map fun ns => .int ns.sum
  | [.ctup xs] => (ints? xs).map fun ns => .int ns.sum
  | _ => none
theorem oc_sumA {K : PySem.W.Frag} {mg : Str → Option Value} : OpC ⟨K, mg⟩ (fun vs H Q => rSum K vs H Q ∨ rSumA K vs H Q) oSumA := fun {Hs H ds d vs Q} l m e j => by
  unfold oSumA at e
  split at e
  all_goals first
    | (rename_i xs
       obtain ⟨v, rfl, i1⟩ := isL1 m
       cases e1 : ints? xs with
       | none => rw [e1] at e; cases e
       | some ns =>
         rw [e1] at e
         obtain rfl := Option.some.inj e
         obtain ⟨y, vs, rfl, s, m⟩ := i1
         rw [ints?_is e1] at m
         rw [IsL.ints m] at s
         first
           | exact .inl ⟨y, ns, rfl, l.lq s, j _ H (New.refl H) fun _ _ _ => rfl⟩
           | exact .inr ⟨y, ns, rfl, l.tq s, j _ H (New.refl H) fun _ _ _ => rfl⟩
           | exact .inr ⟨y, ns, rfl, l.sqT s, j _ H (New.refl H) fun _ _ _ => rfl⟩)
    | cases e
end
section
variable {X : Cx} {T : Tb} {W : WX} {a : Expr} {f : Env' → Ro D} {p pos : Pos}
theorem se_sumA (hc : X.calm = true) (hg : Gl X "sum") (hm : X.mg "sum" = none) (ha : SE X T W a f) (h0 : starEach [a] X.env = (false, eval a X.env) :: starEach [] X.env := by rfl) : SE X T W (.Call (.Name "sum" p) [a] [] pos) (eCall oSumA (aCons f aNil)) :=
  se_callB ((cr_sum hc).or (cr_sumT hc)) oc_sumA hg hm (by decide +kernel) (sa_cons ha sa_nil h0) (by decide) (by decide) h0 (by rfl)
end
end Rf

namespace Rf
open PySem L2 LamX
/-! ## tools for the plain laws -/
/-- a comprehension whose turns leave the slots as they were -/
theorem lcL_map {vs : List Nat} {t : Tg} {q : Env' → Ro Bool} {f : Env' → Ro D} {e : Env'} {g : D → Option D} : ∀ (ds acc : List D), acc.length + ds.length ≤ 16777216 →
    (∀ d ∈ ds, ∃ e1, t d e = some e1 ∧ ((g d = none ∧ ∃ e2, q e1 = .ok false e2 ∧ noOwn e2 vs = true ∧ wipeE e2 vs = e) ∨ ∃ y e2 e3, g d = some y ∧ q e1 = .ok true e2 ∧ f e2 = .ok y e3 ∧ noOwn e3 vs = true ∧ wipeE e3 vs = e)) →
    lcL vs t q f ds acc e = .ok (acc ++ ds.filterMap g) e
  | [], acc, _, _ => by simp [lcL]
  | d :: ds, acc, h, k => by
    have hz : sizeLine = 16777216 := by decide
    rw [List.length_cons] at h
    obtain ⟨e1, h1, h2⟩ := k d (by simp)
    rcases h2 with ⟨g1, e2, q1, n1, w1⟩ | ⟨y, e2, e3, g1, q1, f1, n1, w1⟩
    · have ih := lcL_map ds acc (by omega) fun x hx => k x (by simp [hx])
      simp only [lcL, h1, q1, n1, if_true, w1, ih, List.filterMap_cons, g1]
    · have ih := lcL_map ds (acc ++ [y]) (by rw [List.length_append, List.length_singleton]; omega) fun x hx => k x (by simp [hx])
      have hl : acc.length < sizeLine := by omega
      simp only [lcL, h1, q1, f1, n1, hl, decide_true, Bool.and_true, if_true, w1, ih, List.filterMap_cons, g1, List.append_assoc, List.singleton_append]
/-- a walk with an invariant -/
theorem forL_inv {t : Tg} {body : Env' → So} (P : Nat → Env' → Prop) : ∀ (ds : List D) (n : Nat) (e : Env'), P n e →
    (∀ i d e, ds[i]? = some d → P (n + i) e → ∃ e1 e2, t d e = some e1 ∧ (body e1 = .nx e2 ∨ body e1 = .ct e2) ∧ P (n + i + 1) e2) → ∃ e2, forL t body ds e = .nx e2 ∧ P (n + ds.length) e2
  | [], n, e, h, _ => ⟨e, rfl, h⟩
  | d :: ds, n, e, h, k => by
    obtain ⟨e1, e2, h1, h2, h3⟩ := k 0 d e rfl h
    obtain ⟨e3, h4, h5⟩ := forL_inv P ds (n + 1) e2 h3 fun i x e hx he => by
      have := k (i + 1) x e (by simpa using hx) (by rw [show n + (i + 1) = n + 1 + i by omega]; exact he)
      rw [show n + (i + 1) + 1 = n + 1 + i + 1 by omega] at this
      exact this
    refine ⟨e3, ?_, by rw [List.length_cons, show n + (ds.length + 1) = n + 1 + ds.length by omega]; exact h5⟩
    rcases h2 with h2 | h2 <;> simp only [forL, h1, h2, h4]
/-- a loop with an invariant and a measure -/
theorem whileN_inv {q : Env' → Ro Bool} {body : Env' → So} (P : Nat → Env' → Prop) (Z : Env' → Prop)
    (hs : ∀ m e, P m e → (∃ e1, q e = .ok false e1 ∧ Z e1) ∨ ∃ e1 e2 m', q e = .ok true e1 ∧ (body e1 = .nx e2 ∨ body e1 = .ct e2) ∧ m' < m ∧ P m' e2) : ∀ (n m : Nat) (e : Env'), m < n → P m e → ∃ e2, whileN q body n e = .nx e2 ∧ Z e2
  | 0, m, e, h, _ => absurd h (Nat.not_lt_zero _)
  | n + 1, m, e, h, hp => by
    rcases hs m e hp with ⟨e1, q1, z⟩ | ⟨e1, e2, m', q1, b1, l, p⟩
    · exact ⟨e1, by simp [whileN, ofRo, q1], z⟩
    · obtain ⟨e3, h3, z⟩ := whileN_inv P Z hs n m' e2 (by omega) p
      refine ⟨e3, ?_, z⟩
      rcases b1 with b1 | b1 <;> simp [whileN, ofRo, q1, b1, h3]
theorem sWhile_inv {q : Env' → Ro Bool} {body : Env' → So} (P : Nat → Env' → Prop) (Z : Env' → Prop)
    (hs : ∀ m e, P m e → (∃ e1, q e = .ok false e1 ∧ Z e1) ∨ ∃ e1 e2 m', q e = .ok true e1 ∧ (body e1 = .nx e2 ∨ body e1 = .ct e2) ∧ m' < m ∧ P m' e2) {m : Nat} {e : Env'} (hm : m < 2 ^ 200) (hp : P m e) : ∃ e2, sWhile q body e = .nx e2 ∧ Z e2 :=
  whileN_inv P Z hs many m e hm hp
end Rf

namespace Rf
open PySem L2 LamX
/-! ## tools for the plain laws: ranges, walks, comprehensions -/
theorem okR_of {i : Int} (h : -1000000000000000 ≤ i ∧ i ≤ 1000000000000000) : okR i = true := decide_eq_true (by omega)
theorem iR1_of {f : Env' → Ro D} {E E' : Env'} {j : Int} (h : f E = .ok (.int j) E') (hj : j ≤ 1000000000000000) (hl : -1000000000000000 ≤ j) : iR1 f E = .ok (rng 0 j.toNat) E' := by
  simp only [iR1, h, Ro.bind, okR_of ⟨hl, hj⟩, if_true]
theorem iR1_nat {f : Env' → Ro D} {E E' : Env'} {n : Nat} (h : f E = .ok (.int (n : Int)) E') (hn : n ≤ 1000000000000000) : iR1 f E = .ok (rng 0 n) E' := by
  have := iR1_of h (by omega) (by omega)
  rwa [Int.toNat_natCast] at this
theorem iR2_of {f g : Env' → Ro D} {E E' E2 : Env'} {i j : Int} (h : f E = .ok (.int i) E') (h2 : g E' = .ok (.int j) E2) (hi : -1000000000000000 ≤ i ∧ i ≤ 1000000000000000) (hj : -1000000000000000 ≤ j ∧ j ≤ 1000000000000000) : iR2 f g E = .ok (rng i (j - i).toNat) E2 := by
  simp only [iR2, h, h2, Ro.bind, okR_of hi, okR_of hj, Bool.and_self, if_true]
theorem sFor_of {it : Env' → Ro (List D)} {t : Tg} {body : Env' → So} {E E' : Env'} {ds : List D} (h : it E = .ok ds E') : sFor it t body E = forL t body ds E' := by
  simp only [sFor, h, ofRo]
theorem sFor_nat {f : Env' → Ro D} {t : Tg} {body : Env' → So} {E E' : Env'} {n : Nat} (h : f E = .ok (.int (n : Int)) E') (hn : n ≤ 1000000000000000) : sFor (iR1 f) t body E = forL t body (rng 0 n) E' := sFor_of (iR1_nat h hn)
theorem iSeq_of {f : Env' → Ro D} {E E' : Env'} {d : D} {ds : List D} (h : f E = .ok d E') (h2 : seqD d = some ds) : iSeq f E = .ok ds E' := by
  simp only [iSeq, h, Ro.bind, h2, lift]
theorem seq_nx {f g : Env' → So} {e e' : Env'} (h : f e = .nx e') : sSeq f g e = g e' := by
  simp only [sSeq, h]
theorem seq_ret {f g : Env' → So} {e e' : Env'} {d : D} (h : f e = .ret d e') : sSeq f g e = .ret d e' := by
  simp only [sSeq, h]
theorem seq_exc {f g : Env' → So} {e e' : Env'} {c : Str} {p : Option (Str × D)} (h : f e = .exc c p e') : sSeq f g e = .exc c p e' := by
  simp only [sSeq, h]
theorem seq_assoc (f g h : Env' → So) : sSeq (sSeq f g) h = sSeq f (sSeq g h) := by
  funext e
  simp only [sSeq]
  cases f e <;> rfl
/-- a def that returns, by its body -/
theorem runM_ret {md : List Bool} {n : Nat} {b : Env' → So} {args os e : Env'} {d : D} (hb : b (args ++ List.replicate (n - args.length) .no) = .ret d e) (h1 : args.map ownS = md) (h2 : args.all (fun s => !isNo s) = true) (h3 : outOk args e = true) (h4 : outs args e = os) : runM md n b args = .ok d os := by
  unfold runM
  rw [if_pos ⟨h1, h2⟩, hb]
  simp only [outR, h3, if_true, h4]
/-- the numbers from lo on -/
def nl (lo : Int) (n : Nat) : List Int := (List.range n).map fun (i : Nat) => lo + (i : Int)
theorem rng_nl (lo : Int) (n : Nat) : rng lo n = (nl lo n).map D.int := by
  simp [rng, nl, List.map_map, Function.comp_def]
theorem nl_length (lo : Int) (n : Nat) : (nl lo n).length = n := by simp [nl]
theorem nl_mem {lo x : Int} {n : Nat} : x ∈ nl lo n ↔ lo ≤ x ∧ x < lo + n := by
  simp only [nl, List.mem_map, List.mem_range]
  constructor
  · rintro ⟨i, hi, rfl⟩
    omega
  · intro h
    exact ⟨(x - lo).toNat, by omega, by omega⟩
theorem nl_succ (lo : Int) (n : Nat) : nl lo (n + 1) = lo :: nl (lo + 1) n := by
  simp only [nl, List.range_succ_eq_map, List.map_cons, List.map_map]
  congr 1
  · simp
  · refine List.map_congr_left fun i _ => ?_
    simp only [Function.comp]
    omega
theorem rng_succ (lo : Int) (n : Nat) : rng lo (n + 1) = .int lo :: rng (lo + 1) n := by
  simp only [rng_nl, nl_succ, List.map_cons]
/-- a comprehension over what is known to be a list of data: the turns leave the slots as they were -/
theorem eLc_map {vs : List Nat} {it : Env' → Ro (List D)} {t : Tg} {q : Env' → Ro Bool} {f : Env' → Ro D} {E E1 : Env'} {ds : List D} (g : D → Option D) (hi : it E = .ok ds E1) (no : noOwn E1 vs = true) (hl : ds.length ≤ 16777216)
    (hw : backE E1 (wipeE E1 vs) vs = E1)
    (nw : noOwn (wipeE E1 vs) vs = true)
    (k : ∀ d ∈ ds, ∃ e1, t d (wipeE E1 vs) = some e1 ∧ ((g d = none ∧ ∃ e2, q e1 = .ok false e2 ∧ noOwn e2 vs = true ∧ wipeE e2 vs = wipeE E1 vs) ∨ ∃ y e2 e3, g d = some y ∧ q e1 = .ok true e2 ∧ f e2 = .ok y e3 ∧ noOwn e3 vs = true ∧ wipeE e3 vs = wipeE E1 vs)) :
    eLc vs it t q f E = .ok (.lst (ds.filterMap g)) E1 := by
  have key := lcL_map (g := g) ds [] (by simpa using hl) k
  rw [List.nil_append] at key
  simp only [eLc, hi, Ro.bind, no, if_true, key, nw, hw]
end Rf

namespace Rf
open PySem L2 LamX
/-! ## a, b, .. = x, y, ..: some of the names own what they get -/
def OwL (G : Gm) (Hs H : Hp) : List Bool → List D → List V → List Addr → Prop
  | [], ds, vs, A => ds = [] ∧ vs = [] ∧ A = []
  | false :: md, ds, vs, A => ∃ d r v q, ds = d :: r ∧ vs = v :: q ∧ Is G Hs d v ∧ OwL G Hs H md r q A
  | true :: md, ds, vs, A => ∃ d r q a B, ds = d :: r ∧ vs = .ref a :: q ∧ A = a :: B ∧ OIs G Hs H d a ∧ OwL G Hs H md r q B
theorem OwL.mono {G : Gm} {Hs Hs' H H' : Hp} (l : Le Hs Hs') : ∀ {md : List Bool} {ds : List D} {vs : List V} {A : List Addr}, (∀ a ∈ A, H' a = H a) → OwL G Hs H md ds vs A → OwL G Hs' H' md ds vs A
  | [], ds, vs, A, _, h => h
  | false :: md, ds, vs, A, k, h => by
    obtain ⟨d, r, v, q, e1, e2, i, o⟩ := h
    exact ⟨d, r, v, q, e1, e2, Is.mono l _ _ i, OwL.mono l k o⟩
  | true :: md, ds, vs, A, k, h => by
    obtain ⟨d, r, q, a, B, e1, e2, rfl, i, o⟩ := h
    exact ⟨d, r, q, a, B, e1, e2, rfl, i.mono l (k a (by simp)), OwL.mono l (fun b hb => k b (by simp [hb])) o⟩
theorem OwL.len {G : Gm} {Hs H : Hp} : ∀ {md : List Bool} {ds : List D} {vs : List V} {A : List Addr}, OwL G Hs H md ds vs A → vs.length = md.length
  | [], ds, vs, A, h => by rw [h.2.1]; rfl
  | false :: md, ds, vs, A, h => by
    obtain ⟨d, r, v, q, e1, e2, i, o⟩ := h
    rw [e2, List.length_cons, List.length_cons, OwL.len o]
  | true :: md, ds, vs, A, h => by
    obtain ⟨d, r, q, a, B, e1, e2, e3, i, o⟩ := h
    rw [e2, List.length_cons, List.length_cons, OwL.len o]
theorem OwL.there {G : Gm} {Hs H : Hp} : ∀ {md : List Bool} {ds : List D} {vs : List V} {A : List Addr}, OwL G Hs H md ds vs A → ∀ a ∈ A, H a ≠ none
  | [], ds, vs, A, h, a, ha => by
    rw [h.2.2] at ha
    cases ha
  | false :: md, ds, vs, A, h, a, ha => by
    obtain ⟨d, r, v, q, e1, e2, i, o⟩ := h
    exact OwL.there o a ha
  | true :: md, ds, vs, A, h, a, ha => by
    obtain ⟨d, r, q, b, B, e1, e2, rfl, i, o⟩ := h
    rcases List.mem_cons.mp ha with e | e
    · obtain ⟨u, z, _⟩ := i.there
      rw [e, z]
      simp
    · exact OwL.there o a e
abbrev Pls (F : Addr → Prop) (A : List Addr) : Addr → Prop := fun b => F b ∨ b ∈ A
def RstO (G : Gm) (T : Tb) (F : Addr → Prop) (σ : St) (H : Hp) (env : Env') (W : WX) (md : List Bool) (Q : List V → Hp → Prop) : Ro (List D) → Prop
  | .ok ds env' => ∀ vs A H', Stp σ H env σ H' env' → Sta G T (Pls F A) σ H' env' → OwL G (hid H' (Hd (Pls F A) σ env')) H' md ds vs A → A.Nodup → (∀ a ∈ A, H a = none) → Q vs H'
  | .exc c p env' => ∀ cls dd H', Stp σ H env σ H' env' → Sta G T F σ H' env' → ExcIs G (hid H' (Hd F σ env')) H' c p cls dd → W cls dd σ H'
  | .stk => False
def rdO (G : Gm) (T : Tb) (md : List Bool) (f : Env' → Ro (List D)) (W : WX) : TA := fun σ H Q => ∃ (F : Addr → Prop) (env : Env'), Sta G T F σ H env ∧ RstO G T F σ H env W md Q (f env)
def SL (X : Cx) (T : Tb) (W : WX) (md : List Bool) (es : List Expr) (f : Env' → Ro (List D)) : Prop := PA X es (rdO (gm X) T md f W)
section
variable {X : Cx} {T : Tb} {W : WX} {k : Nat} {a : Expr} {es : List Expr} {f : Env' → Ro D} {r : Env' → Ro (List D)} {md : List Bool} {pos : Pos}
theorem sl_nil : SL X T W [] [] aNil := PA.weak pa_nil fun σ H Q h => by
  obtain ⟨F, env, S, h⟩ := h
  have e : Pls F [] = F := funext fun b => by simp [Pls]
  exact h [] [] H .refl (by rw [e]; exact S) ⟨rfl, rfl, rfl⟩ List.nodup_nil fun a z => by cases z
theorem Stp.none {σ σ' : St} {H H' : Hp} {env env' : Env'} (s : Stp σ H env σ' H' env') {a : Addr} (h : H' a = none) : H a = none := by
  cases q : H a with
  | none => rfl
  | some o => exact absurd h (s.dom a (by rw [q]; simp))
theorem Stp.leO {σ : St} {H H' : Hp} {env env' : Env'} (s : Stp σ H env σ H' env') (F : Addr → Prop) {A : List Addr} (n : ∀ a ∈ A, H a = .none) : Le (hid H (Hd F σ env)) (hid H' (Hd (Pls F A) σ env')) := Le.hid fun a o e nt h => by
  refine ⟨fun z => ?_, s.keep a o e nt fun z => h (.inl z)⟩
  rcases z with z | z | z
  · exact s.own a (by rw [e]; simp) (fun q => h (.inl q)) z
  · exact h (.inr z)
  · rw [n a z] at e
    cases e
theorem sl_v (ha : SE X T W a f) (hr : SL X T W md es r) (hs : starEach (a :: es) X.env = (false, eval a X.env) :: starEach es X.env := by rfl) : SL X T W (false :: md) (a :: es) (aCons f r) :=
  PA.weak (pa_cons ha hr hs) fun σ H Q h => by
    obtain ⟨F, env, S, h⟩ := h
    refine ⟨F, env, S, ?_⟩
    unfold aCons at h
    cases e : f env with
    | exc c q e1 => rw [e] at h; exact h
    | stk => rw [e] at h; exact h
    | ok d e1 =>
      rw [e] at h
      simp only [Ro.bind] at h
      intro v H1 s1 S1 i1
      refine ⟨F, e1, S1, ?_⟩
      cases e' : r e1 with
      | exc c' q e2 =>
        rw [e'] at h
        exact fun cls dd H' s st x => h cls dd H' (s1.trans s) st x
      | stk => rw [e'] at h; exact h
      | ok ds e2 =>
        rw [e'] at h
        intro vs A H2 s2 S2 o2 nd nn
        exact h (v :: vs) A H2 (s1.trans s2) S2 ⟨d, ds, v, vs, rfl, rfl, Is.mono (s2.leO F nn) _ _ i1, o2⟩ nd fun b hb => s1.none (nn b hb)
theorem sl_o (ha : SF X T W a f) (hr : SL X T W md es r) (hs : starEach (a :: es) X.env = (false, eval a X.env) :: starEach es X.env := by rfl) : SL X T W (true :: md) (a :: es) (aCons f r) :=
  PA.weak (pa_cons ha hr hs) fun σ H Q h => by
    obtain ⟨F, env, S, h⟩ := h
    refine ⟨F, env, S, ?_⟩
    unfold aCons at h
    cases e : f env with
    | exc c q e1 => rw [e] at h; exact h
    | stk => rw [e] at h; exact h
    | ok d e1 =>
      rw [e] at h
      simp only [Ro.bind] at h
      intro c H1 s1 S1 o1 n
      refine ⟨Pl F c, e1, S1, ?_⟩
      cases e' : r e1 with
      | exc c' q e2 =>
        rw [e'] at h
        exact fun cls dd H' s st x => h cls dd H' (s1.trans s) st.open (exc_mono (le_open (G := gm X) (F := F)) x)
      | stk => rw [e'] at h; exact h
      | ok ds e2 =>
        rw [e'] at h
        intro vs A H2 s2 S2 o2 nd nn
        have hF : Pls (Pl F c) A = Pls F (c :: A) := funext fun b => by simp [Pls, Pl, or_assoc]
        obtain ⟨u, eu, nt, _⟩ := o1.there
        have k2 : H2 c = H1 c := by rw [s2.keep c u eu nt fun z => S1.fr c z (.inr rfl), eu]
        have o3 := o1.mono (s2.leO (Pl F c) nn) k2
        rw [hF] at S2 o2 o3
        refine h (.ref c :: vs) (c :: A) H2 (s1.trans s2) S2 ⟨d, ds, vs, c, A, rfl, rfl, rfl, o3, o2⟩ (List.nodup_cons.mpr ⟨fun z => ?_, nd⟩) fun b hb => ?_
        · have := nn c z
          rw [eu] at this
          cases this
        · rcases List.mem_cons.mp hb with z | z
          · rw [z]; exact n
          · exact s1.none (nn b z)
end
def setAll : St → List Nat → List V → St
  | σ, i :: is, v :: vs => setAll (σ.set i (some v)) is vs
  | σ, _, _ => σ
def setL : Env' → List Nat → List Bool → List D → Env'
  | e, i :: is, m :: md, d :: ds => setL (e.set i (if m then .o d else .v d)) is md ds
  | e, _, _, _ => e
theorem Pls_cons (F : Addr → Prop) (a : Addr) (A : List Addr) : Pls F (a :: A) = Pl (Pls F A) a := funext fun b => by
  simp only [Pls, Pl, List.mem_cons]
  exact propext ⟨fun h => by rcases h with h | h | h <;> simp [h], fun h => by rcases h with (h | h) | h <;> simp [h]⟩
theorem Sta.setL {G : Gm} {T : Tb} {F : Addr → Prop} {H H0 : Hp} {σ0 : St} {env0 : Env'} (hF : ∀ b, F b → H0 b ≠ none) (hT : ∀ b, H0 b = none → T.old b = none) : ∀ (is : List Nat) (md : List Bool) (ds : List D) (vs : List V) (A : List Addr) (σ : St) (env : Env'), is.length = md.length → (∀ i ∈ is, Fr T i) →
    Stp σ0 H0 env0 σ H env → Sta G T (Pls F A) σ H env → OwL G (hid H (Hd (Pls F A) σ env)) H md ds vs A → A.Nodup → (∀ a ∈ A, H0 a = none) →
    Sta G T F (setAll σ is vs) H (Rf.setL env is md ds) ∧ Stp σ0 H0 env0 (setAll σ is vs) H (Rf.setL env is md ds)
  | [], [], ds, vs, A, σ, env, _, _, s, S, o, _, _ => by
    obtain ⟨rfl, rfl, rfl⟩ := o
    have e : Pls F [] = F := funext fun b => by simp [Pls]
    rw [e] at S
    exact ⟨S, s⟩
  | [], _ :: _, ds, vs, A, σ, env, h, _, _, _, _, _, _ => by cases h
  | _ :: _, [], ds, vs, A, σ, env, h, _, _, _, _, _, _ => by cases h
  | i :: is, false :: md, ds, vs, A, σ, env, h, fr, s, S, o, nd, nn => by
    obtain ⟨d, r, v, q, rfl, rfl, iv, o⟩ := o
    obtain ⟨S1, s1⟩ := S.set (i := i) (fr i (by simp)) iv
    have le : Le (hid H (Hd (Pls F A) σ env)) (hid H (Hd (Pls F A) (σ.set i (some v)) (env.set i (.v d)))) := Le.hid fun b o e n k => ⟨fun z => k (by
      rcases z with z | z
      · exact .inl (ow_set z)
      · exact .inr z), e⟩
    exact Sta.setL hF hT is md r q A _ _ (by simpa using h) (fun j hj => fr j (by simp [hj])) (s.trans s1) S1 (o.mono le fun _ _ => rfl) nd nn
  | i :: is, true :: md, ds, vs, A, σ, env, h, fr, s, S, o, nd, nn => by
    obtain ⟨d, r, q, a, B, rfl, rfl, rfl, iv, o⟩ := o
    rw [Pls_cons] at S iv o
    have na := nn a (by simp)
    obtain ⟨nB, nd'⟩ := List.nodup_cons.mp nd
    obtain ⟨S1, s1⟩ := Sta.setO (i := i) s (.inl na) S iv (fun z => by
      rcases z with z | z
      · exact hF a z na
      · exact nB z) (fr i (by simp)) (hT a na)
    have le : Le (hid H (Hd (Pl (Pls F B) a) σ env)) (hid H (Hd (Pls F B) (σ.set i (some (.ref a))) (env.set i (.o d)))) := Le.hid fun q u e _ kk => ⟨fun z => kk (by
      rcases z with z | z
      · rcases ow_setO z with z | z
        · exact .inl z
        · exact .inr (.inr z)
      · exact .inr (.inl z)), e⟩
    exact Sta.setL hF hT is md r q B _ _ (by simpa using h) (fun j hj => fr j (by simp [hj])) s1 S1 (o.mono le fun _ _ => rfl) nd' fun b hb => nn b (by simp [hb])
def sParL (is : List Nat) (md : List Bool) (f : Env' → Ro (List D)) : Env' → So := fun env => ofRo (f env) fun ds e => .nx (setL e is md ds)
section
variable {X : Cx} {T : Tb} {W : WX} {k : Nat} {pos : Pos} {is : List Nat} {md : List Bool} {f : Env' → Ro (List D)}
theorem parL_core (hl : is.length = md.length) (fr : ∀ i ∈ is, Fr T i) {G : Gm} {De : Ends} {σ : St} {H : Hp} (h : rdS G T (sParL is md f) W De σ H) :
    rdO G T md f W σ H fun vs H1 => vs.length = is.length ∧ ∀ H2, (H2 = H1 ∨ ∃ p o, H1 p = none ∧ H2 = upd H1 p o) → De.nx (setAll σ is vs) H2 := by
  obtain ⟨F, env, S, h⟩ := h
  refine ⟨F, env, S, ?_⟩
  unfold sParL at h
  cases e : f env with
  | exc c q e1 => rw [e] at h; exact fun cls dd H' s st x => h cls dd σ H' s st x
  | stk => rw [e] at h; exact h
  | ok ds e1 =>
    rw [e] at h
    simp only [ofRo] at h
    intro vs A H1 s1 S1 o1 nd nn
    refine ⟨by rw [o1.len, hl], fun H2 hh => ?_⟩
    have n : New H1 H2 := by
      rcases hh with z | ⟨p, o, hp, z⟩
      · rw [z]; exact New.refl _
      · rw [z]; exact New.upd hp
    have S2 := S1.new n
    have s2 : Stp σ H env σ H2 e1 := s1.trans n.stp
    have o2 := o1.mono (H' := H2) (n.le S1) fun a ha => by
      obtain ⟨u, hu⟩ : ∃ u, H1 a = some u := by
        cases q : H1 a with
        | none => exact absurd q (o1.there a ha)
        | some u => exact ⟨u, rfl⟩
      rw [hu, n a u hu]
    obtain ⟨S3, s3⟩ := Sta.setL (fun b z => S.fn b z) (fun b z => S.old.free (.inl z)) is md ds vs A σ e1 hl fr s2 S2 o2 nd nn
    exact h _ H2 s3 S3
theorem rdO.mono {G : Gm} {σ : St} {H : Hp} {Q Q' : List V → Hp → Prop} (h : rdO G T md f W σ H Q) (k : ∀ vs H', Q vs H' → Q' vs H') : rdO G T md f W σ H Q' := by
  obtain ⟨F, env, S, h⟩ := h
  refine ⟨F, env, S, ?_⟩
  cases e : f env with
  | exc c q e1 => rw [e] at h; exact h
  | stk => rw [e] at h; exact h
  | ok ds e1 =>
    rw [e] at h
    exact fun vs A H' s st o nd nn => k vs H' (h vs A H' s st o nd nn)
theorem ss_par2 (C : Ctx X k) (i j : Nat) {m1 m2 : Bool} (fr : Fr T i) (fr2 : Fr T j) {x y : Str} {a b : Expr} {px py pt : Pos} {kt k2 pt2} (hij : i ≠ j) (h : SL X T W [m1, m2] [a, b] f) (hi : X.N[i]? = some x := by rfl) (hj : X.N[j]? = some y := by rfl) (hx : X.env.scope.names.lookup x = some .local := by rfl) (hy : X.env.scope.names.lookup y = some .local := by rfl)
    (hw : swappedStores [.Tuple [.Name x px, .Name y py] kt pt] (.Tuple [a, b] k2 pt2) X.env = pure (some [x, y]) := by rfl)
    (hs : swapsWithSole [.Tuple [.Name x px, .Name y py] kt pt] (.Tuple [a, b] k2 pt2) pos.line X.env = pure false := by rfl) :
    SS X T W (.Assign [.Tuple [.Name x px, .Name y py] kt pt] (.Tuple [a, b] k2 pt2) pos) (sParL [i, j] [m1, m2] f) :=
  PS.weak (ps_par C.calm C.nd hi hj hij hx hy h hw hs) fun De σ H h => (parL_core rfl (fun q hq => by
    simp at hq
    rcases hq with rfl | rfl
    · exact fr
    · exact fr2) h).mono fun vs H' ⟨e, q⟩ => by
    match vs, e with
    | [v, w], _ => exact ⟨v, w, rfl, q H' (.inl rfl)⟩
theorem ss_par3 (C : Ctx X k) (i j l : Nat) {m1 m2 m3 : Bool} (fr : Fr T i) (fr2 : Fr T j) (fr3 : Fr T l) {x y z : Str} {a b c : Expr} {px py pz pt : Pos} {kt k2 pt2} (hij : i ≠ j) (hil : i ≠ l) (hjl : j ≠ l) (h : SL X T W [m1, m2, m3] [a, b, c] f) (hi : X.N[i]? = some x := by rfl) (hj : X.N[j]? = some y := by rfl) (hl : X.N[l]? = some z := by rfl)
    (hx : X.env.scope.names.lookup x = some .local := by rfl) (hy : X.env.scope.names.lookup y = some .local := by rfl) (hz : X.env.scope.names.lookup z = some .local := by rfl)
    (hw : swappedStores [.Tuple [.Name x px, .Name y py, .Name z pz] kt pt] (.Tuple [a, b, c] k2 pt2) X.env = pure (some [x, y, z]) := by rfl)
    (hs : swapsWithSole [.Tuple [.Name x px, .Name y py, .Name z pz] kt pt] (.Tuple [a, b, c] k2 pt2) pos.line X.env = pure false := by rfl) :
    SS X T W (.Assign [.Tuple [.Name x px, .Name y py, .Name z pz] kt pt] (.Tuple [a, b, c] k2 pt2) pos) (sParL [i, j, l] [m1, m2, m3] f) :=
  PS.weak (ps_par3 C.calm C.nd hi hj hl hij hil hjl hx hy hz h hw hs) fun De σ H h => (parL_core rfl (fun q hq => by
    simp at hq
    rcases hq with rfl | rfl | rfl
    · exact fr
    · exact fr2
    · exact fr3) h).mono fun vs H' ⟨e, q⟩ => by
    match vs, e with
    | [u, v, w], _ => exact ⟨u, v, w, rfl, q H' (.inl rfl)⟩
/-! names of any kind, any number: stored in order -/
def tSA (is : List Nat) : TGs := fun vs σ H Q => vs.length = is.length ∧ Q (setAll σ is vs) H
theorem gn_nil : PGs X [] (tSA []) := PGs.weak pgs_nil fun vs σ H Q h => by
  obtain ⟨e, q⟩ := h
  cases vs with
  | nil => exact ⟨rfl, q⟩
  | cons v r => cases e
theorem gn_cons {es : List Expr} {i : Nat} {x : Str} {p : Pos} (C : Cs X) (h : PGs X es (tSA is)) (hi : X.N[i]? = some x := by rfl) (hx : Loc X.env.scope x := by first | exact .inl rfl | exact .inr rfl) (hf : X.fn x = true ∨ X.env.scope.names.lookup x = some .local := by first | exact .inl rfl | exact .inr rfl)
    (h1 : (assignEach (.Name x p :: es) X.env).map (·.2) = assign (.Name x p) X.env :: (assignEach es X.env).map (·.2) := by rfl) : PGs X (.Name x p :: es) (tSA (i :: is)) :=
  PGs.weak (pgs_cons (pg_name C.nd hi hx hf) h h1) fun vs σ H Q h => by
    obtain ⟨e, q⟩ := h
    cases vs with
    | nil => cases e
    | cons v r => exact ⟨v, r, rfl, by simpa using e, q⟩
theorem ss_parG {n kk : Nat} {tgs es : List Expr} {x1} {pt pe : Pos} (C : Ctx X k) (fr : ∀ i ∈ is, Fr T i) (h : SL X T W md es f) (hg : PGs X tgs (tSA is)) (hl : is.length = md.length) (hz : is.length ≤ sizeLine) (hn : (assignEach tgs X.env).length = is.length := by rfl) (hst : (assignEach tgs X.env).findIdx? (·.1) = none := by rfl)
    (hs : swapsWithSole [.Tuple tgs kk pt] (.Tuple es x1 pe) pos.line X.env = pure false := by rfl) (hw : swappedStores [.Tuple tgs kk pt] (.Tuple es x1 pe) X.env = pure none := by rfl)
    (h1 : (assignEach [.Tuple tgs kk pt] X.env).map (·.2) = [assign (.Tuple tgs kk pt) X.env] := by rfl) : SS X T W (.Assign [.Tuple tgs kk pt] (.Tuple es x1 pe) pos) (sParL is md f) :=
  PS.weak (ps_asg (pe_tup h) (pg_tup C.calm hg hn hst) hs hw h1) fun De σ H h => (parL_core hl fr h).mono fun vs H' ⟨e, q⟩ =>
    ⟨by rw [e]; exact hz, fun p hp => ⟨p, vs, rfl, .inl (.inl upd_same), e, e, q _ (.inr ⟨p, _, hp, rfl⟩)⟩⟩
end
end Rf

namespace Rf
open PySem L2 LamX
/-! ## list comprehensions of two clauses -/
def lc2L (vs : List Nat) (t : Tg) (q : Env' → Ro Bool) (vs1 : List Nat) (it1 : Env' → Ro (List D)) (t1 : Tg) (q1 : Env' → Ro Bool) (f : Env' → Ro D) : List D → List D → Env' → Ro (List D)
  | [], acc, e => .ok acc e
  | d :: ds, acc, e => match t d e with
    | some e1 => match q e1 with
      | .ok true e2 => match it1 e2 with
        | .ok ds1 e3 => if noOwn e3 vs1 then match lcL vs1 t1 q1 f ds1 acc (wipeE e3 vs1) with
            | .ok acc' e4 => if noOwn e4 vs then lc2L vs t q vs1 it1 t1 q1 f ds acc' (wipeE e4 vs) else .stk
            | _ => .stk
          else .stk
        | _ => .stk
      | .ok false e2 => if noOwn e2 vs then lc2L vs t q vs1 it1 t1 q1 f ds acc (wipeE e2 vs) else .stk
      | _ => .stk
    | none => .stk
def eLc2 (vs : List Nat) (it : Env' → Ro (List D)) (t : Tg) (q : Env' → Ro Bool) (vs1 : List Nat) (it1 : Env' → Ro (List D)) (t1 : Tg) (q1 : Env' → Ro Bool) (f : Env' → Ro D) : Env' → Ro D := fun env => (it env).bind fun ds e => if noOwn e vs then match lc2L vs t q vs1 it1 t1 q1 f ds [] (wipeE e vs) with
    | .ok acc e' => if noOwn e' vs then .ok (.lst acc) (backE e e' vs) else .stk
    | _ => .stk
  else .stk
section
variable {G : Gm} {T : Tb} {F : Addr → Prop} {σ σ1 σ2 : St} {H H1 H2 : Hp} {env e e1 : Env'} {vs vs1 us1 : List Nat} {W : WX} {L : Addr} {acc : List D} {t1 : Tg} {q1 : Env' → Ro Bool} {f : Env' → Ro D}
theorem InB.start2 (fr : ∀ i ∈ vs1, Fr T i) (b : InB G T F L σ1 H1 e1 σ2 H e acc) (h : noOwn e vs1 = true) : InB G T F L σ1 H1 e1 (wipe σ2 vs1) H (wipeE e vs1) acc ∧ Stp σ2 H e (wipe σ2 vs1) H (wipeE e vs1) := by
  obtain ⟨S, s⟩ := b.st.rewipe fr (σ := σ2) rfl h
  exact ⟨b.step s S, s⟩
theorem InB.addL (b : InB G T F L σ1 H1 e1 σ H e acc) (xs : List V) : Le (hid H (Hd (Pl F L) σ e)) (hid (upd H L (.lst xs)) (Hd (Pl F L) σ e)) := Le.hid fun a o h _ k => ⟨k, by
    rw [upd_ne fun z => k (.inr (.inr z))]
    exact h⟩
/-- the inner clause -/
theorem lc_inner (fr : ∀ i ∈ vs1, Fr T i) (hu : ∀ i ∈ us1, i ∈ vs1) {J : It} {ds : List D} {acc' : List D} {e0 e' : Env'} {Hb : Hp} (b0 : InB G T F L σ1 H1 e1 σ2 Hb e0 acc) (i1 : JIs G (hid Hb (Hd (Pl F L) σ2 e0)) J ds) (no : noOwn e0 vs1 = true)
    (er : lcL vs1 t1 q1 f ds acc (wipeE e0 vs1) = .ok acc' e') {Nx : Hp → Prop} (hN : ∀ H, InB G T F L σ1 H1 e1 (wipe σ2 vs1) H e' acc' → Nx H) :
    ∃ W1 : Nat → Nat → Hp → Prop, (∃ m, W1 0 m Hb) ∧ ∀ j k H, W1 j k H →
      (J.stop j H ∧ Nx H) ∨ (J.go j H ∧ ∃ Nx1 : Hp → Prop, (∀ H', Nx1 H' → ∃ k', k' < k ∧ W1 (j + 1) k' H') ∧ ∀ x H', J.yld j H x H' → rdG G T us1 t1 x (wipe σ2 vs1) H' fun σ3 H5 => wipe σ3 vs1 = wipe σ2 vs1 ∧ rd G T isB q1 noW σ3 H5 fun b H6 =>
        if b = true then rd G T (isD G) f noW σ3 H6 fun y H7 => ∃ acc, H7 L = some (.lst acc) ∧ acc.length < sizeLine ∧ Nx1 (upd H7 L (.lst (acc ++ [y]))) else Nx1 H6) := by
  obtain ⟨B1, s1⟩ := b0.start2 fr no
  refine ⟨fun i m H2 => m = ds.length - i ∧ i ≤ ds.length ∧ ∃ e acc, InB G T F L σ1 H1 e1 (wipe σ2 vs1) H2 e acc ∧ Le (hid Hb (Hd (Pl F L) σ2 e0)) (hid H2 (Hd (Pl F L) (wipe σ2 vs1) e)) ∧ lcL vs1 t1 q1 f (ds.drop i) acc e = .ok acc' e',
    ⟨ds.length, rfl, Nat.zero_le _, _, _, B1, s1.le (Pl F L), er⟩, ?_⟩
  rintro i m H2 ⟨rfl, hi', e, acc, B, le, er2⟩
  by_cases hlt : i < ds.length
  · have hd : ds[i]? = some ds[i] := by simp [hlt]
    rw [List.drop_eq_getElem_cons hlt] at er2
    refine .inr ⟨i1.go i _ H2 hlt le Le.unhid, fun H3 => ∃ e acc, InB G T F L σ1 H1 e1 (wipe σ2 vs1) H3 e acc ∧ Le (hid Hb (Hd (Pl F L) σ2 e0)) (hid H3 (Hd (Pl F L) (wipe σ2 vs1) e)) ∧ lcL vs1 t1 q1 f (ds.drop (i + 1)) acc e = .ok acc' e',
      fun H3 ⟨e3, a3, b1, b2, b3⟩ => ⟨ds.length - (i + 1), by omega, rfl, hlt, e3, a3, b1, b2, b3⟩, fun y H3 hy => ?_⟩
    obtain ⟨n, j⟩ := i1.yld i _ _ H2 y H3 hd le Le.unhid hy
    have B3 := B.step n.stp (B.st.new n)
    have le3 := le.trans (n.le B.st)
    have iy := j (hid H3 (Hd (Pl F L) (wipe σ2 vs1) e)) (n.le B.st) fun a o h1 h2 => hid_some.mpr ⟨fun z => B.st.hd_there z h1, h2⟩
    simp only [lcL] at er2
    cases et : t1 ds[i] e with
    | none => rw [et] at er2; cases er2
    | some e3 =>
      rw [et] at er2
      simp only at er2
      refine ⟨Pl F L, e, ds[i], e3, B3.st, iy, et, fun σ3 o3 s3 S3 => ?_⟩
      have hw : wipe σ3 vs1 = wipe σ2 vs1 := (o3.wipe hu).trans wipe_twice
      refine ⟨hw, ?_⟩
      have B4 := B3.step s3 S3
      have le4 := le3.trans (s3.le (Pl F L))
      refine ⟨Pl F L, e3, S3, ?_⟩
      cases eq : q1 e3 with
      | ok b e4 =>
        rw [eq] at er2
        intro b' H4 s4 S4 hb'
        obtain rfl : b = b' := hb'
        have B5 := B4.step s4 S4
        have le5 := le4.trans (s4.le (Pl F L))
        cases b with
        | false =>
          simp only at er2
          split at er2
          · rename_i no2
            obtain ⟨S6, s6⟩ := B5.st.rewipe fr hw no2
            exact ⟨wipeE e4 vs1, acc, B5.step s6 S6, le5.trans (s6.le (Pl F L)), er2⟩
          · cases er2
        | true =>
          simp only at er2
          simp only [if_true]
          refine ⟨Pl F L, e4, S4, ?_⟩
          cases ef : f e4 with
          | ok d e5 =>
            rw [ef] at er2
            simp only at er2
            split at er2
            · rename_i hc
              obtain ⟨hc1, no2⟩ := Bool.and_eq_true_iff.mp hc
              have hc1 := of_decide_eq_true hc1
              intro v H5 s5 S5 iv
              have B6 := B5.step s5 S5
              have le6 := le5.trans (s5.le (Pl F L))
              obtain ⟨avs, a1, a2, B7⟩ := B6.add iv
              have le7 := le6.trans (B6.addL (avs ++ [v]))
              obtain ⟨S8, s8⟩ := B7.st.rewipe fr hw no2
              exact ⟨avs, a1, by rw [a2]; exact hc1, wipeE e5 vs1, acc ++ [d], B7.step s8 S8, le7.trans (s8.le (Pl F L)), er2⟩
            · cases er2
          | exc c p e5 => rw [ef] at er2; cases er2
          | stk => rw [ef] at er2; cases er2
      | exc c p e4 => rw [eq] at er2; cases er2
      | stk => rw [eq] at er2; cases er2
  · have e0 : i = ds.length := by omega
    subst e0
    rw [List.drop_length] at er2
    simp only [lcL] at er2
    cases er2
    exact .inl ⟨i1.stop _ H2 le Le.unhid, hN H2 B⟩
end
section
variable {X : Cx} {T : Tb} {W : WX} {k : Nat} {tg iter tg1 iter1 elt : Expr} {ifs ifs1 : List Expr} {scope : Scope} {own : List (Str × Nat)} {it it1 : Env' → Ro (List D)} {t t1 : Tg} {q q1 : Env' → Ro Bool} {f : Env' → Ro D} {us us1 vs1 : List Nat} {pos : Pos}
theorem lc2_law {G : Gm} {vs : List Nat} {σ : St} {H : Hp} {Q : VK} (fr : ∀ i ∈ vs, Fr T i) (hu : ∀ i ∈ us, i ∈ vs) (hv : ∀ i ∈ vs1, i ∈ vs) (hu1 : ∀ i ∈ us1, i ∈ vs1) (h : rdF G T (eLc2 vs it t q vs1 it1 t1 q1 f) W σ H Q) :
    tLc2 (rd G T (fun Hs ds J => JIs G Hs J ds) it W) (rdG G T us t) (rd G T isB q noW) (rd G T (fun Hs ds J => JIs G Hs J ds) it1 noW) (rdG G T us1 t1) (rd G T isB q1 noW) (rd G T (isD G) f noW) vs vs1 σ H Q := by
  refine rdF_bind h fun F env ds J H1 S1 i1 h1 L nL => ?_
  have i1 : JIs G (hid H1 (Hd F σ env)) J ds := i1
  split at h1
  · rename_i no
    split at h1
    · rename_i acc' e' er
      split at h1
      · rename_i no'
        refine ⟨fun i m H2 => m = ds.length - i ∧ i ≤ ds.length ∧ ∃ e acc, InB G T F L (wipe σ vs) H1 (wipeE env vs) (wipe σ vs) H2 e acc ∧ lc2L vs t q vs1 it1 t1 q1 f (ds.drop i) acc e = .ok acc' e',
          ⟨ds.length, rfl, Nat.zero_le _, _, [], InB.start fr S1 no nL, er⟩, ?_⟩
        rintro i m H2 ⟨rfl, hi', e, acc, B, er2⟩
        have le : Le (hid H1 (Hd F σ env)) (hid H2 (Hd (Pl F L) (wipe σ vs) e)) := by
          have z : hid H1 (Hd F σ env) = hid H1 (Hd F (wipe σ vs) (wipeE env vs)) := hid_eq (hd_iff fun a => (ow_wipe no).symm)
          rw [z]
          refine Le.hid fun b o e3 n k => ⟨fun y => ?_, B.sp.keep b o e3 n fun y => k (.inl y)⟩
          rcases y with y | y | y
          · exact B.sp.own b (by rw [e3]; simp) (fun y' => k (.inl y')) y
          · exact k (.inr y)
          · rw [y, nL] at e3; cases e3
        by_cases hlt : i < ds.length
        · have hd : ds[i]? = some ds[i] := by simp [hlt]
          rw [List.drop_eq_getElem_cons hlt] at er2
          refine .inr ⟨i1.go i _ H2 hlt le Le.unhid, fun H3 => ∃ e acc, InB G T F L (wipe σ vs) H1 (wipeE env vs) (wipe σ vs) H3 e acc ∧ lc2L vs t q vs1 it1 t1 q1 f (ds.drop (i + 1)) acc e = .ok acc' e',
            fun H3 ⟨e3, a3, b1, b2⟩ => ⟨ds.length - (i + 1), by omega, rfl, hlt, e3, a3, b1, b2⟩, fun y H3 hy => ?_⟩
          obtain ⟨n, j⟩ := i1.yld i _ _ H2 y H3 hd le Le.unhid hy
          have B3 := B.step n.stp (B.st.new n)
          have iy := j (hid H3 (Hd (Pl F L) (wipe σ vs) e)) (n.le B.st) fun a o h1 h2 => hid_some.mpr ⟨fun z => B.st.hd_there z h1, h2⟩
          simp only [lc2L] at er2
          cases et : t ds[i] e with
          | none => rw [et] at er2; cases er2
          | some e1 =>
            rw [et] at er2
            simp only at er2
            refine ⟨Pl F L, e, ds[i], e1, B3.st, iy, et, fun σ3 o3 s3 S3 => ?_⟩
            have hw : wipe σ3 vs = wipe σ vs := (o3.wipe hu).trans wipe_twice
            refine ⟨hw, ?_⟩
            have B4 := B3.step s3 S3
            refine ⟨Pl F L, e1, S3, ?_⟩
            cases eq : q e1 with
            | ok b e2 =>
              rw [eq] at er2
              intro b' H4 s4 S4 hb'
              obtain rfl : b = b' := hb'
              have B5 := B4.step s4 S4
              cases b with
              | false =>
                simp only at er2
                split at er2
                · rename_i no2
                  exact ⟨wipeE e2 vs, acc, InB.turn fr B5 hw no2, er2⟩
                · cases er2
              | true =>
                simp only at er2
                simp only [if_true]
                refine ⟨Pl F L, e2, S4, ?_⟩
                cases ei : it1 e2 with
                | ok ds1 e3 =>
                  rw [ei] at er2
                  simp only at er2
                  split at er2
                  · rename_i no1
                    split at er2
                    · rename_i acc1 e4 er3
                      split at er2
                      · rename_i no4
                        intro J1 H5 s5 S5 j1
                        refine lc_inner (fun i hi => fr i (hv i hi)) hu1 (B5.step s5 S5) j1 no1 er3 fun H6 B6 => ⟨wipeE e4 vs, acc1, InB.turn fr B6 ?_ no4, er2⟩
                        have ow : Only vs1 σ3 (wipe σ3 vs1) := ⟨wipe_length σ3 vs1, fun _ h => wipe_out h⟩
                        exact (ow.wipe hv).trans hw
                      · cases er2
                    · cases er2
                  · cases er2
                | exc c p e3 => rw [ei] at er2; cases er2
                | stk => rw [ei] at er2; cases er2
            | exc c p e2 => rw [eq] at er2; cases er2
            | stk => rw [eq] at er2; cases er2
        · have e0 : i = ds.length := by omega
          subst e0
          rw [List.drop_length] at er2
          simp only [lc2L] at er2
          cases er2
          obtain ⟨s, S, o⟩ := B.back S1 no no'
          exact .inl ⟨i1.stop _ H2 le Le.unhid, h1 L H2 s S o nL⟩
      · exact h1.elim
    · exact h1.elim
  · exact h1.elim
theorem sf_lc2 (C : Ctx X k) (fr : ∀ i ∈ own.map (·.2), Fr T i) (hi : SI X T W tg iter it) (ok : blkC X.N X.env.scope scope own = true) (hu : ∀ i ∈ us, i ∈ own.map (·.2)) (hv : ∀ i ∈ vs1, i ∈ own.map (·.2)) (hu1 : ∀ i ∈ us1, i ∈ vs1)
    (hg : ∀ s H C cl fp, SG (BlkCx X scope s H C cl fp) T us tg t) (ht : ∀ s H C cl fp, STs (BlkCx X scope s H C cl fp) T noW ifs q)
    (hi1 : ∀ s H C cl fp, SI (BlkCx X scope s H C cl fp) T noW tg1 iter1 it1) (hg1 : ∀ s H C cl fp, SG (BlkCx X scope s H C cl fp) T us1 tg1 t1) (ht1 : ∀ s H C cl fp, STs (BlkCx X scope s H C cl fp) T noW ifs1 q1) (he : ∀ s H C cl fp, SE (BlkCx X scope s H C cl fp) T noW elt f)
    (hs : ∀ x, foldedSetIterable iter X.env x = pure x := by intro _; rfl) (hs1 : ∀ env x, foldedSetIterable iter1 env x = pure x := by intro _ _; rfl) : SF X T W (.ListComp elt [⟨tg, iter, ifs, 0⟩, ⟨tg1, iter1, ifs1, 0⟩] scope pos) (eLc2 (own.map (·.2)) it t q vs1 it1 t1 q1 f) :=
  PE.weak (pe_lc2 (g := rdG (gm X) T us t) (tt := rd (gm X) T isB q noW) (wi1 := rd (gm X) T (fun Hs ds J => JIs (gm X) Hs J ds) it1 noW) (g1 := rdG (gm X) T us1 t1) (tt1 := rd (gm X) T isB q1 noW) (te := rd (gm X) T (isD (gm X)) f noW) C.calm C.nd hi (blkOk_by ok) hv hg ht hi1 hg1 ht1 he hs hs1) fun σ H Q h => lc2_law fr hu hv hu1 h
theorem ss_setLc2 {i : Nat} (fi : Fr T i) {y : Str} {py spos : Pos} (C : Ctx X k) (fr : ∀ i ∈ own.map (·.2), Fr T i) (hi : SI X T W tg iter it) (ok : blkC X.N X.env.scope scope own = true) (hu : ∀ i ∈ us, i ∈ own.map (·.2)) (hv : ∀ i ∈ vs1, i ∈ own.map (·.2)) (hu1 : ∀ i ∈ us1, i ∈ vs1)
    (hg : ∀ s H C cl fp, SG (BlkCx X scope s H C cl fp) T us tg t) (ht : ∀ s H C cl fp, STs (BlkCx X scope s H C cl fp) T noW ifs q)
    (hi1 : ∀ s H C cl fp, SI (BlkCx X scope s H C cl fp) T noW tg1 iter1 it1) (hg1 : ∀ s H C cl fp, SG (BlkCx X scope s H C cl fp) T us1 tg1 t1) (ht1 : ∀ s H C cl fp, STs (BlkCx X scope s H C cl fp) T noW ifs1 q1) (he : ∀ s H C cl fp, SE (BlkCx X scope s H C cl fp) T noW elt f)
    (hy : X.N[i]? = some y) (hyl : X.env.scope.names.lookup y = some .local) (hsw : swapsWith (.ListComp elt [⟨tg, iter, ifs, 0⟩, ⟨tg1, iter1, ifs1, 0⟩] scope pos) (some (.Name y py)) spos.line X.env = pure true)
    (hs : ∀ x, foldedSetIterable iter X.env x = pure x := by intro _; rfl) (hs1 : ∀ env x, foldedSetIterable iter1 env x = pure x := by intro _ _; rfl) : SS X T W (.Assign [.Name y py] (.ListComp elt [⟨tg, iter, ifs, 0⟩, ⟨tg1, iter1, ifs1, 0⟩] scope pos) spos) (sSetO i (eLc2 (own.map (·.2)) it t q vs1 it1 t1 q1 f)) :=
  PS.weak (ps_setLc2 (g := rdG (gm X) T us t) (tt := rd (gm X) T isB q noW) (wi1 := rd (gm X) T (fun Hs ds J => JIs (gm X) Hs J ds) it1 noW) (g1 := rdG (gm X) T us1 t1) (tt1 := rd (gm X) T isB q1 noW) (te := rd (gm X) T (isD (gm X)) f noW) C.calm C.nd hy hyl hsw hi (blkOk_by ok) hv hg ht hi1 hg1 ht1 he hs hs1) fun De σ H h => lc2_law fr hu hv hu1 (setO_law fi h)
end
end Rf

/-! ## x[::-1] of lists and tuples -/
namespace Rf
section
open PySem PySem.Spec PyProof.Rows
section
variable {prog : Program} {w : World} {A : Around} {E : Value → Shared → Prop} {s : Shared}
theorem sliceApplied_rev {sl : Addr} {vs : Value} {n : Nat} {Q : Int × Int × Nat → Shared → Prop} (hs : s.heap.IsSliceOf sl .none .none vs) (ps : IsPart vs (some (-1)))
    (h : Q ((n : Int) - 1, -1, n) s) : wpAny (model prog w) A (Builtin.Slice.sliceApplied (.ref sl) (pure (n : Int))) Q E s := by
  obtain ⟨os, hos, hcs, hds⟩ := id hs
  unfold Builtin.Slice.sliceApplied Builtin.Slice.sliceFields
  refine wpAny_bind (wpAny_bind (wpAny_field hos hds (x := .none) rfl (wpAny_bind (wpAny_field hos hds (x := .none) rfl (wpAny_bind (wpAny_field hos hds (x := vs) rfl (wpAny_pure ?_)))))))
  refine wpAny_bind (HT.slicePart_ ps ?_)
  show wpAny _ _ (if ((-1 : Int) == 0) = true then _ else _) _ _ s
  rw [if_neg (by decide)]
  refine wpAny_bind (slicePart_none (wpAny_bind (slicePart_none (wpAny_bind (wpAny_pure ?_)))))
  show wpAny _ _ (pure ((n : Int) - 1, (-1 : Int), Builtin.Slice.slicePlaces ((n : Int) - 1) (-1) (-1))) _ _ s
  have e : Builtin.Slice.slicePlaces ((n : Int) - 1) (-1) (-1) = n := by
    unfold Builtin.Slice.slicePlaces
    have h1 : ¬ ((-1 : Int) > 0) := by omega
    simp only [h1, if_false]
    split
    · have : ((n : Int) - 1 - -1 - 1) / - -1 = (n : Int) - 1 := by
        rw [show - -1 = (1 : Int) by omega, Int.ediv_one]
        omega
      rw [this]
      omega
    · omega
  rw [e]
  exact wpAny_pure h
theorem fm_some {α β : Type} {f : α → Option β} {g : α → β} : ∀ {l : List α}, (∀ k ∈ l, f k = some (g k)) → l.filterMap f = l.map g
  | [], _ => rfl
  | a :: l, h => by
    rw [List.filterMap_cons_some (h a (by simp)), List.map_cons, fm_some fun k hk => h k (by simp [hk])]
theorem pick_rev (xs : Array Value) : ((List.range xs.size).filterMap fun (k : Nat) => xs[(((xs.size : Int) - 1) + (k : Int) * (-1)).toNat]?).toArray = xs.toList.reverse.toArray := by
  congr 1
  apply List.ext_getElem?
  intro i
  have hf : ∀ k ∈ List.range xs.size, xs[(((xs.size : Int) - 1) + (k : Int) * (-1)).toNat]? = some (xs.toList.getD (xs.size - 1 - k) default) := fun k hk => by
    have hk := List.mem_range.mp hk
    have : (((xs.size : Int) - 1) + (k : Int) * (-1)).toNat = xs.size - 1 - k := by omega
    rw [this, ← Array.getElem?_toList, List.getD_eq_getElem?_getD, List.getElem?_eq_getElem (by rw [Array.length_toList]; omega)]
    rfl
  rw [fm_some hf]
  rw [List.getElem?_map]
  by_cases hi : i < xs.size
  · rw [List.getElem?_range hi, List.getElem?_reverse (by rw [Array.length_toList]; exact hi), Option.map_some, Array.length_toList, List.getD_eq_getElem?_getD, List.getElem?_eq_getElem (by rw [Array.length_toList]; omega)]
    rfl
  · rw [List.getElem?_eq_none (by simp; omega), List.getElem?_eq_none (by simp; omega)]
    rfl
theorem getItem_tuple_rev {t sl : Addr} {items : Array Value} {vs : Value} {Q : Value → Shared → Prop} (ht : IsTup s.heap t items) (hs : s.heap.IsSliceOf sl .none .none vs) (ps : IsPart vs (some (-1)))
    (h : Q (.ref s.heap.objs.size) { s with heap := s.heap.push { cls := .type "tuple", data := .seq items.toList.reverse.toArray } })
    (hsz : items.size ≤ sizeLine) : wpAny (model prog w) A (getItem (.ref t) (.ref sl)) Q E s := by
  have htake : sizeOk (.seq items.toList.reverse.toArray) := by
    show items.toList.reverse.toArray.size ≤ sizeLine
    rw [List.size_toArray, List.length_reverse, Array.length_toList]
    exact hsz
  obtain ⟨os, hos, hcs, hds⟩ := id hs
  have hTs : s.TypeIs (.ref sl) "slice" := ⟨os, hos, hcs⟩
  unfold getItem
  try with_reducible refine wpAny_holding ?_
  first | refine wpAny_bind (wpAny_pure ?_) | skip
  refine wpAny_bind (wpAny_sequenceKey ht.typeIs (by decide) ?_)
  refine wpAny_bind (wpAny_callSpecial?_slot (name := Str.ofString "__getitem__") ht.typeIs PyProof.Rows.slot_tuple_getitem
    (wpAny_call_entry PyProof.Rows.slot_tuple_getitem ht.typeIs entry_tuple_getitem ?_ (args_tuple_getitem _ _)))
  show wpAny _ _ (Builtin.Tuple.tupleItemsOf (.ref t) >>= _) _ _ s
  refine wpAny_bind (tupleItemsOf_ ht ?_)
  refine wpAny_bind (wpAny_typeOf hTs ?_)
  rw [if_pos (by decide)]
  refine wpAny_bind (sliceApplied_rev hs ps ?_)
  have hno : ¬ ((((items.size : Int) - 1) == 0 && (-1 : Int) == 1 && items.size == items.size) = true) := by simp
  show wpAny _ _ (if (((items.size : Int) - 1) == 0 && (-1 : Int) == 1 && items.size == items.size) = true then _ else _) _ _ s
  rw [if_neg hno, pick_rev]
  first
    | exact wpAny_bind (m := Builtin.Tuple.tupleExact _) (wpAny_newObj_type (wpAny_pure ⟨_, rfl, wpAny_pure h⟩) htake)
    | exact wpAny_bind (m := Builtin.Tuple.tupleExact _) (wpAny_newObj_type (wpAny_bind (wpAny_pure (wpAny_pure ⟨_, rfl, wpAny_pure h⟩))) htake)
    | exact wpAny_bind (wpAny_bind (m := Builtin.Tuple.tupleExact _) (wpAny_newObj_type (wpAny_pure (wpAny_pure ⟨_, rfl, wpAny_pure h⟩)) htake))
    | exact wpAny_bind (wpAny_bind (m := Builtin.Tuple.tupleExact _) (wpAny_newObj_type (wpAny_pure ⟨_, rfl, wpAny_pure h⟩) htake))
end
end
section
open PySem PySem.Spec PyProof.Rows L2
def tRevB (K : PySem.W.Frag) (te : TE) : TE := fun σ H Q => te σ H fun x H1 => (∃ a xs, x = .ref a ∧ SqL K H1 a xs ∧ ∀ p, H1 p = none → Q (.ref p) (upd H1 p (.lst xs.reverse))) ∨ ∃ a xs, x = .ref a ∧ SqT K H1 a xs ∧ ∀ p, H1 p = none → Q (.ref p) (upd H1 p (.tup xs.reverse))
theorem pe_revB {X : Cx} {e : Expr} {te : TE} {k : Nat} {p1 p2 p3 pos : Pos} (he : PE X e te) : PE X (.Subscript e (.Slice none none (some (.UnaryOp .USub (.Constant (.int 1) k p1) p2)) p3) pos) (tRevB X.K te) := by
  refine ⟨fun pins s σ H Q I h => ?_⟩
  refine Subscript_ (thn (he.run pins s σ H _ I h) fun v s1 ⟨x, H1, I1, r1, q1⟩ => ?_)
  have hst : PO X (some (.UnaryOp .USub (.Constant (.int 1) k p1) p2)) (tPart (tUn (rU fun i => .int (-i)) (tC (.int 1)))) := po_some (pe_un un_neg pe_int)
  refine wpAny_Slice (thn (po_none.run pins s1 σ H1 (fun o H2 => o = none ∧ H2 = H1) I1 ⟨rfl, rfl⟩) fun vl s2 ⟨l, H2, I2, pl, el, e2⟩ => ?_)
  subst el e2
  refine thn (po_none.run pins s2 σ H2 (fun o H3 => o = none ∧ H3 = H2) I2 ⟨rfl, rfl⟩) fun vu s3 ⟨u, H3, I3, pu, eu, e3⟩ => ?_
  subst eu e3
  refine thn (hst.run pins s3 σ H3 (fun o H4 => o = some (-1) ∧ H4 = H3) I3 ⟨1, rfl, -1, rfl, rfl, rfl⟩) fun vs s4 ⟨o, H4, I4, ps, eo, e4⟩ => ?_
  subst eo e4
  have I5 : Inv X pins σ H4 { s4 with heap := s4.heap.push { cls := .type "slice", data := .fields #[vl, vu, vs] } } := I4.kept (t' := s4.toks) fun b ob q => Heap.get?_push_of_some _ q
  rcases q1 with ⟨a, xs, rfl, hx, q⟩ | ⟨a, xs, rfl, hx, q⟩
  · cases r1
    obtain ⟨its, r, ht, hz⟩ := I5.list hx
    have hlen := r.length
    show wpAny (model X.prog X.w) X.A (subscriptTail e (.Slice none none (some (.UnaryOp .USub (.Constant (.int 1) k p1) p2)) p3) (.ref a) (.ref s4.heap.objs.size)) (EP X pins σ Q) X.xe { s4 with heap := s4.heap.push { cls := .type "slice", data := .fields #[vl, vu, vs] } }
    refine tail_any (ops := [.ref a, .ref s4.heap.objs.size]) ht.isList.typeIs (PySem.slot_list_getitem.lookup) ?_ (by with_unfolding_all rfl)
    refine wpAny_getItem_list_slice ht.isList (Heap.IsSliceOf.new _ vl vu vs) pl pu ps (by decide) ?_ (by rw [List.size_toArray]; omega)
    rw [PySem.W.krv_pick]
    refine ⟨.ref _, _, I5.laid (t' := s4.toks) (o := .lst xs.reverse) (fun b ob q => Heap.get?_push_of_some _ q) (Nat.le_refl _) ?_, rfl, q _ (I5.hok.fresh (Nat.le_refl _))⟩
    exact ⟨by rw [List.length_reverse]; exact hz, _, 0, r.reverse, Heap.get?_push_size _ rfl⟩
  · cases r1
    cases pl
    cases pu
    obtain ⟨its, r, ht, hz⟩ := I5.tuple hx
    have hlen := r.length
    show wpAny (model X.prog X.w) X.A (subscriptTail e (.Slice none none (some (.UnaryOp .USub (.Constant (.int 1) k p1) p2)) p3) (.ref a) (.ref s4.heap.objs.size)) (EP X pins σ Q) X.xe { s4 with heap := s4.heap.push { cls := .type "slice", data := .fields #[.none, .none, vs] } }
    refine tail_any (ops := [.ref a, .ref s4.heap.objs.size]) ht.typeIs (PyProof.Rows.slot_tuple_getitem.lookup) ?_ (by with_unfolding_all rfl)
    refine getItem_tuple_rev ht (Heap.IsSliceOf.new _ .none .none vs) ps ?_ (by rw [List.size_toArray]; omega)
    refine ⟨.ref _, _, I5.laid (t' := s4.toks) (o := .tup xs.reverse) (fun b ob q => Heap.get?_push_of_some _ q) (Nat.le_refl _) ?_, rfl, q _ (I5.hok.fresh (Nat.le_refl _))⟩
    exact ⟨by rw [List.length_reverse]; exact hz, _, r.reverse, IsTup.new _ _⟩
end
section
open PySem L2 LamX
variable {X : Cx} {T : Tb} {W : WX} {k : Nat} {e : Expr} {f : Env' → Ro D} {pos : Pos}
def dRev : D → Option D
  | .lst xs => some (.lst xs.reverse)
  | .tup xs => some (.tup xs.reverse)
  | _ => none
def eRev (f : Env' → Ro D) : Env' → Ro D := fun env => (f env).bind fun d e => lift (dRev d) e
theorem IsL.reverse {G : Gm} {H : Hp} : ∀ {ds : List D} {vs : List V}, IsL G H ds vs → IsL G H ds.reverse vs.reverse
  | [], vs, h => by
    obtain rfl : vs = [] := h
    exact rfl
  | d :: ds, vs, h => by
    obtain ⟨v, r, rfl, e2, e3⟩ := h
    rw [List.reverse_cons, List.reverse_cons]
    exact IsL.append (IsL.reverse e3) (IsL.one e2)
theorem se_rev {k : Nat} {p1 p2 p3 : Pos} (h : SE X T W e f) : SE X T W (.Subscript e (.Slice none none (some (.UnaryOp .USub (.Constant (.int 1) k p1) p2)) p3) pos) (eRev f) :=
  PE.weak (pe_revB h) fun σ H Q h => rd_bind h fun F env d v H1 S1 i1 h1 => by
    cases d with
    | lst xs =>
      obtain ⟨a, vs, rfl, s, m⟩ := i1
      exact .inl ⟨a, vs, rfl, Le.unhid.lq s, fun p hp => fin_new (d := .lst xs.reverse) S1 (New.upd hp) (fun Hs' l' n' => ⟨p, vs.reverse, rfl, n' p _ hp upd_same, IsL.reverse (IsL.mono l' _ _ m)⟩) h1⟩
    | tup xs =>
      obtain ⟨a, vs, rfl, s, m⟩ := i1
      exact .inr ⟨a, vs, rfl, Le.unhid.tq s, fun p hp => fin_new (d := .tup xs.reverse) S1 (New.upd hp) (fun Hs' l' n' => ⟨p, vs.reverse, rfl, n' p _ hp upd_same, IsL.reverse (IsL.mono l' _ _ m)⟩) h1⟩
    | _ => exact h1.elim
/-! len(set(a list of ints)) -/
def dedupI (ns : List Int) : List Int := ns.foldl PyProof.Rows.step_dedup []
theorem dedup_first (ns : List Int) : PyProof.Rows.firstMet (fun i => ns.getD i 0) ns.length = dedupI ns := by
  unfold PyProof.Rows.firstMet dedupI
  congr 1
  apply List.ext_getElem?
  intro i
  rw [List.getElem?_map]
  by_cases h : i < ns.length
  · rw [List.getElem?_range h, Option.map_some, List.getD_eq_getElem?_getD, List.getElem?_eq_getElem h]
    rfl
  · rw [List.getElem?_eq_none (by simp; omega), List.getElem?_eq_none (by omega)]
    rfl
end
section
open PySem PySem.Spec PyProof.Rows L2
def tLenSetG (K : PySem.W.Frag) (ta : TE) : TE := fun σ H Q => ta σ H fun x H1 => ∃ (l : Addr) (ns : List Int), x = .ref l ∧ SqL K H1 l (ns.map V.int) ∧ ns.length ≤ 4000 ∧ Q (.int ((dedupI ns).length : Nat)) H1
theorem pe_lenSetG {X : Cx} {a : Expr} {ta : TE} {p p2 q pos : Pos} (hc : X.calm = true) (hg : Gl X "len") (hm : X.mg "len" = none) (hg2 : Gl X "set") (hm2 : X.mg "set" = none) (ha : PE X a ta)
    (na : starEach [a] X.env = (false, eval a X.env) :: starEach [] X.env := by rfl) : PE X (.Call (.Name "len" p) [.Call (.Name "set" p2) [a] [] q] [] pos) (tLenSetG X.K ta) := by
  refine ⟨fun pins s σ H Q I h => ?_⟩
  refine Call_ (ld_blt I hg hm boot_len ?_)
  refine PyProof.Rows.callWith_builtin1 (PyProof.Rows.args_cons ?_ rfl) rfl rfl
  refine Call_ (ld_blt I hg2 hm2 boot_set ?_)
  refine PyProof.Rows.callWith_type1 (PyProof.Rows.args_cons (thn (ha.run pins s σ H _ I h) fun v s1 ⟨x, H1, I1, r1, q1⟩ => PyProof.Rows.args_nil ?_) na) na rfl
  obtain ⟨l, ns, rfl, hq, hl, q1⟩ := q1
  cases r1
  obtain ⟨its, r, pl, hz⟩ := I1.list hq
  have hlen : its.toArray.size = ns.length := by rw [List.size_toArray, ← r.length, List.length_map]
  refine call_set_list (I1.ok.hd hc) pl.isList (by simpa using RZ.intsAre_vals r) (by rw [hlen]; unfold scanBound; omega) fun h' tk hS hk => ?_
  refine PyProof.Rows.args_nil ?_
  rw [hlen, dedup_first] at hS
  obtain ⟨o, es, ep, t, ho, hex, hd, _, _, _, hf, hn⟩ := hS
  have hle : (dedupI ns).length ≤ ns.length := by
    rw [← dedup_first]
    exact PyProof.Rows.firstMet_length_le _ _
  have I2 : Inv X pins σ H1 { s1 with heap := h', toks := tk } := I1.kept fun b o e => hk b o (Heap.lt_size e) e
  exact call_len_set ho hex hd hf (by rw [hn] <;> omega) ⟨.int (dedupI ns).length, H1, I2.tok _, ⟨_, by rw [hn]⟩, q1⟩
end
end Rf

namespace Rf
open PySem L2 LamX
theorem frl_nil {T : Tb} : ∀ i ∈ ([] : List Nat), Fr T i := fun i h => by cases h
theorem frl_cons {T : Tb} {i : Nat} {is : List Nat} (h : Fr T i) (h2 : ∀ i ∈ is, Fr T i) : ∀ j ∈ i :: is, Fr T j := fun j hj => by
  rcases List.mem_cons.mp hj with e | e
  · rw [e]; exact h
  · exact h2 j e
section
variable {X : Cx} {T : Tb} {W : WX} {k : Nat} {a : Expr} {f : Env' → Ro D} {pos : Pos}
/-! ## len(set(..)) of ints -/
def oLenSet : D → Option D
  | .lst xs => match ints? xs with
    | some ns => if ns.length ≤ 4000 then some (.int ((dedupI ns).length : Nat)) else none
    | none => none
  | _ => none
def eLenSet (f : Env' → Ro D) : Env' → Ro D := fun env => (f env).bind fun d e => lift (oLenSet d) e
theorem ints_some : ∀ {ds : List D} {ns : List Int}, ints? ds = some ns → ds = ns.map D.int
  | [], ns, h => by
    cases h
    rfl
  | d :: ds, ns, h => by
    cases d with
    | int i =>
      simp only [ints?, Option.map_eq_some_iff] at h
      obtain ⟨r, h1, rfl⟩ := h
      rw [ints_some h1]
      rfl
    | _ => cases h
theorem se_lenSet {p p2 q : Pos} (C : Ctx X k) (hg : Gl X "len") (hm : X.mg "len" = none) (hg2 : Gl X "set") (hm2 : X.mg "set" = none) (h : SE X T W a f)
    (na : starEach [a] X.env = (false, eval a X.env) :: starEach [] X.env := by rfl) : SE X T W (.Call (.Name "len" p) [.Call (.Name "set" p2) [a] [] q] [] pos) (eLenSet f) :=
  PE.weak (pe_lenSetG C.calm hg hm hg2 hm2 h na) fun σ H Q h => rd_bind h fun F env d v H1 S1 i1 h1 => by
    cases d with
    | lst xs =>
      obtain ⟨l, vs, rfl, s, m⟩ := i1
      unfold oLenSet at h1
      cases e : ints? xs with
      | none => simp only [e] at h1; exact h1.elim
      | some ns =>
        simp only [e] at h1
        split at h1
        · rename_i hz
          have ex := ints_some e
          subst ex
          have ev := IsL.ints m
          subst ev
          exact ⟨l, ns, rfl, Le.unhid.lq s, hz, h1 _ H1 .refl S1 rfl⟩
        · exact h1.elim
    | _ => exact h1.elim
end
/-! ## {k: v, ..} -/
def dispE : List ((Env' → Ro D) × (Env' → Ro D)) → Env' → Ro (List (Key × D))
  | [], e => .ok [] e
  | (fk, fv) :: r, e => (fk e).bind fun kd e => (fv e).bind fun v e => (dispE r e).bind fun kvs e => match keyOf kd with
    | some kk => .ok ((kk, v) :: kvs) e
    | none => .stk
def mergeD (kvs : List (Key × D)) : List Key × List D := kvs.foldl (fun a kv => putD a.1 a.2 kv.1 kv.2) ([], [])
def eDisp (r : List ((Env' → Ro D) × (Env' → Ro D))) : Env' → Ro D := fun env => (dispE r env).bind fun kvs e => .ok (.dK (mergeD kvs).1 (mergeD kvs).2) e
def PIs (G : Gm) (Hs : Hp) (kvs : List (Key × D)) (ps : List (V × V)) : Prop := ps.map (·.1) = kvs.map (fun kv => kV kv.1) ∧ IsL G Hs (kvs.map (·.2)) (ps.map (·.2))
def RstP (G : Gm) (T : Tb) (F : Addr → Prop) (σ : St) (H : Hp) (env : Env') (W : WX) (Q : List (V × V) → Hp → Prop) : Ro (List (Key × D)) → Prop
  | .ok kvs env' => ∀ ps H', Stp σ H env σ H' env' → Sta G T F σ H' env' → PIs G (hid H' (Hd F σ env')) kvs ps → Q ps H'
  | .exc c p env' => ∀ cls dd H', Stp σ H env σ H' env' → Sta G T F σ H' env' → ExcIs G (hid H' (Hd F σ env')) H' c p cls dd → W cls dd σ H'
  | .stk => False
theorem pairs_of {G : Gm} {T : Tb} {F : Addr → Prop} {σ : St} {W : WX} : ∀ (r : List ((Env' → Ro D) × (Env' → Ro D))) {H : Hp} {env : Env'} {Q : List (V × V) → Hp → Prop}, Sta G T F σ H env → RstP G T F σ H env W Q (dispE r env) →
    tPairs (r.map fun p => (rd G T (isD G) p.1 W, rd G T (isD G) p.2 W)) σ H Q
  | [], H, env, Q, S, h => h [] H .refl S ⟨rfl, rfl⟩
  | (fk, fv) :: r, H, env, Q, S, h => by
    refine ⟨F, env, S, ?_⟩
    unfold dispE at h
    show Rst G T (isD G) F σ H env W _ (fk env)
    cases e1 : fk env with
    | exc c q en => rw [e1] at h; exact h
    | stk => rw [e1] at h; exact h
    | ok kd en1 =>
      rw [e1] at h
      simp only [Ro.bind] at h
      intro x H1 s1 S1 i1
      refine ⟨F, en1, S1, ?_⟩
      show Rst G T (isD G) F σ H1 en1 W _ (fv en1)
      cases e2 : fv en1 with
      | exc c q en => rw [e2] at h; exact fun cls dd H' s st z => h cls dd H' (s1.trans s) st z
      | stk => rw [e2] at h; exact h
      | ok v en2 =>
        rw [e2] at h
        simp only at h
        intro y H2 s2 S2 i2
        refine pairs_of r S2 ?_
        cases e3 : dispE r en2 with
        | exc c q en => rw [e3] at h; exact fun cls dd H' s st z => h cls dd H' (s1.trans (s2.trans s)) st z
        | stk => rw [e3] at h; exact h
        | ok kvs en3 =>
          rw [e3] at h
          simp only at h
          intro ps H3 s3 S3 ⟨p1, p2⟩
          split at h
          · rename_i kk hk
            refine h ((x, y) :: ps) H3 (s1.trans (s2.trans s3)) S3 ⟨?_, y, ps.map (·.2), rfl, Is.mono (s3.le F) _ _ i2, p2⟩
            rw [List.map_cons, List.map_cons, p1, keyOf_is hk (Is.mono ((s2.trans s3).le F) _ _ i1)]
          · exact h.elim
theorem merge_val {G : Gm} {Hs : Hp} : ∀ (kvs : List (Key × D)) (ps : List (V × V)), PIs G Hs kvs ps → ∃ ws : List (Key × V), ps = ws.map (fun kv => (kV kv.1, kv.2)) ∧ ws.length = kvs.length ∧ ∀ (ks : List Key) (ds : List D) (vs : List V), ks.length = vs.length → IsL G Hs ds vs →
    ∃ vs', mergeK (ks.zip vs) ws = (kvs.foldl (fun a kv => putD a.1 a.2 kv.1 kv.2) (ks, ds)).1.zip vs' ∧ (kvs.foldl (fun a kv => putD a.1 a.2 kv.1 kv.2) (ks, ds)).1.length = vs'.length ∧ IsL G Hs (kvs.foldl (fun a kv => putD a.1 a.2 kv.1 kv.2) (ks, ds)).2 vs'
  | [], ps, ⟨h1, h2⟩ => by
    have : ps = [] := by simpa using h1
    subst this
    exact ⟨[], rfl, rfl, fun ks ds vs e m => ⟨vs, rfl, e, m⟩⟩
  | (k, d) :: kvs, ps, ⟨h1, h2⟩ => by
    cases ps with
    | nil => cases h1
    | cons p ps =>
      obtain ⟨x, y⟩ := p
      obtain ⟨e1, e2⟩ := List.cons.inj h1
      obtain ⟨v, r, e3, i, m⟩ := h2
      obtain ⟨rfl, rfl⟩ := List.cons.inj e3
      obtain ⟨ws, w1, w2, w3⟩ := merge_val kvs ps ⟨e2, m⟩
      refine ⟨(k, y) :: ws, by rw [List.map_cons, ← w1]; exact congrArg (· :: ps) (Prod.ext e1 rfl), by rw [List.length_cons, List.length_cons, w2], fun ks ds vs e q => ?_⟩
      obtain ⟨vs', b1, b2, b3⟩ := putD_val (k := k) e q i
      obtain ⟨vs2, c1, c2, c3⟩ := w3 (putD ks ds k d).1 (putD ks ds k d).2 vs' b2 b3
      refine ⟨vs2, ?_, c2, c3⟩
      unfold mergeK at c1 ⊢
      rw [List.foldl_cons, b1, c1]
      rfl
section
variable {X : Cx} {T : Tb} {W : WX} {pos : Pos} {keys : List (Option Expr)} {values : List Expr} {r : List ((Env' → Ro D) × (Env' → Ro D))}
def SPs (X : Cx) (T : Tb) (W : WX) (pos : Pos) (keys : List (Option Expr)) (values : List Expr) (r : List ((Env' → Ro D) × (Env' → Ro D))) : Prop := PPs X pos keys values (r.map fun p => (rd (gm X) T (isD (gm X)) p.1 W, rd (gm X) T (isD (gm X)) p.2 W))
theorem sps_nil : SPs X T W pos [] [] [] := pps_nil
theorem sps_cons {a b : Expr} {f g : Env' → Ro D} (ha : SE X T W a f) (hb : SE X T W b g) (h : SPs X T W pos keys values r) : SPs X T W pos (some a :: keys) (b :: values) ((f, g) :: r) := pps_cons ha hb h
theorem dispE_len : ∀ {r : List ((Env' → Ro D) × (Env' → Ro D))} {e e' : Env'} {kvs : List (Key × D)}, dispE r e = .ok kvs e' → kvs.length = r.length
  | [], e, e', kvs, h => by
    cases h
    rfl
  | (f, g) :: r, e, e', kvs, h => by
    unfold dispE at h
    cases e1 : f e with
    | exc c q en => rw [e1] at h; cases h
    | stk => rw [e1] at h; cases h
    | ok kd en1 =>
      rw [e1] at h
      simp only [Ro.bind] at h
      cases e2 : g en1 with
      | exc c q en => rw [e2] at h; cases h
      | stk => rw [e2] at h; cases h
      | ok v en2 =>
        rw [e2] at h
        simp only at h
        cases e3 : dispE r en2 with
        | exc c q en => rw [e3] at h; cases h
        | stk => rw [e3] at h; cases h
        | ok ks en3 =>
          rw [e3] at h
          simp only at h
          split at h
          · cases h
            rw [List.length_cons, List.length_cons, dispE_len e3]
          · cases h
theorem sf_disp (h : SPs X T W pos keys values r) (hall : keys.all (·.isSome) = true) (hl : keys.length = values.length) (h0 : keys ≠ []) (h15 : keys.length ≤ 15) (hr : r.length ≤ 15) : SF X T W (.Dict keys values pos) (eDisp r) :=
  PE.weak (pe_disp h hall hl h0 h15) fun σ H Q h p hp => by
    obtain ⟨F, env, S, h⟩ := h
    refine pairs_of r (S.newHid (o := .dK []) hp) ?_
    unfold eDisp at h
    have B0 : InK (gm X) T F p σ H env σ (upd H p (.dK [])) env (.dK [] []) := ⟨S.newHid hp, (New.upd hp).stp, ⟨[], upd_same, rfl, rfl⟩, hp, S.old.free (.inl hp)⟩
    cases e : dispE r env with
    | exc c q en =>
      rw [e] at h
      exact fun cls dd H' s st z => h cls dd H' ((New.upd hp).stp.trans s) st.open (exc_mono (le_open (G := gm X) (F := F)) z)
    | stk => rw [e] at h; exact h
    | ok kvs en =>
      rw [e] at h
      intro ps H2 s2 S2 hps
      have B2 := B0.step s2 S2
      obtain ⟨vs0, k1, k2, k3⟩ := B2.ac
      obtain rfl : vs0 = [] := List.eq_nil_of_length_eq_zero k2.symm
      obtain ⟨ws, w1, w2, w3⟩ := merge_val kvs ps hps
      obtain ⟨vs', b1, b2, b3⟩ := w3 [] [] [] rfl rfl
      refine ⟨k1, ws, w1, by rw [w2, dispE_len e]; exact hr, ?_⟩
      rw [show ([] : List (Key × V)) = ([] : List Key).zip ([] : List V) from rfl, b1]
      have B3 := B2.put (o' := .dK ((mergeD kvs).1.zip vs')) (d' := .dK (mergeD kvs).1 (mergeD kvs).2) fun Hs l => ⟨vs', upd_same, b2, IsL.mono l _ _ b3⟩
      exact h p _ B3.sp B3.st B3.ac hp
end
end Rf

namespace Rf
open PySem L2 LamX
/-! ## the tape by its constants -/
structure DrawP where
  c1 : Int
  c2 : Int
  c3 : Int
  m1 : Int
  a : Int
  b : Int
  m2 : Int
  d1 : Int
  e1 : Int
  m3 : Int
  d2 : Int
  e2 : Int
  m4 : Int
def inP (i : Int) : Bool := decide (1 ≤ i ∧ i ≤ 2147483647)
def DrawP.good (P : DrawP) : Bool := inP P.c1 && inP P.c2 && inP P.c3 && inP P.m1 && inP P.a && inP P.b && inP P.m2 && inP P.d1 && inP P.e1 && inP P.m3 && inP P.d2 && inP P.e2 && inP P.m4
structure DrawP.Ok (P : DrawP) : Prop where
  c1 : 1 ≤ P.c1 ∧ P.c1 ≤ 2147483647
  c2 : 1 ≤ P.c2 ∧ P.c2 ≤ 2147483647
  c3 : 1 ≤ P.c3 ∧ P.c3 ≤ 2147483647
  m1 : 1 ≤ P.m1 ∧ P.m1 ≤ 2147483647
  a : 1 ≤ P.a ∧ P.a ≤ 2147483647
  b : 1 ≤ P.b ∧ P.b ≤ 2147483647
  m2 : 1 ≤ P.m2 ∧ P.m2 ≤ 2147483647
  d1 : 1 ≤ P.d1 ∧ P.d1 ≤ 2147483647
  e1 : 1 ≤ P.e1 ∧ P.e1 ≤ 2147483647
  m3 : 1 ≤ P.m3 ∧ P.m3 ≤ 2147483647
  d2 : 1 ≤ P.d2 ∧ P.d2 ≤ 2147483647
  e2 : 1 ≤ P.e2 ∧ P.e2 ≤ 2147483647
  m4 : 1 ≤ P.m4 ∧ P.m4 ≤ 2147483647
theorem DrawP.ok_of {P : DrawP} (h : P.good = true) : P.Ok := by
  simp only [DrawP.good, inP, Bool.and_eq_true, decide_eq_true_eq] at h
  obtain ⟨⟨⟨⟨⟨⟨⟨⟨⟨⟨⟨⟨h1, h2⟩, h3⟩, h4⟩, h5⟩, h6⟩, h7⟩, h8⟩, h9⟩, h10⟩, h11⟩, h12⟩, h13⟩ := h
  exact ⟨h1, h2, h3, h4, h5, h6, h7, h8, h9, h10, h11, h12, h13⟩
theorem mulB2 {a b A B : Int} (h1 : 0 ≤ a) (h2 : a ≤ A) (h3 : 0 ≤ b) (h4 : b ≤ B) : 0 ≤ a * b ∧ a * b ≤ A * B := ⟨Int.mul_nonneg h1 h3, Int.mul_le_mul h2 h4 h3 (by omega)⟩
theorem mul_cell {i j : Int} (h : i.natAbs.log2 ≤ 1048576) (h2 : 1 ≤ j ∧ j ≤ 2147483647) : dMul (.int i) (.int j) = some (.int (i * j)) := by
  have l := log2_lt (i := j) ⟨by rw [BD_eq]; omega, by rw [BD_eq]; omega⟩
  show (if okMul i j then some (D.int (i * j)) else none) = _
  have : okMul i j = true := decide_eq_true (by omega)
  rw [this]
  rfl
/-- the tape; n bounds the draws so far -/
def Tape2 (n : Nat) (d : D) : Prop := ∃ (cells : List Int) (i t s c : Int), d = tapeD cells i t s c ∧ (∀ x ∈ cells, 0 ≤ x ∧ x.natAbs.log2 ≤ 1048576) ∧ 0 ≤ i ∧ 0 ≤ t ∧ 0 ≤ s ∧ s ≤ 2147483647 ∧ 0 ≤ c ∧ c ≤ n
def b_draw1 (P : DrawP) (mc rs : Bool) : Env' → So := sSeq (sSet 3 (eOp dIx (eIxV 0 (eC (.int 0))) (eIxV 0 (eC (.int 1)))))
  (sSeq (sSetIx 0 (eC (.int 1)) (eOp dAdd (eIxV 0 (eC (.int 1))) (eC (.int 1))))
  (sSeq (sSetIx 0 (eC (.int 3)) (eOp dMod (eCall oInt (aCons (eOp dAdd (eOp dAdd (eOp dMul (eIxV 0 (eC (.int 3))) (eC (.int P.c1))) (cond mc (eOp dMul (eVar 3) (eC (.int P.c2))) (eVar 3))) (eC (.int P.c3))) aNil)) (eC (.int P.m1))))
  (cond rs (sSetIx 0 (eC (.int 2)) (eIf (qCmp bGe (eVar 3) (eOp dPow (eC (.int 10)) (eC (.int 18)))) (eVar 3) (eC (.int 0)))) (sIf (qCmp bGe (eVar 3) (eOp dPow (eC (.int 10)) (eC (.int 18)))) (sSetIx 0 (eC (.int 2)) (eVar 3)) (sNil)))))
def b_draw2 (P : DrawP) : Env' → So := sSeq (sIf (qCmp bGt (eIxV 0 (eC (.int 2))) (eC (.int 0))) (sSeq (sSet 4 (eOp dMod (eCall oInt (aCons (eIxV 0 (eC (.int 2))) aNil)) (eVar 1)))
  (sSeq (sSetIx 0 (eC (.int 2)) (eOp dDiv (eIxV 0 (eC (.int 2))) (eVar 1)))
  (sRet (eVar 4)))) (sNil))
  (sSeq (sSetIx 0 (eC (.int 4)) (eOp dAdd (eIxV 0 (eC (.int 4))) (eC (.int 1))))
  (sSeq (sSet 2 (eOp dMod (eCall oInt (aCons (eOp dMul (eCall oInt (aCons (eOp dAdd (eIxV 0 (eC (.int 3))) (eOp dMul (eC (.int P.a)) (eIxV 0 (eC (.int 4))))) aNil)) (eC (.int P.b))) aNil)) (eC (.int P.m2))))
  (sSeq (sSet 2 (eOp dMod (eCall oInt (aCons (eOp dMul (eVar 2) (eOp dAdd (eOp dDiv (eVar 2) (eC (.int P.d1))) (eC (.int P.e1)))) aNil)) (eC (.int P.m3))))
  (sSeq (sSet 2 (eOp dMod (eCall oInt (aCons (eOp dMul (eVar 2) (eOp dAdd (eOp dDiv (eVar 2) (eC (.int P.d2))) (eC (.int P.e2)))) aNil)) (eC (.int P.m4))))
  (sRet (eOp dMod (eCall oInt (aCons (eOp dDiv (eVar 2) (eC (.int 16))) aNil)) (eVar 1)))))))
def b_draw (P : DrawP) (mc rs : Bool) : Env' → So := sSeq (sIf (qAnd (qCmp bEq (eIxV 0 (eC (.int 2))) (eC (.int 0))) (qCmp bLt (eIxV 0 (eC (.int 1))) (eCall oLen (aCons (eIxV 0 (eC (.int 0))) aNil)))) (b_draw1 P mc rs) sNil) (b_draw2 P)
def drawM (P : DrawP) (mc rs : Bool) : Fm := runM [true, false] 5 (b_draw P mc rs)
/-- the second part: digits, or a number -/
theorem draw2 {P : DrawP} (p : P.Ok) {cells : List Int} {i t s c m : Int} {n : Nat} (x3 : Slot) (hc : ∀ x ∈ cells, 0 ≤ x ∧ x.natAbs.log2 ≤ 1048576) (hi : 0 ≤ i) (ht : 0 ≤ t) (hs : 0 ≤ s ∧ s ≤ 2147483647) (hn : 0 ≤ c ∧ c ≤ n) (hn2 : n ≤ 1000000000) (hm : 0 < m) (hb : m ≤ 1000000000000000000000) :
    ∃ r tp x2 x4, b_draw2 P [.o (tapeD cells i t s c), .v (.int m), .no, x3, .no] = .ret (.int r) [.o tp, .v (.int m), x2, x3, x4] ∧ 0 ≤ r ∧ r < m ∧ Tape2 (n + 1) tp := by
  have hb' : m ≤ BD := by rw [BD_eq]; omega
  by_cases h : 0 < t
  · refine ⟨t % m, tapeD cells i (t / m) s c, .no, .v (.int (t % m)), ?_, Int.emod_nonneg _ (by omega), Int.emod_lt_of_pos _ hm, cells, i, _, s, c, rfl, hc, hi, Int.ediv_nonneg ht (by omega), hs.1, hs.2, hn.1, by omega⟩
    have h0 : ¬ t = 0 := by omega
    simp [b_draw2, tapeD, sSeq, sIf, sRet, sSet, sSetIx, sNil, ofRo, Ro.bind, lift, eVar, eC, eOp, qCmp, qAnd, eIxV, slotD, dIx, dIxS, isDic, atI, ixN, eCall, aCons, aNil, oLen, lenD, oInt, eq_ii, lt_ii, gt_ii, ge_ii, add_ii, outR, outOk, outs, ownS, isNo, isLstS, List.replicate, mod_ii hm, div_ii hm hb', h]
  · obtain rfl : t = 0 := by omega
    obtain ⟨pc1, pc2, pc3, pm1, pa, pb, pm2, pd1, pe1, pm3, pd2, pe2, pm4⟩ := p
    have m2 : ∀ z : Int, 0 ≤ z % P.m2 ∧ z % P.m2 < P.m2 := fun z => ⟨Int.emod_nonneg _ (by omega), Int.emod_lt_of_pos _ (by omega)⟩
    have m3 : ∀ z : Int, 0 ≤ z % P.m3 ∧ z % P.m3 < P.m3 := fun z => ⟨Int.emod_nonneg _ (by omega), Int.emod_lt_of_pos _ (by omega)⟩
    have e1 : dMul (.int P.a) (.int (c + 1)) = some (.int (P.a * (c + 1))) := mul_ii (by rw [BD_eq]; omega) (by rw [BD_eq]; omega)
    have w1 := mulB2 (a := P.a) (b := c + 1) (A := 2147483647) (B := 1000000001) (by omega) (by omega) (by omega) (by omega)
    have e2 : dMul (.int (s + P.a * (c + 1))) (.int P.b) = some (.int ((s + P.a * (c + 1)) * P.b)) := mul_ii (by rw [BD_eq]; omega) (by rw [BD_eq]; omega)
    generalize hz : (s + P.a * (c + 1)) * P.b % P.m2 = z at *
    have z1 : 0 ≤ z ∧ z < P.m2 := hz ▸ m2 _
    have e3 : dDiv (.int z) (.int P.d1) = some (.int (z / P.d1)) := div_ii (by omega) (by rw [BD_eq]; omega)
    have z2 : 0 ≤ z / P.d1 ∧ z / P.d1 ≤ z := ⟨Int.ediv_nonneg z1.1 (by omega), Int.ediv_le_self _ z1.1⟩
    have e4 : dMul (.int z) (.int (z / P.d1 + P.e1)) = some (.int (z * (z / P.d1 + P.e1))) := mul_ii (by rw [BD_eq]; omega) (by rw [BD_eq]; omega)
    generalize hy : z * (z / P.d1 + P.e1) % P.m3 = y at *
    have y1 : 0 ≤ y ∧ y < P.m3 := hy ▸ m3 _
    have e5 : dDiv (.int y) (.int P.d2) = some (.int (y / P.d2)) := div_ii (by omega) (by rw [BD_eq]; omega)
    have y2 : 0 ≤ y / P.d2 ∧ y / P.d2 ≤ y := ⟨Int.ediv_nonneg y1.1 (by omega), Int.ediv_le_self _ y1.1⟩
    have e6 : dMul (.int y) (.int (y / P.d2 + P.e2)) = some (.int (y * (y / P.d2 + P.e2))) := mul_ii (by rw [BD_eq]; omega) (by rw [BD_eq]; omega)
    generalize hx : y * (y / P.d2 + P.e2) % P.m4 = x at *
    have e7 : dDiv (.int x) (.int 16) = some (.int (x / 16)) := div_ii (by decide) (by decide)
    have q1 : ∀ i, dMod (.int i) (.int P.m2) = some (.int (i % P.m2)) := fun i => mod_ii (by omega)
    have q2 : ∀ i, dMod (.int i) (.int P.m3) = some (.int (i % P.m3)) := fun i => mod_ii (by omega)
    have q3 : ∀ i, dMod (.int i) (.int P.m4) = some (.int (i % P.m4)) := fun i => mod_ii (by omega)
    refine ⟨x / 16 % m, tapeD cells i 0 s (c + 1), .v (.int x), .no, ?_, Int.emod_nonneg _ (by omega), Int.emod_lt_of_pos _ hm, cells, i, 0, s, c + 1, rfl, hc, hi, by omega, hs.1, hs.2, by omega, by omega⟩
    simp [b_draw2, tapeD, sSeq, sIf, sRet, sSet, sSetIx, sNil, ofRo, Ro.bind, lift, eVar, eC, eOp, qCmp, qAnd, eIxV, slotD, dIx, dIxS, isDic, atI, ixN, eCall, aCons, aNil, oLen, lenD, oInt, eq_ii, lt_ii, gt_ii, ge_ii, add_ii, outR, outOk, outs, ownS, isNo, isLstS, List.replicate, e1, e2, e3, e4, e5, e6, e7, q1, q2, q3, hz, hy, hx, mod_ii hm]
theorem draw1 {P : DrawP} (p : P.Ok) (mc rs : Bool) {cells : List Int} {i s c : Int} (xm : Slot) (hc : ∀ x ∈ cells, 0 ≤ x ∧ x.natAbs.log2 ≤ 1048576) (hi : 0 ≤ i) (hl : i < cells.length) (hs : 0 ≤ s ∧ s ≤ 2147483647) :
    ∃ cell s' t', cell ∈ cells ∧ (t' = 0 ∨ t' = cell) ∧ 0 ≤ s' ∧ s' ≤ 2147483647 ∧ b_draw1 P mc rs [.o (tapeD cells i 0 s c), xm, .no, .no, .no] = .nx [.o (tapeD cells (i + 1) t' s' c), xm, .no, .v (.int cell), .no] := by
  have hl' : i.toNat < cells.length := by omega
  have g : cells[i.toNat]? = some cells[i.toNat] := List.getElem?_eq_getElem hl'
  have hm : cells[i.toNat] ∈ cells := List.getElem_mem _
  generalize hcell : cells[i.toNat] = cell at g hm
  obtain ⟨c0, cl⟩ := hc cell hm
  have q1 : ∀ i, dMod (.int i) (.int P.m1) = some (.int (i % P.m1)) := fun i => mod_ii (by have := p.m1; omega)
  have e1 : dMul (.int s) (.int P.c1) = some (.int (s * P.c1)) := mul_ii (by rw [BD_eq]; omega) (by have := p.c1; rw [BD_eq]; omega)
  have e2 : dMul (.int cell) (.int P.c2) = some (.int (cell * P.c2)) := mul_cell cl p.c2
  have hix : ixN cells.length i = some i.toNat := ixN_nat hi (by omega)
  have hix2 : dIxS (.lst (cells.map .int)) (.int i) = some (.int cell) := by
    simp only [dIxS, atI, List.length_map, hix, Option.bind_some, List.getElem?_map, g, Option.map_some]
  have m2 : ∀ z : Int, 0 ≤ z % P.m1 ∧ z % P.m1 ≤ 2147483647 := fun z => ⟨Int.emod_nonneg _ (by have := p.m1; omega), by
    have := Int.emod_lt_of_pos z (show 0 < P.m1 by have := p.m1; omega)
    have := p.m1
    omega⟩
  cases mc <;> cases rs
  all_goals by_cases h : (1000000000000000000 : Int) ≤ cell
  all_goals first
    | (refine ⟨cell, (s * P.c1 + cell + P.c3) % P.m1, cell, hm, .inr rfl, (m2 _).1, (m2 _).2, ?_⟩; simp [b_draw1, tapeD, sSeq, sIf, sRet, sSet, sSetIx, sNil, ofRo, Ro.bind, lift, eVar, eC, eOp, eIf, qCmp, qAnd, eIxV, slotD, dIx, dIxS, isDic, atI, ixN, eCall, aCons, aNil, oLen, lenD, oInt, eq_ii, lt_ii, gt_ii, ge_ii, add_ii, outR, outOk, outs, ownS, isNo, isLstS, List.replicate, q1, e1, e2, hi, hl, g, pow_ten, h, hcell]; done)
    | (refine ⟨cell, (s * P.c1 + cell * P.c2 + P.c3) % P.m1, cell, hm, .inr rfl, (m2 _).1, (m2 _).2, ?_⟩; simp [b_draw1, tapeD, sSeq, sIf, sRet, sSet, sSetIx, sNil, ofRo, Ro.bind, lift, eVar, eC, eOp, eIf, qCmp, qAnd, eIxV, slotD, dIx, dIxS, isDic, atI, ixN, eCall, aCons, aNil, oLen, lenD, oInt, eq_ii, lt_ii, gt_ii, ge_ii, add_ii, outR, outOk, outs, ownS, isNo, isLstS, List.replicate, q1, e1, e2, hi, hl, g, pow_ten, h, hcell]; done)
    | (refine ⟨cell, (s * P.c1 + cell + P.c3) % P.m1, 0, hm, .inl rfl, (m2 _).1, (m2 _).2, ?_⟩; simp [b_draw1, tapeD, sSeq, sIf, sRet, sSet, sSetIx, sNil, ofRo, Ro.bind, lift, eVar, eC, eOp, eIf, qCmp, qAnd, eIxV, slotD, dIx, dIxS, isDic, atI, ixN, eCall, aCons, aNil, oLen, lenD, oInt, eq_ii, lt_ii, gt_ii, ge_ii, add_ii, outR, outOk, outs, ownS, isNo, isLstS, List.replicate, q1, e1, e2, hi, hl, g, pow_ten, h, hcell]; done)
    | (refine ⟨cell, (s * P.c1 + cell * P.c2 + P.c3) % P.m1, 0, hm, .inl rfl, (m2 _).1, (m2 _).2, ?_⟩; simp [b_draw1, tapeD, sSeq, sIf, sRet, sSet, sSetIx, sNil, ofRo, Ro.bind, lift, eVar, eC, eOp, eIf, qCmp, qAnd, eIxV, slotD, dIx, dIxS, isDic, atI, ixN, eCall, aCons, aNil, oLen, lenD, oInt, eq_ii, lt_ii, gt_ii, ge_ii, add_ii, outR, outOk, outs, ownS, isNo, isLstS, List.replicate, q1, e1, e2, hi, hl, g, pow_ten, h, hcell]; done)
theorem draw_ok {P : DrawP} (p : P.Ok) (mc rs : Bool) {n : Nat} {d : D} {m : Int} (hT : Tape2 n d) (hn : n ≤ 1000000000) (hm : 0 < m) (hb : m ≤ 1000000000000000000000) : ∃ r tp, drawM P mc rs [.o d, .v (.int m)] = .ok (.int r) [.o tp, .no] ∧ 0 ≤ r ∧ r < m ∧ Tape2 (n + 1) tp := by
  obtain ⟨cells, i, t, s, c, rfl, hc, hi, ht, hs, hs2, h0, h1⟩ := hT
  have run : ∀ {x3 t' s' : _} {i' : Int}, 0 ≤ i' → 0 ≤ t' → 0 ≤ s' ∧ s' ≤ 2147483647 → (b_draw P mc rs [.o (tapeD cells i t s c), .v (.int m), .no, .no, .no] = b_draw2 P [.o (tapeD cells i' t' s' c), .v (.int m), .no, x3, .no]) → ∃ r tp, drawM P mc rs [.o (tapeD cells i t s c), .v (.int m)] = .ok (.int r) [.o tp, .no] ∧ 0 ≤ r ∧ r < m ∧ Tape2 (n + 1) tp := fun {x3 t' s' i'} a1 a2 a3 e => by
    obtain ⟨r, tp, x2, x4, q, r1, r2, r3⟩ := draw2 p x3 hc a1 a2 a3 ⟨h0, h1⟩ hn hm hb
    refine ⟨r, tp, ?_, r1, r2, r3⟩
    show (match b_draw P mc rs [.o (tapeD cells i t s c), .v (.int m), .no, .no, .no] with | .nx e => _ | .ret d e => _ | .retF d e => _ | .exc c p e => _ | _ => _) = _
    rw [e, q]
    rfl
  by_cases h : t = 0 ∧ i < cells.length
  · obtain ⟨rfl, h⟩ := h
    obtain ⟨cell, s', t', k1, k2, k3, k4, k5⟩ := draw1 p mc rs (c := c) (.v (.int m)) hc hi h ⟨hs, hs2⟩
    refine run (x3 := .v (.int cell)) (t' := t') (s' := s') (i' := i + 1) (by omega) ?_ ⟨k3, k4⟩ ?_
    · have := (hc _ k1).1
      rcases k2 with k2 | k2 <;> omega
    · unfold b_draw
      simp only [tapeD] at k5
      simp [tapeD, sSeq, sIf, sNil, ofRo, Ro.bind, lift, eC, qCmp, qAnd, eIxV, slotD, dIx, dIxS, isDic, atI, ixN, eCall, aCons, aNil, oLen, lenD, eq_ii, lt_ii, h] at k5 ⊢
      rw [k5]
  · refine run (x3 := .no) (t' := t) (s' := s) (i' := i) hi ht ⟨hs, hs2⟩ ?_
    unfold b_draw
    by_cases h2 : t = 0
    · have h3 : ¬ i < cells.length := fun z => h ⟨h2, z⟩
      simp [tapeD, sSeq, sIf, sNil, ofRo, Ro.bind, lift, eC, qCmp, qAnd, eIxV, slotD, dIx, dIxS, isDic, atI, ixN, eCall, aCons, aNil, oLen, lenD, eq_ii, lt_ii, h2, h3]
    · simp [tapeD, sSeq, sIf, sNil, ofRo, Ro.bind, lift, eC, qCmp, qAnd, eIxV, slotD, dIx, dIxS, isDic, atI, ixN, eCall, aCons, aNil, oLen, lenD, eq_ii, lt_ii, h2]
/-! its beginning -/
def elH (md : Bool) : Env' → Ro D := cond md (eOp dMod (eCall oInt (aCons (eCall oAbs (aCons (eCall oInt (aCons (eVar 2) aNil)) aNil)) aNil)) (eOp dPow (eC (.int 10)) (eC (.int 36)))) (eCall oAbs (aCons (eCall oInt (aCons (eVar 2) aNil)) aNil))
def b_hand (s0 s1 : Int) (mu md : Bool) : Env' → So := sSeq (sSetO 1 (eLc [2] (iSeq (eSl (eVar 0) (oNone) (oSome (eC (.int 63))))) (tName 2) (qYes) (elH md)))
  (sRetF (eLst (aCons (eVar 1) (aCons (eC (.int 0)) (aCons (eC (.int 0)) (aCons (eOp dAdd (eC (.int s0)) (cond mu (eOp dMul (eC (.int s1)) (eLenV 1)) (eLenV 1))) (aCons (eC (.int 0)) (aNil))))))))
def handM (s0 s1 : Int) (mu md : Bool) : Fm := runF [false] 3 (b_hand s0 s1 mu md)
def cellI (md : Bool) (i : Int) : Int := cond md (absI i % 1000000000000000000000000000000000000) (absI i)
theorem absI_bits {z : Int} (h : PySem.Builtin.Int.intBits z ≤ 1048576) : (absI z).natAbs.log2 ≤ 1048576 := by
  have e : (absI z).natAbs = z.natAbs := by unfold absI; split <;> omega
  rw [e]
  unfold PySem.Builtin.Int.intBits at h
  by_cases h0 : z.natAbs = 0
  · rw [h0]; decide
  · split at h
    · rename_i q
      exact absurd (by rw [eq_of_beq q]; rfl) h0
    · omega
theorem cellI_ok (md : Bool) {z : Int} (h : PySem.Builtin.Int.intBits z ≤ 1048576) : 0 ≤ cellI md z ∧ (cellI md z).natAbs.log2 ≤ 1048576 := by
  cases md
  · exact ⟨absI_nn z, absI_bits h⟩
  · have h1 := Int.emod_nonneg (absI z) (show (1000000000000000000000000000000000000 : Int) ≠ 0 by decide)
    have h2 := Int.emod_lt_of_pos (absI z) (show (0 : Int) < 1000000000000000000000000000000000000 by decide)
    refine ⟨h1, ?_⟩
    show (absI z % 1000000000000000000000000000000000000).natAbs.log2 ≤ 1048576
    generalize absI z % 1000000000000000000000000000000000000 = y at *
    by_cases h0 : y.natAbs = 0
    · rw [h0]; decide
    · have : y.natAbs.log2 < 120 := (Nat.log2_lt h0).mpr (Nat.lt_of_lt_of_le (show y.natAbs < 1000000000000000000000000000000000000 by omega) (by decide +kernel))
      omega
theorem pow36 : dPow (.int 10) (.int 36) = some (.int 1000000000000000000000000000000000000) := by kernel_rfl
theorem hand_loop (md : Bool) (z : D) : ∀ (ns : List Int) (acc : List D), acc.length + ns.length ≤ 1000 → lcL [2] (tName 2) qYes (elH md) (ns.map D.int) acc [.v z, .no, .no] = .ok (acc ++ ns.map fun i => D.int (cellI md i)) [.v z, .no, .no]
  | [], acc, h => by simp [lcL]
  | i :: ns, acc, h => by
    have h' : acc.length < sizeLine := by
      have : sizeLine = 16777216 := by decide
      rw [List.length_cons] at h
      omega
    have ih := hand_loop md z ns (acc ++ [D.int (cellI md i)]) (by rw [List.length_append]; simp at h ⊢; omega)
    rw [List.map_cons]
    have e : absI i = if i < 0 then -i else i := rfl
    have m : ∀ i, dMod (.int i) (.int 1000000000000000000000000000000000000) = some (.int (i % 1000000000000000000000000000000000000)) := fun i => mod_ii (by decide)
    have el : elH md [.v z, .no, .v (.int i)] = .ok (.int (cellI md i)) [.v z, .no, .v (.int i)] := by
      cases md
      · simp [elH, cellI, eCall, aCons, aNil, eVar, Ro.bind, lift, oAbs, oInt, ← e]
      · simp [elH, cellI, eCall, eOp, eC, aCons, aNil, eVar, Ro.bind, lift, oAbs, oInt, ← e, pow36, m]
    simp [lcL, tName, qYes, el, h', noOwn, isOwn, wipeE, ih]
theorem hand_ok {s0 s1 : Int} (mu md : Bool) (h0 : 0 ≤ s0 ∧ s0 ≤ 1000000) (h1 : 0 ≤ s1 ∧ s1 ≤ 1000000) (ns : List Int) (hl : ns.length ≤ 63) (hb : ∀ z ∈ ns, PySem.Builtin.Int.intBits z ≤ 1048576) : ∃ d, handM s0 s1 mu md [.v (.scr ns)] = .ok d [.no] ∧ Tape2 0 d := by
  have hc : cut ns none (some 63) = ns := cut_whole ⟨rfl, by
    unfold HT.sIx
    simp
    omega⟩
  have e := hand_loop md (.scr ns) ns [] (by simp; omega)
  have m1 : dMul (.int s1) (.int (ns.length : Int)) = some (.int (s1 * ns.length)) := mul_ii (by rw [BD_eq]; omega) (by rw [BD_eq]; omega)
  have w := mulB2 (a := s1) (b := (ns.length : Int)) (A := 1000000) (B := 63) (by omega) (by omega) (by omega) (by omega)
  refine ⟨tapeD (ns.map (cellI md)) 0 0 (s0 + cond mu (s1 * ns.length) ns.length) 0, ?_, ns.map (cellI md), 0, 0, _, 0, rfl, fun x hx => ?_, by omega, by omega, by cases mu <;> simp <;> omega, by cases mu <;> simp <;> omega, by omega, by omega⟩
  · have e2 : (cut ns none (some 63)).map D.int = ns.map D.int := by rw [hc]
    cases mu <;> simp [handM, runF, b_hand, ownS, isNo, List.replicate, sSeq, sSetO, sRetF, ofRo, Ro.bind, lift, eLc, iSeq, eSl, eVar, eC, oNone, oSome, dSl, seqD, noOwn, isOwn, wipeE, backE, e2, e, eLst, aCons, aNil, eOp, eLenV, slotD, lenD, add_ii, m1, outR, outOk, outs, tapeD, List.map_map, Function.comp_def, sizeLine]
  · obtain ⟨z, hz, rfl⟩ := List.mem_map.mp hx
    exact cellI_ok md (hb z hz)
end Rf

/-! ## sorted of tuples of ints -/
namespace Rf
section
open PySem PySem.Spec PyProof.Rows
variable {prog : Program} {w : World} {A : Around} {E : Value → Shared → Prop} {s : Shared}
theorem lexL_ints {b : Bool} {Q : Bool → Shared → Prop} {xs ys : List Value} {ns ms : List Int} (i : Nat) (hx : IntsAre xs ns) (hy : IntsAre ys ms)
    (h : Q (HT.lexLt ns ms) s) : PySem.W.KatLex prog w A b (decide (ns.length < ms.length)) Q (xs.zip ys) i s := by
  induction hx generalizing ys ms i with
  | nil =>
    have e : HT.lexLt [] ms = decide (([] : List Int).length < ms.length) := by
      cases ms with
      | nil => rfl
      | cons q ms => rfl
    rw [e] at h
    cases hy <;> exact PySem.W.kat_nil h
  | @cons p t xs ns hx ih =>
    cases hy with
    | nil =>
      have e : decide ((p :: ns).length < ([] : List Int).length) = false := decide_eq_false (by simp)
      rw [e]
      exact PySem.W.kat_nil h
    | @cons q u ys ms hy =>
      have e : decide ((p :: ns).length < (q :: ms).length) = decide (ns.length < ms.length) := by simp
      rw [e]
      show PySem.W.KatLex prog w A b _ Q ((Value.int p t, Value.int q u) :: xs.zip ys) i s
      refine PySem.W.kat_cons (wpAny_eqBool_int ?_)
      rw [HT.lexLt_cons] at h
      by_cases e : p = q
      · subst e
        rw [beq_self_eq_true]
        rw [if_pos rfl] at h
        exact PySem.W.kat_yes (ih (i + 1) hy h)
      · rw [show (p == q) = false from beq_eq_false_iff_ne.mpr e]
        rw [if_neg e] at h
        exact PySem.W.kat_no (TS.oneLt_ints _ h)
theorem firsts_ne {h : Heap} {k : Value → List Int} : ∀ vs : List Value, (∀ v ∈ vs, TS.TupInts h v (k v) ∧ k v ≠ []) → ∃ fs, PySem.W.KatTups h vs fs ∧ fs.length = vs.length ∧ ∀ f, f ∈ fs → ∃ n t, f = Value.int n t
  | [], _ => ⟨[], PySem.W.KatTups.nil, rfl, fun f hf => by simp at hf⟩
  | v :: vs, x => by
    obtain ⟨fs, kk, hl, hi⟩ := firsts_ne vs fun u hu => x u (List.mem_cons_of_mem _ hu)
    obtain ⟨⟨a, xs, rfl, ⟨o, ho, hc, n, hdt⟩, i⟩, hn⟩ := x v (List.mem_cons_self ..)
    obtain ⟨y, ys, e⟩ : ∃ y ys, xs.toList = y :: ys := by
      cases q : xs.toList with
      | nil =>
        rw [q] at i
        have l := i.length
        rw [List.length_nil] at l
        exact absurd (List.eq_nil_of_length_eq_zero l.symm) hn
      | cons y ys => exact ⟨y, ys, rfl⟩
    obtain ⟨m, t, hy⟩ := i.all y (by rw [e]; exact List.mem_cons_self ..)
    refine ⟨y :: fs, PySem.W.KatTups.cons ho hc hdt ?_ kk, by simp [hl], ?_⟩
    · have z := congrArg (fun l : List Value => l[0]?) e
      simpa using z
    · intro f hf
      rcases List.mem_cons.mp hf with rfl | hf
      · exact ⟨m, t, hy⟩
      · exact hi f hf
theorem tups_sortable {a : Addr} {vs : List Value} {k : Value → List Int} (h0 : 0 < vs.length) (hp : ∀ v ∈ vs, TS.TupInts s.heap v (k v) ∧ k v ≠ []) (ha : ∀ o, s.heap.get? a = some o → o.cls ≠ .type "tuple") : SrtO.SortableO prog w A s a vs fun v u => HT.lexLt (k v) (k u) := by
  intro h' keep
  have hp' : ∀ v ∈ vs, TS.TupInts h' v (k v) ∧ k v ≠ [] := fun v hm => ⟨(hp v hm).1.keeps fun b o e c => keep b o (fun z => by subst z; exact ha o e c) e, (hp v hm).2⟩
  obtain ⟨fs, h1, h2, h3⟩ := firsts_ne vs hp'
  refine ⟨tuples' true, fun Q E hq => ?_, fun p q hm hm' => ?_⟩
  · refine PySem.W.kat_kind (T := .type "int") h1 (by omega) (fun f hm => ?_) (by rfl) ?_
    · obtain ⟨x, t, rfl⟩ := h3 f hm
      exact PySem.W.Looks.now
    · have e : (Value.type "int" != Value.type "tuple") = true := by first | decide +kernel | rfl | decide
      rw [e]
      exact hq
  · obtain ⟨⟨a1, xs, e1, ⟨o, ho, hc, n, hdt⟩, i⟩, _⟩ := hp' p.1 hm
    obtain ⟨⟨a2, ys, e2, ⟨o2, ho2, hc2, n2, hdt2⟩, i2⟩, _⟩ := hp' q.1 hm'
    show wpAny (model prog w) A (keyLt' (tuples' true) p.1 q.1) (fun r s' => s' = { s with heap := h' } ∧ r = HT.lexLt (k p.1) (k q.1)) (fun _ _ => False) { s with heap := h' }
    generalize k p.1 = kp at i ⊢
    generalize k q.1 = kq at i2 ⊢
    rw [e1, e2]
    refine PySem.W.kat_lt ho hdt ho2 hdt2 ?_
    have hs : decide (xs.size < ys.size) = decide (kp.length < kq.length) := by
      have l1 := i.length
      have l2 := i2.length
      rw [Array.length_toList] at l1 l2
      rw [l1, l2]
    rw [hs]
    exact lexL_ints 0 i i2 ⟨rfl, rfl⟩
end
section
open PySem PySem.Spec PyProof.Rows L2
def rSortedLx (K : PySem.W.Frag) : List V → Hp → VK → Prop := fun vs H Q => ∃ (a : Addr) (xs : List V) (k : V → List Int), vs = [V.ref a] ∧ SqL K H a xs ∧ (∀ x ∈ xs, ∃ t, x = V.ref t ∧ SqT K H t ((k x).map V.int) ∧ k x ≠ []) ∧
  ∀ ys p, ys.Perm xs → ys.Pairwise (fun x y => HT.lexLt (k y) (k x) = false) → H p = none → Q (.ref p) (upd H p (.lst ys))
theorem cr_sortedLx {X : Cx} : CallR X (.builtin "sorted") (rSortedLx X.K) := by
  intro pins s σ H vs us Q I r h
  obtain ⟨a, xs, k, rfl, hs, hx, q⟩ := h
  obtain ⟨its, rv, hl, hz⟩ := I.list hs
  obtain ⟨u, rfl, ru⟩ := vals1 r
  obtain rfl : u = Value.ref a := ru
  obtain ⟨e1, e2⟩ := refs_back rv fun x m => by
    obtain ⟨t, e, _⟩ := hx x m
    exact ⟨t, e⟩
  have hp : ∀ v ∈ its, TS.TupInts s.heap v (k (backV v)) ∧ k (backV v) ≠ [] := fun v hv => by
    obtain ⟨t, rfl⟩ := e2 v hv
    have hm : backV (Value.ref t) ∈ xs := by rw [e1]; exact List.mem_map.mpr ⟨_, hv, rfl⟩
    obtain ⟨t', e, ht, hn⟩ := hx _ hm
    have e' : V.ref t = V.ref t' := e
    cases e'
    obtain ⟨its2, r2, ht2, hz2⟩ := I.tuple ht
    exact ⟨⟨t, its2.toArray, rfl, ht2, by simpa using RZ.intsAre_vals r2⟩, hn⟩
  refine SrtO.sorted_ord (ltv := fun v u => HT.lexLt (k (backV v)) (k (backV u))) (NtL.swo_lexL fun u => k (backV u)) hl.isList (by rw [← rv.length]; exact hz) (fun h2 h₁ a ha kk => ?_) fun out hs hb => ?_
  · refine tups_sortable (s := { s with heap := h₁ }) (k := fun u => k (backV u)) (by omega) (fun v hm => ⟨(hp v hm).1.keeps fun b o e _ => (kk b o e).2, (hp v hm).2⟩) fun o e => ?_
    have e' : some o = some (seqObj "list" its.toArray 0) := e.symm.trans ha
    cases e'
    intro c
    exact absurd (Value.type.inj c) (by decide)
  · have h3 : ∀ u ∈ out, ∃ a, u = Value.ref a := fun u hu => e2 u (hb.perm.mem_iff.mp hu)
    have hpm : (out.map backV).Perm xs := by
      rw [e1]
      exact hb.perm.map backV
    obtain ⟨n, hn⟩ := PyProof.Rows.sortedAll_at s.heap its out.toArray
    refine ⟨.ref (s.heap.objs.size + 1), upd H (s.heap.objs.size + 1) (.lst (out.map backV)), I.laid (t' := s.toks) (fun b o e => PyProof.Rows.sortedAll_old e) (Nat.le_succ _) ⟨?_, out, n, vals_back h3, hn⟩, rfl, q _ _ hpm (List.pairwise_map.mpr (hs.imp fun {x y} z => z)) (I.hok.fresh (Nat.le_succ _))⟩
    rw [hpm.length_eq]
    exact hz
end
section
open PySem L2 LamX
/-- lists of numbers, as they are ordered -/
def insLx (x : List Int) : List (List Int) → List (List Int)
  | [] => [x]
  | y :: ys => if HT.lexLt y x then y :: insLx x ys else x :: y :: ys
def sortLx : List (List Int) → List (List Int)
  | [] => []
  | x :: xs => insLx x (sortLx xs)
theorem insLx_perm (x : List Int) : ∀ ys, (insLx x ys).Perm (x :: ys)
  | [] => .refl _
  | y :: ys => by
    unfold insLx
    split
    · exact (List.Perm.cons y (insLx_perm x ys)).trans (List.Perm.swap x y ys)
    · exact .refl _
theorem sortLx_perm : ∀ xs, (sortLx xs).Perm xs
  | [] => .refl _
  | x :: xs => (insLx_perm x _).trans (List.Perm.cons x (sortLx_perm xs))
theorem lex_tri : ∀ x y : List Int, HT.lexLt x y = false → HT.lexLt y x = false → x = y
  | [], [], _, _ => rfl
  | [], y :: ys, h, _ => by cases h
  | x :: xs, [], _, h => by cases h
  | x :: xs, y :: ys, h1, h2 => by
    rw [HT.lexLt_cons] at h1 h2
    by_cases e : x = y
    · subst e
      rw [if_pos rfl] at h1 h2
      rw [lex_tri xs ys h1 h2]
    · rw [if_neg e] at h1
      rw [if_neg (fun z => e z.symm)] at h2
      have a := of_decide_eq_false h1
      have b := of_decide_eq_false h2
      omega
abbrev leLx (x y : List Int) : Prop := HT.lexLt y x = false
theorem insLx_sorted (x : List Int) : ∀ ys, ys.Pairwise leLx → (insLx x ys).Pairwise leLx
  | [], _ => by simp [insLx]
  | y :: ys, h => by
    obtain ⟨h1, h2⟩ := List.pairwise_cons.mp h
    unfold insLx
    split
    · rename_i q
      refine List.pairwise_cons.mpr ⟨fun z hz => ?_, insLx_sorted x ys h2⟩
      rcases List.mem_cons.mp ((insLx_perm x ys).mem_iff.mp hz) with rfl | hz
      · exact NtL.lex_asym _ _ q
      · exact h1 z hz
    · rename_i q
      have q : HT.lexLt y x = false := by simpa using q
      refine List.pairwise_cons.mpr ⟨fun z hz => ?_, h⟩
      rcases List.mem_cons.mp hz with rfl | hz
      · exact q
      · exact NtL.lex_tr x y z q (h1 z hz)
theorem sortLx_sorted : ∀ xs, (sortLx xs).Pairwise leLx
  | [] => .nil
  | x :: xs => insLx_sorted x _ (sortLx_sorted xs)
theorem sortLx_eq {ys xs : List (List Int)} (p : ys.Perm xs) (s : ys.Pairwise leLx) : ys = sortLx xs :=
  List.Perm.eq_of_pairwise (fun a b _ _ h1 h2 => lex_tri a b h2 h1) s (sortLx_sorted xs) (p.trans (sortLx_perm xs).symm)
def tupN (ns : List Int) : D := .tup (ns.map D.int)
def tups? : List D → Option (List (List Int))
  | [] => some []
  | .tup (x :: xs) :: r => match ints? (x :: xs), tups? r with
    | some ns, some ms => some (ns :: ms)
    | _, _ => none
  | _ :: _ => none
theorem tups?_is : ∀ {ds : List D} {nss : List (List Int)}, tups? ds = some nss → ds = nss.map tupN ∧ ∀ ns ∈ nss, ns ≠ []
  | [], nss, h => by
    obtain rfl := Option.some.inj h
    exact ⟨rfl, fun ns h => by cases h⟩
  | d :: r, nss, h => by
    cases d with
    | tup xs =>
      cases xs with
      | nil => cases h
      | cons x xs =>
        unfold tups? at h
        cases e1 : ints? (x :: xs) with
        | none => rw [e1] at h; cases h
        | some ns =>
          cases e2 : tups? r with
          | none => rw [e1, e2] at h; cases h
          | some ms =>
            rw [e1, e2] at h
            obtain rfl := Option.some.inj h
            have z := ints?_is e1
            obtain ⟨y1, y2⟩ := tups?_is e2
            refine ⟨by rw [List.map_cons, ← y1, tupN, ← z], fun ms' hm => ?_⟩
            rcases List.mem_cons.mp hm with rfl | hm
            · intro e
              subst e
              cases z
            · exact y2 ms' hm
    | _ => cases h
/-- the numbers of a tuple, read off the heap -/
noncomputable def kH (H : Hp) : V → List Int
  | .ref a => match H a with
    | some (.tup vs) => vs.map fun v => match v with
      | .int i => i
      | _ => 0
    | _ => []
  | _ => []
theorem kH_of {G : Gm} {Hs H : Hp} (l : Le Hs H) {ns : List Int} {v : V} (h : Is G Hs (tupN ns) v) : kH H v = ns ∧ ∃ t, v = .ref t ∧ H t = some (.tup (ns.map V.int)) := by
  obtain ⟨a, vs, rfl, e, m⟩ := h
  have := IsL.ints m
  subst this
  have e' := l.tp e
  refine ⟨?_, a, rfl, e'⟩
  unfold kH
  simp only [e']
  rw [List.map_map]
  exact (List.map_congr_left fun _ _ => rfl).trans (List.map_id ns)
theorem kH_all {G : Gm} {Hs H : Hp} (l : Le Hs H) : ∀ {nss : List (List Int)} {vs : List V}, IsL G Hs (nss.map tupN) vs → vs.map (kH H) = nss ∧ ∀ v ∈ vs, Is G Hs (tupN (kH H v)) v ∧ ∃ t, v = .ref t ∧ H t = some (.tup ((kH H v).map V.int))
  | [], vs, h => by
    obtain rfl : vs = [] := h
    exact ⟨rfl, fun v h => by cases h⟩
  | ns :: nss, vs, h => by
    obtain ⟨v, r, rfl, i, m⟩ := h
    obtain ⟨k1, t, e1, e2⟩ := kH_of l i
    obtain ⟨k2, k3⟩ := kH_all l m
    refine ⟨by rw [List.map_cons, k1, k2], fun u hu => ?_⟩
    rcases List.mem_cons.mp hu with rfl | hu
    · rw [k1]
      exact ⟨i, t, e1, e2⟩
    · exact k3 u hu
theorem isL_of {G : Gm} {Hs : Hp} {k : V → List Int} : ∀ {vs : List V}, (∀ v ∈ vs, Is G Hs (tupN (k v)) v) → IsL G Hs ((vs.map k).map tupN) vs
  | [], _ => rfl
  | v :: vs, h => ⟨v, vs, rfl, h v (by simp), isL_of fun u hu => h u (by simp [hu])⟩
def oSortT : List D → Option D
  | [.lst xs] => (tups? xs).map fun nss => .lst ((sortLx nss).map tupN)
  | _ => none
def oSort2 (ds : List D) : Option D := match ds with
  | [.lst (.tup _ :: _)] => oSortT ds
  | _ => oSort ds
theorem of_sortT {K : PySem.W.Frag} {mg : Str → Option Value} : OpCF ⟨K, mg⟩ (rSortedLx K) oSortT := fun {Hs H ds d vs Q} l m e q => by
  unfold oSortT at e
  split at e
  · rename_i xs
    cases e1 : tups? xs with
    | none => rw [e1] at e; cases e
    | some nss =>
      rw [e1] at e
      obtain rfl := Option.some.inj e
      obtain ⟨v, rfl, i⟩ := isL1 m
      obtain ⟨p, ws, rfl, s, m2⟩ := i
      obtain ⟨z, zn⟩ := tups?_is e1
      subst z
      obtain ⟨k1, k2⟩ := kH_all l m2
      refine ⟨p, ws, kH H, rfl, l.lq s, fun x hx => ?_, fun ys a p1 p2 n => ?_⟩
      · obtain ⟨_, t, e2, e3⟩ := k2 x hx
        refine ⟨t, e2, .inl (.inl e3), ?_⟩
        refine zn _ ?_
        rw [← k1]
        exact List.mem_map.mpr ⟨x, hx, rfl⟩
      · have pm : (ys.map (kH H)).Perm nss := by
          rw [← k1]
          exact p1.map _
        have es := sortLx_eq pm (List.pairwise_map.mpr p2)
        refine q a _ n fun Hs' l' => ?_
        show OIs _ Hs' _ (D.lst (List.map tupN (sortLx nss))) a
        rw [← es]
        exact ⟨ys, upd_same, isL_of fun v hv => Is.mono l' _ _ (k2 v (p1.mem_iff.mp hv)).1⟩
  · cases e
theorem of_sort2 {K : PySem.W.Frag} {mg : Str → Option Value} : OpCF ⟨K, mg⟩ (fun xs H Q => rSortedLx K xs H Q ∨ (rSortedI K xs H Q ∨ rSortedDK xs H Q)) oSort2 := fun {Hs H ds d vs Q} l m e q => by
  unfold oSort2 at e
  split at e
  · exact .inl (of_sortT l m e q)
  · exact .inr (of_sort l m e q)
section
variable {X : Cx} {T : Tb} {W : WX} {k : Nat} {a : Expr} {f : Env' → Ro D} {p pos : Pos}
theorem sf_sorted2 (hcalm : X.calm = true) (hg : Gl X "sorted") (hm : X.mg "sorted" = none) (ha : SE X T W a f) (h0 : starEach [a] X.env = (false, eval a X.env) :: starEach [] X.env := by rfl) : SF X T W (.Call (.Name "sorted" p) [a] [] pos) (eCall oSort2 (aCons f aNil)) :=
  sf_callB (CallR.or cr_sortedLx (CallR.or cr_sortedI (cr_sortedDK hcalm))) of_sort2 hg hm (by decide +kernel) (sa_cons ha sa_nil h0) (by decide) (by decide) h0 (by rfl)
end
end
end Rf

/-! ## sorted of any alike data (nested tuples too) -/
namespace Rf
section
open PySem PySem.Spec PyProof.Rows L2
open PySem.W (EachIs)
theorem each_rel {R : V → D → Prop} : ∀ {xs : List V} {us : List Value} {ds : List D}, Vals xs us → EachIs R xs ds → EachIs (fun u d => ∃ x, RelV x u ∧ R x d) us ds
  | _, _, _, .nil, .nil => .nil
  | _, _, _, .cons r1 r2, .cons e1 e2 => .cons ⟨_, r1, e1⟩ (each_rel r2 e2)
theorem each_split {R : V → D → Prop} : ∀ {us : List Value} {ds : List D}, EachIs (fun u d => ∃ x, RelV x u ∧ R x d) us ds → ∃ xs, Vals xs us ∧ EachIs R xs ds
  | _, _, .nil => ⟨[], .nil, .nil⟩
  | _, _, .cons ⟨x, r, e⟩ t => by
    obtain ⟨xs, h1, h2⟩ := each_split t
    exact ⟨x :: xs, .cons r h1, .cons e h2⟩
def rSortedG (K : PySem.W.Frag) : List V → Hp → VK → Prop := fun vs H Q => ∃ (a : Addr) (xs : List V) (ds : List D) (R : V → D → Prop), vs = [V.ref a] ∧ SqL K H a xs ∧ EachIs R xs ds ∧ (∀ x d, R x d → Dp K H x (toPy d)) ∧
  PySem.W.AllAlike (ds.map toPy) ∧ PySem.W.Sortable (ds.map toPy) ∧ (∀ d ∈ ds, (toPy d).depth ≤ 60) ∧ ∀ ys p, EachIs R ys (ds.mergeSort (PySem.W.dataLe false toPy)) → H p = none → Q (.ref p) (upd H p (.lst ys))
theorem cr_sortedG {X : Cx} (hu : X.A.units + 100 < cLine) : CallR X (.builtin "sorted") (rSortedG X.K) := by
  intro pins s σ H vs us Q I r h
  obtain ⟨a, xs, ds, R, rfl, hs, e, hd, hal, hk, hdep, q⟩ := h
  obtain ⟨its, rv, hl, hz⟩ := I.list hs
  obtain ⟨u, rfl, ru⟩ := vals1 r
  obtain rfl : u = Value.ref a := ru
  have e' := each_rel rv e
  have er : EachIs (fun v d => ∃ as, Reads s.heap v (toPy d) as) its ds := e'.mono fun v d ⟨x, r, k⟩ => Dp.reads I (toPy d) x v (hd x d k) r
  refine PySem.W.sorted_data (enc := toPy) hl.isList e' er hal hk (by rw [← e.length]; exact hz) (fun d hm => by have := hdep d hm; omega) fun out hlen eo => ?_
  obtain ⟨ys, vy, ry⟩ := each_split eo
  obtain ⟨n, hn⟩ := PyProof.Rows.sortedAll_at s.heap its out.toArray
  refine ⟨.ref (s.heap.objs.size + 1), upd H (s.heap.objs.size + 1) (.lst ys), I.laid (t' := s.toks) (fun b o e => PyProof.Rows.sortedAll_old e) (Nat.le_succ _) ⟨?_, out, n, vy, hn⟩, rfl, q _ _ ry (I.hok.fresh (Nat.le_succ _))⟩
  rw [ry.length, List.length_mergeSort, ← e.length]
  exact hz
end
section
open PySem L2 LamX
open PySem.W (EachIs TotalLe sameRank)
def leD (a b : D) : Bool := PySem.W.dataLe false toPy a b
theorem leD_total : TotalLe leD := PySem.W.sortLe_total _ false _
def insG (x : D) : List D → List D
  | [] => [x]
  | y :: ys => if leD x y then x :: y :: ys else y :: insG x ys
def sortG : List D → List D
  | [] => []
  | x :: xs => insG x (sortG xs)
theorem insG_mem (x z : D) : ∀ ys, z ∈ insG x ys ↔ z = x ∨ z ∈ ys
  | [] => by simp [insG]
  | y :: ys => by
    unfold insG
    split
    · simp
    · simp only [List.mem_cons, insG_mem x z ys]
      constructor
      · rintro (h | h | h)
        · exact .inr (.inl h)
        · exact .inl h
        · exact .inr (.inr h)
      · rintro (h | h | h)
        · exact .inr (.inl h)
        · exact .inl h
        · exact .inr (.inr h)
theorem insG_sorted (x : D) : ∀ ys, ys.Pairwise (fun a b => leD a b = true) → (insG x ys).Pairwise (fun a b => leD a b = true)
  | [], _ => by simp [insG]
  | y :: ys, h => by
    obtain ⟨h1, h2⟩ := List.pairwise_cons.mp h
    unfold insG
    split
    · rename_i q
      refine List.pairwise_cons.mpr ⟨fun z hz => ?_, h⟩
      rcases List.mem_cons.mp hz with rfl | hz
      · exact q
      · exact leD_total.trans _ _ _ q (h1 z hz)
    · rename_i q
      refine List.pairwise_cons.mpr ⟨fun z hz => ?_, insG_sorted x ys h2⟩
      rcases (insG_mem x z ys).mp hz with rfl | hz
      · exact (leD_total.total _ _).elim (fun a => absurd a q) id
      · exact h1 z hz
theorem insG_stable (c x : D) : ∀ ys, (insG x ys).filter (sameRank leD c) = (x :: ys).filter (sameRank leD c)
  | [] => rfl
  | y :: ys => by
    unfold insG
    split
    · rfl
    · rename_i q
      rw [List.filter_cons, insG_stable c x ys, List.filter_cons, List.filter_cons, List.filter_cons]
      cases hx : sameRank leD c x <;> cases hy : sameRank leD c y <;> simp
      exfalso
      apply q
      unfold sameRank at hx hy
      obtain ⟨a1, a2⟩ := Bool.and_eq_true_iff.mp hx
      obtain ⟨b1, b2⟩ := Bool.and_eq_true_iff.mp hy
      exact leD_total.trans _ _ _ a2 b1
theorem sortG_eq (xs : List D) : sortG xs = xs.mergeSort (PySem.W.dataLe false toPy) := by
  refine PySem.W.sort_unique (le := leD) leD_total ?_ fun c => ?_
  · induction xs with
    | nil => exact .nil
    | cons x xs ih => exact insG_sorted x _ ih
  · induction xs with
    | nil => rfl
    | cons x xs ih => rw [sortG, insG_stable, List.filter_cons, List.filter_cons, ih]
def tupNE : D → Bool
  | .tup (_ :: _) => true
  | _ => false
def okSrt (xs : List D) : Bool := xs.all (okD 60) && (xs.all tupNE && xs.all fun d => xs.all fun e => PySem.W.alike (toPy d) (toPy e))
def oSortG : List D → Option D
  | [.lst xs] => if okSrt xs then some (.lst (sortG xs)) else none
  | _ => none
theorem each_isL {G : Gm} {Hs : Hp} : ∀ {ds : List D} {vs : List V}, IsL G Hs ds vs → EachIs (fun x d => Is G Hs d x ∧ d ∈ ds) vs ds
  | [], vs, h => by
    obtain rfl : vs = [] := h
    exact .nil
  | d :: ds, vs, h => by
    obtain ⟨v, r, rfl, i, m⟩ := h
    exact .cons ⟨i, by simp⟩ ((each_isL m).mono fun x d ⟨a, b⟩ => ⟨a, by simp [b]⟩)
theorem isL_each {G : Gm} {Hs : Hp} {P : D → Prop} : ∀ {ds : List D} {vs : List V}, EachIs (fun x d => Is G Hs d x ∧ P d) vs ds → IsL G Hs ds vs
  | _, _, .nil => rfl
  | _, _, .cons e t => ⟨_, _, rfl, e.1, isL_each t⟩
theorem of_sortG {K : PySem.W.Frag} {mg : Str → Option Value} : OpCF ⟨K, mg⟩ (rSortedG K) oSortG := fun {Hs H ds d vs Q} l m e q => by
  unfold oSortG at e
  split at e
  · rename_i xs
    split at e
    · rename_i ok
      obtain rfl := Option.some.inj e
      obtain ⟨v, rfl, i⟩ := isL1 m
      obtain ⟨p, ws, rfl, s, m2⟩ := i
      unfold okSrt at ok
      obtain ⟨o1, o2⟩ := Bool.and_eq_true_iff.mp ok
      obtain ⟨o2, o3⟩ := Bool.and_eq_true_iff.mp o2
      have o1 := List.all_eq_true.mp o1
      have o2 := List.all_eq_true.mp o2
      have o3 := List.all_eq_true.mp o3
      refine ⟨p, ws, xs, fun x d => Is ⟨K, mg⟩ Hs d x ∧ d ∈ xs, rfl, l.lq s, each_isL m2, fun x d ⟨h, hm⟩ => is_dp 60 d x (o1 d hm) (Is.mono l _ _ h), fun a ha b hb => ?_, .inl fun a ha => ?_, fun d hd => (ok_lay 60 d (o1 d hd)).2, fun ys a p1 n => ?_⟩
      · obtain ⟨a', ha', rfl⟩ := List.mem_map.mp ha
        obtain ⟨b', hb', rfl⟩ := List.mem_map.mp hb
        exact List.all_eq_true.mp (o3 a' ha') b' hb'
      · obtain ⟨a', ha', rfl⟩ := List.mem_map.mp ha
        have := o2 a' ha'
        unfold tupNE at this
        split at this
        · exact ⟨_, _, rfl⟩
        · cases this
      · refine q a _ n fun Hs' l' => ?_
        show OIs _ Hs' _ (D.lst (sortG xs)) a
        rw [sortG_eq]
        exact ⟨ys, upd_same, IsL.mono l' _ _ (isL_each p1)⟩
    · cases e
  · cases e
/-- flat tuples of numbers as before, any other alike tuples by their data -/
def oSort3 (ds : List D) : Option D := match oSort2 ds with
  | some d => some d
  | none => oSortG ds
theorem of_sort3 {K : PySem.W.Frag} {mg : Str → Option Value} : OpCF ⟨K, mg⟩ (fun xs H Q => (rSortedLx K xs H Q ∨ (rSortedI K xs H Q ∨ rSortedDK xs H Q)) ∨ rSortedG K xs H Q) oSort3 := fun {Hs H ds d vs Q} l m e q => by
  unfold oSort3 at e
  split at e
  · rename_i d' e2
    obtain rfl := Option.some.inj e
    exact .inl (of_sort2 l m e2 q)
  · exact .inr (of_sortG l m e q)
section
variable {X : Cx} {T : Tb} {W : WX} {k : Nat} {a : Expr} {f : Env' → Ro D} {p pos : Pos}
theorem sf_sorted3 (hu : X.A.units + 100 < cLine) (hcalm : X.calm = true) (hg : Gl X "sorted") (hm : X.mg "sorted" = none) (ha : SE X T W a f) (h0 : starEach [a] X.env = (false, eval a X.env) :: starEach [] X.env := by rfl) : SF X T W (.Call (.Name "sorted" p) [a] [] pos) (eCall oSort3 (aCons f aNil)) :=
  sf_callB (CallR.or (CallR.or cr_sortedLx (CallR.or cr_sortedI (cr_sortedDK hcalm))) (cr_sortedG hu)) of_sort3 hg hm (by decide +kernel) (sa_cons ha sa_nil h0) (by decide) (by decide) h0 (by rfl)
end
end
end Rf

/-! ## min of a list of alike tuples (nested, too) -/
namespace Rf
section
open PySem PySem.Spec PyProof.Rows L2
open PySem.W (EachIs)
open PySem.W
theorem each_at {α β : Type} {R : α → β → Prop} : ∀ {as : List α} {bs : List β}, EachIs R as bs → ∀ {i : Nat} {a : α}, as[i]? = some a → ∃ b, b ∈ bs ∧ R a b
  | _, _, .nil, i, a, h => by simp at h
  | _, _, .cons e t, 0, a, h => by
    have h := Option.some.inj h
    subst h
    exact ⟨_, by simp, e⟩
  | _, _, .cons e t, i + 1, a, h => by
    obtain ⟨b, h1, h2⟩ := each_at t (i := i) (a := a) (by simpa using h)
    exact ⟨b, by simp [h1], h2⟩
theorem minD_mem (x : PyData) : ∀ xs : List PyData, minD x xs ∈ x :: xs := by
  intro xs
  unfold minD
  induction xs generalizing x with
  | nil => simp
  | cons y ys ih =>
    rw [List.foldl_cons]
    split
    · have := ih y
      simp only [List.mem_cons] at this ⊢
      exact .inr this
    · have := ih x
      simp only [List.mem_cons] at this ⊢
      rcases this with h | h
      · exact .inl h
      · exact .inr (.inr h)
theorem each_dp {K : PySem.W.Frag} {H : Hp} {R : V → D → Prop} (hd : ∀ x d, R x d → Dp K H x (toPy d)) : ∀ {xs : List V} {ds : List D}, EachIs R xs ds → DpAll K H xs (ds.map toPy)
  | _, _, .nil => .nil
  | _, _, .cons e t => .cons (hd _ _ e) (each_dp hd t)
def rMinG (K : PySem.W.Frag) : List V → Hp → VK → Prop := fun vs H Q => ∃ (a : Addr) (xs : List V) (d0 : D) (ds : List D) (R : V → D → Prop), vs = [V.ref a] ∧ SqL K H a xs ∧ EachIs R xs (d0 :: ds) ∧ (∀ x d, R x d → Dp K H x (toPy d)) ∧
  AlikeAll ((d0 :: ds).map toPy) ∧ PyData.depthAll ((d0 :: ds).map toPy) ≤ 60 ∧ ∀ x d, d ∈ d0 :: ds → R x d → toPy d = minD (toPy d0) (ds.map toPy) → Q x H
theorem cr_minG {X : Cx} (hu : X.A.units + 100 < cLine) (hc : X.calm = true) : CallR X (.builtin "min") (rMinG X.K) := by
  intro pins s σ H vs us Q I r h
  obtain ⟨a, xs, d0, ds, R, rfl, hs, e, hd, hal, hdep, q⟩ := h
  obtain ⟨its, rv, hl, hz⟩ := I.list hs
  obtain ⟨u, rfl, ru⟩ := vals1 r
  obtain rfl : u = Value.ref a := ru
  obtain ⟨as, rd⟩ := Dp.readsAll I _ _ _ (each_dp hd e) rv
  have e' := each_rel rv e
  rw [List.map_cons] at rd hal hdep
  refine min_list_data (I.ok.hd hc) hl.isList (by simpa using rd) hal (by omega) fun i v h' tk bs hv rm keep => ?_
  obtain ⟨d, hm, x, rx, rR⟩ := each_at e' (i := i) (a := v) (by simpa using hv)
  have I1 : Inv X pins σ H { s with heap := h', toks := tk } := I.kept keep
  obtain ⟨as2, r2⟩ := Dp.reads I (toPy d) x v (hd x d rR) rx
  have r3 := PyProof.Rows.Reads.keeps keep r2
  have hm2 : toPy d ∈ toPy d0 :: ds.map toPy := by
    have := List.mem_map_of_mem (f := toPy) hm
    rwa [List.map_cons] at this
  have eq := PySem.W.alike_unique (toPy d) (minD (toPy d0) (ds.map toPy)) v as2 bs (hal.1 _ hm2 _ (minD_mem _ _)) r3 rm
  exact ⟨x, H, I1, rx, q x d hm rR eq⟩
end
section
open PySem L2 LamX
open PySem.W (EachIs)
open PySem.W
mutual
theorem toPy_inj : ∀ (d e : D) (n m : Nat), okD n d = true → okD m e = true → toPy d = toPy e → d = e
  | .non, e, n, m, _, h, q => by cases e <;> first | rfl | (cases q; done) | (cases h; done)
  | .bl b, e, n, m, _, h, q => by cases e <;> first | (cases q; rfl; done) | (cases q; done) | (cases h; done)
  | .int i, e, n, m, _, h, q => by cases e <;> first | (cases q; rfl; done) | (cases q; done) | (cases h; done)
  | .str x, e, n, m, _, h, q => by cases e <;> first | (cases q; rfl; done) | (cases q; done) | (cases h; done)
  | .tup xs, e, n, m, k, h, q => by
    cases n with
    | zero => cases k
    | succ n =>
      cases e with
      | tup ys =>
        cases m with
        | zero => cases h
        | succ m =>
          have q : PyData.tuple (toPyL xs) = PyData.tuple (toPyL ys) := q
          rw [toPyL_inj xs ys n m k h (PyData.tuple.inj q)]
      | _ => first | (cases q; done) | (cases h; done)
  | .lst xs, e, n, m, k, h, q => by
    cases n with
    | zero => cases k
    | succ n =>
      cases e with
      | lst ys =>
        cases m with
        | zero => cases h
        | succ m =>
          have q : PyData.list (toPyL xs) = PyData.list (toPyL ys) := q
          rw [toPyL_inj xs ys n m k h (PyData.list.inj q)]
      | _ => first | (cases q; done) | (cases h; done)
  | .dK _ _, e, n, m, k, h, q => by cases k
  | .dT _ _, e, n, m, k, h, q => by cases k
  | .fn _, e, n, m, k, h, q => by cases k
  | .scr _, e, n, m, k, h, q => by cases k
  | .ctup _, e, n, m, k, h, q => by cases k
theorem toPyL_inj : ∀ (xs ys : List D) (n m : Nat), okL n xs = true → okL m ys = true → toPyL xs = toPyL ys → xs = ys
  | [], [], _, _, _, _, _ => rfl
  | [], y :: ys, _, _, _, _, q => by cases q
  | x :: xs, [], _, _, _, _, q => by cases q
  | x :: xs, y :: ys, n, m, k, h, q => by
    obtain ⟨k1, k2⟩ := Bool.and_eq_true_iff.mp (show (okD n x && okL n xs) = true from k)
    obtain ⟨h1, h2⟩ := Bool.and_eq_true_iff.mp (show (okD m y && okL m ys) = true from h)
    have q : toPy x :: toPyL xs = toPy y :: toPyL ys := q
    obtain ⟨q1, q2⟩ := List.cons.inj q
    rw [toPy_inj x y n m k1 h1 q1, toPyL_inj xs ys n m k2 h2 q2]
end
def ltD (a b : D) : Bool := dataLt (toPy a) (toPy b)
def minG (d : D) (ds : List D) : D := ds.foldl (fun a y => if ltD y a then y else a) d
theorem minG_py (d : D) : ∀ ds : List D, toPy (minG d ds) = minD (toPy d) (ds.map toPy) := by
  intro ds
  unfold minG minD
  induction ds generalizing d with
  | nil => rfl
  | cons y ys ih =>
    rw [List.foldl_cons, List.map_cons, List.foldl_cons]
    unfold ltD
    split
    · exact ih y
    · exact ih d
theorem minG_mem (d : D) : ∀ ds : List D, minG d ds ∈ d :: ds := by
  intro ds
  unfold minG
  induction ds generalizing d with
  | nil => simp
  | cons y ys ih =>
    rw [List.foldl_cons]
    split
    · have := ih y
      simp only [List.mem_cons] at this ⊢
      exact .inr this
    · have := ih d
      simp only [List.mem_cons] at this ⊢
      rcases this with h | h
      · exact .inl h
      · exact .inr (.inr h)
theorem dep_all : ∀ (ds : List D), (∀ d ∈ ds, okD 59 d = true) → PyData.depthAll (ds.map toPy) ≤ 60
  | ds, h => by
    have : okL 59 ds = true := by
      induction ds with
      | nil => rfl
      | cons d ds ih =>
        show (okD 59 d && okL 59 ds) = true
        rw [h d (by simp), ih fun e he => h e (by simp [he])]
        rfl
    have e : ∀ ds : List D, toPyL ds = ds.map toPy := fun ds => by
      induction ds with
      | nil => rfl
      | cons d ds ih => exact congrArg (toPy d :: ·) ih
    have := (okL_lay 59 ds this).2
    rw [e] at this
    omega
def oMinG : List D → Option D
  | [.lst (d :: ds)] => if (d :: ds).all (okD 59) && ((d :: ds).all tupNE && (d :: ds).all fun x => (d :: ds).all fun e => alike (toPy x) (toPy e)) then some (minG d ds) else none
  | _ => none
theorem oc_minG {K : PySem.W.Frag} {mg : Str → Option Value} : OpC ⟨K, mg⟩ (rMinG K) oMinG := fun {Hs H ds d vs Q} l m e j => by
  unfold oMinG at e
  split at e
  · rename_i d0 xs
    split at e
    · rename_i ok
      obtain rfl := Option.some.inj e
      obtain ⟨v, rfl, i⟩ := isL1 m
      obtain ⟨p, ws, rfl, s, m2⟩ := i
      obtain ⟨o1, o2⟩ := Bool.and_eq_true_iff.mp ok
      obtain ⟨o2, o3⟩ := Bool.and_eq_true_iff.mp o2
      have o1 := List.all_eq_true.mp o1
      have o2 := List.all_eq_true.mp o2
      have o3 := List.all_eq_true.mp o3
      refine ⟨p, ws, d0, xs, fun x d => Is ⟨K, mg⟩ Hs d x ∧ d ∈ d0 :: xs, rfl, l.lq s, each_isL m2, fun x d ⟨h, hm⟩ => is_dp 59 d x (o1 d hm) (Is.mono l _ _ h), ⟨fun a ha b hb => ?_, fun a ha => ?_⟩, dep_all _ o1, fun x d hm ⟨hx, _⟩ q => ?_⟩
      · obtain ⟨a', ha', rfl⟩ := List.mem_map.mp ha
        obtain ⟨b', hb', rfl⟩ := List.mem_map.mp hb
        exact List.all_eq_true.mp (o3 a' ha') b' hb'
      · obtain ⟨a', ha', rfl⟩ := List.mem_map.mp ha
        have := o2 a' ha'
        unfold tupNE at this
        split at this
        · exact fun z => by cases z
        · cases this
      · rw [← minG_py] at q
        have := toPy_inj d (minG d0 xs) 59 59 (o1 d hm) (o1 _ (minG_mem d0 xs)) q
        subst this
        exact j x H (New.refl H) fun Hs' l' _ => Is.mono l' _ _ hx
    · cases e
  · cases e
/-- numbers as before, alike tuples by their data -/
def oMin3 (ds : List D) : Option D := match oMx minL ds with
  | some d => some d
  | none => oMinG ds
variable {X : Cx} {T : Tb} {W : WX} {k : Nat} {a : Expr} {f : Env' → Ro D} {p pos : Pos}
theorem se_min3 (hu : X.A.units + 100 < cLine) (hc : X.calm = true) (hg : Gl X "min") (hm : X.mg "min" = none) (ha : SE X T W a f) (h0 : starEach [a] X.env = (false, eval a X.env) :: starEach [] X.env := by rfl) : SE X T W (.Call (.Name "min" p) [a] [] pos) (eCall oMin3 (aCons f aNil)) :=
  se_callB (CallR.or (cr_min hc) (cr_minG hu hc)) (fun {Hs H ds d vs Q} l m e j => by
    unfold oMin3 at e
    split at e
    · rename_i d' e2
      obtain rfl := Option.some.inj e
      exact .inl (oc_min l m e2 j)
    · exact .inr (oc_minG l m e j)) hg hm (by decide +kernel) (sa_cons ha sa_nil h0) (by decide) (by decide) h0 (by rfl)
end
end Rf

namespace Rf
open PySem L2 LamX
/-! ## zip of two, lists and tuples in any mix -/
def SqK (b : Bool) (K : PySem.W.Frag) (H : Hp) (a : Addr) (xs : List V) : Prop := match b with
  | true => SqT K H a xs
  | false => SqL K H a xs
def isIt (b : Bool) (h : Heap) (i l : Addr) (k : Nat) : Prop := match b with
  | true => h.IsTupleIter i l k
  | false => h.IsListIter i l k
def isSq (b : Bool) (h : Heap) (l : Addr) (its : Array Value) : Prop := match b with
  | true => h.IsTuple l its
  | false => h.IsList l its
def itO (b : Bool) (l : Addr) : Obj := match b with
  | true => { cls := .type "tuple_iterator", data := .fields #[.ref l, .int 0 0] }
  | false => { cls := .type "list_iterator", data := .fields #[.ref l, .int 0 0] }
theorem draws_K (b : Bool) {prog : Program} {w : World} {A : Around} (hh : A.handled = none) (it l : Addr) (hne : l ≠ it) (its : Array Value) : Draws prog w A it [it, l] its.size (fun i v => its[i]? = some v) (fun i h => isIt b h it l i ∧ isSq b h l its) := by
  cases b
  · exact Draws.list hh it l hne its
  · exact Draws.tuple hh it l hne its
theorem begins_K (b : Bool) (l : Addr) (its : Array Value) : Begins (.ref l) (itO b l) fun h => isSq b h l its := by
  cases b
  · exact begins_list l its
  · exact begins_tuple l its
theorem isIt_obj {b : Bool} {h : Heap} {i l : Addr} {k : Nat} (q : isIt b h i l k) : ∃ o vs, h.get? i = some o ∧ o.data = .fields vs := by
  cases b
  · obtain ⟨o, e, _, d⟩ := q; exact ⟨o, _, e, d⟩
  · obtain ⟨o, e, _, d⟩ := q; exact ⟨o, _, e, d⟩
theorem isIt_at {b : Bool} {h h' : Heap} {i l : Addr} {k : Nat} (q : isIt b h i l k) (kk : ∀ o, h.get? i = some o → h'.get? i = some o) : isIt b h' i l k := by
  cases b
  · exact Heap.IsListIter.at q kk
  · exact Heap.IsTupleIter.at q kk
theorem isIt_new {b : Bool} {h : Heap} {i l : Addr} (e : h.get? i = some (itO b l)) : isIt b h i l 0 := by
  cases b
  · exact ⟨_, e, rfl, rfl⟩
  · exact ⟨_, e, rfl, rfl⟩
theorem Inv_sqK {b : Bool} {X : Cx} {pins σ H s} {a : Addr} {xs : List V} (I : Inv X pins σ H s) (h : SqK b X.K H a xs) : ∃ its : List Value, Vals xs its ∧ isSq b s.heap a its.toArray ∧ a < s.heap.objs.size := by
  cases b
  · obtain ⟨its, r, p, _⟩ := I.list h
    exact ⟨its, r, p.isList, p.lt⟩
  · obtain ⟨its, r, p, _⟩ := I.tuple h
    obtain ⟨o, ho, _⟩ := id p
    exact ⟨its, r, p, Heap.lt_size ho⟩
theorem Inv_sqK_inj {b : Bool} {X : Cx} {pins σ H s} {a : Addr} {xs ys : List V} (I : Inv X pins σ H s) (h : SqK b X.K H a xs) (h' : SqK b X.K H a ys) : xs = ys := by
  cases b
  · exact I.list_inj h h'
  · exact I.tuple_inj h h'
/-- two parts, each a list or a tuple, as they stand at each turn; the items in new pairs -/
def ItzM (K : PySem.W.Frag) (b1 b2 : Bool) (a b : Addr) : It :=
  ⟨fun i H => ∃ (xs ys : List V) (x y : V), SqK b1 K H a xs ∧ SqK b2 K H b ys ∧ xs[i]? = some x ∧ ys[i]? = some y,
    fun i H v H' => ∃ T x y, v = .ref T ∧ H T = none ∧ H' = upd H T (.tup [x, y]) ∧ (∀ xs, SqK b1 K H a xs → xs[i]? = some x) ∧ ∀ ys, SqK b2 K H b ys → ys[i]? = some y,
    fun i H => ∃ xs ys : List V, SqK b1 K H a xs ∧ SqK b2 K H b ys ∧ i ≤ xs.length ∧ i ≤ ys.length ∧ (i = xs.length ∨ i = ys.length)⟩
theorem turn_zipM {P : Program} {w : World} {K : PySem.W.Frag} {elts : List Expr} {kk : Nat} {tpos : Pos} {b1 b2 : Bool} {a b z TI TO i1 i2 : Addr} (D : ZipSep2 z TI TO i1 i2 [i1, a] [i2, b]) (na1 : a ≠ i1) (na2 : b ≠ i2) :
    Turn P w K (.Tuple elts kk tpos) (ItzM K b1 b2 a b) [z, TI, TO, i1, i2] z (fun i h => IsZip h z TI TO .none ∧ IsTupOf2 h TI (.ref i1) (.ref i2) ∧ (∃ x y, IsTupOf2 h TO x y) ∧ isIt b1 h i1 a i ∧ isIt b2 h i2 b i) where
  mem := by simp
  obj := fun i h st c hc => by
    obtain ⟨hz, hTI, ⟨x, y, hTO⟩, t1, t2⟩ := st
    obtain ⟨o1, v1, e1, d1⟩ := isIt_obj t1
    obtain ⟨o2, v2, e2, d2⟩ := isIt_obj t2
    have e' : c = z ∨ c = TI ∨ c = TO ∨ c = i1 ∨ c = i2 := by simpa using hc
    rcases e' with q | q | q | q | q <;> subst q
    · exact ⟨_, hz, fun v q => nomatch q⟩
    · exact ⟨_, hTI, fun v q => nomatch q⟩
    · exact ⟨_, hTO, fun v q => nomatch q⟩
    · exact ⟨o1, e1, fun v q => by rw [d1] at q; cases q⟩
    · exact ⟨o2, e2, fun v q => by rw [d2] at q; cases q⟩
  keep := fun i h h' st k => by
    obtain ⟨hz, hTI, ⟨x, y, hTO⟩, h1, h2⟩ := st
    exact ⟨k z (by simp) _ hz, k TI (by simp) _ hTI, ⟨x, y, k TO (by simp) _ hTO⟩, isIt_at h1 (fun o q => k i1 (by simp) o q), isIt_at h2 (fun o q => k i2 (by simp) o q)⟩
  item := by
    intro X hP hw hK hc i pins s σ H E I hf st hg
    subst hP hw hK
    obtain ⟨hz, hTI, ⟨x0, y0, hTO⟩, h1, h2⟩ := st
    obtain ⟨xs, ys, x, y, hqx, hqy, hx, hy⟩ := hg
    obtain ⟨its, rv, p, _⟩ := Inv_sqK I hqx
    obtain ⟨its2, rv2, p2, _⟩ := Inv_sqK I hqy
    obtain ⟨u, hu, ru⟩ := rv.get hx
    obtain ⟨u2, hu2, ru2⟩ := rv2.get hy
    have hzl : z < s.heap.objs.size := Heap.lt_size hz
    have A1 : X.A.in1.handled = none := I.ok.hd hc
    refine wpAny_pyNext_zipD2_item D (draws_K b1 A1 i1 a na1 its.toArray) (draws_K b2 A1 i2 b na2 its2.toArray) hz hTI hTO ⟨h1, p⟩ ⟨h2, p2⟩ (by simpa using (List.getElem?_eq_some_iff.mp hu).1) (by simpa using (List.getElem?_eq_some_iff.mp hu2).1) fun v1 v2 h' tk g1 g2 hz' hTO' st1 st2 hT hsz hk => ?_
    have e1 : v1 = u := by rw [show its.toArray[i]? = some u by simpa using hu] at g1; exact (Option.some.inj g1).symm
    have e2 : v2 = u2 := by rw [show its2.toArray[i]? = some u2 by simpa using hu2] at g2; exact (Option.some.inj g2).symm
    subst e1
    subst e2
    refine ⟨_, rfl, wpAny_letOwnedTupleGo_zip (s := { s with heap := h', toks := tk }) hz' fun h'' z'' sb => ?_⟩
    have hT2 : h''.get? s.heap.objs.size = some { cls := .type "tuple", data := .seq #[v1, v2] } := (sb.2 _ (Nat.ne_of_gt hzl)).trans hT
    have new : ObjOk X.prog X.w (upd H s.heap.objs.size (.tup [x, y])) h'' s.heap.objs.size (.tup [x, y]) :=
      ⟨by show 2 ≤ sizeLine; decide, [v1, v2], .cons ru (.cons ru2 .nil), ⟨_, hT2, rfl, _, rfl⟩⟩
    have I1 : Inv X pins σ (upd H s.heap.objs.size (.tup [x, y])) { s with heap := h'', toks := tk } :=
      I.turnedNew (t' := tk) (ch := [z, TI, TO, i1, i2]) (fun c o hb q => (sb.2 c (fun q' => hb (by simp [q']))).trans (hk c o (fun q' => hb (by simp [q'])) (fun q' => hb (by simp [q'])) (fun q' => hb (by simp [q'])) (fun q' => hb (by simp [q'])) q)) hf (Nat.le_refl _) new
    refine ⟨.ref s.heap.objs.size, _, I1, rfl, ⟨_, x, y, rfl, I.hok.fresh (Nat.le_refl _), rfl, fun l hl => by rw [Inv_sqK_inj I hl hqx]; exact hx, fun l hl => by rw [Inv_sqK_inj I hl hqy]; exact hy⟩, ⟨z'', ?_, ⟨v1, v2, ?_⟩, ?_, ?_⟩, fun c hcm => ?_⟩
    · exact (sb.2 _ D.TIz).trans (hk _ _ D.TIz D.TITO D.TIi1 D.TIi2 hTI)
    · exact (sb.2 _ D.TOz).trans hTO'
    · exact isIt_at st1.1 fun o q => (sb.2 _ (Ne.symm D.zi1)).trans q
    · exact isIt_at st2.1 fun o q => (sb.2 _ (Ne.symm D.zi2)).trans q
    · have hlt : c < s.heap.objs.size := by
        obtain ⟨o1, _, e1, _⟩ := isIt_obj h1
        obtain ⟨o2, _, e2, _⟩ := isIt_obj h2
        have e' : c = z ∨ c = TI ∨ c = TO ∨ c = i1 ∨ c = i2 := by simpa using hcm
        rcases e' with q | q | q | q | q <;> rw [q]
        · exact hzl
        · exact Heap.lt_size hTI
        · exact Heap.lt_size hTO
        · exact Heap.lt_size e1
        · exact Heap.lt_size e2
      rw [upd_ne (Nat.ne_of_lt hlt)]
      exact (hf c hcm).1
  done := by
    intro X hP hw hK hc i pins s σ H E I hf st hg
    subst hP hw hK
    obtain ⟨hz, hTI, ⟨x0, y0, hTO⟩, h1, h2⟩ := st
    obtain ⟨xs, ys, hqx, hqy, g1, g2, g3⟩ := hg
    obtain ⟨its, rv, p, _⟩ := Inv_sqK I hqx
    obtain ⟨its2, rv2, p2, _⟩ := Inv_sqK I hqy
    have l1 := rv.length
    have l2 := rv2.length
    have A1 : X.A.in1.handled = none := I.ok.hd hc
    exact wpAny_pyNext_zipD2_end D (draws_K b1 A1 i1 a na1 its.toArray) (draws_K b2 A1 i2 b na2 its2.toArray) hz hTI hTO ⟨h1, p⟩ ⟨h2, p2⟩ (by simp; omega) (by simp; omega) (by simp; omega) fun h' tk hk => ⟨rfl, I.turnedL (t' := tk) (ch := [z, TI, TO, i1, i2]) (fun c o hb q =>
      hk c o (fun q' => hb (by simp [q'])) (fun q' => hb (by simp [q'])) (fun q' => hb (by simp [q'])) (fun q' => hb (by simp [q'])) q) hf⟩
  self := fun A i s Q E st h => wpAny_pyIter_zip st.1 h
def iZipM (K : PySem.W.Frag) (ta : TA) : TI := fun σ H R => ta σ H fun vs H1 => ∃ a b xs ys b1 b2, vs = [.ref a, .ref b] ∧ SqK b1 K H1 a xs ∧ SqK b2 K H1 b ys ∧ R (ItzM K b1 b2 a b) H1
theorem pi_zipM {X : Cx} {e e2 : Expr} {ta : TA} {p pos tpos : Pos} {elts : List Expr} {kk : Nat} (hg : Gl X "zip") (hm : X.mg "zip" = none) (ha : PA X [e, e2] ta)
    (hs : starEach [e, e2] X.env = (false, eval e X.env) :: starEach [e2] X.env := by rfl) (hpl : (backTo pos (starEach [e2] X.env)).any (·.1) = false := by rfl) :
    PI X (.Tuple elts kk tpos) (.Call (.Name "zip" p) [e, e2] [] pos) (iZipM X.K ta) := by
  refine ⟨fun pins s σ H R I h => ?_⟩
  refine PyProof.Rows.Call_ (ld_blt I hg hm PyProof.Rows.boot_zip (PyProof.Rows.callWith_type1 (thn (ha.run pos pins s σ H _ I h) fun us s1 ⟨vs, H1, I1, r1, q1⟩ => ?_) hs hpl))
  obtain ⟨a, b, xs, ys, b1, b2, ex, hqx, hqy, q⟩ := q1
  subst ex
  obtain ⟨v1, v2, rfl, r, r'⟩ : ∃ v1 v2, us = [v1, v2] ∧ RelV (.ref a) v1 ∧ RelV (.ref b) v2 := by
    cases r1 with
    | cons r rr =>
      cases rr with
      | cons r' rr => cases rr; exact ⟨_, _, rfl, r, r'⟩
  cases r
  cases r'
  obtain ⟨its, rv, p1, la⟩ := Inv_sqK I1 hqx
  obtain ⟨its2, rv2, p2, lb⟩ := Inv_sqK I1 hqy
  refine zip_begins2 (begins_K b1 a its.toArray) (begins_K b2 b its2.toArray) p1 p2 fun h' hz hTI hTO h1 h2 hsz hk => wpAny_pyIter_zip hz ?_
  have I2 : Inv X pins σ H1 { s1 with heap := h' } := I1.kept (t' := s1.toks) hk
  refine ⟨s1.heap.objs.size + 4, [s1.heap.objs.size + 4, s1.heap.objs.size + 2, s1.heap.objs.size + 3, s1.heap.objs.size, s1.heap.objs.size + 1], _, _, H1, rfl, I2,
    turn_zipM (b1 := b1) (b2 := b2) (zip_sep2 (fp1 := [a]) (fp2 := [b]) (by simpa using la) (by simpa using lb)) (Nat.ne_of_lt la) (Nat.ne_of_lt (Nat.lt_succ_of_lt lb)), ⟨hz, hTI, ⟨_, _, hTO⟩, isIt_new h1, isIt_new h2⟩, fun c hcm => ?_, q⟩
  have e' : c = s1.heap.objs.size + 4 ∨ c = s1.heap.objs.size + 2 ∨ c = s1.heap.objs.size + 3 ∨ c = s1.heap.objs.size ∨ c = s1.heap.objs.size + 1 := by simpa using hcm
  have hle : s1.heap.objs.size ≤ c := by
    rcases e' with z | z | z | z | z <;> rw [z]
    · exact Nat.le_add_right _ _
    · exact Nat.le_add_right _ _
    · exact Nat.le_add_right _ _
    · exact Nat.le_refl _
    · exact Nat.le_add_right _ _
  exact I1.fpOk hle (I1.hok.fresh hle)
section
variable {G : Gm} {Hs0 : Hp} {p p2 : Addr} {xs ys : List D} {vs ws : List V}
theorem sqK_le {b : Bool} {K : PySem.W.Frag} {H H' : Hp} (l : Le H H') {a : Addr} {us : List V} (s : SqK b K H a us) : SqK b K H' a us := by
  cases b
  · exact l.sqL s
  · exact l.sqT s
theorem JIs.zipM {b1 b2 : Bool} (s : SqK b1 G.K Hs0 p vs) (m : IsL G Hs0 xs vs) (s2 : SqK b2 G.K Hs0 p2 ws) (m2 : IsL G Hs0 ys ws) : JIs G Hs0 (ItzM G.K b1 b2 p p2) (List.zipWith (fun x y => D.tup [x, y]) xs ys) where
  go := fun i Hs H hi l1 l2 => by
    rw [List.length_zipWith, IsL.length m, IsL.length m2] at hi
    have h1 : i < vs.length := by omega
    have h2 : i < ws.length := by omega
    exact ⟨vs, ws, vs[i], ws[i], sqK_le (l1.trans l2) s, sqK_le (l1.trans l2) s2, by simp [h1], by simp [h2]⟩
  stop := fun Hs H l1 l2 => ⟨vs, ws, sqK_le (l1.trans l2) s, sqK_le (l1.trans l2) s2, by rw [List.length_zipWith, IsL.length m, IsL.length m2]; omega⟩
  yld := fun i d Hs H x H' hd l1 l2 h => by
    obtain ⟨T, x1, y1, rfl, hn, rfl, a1, a2⟩ := h
    obtain ⟨d1, d2, g1, g2, rfl⟩ := get_zip hd
    obtain ⟨v, e1, e2⟩ := IsL.get m g1
    obtain ⟨w, e3, e4⟩ := IsL.get m2 g2
    have q1 := a1 vs (sqK_le (l1.trans l2) s)
    have q2 := a2 ws (sqK_le (l1.trans l2) s2)
    rw [e1] at q1
    rw [e3] at q2
    obtain rfl := Option.some.inj q1
    obtain rfl := Option.some.inj q2
    exact ⟨new_upd hn, fun Hs' l3 k => pair_is (l1.trans l3) hn k e2 e4⟩
end
def seqT : D → Option (Bool × List D)
  | .tup xs => some (true, xs)
  | .ctup xs => some (true, xs)
  | .lst xs => some (false, xs)
  | _ => none
theorem seqT_is {G : Gm} {Hs : Hp} {d : D} {v : V} {b : Bool} {xs : List D} (h : seqT d = some (b, xs)) (i : Is G Hs d v) : ∃ p vs, v = .ref p ∧ SqK b G.K Hs p vs ∧ IsL G Hs xs vs := by
  unfold seqT at h
  split at h
  · cases h
    obtain ⟨p, vs, rfl, s, m⟩ := i
    exact ⟨p, vs, rfl, .inl (.inl s), m⟩
  · cases h
    obtain ⟨p, vs, rfl, s, m⟩ := i
    exact ⟨p, vs, rfl, s, m⟩
  · cases h
    obtain ⟨p, vs, rfl, s, m⟩ := i
    exact ⟨p, vs, rfl, .inl (.inl s), m⟩
  · cases h
/-- the pairs of two, lists or tuples in any mix -/
def zipD3 (a b : D) : Option (List D) := match seqT a, seqT b with
  | some (_, xs), some (_, ys) => some (List.zipWith (fun x y => D.tup [x, y]) xs ys)
  | _, _ => none
def iZip3 (f g : Env' → Ro D) : Env' → Ro (List D) := fun env => (f env).bind fun d e => (g e).bind fun d' e => lift (zipD3 d d') e
section
variable {X : Cx} {T : Tb} {W : WX} {k : Nat} {a b c tg : Expr} {f g u : Env' → Ro D} {pos p tpos : Pos} {elts : List Expr} {kk : Nat}
theorem si_zip3 (hg : Gl X "zip") (hm : X.mg "zip" = none) (ha : SE X T W a f) (hb : SE X T W b g) (hs : starEach [a, b] X.env = (false, eval a X.env) :: starEach [b] X.env := by rfl) (hs2 : starEach [b] X.env = (false, eval b X.env) :: starEach [] X.env := by rfl)
    (hpl : (backTo pos (starEach [b] X.env)).any (·.1) = false := by rfl) : SI X T W (.Tuple elts kk tpos) (.Call (.Name "zip" p) [a, b] [] pos) (iZip3 f g) :=
  PI.weak (pi_zipM hg hm (pa_cons ha (pa_cons hb pa_nil hs2) hs) hs hpl) fun σ H R h => rd_bind h fun F env d v H1 S1 i1 h1 => ⟨F, env, S1, Rst.bind S1 h1 fun d' v' H2 env2 s2 S2 i2 h2 => by
    obtain ⟨zs, e, h2⟩ := lift_some h2
    replace i1 := Is.mono (s2.le F) _ _ i1
    unfold zipD3 at e
    split at e
    · rename_i b1 xs b2 ys e1 e2
      obtain rfl := Option.some.inj e
      obtain ⟨q1, vs, rfl, s1, m1⟩ := seqT_is e1 i1
      obtain ⟨q2, ws, rfl, s3, m2⟩ := seqT_is e2 i2
      exact ⟨q1, q2, vs, ws, b1, b2, rfl, sqK_le Le.unhid s1, sqK_le Le.unhid s3, fin_same (R := fun Hs ds J => JIs (gm X) Hs J ds) S2 (JIs.zipM s1 m1 s3 m2) h2⟩
    · cases e⟩
end
end Rf

namespace Rf
open PySem L2 LamX
/-! ## tools: the order of tuples -/
theorem ltD_int (x y : Int) (as bs : List D) : ltD (.tup (.int x :: as)) (.tup (.int y :: bs)) = (decide (x < y) || (!decide (y < x) && ltD (.tup as) (.tup bs))) := by
  show PyProof.Rows.lexLt PyProof.Rows.itemOrd (.inl 1 :: .inl x :: PySem.W.keyToksAll (toPyL as)) (.inl 1 :: .inl y :: PySem.W.keyToksAll (toPyL bs)) = _
  rw [PyProof.Rows.lex_cons, PyProof.Rows.lex_cons]
  rfl
theorem ltD_tup (xs ys as bs : List D) : ltD (.tup (.tup xs :: as)) (.tup (.tup ys :: bs)) = PyProof.Rows.lexLt PyProof.Rows.itemOrd (PySem.W.keyToksAll (toPyL xs) ++ PySem.W.keyToksAll (toPyL as)) (PySem.W.keyToksAll (toPyL ys) ++ PySem.W.keyToksAll (toPyL bs)) := by
  show PyProof.Rows.lexLt PyProof.Rows.itemOrd (.inl 1 :: (PySem.W.keyToksAll (toPyL xs) ++ PySem.W.keyToksAll (toPyL as))) (.inl 1 :: (PySem.W.keyToksAll (toPyL ys) ++ PySem.W.keyToksAll (toPyL bs))) = _
  rw [PyProof.Rows.lex_cons]
  rfl
theorem ltD_nil : ltD (.tup []) (.tup []) = false := by kernel_rfl
theorem leD_lt (a b : D) : leD a b = !ltD b a := rfl
theorem ltD_irr (a : D) : ltD a a = false := PyProof.Rows.lex_irrefl (O := PyProof.Rows.itemOrd) _
theorem sortG_two (a b : D) : sortG [a, b] = if ltD b a then [b, a] else [a, b] := by
  show (if leD a b then [a, b] else [b, a]) = _
  rw [leD_lt]
  cases ltD b a <;> rfl
/-- the least of two -/
theorem minG_two (a b : D) : minG a [b] = if ltD b a then b else a := rfl
theorem oSort3_of {L : List D} (h : oSort2 [.lst L] = none) (k : okSrt L = true) : oSort3 [.lst L] = some (.lst (sortG L)) := by
  unfold oSort3
  rw [h]
  show oSortG [.lst L] = _
  exact if_pos k
theorem oMin3_of {d : D} {ds : List D} (h : oMx minL [.lst (d :: ds)] = none) (k : ((d :: ds).all (okD 59) && ((d :: ds).all tupNE && (d :: ds).all fun x => (d :: ds).all fun e => PySem.W.alike (toPy x) (toPy e))) = true) : oMin3 [.lst (d :: ds)] = some (minG d ds) := by
  unfold oMin3
  rw [h]
  show oMinG [.lst (d :: ds)] = _
  exact if_pos k
end Rf

namespace Rf
open PySem L2 LamX
/-! ## {t: v, ..} with keys that are tuples -/
section
variable {prog : Program} {w : World} {K : Type} [DecidableEq K] {knd : HeapKind prog w K} {A : Around} {E : Value → Shared → Prop} {s : Shared}
theorem dict_pairsT {env : Env} {keys : List (Option Expr)} {values : List Expr} {pos : Pos} {Q : Value → Shared → Prop} (hu : knd.room A)
    (hall : keys.all (·.isSome) = true) (hl : keys.length = values.length) (h0 : keys ≠ []) (h15 : keys.length ≤ 15)
    (h : wpAny (model prog w) A (evalPairs (pairTrees keys values env pos)) (fun vs s₁ => ∃ ps, CarriesH knd s₁.heap vs ps ∧ s₁.heap.DictOfH knd s.heap.objs.size [] ∧
      ∀ h' tk, h'.DictOfH knd s.heap.objs.size (storedAllH [] ps) → Heap.SameBut s.heap.objs.size s₁.heap h' → Q (.ref s.heap.objs.size) { s₁ with heap := h', toks := tk }) E
      { s with heap := s.heap.push { cls := .type "dict", data := .dict #[] } }) :
    wpAny (model prog w) A (eval (.Dict keys values pos) env) Q E s := by
  have hn := pairTrees_length keys values env pos hall hl
  have hp0 : pairTrees keys values env pos ≠ [] := fun he => by
    rw [he] at hn
    exact h0 (List.length_eq_zero_iff.mp hn.symm)
  rw [arm_eval_Dict, zip_pairTrees keys values env pos hall hl, dictDisplay_pairs _ hp0 (by rw [hn]; omega)]
  exact wpAny_bind (wpAny_standAt (wpAny_bind (wpAny_subDictH (knd := knd) (Q := fun d s' => wpAny (model prog w) A (pure (Value.ref d)) Q E s') hu (by rw [hn]; exact h15)
    (wpAny_mono h (fun vs s₁ ⟨ps, hc, hm, hq⟩ => ⟨ps, hc, hm, fun h' tk a b => wpAny_pure (hq h' tk a b)⟩) fun _ _ e => e))))
end
abbrev TKV := List Key × Addr × V
def mergeT (kvs : List (List Key × V)) (more : List TKV) : List (List Key × V) := more.foldl (fun acc kv => putK acc kv.1 kv.2.2) kvs
theorem length_mergeT : ∀ (more : List TKV) (kvs : List (List Key × V)), (mergeT kvs more).length ≤ kvs.length + more.length
  | [], kvs => by show kvs.length ≤ kvs.length + 0; omega
  | p :: r, kvs => by
    have h1 := length_mergeT r (putK kvs p.1 p.2.2)
    have h2 := length_putK kvs p.1 p.2.2
    show (mergeT (putK kvs p.1 p.2.2) r).length ≤ _
    rw [List.length_cons]; omega
theorem carriesT {P : Program} {w : World} {H : Hp} {h : Heap} (ok : HOk P w H h) : ∀ {kvs : List TKV} {ws : List (Value × Value)}, VV (kvs.map fun kv => (V.ref kv.2.1, kv.2.2)) ws → (∀ kv ∈ kvs, H kv.2.1 = some (.tup (kv.1.map kV))) →
    ∃ rs : List (List Key × Addr × Value), CarriesH (tupleKind (mixKind P w)) h ws rs ∧ rs.length = kvs.length ∧ ∀ (as : List (List Key × V)) (xs : List (List Key × Addr × Value)), KT H as xs → KT H (mergeT as kvs) (storedAllH xs rs)
  | [], _, r, _ => by rw [List.map_nil] at r; cases r; exact ⟨[], True.intro, rfl, fun as xs k => k⟩
  | p :: kvs, _, r, hk => by
    rw [List.map_cons] at r
    cases r with
    | @cons a b as bs h0 t =>
      obtain ⟨rs, c, l, q⟩ := carriesT ok t fun kv hkv => hk kv (by simp [hkv])
      obtain ⟨b1, b2⟩ := b
      have k0 := hk p (by simp)
      refine ⟨(p.1, p.2.1, b2) :: rs, ⟨h0.1, rfl, key_of ok k0, c⟩, by rw [List.length_cons, List.length_cons, l], fun as xs k => ?_⟩
      exact q _ _ (k.put p.1 k0 h0.2)
def tDispT (trs : List (TE × TE)) : TE := fun σ H Q => ∀ p, H p = none → tPairs trs σ (upd H p (.dT [])) fun ps H2 => H2 p = some (.dT []) ∧ ∃ kvs : List TKV, ps = kvs.map (fun kv => (V.ref kv.2.1, kv.2.2)) ∧ (∀ kv ∈ kvs, H2 kv.2.1 = some (.tup (kv.1.map kV))) ∧ kvs.length ≤ 15 ∧ Q (.ref p) (upd H2 p (.dT (mergeT [] kvs)))
theorem pe_dispT {X : Cx} {pos : Pos} {keys : List (Option Expr)} {values : List Expr} {trs : List (TE × TE)} (hu : X.A.units + 1 < cLine) (h : PPs X pos keys values trs) (hall : keys.all (·.isSome) = true) (hl : keys.length = values.length) (h0 : keys ≠ [])
    (h15 : keys.length ≤ 15) : PE X (.Dict keys values pos) (tDispT trs) := by
  refine ⟨fun pins s σ H Q I q => ?_⟩
  have hn := I.hok.fresh (Nat.le_refl s.heap.objs.size)
  have I1 := I.laid (a := s.heap.objs.size) (o := .dT []) (h' := s.heap.push { cls := .type "dict", data := .dict #[] }) (t' := s.toks) (fun _ _ q => Heap.get?_push_of_some _ q) (Nat.le_refl _) (dt_empty s.heap I.big)
  have hr : (tupleKind (mixKind X.prog X.w)).room X.A := Nat.lt_of_succ_lt hu
  refine dict_pairsT (knd := tupleKind (mixKind X.prog X.w)) hr hall hl h0 h15 (thn (h.run pins _ σ _ _ I1 (q _ hn)) fun ws s2 ⟨ps, H2, I2, rel, e, kvs, ep, hk, lk, q2⟩ => ?_)
  subst ep
  obtain ⟨rs, c, lr, rk⟩ := carriesT I2.hok rel hk
  obtain ⟨z, hd, xs0, r0, dd⟩ := dt_of I2.hok e
  cases r0
  refine ⟨rs, c, dd, fun h' tk dd' hs => ⟨.ref s.heap.objs.size, _, ?_, rfl, q2⟩⟩
  have hz : (mergeT [] kvs).length ≤ sizeLine := by
    have h1 := length_mergeT kvs []
    rw [List.length_nil] at h1
    rw [sizeLine_eq]; omega
  obtain ⟨o, es, epp, g1, g2, g3, g4, g5, g6⟩ := id dd'
  refine d_write I2 (by rw [e]; exact True.intro) hs ⟨o, g1⟩ ⟨hz, hd, storedAllH [] rs, (rk [] [] .nil).keeps fun b ys hb => ?_, o, es, epp, g1, g2, g3, g4, g6⟩
  rw [upd_ne fun z => by rw [z, e] at hb; cases hb]
  exact hb
/-! the layer's -/
def dispT : List ((Env' → Ro D) × (Env' → Ro D)) → Env' → Ro (List (List Key × D))
  | [], e => .ok [] e
  | (fk, fv) :: r, e => (fk e).bind fun kd e => (fv e).bind fun v e => (dispT r e).bind fun kvs e => match keysOf kd with
    | some kk => .ok ((kk, v) :: kvs) e
    | none => .stk
def mergeDT (kvs : List (List Key × D)) : List (List Key) × List D := kvs.foldl (fun a kv => putD a.1 a.2 kv.1 kv.2) ([], [])
def eDispT (r : List ((Env' → Ro D) × (Env' → Ro D))) : Env' → Ro D := fun env => (dispT r env).bind fun kvs e => .ok (.dT (mergeDT kvs).1 (mergeDT kvs).2) e
def PIsT (G : Gm) (Hs : Hp) (kvs : List (List Key × D)) (ps : List (V × V)) : Prop := ∃ bs : List Addr, ps.map (·.1) = bs.map V.ref ∧ Paired (fun (b : Addr) (kv : List Key × D) => Hs b = some (.tup (kv.1.map kV))) bs kvs ∧ IsL G Hs (kvs.map (·.2)) (ps.map (·.2))
def RstPT (G : Gm) (T : Tb) (F : Addr → Prop) (σ : St) (H : Hp) (env : Env') (W : WX) (Q : List (V × V) → Hp → Prop) : Ro (List (List Key × D)) → Prop
  | .ok kvs env' => ∀ ps H', Stp σ H env σ H' env' → Sta G T F σ H' env' → PIsT G (hid H' (Hd F σ env')) kvs ps → Q ps H'
  | .exc c p env' => ∀ cls dd H', Stp σ H env σ H' env' → Sta G T F σ H' env' → ExcIs G (hid H' (Hd F σ env')) H' c p cls dd → W cls dd σ H'
  | .stk => False
theorem keysOf_ref {G : Gm} {Hs : Hp} {d : D} {v : V} {ks : List Key} (e : keysOf d = some ks) (i : Is G Hs d v) : ∃ b, v = .ref b ∧ Hs b = some (.tup (ks.map kV)) := by
  unfold keysOf at e
  split at e
  · obtain ⟨b, ws, rfl, k1, k2⟩ := i
    have z1 := keysOfL_is e k2
    subst z1
    exact ⟨b, rfl, k1⟩
  · cases e
theorem pairs_ofT {G : Gm} {T : Tb} {F : Addr → Prop} {σ : St} {W : WX} : ∀ (r : List ((Env' → Ro D) × (Env' → Ro D))) {H : Hp} {env : Env'} {Q : List (V × V) → Hp → Prop}, Sta G T F σ H env → RstPT G T F σ H env W Q (dispT r env) →
    tPairs (r.map fun p => (rd G T (isD G) p.1 W, rd G T (isD G) p.2 W)) σ H Q
  | [], H, env, Q, S, h => h [] H .refl S ⟨[], rfl, .nil, rfl⟩
  | (fk, fv) :: r, H, env, Q, S, h => by
    refine ⟨F, env, S, ?_⟩
    unfold dispT at h
    show Rst G T (isD G) F σ H env W _ (fk env)
    cases e1 : fk env with
    | exc c q en => rw [e1] at h; exact h
    | stk => rw [e1] at h; exact h
    | ok kd en1 =>
      rw [e1] at h
      simp only [Ro.bind] at h
      intro x H1 s1 S1 i1
      refine ⟨F, en1, S1, ?_⟩
      show Rst G T (isD G) F σ H1 en1 W _ (fv en1)
      cases e2 : fv en1 with
      | exc c q en => rw [e2] at h; exact fun cls dd H' s st z => h cls dd H' (s1.trans s) st z
      | stk => rw [e2] at h; exact h
      | ok v en2 =>
        rw [e2] at h
        simp only at h
        intro y H2 s2 S2 i2
        refine pairs_ofT r S2 ?_
        cases e3 : dispT r en2 with
        | exc c q en => rw [e3] at h; exact fun cls dd H' s st z => h cls dd H' (s1.trans (s2.trans s)) st z
        | stk => rw [e3] at h; exact h
        | ok kvs en3 =>
          rw [e3] at h
          simp only at h
          intro ps H3 s3 S3 ⟨bs, p1, p2, p3⟩
          split at h
          · rename_i kk hk
            obtain ⟨b, rfl, hb⟩ := keysOf_ref hk (Is.mono ((s2.trans s3).le F) _ _ i1)
            exact h ((.ref b, y) :: ps) H3 (s1.trans (s2.trans s3)) S3 ⟨b :: bs, by rw [List.map_cons, List.map_cons, p1], .cons hb p2, y, ps.map (·.2), rfl, Is.mono (s3.le F) _ _ i2, p3⟩
          · exact h.elim
theorem merge_valT {G : Gm} {Hs H : Hp} (le : Le Hs H) : ∀ (kvs : List (List Key × D)) (ps : List (V × V)), PIsT G Hs kvs ps → ∃ ws : List TKV, ps = ws.map (fun kv => (V.ref kv.2.1, kv.2.2)) ∧ (∀ kv ∈ ws, H kv.2.1 = some (.tup (kv.1.map kV))) ∧ ws.length = kvs.length ∧ ∀ (ks : List (List Key)) (ds : List D) (vs : List V), ks.length = vs.length → IsL G Hs ds vs →
    ∃ vs', mergeT (ks.zip vs) ws = (kvs.foldl (fun a kv => putD a.1 a.2 kv.1 kv.2) (ks, ds)).1.zip vs' ∧ (kvs.foldl (fun a kv => putD a.1 a.2 kv.1 kv.2) (ks, ds)).1.length = vs'.length ∧ IsL G Hs (kvs.foldl (fun a kv => putD a.1 a.2 kv.1 kv.2) (ks, ds)).2 vs'
  | [], ps, ⟨bs, h1, h2, h3⟩ => by
    cases h2
    have : ps = [] := by simpa using h1
    subst this
    exact ⟨[], rfl, (fun kv h => by cases h), rfl, fun ks ds vs e m => ⟨vs, rfl, e, m⟩⟩
  | (k, d) :: kvs, ps, ⟨bs, h1, h2, h3⟩ => by
    cases h2 with
    | @cons b kv bs kvs' hb h2 =>
    cases ps with
    | nil => cases h1
    | cons p ps =>
      obtain ⟨x, y⟩ := p
      obtain ⟨e1, e2⟩ := List.cons.inj h1
      obtain ⟨v, r, e3, i, m⟩ := h3
      obtain ⟨rfl, rfl⟩ := List.cons.inj e3
      obtain ⟨ws, w1, w4, w2, w3⟩ := merge_valT le kvs ps ⟨bs, e2, h2, m⟩
      refine ⟨(k, b, y) :: ws, by rw [List.map_cons, ← w1]; exact congrArg (· :: ps) (Prod.ext e1 rfl), fun kv hkv => ?_, by rw [List.length_cons, List.length_cons, w2], fun ks ds vs e q => ?_⟩
      · rcases List.mem_cons.mp hkv with rfl | hkv
        · exact le.tp hb
        · exact w4 kv hkv
      · obtain ⟨vs', b1, b2, b3⟩ := putD_val (k := k) e q i
        obtain ⟨vs2, c1, c2, c3⟩ := w3 (putD ks ds k d).1 (putD ks ds k d).2 vs' b2 b3
        refine ⟨vs2, ?_, c2, c3⟩
        unfold mergeT at c1 ⊢
        rw [List.foldl_cons, b1, c1]
        rfl
section
variable {X : Cx} {T : Tb} {W : WX} {pos : Pos} {keys : List (Option Expr)} {values : List Expr} {r : List ((Env' → Ro D) × (Env' → Ro D))} {k : Nat}
theorem dispT_len : ∀ {r : List ((Env' → Ro D) × (Env' → Ro D))} {e e' : Env'} {kvs : List (List Key × D)}, dispT r e = .ok kvs e' → kvs.length = r.length
  | [], e, e', kvs, h => by
    cases h
    rfl
  | (f, g) :: r, e, e', kvs, h => by
    unfold dispT at h
    cases e1 : f e with
    | exc c q en => rw [e1] at h; cases h
    | stk => rw [e1] at h; cases h
    | ok kd en1 =>
      rw [e1] at h
      simp only [Ro.bind] at h
      cases e2 : g en1 with
      | exc c q en => rw [e2] at h; cases h
      | stk => rw [e2] at h; cases h
      | ok v en2 =>
        rw [e2] at h
        simp only at h
        cases e3 : dispT r en2 with
        | exc c q en => rw [e3] at h; cases h
        | stk => rw [e3] at h; cases h
        | ok ks en3 =>
          rw [e3] at h
          simp only at h
          split at h
          · cases h
            rw [List.length_cons, List.length_cons, dispT_len e3]
          · cases h
theorem sf_dispT (hu : X.A.units + 100 < cLine) (h : SPs X T W pos keys values r) (hall : keys.all (·.isSome) = true) (hl : keys.length = values.length) (h0 : keys ≠ []) (h15 : keys.length ≤ 15) (hr : r.length ≤ 15) : SF X T W (.Dict keys values pos) (eDispT r) :=
  PE.weak (pe_dispT (by omega) h hall hl h0 h15) fun σ H Q h p hp => by
    obtain ⟨F, env, S, h⟩ := h
    refine pairs_ofT r (S.newHid (o := .dT []) hp) ?_
    unfold eDispT at h
    have B0 : InK (gm X) T F p σ H env σ (upd H p (.dT [])) env (.dT [] []) := ⟨S.newHid hp, (New.upd hp).stp, ⟨[], upd_same, rfl, rfl⟩, hp, S.old.free (.inl hp)⟩
    cases e : dispT r env with
    | exc c q en =>
      rw [e] at h
      exact fun cls dd H' s st z => h cls dd H' ((New.upd hp).stp.trans s) st.open (exc_mono (le_open (G := gm X) (F := F)) z)
    | stk => rw [e] at h; exact h
    | ok kvs en =>
      rw [e] at h
      intro ps H2 s2 S2 hps
      have B2 := B0.step s2 S2
      obtain ⟨vs0, k1, k2, k3⟩ := B2.ac
      obtain rfl : vs0 = [] := List.eq_nil_of_length_eq_zero k2.symm
      obtain ⟨ws, w1, w4, w2, w3⟩ := merge_valT (H := H2) Le.unhid kvs ps hps
      obtain ⟨vs', b1, b2, b3⟩ := w3 [] [] [] rfl rfl
      refine ⟨k1, ws, w1, w4, by rw [w2, dispT_len e]; exact hr, ?_⟩
      rw [show ([] : List (List Key × V)) = ([] : List (List Key)).zip ([] : List V) from rfl, b1]
      have B3 := B2.put (o' := .dT ((mergeDT kvs).1.zip vs')) (d' := .dT (mergeDT kvs).1 (mergeDT kvs).2) fun Hs l => ⟨vs', upd_same, b2, IsL.mono l _ _ b3⟩
      exact h p _ B3.sp B3.st B3.ac hp
end
end Rf

namespace Rf
open PySem L2 LamX
open PyProof.Rows hiding St
/-! ## sorted of a dict whose keys are tuples of ints -/
def rSortedDT : List V → Hp → VK → Prop := fun xs H Q => ∃ (a : Addr) (kvs : List (List Key × V)) (kss : List (List Int)), xs = [.ref a] ∧ Rd H a (.dT kvs) ∧ kvs.map (·.1) = kss.map (fun ns => ns.map Sum.inl) ∧ (∀ ns ∈ kss, ns ≠ []) ∧
    ∀ (ys : List V) (p : Addr), (∀ y ∈ ys, ∃ b, y = V.ref b ∧ H b = some (.tup ((kH H y).map V.int))) → (ys.map (kH H)).Perm kss → (ys.map (kH H)).Pairwise leLx → H p = none → Q (.ref p) (upd H p (.lst ys))
theorem kH_ints {H : Hp} {b : Addr} {ns : List Int} (e : H b = some (.tup (ns.map V.int))) : kH H (.ref b) = ns := by
  simp only [kH, e, List.map_map]
  exact (List.map_congr_left fun _ _ => rfl).trans (List.map_id ns)
theorem cr_sortedDT {X : Cx} (hcalm : X.calm = true) : CallR X (.builtin "sorted") rSortedDT := by
  intro pins s σ H xs us Q I r q
  obtain ⟨a, kvs, kss, ex, hd, hks, hne, q⟩ := q
  subst ex
  obtain ⟨u, eu, rx⟩ := vals1 r
  subst eu
  cases rx
  obtain ⟨z, lo, ks, pr, o, es, ep, ho, hx, hdt, he, hn⟩ := (show ObjOk X.prog X.w H s.heap a (.dT kvs) from hd.ok I.hok)
  have l1 : es.size = ks.length := size_of_entries he
  have l2 : kvs.length = ks.length := Paired.length pr
  have h16 : es.size ≤ sizeLine := by omega
  -- the keys' addresses
  have hb : ∀ (kvs : List (List Key × V)) (ks : List (List Key × Addr × Value)) (kss : List (List Int)), Paired (fun (p : List Key × V) (q : List Key × Addr × Value) => p.1 = q.1 ∧ H q.2.1 = some (.tup (p.1.map kV)) ∧ RelV p.2 q.2.2) kvs ks → kvs.map (·.1) = kss.map (fun ns => ns.map Sum.inl) →
      (ks.map fun x => kH H (V.ref x.2.1)) = kss ∧ ∀ x ∈ ks, H x.2.1 = some (.tup ((kH H (V.ref x.2.1)).map V.int)) := by
    intro kvs ks kss pr
    induction pr generalizing kss with
    | nil =>
      intro e
      cases kss with
      | nil => exact ⟨rfl, fun x hx => nomatch hx⟩
      | cons n r => cases e
    | @cons p q ps qs h t ih =>
      intro e
      cases kss with
      | nil => cases e
      | cons n r =>
        obtain ⟨e1, e2⟩ := List.cons.inj e
        obtain ⟨i1, i2⟩ := ih r e2
        have h2 : H q.2.1 = some (.tup (n.map V.int)) := by
          rw [h.2.1, show p.1 = n.map Sum.inl from e1, List.map_map]
          rfl
        have h3 := kH_ints h2
        refine ⟨by rw [List.map_cons, h3, i1], fun x hx => ?_⟩
        rcases List.mem_cons.mp hx with rfl | hx
        · rw [h3]; exact h2
        · exact i2 x hx
  obtain ⟨hk1, hk2⟩ := hb kvs ks kss pr hks
  refine Calls.call_function_entry PyProof.Rows.kind_sorted PyProof.Rows.plain_sorted PyProof.Rows.entry_sorted (PyProof.Rows.args_sorted1 _) ?_
  unfold Builtin.«sorted»
  refine wpAny_bind (m := checkCount "sorted" 1 1 _) (wpAny_pure ?_)
  refine wpAny_bind (PySem.W.kdu_collect (A := X.A.in1) (kdl_raw lo hx hdt) (I.ok.hd hcalm) ho h16 fun h' tk acc hk it => ?_)
  have ea : acc.toList = (ks.map fun x => x.2.1).map Value.ref := by
    refine List.ext_getElem? fun j => ?_
    rw [List.map_map, List.getElem?_map]
    cases hj : acc.toList[j]? with
    | none =>
      have h1 := List.getElem?_eq_none_iff.mp hj
      rw [Array.length_toList, it.1, l1] at h1
      rw [List.getElem?_eq_none h1]; rfl
    | some v =>
      obtain ⟨en, hen, hv⟩ := it.2 j v (by rw [← Array.getElem?_toList]; exact hj)
      have qe := entry_at he j
      rw [hen] at qe
      cases hb : ks[j]? with
      | none =>
        rw [hb] at qe
        exact nomatch (show some en = none from qe)
      | some b =>
        rw [hb] at qe
        have e2 : en = entryOfKey (tupleKind (mixKind X.prog X.w)) b := Option.some.inj qe
        rw [hv, e2]; rfl
  have hal : acc.toList.length = ks.length := by rw [ea, List.length_map, List.length_map]
  have rv : Vals ((ks.map fun x => x.2.1).map V.ref) acc.toList := by rw [ea]; exact vals_refs _
  have I1 : Inv X pins σ H { s with heap := h', toks := tk } := I.kept hk
  have hp : ∀ v ∈ acc.toList, TS.TupInts h' v (kH H (backV v)) ∧ kH H (backV v) ≠ [] := fun v hv => by
    rw [ea, List.map_map] at hv
    obtain ⟨x, hx1, rfl⟩ := List.mem_map.mp hv
    obtain ⟨its2, r2, ht2, hz2⟩ := I1.tuple (.inl (.inl (hk2 x hx1)))
    refine ⟨⟨x.2.1, its2.toArray, rfl, ht2, by simpa [backV] using RZ.intsAre_vals r2⟩, ?_⟩
    refine hne _ ?_
    rw [← hk1]
    exact List.mem_map.mpr ⟨x, hx1, rfl⟩
  refine wpAny_bind (wpAny_newList ?_ (by rw [hal, ← l1]; exact h16))
  have hoL : (h'.push (seqObj "list" acc.toList.toArray 0)).get? h'.objs.size = some (seqObj "list" acc.toList.toArray 0) := Heap.get?_push_size _ rfl
  show wpAny _ _ _ _ _ { s with heap := h'.push (seqObj "list" acc.toList.toArray 0), toks := tk }
  refine wpAny_bind (wpAny_holding (wpAny_call_entry PyProof.Rows.slot_list_sort ⟨_, hoL, rfl⟩ PyProof.Rows.entry_list_sort
    (SrtO.list_sort_ord (s := { s with heap := h'.push (seqObj "list" acc.toList.toArray 0), toks := tk }) (ltv := fun v u => HT.lexLt (kH H (backV v)) (kH H (backV u))) (NtL.swo_lexL fun u => kH H (backV u)) hoL (by rw [hal, ← l1]; exact h16)
      (fun h2 => tups_sortable (k := fun u => kH H (backV u)) (by omega) (fun v hm => ⟨(hp v hm).1.keeps fun b o e _ => Heap.get?_push_of_some _ e, (hp v hm).2⟩) fun o e c => by
        have e' : some o = some (seqObj "list" acc.toList.toArray 0) := e.symm.trans hoL
        cases e'
        exact absurd (Value.type.inj c) (by decide)) fun out g1 g2 => ⟨_, rfl, ?_⟩) (PyProof.Rows.args_list_sort _)))
  obtain ⟨e', he'⟩ := PyProof.Rows.sortedHeap_at (vs := acc.toList) (out := out.toArray) hoL
  have pm : out.Perm acc.toList := g2.perm
  have h3 : ∀ u ∈ out, ∃ x ∈ ks, u = Value.ref x.2.1 := fun u hu => by
    have := pm.mem_iff.mp hu
    rw [ea, List.map_map] at this
    obtain ⟨x, hx1, rfl⟩ := List.mem_map.mp this
    exact ⟨x, hx1, rfl⟩
  have hlen : (out.map backV).length ≤ sizeLine := by
    rw [List.length_map, pm.length_eq, hal, ← l1]
    exact h16
  refine wpAny_pure ⟨_, rfl, .ref h'.objs.size, upd H h'.objs.size (.lst (out.map backV)), I1.laid (t' := tk) (fun b u e => ?_) (Nat.le_refl _)
    (show ObjOk X.prog X.w _ _ _ (.lst (out.map backV)) from ⟨hlen, out, e', vals_back fun u hu => (let ⟨x, _, e⟩ := h3 u hu; ⟨_, e⟩), he'⟩), rfl, q _ _ (fun y hy => ?_) ?_ ?_ (I1.hok.fresh (Nat.le_refl _))⟩
  · have hb : b < h'.objs.size := Heap.lt_size e
    rw [PyProof.Rows.sortedHeap_old (Nat.ne_of_lt hb) (by rw [size_push']; exact Nat.lt_succ_of_lt hb)]
    exact Heap.get?_push_of_some _ e
  · obtain ⟨u, hu, rfl⟩ := List.mem_map.mp hy
    obtain ⟨x, hx1, rfl⟩ := h3 u hu
    exact ⟨x.2.1, rfl, hk2 x hx1⟩
  · have p2 := (pm.map backV).map (kH H)
    rw [ea, List.map_map, List.map_map, List.map_map] at p2
    have e3 : List.map ((kH H ∘ backV) ∘ Value.ref) (ks.map fun x => x.2.1) = kss := by rw [List.map_map]; exact hk1
    rw [e3] at p2
    rw [List.map_map]
    exact p2
  · rw [List.map_map]
    exact List.pairwise_map.mpr (g1.imp fun {x y} z => z)
def intsK : List Key → Option (List Int)
  | [] => some []
  | .inl i :: r => (intsK r).map (i :: ·)
  | .inr _ :: _ => none
theorem intsK_is : ∀ {ks : List Key} {ns : List Int}, intsK ks = some ns → ks = ns.map Sum.inl
  | [], ns, h => by
    obtain rfl := Option.some.inj h
    rfl
  | .inl i :: r, ns, h => by
    unfold intsK at h
    cases e : intsK r with
    | none => rw [e] at h; cases h
    | some ms =>
      rw [e] at h
      obtain rfl := Option.some.inj h
      rw [intsK_is e]
      rfl
  | .inr _ :: _, ns, h => by cases h
def intKss : List (List Key) → Option (List (List Int))
  | [] => some []
  | k :: r => match intsK k, intKss r with
    | some (n :: ns), some ms => some ((n :: ns) :: ms)
    | _, _ => none
theorem intKss_is : ∀ {ks : List (List Key)} {nss : List (List Int)}, intKss ks = some nss → ks = nss.map (fun ns => ns.map Sum.inl) ∧ ∀ ns ∈ nss, ns ≠ []
  | [], nss, h => by
    obtain rfl := Option.some.inj h
    exact ⟨rfl, fun _ h => nomatch h⟩
  | k :: r, nss, h => by
    unfold intKss at h
    split at h
    · rename_i n ns ms e1 e2
      obtain rfl := Option.some.inj h
      obtain ⟨i1, i2⟩ := intKss_is e2
      refine ⟨by rw [List.map_cons, ← i1, ← intsK_is e1], fun x hx => ?_⟩
      rcases List.mem_cons.mp hx with rfl | hx
      · exact List.cons_ne_nil _ _
      · exact i2 x hx
    · cases h
def oSortDT : List D → Option D
  | [.dT ks ds] => if ks.length = ds.length then (intKss ks).map fun nss => .lst ((sortLx nss).map tupN) else none
  | _ => none
/-- a call that gives a new list, or dict, where all tuples are seen -/
def OpCT (G : Gm) (r : List V → Hp → VK → Prop) (o : List D → Option D) : Prop := ∀ {Hs H : Hp} {ds : List D} {d : D} {vs : List V} {Q : VK}, Le Hs H → (∀ b ws, H b = some (.tup ws) → Hs b = some (.tup ws)) → IsL G Hs ds vs → o ds = some d →
  (∀ p u, H p = none → (∀ Hs', Le Hs Hs' → OIs G Hs' (upd H p u) d p) → Q (.ref p) (upd H p u)) → r vs H Q
theorem OpCT.of {G : Gm} {r : List V → Hp → VK → Prop} {o : List D → Option D} (h : OpCF G r o) : OpCT G r o := fun l _ m e q => h l m e q
theorem tup_seen {G : Gm} {T : Tb} {F : Addr → Prop} {σ : St} {H : Hp} {env : Env'} (S : Sta G T F σ H env) : ∀ b ws, H b = some (.tup ws) → hid H (Hd F σ env) b = some (.tup ws) := fun b ws e => hid_some.mpr ⟨fun z => by
  have m := S.hd_mut z
  rw [e] at m
  exact m, e⟩
section
variable {X : Cx} {T : Tb} {W : WX} {k : Nat} {a b : Expr} {es : List Expr} {f g : Env' → Ro D} {x : Str} {p pos : Pos} {r : Env' → Ro (List D)}
theorem sf_callT {id : String} {t : List V → Hp → VK → Prop} {o : List D → Option D} (hc : CallR X (.builtin id) t) (hd : OpCT (gm X) t o) (hg : Gl X x) (hm : X.mg x = none) (hv : bootBuiltins x = some (.builtin id)) (ha : SA X T W (a :: es) r) (hn : x ≠ "__name__" := by decide) (hdb : (x == ("__debug__" : Str)) = false := by decide)
    (he : starEach (a :: es) X.env = (false, eval a X.env) :: starEach es X.env := by rfl) (hpl : (backTo pos (starEach es X.env)).any (·.1) = false := by rfl) : SF X T W (.Call (.Name x p) (a :: es) [] pos) (eCall o r) :=
  PE.weak (pe_callB hc hg hm hv ha hn hdb he hpl) fun σ H Q h => rdF_bind (R := isA (gm X)) h fun F env ds vs H1 S1 i1 h1 => by
    cases e : o ds with
    | none => rw [e] at h1; exact h1.elim
    | some d =>
      rw [e] at h1
      exact hd (Hs := hid H1 (Hd F σ env)) Le.unhid (tup_seen S1) i1 e fun p u hp q => fin_newF (d := d) S1 hp q h1
end
theorem is_tupN {G : Gm} {Hs H : Hp} {v : V} {b : Addr} (ev : v = .ref b) (e : Hs b = some (.tup ((kH H v).map V.int))) : Is G Hs (tupN (kH H v)) v := ⟨b, _, ev, e, IsL.of_ints _⟩
theorem of_sortDT {G : Gm} : OpCT G rSortedDT oSortDT := fun {Hs H ds d vs Q} l se m e q => by
  unfold oSortDT at e
  split at e
  · rename_i ks vals
    split at e
    · rename_i hl
      cases e1 : intKss ks with
      | none => rw [e1] at e; cases e
      | some nss =>
        rw [e1] at e
        obtain rfl := Option.some.inj e
        obtain ⟨v, rfl, i⟩ := isL1 m
        obtain ⟨p, ws, rfl, s, len, m2⟩ := i
        obtain ⟨z, zn⟩ := intKss_is e1
        subst z
        refine ⟨p, _, nss, rfl, .inl (l _ _ s fun ps z => by cases z), ?_, zn, fun ys a hy p1 p2 n => ?_⟩
        · rw [List.map_fst_zip]
          omega
        · have es := sortLx_eq p1 p2
          refine q a _ n fun Hs' l' => ?_
          show OIs _ Hs' _ (D.lst (List.map tupN (sortLx nss))) a
          rw [← es]
          refine ⟨ys, upd_same, isL_of fun v hv => ?_⟩
          obtain ⟨b, eb, hb⟩ := hy v hv
          exact Is.mono l' _ _ (is_tupN (H := H) eb (se _ _ hb))
    · cases e
  · cases e
/-- sorted, of dicts with keys that are tuples, too -/
def oSort4 (ds : List D) : Option D := match oSort3 ds with
  | some d => some d
  | none => oSortDT ds
theorem of_sort4 {K : PySem.W.Frag} {mg : Str → Option Value} : OpCT ⟨K, mg⟩ (fun xs H Q => ((rSortedLx K xs H Q ∨ (rSortedI K xs H Q ∨ rSortedDK xs H Q)) ∨ rSortedG K xs H Q) ∨ rSortedDT xs H Q) oSort4 := fun {Hs H ds d vs Q} l se m e q => by
  unfold oSort4 at e
  split at e
  · rename_i d' e1
    obtain rfl := Option.some.inj e
    exact .inl (of_sort3 l m e1 q)
  · exact .inr (of_sortDT l se m e q)
section
variable {X : Cx} {T : Tb} {W : WX} {k : Nat} {a : Expr} {f : Env' → Ro D} {p pos : Pos}
theorem sf_sorted4 (hu : X.A.units + 100 < cLine) (hcalm : X.calm = true) (hg : Gl X "sorted") (hm : X.mg "sorted" = none) (ha : SE X T W a f) (h0 : starEach [a] X.env = (false, eval a X.env) :: starEach [] X.env := by rfl) : SF X T W (.Call (.Name "sorted" p) [a] [] pos) (eCall oSort4 (aCons f aNil)) :=
  sf_callT (CallR.or (CallR.or (CallR.or cr_sortedLx (CallR.or cr_sortedI (cr_sortedDK hcalm))) (cr_sortedG hu)) (cr_sortedDT hcalm)) of_sort4 hg hm (by decide +kernel) (sa_cons ha sa_nil h0) (by decide) (by decide) h0 (by rfl)
end
end Rf

/-! ## x[-2::-1] of tuples that are not empty -/
namespace Rf
section
open PySem PySem.Spec PyProof.Rows
section
variable {prog : Program} {w : World} {A : Around} {E : Value → Shared → Prop} {s : Shared}
theorem sliceApplied_rev2 {sl : Addr} {vl vs : Value} {n : Nat} {Q : Int × Int × Nat → Shared → Prop} (hn : 0 < n) (hs : s.heap.IsSliceOf sl vl .none vs) (pl : IsPart vl (some (-2))) (ps : IsPart vs (some (-1)))
    (h : Q ((n : Int) - 2, -1, n - 1) s) : wpAny (model prog w) A (Builtin.Slice.sliceApplied (.ref sl) (pure (n : Int))) Q E s := by
  obtain ⟨os, hos, hcs, hds⟩ := id hs
  unfold Builtin.Slice.sliceApplied Builtin.Slice.sliceFields
  refine wpAny_bind (wpAny_bind (wpAny_field hos hds (x := vl) rfl (wpAny_bind (wpAny_field hos hds (x := .none) rfl (wpAny_bind (wpAny_field hos hds (x := vs) rfl (wpAny_pure ?_)))))))
  refine wpAny_bind (HT.slicePart_ ps ?_)
  show wpAny _ _ (if ((-1 : Int) == 0) = true then _ else _) _ _ s
  rw [if_neg (by decide)]
  refine wpAny_bind (HT.slicePart_ pl (wpAny_bind (slicePart_none (wpAny_bind (wpAny_pure ?_)))))
  have e0 : Builtin.Slice.sliceAdjust (some (-2)) none (-1) (n : Int) = ((n : Int) - 2, -1) := by
    unfold Builtin.Slice.sliceAdjust
    simp only [show ((-1 : Int) < 0) = True by simp, show ((-2 : Int) < 0) = True by simp, if_true]
    congr 1
    omega
  show wpAny _ _ (pure ((Builtin.Slice.sliceAdjust (some (-2)) none (-1) (n : Int)).1, (-1 : Int), Builtin.Slice.slicePlaces (Builtin.Slice.sliceAdjust (some (-2)) none (-1) (n : Int)).1 (Builtin.Slice.sliceAdjust (some (-2)) none (-1) (n : Int)).2 (-1))) _ _ s
  rw [e0]
  have e : Builtin.Slice.slicePlaces ((n : Int) - 2) (-1) (-1) = n - 1 := by
    unfold Builtin.Slice.slicePlaces
    have h1 : ¬ ((-1 : Int) > 0) := by omega
    simp only [h1, if_false]
    split
    · have : ((n : Int) - 2 - -1 - 1) / - -1 = (n : Int) - 2 := by
        rw [show - -1 = (1 : Int) by omega, Int.ediv_one]
        omega
      rw [this]
      omega
    · omega
  rw [e]
  exact wpAny_pure h
theorem pick_rev2 (xs : Array Value) (hn : 0 < xs.size) : ((List.range (xs.size - 1)).filterMap fun (k : Nat) => xs[(((xs.size : Int) - 2) + (k : Int) * (-1)).toNat]?).toArray = xs.toList.dropLast.reverse.toArray := by
  congr 1
  apply List.ext_getElem?
  intro i
  have hf : ∀ k ∈ List.range (xs.size - 1), xs[(((xs.size : Int) - 2) + (k : Int) * (-1)).toNat]? = some (xs.toList.getD (xs.size - 2 - k) default) := fun k hk => by
    have hk := List.mem_range.mp hk
    have : (((xs.size : Int) - 2) + (k : Int) * (-1)).toNat = xs.size - 2 - k := by omega
    rw [this, ← Array.getElem?_toList, List.getD_eq_getElem?_getD, List.getElem?_eq_getElem (by rw [Array.length_toList]; omega)]
    rfl
  rw [fm_some hf]
  rw [List.getElem?_map]
  by_cases hi : i < xs.size - 1
  · rw [List.getElem?_range hi, List.getElem?_reverse (by rw [List.length_dropLast, Array.length_toList]; exact hi), Option.map_some, List.length_dropLast, Array.length_toList, List.getD_eq_getElem?_getD, List.getElem?_dropLast, Array.length_toList, if_pos (by omega), List.getElem?_eq_getElem (by rw [Array.length_toList]; omega), List.getElem?_eq_getElem (by rw [Array.length_toList]; omega)]
    first
      | rfl
      | (congr 1; done)
      | (congr 1; first | rfl | omega | (simp only [Option.getD_some]; first | rfl | done | (congr 1; omega)))
  · rw [List.getElem?_eq_none (by simp; omega), List.getElem?_eq_none (by simp; omega)]
    rfl
theorem getItem_tuple_rev2 {t sl : Addr} {items : Array Value} {vl vs : Value} {Q : Value → Shared → Prop} (hn : 0 < items.size) (ht : IsTup s.heap t items) (hs : s.heap.IsSliceOf sl vl .none vs) (pl : IsPart vl (some (-2))) (ps : IsPart vs (some (-1)))
    (h : Q (.ref s.heap.objs.size) { s with heap := s.heap.push { cls := .type "tuple", data := .seq items.toList.dropLast.reverse.toArray } })
    (hsz : items.size ≤ sizeLine) : wpAny (model prog w) A (getItem (.ref t) (.ref sl)) Q E s := by
  have htake : sizeOk (.seq items.toList.dropLast.reverse.toArray) := by
    show items.toList.dropLast.reverse.toArray.size ≤ sizeLine
    rw [List.size_toArray, List.length_reverse, List.length_dropLast, Array.length_toList]
    omega
  obtain ⟨os, hos, hcs, hds⟩ := id hs
  have hTs : s.TypeIs (.ref sl) "slice" := ⟨os, hos, hcs⟩
  unfold getItem
  try with_reducible refine wpAny_holding ?_
  first | refine wpAny_bind (wpAny_pure ?_) | skip
  refine wpAny_bind (wpAny_sequenceKey ht.typeIs (by decide) ?_)
  refine wpAny_bind (wpAny_callSpecial?_slot (name := Str.ofString "__getitem__") ht.typeIs PyProof.Rows.slot_tuple_getitem
    (wpAny_call_entry PyProof.Rows.slot_tuple_getitem ht.typeIs entry_tuple_getitem ?_ (args_tuple_getitem _ _)))
  show wpAny _ _ (Builtin.Tuple.tupleItemsOf (.ref t) >>= _) _ _ s
  refine wpAny_bind (tupleItemsOf_ ht ?_)
  refine wpAny_bind (wpAny_typeOf hTs ?_)
  rw [if_pos (by decide)]
  refine wpAny_bind (sliceApplied_rev2 hn hs pl ps ?_)
  have hno : ¬ ((((items.size : Int) - 2) == 0 && (-1 : Int) == 1 && (items.size - 1) == items.size) = true) := by simp
  show wpAny _ _ (if (((items.size : Int) - 2) == 0 && (-1 : Int) == 1 && (items.size - 1) == items.size) = true then _ else _) _ _ s
  rw [if_neg hno, pick_rev2 _ hn]
  first
    | exact wpAny_bind (m := Builtin.Tuple.tupleExact _) (wpAny_newObj_type (wpAny_pure ⟨_, rfl, wpAny_pure h⟩) htake)
    | exact wpAny_bind (m := Builtin.Tuple.tupleExact _) (wpAny_newObj_type (wpAny_bind (wpAny_pure (wpAny_pure ⟨_, rfl, wpAny_pure h⟩))) htake)
    | exact wpAny_bind (wpAny_bind (m := Builtin.Tuple.tupleExact _) (wpAny_newObj_type (wpAny_pure (wpAny_pure ⟨_, rfl, wpAny_pure h⟩)) htake))
    | exact wpAny_bind (wpAny_bind (m := Builtin.Tuple.tupleExact _) (wpAny_newObj_type (wpAny_pure ⟨_, rfl, wpAny_pure h⟩) htake))
end
end
section
open PySem PySem.Spec PyProof.Rows L2
def tRev2 (K : PySem.W.Frag) (te : TE) : TE := fun σ H Q => te σ H fun x H1 => ∃ a xs, x = .ref a ∧ SqT K H1 a xs ∧ 0 < xs.length ∧ ∀ p, H1 p = none → Q (.ref p) (upd H1 p (.tup xs.dropLast.reverse))
theorem vals_dropLast : ∀ {xs : List V} {us : List Value}, Vals xs us → Vals xs.dropLast us.dropLast
  | [], _, h => by
    cases h
    exact .nil
  | [x], _, h => by
    cases h with
    | cons r t => cases t; exact .nil
  | x :: y :: ys, _, h => by
    cases h with
    | cons r t =>
      have t' := vals_dropLast t
      cases t with
      | cons r2 t2 => exact .cons r t'
theorem pe_rev2 {X : Cx} {e : Expr} {te : TE} {k k' : Nat} {p1 p2 p3 p4 p5 pos : Pos} (he : PE X e te) : PE X (.Subscript e (.Slice (some (.UnaryOp .USub (.Constant (.int 2) k' p4) p5)) none (some (.UnaryOp .USub (.Constant (.int 1) k p1) p2)) p3) pos) (tRev2 X.K te) := by
  refine ⟨fun pins s σ H Q I h => ?_⟩
  refine Subscript_ (thn (he.run pins s σ H _ I h) fun v s1 ⟨x, H1, I1, r1, q1⟩ => ?_)
  have hst : ∀ (c : Int) (k : Nat) (p1 p2 : Pos), PO X (some (.UnaryOp .USub (.Constant (.int c) k p1) p2)) (tPart (tUn (rU fun i => .int (-i)) (tC (.int c)))) := fun c k p1 p2 => po_some (pe_un un_neg pe_int)
  refine wpAny_Slice (thn ((hst 2 k' p4 p5).run pins s1 σ H1 (fun o H2 => o = some (-2) ∧ H2 = H1) I1 ⟨2, rfl, -2, rfl, rfl, rfl⟩) fun vl s2 ⟨l, H2, I2, pl, el, e2⟩ => ?_)
  subst el e2
  refine thn (po_none.run pins s2 σ H2 (fun o H3 => o = none ∧ H3 = H2) I2 ⟨rfl, rfl⟩) fun vu s3 ⟨u, H3, I3, pu, eu, e3⟩ => ?_
  subst eu e3
  refine thn ((hst 1 k p1 p2).run pins s3 σ H3 (fun o H4 => o = some (-1) ∧ H4 = H3) I3 ⟨1, rfl, -1, rfl, rfl, rfl⟩) fun vs s4 ⟨o, H4, I4, ps, eo, e4⟩ => ?_
  subst eo e4
  have I5 : Inv X pins σ H4 { s4 with heap := s4.heap.push { cls := .type "slice", data := .fields #[vl, vu, vs] } } := I4.kept (t' := s4.toks) fun b ob q => Heap.get?_push_of_some _ q
  obtain ⟨a, xs, rfl, hx, h0, q⟩ := q1
  cases r1
  cases pu
  obtain ⟨its, r, ht, hz⟩ := I5.tuple hx
  have hlen := r.length
  show wpAny (model X.prog X.w) X.A (subscriptTail e (.Slice (some (.UnaryOp .USub (.Constant (.int 2) k' p4) p5)) none (some (.UnaryOp .USub (.Constant (.int 1) k p1) p2)) p3) (.ref a) (.ref s4.heap.objs.size)) (EP X pins σ Q) X.xe { s4 with heap := s4.heap.push { cls := .type "slice", data := .fields #[vl, .none, vs] } }
  refine tail_any (ops := [.ref a, .ref s4.heap.objs.size]) ht.typeIs (PyProof.Rows.slot_tuple_getitem.lookup) ?_ (by with_unfolding_all rfl)
  refine getItem_tuple_rev2 (by rw [List.size_toArray]; omega) ht (Heap.IsSliceOf.new _ vl .none vs) pl ps ?_ (by rw [List.size_toArray]; omega)
  refine ⟨.ref _, _, I5.laid (t' := s4.toks) (o := .tup xs.dropLast.reverse) (fun b ob q => Heap.get?_push_of_some _ q) (Nat.le_refl _) ?_, rfl, q _ (I5.hok.fresh (Nat.le_refl _))⟩
  exact ⟨by rw [List.length_reverse, List.length_dropLast]; omega, _, (vals_dropLast r).reverse, IsTup.new _ _⟩
end
section
open PySem L2 LamX
variable {X : Cx} {T : Tb} {W : WX} {k : Nat} {e : Expr} {f : Env' → Ro D} {pos : Pos}
def dRev2 : D → Option D
  | .tup (x :: xs) => some (.tup (x :: xs).dropLast.reverse)
  | _ => none
def eRev2 (f : Env' → Ro D) : Env' → Ro D := fun env => (f env).bind fun d e => lift (dRev2 d) e
theorem se_rev2 {k k' : Nat} {p1 p2 p3 p4 p5 : Pos} (h : SE X T W e f) : SE X T W (.Subscript e (.Slice (some (.UnaryOp .USub (.Constant (.int 2) k' p4) p5)) none (some (.UnaryOp .USub (.Constant (.int 1) k p1) p2)) p3) pos) (eRev2 f) :=
  PE.weak (pe_rev2 h) fun σ H Q h => rd_bind h fun F env d v H1 S1 i1 h1 => by
    cases d with
    | tup xs =>
      cases xs with
      | nil => exact h1.elim
      | cons x xs =>
        obtain ⟨a, vs, rfl, s, m⟩ := i1
        have hl := IsL.length m
        exact ⟨a, vs, rfl, Le.unhid.tq s, by rw [← hl]; exact Nat.succ_pos _, fun p hp => fin_new (d := .tup (x :: xs).dropLast.reverse) S1 (New.upd hp) (fun Hs' l' n' => ⟨p, vs.dropLast.reverse, rfl, n' p _ hp upd_same, IsL.reverse (IsL.dropLast (IsL.mono l' _ _ m))⟩) h1⟩
    | _ => exact h1.elim
end
end Rf

namespace K02
open PySem L2 LamX Rf
open PyProof.Rows hiding St
def tp (i : Nat) : Stmt := PySem.Challenge.pw_stepgrids_k02_whole_chains_of_fractions.main.body.getD i (.Pass ⟨0, 0, 0, 0⟩)
theorem sc_is_integer : FnScope ["thing"] ["thing"] (defScope (tp 1)) := ⟨rfl, rfl, rfl, by decide +kernel, rfl, by decide +kernel, by decide +kernel⟩
theorem sc_is_within : FnScope ["thing", "least", "most"] ["thing", "least", "most"] (defScope (tp 2)) := ⟨rfl, rfl, rfl, by decide +kernel, rfl, by decide +kernel, by decide +kernel⟩
theorem sc_is_tuple : FnScope ["thing", "least", "most"] ["thing", "least", "most"] (defScope (tp 3)) := ⟨rfl, rfl, rfl, by decide +kernel, rfl, by decide +kernel, by decide +kernel⟩
theorem sc_divisor : FnScope ["one", "other"] ["one", "other"] (defScope (tp 10)) := ⟨rfl, rfl, rfl, by decide +kernel, rfl, by decide +kernel, by decide +kernel⟩
theorem sc_lowest : FnScope ["top", "bottom", "shared"] ["top", "bottom"] (defScope (tp 11)) := ⟨rfl, rfl, rfl, by decide +kernel, rfl, by decide +kernel, by decide +kernel⟩
theorem sc_take : FnScope ["one", "other"] ["one", "other"] (defScope (tp 12)) := ⟨rfl, rfl, rfl, by decide +kernel, rfl, by decide +kernel, by decide +kernel⟩
theorem sc_is_less : FnScope ["one", "other"] ["one", "other"] (defScope (tp 13)) := ⟨rfl, rfl, rfl, by decide +kernel, rfl, by decide +kernel, by decide +kernel⟩
theorem sc_is_fraction : FnScope ["thing", "one"] ["thing"] (defScope (tp 14)) := ⟨rfl, rfl, rfl, by decide +kernel, rfl, by decide +kernel, by decide +kernel⟩
theorem sc_check_fraction : FnScope ["thing"] ["thing"] (defScope (tp 15)) := ⟨rfl, rfl, rfl, by decide +kernel, rfl, by decide +kernel, by decide +kernel⟩
theorem sc_root_of : FnScope ["number", "here", "later"] ["number"] (defScope (tp 16)) := ⟨rfl, rfl, rfl, by decide +kernel, rfl, by decide +kernel, by decide +kernel⟩
theorem sc_check_above : FnScope ["number", "most"] ["number", "most"] (defScope (tp 17)) := ⟨rfl, rfl, rfl, by decide +kernel, rfl, by decide +kernel, by decide +kernel⟩
theorem sc_steps_of : FnScope ["one", "top", "bottom", "found", "many"] ["one"] (defScope (tp 18)) := ⟨rfl, rfl, rfl, by decide +kernel, rfl, by decide +kernel, by decide +kernel⟩
theorem sc_chain : FnScope ["one"] ["one"] (defScope (tp 19)) := ⟨rfl, rfl, rfl, by decide +kernel, rfl, by decide +kernel, by decide +kernel⟩
theorem sc_from_chain : FnScope ["parts", "found", "one"] ["parts"] (defScope (tp 20)) := ⟨rfl, rfl, rfl, by decide +kernel, rfl, by decide +kernel, by decide +kernel⟩
theorem sc_near_fractions : FnScope ["one", "many", "parts", "found", "here", "part"] ["one"] (defScope (tp 21)) := ⟨rfl, rfl, rfl, by decide +kernel, rfl, by decide +kernel, by decide +kernel⟩
theorem sc_best_below : FnScope ["one", "most", "best", "bottom", "low", "top", "far"] ["one", "most"] (defScope (tp 22)) := ⟨rfl, rfl, rfl, by decide +kernel, rfl, by decide +kernel, by decide +kernel⟩
theorem sc_root_chain : FnScope ["number", "many", "low", "found", "add_on", "bottom", "here"] ["number", "many"] (defScope (tp 23)) := ⟨rfl, rfl, rfl, by decide +kernel, rfl, by decide +kernel, by decide +kernel⟩
theorem sc__law_tape : FnScope ["script", "cells", "cell"] ["script"] (defScope (tp 25)) := ⟨rfl, rfl, rfl, by decide +kernel, rfl, by decide +kernel, by decide +kernel⟩
theorem sc__law_pick : FnScope ["tape", "many", "number", "cell", "digit"] ["tape", "many"] (defScope (tp 26)) := ⟨rfl, rfl, rfl, by decide +kernel, rfl, by decide +kernel, by decide +kernel⟩
theorem sc__law_any : FnScope ["tape", "things"] ["tape", "things"] (defScope (tp 27)) := ⟨rfl, rfl, rfl, by decide +kernel, rfl, by decide +kernel, by decide +kernel⟩
theorem sc__law_shared : FnScope ["one", "other"] ["one", "other"] (defScope (tp 28)) := ⟨rfl, rfl, rfl, by decide +kernel, rfl, by decide +kernel, by decide +kernel⟩
theorem sc__law_over : FnScope ["top", "bottom", "same"] ["top", "bottom"] (defScope (tp 29)) := ⟨rfl, rfl, rfl, by decide +kernel, rfl, by decide +kernel, by decide +kernel⟩
theorem sc__law_fraction : FnScope ["tape", "great"] ["tape"] (defScope (tp 30)) := ⟨rfl, rfl, rfl, by decide +kernel, rfl, by decide +kernel, by decide +kernel⟩
theorem sc__law_no_fraction : FnScope ["tape", "some"] ["tape"] (defScope (tp 31)) := ⟨rfl, rfl, rfl, by decide +kernel, rfl, by decide +kernel, by decide +kernel⟩
theorem sc__law_word : FnScope ["asked_one", "found", "e", "flags", "tags"] ["asked_one"] (defScope (tp 32)) := ⟨rfl, rfl, rfl, by decide +kernel, rfl, by decide +kernel, by decide +kernel⟩
theorem sc__law_chain : FnScope ["one", "found", "top", "bottom", "whole"] ["one"] (defScope (tp 33)) := ⟨rfl, rfl, rfl, by decide +kernel, rfl, by decide +kernel, by decide +kernel⟩
theorem sc__law_from : FnScope ["parts_here", "part", "top", "bottom"] ["parts_here"] (defScope (tp 34)) := ⟨rfl, rfl, rfl, by decide +kernel, rfl, by decide +kernel, by decide +kernel⟩
theorem sc__law_best : FnScope ["one", "most", "bottom", "best", "gap", "low", "top", "far_here"] ["one", "most"] (defScope (tp 35)) := ⟨rfl, rfl, rfl, by decide +kernel, rfl, by decide +kernel, by decide +kernel⟩
theorem sc__law_root : FnScope ["number", "many", "root", "step", "found", "less_here", "bottom", "part"] ["number", "many"] (defScope (tp 36)) := ⟨rfl, rfl, rfl, by decide +kernel, rfl, by decide +kernel, by decide +kernel⟩
theorem sc__law_is_right : FnScope ["tape", "one", "due", "near", "parts_here", "step", "most", "at", "told", "gap", "number", "many", "part"] ["tape"] (defScope (tp 37)) := ⟨rfl, rfl, rfl, by decide +kernel, rfl, by decide +kernel, by decide +kernel⟩
theorem sc__law_is_refused : FnScope ["tape", "parts_here", "words", "asked_one", "none", "bad"] ["tape"] (defScope (tp 38)) := ⟨rfl, rfl, rfl, by decide +kernel, rfl, by decide +kernel, by decide +kernel⟩
theorem sc__law_word_of : FnScope ["asked_one", "thing"] ["asked_one", "thing"] (defScope (tp 39)) := ⟨rfl, rfl, rfl, by decide +kernel, rfl, by decide +kernel, by decide +kernel⟩
theorem sc__law_word_by : FnScope ["asked_one", "one", "other"] ["asked_one", "one", "other"] (defScope (tp 40)) := ⟨rfl, rfl, rfl, by decide +kernel, rfl, by decide +kernel, by decide +kernel⟩
theorem sc_law : FnScope ["script", "tape", "told", "step"] ["script"] (defScope (tp 41)) := ⟨rfl, rfl, rfl, by decide +kernel, rfl, by decide +kernel, by decide +kernel⟩
/-! what each comes to -/
def errs : List Str := ["NoFraction", "NoNumber"]
def c_MOST_SIZE : D := (.int 1000000000000000000)
def b_is_integer : Env' → So := sRet (eAnd (eIsi .i (eVar 0)) (eNot (eIsi .b (eVar 0))))
def m_is_integer : Fm := runM [false] 1 b_is_integer
def b_is_within : Env' → So := sRet (eAnd (eCallD m_is_integer (rV (eVar 0) (rNil))) (eChain bLe bLe (eVar 1) (eVar 0) (eVar 2)))
def m_is_within : Fm := runM [false, false, false] 3 b_is_within
def b_is_tuple : Env' → So := sRet (eAnd (eIsi .t (eVar 0)) (eChain bLe bLe (eVar 1) (eLenV 0) (eVar 2)))
def m_is_tuple : Fm := runM [false, false, false] 3 b_is_tuple
def lq1_divisor : Env' → Ro Bool := qCmp bGt (eVar 1) (eC (.int 0))
def lb2_divisor : Env' → So := sPar 0 1 (eVar 1) (eOp dMod (eVar 0) (eVar 1))
def b_divisor : Env' → So := sSeq (sPar 0 1 (eCall oAbs (aCons (eVar 0) aNil)) (eCall oAbs (aCons (eVar 1) aNil)))
  (sSeq (sWhile (lq1_divisor) (lb2_divisor))
  (sRet (eVar 0)))
def m_divisor : Fm := runM [false, false] 2 b_divisor
def b_lowest : Env' → So := sSeq (sSet 2 (eCallD m_divisor (rV (eVar 0) (rV (eVar 1) (rNil)))))
  (sSeq (sIf (qCmp bLt (eVar 1) (eC (.int 0))) (sPar 0 1 (eNeg (eVar 0)) (eNeg (eVar 1))) (sNil))
  (sRet (eTup (aCons (eOp dDiv (eVar 0) (eVar 2)) (aCons (eOp dDiv (eVar 1) (eVar 2)) (aNil))))))
def m_lowest : Fm := runM [false, false] 3 b_lowest
def b_take : Env' → So := sRet (eCallD m_lowest (rV (eOp dSub (eOp dMul (eIxV 0 (eC (.int 0))) (eIxV 1 (eC (.int 1)))) (eOp dMul (eIxV 1 (eC (.int 0))) (eIxV 0 (eC (.int 1))))) (rV (eOp dMul (eIxV 0 (eC (.int 1))) (eIxV 1 (eC (.int 1)))) (rNil))))
def m_take : Fm := runM [false, false] 2 b_take
def b_is_less : Env' → So := sRet (eCmp bLt (eOp dMul (eIxV 0 (eC (.int 0))) (eIxV 1 (eC (.int 1)))) (eOp dMul (eIxV 1 (eC (.int 0))) (eIxV 0 (eC (.int 1)))))
def m_is_less : Fm := runM [false, false] 2 b_is_less
def lc1_is_fraction : Env' → Ro D := eLc [1] (iSeq (eVar 0)) (tName 1) (qYes) (eCallD m_is_within (rV (eVar 1) (rV (eNeg (eC c_MOST_SIZE)) (rV (eC c_MOST_SIZE) (rNil)))))
def b_is_fraction : Env' → So := sSeq (sIf (qOr (qNot (qTru (eCallD m_is_tuple (rV (eVar 0) (rV (eC (.int 2)) (rV (eC (.int 2)) (rNil))))))) (qNot (qTru (eCall (oQuant allB) (aCons (lc1_is_fraction) aNil))))) (sRet (eC (.bl false))) (sNil))
  (sRet (eAnd (eCmp bGt (eIxV 0 (eC (.int 1))) (eC (.int 0))) (eCmp bEq (eCallD m_divisor (rV (eIxV 0 (eC (.int 0))) (rV (eIxV 0 (eC (.int 1))) (rNil)))) (eC (.int 1)))))
def m_is_fraction : Fm := runM [false] 2 b_is_fraction
def b_check_fraction : Env' → So := sIf (qNot (qTru (eCallD m_is_fraction (rV (eVar 0) (rNil))))) (sRaise0 "NoFraction") (sNil)
def m_check_fraction : Fm := runM [false] 1 b_check_fraction
def lq1_root_of : Env' → Ro Bool := qCmp bLt (eVar 2) (eVar 1)
def lb2_root_of : Env' → So := sSeq (sSet 1 (eVar 2))
  (sSet 2 (eOp dDiv (eOp dAdd (eVar 1) (eOp dDiv (eVar 0) (eVar 1))) (eC (.int 2))))
def b_root_of : Env' → So := sSeq (sIf (qCmp bLt (eVar 0) (eC (.int 2))) (sRet (eVar 0)) (sNil))
  (sSeq (sSet 1 (eVar 0))
  (sSeq (sSet 2 (eOp dDiv (eOp dAdd (eVar 1) (eC (.int 1))) (eC (.int 2))))
  (sSeq (sWhile (lq1_root_of) (lb2_root_of))
  (sRet (eVar 1)))))
def m_root_of : Fm := runM [false] 3 b_root_of
def b_check_above : Env' → So := sIf (qNot (qTru (eCallD m_is_within (rV (eVar 0) (rV (eC (.int 1)) (rV (eVar 1) (rNil))))))) (sRaise0 "NoNumber") (sNil)
def m_check_above : Fm := runM [false, false] 2 b_check_above
def lq1_steps_of : Env' → Ro Bool := qCmp bNe (eVar 2) (eC (.int 0))
def lb2_steps_of : Env' → So := sSeq (sSet 4 (eOp dDiv (eVar 1) (eVar 2)))
  (sSeq (sMut1 3 oApp (eVar 4))
  (sPar 1 2 (eVar 2) (eOp dSub (eVar 1) (eOp dMul (eVar 4) (eVar 2)))))
def b_steps_of : Env' → So := sSeq (sParL [1, 2, 3] [false, false, true] (aCons (eIxV 0 (eC (.int 0))) (aCons (eIxV 0 (eC (.int 1))) (aCons (eLst (aNil)) (aNil)))))
  (sSeq (sWhile (lq1_steps_of) (lb2_steps_of))
  (sRetO 3))
def m_steps_of : Fm := runF [false] 5 b_steps_of
def b_chain : Env' → So := sSeq (sDrop (eCallD m_check_fraction (rV (eVar 0) (rNil))))
  (sRetF (eCallD m_steps_of (rV (eVar 0) (rNil))))
def m_chain : Fm := runF [false] 1 b_chain
def lc1_from_chain : Env' → Ro D := eLc [2] (iSeq (eVar 0)) (tName 2) (qYes) (eCallD m_is_within (rV (eVar 2) (rV (eNeg (eOp dPow (eC (.int 10)) (eC (.int 6)))) (rV (eOp dPow (eC (.int 10)) (eC (.int 6))) (rNil)))))
def lc2_from_chain : Env' → Ro D := eLc [2] (iSeq (eSl (eVar 0) (oSome (eC (.int 1))) (oNone))) (tName 2) (qYes) (eCmp bLt (eVar 2) (eC (.int 1)))
def lb3_from_chain : Env' → So := sSet 1 (eTup (aCons (eOp dAdd (eOp dMul (eVar 2) (eIxV 1 (eC (.int 0)))) (eIxV 1 (eC (.int 1)))) (aCons (eIxV 1 (eC (.int 0))) (aNil))))
def b_from_chain : Env' → So := sSeq (sIf (qOr (qNot (qTru (eCallD m_is_tuple (rV (eVar 0) (rV (eC (.int 1)) (rV (eC (.int 60)) (rNil))))))) (qNot (qTru (eCall (oQuant allB) (aCons (lc1_from_chain) aNil))))) (sRaise0 "NoFraction") (sNil))
  (sSeq (sIf (qTru (eCall (oQuant anyB) (aCons (lc2_from_chain) aNil))) (sRaise0 "NoFraction") (sNil))
  (sSeq (sSet 1 (eTup (aCons (eIxV 0 (eNeg (eC (.int 1)))) (aCons (eC (.int 1)) (aNil)))))
  (sSeq (sFor (iSeq (eRev2 (eVar 0))) (tName 2) (lb3_from_chain))
  (sRet (eVar 1)))))
def m_from_chain : Fm := runM [false] 3 b_from_chain
def lb1_near_fractions : Env' → So := sSet 4 (eTup (aCons (eOp dAdd (eOp dMul (eVar 5) (eIxV 4 (eC (.int 0)))) (eIxV 4 (eC (.int 1)))) (aCons (eIxV 4 (eC (.int 0))) (aNil))))
def lb2_near_fractions : Env' → So := sSeq (sSet 4 (eTup (aCons (eIxV 2 (eOp dSub (eVar 1) (eC (.int 1)))) (aCons (eC (.int 1)) (aNil)))))
  (sSeq (sFor (iSeq (eRev (eSl (eVar 2) (oNone) (oSome (eOp dSub (eVar 1) (eC (.int 1))))))) (tName 5) (lb1_near_fractions))
  (sMut1 3 oApp (eVar 4)))
def b_near_fractions : Env' → So := sSeq (sDrop (eCallD m_check_fraction (rV (eVar 0) (rNil))))
  (sSeq (sParL [2, 3] [false, true] (aCons (eCallD m_steps_of (rV (eVar 0) (rNil))) (aCons (eLst (aNil)) (aNil))))
  (sSeq (sFor (iR2 (eC (.int 1)) (eOp dAdd (eLenV 2) (eC (.int 1)))) (tName 1) (lb2_near_fractions))
  (sRetO 3)))
def m_near_fractions : Fm := runF [false] 6 b_near_fractions
def lb1_best_below : Env' → So := sIf (qCmp bEq (eCallD m_divisor (rV (eVar 5) (rV (eVar 3) (rNil)))) (eC (.int 1))) (sSeq (sSet 6 (eCallD m_take (rV (eVar 0) (rV (eTup (aCons (eVar 5) (aCons (eVar 3) (aNil)))) (rNil)))))
  (sSeq (sSet 6 (eTup (aCons (eCall oAbs (aCons (eIxV 6 (eC (.int 0))) aNil)) (aCons (eIxV 6 (eC (.int 1))) (aNil)))))
  (sIf (qOr (qCmp bIsN (eVar 2) (eC .non)) (qTru (eCallD m_is_less (rV (eVar 6) (rV (eIxV 2 (eC (.int 0))) (rNil)))))) (sSet 2 (eTup (aCons (eVar 6) (aCons (eTup (aCons (eVar 5) (aCons (eVar 3) (aNil)))) (aNil))))) (sNil)))) (sNil)
def lb2_best_below : Env' → So := sSeq (sSet 4 (eOp dDiv (eOp dMul (eIxV 0 (eC (.int 0))) (eVar 3)) (eIxV 0 (eC (.int 1)))))
  (sFor (iSeq (eTup (aCons (eVar 4) (aCons (eOp dAdd (eVar 4) (eC (.int 1))) (aNil))))) (tName 5) (lb1_best_below))
def b_best_below : Env' → So := sSeq (sDrop (eCallD m_check_fraction (rV (eVar 0) (rNil))))
  (sSeq (sDrop (eCallD m_check_above (rV (eVar 1) (rV (eOp dPow (eC (.int 10)) (eC (.int 4))) (rNil)))))
  (sSeq (sSet 2 (eC .non))
  (sSeq (sFor (iR2 (eC (.int 1)) (eOp dAdd (eVar 1) (eC (.int 1)))) (tName 3) (lb2_best_below))
  (sRet (eIxV 2 (eC (.int 1)))))))
def m_best_below : Fm := runM [false, false] 7 b_best_below
def lq1_root_chain : Env' → Ro Bool := qAnd (qCmp bNe (eOp dMul (eVar 2) (eVar 2)) (eVar 0)) (qCmp bLt (eLenV 3) (eVar 1))
def lb2_root_chain : Env' → So := sSeq (sSet 4 (eOp dSub (eOp dMul (eVar 6) (eVar 5)) (eVar 4)))
  (sSeq (sSet 5 (eOp dDiv (eOp dSub (eVar 0) (eOp dMul (eVar 4) (eVar 4))) (eVar 5)))
  (sSeq (sSet 6 (eOp dDiv (eOp dAdd (eVar 2) (eVar 4)) (eVar 5)))
  (sMut1 3 oApp (eVar 6))))
def b_root_chain : Env' → So := sSeq (sDrop (eCallD m_check_above (rV (eVar 0) (rV (eOp dPow (eC (.int 10)) (eC (.int 6))) (rNil)))))
  (sSeq (sDrop (eCallD m_check_above (rV (eVar 1) (rV (eC (.int 200)) (rNil)))))
  (sSeq (sSet 2 (eCallD m_root_of (rV (eVar 0) (rNil))))
  (sSeq (sParL [3, 4, 5, 6] [true, false, false, false] (aCons (eLst (aCons (eVar 2) (aNil))) (aCons (eC (.int 0)) (aCons (eC (.int 1)) (aCons (eVar 2) (aNil))))))
  (sSeq (sWhile (lq1_root_chain) (lb2_root_chain))
  (sRet (eCall oTuple (aCons (eVar 3) aNil)))))))
def m_root_chain : Fm := runM [false, false] 7 b_root_chain
def lc1__law_tape : Env' → Ro D := eLc [2] (iSeq (eSl (eVar 0) (oNone) (oSome (eC (.int 63))))) (tName 2) (qYes) (eCall oAbs (aCons (eCall oInt (aCons (eVar 2) aNil)) aNil))
def b__law_tape : Env' → So := sSeq (sSetO 1 (lc1__law_tape))
  (sRetF (eLst (aCons (eVar 1) (aCons (eC (.int 0)) (aCons (eC (.int 0)) (aCons (eOp dAdd (eC (.int 31)) (eLenV 1)) (aCons (eC (.int 0)) (aNil))))))))
def m__law_tape : Fm := runF [false] 3 b__law_tape
def b__law_pick : Env' → So := sSeq (sIf (qAnd (qCmp bEq (eIxV 0 (eC (.int 2))) (eC (.int 0))) (qCmp bLt (eIxV 0 (eC (.int 1))) (eCall oLen (aCons (eIxV 0 (eC (.int 0))) aNil)))) (sSeq (sSet 3 (eOp dIx (eIxV 0 (eC (.int 0))) (eIxV 0 (eC (.int 1)))))
  (sSeq (sSetIx 0 (eC (.int 1)) (eOp dAdd (eIxV 0 (eC (.int 1))) (eC (.int 1))))
  (sSeq (sSetIx 0 (eC (.int 3)) (eOp dMod (eCall oInt (aCons (eOp dAdd (eOp dAdd (eOp dMul (eIxV 0 (eC (.int 3))) (eC (.int 69621))) (eVar 3)) (eC (.int 11))) aNil)) (eC (.int 2147483629))))
  (sIf (qCmp bGe (eVar 3) (eOp dPow (eC (.int 10)) (eC (.int 18)))) (sSetIx 0 (eC (.int 2)) (eVar 3)) (sNil))))) (sNil))
  (sSeq (sIf (qCmp bGt (eIxV 0 (eC (.int 2))) (eC (.int 0))) (sSeq (sSet 4 (eOp dMod (eCall oInt (aCons (eIxV 0 (eC (.int 2))) aNil)) (eVar 1)))
  (sSeq (sSetIx 0 (eC (.int 2)) (eOp dDiv (eIxV 0 (eC (.int 2))) (eVar 1)))
  (sRet (eVar 4)))) (sNil))
  (sSeq (sSetIx 0 (eC (.int 4)) (eOp dAdd (eIxV 0 (eC (.int 4))) (eC (.int 1))))
  (sSeq (sSet 2 (eOp dMod (eCall oInt (aCons (eOp dMul (eCall oInt (aCons (eOp dAdd (eIxV 0 (eC (.int 3))) (eOp dMul (eC (.int 7919)) (eIxV 0 (eC (.int 4))))) aNil)) (eC (.int 48271))) aNil)) (eC (.int 2147483647))))
  (sSeq (sSet 2 (eOp dMod (eCall oInt (aCons (eOp dMul (eVar 2) (eOp dAdd (eOp dDiv (eVar 2) (eC (.int 1009))) (eC (.int 69621)))) aNil)) (eC (.int 2147483647))))
  (sSeq (sSet 2 (eOp dMod (eCall oInt (aCons (eOp dMul (eVar 2) (eOp dAdd (eOp dDiv (eVar 2) (eC (.int 2003))) (eC (.int 40692)))) aNil)) (eC (.int 2147483399))))
  (sRet (eOp dMod (eCall oInt (aCons (eOp dDiv (eVar 2) (eC (.int 16))) aNil)) (eVar 1))))))))
def m__law_pick : Fm := runM [true, false] 5 b__law_pick
def b__law_any : Env' → So := sRet (eIxV 1 (eCallD m__law_pick (rO 0 (rV (eLenV 1) (rNil)))))
def m__law_any : Fm := runM [true, false] 2 b__law_any
def lq1__law_shared : Env' → Ro Bool := qCmp bGt (eVar 1) (eC (.int 0))
def lb2__law_shared : Env' → So := sPar 0 1 (eVar 1) (eOp dMod (eCall oInt (aCons (eVar 0) aNil)) (eVar 1))
def b__law_shared : Env' → So := sSeq (sPar 0 1 (eCall oAbs (aCons (eVar 0) aNil)) (eCall oAbs (aCons (eVar 1) aNil)))
  (sSeq (sWhile (lq1__law_shared) (lb2__law_shared))
  (sRet (eVar 0)))
def m__law_shared : Fm := runM [false, false] 2 b__law_shared
def b__law_over : Env' → So := sSeq (sSet 2 (eCallD m__law_shared (rV (eVar 0) (rV (eVar 1) (rNil)))))
  (sSeq (sSet 2 (eIf (qCmp bGt (eVar 1) (eC (.int 0))) (eVar 2) (eOp dSub (eC (.int 0)) (eVar 2))))
  (sRet (eTup (aCons (eOp dDiv (eVar 0) (eVar 2)) (aCons (eOp dDiv (eVar 1) (eVar 2)) (aNil))))))
def m__law_over : Fm := runM [false, false] 3 b__law_over
def b__law_fraction : Env' → So := sSeq (sSet 1 (eCallD m__law_any (rO 0 (rV (eLst (aCons (eC (.int 3)) (aCons (eC (.int 12)) (aCons (eC (.int 1000)) (aCons (eOp dPow (eC (.int 10)) (eC (.int 9))) (aNil)))))) (rNil)))))
  (sRet (eCallD m__law_over (rV (eOp dSub (eCallD m__law_pick (rO 0 (rV (eOp dAdd (eOp dMul (eC (.int 2)) (eVar 1)) (eC (.int 1))) (rNil)))) (eVar 1)) (rV (eOp dAdd (eC (.int 1)) (eCallD m__law_pick (rO 0 (rV (eVar 1) (rNil))))) (rNil)))))
def m__law_fraction : Fm := runM [true] 2 b__law_fraction
def b__law_no_fraction : Env' → So := sSeq (sSet 1 (eLst (aCons (eC .non) (aCons (eC (.int 0)) (aCons (eTup (aCons (eC (.int 1)) (aNil))) (aCons (eTup (aCons (eC (.int 1)) (aCons (eC (.int 0)) (aNil)))) (aCons (eTup (aCons (eC (.int 2)) (aCons (eC (.int 4)) (aNil)))) (aCons (eTup (aCons (eC (.int 0)) (aCons (eC (.int 2)) (aNil)))) (aCons (eTup (aCons (eC (.int 1)) (aCons (eNeg (eC (.int 2))) (aNil)))) (aCons (eLst (aCons (eC (.int 1)) (aCons (eC (.int 2)) (aNil)))) (aCons (eTup (aCons (eC (.bl true)) (aCons (eC (.int 2)) (aNil)))) (aCons (eTup (aCons (eC (.int 1)) (aCons (eC (.bl true)) (aNil)))) (aCons (eTup (aCons (eC (.str "1")) (aCons (eC (.int 2)) (aNil)))) (aCons (eTup (aCons (eC (.int 1)) (aCons (eC (.int 2)) (aCons (eC (.int 3)) (aNil))))) (aCons (eC (.dK [] [])) (aNil))))))))))))))))
  (sRet (eCallD m__law_any (rO 0 (rV (eVar 1) (rNil)))))
def m__law_no_fraction : Fm := runM [true] 2 b__law_no_fraction
def g__law_word (r : Ro D) : Env' → So := sSeq (sSet 1 (eC (.str "let")))
  (sSeq (sTry 2 errs (sDrop (eTh r)) (fun c pp => sSeq (sSet 3 (eLst (aCons (eC (.bl (c == "NoFraction"))) (aCons (eC (.bl (c == "NoNumber"))) (aNil)))))
  (sSeq (sSet 4 (eLst (aCons (eC (.str "fraction")) (aCons (eC (.str "number")) (aNil)))))
  (sSet 1 (eIf (qAnd (qCmp bEq (eLm dCount 3 (eC (.bl true))) (eC (.int 1))) (qTru (eC (.bl true)))) (eIxV 4 (eLm dIndex 3 (eC (.bl true)))) (eC (.str "other")))))))
  (sRet (eVar 1)))
def lq1__law_chain : Env' → Ro Bool := qCmp bGt (eVar 3) (eC (.int 0))
def lb2__law_chain : Env' → So := sSeq (sSet 4 (eOp dDiv (eVar 2) (eVar 3)))
  (sSeq (sMut1 1 oApp (eVar 4))
  (sPar 2 3 (eVar 3) (eOp dSub (eVar 2) (eOp dMul (eVar 4) (eVar 3)))))
def b__law_chain : Env' → So := sSeq (sAsg (tTupl 2 (tsCons (tName 2) (tsCons (tName 3) (tsNil)))) (eVar 0))
  (sSeq (sSetO 1 (eLst (aNil)))
  (sSeq (sWhile (lq1__law_chain) (lb2__law_chain))
  (sRetO 1)))
def m__law_chain : Fm := runF [false] 5 b__law_chain
def lb1__law_from : Env' → So := sPar 2 3 (eOp dAdd (eOp dMul (eVar 1) (eVar 2)) (eVar 3)) (eVar 2)
def b__law_from : Env' → So := sSeq (sPar 2 3 (eIxV 0 (eNeg (eC (.int 1)))) (eC (.int 1)))
  (sSeq (sFor (iSeq (eRev (eSl (eVar 0) (oNone) (oSome (eNeg (eC (.int 1))))))) (tName 1) (lb1__law_from))
  (sRet (eCallD m__law_over (rV (eVar 2) (rV (eVar 3) (rNil))))))
def m__law_from : Fm := runM [false] 4 b__law_from
def lb1__law_best : Env' → So := sSeq (sSet 7 (eTup (aCons (eCall oAbs (aCons (eOp dSub (eOp dMul (eVar 6) (eIxV 0 (eC (.int 1)))) (eOp dMul (eIxV 0 (eC (.int 0))) (eVar 2))) aNil)) (aCons (eOp dMul (eVar 2) (eIxV 0 (eC (.int 1)))) (aNil)))))
  (sIf (qOr (qCmp bIsN (eVar 3) (eC .non)) (qCmp bLt (eOp dMul (eIxV 7 (eC (.int 0))) (eIxV 4 (eC (.int 1)))) (eOp dMul (eIxV 4 (eC (.int 0))) (eIxV 7 (eC (.int 1)))))) (sPar 3 4 (eCallD m__law_over (rV (eVar 6) (rV (eVar 2) (rNil)))) (eVar 7)) (sNil))
def lb2__law_best : Env' → So := sSeq (sSet 5 (eOp dDiv (eOp dMul (eIxV 0 (eC (.int 0))) (eVar 2)) (eIxV 0 (eC (.int 1)))))
  (sFor (iSeq (eTup (aCons (eVar 5) (aCons (eOp dAdd (eVar 5) (eC (.int 1))) (aNil))))) (tName 6) (lb1__law_best))
def b__law_best : Env' → So := sSeq (sAsg (tTupl 2 (tsCons (tName 3) (tsCons (tName 4) (tsNil)))) (eTup (aCons (eC .non) (aCons (eC .non) (aNil)))))
  (sSeq (sFor (iR2 (eC (.int 1)) (eOp dAdd (eVar 1) (eC (.int 1)))) (tName 2) (lb2__law_best))
  (sRet (eVar 3)))
def m__law_best : Fm := runM [false, false] 8 b__law_best
def lq1__law_root : Env' → Ro Bool := qCmp bLe (eOp dMul (eOp dAdd (eVar 2) (eC (.int 1))) (eOp dAdd (eVar 2) (eC (.int 1)))) (eVar 0)
def lb2__law_root : Env' → So := sSet 2 (eOp dAdd (eVar 2) (eC (.int 1)))
def lb3__law_root : Env' → So := sSeq (sSet 5 (eOp dSub (eOp dMul (eVar 6) (eVar 7)) (eVar 5)))
  (sSeq (sSet 6 (eOp dDiv (eOp dSub (eVar 0) (eOp dMul (eVar 5) (eVar 5))) (eVar 6)))
  (sSeq (sSet 7 (eOp dDiv (eOp dAdd (eVar 2) (eVar 5)) (eVar 6)))
  (sMut1 4 oApp (eVar 7))))
def b__law_root : Env' → So := sSeq (sSet 2 (eC (.int 0)))
  (sSeq (sWhile (lq1__law_root) (lb2__law_root))
  (sSeq (sIf (qCmp bEq (eOp dMul (eVar 2) (eVar 2)) (eVar 0)) (sRet (eTup (aCons (eVar 2) (aNil)))) (sNil))
  (sSeq (sParL [4, 5, 6, 7] [true, false, false, false] (aCons (eLst (aCons (eVar 2) (aNil))) (aCons (eC (.int 0)) (aCons (eC (.int 1)) (aCons (eVar 2) (aNil))))))
  (sSeq (sFor (iR1 (eOp dSub (eVar 1) (eC (.int 1)))) (tName 3) (lb3__law_root))
  (sRet (eCall oTuple (aCons (eVar 4) aNil)))))))
def m__law_root : Fm := runM [false, false] 8 b__law_root
def lc1__law_is_right : Env' → Ro D := eLc [12] (iSeq (eVar 2)) (tName 12) (qYes) (eCall oAbs (aCons (eVar 12) aNil))
def lc2__law_is_right : Env' → Ro D := eLc [7] (iR1 (eLenV 2)) (tName 7) (qYes) (eCallD m__law_from (rV (eSl (eVar 2) (oNone) (oSome (eOp dAdd (eVar 7) (eC (.int 1))))) (rNil)))
def lb3__law_is_right : Env' → So := sSeq (sSet 9 (eOp dSub (eOp dMul (eIxV 8 (eC (.int 0))) (eIxV 1 (eC (.int 1)))) (eOp dMul (eIxV 1 (eC (.int 0))) (eIxV 8 (eC (.int 1))))))
  (sIf (qAnd (qCmp bLt (eVar 7) (eOp dSub (eLenV 3) (eC (.int 1)))) (qCmp bNe (eCmp bLt (eVar 9) (eC (.int 0))) (eCmp bEq (eOp dMod (eCall oInt (aCons (eVar 7) aNil)) (eC (.int 2))) (eC (.int 0))))) (sRet (eC (.bl false))) (sNil))
def lb4__law_is_right : Env' → So := sSet 4 (eOp dAdd (eVar 4) (eTup (aCons (eOp dAdd (eC (.int 1)) (eCallD m__law_pick (rO 0 (rV (eCallD m__law_any (rO 0 (rV (eLst (aCons (eC (.int 1)) (aCons (eC (.int 5)) (aNil)))) (rNil)))) (rNil))))) (aNil))))
def b__law_is_right : Env' → So := sSeq (sSet 1 (eCallD m__law_fraction (rO 0 (rNil))))
  (sSeq (sSet 2 (eCallD m__law_chain (rV (eVar 1) (rNil))))
  (sSeq (sIf (qCmp bNe (eCall oRepr (aCons (eCallD m_chain (rV (eVar 1) (rNil))) aNil)) (eCall oRepr (aCons (eVar 2) aNil))) (sRet (eC (.bl false))) (sNil))
  (sSeq (sIf (qAnd (qCmp bLe (eCall (oMx maxL) (aCons (lc1__law_is_right) aNil)) (eOp dPow (eC (.int 10)) (eC (.int 6)))) (qCmp bNe (eCall oRepr (aCons (eCallD m_from_chain (rV (eCall oTuple (aCons (eVar 2) aNil)) (rNil))) aNil)) (eCall oRepr (aCons (eVar 1) aNil)))) (sRet (eC (.bl false))) (sNil))
  (sSeq (sSetO 3 (lc2__law_is_right))
  (sSeq (sIf (qOr (qCmp bNe (eCall oRepr (aCons (eCallD m_near_fractions (rV (eVar 1) (rNil))) aNil)) (eCall oRepr (aCons (eVar 3) aNil))) (qCmp bNe (eIxV 3 (eNeg (eC (.int 1)))) (eVar 1))) (sRet (eC (.bl false))) (sNil))
  (sSeq (sFor (iEnu (eVar 3)) (tTupl 2 (tsCons (tName 7) (tsCons (tName 8) (tsNil)))) (lb3__law_is_right))
  (sSeq (sSet 4 (eTup (aCons (eOp dSub (eCallD m__law_pick (rO 0 (rV (eC (.int 9)) (rNil)))) (eC (.int 4))) (aNil))))
  (sSeq (sFor (iR1 (eCallD m__law_pick (rO 0 (rV (eC (.int 8)) (rNil))))) (tName 5) (lb4__law_is_right))
  (sSeq (sIf (qCmp bNe (eCall oRepr (aCons (eCallD m_from_chain (rV (eVar 4) (rNil))) aNil)) (eCall oRepr (aCons (eCallD m__law_from (rV (eVar 4) (rNil))) aNil))) (sRet (eC (.bl false))) (sNil))
  (sSeq (sSet 6 (eOp dAdd (eC (.int 1)) (eCallD m__law_pick (rO 0 (rV (eCallD m__law_any (rO 0 (rV (eLst (aCons (eC (.int 3)) (aCons (eC (.int 30)) (aNil)))) (rNil)))) (rNil))))))
  (sSeq (sIf (qCmp bNe (eCall oRepr (aCons (eCallD m_best_below (rV (eVar 1) (rV (eVar 6) (rNil)))) aNil)) (eCall oRepr (aCons (eCallD m__law_best (rV (eVar 1) (rV (eVar 6) (rNil)))) aNil))) (sRet (eC (.bl false))) (sNil))
  (sSeq (sPar 10 11 (eOp dAdd (eC (.int 1)) (eCallD m__law_pick (rO 0 (rV (eCallD m__law_any (rO 0 (rV (eLst (aCons (eC (.int 30)) (aCons (eC (.int 900)) (aNil)))) (rNil)))) (rNil))))) (eOp dAdd (eC (.int 1)) (eCallD m__law_pick (rO 0 (rV (eC (.int 12)) (rNil))))))
  (sRet (eCmp bEq (eCall oRepr (aCons (eCallD m_root_chain (rV (eVar 10) (rV (eVar 11) (rNil)))) aNil)) (eCall oRepr (aCons (eCallD m__law_root (rV (eVar 10) (rV (eVar 11) (rNil)))) aNil))))))))))))))))
def m__law_is_right : Fm := runM [true] 13 b__law_is_right
def held : Str → Option Fm := fun x => if x = "chain" then some m_chain else if x = "near_fractions" then some m_near_fractions else if x = "from_chain" then some m_from_chain else if x = "root_chain" then some m_root_chain else if x = "best_below" then some m_best_below else none
def b__law_word_of : Env' → So := sRet (eLam (runG 5 g__law_word) (eCallV 0 held (rV (eVar 1) (rNil))))
def m__law_word_of : Fm := runM [false, false] 2 b__law_word_of
def b__law_word_by : Env' → So := sRet (eLam (runG 5 g__law_word) (eCallV 0 held (rV (eVar 1) (rV (eVar 2) (rNil)))))
def m__law_word_by : Fm := runM [false, false, false] 3 b__law_word_by
def lb1__law_is_refused : Env' → So := sMut1 2 oApp (eCallD m__law_word_of (rV (eVar 3) (rV (eVar 4) (rNil))))
def b__law_is_refused : Env' → So := sSeq (sPar 4 5 (eCallD m__law_no_fraction (rO 0 (rNil))) (eCallD m__law_any (rO 0 (rV (eLst (aCons (eC (.int 0)) (aCons (eC (.int 10001)) (aCons (eNeg (eC (.int 1))) (aCons (eC .non) (aCons (eC (.bl true)) (aCons (eC (.str "1")) (aCons (eTup (aCons (eC (.int 1)) (aNil))) (aCons (eC (.dK [] [])) (aNil)))))))))) (rNil)))))
  (sSeq (sSet 1 (eLst (aCons (eC .non) (aCons (eTup (aNil)) (aCons (eLst (aCons (eC (.int 1)) (aNil))) (aCons (eTup (aCons (eC (.int 1)) (aCons (eC (.int 0)) (aNil)))) (aCons (eTup (aCons (eC (.int 1)) (aCons (eNeg (eC (.int 1))) (aNil)))) (aCons (eTup (aCons (eOp dAdd (eOp dPow (eC (.int 10)) (eC (.int 6))) (eC (.int 1))) (aNil))) (aCons (eTup (aCons (eC (.bl true)) (aNil))) (aCons (eTup (aCons (eC (.str "1")) (aNil))) (aCons (eOp dMul (eTup (aCons (eC (.int 1)) (aNil))) (eC (.int 61))) (aCons (eC (.int 0)) (aCons (eC (.dK [] [])) (aCons (eTup (aCons (eC (.int 1)) (aCons (eC .non) (aNil)))) (aNil)))))))))))))))
  (sSeq (sSet 1 (eCallD m__law_any (rO 0 (rV (eVar 1) (rNil)))))
  (sSeq (sSetO 2 (eLst (aNil)))
  (sSeq (sFor (iSeq (eTup (aCons (eC (.fn "chain")) (aCons (eC (.fn "near_fractions")) (aNil))))) (tName 3) (lb1__law_is_refused))
  (sSeq (sSetO 2 (eOp dAddL (eVar 2) (eLst (aCons (eCallD m__law_word_by (rV (eC (.fn "best_below")) (rV (eVar 4) (rV (eVar 5) (rNil))))) (aCons (eCallD m__law_word_by (rV (eC (.fn "best_below")) (rV (eTup (aCons (eC (.int 1)) (aCons (eC (.int 2)) (aNil)))) (rV (eVar 5) (rNil))))) (aNil))))))
  (sSeq (sMut1 2 oApp (eCallD m__law_word_of (rV (eC (.fn "from_chain")) (rV (eVar 1) (rNil)))))
  (sSeq (sMut1 2 oApp (eCallD m__law_word_by (rV (eC (.fn "root_chain")) (rV (eCallD m__law_any (rO 0 (rV (eLst (aCons (eC (.int 0)) (aCons (eOp dAdd (eOp dPow (eC (.int 10)) (eC (.int 6))) (eC (.int 1))) (aCons (eNeg (eC (.int 1))) (aCons (eC .non) (aCons (eC (.bl true)) (aNil))))))) (rNil)))) (rV (eC (.int 3)) (rNil))))))
  (sSeq (sMut1 2 oApp (eCallD m__law_word_by (rV (eC (.fn "root_chain")) (rV (eC (.int 3)) (rV (eCallD m__law_any (rO 0 (rV (eLst (aCons (eC (.int 0)) (aCons (eC (.int 201)) (aCons (eNeg (eC (.int 1))) (aCons (eC .non) (aCons (eC (.bl true)) (aNil))))))) (rNil)))) (rNil))))))
  (sSeq (sIf (qCmp bNotIn (eIxV 2 (eC (.int 4))) (eTup (aCons (eC (.str "fraction")) (aCons (eC (.str "number")) (aNil))))) (sRet (eC (.bl false))) (sNil))
  (sRet (eCmp bEq (eOp dAdd (eSl (eVar 2) (oNone) (oSome (eC (.int 4)))) (eSl (eVar 2) (oSome (eC (.int 5))) (oNone))) (eOp dAddL (eOp dMul (eLst (aCons (eC (.str "fraction")) (aNil))) (eC (.int 3))) (eOp dMul (eLst (aCons (eC (.str "number")) (aNil))) (eC (.int 3)))))))))))))))
def m__law_is_refused : Fm := runM [true] 6 b__law_is_refused
def lb1_law : Env' → So := sIf (qOr (qNot (qTru (eCallD m__law_is_right (rO 1 (rNil))))) (qNot (qTru (eCallD m__law_is_refused (rO 1 (rNil)))))) (sRet (eC (.bl false))) (sNil)
def b_law : Env' → So := sSeq (sSetO 1 (eCallD m__law_tape (rV (eVar 0) (rNil))))
  (sSeq (sSetO 2 (eLst (aCons (eCallD m_chain (rV (eTup (aCons (eC (.int 10)) (aCons (eC (.int 7)) (aNil)))) (rNil))) (aCons (eCallD m_chain (rV (eTup (aCons (eNeg (eC (.int 1))) (aCons (eC (.int 2)) (aNil)))) (rNil))) (aCons (eCallD m_from_chain (rV (eTup (aCons (eC (.int 1)) (aCons (eC (.int 2)) (aCons (eC (.int 3)) (aNil))))) (rNil))) (aCons (eCallD m_near_fractions (rV (eTup (aCons (eC (.int 10)) (aCons (eC (.int 7)) (aNil)))) (rNil))) (aCons (eCallD m_best_below (rV (eTup (aCons (eC (.int 1)) (aCons (eC (.int 2)) (aNil)))) (rV (eC (.int 1)) (rNil)))) (aNil))))))))
  (sSeq (sMut1 2 oApp (eCallD m_root_chain (rV (eC (.int 2)) (rV (eC (.int 3)) (rNil)))))
  (sSeq (sIf (qOr (qCmp bNe (eVar 2) (eLst (aCons (eLst (aCons (eC (.int 1)) (aCons (eC (.int 2)) (aCons (eC (.int 3)) (aNil))))) (aCons (eLst (aCons (eNeg (eC (.int 1))) (aCons (eC (.int 2)) (aNil)))) (aCons (eTup (aCons (eC (.int 10)) (aCons (eC (.int 7)) (aNil)))) (aCons (eLst (aCons (eTup (aCons (eC (.int 1)) (aCons (eC (.int 1)) (aNil)))) (aCons (eTup (aCons (eC (.int 3)) (aCons (eC (.int 2)) (aNil)))) (aCons (eTup (aCons (eC (.int 10)) (aCons (eC (.int 7)) (aNil)))) (aNil))))) (aCons (eTup (aCons (eC (.int 0)) (aCons (eC (.int 1)) (aNil)))) (aCons (eTup (aCons (eC (.int 1)) (aCons (eC (.int 2)) (aCons (eC (.int 2)) (aNil))))) (aNil))))))))) (qCmp bNe (eCallD m_root_chain (rV (eC (.int 9)) (rV (eC (.int 5)) (rNil)))) (eTup (aCons (eC (.int 3)) (aNil))))) (sRet (eC (.bl false))) (sNil))
  (sSeq (sFor (iR1 (eC (.int 6))) (tName 3) (lb1_law))
  (sRet (eC (.bl true)))))))
def m_law : Fm := runM [false] 4 b_law
/-! what the top has written -/
structure Tx (P : Program) (K : PySem.W.Frag) (mg : Str → Option Value) (base : Heap) where
  a_is_integer : Addr
  fd_is_integer : FuncData
  g_is_integer : mg "is_integer" = some (.ref a_is_integer)
  F_is_integer : L2.Fun K "is_integer" "is_integer" (tp 1) a_is_integer fd_is_integer
  B_is_integer : Binds K fd_is_integer ["thing"] []
  a_is_within : Addr
  fd_is_within : FuncData
  g_is_within : mg "is_within" = some (.ref a_is_within)
  F_is_within : L2.Fun K "is_within" "is_within" (tp 2) a_is_within fd_is_within
  B_is_within : Binds K fd_is_within ["thing", "least", "most"] []
  a_is_tuple : Addr
  fd_is_tuple : FuncData
  g_is_tuple : mg "is_tuple" = some (.ref a_is_tuple)
  F_is_tuple : L2.Fun K "is_tuple" "is_tuple" (tp 3) a_is_tuple fd_is_tuple
  B_is_tuple : Binds K fd_is_tuple ["thing", "least", "most"] []
  a_divisor : Addr
  fd_divisor : FuncData
  g_divisor : mg "divisor" = some (.ref a_divisor)
  F_divisor : L2.Fun K "divisor" "divisor" (tp 10) a_divisor fd_divisor
  B_divisor : Binds K fd_divisor ["one", "other"] []
  a_lowest : Addr
  fd_lowest : FuncData
  g_lowest : mg "lowest" = some (.ref a_lowest)
  F_lowest : L2.Fun K "lowest" "lowest" (tp 11) a_lowest fd_lowest
  B_lowest : Binds K fd_lowest ["top", "bottom"] []
  a_take : Addr
  fd_take : FuncData
  g_take : mg "take" = some (.ref a_take)
  F_take : L2.Fun K "take" "take" (tp 12) a_take fd_take
  B_take : Binds K fd_take ["one", "other"] []
  a_is_less : Addr
  fd_is_less : FuncData
  g_is_less : mg "is_less" = some (.ref a_is_less)
  F_is_less : L2.Fun K "is_less" "is_less" (tp 13) a_is_less fd_is_less
  B_is_less : Binds K fd_is_less ["one", "other"] []
  a_is_fraction : Addr
  fd_is_fraction : FuncData
  g_is_fraction : mg "is_fraction" = some (.ref a_is_fraction)
  F_is_fraction : L2.Fun K "is_fraction" "is_fraction" (tp 14) a_is_fraction fd_is_fraction
  B_is_fraction : Binds K fd_is_fraction ["thing"] []
  a_check_fraction : Addr
  fd_check_fraction : FuncData
  g_check_fraction : mg "check_fraction" = some (.ref a_check_fraction)
  F_check_fraction : L2.Fun K "check_fraction" "check_fraction" (tp 15) a_check_fraction fd_check_fraction
  B_check_fraction : Binds K fd_check_fraction ["thing"] []
  a_root_of : Addr
  fd_root_of : FuncData
  g_root_of : mg "root_of" = some (.ref a_root_of)
  F_root_of : L2.Fun K "root_of" "root_of" (tp 16) a_root_of fd_root_of
  B_root_of : Binds K fd_root_of ["number"] []
  a_check_above : Addr
  fd_check_above : FuncData
  g_check_above : mg "check_above" = some (.ref a_check_above)
  F_check_above : L2.Fun K "check_above" "check_above" (tp 17) a_check_above fd_check_above
  B_check_above : Binds K fd_check_above ["number", "most"] []
  a_steps_of : Addr
  fd_steps_of : FuncData
  g_steps_of : mg "steps_of" = some (.ref a_steps_of)
  F_steps_of : L2.Fun K "steps_of" "steps_of" (tp 18) a_steps_of fd_steps_of
  B_steps_of : Binds K fd_steps_of ["one"] []
  a_chain : Addr
  fd_chain : FuncData
  g_chain : mg "chain" = some (.ref a_chain)
  F_chain : L2.Fun K "chain" "chain" (tp 19) a_chain fd_chain
  B_chain : Binds K fd_chain ["one"] []
  a_from_chain : Addr
  fd_from_chain : FuncData
  g_from_chain : mg "from_chain" = some (.ref a_from_chain)
  F_from_chain : L2.Fun K "from_chain" "from_chain" (tp 20) a_from_chain fd_from_chain
  B_from_chain : Binds K fd_from_chain ["parts"] []
  a_near_fractions : Addr
  fd_near_fractions : FuncData
  g_near_fractions : mg "near_fractions" = some (.ref a_near_fractions)
  F_near_fractions : L2.Fun K "near_fractions" "near_fractions" (tp 21) a_near_fractions fd_near_fractions
  B_near_fractions : Binds K fd_near_fractions ["one"] []
  a_best_below : Addr
  fd_best_below : FuncData
  g_best_below : mg "best_below" = some (.ref a_best_below)
  F_best_below : L2.Fun K "best_below" "best_below" (tp 22) a_best_below fd_best_below
  B_best_below : Binds K fd_best_below ["one", "most"] []
  a_root_chain : Addr
  fd_root_chain : FuncData
  g_root_chain : mg "root_chain" = some (.ref a_root_chain)
  F_root_chain : L2.Fun K "root_chain" "root_chain" (tp 23) a_root_chain fd_root_chain
  B_root_chain : Binds K fd_root_chain ["number", "many"] []
  a__law_tape : Addr
  fd__law_tape : FuncData
  g__law_tape : mg "_law_tape" = some (.ref a__law_tape)
  F__law_tape : L2.Fun K "_law_tape" "_law_tape" (tp 25) a__law_tape fd__law_tape
  B__law_tape : Binds K fd__law_tape ["script"] []
  a__law_pick : Addr
  fd__law_pick : FuncData
  g__law_pick : mg "_law_pick" = some (.ref a__law_pick)
  F__law_pick : L2.Fun K "_law_pick" "_law_pick" (tp 26) a__law_pick fd__law_pick
  B__law_pick : Binds K fd__law_pick ["tape", "many"] []
  a__law_any : Addr
  fd__law_any : FuncData
  g__law_any : mg "_law_any" = some (.ref a__law_any)
  F__law_any : L2.Fun K "_law_any" "_law_any" (tp 27) a__law_any fd__law_any
  B__law_any : Binds K fd__law_any ["tape", "things"] []
  a__law_shared : Addr
  fd__law_shared : FuncData
  g__law_shared : mg "_law_shared" = some (.ref a__law_shared)
  F__law_shared : L2.Fun K "_law_shared" "_law_shared" (tp 28) a__law_shared fd__law_shared
  B__law_shared : Binds K fd__law_shared ["one", "other"] []
  a__law_over : Addr
  fd__law_over : FuncData
  g__law_over : mg "_law_over" = some (.ref a__law_over)
  F__law_over : L2.Fun K "_law_over" "_law_over" (tp 29) a__law_over fd__law_over
  B__law_over : Binds K fd__law_over ["top", "bottom"] []
  a__law_fraction : Addr
  fd__law_fraction : FuncData
  g__law_fraction : mg "_law_fraction" = some (.ref a__law_fraction)
  F__law_fraction : L2.Fun K "_law_fraction" "_law_fraction" (tp 30) a__law_fraction fd__law_fraction
  B__law_fraction : Binds K fd__law_fraction ["tape"] []
  a__law_no_fraction : Addr
  fd__law_no_fraction : FuncData
  g__law_no_fraction : mg "_law_no_fraction" = some (.ref a__law_no_fraction)
  F__law_no_fraction : L2.Fun K "_law_no_fraction" "_law_no_fraction" (tp 31) a__law_no_fraction fd__law_no_fraction
  B__law_no_fraction : Binds K fd__law_no_fraction ["tape"] []
  a__law_word : Addr
  fd__law_word : FuncData
  g__law_word : mg "_law_word" = some (.ref a__law_word)
  F__law_word : L2.Fun K "_law_word" "_law_word" (tp 32) a__law_word fd__law_word
  B__law_word : Binds K fd__law_word ["asked_one"] []
  a__law_chain : Addr
  fd__law_chain : FuncData
  g__law_chain : mg "_law_chain" = some (.ref a__law_chain)
  F__law_chain : L2.Fun K "_law_chain" "_law_chain" (tp 33) a__law_chain fd__law_chain
  B__law_chain : Binds K fd__law_chain ["one"] []
  a__law_from : Addr
  fd__law_from : FuncData
  g__law_from : mg "_law_from" = some (.ref a__law_from)
  F__law_from : L2.Fun K "_law_from" "_law_from" (tp 34) a__law_from fd__law_from
  B__law_from : Binds K fd__law_from ["parts_here"] []
  a__law_best : Addr
  fd__law_best : FuncData
  g__law_best : mg "_law_best" = some (.ref a__law_best)
  F__law_best : L2.Fun K "_law_best" "_law_best" (tp 35) a__law_best fd__law_best
  B__law_best : Binds K fd__law_best ["one", "most"] []
  a__law_root : Addr
  fd__law_root : FuncData
  g__law_root : mg "_law_root" = some (.ref a__law_root)
  F__law_root : L2.Fun K "_law_root" "_law_root" (tp 36) a__law_root fd__law_root
  B__law_root : Binds K fd__law_root ["number", "many"] []
  a__law_is_right : Addr
  fd__law_is_right : FuncData
  g__law_is_right : mg "_law_is_right" = some (.ref a__law_is_right)
  F__law_is_right : L2.Fun K "_law_is_right" "_law_is_right" (tp 37) a__law_is_right fd__law_is_right
  B__law_is_right : Binds K fd__law_is_right ["tape"] []
  a__law_is_refused : Addr
  fd__law_is_refused : FuncData
  g__law_is_refused : mg "_law_is_refused" = some (.ref a__law_is_refused)
  F__law_is_refused : L2.Fun K "_law_is_refused" "_law_is_refused" (tp 38) a__law_is_refused fd__law_is_refused
  B__law_is_refused : Binds K fd__law_is_refused ["tape"] []
  a__law_word_of : Addr
  fd__law_word_of : FuncData
  g__law_word_of : mg "_law_word_of" = some (.ref a__law_word_of)
  F__law_word_of : L2.Fun K "_law_word_of" "_law_word_of" (tp 39) a__law_word_of fd__law_word_of
  B__law_word_of : Binds K fd__law_word_of ["asked_one", "thing"] []
  a__law_word_by : Addr
  fd__law_word_by : FuncData
  g__law_word_by : mg "_law_word_by" = some (.ref a__law_word_by)
  F__law_word_by : L2.Fun K "_law_word_by" "_law_word_by" (tp 40) a__law_word_by fd__law_word_by
  B__law_word_by : Binds K fd__law_word_by ["asked_one", "one", "other"] []
  a_law : Addr
  fd_law : FuncData
  g_law : mg "law" = some (.ref a_law)
  F_law : L2.Fun K "law" "law" (tp 41) a_law fd_law
  B_law : Binds K fd_law ["script"] []
  n_ValueError : mg "ValueError" = none
  n_abs : mg "abs" = none
  n_all : mg "all" = none
  n_any : mg "any" = none
  n_bool : mg "bool" = none
  n_enumerate : mg "enumerate" = none
  n_int : mg "int" = none
  n_isinstance : mg "isinstance" = none
  n_len : mg "len" = none
  n_max : mg "max" = none
  n_range : mg "range" = none
  n_repr : mg "repr" = none
  n_tuple : mg "tuple" = none
  v_MOST_SIZE : Rf.Con K mg "MOST_SIZE" c_MOST_SIZE
  aC_GridError : Addr
  C_GridError : mg "GridError" = some (.ref aC_GridError)
  aC_NoFraction : Addr
  aI_NoFraction : Addr
  C_NoFraction : mg "NoFraction" = some (.ref aC_NoFraction)
  E_NoFraction : ETx P K mg "NoFraction" aC_NoFraction
  I_NoFraction : ITx P K aC_NoFraction aI_NoFraction ["self"] []
  aC_NoNumber : Addr
  aI_NoNumber : Addr
  C_NoNumber : mg "NoNumber" = some (.ref aC_NoNumber)
  E_NoNumber : ETx P K mg "NoNumber" aC_NoNumber
  I_NoNumber : ITx P K aC_NoNumber aI_NoNumber ["self"] []
  ex_GridError : ∀ c C, errs.contains c = true → mg c = some (.ref C) → PySem.W.exmOne K (.ref C) (.ref aC_GridError) = some true
  xc : ∀ c C, errs.contains c = true → mg c = some (.ref C) → ExcC K C
  k_ValueError : ∀ c C, errs.contains c = true → mg c = some (.ref C) → PySem.W.kitOne K (.ref C) (.type "ValueError") = some true
  k_NoFraction : ∀ c C, errs.contains c = true → mg c = some (.ref C) → PySem.W.kitOne K (.ref C) (.ref aC_NoFraction) = some (c == "NoFraction")
  k_NoNumber : ∀ c C, errs.contains c = true → mg c = some (.ref C) → PySem.W.kitOne K (.ref C) (.ref aC_NoNumber) = some (c == "NoNumber")
  P__law_word_of : Addr
  cA__law_word_of : Addr
  c__law_word_of : Rf.codeAt K a__law_word_of = some (.ref cA__law_word_of)
  T__law_word_of : TabB base mg cA__law_word_of P__law_word_of
  P__law_word_by : Addr
  cA__law_word_by : Addr
  c__law_word_by : Rf.codeAt K a__law_word_by = some (.ref cA__law_word_by)
  T__law_word_by : TabB base mg cA__law_word_by P__law_word_by
  d__law_word_of__law_word_by : P__law_word_of ≠ P__law_word_by
section
variable {P : Program} {w : World} {K : PySem.W.Frag} {mg : Str → Option Value} {base : Heap} (tx : Tx P K mg base)
def tT : Tb := ⟨[(tx.P__law_word_of, ("_law_word_of.<locals>.<lambda>" : Str)), (tx.P__law_word_by, ("_law_word_by.<locals>.<lambda>" : Str))], [], fun _ => none, fun _ => none⟩
theorem m_in__law_word_of : (tx.P__law_word_of, ("_law_word_of.<locals>.<lambda>" : Str)) ∈ (tT tx).tabs := by simp [tT]
theorem u_of__law_word_of : ∀ p ∈ (tT tx).tabs, p.1 = tx.P__law_word_of → p.2 = "_law_word_of.<locals>.<lambda>" := fun p hp e => by
  simp only [tT, List.mem_cons, List.not_mem_nil, or_false] at hp
  rcases hp with hp | hp <;> first | (rw [hp]; done) | (rw [hp] at e; first | exact absurd e tx.d__law_word_of__law_word_by | exact absurd e (Ne.symm tx.d__law_word_of__law_word_by))
theorem m_in__law_word_by : (tx.P__law_word_by, ("_law_word_by.<locals>.<lambda>" : Str)) ∈ (tT tx).tabs := by simp [tT]
theorem u_of__law_word_by : ∀ p ∈ (tT tx).tabs, p.1 = tx.P__law_word_by → p.2 = "_law_word_by.<locals>.<lambda>" := fun p hp e => by
  simp only [tT, List.mem_cons, List.not_mem_nil, or_false] at hp
  rcases hp with hp | hp <;> first | (rw [hp]; done) | (rw [hp] at e; first | exact absurd e tx.d__law_word_of__law_word_by | exact absurd e (Ne.symm tx.d__law_word_of__law_word_by))
theorem bd_is_integer : Body P w K mg base 0 "is_integer" (tp 1) tx.a_is_integer ["thing"] [false] (tT tx) b_is_integer := fun cdv A outer s H E pins hcd Fr pm =>
  (sb_one (ss_ret (se_and (se_isi .i (by decide +kernel) rfl tx.n_isinstance rfl tx.n_int (se_var 0)) (se_one (se_not (se_isi .b (by decide +kernel) rfl tx.n_isinstance rfl tx.n_bool (se_var 0)))))))
theorem c_is_integer : Rf.Cal P w K mg base 1 "is_integer" (spM ⟨K, mg⟩ (tT tx) m_is_integer) := ⟨tx.a_is_integer, tx.fd_is_integer, ["thing"], fnG_of tx.F_is_integer sc_is_integer rfl (bd_is_integer tx), tx.g_is_integer, tx.F_is_integer.kp, tx.B_is_integer⟩
theorem bd_is_within : Body P w K mg base 1 "is_within" (tp 2) tx.a_is_within ["thing", "least", "most"] [false, false, false] (tT tx) b_is_within := fun cdv A outer s H E pins hcd Fr pm =>
  (sb_one (ss_ret (se_and (se_callG (c_is_integer tx) Fr.C Fr.tk (by decide) rfl (sr_v (se_var 0) sr_nil)) (se_one (se_ch cm_le cm_le (se_var 1) (se_var 0) (se_var 2))))))
theorem c_is_within : Rf.Cal P w K mg base 2 "is_within" (spM ⟨K, mg⟩ (tT tx) m_is_within) := ⟨tx.a_is_within, tx.fd_is_within, ["thing", "least", "most"], fnG_of tx.F_is_within sc_is_within rfl (bd_is_within tx), tx.g_is_within, tx.F_is_within.kp, tx.B_is_within⟩
theorem bd_is_tuple : Body P w K mg base 0 "is_tuple" (tp 3) tx.a_is_tuple ["thing", "least", "most"] [false, false, false] (tT tx) b_is_tuple := fun cdv A outer s H E pins hcd Fr pm =>
  (sb_one (ss_ret (se_and (se_isi .t (by decide +kernel) rfl tx.n_isinstance rfl tx.n_tuple (se_var 0)) (se_one (se_ch cm_le cm_le (se_var 1) (se_lenV 0 rfl tx.n_len) (se_var 2))))))
theorem c_is_tuple : Rf.Cal P w K mg base 1 "is_tuple" (spM ⟨K, mg⟩ (tT tx) m_is_tuple) := ⟨tx.a_is_tuple, tx.fd_is_tuple, ["thing", "least", "most"], fnG_of tx.F_is_tuple sc_is_tuple rfl (bd_is_tuple tx), tx.g_is_tuple, tx.F_is_tuple.kp, tx.B_is_tuple⟩
theorem bd_divisor : Body P w K mg base 0 "divisor" (tp 10) tx.a_divisor ["one", "other"] [false, false] (tT tx) b_divisor := fun cdv A outer s H E pins hcd Fr pm =>
  (sb_cons (ss_par Fr.C 0 1 (fr_of pm (i := 0)) (fr_of pm (i := 1)) (by decide) (se_abs rfl tx.n_abs (se_var 0)) (se_abs rfl tx.n_abs (se_var 1)))
  (sb_cons (ss_while Fr.po (sq_cm cm_gt (se_var 1) se_int) (sb_one (ss_par Fr.C 0 1 (fr_of pm (i := 0)) (fr_of pm (i := 1)) (by decide) (se_var 1) (se_mod (se_var 0) (se_var 1)))))
  (sb_one (ss_ret (se_var 0)))))
theorem c_divisor : Rf.Cal P w K mg base 1 "divisor" (spM ⟨K, mg⟩ (tT tx) m_divisor) := ⟨tx.a_divisor, tx.fd_divisor, ["one", "other"], fnG_of tx.F_divisor sc_divisor rfl (bd_divisor tx), tx.g_divisor, tx.F_divisor.kp, tx.B_divisor⟩
theorem bd_lowest : Body P w K mg base 1 "lowest" (tp 11) tx.a_lowest ["top", "bottom", "shared"] [false, false] (tT tx) b_lowest := fun cdv A outer s H E pins hcd Fr pm =>
  (sb_cons (ss_set Fr.C.cs 2 (fr_of pm (i := 2)) (se_callG (c_divisor tx) Fr.C Fr.tk (by decide) rfl (sr_v (se_var 0) (sr_v (se_var 1) sr_nil))))
  (sb_cons (ss_if (sq_cm (cm_lt Fr.C.cs) (se_var 1) se_int) (sb_one (ss_par Fr.C 0 1 (fr_of pm (i := 0)) (fr_of pm (i := 1)) (by decide) (se_negD (se_var 0)) (se_negD (se_var 1)))) sb_nil)
  (sb_one (ss_ret (se_tup (sa_cons (se_div (se_var 0) (se_var 2)) (sa_cons (se_div (se_var 1) (se_var 2)) sa_nil)))))))
theorem c_lowest : Rf.Cal P w K mg base 2 "lowest" (spM ⟨K, mg⟩ (tT tx) m_lowest) := ⟨tx.a_lowest, tx.fd_lowest, ["top", "bottom"], fnG_of tx.F_lowest sc_lowest rfl (bd_lowest tx), tx.g_lowest, tx.F_lowest.kp, tx.B_lowest⟩
theorem bd_take : Body P w K mg base 2 "take" (tp 12) tx.a_take ["one", "other"] [false, false] (tT tx) b_take := fun cdv A outer s H E pins hcd Fr pm =>
  (sb_one (ss_ret (se_callG (c_lowest tx) Fr.C Fr.tk (by decide) rfl (sr_v (se_sub (se_mul (se_ixV Fr.C.cs 0 se_int) (se_ixV Fr.C.cs 1 se_int)) (se_mul (se_ixV Fr.C.cs 1 se_int) (se_ixV Fr.C.cs 0 se_int))) (sr_v (se_mul (se_ixV Fr.C.cs 0 se_int) (se_ixV Fr.C.cs 1 se_int)) sr_nil)))))
theorem c_take : Rf.Cal P w K mg base 3 "take" (spM ⟨K, mg⟩ (tT tx) m_take) := ⟨tx.a_take, tx.fd_take, ["one", "other"], fnG_of tx.F_take sc_take rfl (bd_take tx), tx.g_take, tx.F_take.kp, tx.B_take⟩
theorem bd_is_less : Body P w K mg base 0 "is_less" (tp 13) tx.a_is_less ["one", "other"] [false, false] (tT tx) b_is_less := fun cdv A outer s H E pins hcd Fr pm =>
  (sb_one (ss_ret (se_cm (cm_lt Fr.C.cs) (se_mul (se_ixV Fr.C.cs 0 se_int) (se_ixV Fr.C.cs 1 se_int)) (se_mul (se_ixV Fr.C.cs 1 se_int) (se_ixV Fr.C.cs 0 se_int)))))
theorem c_is_less : Rf.Cal P w K mg base 1 "is_less" (spM ⟨K, mg⟩ (tT tx) m_is_less) := ⟨tx.a_is_less, tx.fd_is_less, ["one", "other"], fnG_of tx.F_is_less sc_is_less rfl (bd_is_less tx), tx.g_is_less, tx.F_is_less.kp, tx.B_is_less⟩
theorem bd_is_fraction : Body P w K mg base 2 "is_fraction" (tp 14) tx.a_is_fraction ["thing", "one"] [false] (tT tx) b_is_fraction := fun cdv A outer s H E pins hcd Fr pm =>
  (sb_cons (ss_if (SW.sq (sw_or (sq_not (sq_tru (se_callG (c_is_tuple tx) Fr.C Fr.tk (by decide) rfl (sr_v (se_var 0) (sr_v se_int (sr_v se_int sr_nil)))))) (sw_or1 (sq_not (sq_tru (se_all rfl rfl tx.n_all (SF.se (sf_lc (own := [("one", 1)]) Fr.C (frs_of pm) (si_seq (se_var 0)) (by kernel_rfl) (by decide) (fun _ _ _ _ _ => (sg_name (Ctx.cs (Ctx.blk Fr.C _ _ _ _ _)) 1 (fr_of pm (i := 1)))) (fun _ _ _ _ _ => sts_nil) (fun _ _ _ _ _ => (se_callG (c_is_within tx) (Ctx.blk Fr.C _ _ _ _ _) L2.takes0 (by decide) rfl (sr_v (se_var 1) (sr_v (se_negD (se_con tx.v_MOST_SIZE rfl)) (sr_v (se_con tx.v_MOST_SIZE rfl) sr_nil))))))))))))) (sb_one (ss_ret se_bl)) sb_nil)
  (sb_one (ss_ret (se_and (se_cm cm_gt (se_ixV Fr.C.cs 0 se_int) se_int) (se_one (se_cm (cm_eq Fr.C.cs) (se_callG (c_divisor tx) Fr.C Fr.tk (by decide) rfl (sr_v (se_ixV Fr.C.cs 0 se_int) (sr_v (se_ixV Fr.C.cs 0 se_int) sr_nil))) se_int))))))
theorem c_is_fraction : Rf.Cal P w K mg base 3 "is_fraction" (spM ⟨K, mg⟩ (tT tx) m_is_fraction) := ⟨tx.a_is_fraction, tx.fd_is_fraction, ["thing"], fnG_of tx.F_is_fraction sc_is_fraction rfl (bd_is_fraction tx), tx.g_is_fraction, tx.F_is_fraction.kp, tx.B_is_fraction⟩
theorem bd_check_fraction : Body P w K mg base 3 "check_fraction" (tp 15) tx.a_check_fraction ["thing"] [false] (tT tx) b_check_fraction := fun cdv A outer s H E pins hcd Fr pm =>
  (sb_one (ss_if (sq_not (sq_tru (se_callG (c_is_fraction tx) Fr.C Fr.tk (by decide) rfl (sr_v (se_var 0) sr_nil)))) (sb_one (ss_raise0 (k := 0) Fr tx.E_NoFraction tx.I_NoFraction (by decide) rfl)) sb_nil))
theorem c_check_fraction : Rf.Cal P w K mg base 4 "check_fraction" (spM ⟨K, mg⟩ (tT tx) m_check_fraction) := ⟨tx.a_check_fraction, tx.fd_check_fraction, ["thing"], fnG_of tx.F_check_fraction sc_check_fraction rfl (bd_check_fraction tx), tx.g_check_fraction, tx.F_check_fraction.kp, tx.B_check_fraction⟩
theorem bd_root_of : Body P w K mg base 0 "root_of" (tp 16) tx.a_root_of ["number", "here", "later"] [false] (tT tx) b_root_of := fun cdv A outer s H E pins hcd Fr pm =>
  (sb_cons (ss_if (sq_cm (cm_lt Fr.C.cs) (se_var 0) se_int) (sb_one (ss_ret (se_var 0))) sb_nil)
  (sb_cons (ss_set Fr.C.cs 1 (fr_of pm (i := 1)) (se_var 0))
  (sb_cons (ss_set Fr.C.cs 2 (fr_of pm (i := 2)) (se_div (se_add (se_var 1) se_int) se_int))
  (sb_cons (ss_while Fr.po (sq_cm (cm_lt Fr.C.cs) (se_var 2) (se_var 1)) (sb_cons (ss_set Fr.C.cs 1 (fr_of pm (i := 1)) (se_var 2))
  (sb_one (ss_set Fr.C.cs 2 (fr_of pm (i := 2)) (se_div (se_add (se_var 1) (se_div (se_var 0) (se_var 1))) se_int)))))
  (sb_one (ss_ret (se_var 1)))))))
theorem c_root_of : Rf.Cal P w K mg base 1 "root_of" (spM ⟨K, mg⟩ (tT tx) m_root_of) := ⟨tx.a_root_of, tx.fd_root_of, ["number"], fnG_of tx.F_root_of sc_root_of rfl (bd_root_of tx), tx.g_root_of, tx.F_root_of.kp, tx.B_root_of⟩
theorem bd_check_above : Body P w K mg base 2 "check_above" (tp 17) tx.a_check_above ["number", "most"] [false, false] (tT tx) b_check_above := fun cdv A outer s H E pins hcd Fr pm =>
  (sb_one (ss_if (sq_not (sq_tru (se_callG (c_is_within tx) Fr.C Fr.tk (by decide) rfl (sr_v (se_var 0) (sr_v se_int (sr_v (se_var 1) sr_nil)))))) (sb_one (ss_raise0 (k := 0) Fr tx.E_NoNumber tx.I_NoNumber (by decide) rfl)) sb_nil))
theorem c_check_above : Rf.Cal P w K mg base 3 "check_above" (spM ⟨K, mg⟩ (tT tx) m_check_above) := ⟨tx.a_check_above, tx.fd_check_above, ["number", "most"], fnG_of tx.F_check_above sc_check_above rfl (bd_check_above tx), tx.g_check_above, tx.F_check_above.kp, tx.B_check_above⟩
theorem bd_steps_of : Body P w K mg base 0 "steps_of" (tp 18) tx.a_steps_of ["one", "top", "bottom", "found", "many"] [false] (tT tx) b_steps_of := fun cdv A outer s H E pins hcd Fr pm =>
  (sb_cons (ss_par3 Fr.C 1 2 3 (fr_of pm (i := 1)) (fr_of pm (i := 2)) (fr_of pm (i := 3)) (by decide) (by decide) (by decide) (sl_v (se_ixV Fr.C.cs 0 se_int) (sl_v (se_ixV Fr.C.cs 0 se_int) (sl_o (sf_lst sa_nil) sl_nil))))
  (sb_cons (ss_while Fr.po (sq_cm (cm_ne Fr.C.cs) (se_var 2) se_int) (sb_cons (ss_set Fr.C.cs 4 (fr_of pm (i := 4)) (se_div (se_var 1) (se_var 2)))
  (sb_cons (ss_append 3 (se_var 4))
  (sb_one (ss_par Fr.C 1 2 (fr_of pm (i := 1)) (fr_of pm (i := 2)) (by decide) (se_var 2) (se_sub (se_var 1) (se_mul (se_var 4) (se_var 2))))))))
  (sb_one (ss_retO 3))))
theorem c_steps_of : Rf.Cal P w K mg base 1 "steps_of" (spF ⟨K, mg⟩ (tT tx) m_steps_of) := ⟨tx.a_steps_of, tx.fd_steps_of, ["one"], fnF_of tx.F_steps_of sc_steps_of rfl (bd_steps_of tx), tx.g_steps_of, tx.F_steps_of.kp, tx.B_steps_of⟩
theorem bd_chain : Body P w K mg base 4 "chain" (tp 19) tx.a_chain ["one"] [false] (tT tx) b_chain := fun cdv A outer s H E pins hcd Fr pm =>
  (sb_cons (ss_expr (se_callG (c_check_fraction tx) Fr.C Fr.tk (by decide) rfl (sr_v (se_var 0) sr_nil)))
  (sb_one (ss_retF (sf_callG (c_steps_of tx) Fr.C Fr.tk (by decide) rfl (sr_v (se_var 0) sr_nil)))))
theorem c_chain : Rf.Cal P w K mg base 5 "chain" (spF ⟨K, mg⟩ (tT tx) m_chain) := ⟨tx.a_chain, tx.fd_chain, ["one"], fnF_of tx.F_chain sc_chain rfl (bd_chain tx), tx.g_chain, tx.F_chain.kp, tx.B_chain⟩
theorem bd_from_chain : Body P w K mg base 2 "from_chain" (tp 20) tx.a_from_chain ["parts", "found", "one"] [false] (tT tx) b_from_chain := fun cdv A outer s H E pins hcd Fr pm =>
  (sb_cons (ss_if (SW.sq (sw_or (sq_not (sq_tru (se_callG (c_is_tuple tx) Fr.C Fr.tk (by decide) rfl (sr_v (se_var 0) (sr_v se_int (sr_v se_int sr_nil)))))) (sw_or1 (sq_not (sq_tru (se_all rfl rfl tx.n_all (SF.se (sf_lc (own := [("one", 2)]) Fr.C (frs_of pm) (si_seq (se_var 0)) (by kernel_rfl) (by decide) (fun _ _ _ _ _ => (sg_name (Ctx.cs (Ctx.blk Fr.C _ _ _ _ _)) 2 (fr_of pm (i := 2)))) (fun _ _ _ _ _ => sts_nil) (fun _ _ _ _ _ => (se_callG (c_is_within tx) (Ctx.blk Fr.C _ _ _ _ _) L2.takes0 (by decide) rfl (sr_v (se_var 2) (sr_v (se_negD (se_pow se_int se_int)) (sr_v (se_pow se_int se_int) sr_nil))))))))))))) (sb_one (ss_raise0 (k := 0) Fr tx.E_NoFraction tx.I_NoFraction (by decide) rfl)) sb_nil)
  (sb_cons (ss_if (sq_tru (se_any rfl rfl tx.n_any (SF.se (sf_lc (own := [("one", 2)]) Fr.C (frs_of pm) (si_seq (se_slice (se_var 0) (so_some se_int) so_none)) (by kernel_rfl) (by decide) (fun _ _ _ _ _ => (sg_name (Ctx.cs (Ctx.blk Fr.C _ _ _ _ _)) 2 (fr_of pm (i := 2)))) (fun _ _ _ _ _ => sts_nil) (fun _ _ _ _ _ => (se_cm (cm_lt (Ctx.cs (Ctx.blk Fr.C _ _ _ _ _))) (se_var 2) se_int)))))) (sb_one (ss_raise0 (k := 0) Fr tx.E_NoFraction tx.I_NoFraction (by decide) rfl)) sb_nil)
  (sb_cons (ss_set Fr.C.cs 1 (fr_of pm (i := 1)) (se_tup (sa_cons (se_ixV Fr.C.cs 0 (se_negD se_int)) (sa_cons se_int sa_nil))))
  (sb_cons (ss_for Fr.C Fr.po (si_seq (se_rev2 (se_var 0))) (sg_name Fr.C.cs 2 (fr_of pm (i := 2))) (sb_one (ss_set Fr.C.cs 1 (fr_of pm (i := 1)) (se_tup (sa_cons (se_add (se_mul (se_var 2) (se_ixV Fr.C.cs 1 se_int)) (se_ixV Fr.C.cs 1 se_int)) (sa_cons (se_ixV Fr.C.cs 1 se_int) sa_nil))))))
  (sb_one (ss_ret (se_var 1)))))))
theorem c_from_chain : Rf.Cal P w K mg base 3 "from_chain" (spM ⟨K, mg⟩ (tT tx) m_from_chain) := ⟨tx.a_from_chain, tx.fd_from_chain, ["parts"], fnG_of tx.F_from_chain sc_from_chain rfl (bd_from_chain tx), tx.g_from_chain, tx.F_from_chain.kp, tx.B_from_chain⟩
theorem bd_near_fractions : Body P w K mg base 4 "near_fractions" (tp 21) tx.a_near_fractions ["one", "many", "parts", "found", "here", "part"] [false] (tT tx) b_near_fractions := fun cdv A outer s H E pins hcd Fr pm =>
  (sb_cons (ss_expr (se_callG (c_check_fraction tx) Fr.C Fr.tk (by decide) rfl (sr_v (se_var 0) sr_nil)))
  (sb_cons (ss_par2 Fr.C 2 3 (fr_of pm (i := 2)) (fr_of pm (i := 3)) (by decide) (sl_v (SF.se (sf_callG (c_steps_of tx) Fr.C Fr.tk (by decide) rfl (sr_v (se_var 0) sr_nil))) (sl_o (sf_lst sa_nil) sl_nil)))
  (sb_cons (ss_for Fr.C Fr.po (si_r2 rfl tx.n_range se_int (se_add (se_lenV 2 rfl tx.n_len) se_int)) (sg_name Fr.C.cs 1 (fr_of pm (i := 1))) (sb_cons (ss_set Fr.C.cs 4 (fr_of pm (i := 4)) (se_tup (sa_cons (se_ixV Fr.C.cs 2 (se_sub (se_var 1) se_int)) (sa_cons se_int sa_nil))))
  (sb_cons (ss_for Fr.C Fr.po (si_seq (se_rev (se_slice (se_var 2) so_none (so_some (se_sub (se_var 1) se_int))))) (sg_name Fr.C.cs 5 (fr_of pm (i := 5))) (sb_one (ss_set Fr.C.cs 4 (fr_of pm (i := 4)) (se_tup (sa_cons (se_add (se_mul (se_var 5) (se_ixV Fr.C.cs 4 se_int)) (se_ixV Fr.C.cs 4 se_int)) (sa_cons (se_ixV Fr.C.cs 4 se_int) sa_nil))))))
  (sb_one (ss_append 3 (se_var 4))))))
  (sb_one (ss_retO 3)))))
theorem c_near_fractions : Rf.Cal P w K mg base 5 "near_fractions" (spF ⟨K, mg⟩ (tT tx) m_near_fractions) := ⟨tx.a_near_fractions, tx.fd_near_fractions, ["one"], fnF_of tx.F_near_fractions sc_near_fractions rfl (bd_near_fractions tx), tx.g_near_fractions, tx.F_near_fractions.kp, tx.B_near_fractions⟩
theorem bd_best_below : Body P w K mg base 4 "best_below" (tp 22) tx.a_best_below ["one", "most", "best", "bottom", "low", "top", "far"] [false, false] (tT tx) b_best_below := fun cdv A outer s H E pins hcd Fr pm =>
  (sb_cons (ss_expr (se_callG (c_check_fraction tx) Fr.C Fr.tk (by decide) rfl (sr_v (se_var 0) sr_nil)))
  (sb_cons (ss_expr (se_callG (c_check_above tx) Fr.C Fr.tk (by decide) rfl (sr_v (se_var 1) (sr_v (se_pow se_int se_int) sr_nil))))
  (sb_cons (ss_set Fr.C.cs 2 (fr_of pm (i := 2)) se_non)
  (sb_cons (ss_for Fr.C Fr.po (si_r2 rfl tx.n_range se_int (se_add (se_var 1) se_int)) (sg_name Fr.C.cs 3 (fr_of pm (i := 3))) (sb_cons (ss_set Fr.C.cs 4 (fr_of pm (i := 4)) (se_div (se_mul (se_ixV Fr.C.cs 0 se_int) (se_var 3)) (se_ixV Fr.C.cs 0 se_int)))
  (sb_one (ss_for Fr.C Fr.po (si_seq (se_tup (sa_cons (se_var 4) (sa_cons (se_add (se_var 4) se_int) sa_nil)))) (sg_name Fr.C.cs 5 (fr_of pm (i := 5))) (sb_one (ss_if (sq_cm (cm_eq Fr.C.cs) (se_callG (c_divisor tx) Fr.C Fr.tk (by decide) rfl (sr_v (se_var 5) (sr_v (se_var 3) sr_nil))) se_int) (sb_cons (ss_set Fr.C.cs 6 (fr_of pm (i := 6)) (se_callG (c_take tx) Fr.C Fr.tk (by decide) rfl (sr_v (se_var 0) (sr_v (se_tup (sa_cons (se_var 5) (sa_cons (se_var 3) sa_nil))) sr_nil))))
  (sb_cons (ss_set Fr.C.cs 6 (fr_of pm (i := 6)) (se_tup (sa_cons (se_abs rfl tx.n_abs (se_ixV Fr.C.cs 6 se_int)) (sa_cons (se_ixV Fr.C.cs 6 se_int) sa_nil))))
  (sb_one (ss_if (SW.sq (sw_or (sq_cm cm_isN (se_var 2) se_non) (sw_or1 (sq_tru (se_callG (c_is_less tx) Fr.C Fr.tk (by decide) rfl (sr_v (se_var 6) (sr_v (se_ixV Fr.C.cs 2 se_int) sr_nil))))))) (sb_one (ss_set Fr.C.cs 2 (fr_of pm (i := 2)) (se_tup (sa_cons (se_var 6) (sa_cons (se_tup (sa_cons (se_var 5) (sa_cons (se_var 3) sa_nil))) sa_nil))))) sb_nil)))) sb_nil))))))
  (sb_one (ss_ret (se_ixV Fr.C.cs 2 se_int)))))))
theorem c_best_below : Rf.Cal P w K mg base 5 "best_below" (spM ⟨K, mg⟩ (tT tx) m_best_below) := ⟨tx.a_best_below, tx.fd_best_below, ["one", "most"], fnG_of tx.F_best_below sc_best_below rfl (bd_best_below tx), tx.g_best_below, tx.F_best_below.kp, tx.B_best_below⟩
theorem bd_root_chain : Body P w K mg base 3 "root_chain" (tp 23) tx.a_root_chain ["number", "many", "low", "found", "add_on", "bottom", "here"] [false, false] (tT tx) b_root_chain := fun cdv A outer s H E pins hcd Fr pm =>
  (sb_cons (ss_expr (se_callG (c_check_above tx) Fr.C Fr.tk (by decide) rfl (sr_v (se_var 0) (sr_v (se_pow se_int se_int) sr_nil))))
  (sb_cons (ss_expr (se_callG (c_check_above tx) Fr.C Fr.tk (by decide) rfl (sr_v (se_var 1) (sr_v se_int sr_nil))))
  (sb_cons (ss_set Fr.C.cs 2 (fr_of pm (i := 2)) (se_callG (c_root_of tx) Fr.C Fr.tk (by decide) rfl (sr_v (se_var 0) sr_nil)))
  (sb_cons (ss_parG (n := 0) Fr.C (frl_cons (fr_of pm (i := 3)) (frl_cons (fr_of pm (i := 4)) (frl_cons (fr_of pm (i := 5)) (frl_cons (fr_of pm (i := 6)) frl_nil)))) (sl_o (sf_lst (sa_cons (se_var 2) sa_nil)) (sl_v se_int (sl_v se_int (sl_v (se_var 2) sl_nil)))) (gn_cons Fr.C.cs (gn_cons Fr.C.cs (gn_cons Fr.C.cs (gn_cons Fr.C.cs gn_nil)))) rfl (by decide))
  (sb_cons (ss_while Fr.po (SW.sq (sw_and (sq_cm (cm_ne Fr.C.cs) (se_mul (se_var 2) (se_var 2)) (se_var 0)) (sw_and1 (sq_cm (cm_lt Fr.C.cs) (se_lenV 3 rfl tx.n_len) (se_var 1))))) (sb_cons (ss_set Fr.C.cs 4 (fr_of pm (i := 4)) (se_sub (se_mul (se_var 6) (se_var 5)) (se_var 4)))
  (sb_cons (ss_set Fr.C.cs 5 (fr_of pm (i := 5)) (se_div (se_sub (se_var 0) (se_mul (se_var 4) (se_var 4))) (se_var 5)))
  (sb_cons (ss_set Fr.C.cs 6 (fr_of pm (i := 6)) (se_div (se_add (se_var 2) (se_var 4)) (se_var 5)))
  (sb_one (ss_append 3 (se_var 6)))))))
  (sb_one (ss_ret (se_tuple rfl tx.n_tuple (se_var 3)))))))))
theorem c_root_chain : Rf.Cal P w K mg base 4 "root_chain" (spM ⟨K, mg⟩ (tT tx) m_root_chain) := ⟨tx.a_root_chain, tx.fd_root_chain, ["number", "many"], fnG_of tx.F_root_chain sc_root_chain rfl (bd_root_chain tx), tx.g_root_chain, tx.F_root_chain.kp, tx.B_root_chain⟩
theorem bd__law_tape : Body P w K mg base 0 "_law_tape" (tp 25) tx.a__law_tape ["script", "cells", "cell"] [false] (tT tx) b__law_tape := fun cdv A outer s H E pins hcd Fr pm =>
  (sb_cons (ss_setLc (own := [("cell", 2)]) (fr_of pm (i := 1)) Fr.C (frs_of pm) (si_seq (se_slice (se_var 0) so_none (so_some se_int))) (by kernel_rfl) (by decide) (fun _ _ _ _ _ => (sg_name (Ctx.cs (Ctx.blk Fr.C _ _ _ _ _)) 2 (fr_of pm (i := 2)))) (fun _ _ _ _ _ => sts_nil) (fun _ _ _ _ _ => (se_abs rfl tx.n_abs (se_toInt rfl tx.n_int (se_var 2)))) rfl rfl (sw_true rfl rfl rfl (by decide +kernel)))
  (sb_one (ss_retF (sf_lst (sa_cons (se_var 1) (sa_cons se_int (sa_cons se_int (sa_cons (se_add se_int (se_lenV 1 rfl tx.n_len)) (sa_cons se_int sa_nil)))))))))
theorem c__law_tape : Rf.Cal P w K mg base 1 "_law_tape" (spF ⟨K, mg⟩ (tT tx) m__law_tape) := ⟨tx.a__law_tape, tx.fd__law_tape, ["script"], fnF_of tx.F__law_tape sc__law_tape rfl (bd__law_tape tx), tx.g__law_tape, tx.F__law_tape.kp, tx.B__law_tape⟩
theorem bd__law_pick : Body P w K mg base 0 "_law_pick" (tp 26) tx.a__law_pick ["tape", "many", "number", "cell", "digit"] [true, false] (tT tx) b__law_pick := fun cdv A outer s H E pins hcd Fr pm =>
  (sb_cons (ss_if (SW.sq (sw_and (sq_cm (cm_eq Fr.C.cs) (se_ixV Fr.C.cs 0 se_int) se_int) (sw_and1 (sq_cm (cm_lt Fr.C.cs) (se_ixV Fr.C.cs 0 se_int) (se_len rfl tx.n_len (se_ixV Fr.C.cs 0 se_int)))))) (sb_cons (ss_set Fr.C.cs 3 (fr_of pm (i := 3)) (se_ix Fr.C.cs (se_ixV Fr.C.cs 0 se_int) (se_ixV Fr.C.cs 0 se_int)))
  (sb_cons (ss_setIx 0 se_int (se_add (se_ixV Fr.C.cs 0 se_int) se_int))
  (sb_cons (ss_setIx 0 se_int (se_mod (se_toInt rfl tx.n_int (se_add (se_add (se_mul (se_ixV Fr.C.cs 0 se_int) se_int) (se_var 3)) se_int)) se_int))
  (sb_one (ss_if (sq_cm cm_ge (se_var 3) (se_pow se_int se_int)) (sb_one (ss_setIx 0 se_int (se_var 3))) sb_nil))))) sb_nil)
  (sb_cons (ss_if (sq_cm cm_gt (se_ixV Fr.C.cs 0 se_int) se_int) (sb_cons (ss_set Fr.C.cs 4 (fr_of pm (i := 4)) (se_mod (se_toInt rfl tx.n_int (se_ixV Fr.C.cs 0 se_int)) (se_var 1)))
  (sb_cons (ss_setIx 0 se_int (se_div (se_ixV Fr.C.cs 0 se_int) (se_var 1)))
  (sb_one (ss_ret (se_var 4))))) sb_nil)
  (sb_cons (ss_setIx 0 se_int (se_add (se_ixV Fr.C.cs 0 se_int) se_int))
  (sb_cons (ss_set Fr.C.cs 2 (fr_of pm (i := 2)) (se_mod (se_toInt rfl tx.n_int (se_mul (se_toInt rfl tx.n_int (se_add (se_ixV Fr.C.cs 0 se_int) (se_mul se_int (se_ixV Fr.C.cs 0 se_int)))) se_int)) se_int))
  (sb_cons (ss_set Fr.C.cs 2 (fr_of pm (i := 2)) (se_mod (se_toInt rfl tx.n_int (se_mul (se_var 2) (se_add (se_div (se_var 2) se_int) se_int))) se_int))
  (sb_cons (ss_set Fr.C.cs 2 (fr_of pm (i := 2)) (se_mod (se_toInt rfl tx.n_int (se_mul (se_var 2) (se_add (se_div (se_var 2) se_int) se_int))) se_int))
  (sb_one (ss_ret (se_mod (se_toInt rfl tx.n_int (se_div (se_var 2) se_int)) (se_var 1))))))))))
theorem c__law_pick : Rf.Cal P w K mg base 1 "_law_pick" (spM ⟨K, mg⟩ (tT tx) m__law_pick) := ⟨tx.a__law_pick, tx.fd__law_pick, ["tape", "many"], fnG_of tx.F__law_pick sc__law_pick rfl (bd__law_pick tx), tx.g__law_pick, tx.F__law_pick.kp, tx.B__law_pick⟩
theorem bd__law_any : Body P w K mg base 1 "_law_any" (tp 27) tx.a__law_any ["tape", "things"] [true, false] (tT tx) b__law_any := fun cdv A outer s H E pins hcd Fr pm =>
  (sb_one (ss_ret (se_ixV Fr.C.cs 1 (se_callG (c__law_pick tx) Fr.C Fr.tk (by decide) rfl (sr_o 0 (sr_v (se_lenV 1 rfl tx.n_len) sr_nil))))))
theorem c__law_any : Rf.Cal P w K mg base 2 "_law_any" (spM ⟨K, mg⟩ (tT tx) m__law_any) := ⟨tx.a__law_any, tx.fd__law_any, ["tape", "things"], fnG_of tx.F__law_any sc__law_any rfl (bd__law_any tx), tx.g__law_any, tx.F__law_any.kp, tx.B__law_any⟩
theorem bd__law_shared : Body P w K mg base 0 "_law_shared" (tp 28) tx.a__law_shared ["one", "other"] [false, false] (tT tx) b__law_shared := fun cdv A outer s H E pins hcd Fr pm =>
  (sb_cons (ss_par Fr.C 0 1 (fr_of pm (i := 0)) (fr_of pm (i := 1)) (by decide) (se_abs rfl tx.n_abs (se_var 0)) (se_abs rfl tx.n_abs (se_var 1)))
  (sb_cons (ss_while Fr.po (sq_cm cm_gt (se_var 1) se_int) (sb_one (ss_par Fr.C 0 1 (fr_of pm (i := 0)) (fr_of pm (i := 1)) (by decide) (se_var 1) (se_mod (se_toInt rfl tx.n_int (se_var 0)) (se_var 1)))))
  (sb_one (ss_ret (se_var 0)))))
theorem c__law_shared : Rf.Cal P w K mg base 1 "_law_shared" (spM ⟨K, mg⟩ (tT tx) m__law_shared) := ⟨tx.a__law_shared, tx.fd__law_shared, ["one", "other"], fnG_of tx.F__law_shared sc__law_shared rfl (bd__law_shared tx), tx.g__law_shared, tx.F__law_shared.kp, tx.B__law_shared⟩
theorem bd__law_over : Body P w K mg base 1 "_law_over" (tp 29) tx.a__law_over ["top", "bottom", "same"] [false, false] (tT tx) b__law_over := fun cdv A outer s H E pins hcd Fr pm =>
  (sb_cons (ss_set Fr.C.cs 2 (fr_of pm (i := 2)) (se_callG (c__law_shared tx) Fr.C Fr.tk (by decide) rfl (sr_v (se_var 0) (sr_v (se_var 1) sr_nil))))
  (sb_cons (ss_set Fr.C.cs 2 (fr_of pm (i := 2)) (se_if (sq_cm cm_gt (se_var 1) se_int) (se_var 2) (se_sub se_int (se_var 2))))
  (sb_one (ss_ret (se_tup (sa_cons (se_div (se_var 0) (se_var 2)) (sa_cons (se_div (se_var 1) (se_var 2)) sa_nil)))))))
theorem c__law_over : Rf.Cal P w K mg base 2 "_law_over" (spM ⟨K, mg⟩ (tT tx) m__law_over) := ⟨tx.a__law_over, tx.fd__law_over, ["top", "bottom"], fnG_of tx.F__law_over sc__law_over rfl (bd__law_over tx), tx.g__law_over, tx.F__law_over.kp, tx.B__law_over⟩
theorem bd__law_fraction : Body P w K mg base 2 "_law_fraction" (tp 30) tx.a__law_fraction ["tape", "great"] [true] (tT tx) b__law_fraction := fun cdv A outer s H E pins hcd Fr pm =>
  (sb_cons (ss_set Fr.C.cs 1 (fr_of pm (i := 1)) (se_callG (c__law_any tx) Fr.C Fr.tk (by decide) rfl (sr_o 0 (sr_v (SF.se (sf_lst (sa_cons se_int (sa_cons se_int (sa_cons se_int (sa_cons (se_pow se_int se_int) sa_nil)))))) sr_nil))))
  (sb_one (ss_ret (se_callG (c__law_over tx) Fr.C Fr.tk (by decide) rfl (sr_v (se_sub (se_callG (c__law_pick tx) Fr.C Fr.tk (by decide) rfl (sr_o 0 (sr_v (se_add (se_mul se_int (se_var 1)) se_int) sr_nil))) (se_var 1)) (sr_v (se_add se_int (se_callG (c__law_pick tx) Fr.C Fr.tk (by decide) rfl (sr_o 0 (sr_v (se_var 1) sr_nil)))) sr_nil))))))
theorem c__law_fraction : Rf.Cal P w K mg base 3 "_law_fraction" (spM ⟨K, mg⟩ (tT tx) m__law_fraction) := ⟨tx.a__law_fraction, tx.fd__law_fraction, ["tape"], fnG_of tx.F__law_fraction sc__law_fraction rfl (bd__law_fraction tx), tx.g__law_fraction, tx.F__law_fraction.kp, tx.B__law_fraction⟩
theorem bd__law_no_fraction : Body P w K mg base 2 "_law_no_fraction" (tp 31) tx.a__law_no_fraction ["tape", "some"] [true] (tT tx) b__law_no_fraction := fun cdv A outer s H E pins hcd Fr pm =>
  (sb_cons (ss_set Fr.C.cs 1 (fr_of pm (i := 1)) (SF.se (sf_lst (sa_cons se_non (sa_cons se_int (sa_cons (se_tup (sa_cons se_int sa_nil)) (sa_cons (se_tup (sa_cons se_int (sa_cons se_int sa_nil))) (sa_cons (se_tup (sa_cons se_int (sa_cons se_int sa_nil))) (sa_cons (se_tup (sa_cons se_int (sa_cons se_int sa_nil))) (sa_cons (se_tup (sa_cons se_int (sa_cons (se_negD se_int) sa_nil))) (sa_cons (SF.se (sf_lst (sa_cons se_int (sa_cons se_int sa_nil)))) (sa_cons (se_tup (sa_cons se_bl (sa_cons se_int sa_nil))) (sa_cons (se_tup (sa_cons se_int (sa_cons se_bl sa_nil))) (sa_cons (se_tup (sa_cons se_str (sa_cons se_int sa_nil))) (sa_cons (se_tup (sa_cons se_int (sa_cons se_int (sa_cons se_int sa_nil)))) (sa_cons (SF.se sf_dnewK) sa_nil))))))))))))))))
  (sb_one (ss_ret (se_callG (c__law_any tx) Fr.C Fr.tk (by decide) rfl (sr_o 0 (sr_v (se_var 1) sr_nil))))))
theorem c__law_no_fraction : Rf.Cal P w K mg base 3 "_law_no_fraction" (spM ⟨K, mg⟩ (tT tx) m__law_no_fraction) := ⟨tx.a__law_no_fraction, tx.fd__law_no_fraction, ["tape"], fnG_of tx.F__law_no_fraction sc__law_no_fraction rfl (bd__law_no_fraction tx), tx.g__law_no_fraction, tx.F__law_no_fraction.kp, tx.B__law_no_fraction⟩
theorem bdG__law_word {k : Nat} : BodyG P w K mg base (k + 1) "_law_word" (tp 32) tx.a__law_word ["asked_one", "found", "e", "flags", "tags"] "asked_one" (tT tx).tabs g__law_word := fun cdv A outer s H E T2 r Fr ht h0 act =>
  (sb_cons (ss_set Fr.C.cs 1 (fr_zero h0 (i := 1) (by decide)) se_str)
  (sb_cons (ss_try Fr rfl rfl rfl rfl rfl tx.C_GridError (by decide) (fr_zero h0 (i := 2) (by decide)) tx.ex_GridError (fun W2 pn xe Fr2 => (sb_one (ss_expr (act _ _ _ _ _ Fr2.tk)))) (fun T2 c pp a2 C2 dd oe pn hc hh hp => (sb_cons (ss_set (Cs.suite Fr.C.cs) 3 (fr_suite hp (fr_zero h0 (i := 3) (by decide)) (by decide)) (SF.se (sf_lst (sa_cons (se_isXf hh (tx.xc _ _ hc hh.gC) (tx.k_NoFraction _ _ hc hh.gC) tx.C_NoFraction rfl rfl rfl tx.n_isinstance rfl) (sa_cons (se_isXf hh (tx.xc _ _ hc hh.gC) (tx.k_NoNumber _ _ hc hh.gC) tx.C_NoNumber rfl rfl rfl tx.n_isinstance rfl) sa_nil)))))
  (sb_cons (ss_set (Cs.suite Fr.C.cs) 4 (fr_suite hp (fr_zero h0 (i := 4) (by decide)) (by decide)) (SF.se (sf_lst (sa_cons se_str (sa_cons se_str sa_nil)))))
  (sb_one (ss_set (Cs.suite Fr.C.cs) 1 (fr_suite hp (fr_zero h0 (i := 1) (by decide)) (by decide)) (se_if (SW.sq (sw_and (sq_cm (cm_eq (Cs.suite Fr.C.cs)) (se_count 3 se_bl) se_int) (sw_and1 (sq_tru (se_isBf (id := "ValueError") hh (tx.xc _ _ hc hh.gC) (tx.k_ValueError _ _ hc hh.gC) tx.n_ValueError (by decide +kernel) rfl rfl rfl tx.n_isinstance rfl))))) (se_ixV (Cs.suite Fr.C.cs) 4 (se_index 3 se_bl)) se_str)))))))
  (sb_one (ss_ret (se_var 1)))))
theorem bd__law_chain : Body P w K mg base 0 "_law_chain" (tp 33) tx.a__law_chain ["one", "found", "top", "bottom", "whole"] [false] (tT tx) b__law_chain := fun cdv A outer s H E pins hcd Fr pm =>
  (sb_cons (ss_asg (se_var 0) (sg_tup Fr.C (sgs_cons (sg_name Fr.C.cs 2 (fr_of pm (i := 2))) (sgs_cons (sg_name Fr.C.cs 3 (fr_of pm (i := 3))) sgs_nil))))
  (sb_cons (ss_setO Fr.C.cs 1 (fr_of pm (i := 1)) (sf_lst sa_nil))
  (sb_cons (ss_while Fr.po (sq_cm cm_gt (se_var 3) se_int) (sb_cons (ss_set Fr.C.cs 4 (fr_of pm (i := 4)) (se_div (se_var 2) (se_var 3)))
  (sb_cons (ss_append 1 (se_var 4))
  (sb_one (ss_par Fr.C 2 3 (fr_of pm (i := 2)) (fr_of pm (i := 3)) (by decide) (se_var 3) (se_sub (se_var 2) (se_mul (se_var 4) (se_var 3))))))))
  (sb_one (ss_retO 1)))))
theorem c__law_chain : Rf.Cal P w K mg base 1 "_law_chain" (spF ⟨K, mg⟩ (tT tx) m__law_chain) := ⟨tx.a__law_chain, tx.fd__law_chain, ["one"], fnF_of tx.F__law_chain sc__law_chain rfl (bd__law_chain tx), tx.g__law_chain, tx.F__law_chain.kp, tx.B__law_chain⟩
theorem bd__law_from : Body P w K mg base 2 "_law_from" (tp 34) tx.a__law_from ["parts_here", "part", "top", "bottom"] [false] (tT tx) b__law_from := fun cdv A outer s H E pins hcd Fr pm =>
  (sb_cons (ss_par Fr.C 2 3 (fr_of pm (i := 2)) (fr_of pm (i := 3)) (by decide) (se_ixV Fr.C.cs 0 (se_negD se_int)) se_int)
  (sb_cons (ss_for Fr.C Fr.po (si_seq (se_rev (se_slice (se_var 0) so_none (so_some (se_negD se_int))))) (sg_name Fr.C.cs 1 (fr_of pm (i := 1))) (sb_one (ss_par Fr.C 2 3 (fr_of pm (i := 2)) (fr_of pm (i := 3)) (by decide) (se_add (se_mul (se_var 1) (se_var 2)) (se_var 3)) (se_var 2))))
  (sb_one (ss_ret (se_callG (c__law_over tx) Fr.C Fr.tk (by decide) rfl (sr_v (se_var 2) (sr_v (se_var 3) sr_nil)))))))
theorem c__law_from : Rf.Cal P w K mg base 3 "_law_from" (spM ⟨K, mg⟩ (tT tx) m__law_from) := ⟨tx.a__law_from, tx.fd__law_from, ["parts_here"], fnG_of tx.F__law_from sc__law_from rfl (bd__law_from tx), tx.g__law_from, tx.F__law_from.kp, tx.B__law_from⟩
theorem bd__law_best : Body P w K mg base 2 "_law_best" (tp 35) tx.a__law_best ["one", "most", "bottom", "best", "gap", "low", "top", "far_here"] [false, false] (tT tx) b__law_best := fun cdv A outer s H E pins hcd Fr pm =>
  (sb_cons (ss_asg (se_tup (sa_cons se_non (sa_cons se_non sa_nil))) (sg_tup Fr.C (sgs_cons (sg_name Fr.C.cs 3 (fr_of pm (i := 3))) (sgs_cons (sg_name Fr.C.cs 4 (fr_of pm (i := 4))) sgs_nil))))
  (sb_cons (ss_for Fr.C Fr.po (si_r2 rfl tx.n_range se_int (se_add (se_var 1) se_int)) (sg_name Fr.C.cs 2 (fr_of pm (i := 2))) (sb_cons (ss_set Fr.C.cs 5 (fr_of pm (i := 5)) (se_div (se_mul (se_ixV Fr.C.cs 0 se_int) (se_var 2)) (se_ixV Fr.C.cs 0 se_int)))
  (sb_one (ss_for Fr.C Fr.po (si_seq (se_tup (sa_cons (se_var 5) (sa_cons (se_add (se_var 5) se_int) sa_nil)))) (sg_name Fr.C.cs 6 (fr_of pm (i := 6))) (sb_cons (ss_set Fr.C.cs 7 (fr_of pm (i := 7)) (se_tup (sa_cons (se_abs rfl tx.n_abs (se_sub (se_mul (se_var 6) (se_ixV Fr.C.cs 0 se_int)) (se_mul (se_ixV Fr.C.cs 0 se_int) (se_var 2)))) (sa_cons (se_mul (se_var 2) (se_ixV Fr.C.cs 0 se_int)) sa_nil))))
  (sb_one (ss_if (SW.sq (sw_or (sq_cm cm_isN (se_var 3) se_non) (sw_or1 (sq_cm (cm_lt Fr.C.cs) (se_mul (se_ixV Fr.C.cs 7 se_int) (se_ixV Fr.C.cs 4 se_int)) (se_mul (se_ixV Fr.C.cs 4 se_int) (se_ixV Fr.C.cs 7 se_int)))))) (sb_one (ss_par Fr.C 3 4 (fr_of pm (i := 3)) (fr_of pm (i := 4)) (by decide) (se_callG (c__law_over tx) Fr.C Fr.tk (by decide) rfl (sr_v (se_var 6) (sr_v (se_var 2) sr_nil))) (se_var 7))) sb_nil)))))))
  (sb_one (ss_ret (se_var 3)))))
theorem c__law_best : Rf.Cal P w K mg base 3 "_law_best" (spM ⟨K, mg⟩ (tT tx) m__law_best) := ⟨tx.a__law_best, tx.fd__law_best, ["one", "most"], fnG_of tx.F__law_best sc__law_best rfl (bd__law_best tx), tx.g__law_best, tx.F__law_best.kp, tx.B__law_best⟩
theorem bd__law_root : Body P w K mg base 0 "_law_root" (tp 36) tx.a__law_root ["number", "many", "root", "step", "found", "less_here", "bottom", "part"] [false, false] (tT tx) b__law_root := fun cdv A outer s H E pins hcd Fr pm =>
  (sb_cons (ss_set Fr.C.cs 2 (fr_of pm (i := 2)) se_int)
  (sb_cons (ss_while Fr.po (sq_cm cm_le (se_mul (se_add (se_var 2) se_int) (se_add (se_var 2) se_int)) (se_var 0)) (sb_one (ss_set Fr.C.cs 2 (fr_of pm (i := 2)) (se_add (se_var 2) se_int))))
  (sb_cons (ss_if (sq_cm (cm_eq Fr.C.cs) (se_mul (se_var 2) (se_var 2)) (se_var 0)) (sb_one (ss_ret (se_tup (sa_cons (se_var 2) sa_nil)))) sb_nil)
  (sb_cons (ss_parG (n := 0) Fr.C (frl_cons (fr_of pm (i := 4)) (frl_cons (fr_of pm (i := 5)) (frl_cons (fr_of pm (i := 6)) (frl_cons (fr_of pm (i := 7)) frl_nil)))) (sl_o (sf_lst (sa_cons (se_var 2) sa_nil)) (sl_v se_int (sl_v se_int (sl_v (se_var 2) sl_nil)))) (gn_cons Fr.C.cs (gn_cons Fr.C.cs (gn_cons Fr.C.cs (gn_cons Fr.C.cs gn_nil)))) rfl (by decide))
  (sb_cons (ss_for Fr.C Fr.po (si_r1 rfl tx.n_range (se_sub (se_var 1) se_int)) (sg_name Fr.C.cs 3 (fr_of pm (i := 3))) (sb_cons (ss_set Fr.C.cs 5 (fr_of pm (i := 5)) (se_sub (se_mul (se_var 6) (se_var 7)) (se_var 5)))
  (sb_cons (ss_set Fr.C.cs 6 (fr_of pm (i := 6)) (se_div (se_sub (se_var 0) (se_mul (se_var 5) (se_var 5))) (se_var 6)))
  (sb_cons (ss_set Fr.C.cs 7 (fr_of pm (i := 7)) (se_div (se_add (se_var 2) (se_var 5)) (se_var 6)))
  (sb_one (ss_append 4 (se_var 7)))))))
  (sb_one (ss_ret (se_tuple rfl tx.n_tuple (se_var 4)))))))))
theorem c__law_root : Rf.Cal P w K mg base 1 "_law_root" (spM ⟨K, mg⟩ (tT tx) m__law_root) := ⟨tx.a__law_root, tx.fd__law_root, ["number", "many"], fnG_of tx.F__law_root sc__law_root rfl (bd__law_root tx), tx.g__law_root, tx.F__law_root.kp, tx.B__law_root⟩
theorem bd__law_is_right : Body P w K mg base 5 "_law_is_right" (tp 37) tx.a__law_is_right ["tape", "one", "due", "near", "parts_here", "step", "most", "at", "told", "gap", "number", "many", "part"] [true] (tT tx) b__law_is_right := fun cdv A outer s H E pins hcd Fr pm =>
  (sb_cons (ss_set Fr.C.cs 1 (fr_of pm (i := 1)) (se_callG (c__law_fraction tx) Fr.C Fr.tk (by decide) rfl (sr_o 0 sr_nil)))
  (sb_cons (ss_set Fr.C.cs 2 (fr_of pm (i := 2)) (SF.se (sf_callG (c__law_chain tx) Fr.C Fr.tk (by decide) rfl (sr_v (se_var 1) sr_nil))))
  (sb_cons (ss_if (sq_cm (cm_ne Fr.C.cs) (se_repr Fr.C rfl tx.n_repr (SF.se (sf_callG (c_chain tx) Fr.C Fr.tk (by decide) rfl (sr_v (se_var 1) sr_nil)))) (se_repr Fr.C rfl tx.n_repr (se_var 2))) (sb_one (ss_ret se_bl)) sb_nil)
  (sb_cons (ss_if (SW.sq (sw_and (sq_cm cm_le (se_max1 rfl rfl tx.n_max (SF.se (sf_lc (own := [("part", 12)]) Fr.C (frs_of pm) (si_seq (se_var 2)) (by kernel_rfl) (by decide) (fun _ _ _ _ _ => (sg_name (Ctx.cs (Ctx.blk Fr.C _ _ _ _ _)) 12 (fr_of pm (i := 12)))) (fun _ _ _ _ _ => sts_nil) (fun _ _ _ _ _ => (se_abs rfl tx.n_abs (se_var 12)))))) (se_pow se_int se_int)) (sw_and1 (sq_cm (cm_ne Fr.C.cs) (se_repr Fr.C rfl tx.n_repr (se_callG (c_from_chain tx) Fr.C Fr.tk (by decide) rfl (sr_v (se_tuple rfl tx.n_tuple (se_var 2)) sr_nil))) (se_repr Fr.C rfl tx.n_repr (se_var 1)))))) (sb_one (ss_ret se_bl)) sb_nil)
  (sb_cons (ss_setLc (own := [("at", 7)]) (fr_of pm (i := 3)) Fr.C (frs_of pm) (si_r1 rfl tx.n_range (se_lenV 2 rfl tx.n_len)) (by kernel_rfl) (by decide) (fun _ _ _ _ _ => (sg_name (Ctx.cs (Ctx.blk Fr.C _ _ _ _ _)) 7 (fr_of pm (i := 7)))) (fun _ _ _ _ _ => sts_nil) (fun _ _ _ _ _ => (se_callG (c__law_from tx) (Ctx.blk Fr.C _ _ _ _ _) L2.takes0 (by decide) rfl (sr_v (se_slice (se_var 2) so_none (so_some (se_add (se_var 7) se_int))) sr_nil))) rfl rfl (sw_true rfl rfl rfl (by decide +kernel)))
  (sb_cons (ss_if (SW.sq (sw_or (sq_cm (cm_ne Fr.C.cs) (se_repr Fr.C rfl tx.n_repr (SF.se (sf_callG (c_near_fractions tx) Fr.C Fr.tk (by decide) rfl (sr_v (se_var 1) sr_nil)))) (se_repr Fr.C rfl tx.n_repr (se_var 3))) (sw_or1 (sq_cm (cm_ne Fr.C.cs) (se_ixV Fr.C.cs 3 (se_negD se_int)) (se_var 1))))) (sb_one (ss_ret se_bl)) sb_nil)
  (sb_cons (ss_for Fr.C Fr.po (si_enum rfl tx.n_enumerate (se_var 3)) (sg_tup Fr.C (sgs_cons (sg_name Fr.C.cs 7 (fr_of pm (i := 7))) (sgs_cons (sg_name Fr.C.cs 8 (fr_of pm (i := 8))) sgs_nil))) (sb_cons (ss_set Fr.C.cs 9 (fr_of pm (i := 9)) (se_sub (se_mul (se_ixV Fr.C.cs 8 se_int) (se_ixV Fr.C.cs 1 se_int)) (se_mul (se_ixV Fr.C.cs 1 se_int) (se_ixV Fr.C.cs 8 se_int))))
  (sb_one (ss_if (SW.sq (sw_and (sq_cm (cm_lt Fr.C.cs) (se_var 7) (se_sub (se_lenV 3 rfl tx.n_len) se_int)) (sw_and1 (sq_cm (cm_ne Fr.C.cs) (se_cm (cm_lt Fr.C.cs) (se_var 9) se_int) (se_cm (cm_eq Fr.C.cs) (se_mod (se_toInt rfl tx.n_int (se_var 7)) se_int) se_int))))) (sb_one (ss_ret se_bl)) sb_nil))))
  (sb_cons (ss_set Fr.C.cs 4 (fr_of pm (i := 4)) (se_tup (sa_cons (se_sub (se_callG (c__law_pick tx) Fr.C Fr.tk (by decide) rfl (sr_o 0 (sr_v se_int sr_nil))) se_int) sa_nil)))
  (sb_cons (ss_for Fr.C Fr.po (si_r1 rfl tx.n_range (se_callG (c__law_pick tx) Fr.C Fr.tk (by decide) rfl (sr_o 0 (sr_v se_int sr_nil)))) (sg_name Fr.C.cs 5 (fr_of pm (i := 5))) (sb_one (ss_set Fr.C.cs 4 (fr_of pm (i := 4)) (se_add (se_var 4) (se_tup (sa_cons (se_add se_int (se_callG (c__law_pick tx) Fr.C Fr.tk (by decide) rfl (sr_o 0 (sr_v (se_callG (c__law_any tx) Fr.C Fr.tk (by decide) rfl (sr_o 0 (sr_v (SF.se (sf_lst (sa_cons se_int (sa_cons se_int sa_nil)))) sr_nil))) sr_nil)))) sa_nil))))))
  (sb_cons (ss_if (sq_cm (cm_ne Fr.C.cs) (se_repr Fr.C rfl tx.n_repr (se_callG (c_from_chain tx) Fr.C Fr.tk (by decide) rfl (sr_v (se_var 4) sr_nil))) (se_repr Fr.C rfl tx.n_repr (se_callG (c__law_from tx) Fr.C Fr.tk (by decide) rfl (sr_v (se_var 4) sr_nil)))) (sb_one (ss_ret se_bl)) sb_nil)
  (sb_cons (ss_set Fr.C.cs 6 (fr_of pm (i := 6)) (se_add se_int (se_callG (c__law_pick tx) Fr.C Fr.tk (by decide) rfl (sr_o 0 (sr_v (se_callG (c__law_any tx) Fr.C Fr.tk (by decide) rfl (sr_o 0 (sr_v (SF.se (sf_lst (sa_cons se_int (sa_cons se_int sa_nil)))) sr_nil))) sr_nil)))))
  (sb_cons (ss_if (sq_cm (cm_ne Fr.C.cs) (se_repr Fr.C rfl tx.n_repr (se_callG (c_best_below tx) Fr.C Fr.tk (by decide) rfl (sr_v (se_var 1) (sr_v (se_var 6) sr_nil)))) (se_repr Fr.C rfl tx.n_repr (se_callG (c__law_best tx) Fr.C Fr.tk (by decide) rfl (sr_v (se_var 1) (sr_v (se_var 6) sr_nil))))) (sb_one (ss_ret se_bl)) sb_nil)
  (sb_cons (ss_par Fr.C 10 11 (fr_of pm (i := 10)) (fr_of pm (i := 11)) (by decide) (se_add se_int (se_callG (c__law_pick tx) Fr.C Fr.tk (by decide) rfl (sr_o 0 (sr_v (se_callG (c__law_any tx) Fr.C Fr.tk (by decide) rfl (sr_o 0 (sr_v (SF.se (sf_lst (sa_cons se_int (sa_cons se_int sa_nil)))) sr_nil))) sr_nil)))) (se_add se_int (se_callG (c__law_pick tx) Fr.C Fr.tk (by decide) rfl (sr_o 0 (sr_v se_int sr_nil)))))
  (sb_one (ss_ret (se_cm (cm_eq Fr.C.cs) (se_repr Fr.C rfl tx.n_repr (se_callG (c_root_chain tx) Fr.C Fr.tk (by decide) rfl (sr_v (se_var 10) (sr_v (se_var 11) sr_nil)))) (se_repr Fr.C rfl tx.n_repr (se_callG (c__law_root tx) Fr.C Fr.tk (by decide) rfl (sr_v (se_var 10) (sr_v (se_var 11) sr_nil))))))))))))))))))))
theorem c__law_is_right : Rf.Cal P w K mg base 6 "_law_is_right" (spM ⟨K, mg⟩ (tT tx) m__law_is_right) := ⟨tx.a__law_is_right, tx.fd__law_is_right, ["tape"], fnG_of tx.F__law_is_right sc__law_is_right rfl (bd__law_is_right tx), tx.g__law_is_right, tx.F__law_is_right.kp, tx.B__law_is_right⟩
theorem hc_held : ∀ y m, held y = some m → Rf.Cal P w K mg base 5 y (spM ⟨K, mg⟩ (tT tx) m) := fun y m e => by
  unfold held at e
  split at e
  · rename_i h; cases e; rw [h]; exact Cal.mono (Cal.open (c_chain tx)) (by decide)
  split at e
  · rename_i h; cases e; rw [h]; exact Cal.mono (Cal.open (c_near_fractions tx)) (by decide)
  split at e
  · rename_i h; cases e; rw [h]; exact Cal.mono (c_from_chain tx) (by decide)
  split at e
  · rename_i h; cases e; rw [h]; exact Cal.mono (c_root_chain tx) (by decide)
  split at e
  · rename_i h; cases e; rw [h]; exact Cal.mono (c_best_below tx) (by decide)
  cases e
theorem bd__law_word_of : Body P w K mg base 7 "_law_word_of" (tp 39) tx.a__law_word_of ["asked_one", "thing"] [false, false] (tT tx) b__law_word_of := fun cdv A outer s H E pins hcd Fr pm =>
  (sb_one (ss_ret (se_lam rfl rfl rfl tx.g__law_word tx.F__law_word tx.B__law_word sc__law_word rfl (.inl rfl) (bdG__law_word (k := 5) tx) (tx.T__law_word_of) (Option.some.inj (hcd.symm.trans tx.c__law_word_of)) (m_in__law_word_of tx) (u_of__law_word_of tx) Fr.C (by decide) (lamS_by (by kernel_rfl)) rfl (fun _ _ _ _ _ => rfl) (fun A outer s H E fL cL CL tL => (se_callV 0 (hc_held tx) CL tL (by decide) (sr_v (se_var 1) sr_nil))))))
theorem c__law_word_of : Rf.Cal P w K mg base 8 "_law_word_of" (spM ⟨K, mg⟩ (tT tx) m__law_word_of) := ⟨tx.a__law_word_of, tx.fd__law_word_of, ["asked_one", "thing"], fnG_of tx.F__law_word_of sc__law_word_of rfl (bd__law_word_of tx), tx.g__law_word_of, tx.F__law_word_of.kp, tx.B__law_word_of⟩
theorem bd__law_word_by : Body P w K mg base 7 "_law_word_by" (tp 40) tx.a__law_word_by ["asked_one", "one", "other"] [false, false, false] (tT tx) b__law_word_by := fun cdv A outer s H E pins hcd Fr pm =>
  (sb_one (ss_ret (se_lam rfl rfl rfl tx.g__law_word tx.F__law_word tx.B__law_word sc__law_word rfl (.inl rfl) (bdG__law_word (k := 5) tx) (tx.T__law_word_by) (Option.some.inj (hcd.symm.trans tx.c__law_word_by)) (m_in__law_word_by tx) (u_of__law_word_by tx) Fr.C (by decide) (lamS_by (by kernel_rfl)) rfl (fun _ _ _ _ _ => rfl) (fun A outer s H E fL cL CL tL => (se_callV 0 (hc_held tx) CL tL (by decide) (sr_v (se_var 1) (sr_v (se_var 2) sr_nil)))))))
theorem c__law_word_by : Rf.Cal P w K mg base 8 "_law_word_by" (spM ⟨K, mg⟩ (tT tx) m__law_word_by) := ⟨tx.a__law_word_by, tx.fd__law_word_by, ["asked_one", "one", "other"], fnG_of tx.F__law_word_by sc__law_word_by rfl (bd__law_word_by tx), tx.g__law_word_by, tx.F__law_word_by.kp, tx.B__law_word_by⟩
theorem bd__law_is_refused : Body P w K mg base 8 "_law_is_refused" (tp 38) tx.a__law_is_refused ["tape", "parts_here", "words", "asked_one", "none", "bad"] [true] (tT tx) b__law_is_refused := fun cdv A outer s H E pins hcd Fr pm =>
  (sb_cons (ss_par Fr.C 4 5 (fr_of pm (i := 4)) (fr_of pm (i := 5)) (by decide) (se_callG (c__law_no_fraction tx) Fr.C Fr.tk (by decide) rfl (sr_o 0 sr_nil)) (se_callG (c__law_any tx) Fr.C Fr.tk (by decide) rfl (sr_o 0 (sr_v (SF.se (sf_lst (sa_cons se_int (sa_cons se_int (sa_cons (se_negD se_int) (sa_cons se_non (sa_cons se_bl (sa_cons se_str (sa_cons (se_tup (sa_cons se_int sa_nil)) (sa_cons (SF.se sf_dnewK) sa_nil)))))))))) sr_nil))))
  (sb_cons (ss_set Fr.C.cs 1 (fr_of pm (i := 1)) (SF.se (sf_lst (sa_cons se_non (sa_cons (se_tup sa_nil) (sa_cons (SF.se (sf_lst (sa_cons se_int sa_nil))) (sa_cons (se_tup (sa_cons se_int (sa_cons se_int sa_nil))) (sa_cons (se_tup (sa_cons se_int (sa_cons (se_negD se_int) sa_nil))) (sa_cons (se_tup (sa_cons (se_add (se_pow se_int se_int) se_int) sa_nil)) (sa_cons (se_tup (sa_cons se_bl sa_nil)) (sa_cons (se_tup (sa_cons se_str sa_nil)) (sa_cons (se_mul (se_tup (sa_cons se_int sa_nil)) se_int) (sa_cons se_int (sa_cons (SF.se sf_dnewK) (sa_cons (se_tup (sa_cons se_int (sa_cons se_non sa_nil))) sa_nil)))))))))))))))
  (sb_cons (ss_set Fr.C.cs 1 (fr_of pm (i := 1)) (se_callG (c__law_any tx) Fr.C Fr.tk (by decide) rfl (sr_o 0 (sr_v (se_var 1) sr_nil))))
  (sb_cons (ss_setO Fr.C.cs 2 (fr_of pm (i := 2)) (sf_lst sa_nil))
  (sb_cons (ss_for Fr.C Fr.po (si_seq (se_tup (sa_cons (se_fn rfl tx.g_chain) (sa_cons (se_fn rfl tx.g_near_fractions) sa_nil)))) (sg_name Fr.C.cs 3 (fr_of pm (i := 3))) (sb_one (ss_append 2 (se_callG (c__law_word_of tx) Fr.C Fr.tk (by decide) rfl (sr_v (se_var 3) (sr_v (se_var 4) sr_nil))))))
  (sb_cons (ss_setO Fr.C.cs 2 (fr_of pm (i := 2)) (sf_addL (se_var 2) (SF.se (sf_lst (sa_cons (se_callG (c__law_word_by tx) Fr.C Fr.tk (by decide) rfl (sr_v (se_fn rfl tx.g_best_below) (sr_v (se_var 4) (sr_v (se_var 5) sr_nil)))) (sa_cons (se_callG (c__law_word_by tx) Fr.C Fr.tk (by decide) rfl (sr_v (se_fn rfl tx.g_best_below) (sr_v (se_tup (sa_cons se_int (sa_cons se_int sa_nil))) (sr_v (se_var 5) sr_nil)))) sa_nil))))))
  (sb_cons (ss_append 2 (se_callG (c__law_word_of tx) Fr.C Fr.tk (by decide) rfl (sr_v (se_fn rfl tx.g_from_chain) (sr_v (se_var 1) sr_nil))))
  (sb_cons (ss_append 2 (se_callG (c__law_word_by tx) Fr.C Fr.tk (by decide) rfl (sr_v (se_fn rfl tx.g_root_chain) (sr_v (se_callG (c__law_any tx) Fr.C Fr.tk (by decide) rfl (sr_o 0 (sr_v (SF.se (sf_lst (sa_cons se_int (sa_cons (se_add (se_pow se_int se_int) se_int) (sa_cons (se_negD se_int) (sa_cons se_non (sa_cons se_bl sa_nil))))))) sr_nil))) (sr_v se_int sr_nil)))))
  (sb_cons (ss_append 2 (se_callG (c__law_word_by tx) Fr.C Fr.tk (by decide) rfl (sr_v (se_fn rfl tx.g_root_chain) (sr_v se_int (sr_v (se_callG (c__law_any tx) Fr.C Fr.tk (by decide) rfl (sr_o 0 (sr_v (SF.se (sf_lst (sa_cons se_int (sa_cons se_int (sa_cons (se_negD se_int) (sa_cons se_non (sa_cons se_bl sa_nil))))))) sr_nil))) sr_nil)))))
  (sb_cons (ss_if (sq_cm (cm_notIn Fr.C.cs) (se_ixV Fr.C.cs 2 se_int) (se_tup (sa_cons se_str (sa_cons se_str sa_nil)))) (sb_one (ss_ret se_bl)) sb_nil)
  (sb_one (ss_ret (se_cm (cm_eq Fr.C.cs) (se_add (se_slice (se_var 2) so_none (so_some se_int)) (se_slice (se_var 2) (so_some se_int) so_none)) (SF.se (sf_addL (se_mul (SF.se (sf_lst (sa_cons se_str sa_nil))) se_int) (se_mul (SF.se (sf_lst (sa_cons se_str sa_nil))) se_int))))))))))))))))
theorem c__law_is_refused : Rf.Cal P w K mg base 9 "_law_is_refused" (spM ⟨K, mg⟩ (tT tx) m__law_is_refused) := ⟨tx.a__law_is_refused, tx.fd__law_is_refused, ["tape"], fnG_of tx.F__law_is_refused sc__law_is_refused rfl (bd__law_is_refused tx), tx.g__law_is_refused, tx.F__law_is_refused.kp, tx.B__law_is_refused⟩
theorem bd_law : Body P w K mg base 9 "law" (tp 41) tx.a_law ["script", "tape", "told", "step"] [false] (tT tx) b_law := fun cdv A outer s H E pins hcd Fr pm =>
  (sb_cons (ss_setO Fr.C.cs 1 (fr_of pm (i := 1)) (sf_callG (c__law_tape tx) Fr.C Fr.tk (by decide) rfl (sr_v (se_var 0) sr_nil)))
  (sb_cons (ss_setO Fr.C.cs 2 (fr_of pm (i := 2)) (sf_lst (sa_cons (SF.se (sf_callG (c_chain tx) Fr.C Fr.tk (by decide) rfl (sr_v (se_tup (sa_cons se_int (sa_cons se_int sa_nil))) sr_nil))) (sa_cons (SF.se (sf_callG (c_chain tx) Fr.C Fr.tk (by decide) rfl (sr_v (se_tup (sa_cons (se_negD se_int) (sa_cons se_int sa_nil))) sr_nil))) (sa_cons (se_callG (c_from_chain tx) Fr.C Fr.tk (by decide) rfl (sr_v (se_tup (sa_cons se_int (sa_cons se_int (sa_cons se_int sa_nil)))) sr_nil)) (sa_cons (SF.se (sf_callG (c_near_fractions tx) Fr.C Fr.tk (by decide) rfl (sr_v (se_tup (sa_cons se_int (sa_cons se_int sa_nil))) sr_nil))) (sa_cons (se_callG (c_best_below tx) Fr.C Fr.tk (by decide) rfl (sr_v (se_tup (sa_cons se_int (sa_cons se_int sa_nil))) (sr_v se_int sr_nil))) sa_nil)))))))
  (sb_cons (ss_append 2 (se_callG (c_root_chain tx) Fr.C Fr.tk (by decide) rfl (sr_v se_int (sr_v se_int sr_nil))))
  (sb_cons (ss_if (SW.sq (sw_or (sq_cm (cm_ne Fr.C.cs) (se_var 2) (SF.se (sf_lst (sa_cons (SF.se (sf_lst (sa_cons se_int (sa_cons se_int (sa_cons se_int sa_nil))))) (sa_cons (SF.se (sf_lst (sa_cons (se_negD se_int) (sa_cons se_int sa_nil)))) (sa_cons (se_tup (sa_cons se_int (sa_cons se_int sa_nil))) (sa_cons (SF.se (sf_lst (sa_cons (se_tup (sa_cons se_int (sa_cons se_int sa_nil))) (sa_cons (se_tup (sa_cons se_int (sa_cons se_int sa_nil))) (sa_cons (se_tup (sa_cons se_int (sa_cons se_int sa_nil))) sa_nil))))) (sa_cons (se_tup (sa_cons se_int (sa_cons se_int sa_nil))) (sa_cons (se_tup (sa_cons se_int (sa_cons se_int (sa_cons se_int sa_nil)))) sa_nil))))))))) (sw_or1 (sq_cm (cm_ne Fr.C.cs) (se_callG (c_root_chain tx) Fr.C Fr.tk (by decide) rfl (sr_v se_int (sr_v se_int sr_nil))) (se_tup (sa_cons se_int sa_nil)))))) (sb_one (ss_ret se_bl)) sb_nil)
  (sb_cons (ss_for Fr.C Fr.po (si_r1 rfl tx.n_range se_int) (sg_name Fr.C.cs 3 (fr_of pm (i := 3))) (sb_one (ss_if (SW.sq (sw_or (sq_not (sq_tru (se_callG (c__law_is_right tx) Fr.C Fr.tk (by decide) rfl (sr_o 1 sr_nil)))) (sw_or1 (sq_not (sq_tru (se_callG (c__law_is_refused tx) Fr.C Fr.tk (by decide) rfl (sr_o 1 sr_nil))))))) (sb_one (ss_ret se_bl)) sb_nil)))
  (sb_one (ss_ret se_bl)))))))
theorem c_law : Rf.Cal P w K mg base 10 "law" (spM ⟨K, mg⟩ (tT tx) m_law) := ⟨tx.a_law, tx.fd_law, ["script"], fnG_of tx.F_law sc_law rfl (bd_law tx), tx.g_law, tx.F_law.kp, tx.B_law⟩
end
end K02


namespace K02
open PySem L2 LamX Rf
theorem sl24 : sizeLine = 16777216 := by decide
theorem s_pick {n : Nat} {d : D} {m : Int} (hT : Tape n d) (hn : n ≤ 1000000000) (hm : 0 < m) (hb : m ≤ 1000000000000000000000) : ∃ r tp, m__law_pick [.o d, .v (.int m)] = .ok (.int r) [.o tp, .no] ∧ 0 ≤ r ∧ r < m ∧ Tape (n + 1) tp := pick_ok hT hn hm hb
theorem s_any {n : Nat} {d : D} {xs : List D} (hT : Tape n d) (hn : n ≤ 1000000000) (h0 : 0 < xs.length) (hb : xs.length ≤ 1000000) : ∃ (x : D) (tp : D), x ∈ xs ∧ m__law_any [.o d, .v (.lst xs)] = .ok x [.o tp, .no] ∧ Tape (n + 1) tp := by
  obtain ⟨r, tp, e, r1, r2, r3⟩ := s_pick (m := xs.length) hT hn (by omega) (by omega)
  have hl : r.toNat < xs.length := by omega
  refine ⟨xs[r.toNat], tp, List.getElem_mem _, ?_, r3⟩
  have g : xs[r.toNat]? = some xs[r.toNat] := List.getElem?_eq_getElem hl
  simp [m__law_any, b__law_any, runM, runF, sSeq, sIf, sRet, sRetF, sSet, sSetO, sSetIx, sAsg, sPar, sNil, sDrop, sRetO, sMut1, oApp, ofRo, Ro.bind, lift, eVar, eC, eOp, eCmp, qCmp, qAnd, qOr, qNot, qTru, eAnd, eOr, eNot, eIf, eNeg, eChain, qChain, eIxV, slotD, dIx, dIxS, isDic, atI, ixN, eCall, aCons, aNil, eTup, eLst, oLen, eLenV, lenD, oInt, eq_ii, lt_ii, gt_ii, ge_ii, le_ii, add_ii, sub_ii, outR, outOk, outs, ownS, isNo, isLstS, List.replicate, eCallD, callM, okAr, arS, putO, rV, rO, rNil, tName, tTupl, tsCons, tsNil, eLc, lcL, iSeq, seqD, qYes, noOwn, isOwn, wipeE, backE, sl24, e, r1, r2, g]
/-! ## the greatest number that divides both -/
theorem gcd_step {a b : Nat} : Nat.gcd a b = Nat.gcd b (a % b) := by
  rw [Nat.gcd_comm a b, Nat.gcd_rec b a, Nat.gcd_comm]
theorem abs_nat (i : Int) : oAbs [.int i] = some (.int (i.natAbs : Int)) := by
  have : (if i < 0 then -i else i) = (i.natAbs : Int) := by split <;> omega
  simp [oAbs, this]
theorem loop_gcd {q : Env' → Ro Bool} {body : Env' → So} (hq : ∀ a b : Nat, q [.v (.int (a : Int)), .v (.int (b : Int))] = .ok (decide (0 < b)) [.v (.int (a : Int)), .v (.int (b : Int))]) (hb : ∀ a b : Nat, 0 < b → body [.v (.int (a : Int)), .v (.int (b : Int))] = .nx [.v (.int (b : Int)), .v (.int ((a % b : Nat) : Int))])
    (a b : Nat) (h : b < 2 ^ 200) : sWhile q body [.v (.int (a : Int)), .v (.int (b : Int))] = .nx [.v (.int (Nat.gcd a b : Nat)), .v (.int 0)] := by
  obtain ⟨e2, h1, h2⟩ := sWhile_inv (q := q) (body := body) (fun m e => ∃ x : Nat, e = [.v (.int (x : Int)), .v (.int (m : Int))] ∧ Nat.gcd x m = Nat.gcd a b) (fun e => e = [.v (.int (Nat.gcd a b : Nat)), .v (.int 0)]) (fun m e ⟨x, e1, hg⟩ => by
    subst e1
    by_cases h0 : 0 < m
    · exact .inr ⟨_, _, _, (hq x m).trans (by rw [decide_eq_true h0]), .inl (hb x m h0), Nat.mod_lt x h0, m, rfl, by rw [← gcd_step, hg]⟩
    · obtain rfl : m = 0 := by omega
      refine .inl ⟨_, (hq x 0).trans (by rw [decide_eq_false h0]), ?_⟩
      rw [Nat.gcd_zero_right] at hg
      rw [hg]
      rfl) h ⟨a, rfl, rfl⟩
  rw [h1, h2]
theorem s_divisor {a b : Int} (h : b.natAbs < 2 ^ 200) : m_divisor [.v (.int a), .v (.int b)] = .ok (.int (Int.gcd a b : Nat)) [.no, .no] := by
  have hl := loop_gcd (q := lq1_divisor) (body := lb2_divisor) (fun x y => by simp [lq1_divisor, runM, runF, sSeq, sIf, sRet, sRetF, sSet, sSetO, sSetIx, sAsg, sPar, sNil, sDrop, sRetO, sMut1, oApp, ofRo, Ro.bind, lift, eVar, eC, eOp, eCmp, qCmp, qAnd, qOr, qNot, qTru, eAnd, eOr, eNot, eIf, eNeg, eChain, qChain, eIxV, slotD, dIx, dIxS, isDic, atI, ixN, eCall, aCons, aNil, eTup, eLst, oLen, eLenV, lenD, oInt, eq_ii, lt_ii, gt_ii, ge_ii, le_ii, add_ii, sub_ii, outR, outOk, outs, ownS, isNo, isLstS, List.replicate, eCallD, callM, okAr, arS, putO, rV, rO, rNil, tName, tTupl, tsCons, tsNil, eLc, lcL, iSeq, seqD, qYes, noOwn, isOwn, wipeE, backE, sl24]) (fun x y h0 => by
    have hm : dMod (.int (x : Int)) (.int (y : Int)) = some (.int ((x % y : Nat) : Int)) := by rw [mod_ii (by omega)]; rfl
    simp [lb2_divisor, runM, runF, sSeq, sIf, sRet, sRetF, sSet, sSetO, sSetIx, sAsg, sPar, sNil, sDrop, sRetO, sMut1, oApp, ofRo, Ro.bind, lift, eVar, eC, eOp, eCmp, qCmp, qAnd, qOr, qNot, qTru, eAnd, eOr, eNot, eIf, eNeg, eChain, qChain, eIxV, slotD, dIx, dIxS, isDic, atI, ixN, eCall, aCons, aNil, eTup, eLst, oLen, eLenV, lenD, oInt, eq_ii, lt_ii, gt_ii, ge_ii, le_ii, add_ii, sub_ii, outR, outOk, outs, ownS, isNo, isLstS, List.replicate, eCallD, callM, okAr, arS, putO, rV, rO, rNil, tName, tTupl, tsCons, tsNil, eLc, lcL, iSeq, seqD, qYes, noOwn, isOwn, wipeE, backE, sl24, hm]) a.natAbs b.natAbs h
  have a1 : sPar 0 1 (eCall oAbs (aCons (eVar 0) aNil)) (eCall oAbs (aCons (eVar 1) aNil)) [.v (.int a), .v (.int b)] = .nx [.v (.int (a.natAbs : Int)), .v (.int (b.natAbs : Int))] := by
    simp [runM, runF, sSeq, sIf, sRet, sRetF, sSet, sSetO, sSetIx, sAsg, sPar, sNil, sDrop, sRetO, sMut1, oApp, ofRo, Ro.bind, lift, eVar, eC, eOp, eCmp, qCmp, qAnd, qOr, qNot, qTru, eAnd, eOr, eNot, eIf, eNeg, eChain, qChain, eIxV, slotD, dIx, dIxS, isDic, atI, ixN, eCall, aCons, aNil, eTup, eLst, oLen, eLenV, lenD, oInt, eq_ii, lt_ii, gt_ii, ge_ii, le_ii, add_ii, sub_ii, outR, outOk, outs, ownS, isNo, isLstS, List.replicate, eCallD, callM, okAr, arS, putO, rV, rO, rNil, tName, tTupl, tsCons, tsNil, eLc, lcL, iSeq, seqD, qYes, noOwn, isOwn, wipeE, backE, sl24, abs_nat]
  have hb : b_divisor [.v (.int a), .v (.int b)] = .ret (.int (Int.gcd a b : Nat)) [.v (.int (Nat.gcd a.natAbs b.natAbs : Nat)), .v (.int 0)] := by
    rw [b_divisor, seq_nx a1, seq_nx hl]
    rfl
  exact runM_ret hb rfl rfl rfl rfl
theorem s_shared {a b : Int} (h : b.natAbs < 2 ^ 200) : m__law_shared [.v (.int a), .v (.int b)] = .ok (.int (Int.gcd a b : Nat)) [.no, .no] := by
  have hl := loop_gcd (q := lq1__law_shared) (body := lb2__law_shared) (fun x y => by simp [lq1__law_shared, runM, runF, sSeq, sIf, sRet, sRetF, sSet, sSetO, sSetIx, sAsg, sPar, sNil, sDrop, sRetO, sMut1, oApp, ofRo, Ro.bind, lift, eVar, eC, eOp, eCmp, qCmp, qAnd, qOr, qNot, qTru, eAnd, eOr, eNot, eIf, eNeg, eChain, qChain, eIxV, slotD, dIx, dIxS, isDic, atI, ixN, eCall, aCons, aNil, eTup, eLst, oLen, eLenV, lenD, oInt, eq_ii, lt_ii, gt_ii, ge_ii, le_ii, add_ii, sub_ii, outR, outOk, outs, ownS, isNo, isLstS, List.replicate, eCallD, callM, okAr, arS, putO, rV, rO, rNil, tName, tTupl, tsCons, tsNil, eLc, lcL, iSeq, seqD, qYes, noOwn, isOwn, wipeE, backE, sl24]) (fun x y h0 => by
    have hm : dMod (.int (x : Int)) (.int (y : Int)) = some (.int ((x % y : Nat) : Int)) := by rw [mod_ii (by omega)]; rfl
    simp [lb2__law_shared, runM, runF, sSeq, sIf, sRet, sRetF, sSet, sSetO, sSetIx, sAsg, sPar, sNil, sDrop, sRetO, sMut1, oApp, ofRo, Ro.bind, lift, eVar, eC, eOp, eCmp, qCmp, qAnd, qOr, qNot, qTru, eAnd, eOr, eNot, eIf, eNeg, eChain, qChain, eIxV, slotD, dIx, dIxS, isDic, atI, ixN, eCall, aCons, aNil, eTup, eLst, oLen, eLenV, lenD, oInt, eq_ii, lt_ii, gt_ii, ge_ii, le_ii, add_ii, sub_ii, outR, outOk, outs, ownS, isNo, isLstS, List.replicate, eCallD, callM, okAr, arS, putO, rV, rO, rNil, tName, tTupl, tsCons, tsNil, eLc, lcL, iSeq, seqD, qYes, noOwn, isOwn, wipeE, backE, sl24, hm]) a.natAbs b.natAbs h
  have a1 : sPar 0 1 (eCall oAbs (aCons (eVar 0) aNil)) (eCall oAbs (aCons (eVar 1) aNil)) [.v (.int a), .v (.int b)] = .nx [.v (.int (a.natAbs : Int)), .v (.int (b.natAbs : Int))] := by
    simp [runM, runF, sSeq, sIf, sRet, sRetF, sSet, sSetO, sSetIx, sAsg, sPar, sNil, sDrop, sRetO, sMut1, oApp, ofRo, Ro.bind, lift, eVar, eC, eOp, eCmp, qCmp, qAnd, qOr, qNot, qTru, eAnd, eOr, eNot, eIf, eNeg, eChain, qChain, eIxV, slotD, dIx, dIxS, isDic, atI, ixN, eCall, aCons, aNil, eTup, eLst, oLen, eLenV, lenD, oInt, eq_ii, lt_ii, gt_ii, ge_ii, le_ii, add_ii, sub_ii, outR, outOk, outs, ownS, isNo, isLstS, List.replicate, eCallD, callM, okAr, arS, putO, rV, rO, rNil, tName, tTupl, tsCons, tsNil, eLc, lcL, iSeq, seqD, qYes, noOwn, isOwn, wipeE, backE, sl24, abs_nat]
  have hb : b__law_shared [.v (.int a), .v (.int b)] = .ret (.int (Int.gcd a b : Nat)) [.v (.int (Nat.gcd a.natAbs b.natAbs : Nat)), .v (.int 0)] := by
    rw [b__law_shared, seq_nx a1, seq_nx hl]
    rfl
  exact runM_ret hb rfl rfl rfl rfl
theorem div_w {i j : Int} (h1 : 0 < j) (h2 : j.natAbs < 2 ^ 200) : dDiv (.int i) (.int j) = some (.int (i / j)) := by
  show (if okDiv i j then some (D.int (divN i j)) else none) = _
  have e : divN i j = i / j := if_neg (by omega)
  have l : j.natAbs.log2 < 200 := (Nat.log2_lt (by omega)).mpr h2
  have k : okDiv i j = true := decide_eq_true ⟨by omega, by omega⟩
  rw [k, e]; rfl
/-! ## Newton's root -/
theorem newton {n h q : Nat} (h0 : 0 < h) (hq : q = n / h) : n < ((h + q) / 2 + 1) * ((h + q) / 2 + 1) := by
  have h1 : n < (q + 1) * h := by
    rw [hq, Nat.mul_comm]
    exact Nat.lt_mul_div_succ n h0
  generalize hk : (h + q) / 2 + 1 = k
  have h2 : h + q + 1 ≤ 2 * k := by omega
  have h3 : (h + q + 1) * (h + q + 1) ≤ (2 * k) * (2 * k) := Nat.mul_le_mul h2 h2
  have h4 : 4 * ((q + 1) * h) ≤ (h + q + 1) * (h + q + 1) := by
    rcases Nat.le_total h (q + 1) with g | g
    · obtain ⟨d, hd⟩ := Nat.exists_eq_add_of_le g
      rw [Nat.add_assoc, hd]
      have : (h + (h + d)) * (h + (h + d)) = 4 * ((h + d) * h) + d * d := by grind
      omega
    · obtain ⟨d, rfl⟩ := Nat.exists_eq_add_of_le g
      have : (q + 1 + d + q + 1) * (q + 1 + d + q + 1) = 4 * ((q + 1) * (q + 1 + d)) + d * d := by grind
      omega
  have h5 : (2 * k) * (2 * k) = 4 * (k * k) := by grind
  omega
theorem loop_root {n : Nat} (hn : 2 ≤ n) (hb : n < 2 ^ 199) : ∃ h l : Nat, sWhile lq1_root_of lb2_root_of [.v (.int (n : Int)), .v (.int (n : Int)), .v (.int ((n + 1) / 2 : Nat))] = .nx [.v (.int (n : Int)), .v (.int (h : Int)), .v (.int (l : Int))] ∧ h * h ≤ n ∧ n < (h + 1) * (h + 1) := by
  obtain ⟨e2, h1, h, l, h2, h3, h4⟩ := sWhile_inv (q := lq1_root_of) (body := lb2_root_of) (fun m e => ∃ l : Nat, e = [.v (.int (n : Int)), .v (.int (m : Int)), .v (.int (l : Int))] ∧ 1 ≤ m ∧ m ≤ n ∧ l = (m + n / m) / 2 ∧ n < (m + 1) * (m + 1)) (fun e => ∃ h l : Nat, e = [.v (.int (n : Int)), .v (.int (h : Int)), .v (.int (l : Int))] ∧ h * h ≤ n ∧ n < (h + 1) * (h + 1)) (fun m e ⟨l, e1, m1, m2, hl, hx⟩ => by
    subst e1
    have hq : lq1_root_of [.v (.int (n : Int)), .v (.int (m : Int)), .v (.int (l : Int))] = .ok (decide (l < m)) [.v (.int (n : Int)), .v (.int (m : Int)), .v (.int (l : Int))] := by simp [lq1_root_of, runM, runF, sSeq, sIf, sRet, sRetF, sSet, sSetO, sSetIx, sAsg, sPar, sNil, sDrop, sRetO, sMut1, oApp, ofRo, Ro.bind, lift, eVar, eC, eOp, eCmp, qCmp, qAnd, qOr, qNot, qTru, eAnd, eOr, eNot, eIf, eNeg, eChain, qChain, eIxV, slotD, dIx, dIxS, isDic, atI, ixN, eCall, aCons, aNil, eTup, eLst, oLen, eLenV, lenD, oInt, eq_ii, lt_ii, gt_ii, ge_ii, le_ii, add_ii, sub_ii, outR, outOk, outs, ownS, isNo, isLstS, List.replicate, eCallD, callM, okAr, arS, putO, rV, rO, rNil, tName, tTupl, tsCons, tsNil, eLc, lcL, iSeq, seqD, qYes, noOwn, isOwn, wipeE, backE, sl24]
    by_cases h0 : l < m
    · have l1 : 1 ≤ l := by
        rw [hl]
        by_cases g : m = 1
        · subst g
          rw [Nat.div_one]
          omega
        · generalize n / m = z
          omega
      have d1 : dDiv (.int (n : Int)) (.int (l : Int)) = some (.int ((n / l : Nat) : Int)) := by
        rw [div_w (by omega) (by omega)]
        rfl
      have d2 : dDiv (.int ((l : Int) + ((n / l : Nat) : Int))) (.int 2) = some (.int (((l + n / l) / 2 : Nat) : Int)) := by
        rw [div_ii (by decide) (by decide)]
        rfl
      refine .inr ⟨_, [.v (.int (n : Int)), .v (.int (l : Int)), .v (.int (((l + n / l) / 2 : Nat) : Int))], l, hq.trans (by rw [decide_eq_true h0]), .inl ?_, h0, _, rfl, l1, by omega, rfl, ?_⟩
      · generalize ((n / l : Nat) : Int) = q at *
        generalize (((l + n / l) / 2 : Nat) : Int) = k at *
        simp [lb2_root_of, runM, runF, sSeq, sIf, sRet, sRetF, sSet, sSetO, sSetIx, sAsg, sPar, sNil, sDrop, sRetO, sMut1, oApp, ofRo, Ro.bind, lift, eVar, eC, eOp, eCmp, qCmp, qAnd, qOr, qNot, qTru, eAnd, eOr, eNot, eIf, eNeg, eChain, qChain, eIxV, slotD, dIx, dIxS, isDic, atI, ixN, eCall, aCons, aNil, eTup, eLst, oLen, eLenV, lenD, oInt, eq_ii, lt_ii, gt_ii, ge_ii, le_ii, add_ii, sub_ii, outR, outOk, outs, ownS, isNo, isLstS, List.replicate, eCallD, callM, okAr, arS, putO, rV, rO, rNil, tName, tTupl, tsCons, tsNil, eLc, lcL, iSeq, seqD, qYes, noOwn, isOwn, wipeE, backE, sl24, d1, d2]
      · rw [hl]
        exact newton m1 rfl
    · refine .inl ⟨_, hq.trans (by rw [decide_eq_false h0]), m, l, rfl, ?_, hx⟩
      have g : m ≤ n / m := by omega
      exact (Nat.le_div_iff_mul_le m1).mp g) (m := n) (by omega) ⟨(n + 1) / 2, rfl, by omega, by omega, by rw [Nat.div_self (by omega)], by grind⟩
  rw [h2] at h1
  exact ⟨h, l, h1, h3, h4⟩
def rootN (n : Nat) : Nat := (List.range (n + 1)).foldl (fun a r => if r * r ≤ n then r else a) 0
theorem s_root_of {n : Nat} (hb : n ≤ 1000000000000000000000000000000000000) : ∃ h : Nat, m_root_of [.v (.int (n : Int))] = .ok (.int (h : Int)) [.no] ∧ h * h ≤ n ∧ n < (h + 1) * (h + 1) := by
  by_cases h2 : n < 2
  · refine ⟨n, ?_, ?_, ?_⟩
    · have h2' : (n : Int) < 2 := by omega
      simp [m_root_of, b_root_of, runM, runF, sSeq, sIf, sRet, sRetF, sSet, sSetO, sSetIx, sAsg, sPar, sNil, sDrop, sRetO, sMut1, oApp, ofRo, Ro.bind, lift, eVar, eC, eOp, eCmp, qCmp, qAnd, qOr, qNot, qTru, eAnd, eOr, eNot, eIf, eNeg, eChain, qChain, eIxV, slotD, dIx, dIxS, isDic, atI, ixN, eCall, aCons, aNil, eTup, eLst, oLen, eLenV, lenD, oInt, eq_ii, lt_ii, gt_ii, ge_ii, le_ii, add_ii, sub_ii, outR, outOk, outs, ownS, isNo, isLstS, List.replicate, eCallD, callM, okAr, arS, putO, rV, rO, rNil, tName, tTupl, tsCons, tsNil, eLc, lcL, iSeq, seqD, qYes, noOwn, isOwn, wipeE, backE, sl24, h2']
    · have : n = 0 ∨ n = 1 := by omega
      rcases this with rfl | rfl <;> decide
    · have : n = 0 ∨ n = 1 := by omega
      rcases this with rfl | rfl <;> decide
  · obtain ⟨h, l, e, p1, p2⟩ := loop_root (n := n) (by omega) (Nat.lt_of_le_of_lt hb (by decide +kernel))
    refine ⟨h, ?_, p1, p2⟩
    have h2' : ¬ (n : Int) < 2 := by omega
    have a1 : sIf (qCmp bLt (eVar 0) (eC (.int 2))) (sRet (eVar 0)) sNil [.v (.int (n : Int)), .no, .no] = .nx [.v (.int (n : Int)), .no, .no] := by simp [runM, runF, sSeq, sIf, sRet, sRetF, sSet, sSetO, sSetIx, sAsg, sPar, sNil, sDrop, sRetO, sMut1, oApp, ofRo, Ro.bind, lift, eVar, eC, eOp, eCmp, qCmp, qAnd, qOr, qNot, qTru, eAnd, eOr, eNot, eIf, eNeg, eChain, qChain, eIxV, slotD, dIx, dIxS, isDic, atI, ixN, eCall, aCons, aNil, eTup, eLst, oLen, eLenV, lenD, oInt, eq_ii, lt_ii, gt_ii, ge_ii, le_ii, add_ii, sub_ii, outR, outOk, outs, ownS, isNo, isLstS, List.replicate, eCallD, callM, okAr, arS, putO, rV, rO, rNil, tName, tTupl, tsCons, tsNil, eLc, lcL, iSeq, seqD, qYes, noOwn, isOwn, wipeE, backE, sl24, h2']
    have a2 : sSet 1 (eVar 0) [.v (.int (n : Int)), .no, .no] = .nx [.v (.int (n : Int)), .v (.int (n : Int)), .no] := by simp [runM, runF, sSeq, sIf, sRet, sRetF, sSet, sSetO, sSetIx, sAsg, sPar, sNil, sDrop, sRetO, sMut1, oApp, ofRo, Ro.bind, lift, eVar, eC, eOp, eCmp, qCmp, qAnd, qOr, qNot, qTru, eAnd, eOr, eNot, eIf, eNeg, eChain, qChain, eIxV, slotD, dIx, dIxS, isDic, atI, ixN, eCall, aCons, aNil, eTup, eLst, oLen, eLenV, lenD, oInt, eq_ii, lt_ii, gt_ii, ge_ii, le_ii, add_ii, sub_ii, outR, outOk, outs, ownS, isNo, isLstS, List.replicate, eCallD, callM, okAr, arS, putO, rV, rO, rNil, tName, tTupl, tsCons, tsNil, eLc, lcL, iSeq, seqD, qYes, noOwn, isOwn, wipeE, backE, sl24]
    have d2 : dDiv (.int ((n : Int) + 1)) (.int 2) = some (.int (((n + 1) / 2 : Nat) : Int)) := by
      rw [div_ii (by decide) (by decide)]
      rfl
    have a3 : sSet 2 (eOp dDiv (eOp dAdd (eVar 1) (eC (.int 1))) (eC (.int 2))) [.v (.int (n : Int)), .v (.int (n : Int)), .no] = .nx [.v (.int (n : Int)), .v (.int (n : Int)), .v (.int (((n + 1) / 2 : Nat) : Int))] := by
      generalize (((n + 1) / 2 : Nat) : Int) = k at *
      simp [runM, runF, sSeq, sIf, sRet, sRetF, sSet, sSetO, sSetIx, sAsg, sPar, sNil, sDrop, sRetO, sMut1, oApp, ofRo, Ro.bind, lift, eVar, eC, eOp, eCmp, qCmp, qAnd, qOr, qNot, qTru, eAnd, eOr, eNot, eIf, eNeg, eChain, qChain, eIxV, slotD, dIx, dIxS, isDic, atI, ixN, eCall, aCons, aNil, eTup, eLst, oLen, eLenV, lenD, oInt, eq_ii, lt_ii, gt_ii, ge_ii, le_ii, add_ii, sub_ii, outR, outOk, outs, ownS, isNo, isLstS, List.replicate, eCallD, callM, okAr, arS, putO, rV, rO, rNil, tName, tTupl, tsCons, tsNil, eLc, lcL, iSeq, seqD, qYes, noOwn, isOwn, wipeE, backE, sl24, d2]
    have hr : b_root_of [.v (.int (n : Int)), .no, .no] = .ret (.int (h : Int)) [.v (.int (n : Int)), .v (.int (h : Int)), .v (.int (l : Int))] := by
      rw [b_root_of, seq_nx a1, seq_nx a2, seq_nx a3, seq_nx e]
      rfl
    exact runM_ret hr rfl rfl rfl rfl
end K02

namespace K02
open PySem L2 LamX Rf
/-! ## fractions -/
def F (p q : Int) : D := .tup [.int p, .int q]
structure Fr (p q : Int) : Prop where
  q0 : 0 < q
  qb : q ≤ 1000000000
  pb : -1000000000 ≤ p ∧ p ≤ 1000000000
  g : Int.gcd p q = 1
theorem s_over {t b : Int} (h0 : 0 < b) (hb : b ≤ 1000000000) (ht : -1000000000 ≤ t ∧ t ≤ 1000000000) : ∃ p q, m__law_over [.v (.int t), .v (.int b)] = .ok (F p q) [.no, .no] ∧ Fr p q := by
  have gp : 0 < Int.gcd t b := Int.gcd_pos_of_ne_zero_right _ (by omega)
  have gl : Int.gcd t b ≤ b.natAbs := Nat.le_of_dvd (by omega) (Int.gcd_dvd_natAbs_right t b)
  have sh := s_shared (a := t) (b := b) (by omega)
  have gg : Int.gcd (t / (Int.gcd t b : Nat)) (b / (Int.gcd t b : Nat)) = 1 := by
    rw [Int.gcd_ediv (Int.gcd_dvd_left _ _) (Int.gcd_dvd_right _ _)]
    exact Nat.div_self gp
  have ma : t / (Int.gcd t b : Nat) * (Int.gcd t b : Nat) = t := Int.ediv_mul_cancel (Int.gcd_dvd_left _ _)
  have mb : b / (Int.gcd t b : Nat) * (Int.gcd t b : Nat) = b := Int.ediv_mul_cancel (Int.gcd_dvd_right _ _)
  generalize Int.gcd t b = g at *
  have d1 := div_ii (i := t) (j := (g : Int)) (by omega) (by rw [BD_eq]; omega)
  have d2 := div_ii (i := b) (j := (g : Int)) (by omega) (by rw [BD_eq]; omega)
  have e1 := Int.mul_ediv_add_emod t g
  have hp : (t / (g : Int)).natAbs ≤ t.natAbs := by
    have : (t / (g : Int)).natAbs * g = t.natAbs := by
      rw [← Int.natAbs_natCast g, ← Int.natAbs_mul, Int.natAbs_natCast, ma]
    rw [← this]
    exact Nat.le_mul_of_pos_right _ gp
  have hq : 0 < b / (g : Int) := by
    rcases Int.lt_trichotomy 0 (b / (g : Int)) with h | h | h
    · exact h
    · rw [← h, Int.zero_mul] at mb
      omega
    · have := Int.mul_neg_of_neg_of_pos h (show (0 : Int) < g by omega)
      omega
  have hq2 : (b / (g : Int)).natAbs ≤ b.natAbs := by
    have : (b / (g : Int)).natAbs * g = b.natAbs := by
      rw [← Int.natAbs_natCast g, ← Int.natAbs_mul, Int.natAbs_natCast, mb]
    rw [← this]
    exact Nat.le_mul_of_pos_right _ gp
  refine ⟨t / g, b / g, ?_, ⟨hq, by omega, by omega, gg⟩⟩
  generalize t / (g : Int) = p at *
  generalize b / (g : Int) = q at *
  generalize (g : Int) = g at *
  simp [m__law_over, b__law_over, runM, runF, sSeq, sIf, sRet, sRetF, sSet, sSetO, sSetIx, sAsg, sPar, sNil, sDrop, sRetO, sMut1, oApp, ofRo, Ro.bind, lift, eVar, eC, eOp, eCmp, qCmp, qAnd, qOr, qNot, qTru, eAnd, eOr, eNot, eIf, eNeg, eChain, qChain, eIxV, slotD, dIx, dIxS, isDic, atI, ixN, eCall, aCons, aNil, eTup, eLst, oLen, eLenV, lenD, oInt, eq_ii, lt_ii, gt_ii, ge_ii, le_ii, add_ii, sub_ii, outR, outOk, outs, ownS, isNo, isLstS, List.replicate, eCallD, callM, okAr, arS, putO, rV, rO, rNil, tName, tTupl, tsCons, tsNil, eLc, lcL, iSeq, seqD, qYes, noOwn, isOwn, wipeE, backE, sl24, sh, h0, d1, d2, F]
theorem ten9 : dPow (.int 10) (.int 9) = some (.int 1000000000) := by kernel_rfl
theorem s_fraction {n : Nat} {d : D} (hT : Tape n d) (hn : n ≤ 1000000) : ∃ p q tp, m__law_fraction [.o d] = .ok (F p q) [.o tp] ∧ Fr p q ∧ Tape (n + 3) tp := by
  obtain ⟨x, t1, hx, q1, T1⟩ := s_any (xs := [.int 3, .int 12, .int 1000, .int 1000000000]) hT (by omega) (by simp) (by simp)
  have hg : ∃ g : Int, x = .int g ∧ 0 < g ∧ g ≤ 1000000000 := by
    simp at hx
    rcases hx with rfl | rfl | rfl | rfl <;> exact ⟨_, rfl, by omega, by omega⟩
  obtain ⟨g, rfl, g0, g1⟩ := hg
  obtain ⟨a, t2, q2, a0, a1, T2⟩ := s_pick (m := 2 * g + 1) T1 (by omega) (by omega) (by omega)
  obtain ⟨b, t3, q3, b0, b1, T3⟩ := s_pick (m := g) T2 (by omega) (by omega) (by omega)
  obtain ⟨p, q, q4, hf⟩ := s_over (t := a - g) (b := 1 + b) (by omega) (by omega) (by omega)
  refine ⟨p, q, t3, ?_, hf, T3⟩
  have m2 : dMul (.int 2) (.int g) = some (.int (2 * g)) := mul_ii (by rw [BD_eq]; omega) (by rw [BD_eq]; omega)
  simp [m__law_fraction, b__law_fraction, runM, runF, sSeq, sIf, sRet, sRetF, sSet, sSetO, sSetIx, sAsg, sPar, sNil, sDrop, sRetO, sMut1, oApp, ofRo, Ro.bind, lift, eVar, eC, eOp, eCmp, qCmp, qAnd, qOr, qNot, qTru, eAnd, eOr, eNot, eIf, eNeg, eChain, qChain, eIxV, slotD, dIx, dIxS, isDic, atI, ixN, eCall, aCons, aNil, eTup, eLst, oLen, eLenV, lenD, oInt, eq_ii, lt_ii, gt_ii, ge_ii, le_ii, add_ii, sub_ii, outR, outOk, outs, ownS, isNo, isLstS, List.replicate, eCallD, callM, okAr, arS, putO, rV, rO, rNil, tName, tTupl, tsCons, tsNil, eLc, lcL, iSeq, seqD, qYes, noOwn, isOwn, wipeE, backE, sl24, ten9, q1, m2, q2, q3, q4]
theorem cms : c_MOST_SIZE = .int 1000000000000000000 := rfl
theorem wi_ok {i : Int} (h : -1000000000 ≤ i ∧ i ≤ 1000000000) : m_is_within [.v (.int i), .v (.int (-1000000000000000000)), .v (.int 1000000000000000000)] = .ok (.bl true) [.no, .no, .no] := by
  have h1 : (-1000000000000000000 : Int) ≤ i := by omega
  have h2 : i ≤ 1000000000000000000 := by omega
  simp [m_is_within, b_is_within, m_is_integer, b_is_integer, runM, runF, sSeq, sIf, sRet, sRetF, sSet, sSetO, sSetIx, sAsg, sPar, sNil, sDrop, sRetO, sMut1, oApp, ofRo, Ro.bind, lift, eVar, eC, eOp, eCmp, qCmp, qAnd, qOr, qNot, qTru, eAnd, eOr, eNot, eIf, eNeg, eChain, qChain, eIxV, slotD, dIx, dIxS, isDic, atI, ixN, eCall, aCons, aNil, eTup, eLst, oLen, eLenV, lenD, oInt, eq_ii, lt_ii, gt_ii, ge_ii, le_ii, add_ii, sub_ii, outR, outOk, outs, ownS, isNo, isLstS, List.replicate, eCallD, callM, okAr, arS, putO, rV, rO, rNil, tName, tTupl, tsCons, tsNil, eLc, lcL, iSeq, seqD, qYes, noOwn, isOwn, wipeE, backE, sl24, eIsi, isiD, h1, h2, truD]
theorem w2_ok (p q : D) : m_is_tuple [.v (.tup [p, q]), .v (.int 2), .v (.int 2)] = .ok (.bl true) [.no, .no, .no] := by
  simp [m_is_tuple, b_is_tuple, runM, runF, sSeq, sIf, sRet, sRetF, sSet, sSetO, sSetIx, sAsg, sPar, sNil, sDrop, sRetO, sMut1, oApp, ofRo, Ro.bind, lift, eVar, eC, eOp, eCmp, qCmp, qAnd, qOr, qNot, qTru, eAnd, eOr, eNot, eIf, eNeg, eChain, qChain, eIxV, slotD, dIx, dIxS, isDic, atI, ixN, eCall, aCons, aNil, eTup, eLst, oLen, eLenV, lenD, oInt, eq_ii, lt_ii, gt_ii, ge_ii, le_ii, add_ii, sub_ii, outR, outOk, outs, ownS, isNo, isLstS, List.replicate, eCallD, callM, okAr, arS, putO, rV, rO, rNil, tName, tTupl, tsCons, tsNil, eLc, lcL, iSeq, seqD, qYes, noOwn, isOwn, wipeE, backE, sl24, eIsi, isiD, truD]
theorem all2 {e : Env'} : eCall (oQuant allB) (aCons (fun e => .ok (.lst [.bl true, .bl true]) e) aNil) e = .ok (.bl true) e := by
  simp [runM, runF, sSeq, sIf, sRet, sRetF, sSet, sSetO, sSetIx, sAsg, sPar, sNil, sDrop, sRetO, sMut1, oApp, ofRo, Ro.bind, lift, eVar, eC, eOp, eCmp, qCmp, qAnd, qOr, qNot, qTru, eAnd, eOr, eNot, eIf, eNeg, eChain, qChain, eIxV, slotD, dIx, dIxS, isDic, atI, ixN, eCall, aCons, aNil, eTup, eLst, oLen, eLenV, lenD, oInt, eq_ii, lt_ii, gt_ii, ge_ii, le_ii, add_ii, sub_ii, outR, outOk, outs, ownS, isNo, isLstS, List.replicate, eCallD, callM, okAr, arS, putO, rV, rO, rNil, tName, tTupl, tsCons, tsNil, eLc, lcL, iSeq, seqD, qYes, noOwn, isOwn, wipeE, backE, sl24, oQuant, numTs, numT, allB]
theorem s_is_fraction {p q : Int} (h : Fr p q) : m_is_fraction [.v (F p q)] = .ok (.bl true) [.no] := by
  obtain ⟨q0, qb, pb, g⟩ := h
  have w1 := wi_ok (i := p) (by omega)
  have w2 := wi_ok (i := q) (by omega)
  have w3 := w2_ok (.int p) (.int q)
  have sd := s_divisor (a := p) (b := q) (by omega)
  rw [g] at sd
  simp [m_is_fraction, b_is_fraction, lc1_is_fraction, F, runM, runF, sSeq, sIf, sRet, sRetF, sSet, sSetO, sSetIx, sAsg, sPar, sNil, sDrop, sRetO, sMut1, oApp, ofRo, Ro.bind, lift, eVar, eC, eOp, eCmp, qCmp, qAnd, qOr, qNot, qTru, eAnd, eOr, eNot, eIf, eNeg, eChain, qChain, eIxV, slotD, dIx, dIxS, isDic, atI, ixN, eCall, aCons, aNil, eTup, eLst, oLen, eLenV, lenD, oInt, eq_ii, lt_ii, gt_ii, ge_ii, le_ii, add_ii, sub_ii, outR, outOk, outs, ownS, isNo, isLstS, List.replicate, eCallD, callM, okAr, arS, putO, rV, rO, rNil, tName, tTupl, tsCons, tsNil, eLc, lcL, iSeq, seqD, qYes, noOwn, isOwn, wipeE, backE, sl24, cms, w1, w2, w3, sd, q0, oQuant, numTs, numT, allB, truD]
end K02

namespace K02
open PySem L2 LamX Rf
/-! ## chains -/
inductive CF : Int → Int → List Int → Prop
  | nil (t : Int) : CF t 0 []
  | cons {t b : Int} {l : List Int} (h : 0 < b) (r : CF b (t % b) l) : CF t b (t / b :: l)
theorem CF.inv {t b a : Int} {l : List Int} (h : CF t b (a :: l)) : 0 < b ∧ a = t / b ∧ CF b (t % b) l := by
  cases h with
  | cons h r => exact ⟨h, rfl, r⟩
theorem CF.ex : ∀ (n : Nat) (t b : Int), 0 ≤ b → b.toNat < n → ∃ l, CF t b l
  | 0, t, b, h, k => absurd k (Nat.not_lt_zero _)
  | n + 1, t, b, h, k => by
    by_cases h0 : b = 0
    · subst h0; exact ⟨[], .nil t⟩
    · have h1 : 0 < b := by omega
      have h2 := Int.emod_nonneg t h0
      have h3 := Int.emod_lt_of_pos t h1
      obtain ⟨l, r⟩ := CF.ex n b (t % b) h2 (by omega)
      exact ⟨_, .cons h1 r⟩
theorem CF.len : ∀ (n : Nat) {t b : Int} {l : List Int}, CF t b l → b < 2 ^ n → l.length ≤ 2 * n
  | n, t, b, [], _, _ => Nat.zero_le _
  | 0, t, b, a :: l, h, k => by
    cases h with
    | cons h r => exact absurd k (by rw [Int.pow_zero]; omega)
  | n + 1, t, b, [a], _, _ => by simp; omega
  | n + 1, t, b, a :: a' :: l, h, k => by
    obtain ⟨h, _, r⟩ := h.inv
    obtain ⟨h', _, r'⟩ := r.inv
    have h1 := Int.emod_lt_of_pos t h
    have h2 := Int.emod_lt_of_pos b h'
    have h3 := Int.mul_ediv_add_emod b (t % b)
    have h4 : 1 ≤ b / (t % b) := by
      refine Int.le_ediv_of_mul_le h' ?_
      omega
    have h5 := Int.mul_le_mul_of_nonneg_left h4 (Int.le_of_lt h')
    have := CF.len n r' (by rw [Int.pow_succ] at k; omega)
    simp only [List.length_cons]
    omega
theorem CF.tail_pos {t b : Int} {l : List Int} (h : CF t b l) (hb : b ≤ t) : ∀ a ∈ l, 1 ≤ a := by
  induction h with
  | nil t => intro a ha; cases ha
  | @cons t b l h r ih =>
    intro a ha
    rcases List.mem_cons.mp ha with rfl | ha
    · exact Int.le_ediv_of_mul_le h (by omega)
    · exact ih (Int.le_of_lt (Int.emod_lt_of_pos t h)) a ha
theorem CF.rest_pos {t b : Int} {a : Int} {l : List Int} (h : CF t b (a :: l)) : ∀ c ∈ l, 1 ≤ c := by
  cases h with
  | cons h r => exact r.tail_pos (Int.le_of_lt (Int.emod_lt_of_pos t h))
theorem CF.abs_le {B : Int} {t b : Int} {l : List Int} (h : CF t b l) (hB : 1 ≤ B) (ht : t.natAbs ≤ B) (hb : b ≤ B) : ∀ a ∈ l, a.natAbs ≤ B := by
  induction h with
  | nil t => intro a ha; cases ha
  | @cons t b l h r ih =>
    intro a ha
    rcases List.mem_cons.mp ha with rfl | ha
    · have h1 := Int.mul_ediv_add_emod t b
      have h2 := Int.emod_nonneg t (show b ≠ 0 by omega)
      have h3 := Int.emod_lt_of_pos t h
      generalize t / b = q at *
      rcases Int.lt_trichotomy q 0 with h0 | h0 | h0
      · have k := Int.mul_le_mul_of_nonneg_right (a := 1) (b := b) (c := -q - 1) (by omega) (by omega)
        have e2 : b * (-q - 1) = -(b * q) - b := by grind
        rw [e2] at k
        generalize b * q = dq at *
        omega
      · subst h0; omega
      · have k := Int.mul_le_mul_of_nonneg_right (a := 1) (b := b) (c := q) (by omega) (by omega)
        generalize b * q = dq at *
        omega
    · have h2 := Int.emod_nonneg t (show b ≠ 0 by omega)
      have h3 := Int.emod_lt_of_pos t h
      exact ih (by omega) (by omega) a ha
/-- what a chain comes to -/
def ev : List Int → Int × Int
  | [] => (1, 0)
  | a :: l => (a * (ev l).1 + (ev l).2, (ev l).1)
theorem CF.ev {t b : Int} {l : List Int} (h : CF t b l) (g : Int.gcd t b = 1) (h0 : b = 0 → t = 1) : ev l = (t, b) := by
  induction h with
  | nil t => rw [h0 rfl]; rfl
  | @cons t b l h r ih =>
    have h1 := Int.mul_ediv_add_emod t b
    have h2 := Int.emod_nonneg t (show b ≠ 0 by omega)
    have g2 : Int.gcd b (t % b) = 1 := by
      have e : t % b = t - t / b * b := by
        rw [Int.mul_comm]
        omega
      rw [e, Int.gcd_sub_mul_right_right, Int.gcd_comm]
      exact g
    have := ih g2 fun e => by
      rw [e, Int.gcd_zero_right] at g2
      omega
    show (t / b * (K02.ev l).1 + (K02.ev l).2, (K02.ev l).1) = _
    rw [this]
    refine Prod.ext ?_ rfl
    show t / b * b + t % b = t
    rw [Int.mul_comm]
    exact h1
theorem ev_pos : ∀ {l : List Int}, (∀ a ∈ l, 1 ≤ a) → 1 ≤ (ev l).1 ∧ 0 ≤ (ev l).2
  | [], _ => ⟨by decide, by decide⟩
  | a :: l, h => by
    have ih := ev_pos (l := l) fun b hb => h b (by simp [hb])
    have ha := h a (by simp)
    have k := Int.mul_le_mul_of_nonneg_right ha (show 0 ≤ (ev l).1 by omega)
    exact ⟨by show 1 ≤ a * (ev l).1 + (ev l).2; omega, by show 0 ≤ (ev l).1; omega⟩
theorem ev_gcd : ∀ l : List Int, Int.gcd (ev l).1 (ev l).2 = 1
  | [] => by decide
  | a :: l => by
    have ih := ev_gcd l
    show Int.gcd (a * (ev l).1 + (ev l).2) (ev l).1 = 1
    rw [Int.add_comm, Int.gcd_add_mul_right_left, Int.gcd_comm]
    exact ih
theorem ev_bottom {a : Int} {l : List Int} (h : ∀ c ∈ l, 1 ≤ c) : 0 < (ev (a :: l)).2 := by
  have := (ev_pos h).1
  show 0 < (ev l).1
  omega
/-- the signs by turns -/
theorem gap_sign : ∀ (pre suf : List Int), pre ≠ [] → suf ≠ [] → (∀ c ∈ suf.tail, 1 ≤ c) → (pre.length % 2 = 1 ∧ (ev pre).1 * (ev (pre ++ suf)).2 - (ev (pre ++ suf)).1 * (ev pre).2 < 0) ∨ (pre.length % 2 = 0 ∧ 0 < (ev pre).1 * (ev (pre ++ suf)).2 - (ev (pre ++ suf)).1 * (ev pre).2)
  | [], suf, h, _, _ => absurd rfl h
  | [a], suf, _, h, k => by
    refine .inl ⟨rfl, ?_⟩
    cases suf with
    | nil => exact absurd rfl h
    | cons c r =>
      have p := (ev_pos (l := r) k).1
      show (a * 1 + 0) * (ev (c :: r)).1 - (a * (ev (c :: r)).1 + (ev (c :: r)).2) * 1 < 0
      have e : (a * 1 + 0) * (ev (c :: r)).1 - (a * (ev (c :: r)).1 + (ev (c :: r)).2) * 1 = -(ev (c :: r)).2 := by grind
      rw [e]
      show -(ev r).1 < 0
      omega
  | a :: a' :: pre, suf, _, h, k => by
    have ih := gap_sign (a' :: pre) suf (by simp) h k
    have e : (ev (a :: a' :: pre)).1 * (ev (a :: a' :: pre ++ suf)).2 - (ev (a :: a' :: pre ++ suf)).1 * (ev (a :: a' :: pre)).2 = -((ev (a' :: pre)).1 * (ev (a' :: pre ++ suf)).2 - (ev (a' :: pre ++ suf)).1 * (ev (a' :: pre)).2) := by
      show (a * (ev (a' :: pre)).1 + (ev (a' :: pre)).2) * (ev (a' :: pre ++ suf)).1 - (a * (ev (a' :: pre ++ suf)).1 + (ev (a' :: pre ++ suf)).2) * (ev (a' :: pre)).1 = _
      grind
    rw [e]
    simp only [List.length_cons] at *
    omega
/-! chain -/
theorem dv {i j : Int} (h : 0 < j) (h2 : j ≤ 1000000000) : dDiv (.int i) (.int j) = some (.int (i / j)) := div_ii h (by rw [BD_eq]; omega)
theorem ml {i j : Int} (h : i.natAbs ≤ 10000000000) (k : j.natAbs ≤ 10000000000) : dMul (.int i) (.int j) = some (.int (i * j)) := mul_ii (by rw [BD_eq]; omega) (by rw [BD_eq]; omega)
theorem em_eq (t b : Int) : t - t / b * b = t % b := by
  have := Int.mul_ediv_add_emod t b
  rw [Int.mul_comm] at this
  omega
theorem q_abs {t b B : Int} (hb : 0 < b) (hB : 1 ≤ B) (ht : t.natAbs ≤ B) : (t / b).natAbs ≤ B := by
  obtain ⟨l, h⟩ := CF.ex (((t % b).toNat) + 1) b (t % b) (Int.emod_nonneg t (by omega)) (by omega)
  by_cases h2 : b ≤ B
  · exact (CF.cons hb h).abs_le hB ht h2 _ (by simp)
  · have h1 := Int.mul_ediv_add_emod t b
    have h3 := Int.emod_nonneg t (show b ≠ 0 by omega)
    have h4 := Int.emod_lt_of_pos t hb
    generalize t / b = q at *
    have : q = 0 ∨ q = -1 := by
      rcases Int.lt_trichotomy q 0 with h0 | h0 | h0
      · right
        refine Int.le_antisymm (by omega) (Int.not_lt.mp fun hc => ?_)
        have k := Int.mul_le_mul_of_nonneg_left (show q ≤ -2 by omega) (Int.le_of_lt hb)
        omega
      · exact .inl h0
      · exfalso
        have k := Int.mul_le_mul_of_nonneg_left (show 1 ≤ q by omega) (Int.le_of_lt hb)
        omega
    omega

theorem CF.nil_inv {t b : Int} (h : CF t b []) : b = 0 := by
  cases h
  rfl
theorem steps_loop {x0 : Slot} : ∀ (r : List Int) {t b : Int} (fd : List Int) (x4 : Slot) (n : Nat), CF t b r → 0 ≤ b → b ≤ 1000000000 → t.natAbs ≤ 1000000000 → fd.length + r.length ≤ 1000 → r.length < n → ∃ t' b' y4, whileN lq1_steps_of lb2_steps_of n [x0, .v (.int t), .v (.int b), .o (.lst (fd.map D.int)), x4] = .nx [x0, .v (.int t'), .v (.int b'), .o (.lst ((fd ++ r).map D.int)), y4]
  | [], t, b, fd, x4, 0, _, _, _, _, _, h => absurd h (Nat.not_lt_zero _)
  | [], t, b, fd, x4, n + 1, h, h0, hb, ht, hl, hn => by
    obtain rfl := h.nil_inv
    refine ⟨t, 0, x4, ?_⟩
    have q : lq1_steps_of [x0, .v (.int t), .v (.int 0), .o (.lst (fd.map D.int)), x4] = .ok false [x0, .v (.int t), .v (.int 0), .o (.lst (fd.map D.int)), x4] := by
      have e : bNe (.int 0) (.int 0) = some false := by kernel_rfl
      simp [lq1_steps_of, runM, runF, sSeq, sIf, sRet, sRetF, sSet, sSetO, sSetIx, sAsg, sPar, sNil, sDrop, sRetO, sMut1, oApp, ofRo, Ro.bind, lift, eVar, eC, eOp, eCmp, qCmp, qAnd, qOr, qNot, qTru, eAnd, eOr, eNot, eIf, eNeg, eChain, qChain, eIxV, slotD, dIx, dIxS, isDic, atI, ixN, eCall, aCons, aNil, eTup, eLst, oLen, eLenV, lenD, oInt, eq_ii, lt_ii, gt_ii, ge_ii, le_ii, add_ii, sub_ii, outR, outOk, outs, ownS, isNo, isLstS, List.replicate, eCallD, callM, okAr, arS, putO, rV, rO, rNil, tName, tTupl, tsCons, tsNil, eLc, lcL, iSeq, seqD, qYes, noOwn, isOwn, wipeE, backE, sl24, e]
    simp [whileN, ofRo, q]
  | a :: r, t, b, fd, x4, 0, _, _, _, _, _, h => absurd h (Nat.not_lt_zero _)
  | a :: r, t, b, fd, x4, n + 1, h, h0, hb, ht, hl, hn => by
    obtain ⟨h1, rfl, h2⟩ := h.inv
    have m0 := Int.emod_nonneg t (show b ≠ 0 by omega)
    have m1 := Int.emod_lt_of_pos t h1
    obtain ⟨t', b', y4, e⟩ := steps_loop r (x0 := x0) (fd ++ [t / b]) (.v (.int (t / b))) n h2 m0 (by omega) (by omega) (by simp at hl ⊢; omega) (by simp at hn; omega)
    refine ⟨t', b', y4, ?_⟩
    have q : lq1_steps_of [x0, .v (.int t), .v (.int b), .o (.lst (fd.map D.int)), x4] = .ok true [x0, .v (.int t), .v (.int b), .o (.lst (fd.map D.int)), x4] := by
      have e : bNe (.int b) (.int 0) = some true := by
        show some (!decide (b = 0)) = _
        simp [show b ≠ 0 by omega]
      simp [lq1_steps_of, runM, runF, sSeq, sIf, sRet, sRetF, sSet, sSetO, sSetIx, sAsg, sPar, sNil, sDrop, sRetO, sMut1, oApp, ofRo, Ro.bind, lift, eVar, eC, eOp, eCmp, qCmp, qAnd, qOr, qNot, qTru, eAnd, eOr, eNot, eIf, eNeg, eChain, qChain, eIxV, slotD, dIx, dIxS, isDic, atI, ixN, eCall, aCons, aNil, eTup, eLst, oLen, eLenV, lenD, oInt, eq_ii, lt_ii, gt_ii, ge_ii, le_ii, add_ii, sub_ii, outR, outOk, outs, ownS, isNo, isLstS, List.replicate, eCallD, callM, okAr, arS, putO, rV, rO, rNil, tName, tTupl, tsCons, tsNil, eLc, lcL, iSeq, seqD, qYes, noOwn, isOwn, wipeE, backE, sl24, e]
    have qa := q_abs (t := t) (B := 1000000000) h1 (by decide) (by omega)
    have d1 := dv (i := t) h1 hb
    have d2 := ml (i := t / b) (j := b) (by omega) (by omega)
    have hz : fd.length < 16777216 := by simp at hl; omega
    have s := em_eq t b
    have b1 : lb2_steps_of [x0, .v (.int t), .v (.int b), .o (.lst (fd.map D.int)), x4] = .nx [x0, .v (.int b), .v (.int (t % b)), .o (.lst ((fd ++ [t / b]).map D.int)), .v (.int (t / b))] := by
      simp [lb2_steps_of, runM, runF, sSeq, sIf, sRet, sRetF, sSet, sSetO, sSetIx, sAsg, sPar, sNil, sDrop, sRetO, sMut1, oApp, ofRo, Ro.bind, lift, eVar, eC, eOp, eCmp, qCmp, qAnd, qOr, qNot, qTru, eAnd, eOr, eNot, eIf, eNeg, eChain, qChain, eIxV, slotD, dIx, dIxS, isDic, atI, ixN, eCall, aCons, aNil, eTup, eLst, oLen, eLenV, lenD, oInt, eq_ii, lt_ii, gt_ii, ge_ii, le_ii, add_ii, sub_ii, outR, outOk, outs, ownS, isNo, isLstS, List.replicate, eCallD, callM, okAr, arS, putO, rV, rO, rNil, tName, tTupl, tsCons, tsNil, eLc, lcL, iSeq, seqD, qYes, noOwn, isOwn, wipeE, backE, sl24, d1, d2, s, hz]
    rw [show fd ++ t / b :: r = fd ++ [t / b] ++ r by simp, ← e]
    simp [whileN, ofRo, q, b1]
theorem lchain_loop {x0 : Slot} : ∀ (r : List Int) {t b : Int} (fd : List Int) (x4 : Slot) (n : Nat), CF t b r → 0 ≤ b → b ≤ 1000000000 → t.natAbs ≤ 1000000000 → fd.length + r.length ≤ 1000 → r.length < n → ∃ t' b' y4, whileN lq1__law_chain lb2__law_chain n [x0, .o (.lst (fd.map D.int)), .v (.int t), .v (.int b), x4] = .nx [x0, .o (.lst ((fd ++ r).map D.int)), .v (.int t'), .v (.int b'), y4]
  | [], t, b, fd, x4, 0, _, _, _, _, _, h => absurd h (Nat.not_lt_zero _)
  | [], t, b, fd, x4, n + 1, h, h0, hb, ht, hl, hn => by
    obtain rfl := h.nil_inv
    refine ⟨t, 0, x4, ?_⟩
    have q : lq1__law_chain [x0, .o (.lst (fd.map D.int)), .v (.int t), .v (.int 0), x4] = .ok false [x0, .o (.lst (fd.map D.int)), .v (.int t), .v (.int 0), x4] := by
      simp [lq1__law_chain, runM, runF, sSeq, sIf, sRet, sRetF, sSet, sSetO, sSetIx, sAsg, sPar, sNil, sDrop, sRetO, sMut1, oApp, ofRo, Ro.bind, lift, eVar, eC, eOp, eCmp, qCmp, qAnd, qOr, qNot, qTru, eAnd, eOr, eNot, eIf, eNeg, eChain, qChain, eIxV, slotD, dIx, dIxS, isDic, atI, ixN, eCall, aCons, aNil, eTup, eLst, oLen, eLenV, lenD, oInt, eq_ii, lt_ii, gt_ii, ge_ii, le_ii, add_ii, sub_ii, outR, outOk, outs, ownS, isNo, isLstS, List.replicate, eCallD, callM, okAr, arS, putO, rV, rO, rNil, tName, tTupl, tsCons, tsNil, eLc, lcL, iSeq, seqD, qYes, noOwn, isOwn, wipeE, backE, sl24]
    simp [whileN, ofRo, q]
  | a :: r, t, b, fd, x4, 0, _, _, _, _, _, h => absurd h (Nat.not_lt_zero _)
  | a :: r, t, b, fd, x4, n + 1, h, h0, hb, ht, hl, hn => by
    obtain ⟨h1, rfl, h2⟩ := h.inv
    have m0 := Int.emod_nonneg t (show b ≠ 0 by omega)
    have m1 := Int.emod_lt_of_pos t h1
    obtain ⟨t', b', y4, e⟩ := lchain_loop r (x0 := x0) (fd ++ [t / b]) (.v (.int (t / b))) n h2 m0 (by omega) (by omega) (by simp at hl ⊢; omega) (by simp at hn; omega)
    refine ⟨t', b', y4, ?_⟩
    have q : lq1__law_chain [x0, .o (.lst (fd.map D.int)), .v (.int t), .v (.int b), x4] = .ok true [x0, .o (.lst (fd.map D.int)), .v (.int t), .v (.int b), x4] := by
      simp [lq1__law_chain, runM, runF, sSeq, sIf, sRet, sRetF, sSet, sSetO, sSetIx, sAsg, sPar, sNil, sDrop, sRetO, sMut1, oApp, ofRo, Ro.bind, lift, eVar, eC, eOp, eCmp, qCmp, qAnd, qOr, qNot, qTru, eAnd, eOr, eNot, eIf, eNeg, eChain, qChain, eIxV, slotD, dIx, dIxS, isDic, atI, ixN, eCall, aCons, aNil, eTup, eLst, oLen, eLenV, lenD, oInt, eq_ii, lt_ii, gt_ii, ge_ii, le_ii, add_ii, sub_ii, outR, outOk, outs, ownS, isNo, isLstS, List.replicate, eCallD, callM, okAr, arS, putO, rV, rO, rNil, tName, tTupl, tsCons, tsNil, eLc, lcL, iSeq, seqD, qYes, noOwn, isOwn, wipeE, backE, sl24, h1]
    have qa := q_abs (t := t) (B := 1000000000) h1 (by decide) (by omega)
    have d1 := dv (i := t) h1 hb
    have d2 := ml (i := t / b) (j := b) (by omega) (by omega)
    have hz : fd.length < 16777216 := by simp at hl; omega
    have s := em_eq t b
    have b1 : lb2__law_chain [x0, .o (.lst (fd.map D.int)), .v (.int t), .v (.int b), x4] = .nx [x0, .o (.lst ((fd ++ [t / b]).map D.int)), .v (.int b), .v (.int (t % b)), .v (.int (t / b))] := by
      simp [lb2__law_chain, runM, runF, sSeq, sIf, sRet, sRetF, sSet, sSetO, sSetIx, sAsg, sPar, sNil, sDrop, sRetO, sMut1, oApp, ofRo, Ro.bind, lift, eVar, eC, eOp, eCmp, qCmp, qAnd, qOr, qNot, qTru, eAnd, eOr, eNot, eIf, eNeg, eChain, qChain, eIxV, slotD, dIx, dIxS, isDic, atI, ixN, eCall, aCons, aNil, eTup, eLst, oLen, eLenV, lenD, oInt, eq_ii, lt_ii, gt_ii, ge_ii, le_ii, add_ii, sub_ii, outR, outOk, outs, ownS, isNo, isLstS, List.replicate, eCallD, callM, okAr, arS, putO, rV, rO, rNil, tName, tTupl, tsCons, tsNil, eLc, lcL, iSeq, seqD, qYes, noOwn, isOwn, wipeE, backE, sl24, d1, d2, s, hz]
    rw [show fd ++ t / b :: r = fd ++ [t / b] ++ r by simp, ← e]
    simp [whileN, ofRo, q, b1]
theorem runF_ret {md : List Bool} {n : Nat} {b : Env' → So} {args os e : Env'} {d : D} (hb : b (args ++ List.replicate (n - args.length) .no) = .retF d e) (h1 : args.map ownS = md) (h2 : args.all (fun s => !isNo s) = true) (h3 : outOk args e = true) (h4 : outs args e = os) : runF md n b args = .ok d os := by
  unfold runF
  rw [if_pos ⟨h1, h2⟩, hb]
  simp only [outR, h3, if_true, h4]
section
variable {t b : Int} {l : List Int}
theorem Fr.ab (h : Fr t b) : t.natAbs ≤ 1000000000 := by
  have := h.pb
  omega
theorem CF.le60 (h : CF t b l) (k : Fr t b) : l.length ≤ 60 := CF.len 30 h (by have := k.qb; omega)
theorem s_steps (h : CF t b l) (k : Fr t b) : m_steps_of [.v (F t b)] = .ok (.lst (l.map D.int)) [.no] := by
  obtain ⟨t', b', y4, e⟩ := steps_loop (x0 := .v (F t b)) l [] .no many h (Int.le_of_lt k.q0) k.qb k.ab (by have := h.le60 k; simp; omega) (Nat.lt_of_le_of_lt (h.le60 k) (by decide))
  have a1 : sParL [1, 2, 3] [false, false, true] (aCons (eIxV 0 (eC (.int 0))) (aCons (eIxV 0 (eC (.int 1))) (aCons (eLst (aNil)) (aNil)))) [.v (F t b), .no, .no, .no, .no] = .nx [.v (F t b), .v (.int t), .v (.int b), .o (.lst []), .no] := by kernel_rfl
  have hb : b_steps_of [.v (F t b), .no, .no, .no, .no] = .retF (.lst (l.map D.int)) [.v (F t b), .v (.int t'), .v (.int b'), .no, y4] := by
    rw [b_steps_of, seq_nx a1]
    have e' : sWhile lq1_steps_of lb2_steps_of [.v (F t b), .v (.int t), .v (.int b), .o (.lst []), .no] = _ := e
    rw [seq_nx e']
    rfl
  exact runF_ret hb rfl rfl rfl rfl
theorem s_lchain (h : CF t b l) (k : Fr t b) : m__law_chain [.v (F t b)] = .ok (.lst (l.map D.int)) [.no] := by
  obtain ⟨t', b', y4, e⟩ := lchain_loop (x0 := .v (F t b)) l [] .no many h (Int.le_of_lt k.q0) k.qb k.ab (by have := h.le60 k; simp; omega) (Nat.lt_of_le_of_lt (h.le60 k) (by decide))
  have a1 : sAsg (tTupl 2 (tsCons (tName 2) (tsCons (tName 3) (tsNil)))) (eVar 0) [.v (F t b), .no, .no, .no, .no] = .nx [.v (F t b), .no, .v (.int t), .v (.int b), .no] := by kernel_rfl
  have a2 : sSetO 1 (eLst (aNil)) [.v (F t b), .no, .v (.int t), .v (.int b), .no] = .nx [.v (F t b), .o (.lst []), .v (.int t), .v (.int b), .no] := by kernel_rfl
  have hb : b__law_chain [.v (F t b), .no, .no, .no, .no] = .retF (.lst (l.map D.int)) [.v (F t b), .no, .v (.int t'), .v (.int b'), y4] := by
    rw [b__law_chain, seq_nx a1, seq_nx a2]
    have e' : sWhile lq1__law_chain lb2__law_chain [.v (F t b), .o (.lst []), .v (.int t), .v (.int b), .no] = _ := e
    rw [seq_nx e']
    rfl
  exact runF_ret hb rfl rfl rfl rfl
theorem s_check (k : Fr t b) : m_check_fraction [.v (F t b)] = .ok .non [.no] := by
  have := s_is_fraction k
  generalize F t b = X at *
  simp [m_check_fraction, b_check_fraction, runM, runF, sSeq, sIf, sRet, sRetF, sSet, sSetO, sSetIx, sAsg, sPar, sNil, sDrop, sRetO, sMut1, oApp, ofRo, Ro.bind, lift, eVar, eC, eOp, eCmp, qCmp, qAnd, qOr, qNot, qTru, eAnd, eOr, eNot, eIf, eNeg, eChain, qChain, eIxV, slotD, dIx, dIxS, isDic, atI, ixN, eCall, aCons, aNil, eTup, eLst, oLen, eLenV, lenD, oInt, eq_ii, lt_ii, gt_ii, ge_ii, le_ii, add_ii, sub_ii, outR, outOk, outs, ownS, isNo, isLstS, List.replicate, eCallD, callM, okAr, arS, putO, rV, rO, rNil, tName, tTupl, tsCons, tsNil, eLc, lcL, iSeq, seqD, qYes, noOwn, isOwn, wipeE, backE, sl24, this, truD]
theorem s_chain (h : CF t b l) (k : Fr t b) : m_chain [.v (F t b)] = .ok (.lst (l.map D.int)) [.no] := by
  have c := s_check k
  have s := s_steps h k
  generalize F t b = X at *
  simp [m_chain, b_chain, runM, runF, sSeq, sIf, sRet, sRetF, sSet, sSetO, sSetIx, sAsg, sPar, sNil, sDrop, sRetO, sMut1, oApp, ofRo, Ro.bind, lift, eVar, eC, eOp, eCmp, qCmp, qAnd, qOr, qNot, qTru, eAnd, eOr, eNot, eIf, eNeg, eChain, qChain, eIxV, slotD, dIx, dIxS, isDic, atI, ixN, eCall, aCons, aNil, eTup, eLst, oLen, eLenV, lenD, oInt, eq_ii, lt_ii, gt_ii, ge_ii, le_ii, add_ii, sub_ii, outR, outOk, outs, ownS, isNo, isLstS, List.replicate, eCallD, callM, okAr, arS, putO, rV, rO, rNil, tName, tTupl, tsCons, tsNil, eLc, lcL, iSeq, seqD, qYes, noOwn, isOwn, wipeE, backE, sl24, c, s]
end
end K02

namespace K02
open PySem L2 LamX Rf
/-! ## numbers below 2 ^ n -/
def Sb (n : Nat) (x : Int) : Prop := x.natAbs < 2 ^ n
theorem sb_log {n : Nat} {x : Int} (h : Sb n x) (hn : n ≤ 5000) : x.natAbs.log2 < 5001 := by
  by_cases h0 : x.natAbs = 0
  · rw [h0]; decide
  · have := (Nat.log2_lt h0).mpr h
    omega
theorem mul_sb {n m : Nat} {x y : Int} (h : Sb n x) (h2 : Sb m y) (hn : n ≤ 5000) (hm : m ≤ 5000) : dMul (.int x) (.int y) = some (.int (x * y)) := by
  have a := sb_log h hn
  have b := sb_log h2 hm
  show (if okMul x y then some (D.int (x * y)) else none) = _
  have : okMul x y = true := decide_eq_true (by omega)
  rw [this]
  rfl
theorem Sb.mono {n m : Nat} {x : Int} (h : Sb n x) (hm : n ≤ m) : Sb m x := Nat.lt_of_lt_of_le h (Nat.pow_le_pow_right (by decide) hm)
theorem Sb.nat {x : Int} (h : x.natAbs ≤ 1000000000) : Sb 30 x := by
  unfold Sb
  have : (2 : Nat) ^ 30 = 1073741824 := by decide
  omega
/-- a chain's parts bound what it comes to -/
theorem ev_sb : ∀ {l : List Int}, (∀ a ∈ l, a.natAbs ≤ 1000000000) → (ev l).1.natAbs ≤ 2 ^ (30 * l.length) ∧ (ev l).2.natAbs ≤ 2 ^ (30 * l.length)
  | [], _ => by decide
  | a :: l, h => by
    obtain ⟨i1, i2⟩ := ev_sb (l := l) fun b hb => h b (by simp [hb])
    have ha := h a (by simp)
    have e : 2 ^ (30 * (a :: l).length) = 1073741824 * 2 ^ (30 * l.length) := by
      rw [List.length_cons, Nat.mul_add, Nat.pow_add, Nat.mul_comm]
    rw [e]
    generalize 2 ^ (30 * l.length) = B at *
    have k : (a * (ev l).1).natAbs ≤ 1000000000 * B := by
      rw [Int.natAbs_mul]
      exact Nat.mul_le_mul ha i1
    constructor
    · show (a * (ev l).1 + (ev l).2).natAbs ≤ _
      omega
    · show (ev l).1.natAbs ≤ _
      omega
theorem ev_lt {l : List Int} (h : ∀ a ∈ l, a.natAbs ≤ 1000000000) (hl : l.length ≤ 60) : Sb 1801 (ev l).1 ∧ Sb 1801 (ev l).2 := by
  obtain ⟨h1, h2⟩ := ev_sb h
  have : (2 : Nat) ^ (30 * l.length) ≤ 2 ^ 1800 := Nat.pow_le_pow_right (by decide) (by omega)
  have : (2 : Nat) ^ 1800 < 2 ^ 1801 := Nat.pow_lt_pow_right (by decide) (by decide)
  unfold Sb
  exact ⟨by omega, by omega⟩
/-! ## from parts -/
theorem lst_last {l : List Int} {a : Int} : dIx (.lst ((l ++ [a]).map D.int)) (.int (-1)) = some (.int a) := by
  have e1 : (if (1 : Int) ≤ (l.length : Int) + 1 then some (-1 + ((l.length : Int) + 1)).toNat else none) = some l.length := by
    rw [if_pos (by omega)]
    congr 1
    omega
  simp [dIx, dIxS, isDic, atI, ixN, e1]
theorem tup_last {l : List Int} {a : Int} : dIx (.tup ((l ++ [a]).map D.int)) (.int (-1)) = some (.int a) := by
  have e1 : (if (1 : Int) ≤ (l.length : Int) + 1 then some (-1 + ((l.length : Int) + 1)).toNat else none) = some l.length := by
    rw [if_pos (by omega)]
    congr 1
    omega
  simp [dIx, dIxS, isDic, atI, ixN, e1]
theorem pair_loop {x0 : Slot} : ∀ (ys rest : List Int) (x2 : Slot), (∀ a ∈ ys, a.natAbs ≤ 1000000000) → (∀ a ∈ rest, a.natAbs ≤ 1000000000) → ys.length + rest.length ≤ 60 → ∃ y2, forL (tName 2) lb3_from_chain (ys.map D.int) [x0, .v (F (ev rest).1 (ev rest).2), x2] = .nx [x0, .v (F (ev (ys.reverse ++ rest)).1 (ev (ys.reverse ++ rest)).2), y2]
  | [], rest, x2, _, _, _ => ⟨x2, rfl⟩
  | a :: ys, rest, x2, hy, hr, hl => by
    have ha := hy a (by simp)
    obtain ⟨y2, e⟩ := pair_loop ys (a :: rest) (.v (.int a)) (fun b hb => hy b (by simp [hb])) (fun b hb => by
      rcases List.mem_cons.mp hb with rfl | hb
      · exact ha
      · exact hr b hb) (by simp at hl ⊢; omega)
    refine ⟨y2, ?_⟩
    obtain ⟨s1, s2⟩ := ev_lt hr (by simp at hl; omega)
    have m := mul_sb (Sb.nat ha) s1 (by decide) (by decide)
    have s : tName 2 (.int a) [x0, .v (F (ev rest).1 (ev rest).2), x2] = some [x0, .v (F (ev rest).1 (ev rest).2), .v (.int a)] := rfl
    have b : lb3_from_chain [x0, .v (F (ev rest).1 (ev rest).2), .v (.int a)] = .nx [x0, .v (F (ev (a :: rest)).1 (ev (a :: rest)).2), .v (.int a)] := by
      simp only [ev]
      generalize (ev rest).1 = p at *
      generalize (ev rest).2 = q at *
      simp [lb3_from_chain, runM, runF, sSeq, sIf, sRet, sRetF, sSet, sSetO, sSetIx, sAsg, sPar, sNil, sDrop, sRetO, sMut1, oApp, ofRo, Ro.bind, lift, eVar, eC, eOp, eCmp, qCmp, qAnd, qOr, qNot, qTru, eAnd, eOr, eNot, eIf, eNeg, eChain, qChain, eIxV, slotD, dIx, dIxS, isDic, atI, ixN, eCall, aCons, aNil, eTup, eLst, oLen, eLenV, lenD, oInt, eq_ii, lt_ii, gt_ii, ge_ii, le_ii, add_ii, sub_ii, outR, outOk, outs, ownS, isNo, isLstS, List.replicate, eCallD, callM, okAr, arS, putO, rV, rO, rNil, tName, tTupl, tsCons, tsNil, eLc, lcL, iSeq, seqD, qYes, noOwn, isOwn, wipeE, backE, sl24, F, m]
    rw [List.reverse_cons, List.append_assoc, List.singleton_append, ← e]
    simp only [List.map_cons, forL, s, b]
theorem near_loop {x0 x1 x2 x3 : Slot} : ∀ (ys rest : List Int) (x5 : Slot), (∀ a ∈ ys, a.natAbs ≤ 1000000000) → (∀ a ∈ rest, a.natAbs ≤ 1000000000) → ys.length + rest.length ≤ 60 → ∃ y5, forL (tName 5) lb1_near_fractions (ys.map D.int) [x0, x1, x2, x3, .v (F (ev rest).1 (ev rest).2), x5] = .nx [x0, x1, x2, x3, .v (F (ev (ys.reverse ++ rest)).1 (ev (ys.reverse ++ rest)).2), y5]
  | [], rest, x2, _, _, _ => ⟨x2, rfl⟩
  | a :: ys, rest, x5, hy, hr, hl => by
    have ha := hy a (by simp)
    obtain ⟨y2, e⟩ := near_loop ys (a :: rest) (.v (.int a)) (fun b hb => hy b (by simp [hb])) (fun b hb => by
      rcases List.mem_cons.mp hb with rfl | hb
      · exact ha
      · exact hr b hb) (by simp at hl ⊢; omega)
    refine ⟨y2, ?_⟩
    obtain ⟨s1, s2⟩ := ev_lt hr (by simp at hl; omega)
    have m := mul_sb (Sb.nat ha) s1 (by decide) (by decide)
    have s : tName 5 (.int a) [x0, x1, x2, x3, .v (F (ev rest).1 (ev rest).2), x5] = some [x0, x1, x2, x3, .v (F (ev rest).1 (ev rest).2), .v (.int a)] := rfl
    have b : lb1_near_fractions [x0, x1, x2, x3, .v (F (ev rest).1 (ev rest).2), .v (.int a)] = .nx [x0, x1, x2, x3, .v (F (ev (a :: rest)).1 (ev (a :: rest)).2), .v (.int a)] := by
      simp only [ev]
      generalize (ev rest).1 = p at *
      generalize (ev rest).2 = q at *
      simp [lb1_near_fractions, runM, runF, sSeq, sIf, sRet, sRetF, sSet, sSetO, sSetIx, sAsg, sPar, sNil, sDrop, sRetO, sMut1, oApp, ofRo, Ro.bind, lift, eVar, eC, eOp, eCmp, qCmp, qAnd, qOr, qNot, qTru, eAnd, eOr, eNot, eIf, eNeg, eChain, qChain, eIxV, slotD, dIx, dIxS, isDic, atI, ixN, eCall, aCons, aNil, eTup, eLst, oLen, eLenV, lenD, oInt, eq_ii, lt_ii, gt_ii, ge_ii, le_ii, add_ii, sub_ii, outR, outOk, outs, ownS, isNo, isLstS, List.replicate, eCallD, callM, okAr, arS, putO, rV, rO, rNil, tName, tTupl, tsCons, tsNil, eLc, lcL, iSeq, seqD, qYes, noOwn, isOwn, wipeE, backE, sl24, F, m]
    rw [List.reverse_cons, List.append_assoc, List.singleton_append, ← e]
    simp only [List.map_cons, forL, s, b]
theorem lfrom_loop {x0 : Slot} : ∀ (ys rest : List Int) (x1 : Slot), (∀ a ∈ ys, a.natAbs ≤ 1000000000) → (∀ a ∈ rest, a.natAbs ≤ 1000000000) → ys.length + rest.length ≤ 60 → ∃ y1, forL (tName 1) lb1__law_from (ys.map D.int) [x0, x1, .v (.int (ev rest).1), .v (.int (ev rest).2)] = .nx [x0, y1, .v (.int (ev (ys.reverse ++ rest)).1), .v (.int (ev (ys.reverse ++ rest)).2)]
  | [], rest, x1, _, _, _ => ⟨x1, rfl⟩
  | a :: ys, rest, x1, hy, hr, hl => by
    have ha := hy a (by simp)
    obtain ⟨y2, e⟩ := lfrom_loop (x0 := x0) ys (a :: rest) (.v (.int a)) (fun b hb => hy b (by simp [hb])) (fun b hb => by
      rcases List.mem_cons.mp hb with rfl | hb
      · exact ha
      · exact hr b hb) (by simp at hl ⊢; omega)
    refine ⟨y2, ?_⟩
    obtain ⟨s1, s2⟩ := ev_lt hr (by simp at hl; omega)
    have m := mul_sb (Sb.nat ha) s1 (by decide) (by decide)
    have s : tName 1 (.int a) [x0, x1, .v (.int (ev rest).1), .v (.int (ev rest).2)] = some [x0, .v (.int a), .v (.int (ev rest).1), .v (.int (ev rest).2)] := rfl
    have b : lb1__law_from [x0, .v (.int a), .v (.int (ev rest).1), .v (.int (ev rest).2)] = .nx [x0, .v (.int a), .v (.int (ev (a :: rest)).1), .v (.int (ev (a :: rest)).2)] := by
      simp only [ev]
      generalize (ev rest).1 = p at *
      generalize (ev rest).2 = q at *
      simp [lb1__law_from, runM, runF, sSeq, sIf, sRet, sRetF, sSet, sSetO, sSetIx, sAsg, sPar, sNil, sDrop, sRetO, sMut1, oApp, ofRo, Ro.bind, lift, eVar, eC, eOp, eCmp, qCmp, qAnd, qOr, qNot, qTru, eAnd, eOr, eNot, eIf, eNeg, eChain, qChain, eIxV, slotD, dIx, dIxS, isDic, atI, ixN, eCall, aCons, aNil, eTup, eLst, oLen, eLenV, lenD, oInt, eq_ii, lt_ii, gt_ii, ge_ii, le_ii, add_ii, sub_ii, outR, outOk, outs, ownS, isNo, isLstS, List.replicate, eCallD, callM, okAr, arS, putO, rV, rO, rNil, tName, tTupl, tsCons, tsNil, eLc, lcL, iSeq, seqD, qYes, noOwn, isOwn, wipeE, backE, sl24, m]
    rw [List.reverse_cons, List.append_assoc, List.singleton_append, ← e]
    simp only [List.map_cons, forL, s, b]
/-- _law_over of what is in lowest terms -/
theorem s_over1 {p q : Int} (h : 0 < q) (g : Int.gcd p q = 1) (hq : q.natAbs < 2 ^ 200) : m__law_over [.v (.int p), .v (.int q)] = .ok (F p q) [.no, .no] := by
  have sh := s_shared (a := p) (b := q) hq
  rw [g] at sh
  have d := fun x : Int => div_ii (i := x) (j := 1) (by decide) (by rw [BD_eq]; decide)
  have sh : m__law_shared [.v (.int p), .v (.int q)] = .ok (.int 1) [.no, .no] := sh
  simp [m__law_over, b__law_over, runM, runF, sSeq, sIf, sRet, sRetF, sSet, sSetO, sSetIx, sAsg, sPar, sNil, sDrop, sRetO, sMut1, oApp, ofRo, Ro.bind, lift, eVar, eC, eOp, eCmp, qCmp, qAnd, qOr, qNot, qTru, eAnd, eOr, eNot, eIf, eNeg, eChain, qChain, eIxV, slotD, dIx, dIxS, isDic, atI, ixN, eCall, aCons, aNil, eTup, eLst, oLen, eLenV, lenD, oInt, eq_ii, lt_ii, gt_ii, ge_ii, le_ii, add_ii, sub_ii, outR, outOk, outs, ownS, isNo, isLstS, List.replicate, eCallD, callM, okAr, arS, putO, rV, rO, rNil, tName, tTupl, tsCons, tsNil, eLc, lcL, iSeq, seqD, qYes, noOwn, isOwn, wipeE, backE, sl24, sh, h, d, F]
theorem ev_sbk {k : Nat} : ∀ {l : List Int}, (∀ a ∈ l, a.natAbs + 1 ≤ 2 ^ k) → (ev l).1.natAbs ≤ 2 ^ (k * l.length) ∧ (ev l).2.natAbs ≤ 2 ^ (k * l.length)
  | [], _ => by simp [ev]
  | a :: l, h => by
    obtain ⟨i1, i2⟩ := ev_sbk (l := l) fun b hb => h b (by simp [hb])
    have ha := h a (by simp)
    have e : 2 ^ (k * (a :: l).length) = 2 ^ k * 2 ^ (k * l.length) := by
      rw [List.length_cons, Nat.mul_add, Nat.pow_add, Nat.mul_one, Nat.mul_comm]
    rw [e]
    generalize 2 ^ (k * l.length) = B at *
    generalize 2 ^ k = C at *
    have m1 : (a * (ev l).1).natAbs ≤ a.natAbs * B := by
      rw [Int.natAbs_mul]
      exact Nat.mul_le_mul (Nat.le_refl _) i1
    have m2 : (a.natAbs + 1) * B ≤ C * B := Nat.mul_le_mul ha (Nat.le_refl _)
    rw [Nat.add_mul, Nat.one_mul] at m2
    constructor
    · show (a * (ev l).1 + (ev l).2).natAbs ≤ _
      omega
    · show (ev l).1.natAbs ≤ _
      omega
/-- a longer chain has the greater bottom -/
theorem ev_mono : ∀ {pre suf : List Int}, (∀ a ∈ pre, 1 ≤ a) → (∀ a ∈ suf, 1 ≤ a) → (ev pre).1 ≤ (ev (pre ++ suf)).1 ∧ (ev pre).2 ≤ (ev (pre ++ suf)).2
  | [], suf, _, h => ⟨(ev_pos h).1, (ev_pos h).2⟩
  | a :: pre, suf, h, k => by
    obtain ⟨i1, i2⟩ := ev_mono (pre := pre) (suf := suf) (fun b hb => h b (by simp [hb])) k
    have ha := h a (by simp)
    have m := Int.mul_le_mul_of_nonneg_left i1 (show 0 ≤ a by omega)
    exact ⟨by show a * (ev pre).1 + (ev pre).2 ≤ a * (ev (pre ++ suf)).1 + (ev (pre ++ suf)).2; omega, i1⟩
theorem sl_all {i : List Int} {c : Int} : dSl (.lst ((i ++ [c]).map D.int)) none (some (-1)) = some (.lst (i.map D.int)) ∧ dSl (.tup ((i ++ [c]).map D.int)) none (some (-1)) = some (.tup (i.map D.int)) := by
  have e : HT.sIx (i.length + 1) (i.length + 1) (some (-1)) = i.length := by
    simp [HT.sIx]
    omega
  have e2 : (-1 + ((i.length : Int) + 1)).toNat = i.length := by omega
  constructor <;> simp [dSl, cut, e, HT.sIx, e2]
theorem ev_one (c : Int) : ev [c] = (c, 1) := by
  show (c * 1 + 0, (1 : Int)) = _
  rw [Int.mul_one, Int.add_zero]
/-- the law's own fraction of parts -/
theorem s_lfrom {i : List Int} {c : Int} (h : ∀ a ∈ i ++ [c], a.natAbs ≤ 1000000000) (h0 : 0 < (ev (i ++ [c])).2) (hl : (i ++ [c]).length ≤ 60) (hq : (ev (i ++ [c])).2.natAbs < 2 ^ 200) : m__law_from [.v (.lst ((i ++ [c]).map D.int))] = .ok (F (ev (i ++ [c])).1 (ev (i ++ [c])).2) [.no] ∧ m__law_from [.v (.tup ((i ++ [c]).map D.int))] = .ok (F (ev (i ++ [c])).1 (ev (i ++ [c])).2) [.no] := by
  have so := s_over1 h0 (ev_gcd (i ++ [c])) hq
  have go : ∀ X : D, dIx X (.int (-1)) = some (.int c) → isDic X = false → (∃ Y, dSl X none (some (-1)) = some Y ∧ ∃ Z, dRev Y = some Z ∧ seqD Z = some (i.reverse.map D.int)) → m__law_from [.v X] = .ok (F (ev (i ++ [c])).1 (ev (i ++ [c])).2) [.no] := by
    rintro X e1 nd ⟨Y, e2, Z, e3, e4⟩
    obtain ⟨y1, e5⟩ := lfrom_loop (x0 := .v X) i.reverse [c] .no (fun a ha => h a (by simp at ha; simp [ha])) (fun a ha => h a (by simp at ha; simp [ha])) (by simp at hl ⊢; omega)
    rw [ev_one, List.reverse_reverse] at e5
    have a1 : sPar 2 3 (eIxV 0 (eNeg (eC (.int 1)))) (eC (.int 1)) [.v X, .no, .no, .no] = .nx [.v X, .no, .v (.int c), .v (.int 1)] := by
      simp [runM, runF, sSeq, sIf, sRet, sRetF, sSet, sSetO, sSetIx, sAsg, sPar, sNil, sDrop, sRetO, sMut1, oApp, ofRo, Ro.bind, lift, eVar, eC, eOp, eCmp, qCmp, qAnd, qOr, qNot, qTru, eAnd, eOr, eNot, eIf, eNeg, eChain, qChain, eIxV, slotD, eCall, aCons, aNil, eTup, eLst, oLen, eLenV, lenD, oInt, eq_ii, lt_ii, gt_ii, ge_ii, le_ii, add_ii, sub_ii, outR, outOk, outs, ownS, isNo, isLstS, List.replicate, eCallD, callM, okAr, arS, putO, rV, rO, rNil, tName, tTupl, tsCons, tsNil, eLc, lcL, iSeq, seqD, qYes, noOwn, isOwn, wipeE, backE, sl24, e1]
    have a2 : iSeq (eRev (eSl (eVar 0) (oNone) (oSome (eNeg (eC (.int 1)))))) [.v X, .no, .v (.int c), .v (.int 1)] = .ok (i.reverse.map D.int) [.v X, .no, .v (.int c), .v (.int 1)] := by
      refine iSeq_of (d := Z) ?_ e4
      simp [runM, runF, sSeq, sIf, sRet, sRetF, sSet, sSetO, sSetIx, sAsg, sPar, sNil, sDrop, sRetO, sMut1, oApp, ofRo, Ro.bind, lift, eVar, eC, eOp, eCmp, qCmp, qAnd, qOr, qNot, qTru, eAnd, eOr, eNot, eIf, eNeg, eChain, qChain, eIxV, slotD, dIx, dIxS, isDic, atI, ixN, eCall, aCons, aNil, eTup, eLst, oLen, eLenV, lenD, oInt, eq_ii, lt_ii, gt_ii, ge_ii, le_ii, add_ii, sub_ii, outR, outOk, outs, ownS, isNo, isLstS, List.replicate, eCallD, callM, okAr, arS, putO, rV, rO, rNil, tName, tTupl, tsCons, tsNil, eLc, lcL, iSeq, seqD, qYes, noOwn, isOwn, wipeE, backE, sl24, eRev, eSl, oNone, oSome, e2, e3]
    have hb : b__law_from [.v X, .no, .no, .no] = .ret (F (ev (i ++ [c])).1 (ev (i ++ [c])).2) [.v X, y1, .v (.int (ev (i ++ [c])).1), .v (.int (ev (i ++ [c])).2)] := by
      rw [b__law_from, seq_nx a1, seq_nx ((sFor_of a2).trans e5)]
      generalize F (ev (i ++ [c])).1 (ev (i ++ [c])).2 = R at *
      simp [runM, runF, sSeq, sIf, sRet, sRetF, sSet, sSetO, sSetIx, sAsg, sPar, sNil, sDrop, sRetO, sMut1, oApp, ofRo, Ro.bind, lift, eVar, eC, eOp, eCmp, qCmp, qAnd, qOr, qNot, qTru, eAnd, eOr, eNot, eIf, eNeg, eChain, qChain, eIxV, slotD, dIx, dIxS, isDic, atI, ixN, eCall, aCons, aNil, eTup, eLst, oLen, eLenV, lenD, oInt, eq_ii, lt_ii, gt_ii, ge_ii, le_ii, add_ii, sub_ii, outR, outOk, outs, ownS, isNo, isLstS, List.replicate, eCallD, callM, okAr, arS, putO, rV, rO, rNil, tName, tTupl, tsCons, tsNil, eLc, lcL, iSeq, seqD, qYes, noOwn, isOwn, wipeE, backE, sl24, so]
    exact runM_ret hb rfl rfl rfl rfl
  obtain ⟨s1, s2⟩ := sl_all (i := i) (c := c)
  refine ⟨go _ lst_last rfl ⟨_, s1, _, rfl, ?_⟩, go _ tup_last rfl ⟨_, s2, _, rfl, ?_⟩⟩
  · rw [List.map_reverse]; rfl
  · rw [List.map_reverse]; rfl
def st1_from_chain : Env' → So := sIf (qOr (qNot (qTru (eCallD m_is_tuple (rV (eVar 0) (rV (eC (.int 1)) (rV (eC (.int 60)) (rNil))))))) (qNot (qTru (eCall (oQuant allB) (aCons (lc1_from_chain) aNil))))) (sRaise0 "NoFraction") (sNil)
def st2_from_chain : Env' → So := sIf (qTru (eCall (oQuant anyB) (aCons (lc2_from_chain) aNil))) (sRaise0 "NoFraction") (sNil)
def st3_from_chain : Env' → So := sSet 1 (eTup (aCons (eIxV 0 (eNeg (eC (.int 1)))) (aCons (eC (.int 1)) (aNil))))
def st4_from_chain : Env' → So := sFor (iSeq (eRev2 (eVar 0))) (tName 2) (lb3_from_chain)
def st5_from_chain : Env' → So := sRet (eVar 1)
theorem ch_from_chain : b_from_chain = sSeq st1_from_chain (sSeq st2_from_chain (sSeq st3_from_chain (sSeq st4_from_chain (st5_from_chain)))) := rfl
def st1_near_fractions : Env' → So := sDrop (eCallD m_check_fraction (rV (eVar 0) (rNil)))
def st2_near_fractions : Env' → So := sParL [2, 3] [false, true] (aCons (eCallD m_steps_of (rV (eVar 0) (rNil))) (aCons (eLst (aNil)) (aNil)))
def st3_near_fractions : Env' → So := sFor (iR2 (eC (.int 1)) (eOp dAdd (eLenV 2) (eC (.int 1)))) (tName 1) (lb2_near_fractions)
def st4_near_fractions : Env' → So := sRetO 3
theorem ch_near_fractions : b_near_fractions = sSeq st1_near_fractions (sSeq st2_near_fractions (sSeq st3_near_fractions (st4_near_fractions))) := rfl
def st1_lb2_near_fractions : Env' → So := sSet 4 (eTup (aCons (eIxV 2 (eOp dSub (eVar 1) (eC (.int 1)))) (aCons (eC (.int 1)) (aNil))))
def st2_lb2_near_fractions : Env' → So := sFor (iSeq (eRev (eSl (eVar 2) (oNone) (oSome (eOp dSub (eVar 1) (eC (.int 1))))))) (tName 5) (lb1_near_fractions)
def st3_lb2_near_fractions : Env' → So := sMut1 3 oApp (eVar 4)
theorem ch_lb2_near_fractions : lb2_near_fractions = sSeq st1_lb2_near_fractions (sSeq st2_lb2_near_fractions (st3_lb2_near_fractions)) := rfl
theorem numTs_bl (b : Bool) : ∀ n : Nat, numTs (List.replicate n (.bl b)) = some (List.replicate n b)
  | 0 => rfl
  | n + 1 => by simp [List.replicate_succ, numTs, numT, numTs_bl b n]
theorem all_rep (n : Nat) : oQuant allB [.lst (List.replicate n (.bl true))] = some (.bl true) := by
  simp [oQuant, numTs_bl, allB]
theorem any_rep (n : Nat) : oQuant anyB [.lst (List.replicate n (.bl false))] = some (.bl false) := by
  simp [oQuant, numTs_bl, anyB]
theorem fm_rep (b : Bool) : ∀ l : List D, l.filterMap (fun _ => some (D.bl b)) = List.replicate l.length (.bl b)
  | [] => rfl
  | a :: l => by simp [List.replicate_succ, fm_rep b l]
theorem rev2_of {i : List Int} {c : Int} : dRev2 (.tup ((i ++ [c]).map D.int)) = some (.tup (i.reverse.map D.int)) := by
  cases i with
  | nil => rfl
  | cons a i =>
    show some (D.tup (((a :: i) ++ [c]).map D.int).dropLast.reverse) = _
    rw [List.map_append, List.map_singleton, List.dropLast_concat, List.map_reverse]
theorem sl_tail (x : D) (xs : List D) : dSl (.tup (x :: xs)) (some 1) none = some (.tup xs) := by
  simp [dSl, cut, HT.sIx]
/-- the program's fraction of parts -/
theorem s_from {i : List Int} {c : Int} (h : ∀ a ∈ i ++ [c], a.natAbs ≤ 1000000) (hp : ∀ a ∈ (i ++ [c]).tail, 1 ≤ a) (hl : (i ++ [c]).length ≤ 60) : m_from_chain [.v (.tup ((i ++ [c]).map D.int))] = .ok (F (ev (i ++ [c])).1 (ev (i ++ [c])).2) [.no] := by
  have ten6 : dPow (.int 10) (.int 6) = some (.int 1000000) := by kernel_rfl
  have w1 : m_is_tuple [.v (.tup ((i ++ [c]).map D.int)), .v (.int 1), .v (.int 60)] = .ok (.bl true) [.no, .no, .no] := by
    have l1 : (1 : Int) ≤ (((i ++ [c]).map D.int).length : Int) := by rw [List.length_map, List.length_append, List.length_singleton]; omega
    have l2 : (((i ++ [c]).map D.int).length : Int) ≤ 60 := by rw [List.length_map]; omega
    have it : ∀ xs : List D, isiD .t (.tup xs) = some true := fun xs => by kernel_rfl
    generalize (i ++ [c]).map D.int = L at *
    simp [m_is_tuple, b_is_tuple, runM, runF, sSeq, sIf, sRet, sRetF, sSet, sSetO, sSetIx, sAsg, sPar, sNil, sDrop, sRetO, sMut1, oApp, ofRo, Ro.bind, lift, eVar, eC, eOp, eCmp, qCmp, qAnd, qOr, qNot, qTru, eAnd, eOr, eNot, eIf, eNeg, eChain, qChain, eIxV, slotD, dIx, dIxS, isDic, atI, ixN, eCall, aCons, aNil, eTup, eLst, oLen, eLenV, lenD, oInt, eq_ii, lt_ii, gt_ii, ge_ii, le_ii, add_ii, sub_ii, outR, outOk, outs, ownS, isNo, isLstS, List.replicate, eCallD, callM, okAr, arS, putO, rV, rO, rNil, tName, tTupl, tsCons, tsNil, eLc, lcL, iSeq, seqD, qYes, noOwn, isOwn, wipeE, backE, sl24, eIsi, it, truD, l1, l2]
  have c1 : lc1_from_chain [.v (.tup ((i ++ [c]).map D.int)), .no, .no] = .ok (.lst (List.replicate ((i ++ [c]).map D.int).length (.bl true))) [.v (.tup ((i ++ [c]).map D.int)), .no, .no] := by
    have k := eLc_map (vs := [2]) (it := iSeq (eVar 0)) (t := tName 2) (q := qYes) (f := eCallD m_is_within (rV (eVar 2) (rV (eNeg (eOp dPow (eC (.int 10)) (eC (.int 6)))) (rV (eOp dPow (eC (.int 10)) (eC (.int 6))) (rNil))))) (E := [.v (.tup ((i ++ [c]).map D.int)), .no, .no]) (E1 := [.v (.tup ((i ++ [c]).map D.int)), .no, .no]) (ds := (i ++ [c]).map D.int) (fun _ => some (.bl true)) rfl rfl (by rw [List.length_map]; omega) rfl rfl ?_
    · rw [lc1_from_chain, k, fm_rep]
    · intro d hd
      obtain ⟨a, ha, rfl⟩ := List.mem_map.mp hd
      have hh := h a ha
      have w : m_is_within [.v (.int a), .v (.int (-1000000)), .v (.int 1000000)] = .ok (.bl true) [.no, .no, .no] := by
        have i1 : isiD .i (.int a) = some true := by kernel_rfl
        have i2 : isiD .b (.int a) = some false := by kernel_rfl
        simp [m_is_within, b_is_within, m_is_integer, b_is_integer, runM, runF, sSeq, sIf, sRet, sRetF, sSet, sSetO, sSetIx, sAsg, sPar, sNil, sDrop, sRetO, sMut1, oApp, ofRo, Ro.bind, lift, eVar, eC, eOp, eCmp, qCmp, qAnd, qOr, qNot, qTru, eAnd, eOr, eNot, eIf, eNeg, eChain, qChain, eIxV, slotD, dIx, dIxS, isDic, atI, ixN, eCall, aCons, aNil, eTup, eLst, oLen, eLenV, lenD, oInt, eq_ii, lt_ii, gt_ii, ge_ii, le_ii, add_ii, sub_ii, outR, outOk, outs, ownS, isNo, isLstS, List.replicate, eCallD, callM, okAr, arS, putO, rV, rO, rNil, tName, tTupl, tsCons, tsNil, eLc, lcL, iSeq, seqD, qYes, noOwn, isOwn, wipeE, backE, sl24, eIsi, i1, i2, truD, show -1000000 ≤ a by omega, show a ≤ 1000000 by omega]
      refine ⟨[.v (.tup ((i ++ [c]).map D.int)), .no, .v (.int a)], rfl, .inr ⟨_, [.v (.tup ((i ++ [c]).map D.int)), .no, .v (.int a)], [.v (.tup ((i ++ [c]).map D.int)), .no, .v (.int a)], rfl, rfl, ?_, rfl, rfl⟩⟩
      generalize (i ++ [c]).map D.int = L at *
      simp [runM, runF, sSeq, sIf, sRet, sRetF, sSet, sSetO, sSetIx, sAsg, sPar, sNil, sDrop, sRetO, sMut1, oApp, ofRo, Ro.bind, lift, eVar, eC, eOp, eCmp, qCmp, qAnd, qOr, qNot, qTru, eAnd, eOr, eNot, eIf, eNeg, eChain, qChain, eIxV, slotD, dIx, dIxS, isDic, atI, ixN, eCall, aCons, aNil, eTup, eLst, oLen, eLenV, lenD, oInt, eq_ii, lt_ii, gt_ii, ge_ii, le_ii, add_ii, sub_ii, outR, outOk, outs, ownS, isNo, isLstS, List.replicate, eCallD, callM, okAr, arS, putO, rV, rO, rNil, tName, tTupl, tsCons, tsNil, eLc, lcL, iSeq, seqD, qYes, noOwn, isOwn, wipeE, backE, sl24, ten6, w]
  have hc : ∃ x xs, i ++ [c] = x :: xs := by
    cases i with
    | nil => exact ⟨c, [], rfl⟩
    | cons a i => exact ⟨a, i ++ [c], rfl⟩
  obtain ⟨x, xs, ex⟩ := hc
  have c2 : lc2_from_chain [.v (.tup ((i ++ [c]).map D.int)), .no, .no] = .ok (.lst (List.replicate xs.length (.bl false))) [.v (.tup ((i ++ [c]).map D.int)), .no, .no] := by
    have s := sl_tail (.int x) (xs.map D.int)
    rw [ex] at hp hl ⊢
    have k := eLc_map (vs := [2]) (it := iSeq (eSl (eVar 0) (oSome (eC (.int 1))) (oNone))) (t := tName 2) (q := qYes) (f := eCmp bLt (eVar 2) (eC (.int 1))) (E := [.v (.tup ((x :: xs).map D.int)), .no, .no]) (E1 := [.v (.tup ((x :: xs).map D.int)), .no, .no]) (ds := xs.map D.int) (fun _ => some (.bl false)) ?_ rfl (by rw [List.length_map]; simp at hl; omega) rfl rfl ?_
    · rw [lc2_from_chain, k, fm_rep, List.length_map]
    · refine iSeq_of (d := .tup (xs.map D.int)) ?_ rfl
      rw [List.map_cons]
      simp [runM, runF, sSeq, sIf, sRet, sRetF, sSet, sSetO, sSetIx, sAsg, sPar, sNil, sDrop, sRetO, sMut1, oApp, ofRo, Ro.bind, lift, eVar, eC, eOp, eCmp, qCmp, qAnd, qOr, qNot, qTru, eAnd, eOr, eNot, eIf, eNeg, eChain, qChain, eIxV, slotD, dIx, dIxS, isDic, atI, ixN, eCall, aCons, aNil, eTup, eLst, oLen, eLenV, lenD, oInt, eq_ii, lt_ii, gt_ii, ge_ii, le_ii, add_ii, sub_ii, outR, outOk, outs, ownS, isNo, isLstS, List.replicate, eCallD, callM, okAr, arS, putO, rV, rO, rNil, tName, tTupl, tsCons, tsNil, eLc, lcL, iSeq, seqD, qYes, noOwn, isOwn, wipeE, backE, sl24, eSl, oSome, oNone, s]
    · intro d hd
      obtain ⟨a, ha, rfl⟩ := List.mem_map.mp hd
      have hh := hp a ha
      refine ⟨[.v (.tup ((x :: xs).map D.int)), .no, .v (.int a)], rfl, .inr ⟨_, [.v (.tup ((x :: xs).map D.int)), .no, .v (.int a)], [.v (.tup ((x :: xs).map D.int)), .no, .v (.int a)], rfl, rfl, ?_, rfl, rfl⟩⟩
      generalize (x :: xs).map D.int = L at *
      simp [runM, runF, sSeq, sIf, sRet, sRetF, sSet, sSetO, sSetIx, sAsg, sPar, sNil, sDrop, sRetO, sMut1, oApp, ofRo, Ro.bind, lift, eVar, eC, eOp, eCmp, qCmp, qAnd, qOr, qNot, qTru, eAnd, eOr, eNot, eIf, eNeg, eChain, qChain, eIxV, slotD, dIx, dIxS, isDic, atI, ixN, eCall, aCons, aNil, eTup, eLst, oLen, eLenV, lenD, oInt, eq_ii, lt_ii, gt_ii, ge_ii, le_ii, add_ii, sub_ii, outR, outOk, outs, ownS, isNo, isLstS, List.replicate, eCallD, callM, okAr, arS, putO, rV, rO, rNil, tName, tTupl, tsCons, tsNil, eLc, lcL, iSeq, seqD, qYes, noOwn, isOwn, wipeE, backE, sl24, show ¬ a < 1 by omega]
  have q1 := all_rep ((i ++ [c]).map D.int).length
  have q2 := any_rep xs.length
  have q3 := tup_last (l := i) (a := c)
  have q4 := rev2_of (i := i) (c := c)
  have h9 : ∀ a ∈ i ++ [c], a.natAbs ≤ 1000000000 := fun a ha => by have := h a ha; omega
  obtain ⟨y2, e5⟩ := pair_loop (x0 := .v (.tup ((i ++ [c]).map D.int))) i.reverse [c] .no (fun a ha => h9 a (by simp at ha; simp [ha])) (fun a ha => h9 a (by simp at ha; simp [ha])) (by simp at hl ⊢; omega)
  rw [ev_one, List.reverse_reverse] at e5
  generalize hL : (i ++ [c]).map D.int = L at *
  have a1 : st1_from_chain [.v (.tup L), .no, .no] = .nx [.v (.tup L), .no, .no] := by
    unfold st1_from_chain
    generalize lc1_from_chain = C at *
    simp [runM, runF, sSeq, sIf, sRet, sRetF, sSet, sSetO, sSetIx, sAsg, sPar, sNil, sDrop, sRetO, sMut1, oApp, ofRo, Ro.bind, lift, eVar, eC, eOp, eCmp, qCmp, qAnd, qOr, qNot, qTru, eAnd, eOr, eNot, eIf, eNeg, eChain, qChain, eIxV, slotD, dIx, dIxS, isDic, atI, ixN, eCall, aCons, aNil, eTup, eLst, oLen, eLenV, lenD, oInt, eq_ii, lt_ii, gt_ii, ge_ii, le_ii, add_ii, sub_ii, outR, outOk, outs, ownS, isNo, isLstS, List.replicate, eCallD, callM, okAr, arS, putO, rV, rO, rNil, tName, tTupl, tsCons, tsNil, eLc, lcL, iSeq, seqD, qYes, noOwn, isOwn, wipeE, backE, sl24, w1, c1, q1, truD]
  have a2 : st2_from_chain [.v (.tup L), .no, .no] = .nx [.v (.tup L), .no, .no] := by
    unfold st2_from_chain
    generalize lc2_from_chain = C at *
    simp [runM, runF, sSeq, sIf, sRet, sRetF, sSet, sSetO, sSetIx, sAsg, sPar, sNil, sDrop, sRetO, sMut1, oApp, ofRo, Ro.bind, lift, eVar, eC, eOp, eCmp, qCmp, qAnd, qOr, qNot, qTru, eAnd, eOr, eNot, eIf, eNeg, eChain, qChain, eIxV, slotD, dIx, dIxS, isDic, atI, ixN, eCall, aCons, aNil, eTup, eLst, oLen, eLenV, lenD, oInt, eq_ii, lt_ii, gt_ii, ge_ii, le_ii, add_ii, sub_ii, outR, outOk, outs, ownS, isNo, isLstS, List.replicate, eCallD, callM, okAr, arS, putO, rV, rO, rNil, tName, tTupl, tsCons, tsNil, eLc, lcL, iSeq, seqD, qYes, noOwn, isOwn, wipeE, backE, sl24, c2, q2, truD]
  have a3 : st3_from_chain [.v (.tup L), .no, .no] = .nx [.v (.tup L), .v (F c 1), .no] := by
    simp [st3_from_chain, runM, runF, sSeq, sIf, sRet, sRetF, sSet, sSetO, sSetIx, sAsg, sPar, sNil, sDrop, sRetO, sMut1, oApp, ofRo, Ro.bind, lift, eVar, eC, eOp, eCmp, qCmp, qAnd, qOr, qNot, qTru, eAnd, eOr, eNot, eIf, eNeg, eChain, qChain, eIxV, slotD, eCall, aCons, aNil, eTup, eLst, oLen, eLenV, lenD, oInt, eq_ii, lt_ii, gt_ii, ge_ii, le_ii, add_ii, sub_ii, outR, outOk, outs, ownS, isNo, isLstS, List.replicate, eCallD, callM, okAr, arS, putO, rV, rO, rNil, tName, tTupl, tsCons, tsNil, eLc, lcL, iSeq, seqD, qYes, noOwn, isOwn, wipeE, backE, sl24, q3, F]
  have a4 : iSeq (eRev2 (eVar 0)) [.v (.tup L), .v (F c 1), .no] = .ok (i.reverse.map D.int) [.v (.tup L), .v (F c 1), .no] := by
    refine iSeq_of (d := .tup (i.reverse.map D.int)) ?_ rfl
    generalize i.reverse.map D.int = R at *
    simp [runM, runF, sSeq, sIf, sRet, sRetF, sSet, sSetO, sSetIx, sAsg, sPar, sNil, sDrop, sRetO, sMut1, oApp, ofRo, Ro.bind, lift, eVar, eC, eOp, eCmp, qCmp, qAnd, qOr, qNot, qTru, eAnd, eOr, eNot, eIf, eNeg, eChain, qChain, eIxV, slotD, dIx, dIxS, isDic, atI, ixN, eCall, aCons, aNil, eTup, eLst, oLen, eLenV, lenD, oInt, eq_ii, lt_ii, gt_ii, ge_ii, le_ii, add_ii, sub_ii, outR, outOk, outs, ownS, isNo, isLstS, List.replicate, eCallD, callM, okAr, arS, putO, rV, rO, rNil, tName, tTupl, tsCons, tsNil, eLc, lcL, iSeq, seqD, qYes, noOwn, isOwn, wipeE, backE, sl24, eRev2, q4]
  have hb := (congrFun ch_from_chain [.v (.tup L), .no, .no]).trans ((seq_nx a1).trans ((seq_nx a2).trans ((seq_nx a3).trans ((seq_nx ((sFor_of a4).trans e5)).trans (show st5_from_chain [.v (.tup L), .v (F (ev (i ++ [c])).1 (ev (i ++ [c])).2), y2] = .ret (F (ev (i ++ [c])).1 (ev (i ++ [c])).2) [.v (.tup L), .v (F (ev (i ++ [c])).1 (ev (i ++ [c])).2), y2] from rfl)))))
  exact runM_ret hb rfl rfl rfl rfl
end K02

set_option exponentiation.threshold 3000
namespace K02
open PySem L2 LamX Rf
/-! ## the beginnings of a chain -/
def fr (l : List Int) (j : Nat) : D := F (ev (l.take (j + 1))).1 (ev (l.take (j + 1))).2
def nearL (l : List Int) (n : Nat) : List D := (List.range n).map (fr l)
theorem nearL_succ (l : List Int) (n : Nat) : nearL l (n + 1) = nearL l n ++ [fr l n] := by
  unfold nearL
  rw [List.range_succ, List.map_append]
  rfl
theorem take_one {l : List Int} {j : Nat} (h : j < l.length) : l.take (j + 1) = l.take j ++ [l[j]] := by
  rw [List.take_succ_eq_append_getElem h]
theorem ix_at {l : List Int} {j : Nat} (h : j < l.length) : dIx (.lst (l.map D.int)) (.int ((j : Int) + 1 - 1)) = some (.int l[j]) := by
  have e : (j : Int) + 1 - 1 = (j : Int) := by omega
  rw [e]
  have g : l[j]? = some l[j] := List.getElem?_eq_getElem h
  simp [dIx, dIxS, isDic, atI, ixN, h, g]
theorem sl_take {l : List Int} {j : Nat} (h : j < l.length) : dSl (.lst (l.map D.int)) none (some ((j : Int) + 1 - 1)) = some (.lst ((l.take j).map D.int)) := by
  have e : (j : Int) + 1 - 1 = (j : Int) := by omega
  rw [e]
  have s : HT.sIx l.length l.length (some (j : Int)) = j := by
    rw [HT.sIx_nat]
    omega
  simp [dSl, cut, s, HT.sIx_none, List.map_take]
section
variable {l : List Int} {one : D} {fd : List D} {x4 x5 : Slot} {j : Nat}
theorem near_body (h : ∀ a ∈ l, a.natAbs ≤ 1000000000) (hl : l.length ≤ 60) (hj : j < l.length) (hf : fd.length ≤ 100) : ∃ y5, lb2_near_fractions [.v one, .v (.int ((j : Int) + 1)), .v (.lst (l.map D.int)), .o (.lst fd), x4, x5] = .nx [.v one, .v (.int ((j : Int) + 1)), .v (.lst (l.map D.int)), .o (.lst (fd ++ [fr l j])), .v (fr l j), y5] := by
  obtain ⟨y5, e⟩ := near_loop (x0 := .v one) (x1 := .v (.int ((j : Int) + 1))) (x2 := .v (.lst (l.map D.int))) (x3 := .o (.lst fd)) (l.take j).reverse [l[j]] x5 (fun a ha => h a (List.mem_of_mem_take (List.mem_reverse.mp ha))) (fun a ha => h a (by simp at ha; rw [ha]; exact List.getElem_mem _)) (by simp; omega)
  rw [ev_one, List.reverse_reverse, ← take_one hj] at e
  have q1 := ix_at hj
  have q2 := sl_take hj
  have hz : fd.length < 16777216 := by omega
  refine ⟨y5, ?_⟩
  have a1 : st1_lb2_near_fractions [.v one, .v (.int ((j : Int) + 1)), .v (.lst (l.map D.int)), .o (.lst fd), x4, x5] = .nx [.v one, .v (.int ((j : Int) + 1)), .v (.lst (l.map D.int)), .o (.lst fd), .v (F l[j] 1), x5] := by
    generalize l.map D.int = L at *
    rw [show (j : Int) + 1 - 1 = (j : Int) by omega] at q1
    simp [st1_lb2_near_fractions, runM, runF, sSeq, sIf, sRet, sRetF, sSet, sSetO, sSetIx, sAsg, sPar, sNil, sDrop, sRetO, sMut1, oApp, ofRo, Ro.bind, lift, eVar, eC, eOp, eCmp, qCmp, qAnd, qOr, qNot, qTru, eAnd, eOr, eNot, eIf, eNeg, eChain, qChain, eIxV, slotD, eCall, aCons, aNil, eTup, eLst, oLen, eLenV, lenD, oInt, eq_ii, lt_ii, gt_ii, ge_ii, le_ii, add_ii, sub_ii, outR, outOk, outs, ownS, isNo, isLstS, List.replicate, eCallD, callM, okAr, arS, putO, rV, rO, rNil, tName, tTupl, tsCons, tsNil, eLc, lcL, iSeq, seqD, qYes, noOwn, isOwn, wipeE, backE, sl24, q1, F]
  have a2 : iSeq (eRev (eSl (eVar 2) (oNone) (oSome (eOp dSub (eVar 1) (eC (.int 1)))))) [.v one, .v (.int ((j : Int) + 1)), .v (.lst (l.map D.int)), .o (.lst fd), .v (F l[j] 1), x5] = .ok ((l.take j).reverse.map D.int) [.v one, .v (.int ((j : Int) + 1)), .v (.lst (l.map D.int)), .o (.lst fd), .v (F l[j] 1), x5] := by
    refine iSeq_of (d := .lst ((l.take j).reverse.map D.int)) ?_ rfl
    rw [List.map_reverse]
    generalize l.map D.int = L at *
    generalize (l.take j).map D.int = T at *
    simp only [eRev, eSl, eVar, oNone, oSome, eOp, eC, Ro.bind, lift, List.getElem?_cons_succ, List.getElem?_cons_zero, sub_ii, q2, dRev]
  have a3 : st3_lb2_near_fractions [.v one, .v (.int ((j : Int) + 1)), .v (.lst (l.map D.int)), .o (.lst fd), .v (fr l j), y5] = .nx [.v one, .v (.int ((j : Int) + 1)), .v (.lst (l.map D.int)), .o (.lst (fd ++ [fr l j])), .v (fr l j), y5] := by
    generalize l.map D.int = L at *
    generalize fr l j = R at *
    simp [st3_lb2_near_fractions, runM, runF, sSeq, sIf, sRet, sRetF, sSet, sSetO, sSetIx, sAsg, sPar, sNil, sDrop, sRetO, sMut1, oApp, ofRo, Ro.bind, lift, eVar, eC, eOp, eCmp, qCmp, qAnd, qOr, qNot, qTru, eAnd, eOr, eNot, eIf, eNeg, eChain, qChain, eIxV, slotD, dIx, dIxS, isDic, atI, ixN, eCall, aCons, aNil, eTup, eLst, oLen, eLenV, lenD, oInt, eq_ii, lt_ii, gt_ii, ge_ii, le_ii, add_ii, sub_ii, outR, outOk, outs, ownS, isNo, isLstS, List.replicate, eCallD, callM, okAr, arS, putO, rV, rO, rNil, tName, tTupl, tsCons, tsNil, eLc, lcL, iSeq, seqD, qYes, noOwn, isOwn, wipeE, backE, sl24, hz]
  exact (congrFun ch_lb2_near_fractions _).trans ((seq_nx a1).trans ((seq_nx ((sFor_of a2).trans e)).trans a3))
theorem near_all (h : ∀ a ∈ l, a.natAbs ≤ 1000000000) (hl : l.length ≤ 60) : ∀ (k j : Nat) (x1 x4 x5 : Slot), j + k = l.length → ∃ y1 y4 y5, forL (tName 1) lb2_near_fractions (rng ((j : Int) + 1) k) [.v one, x1, .v (.lst (l.map D.int)), .o (.lst (nearL l j)), x4, x5] = .nx [.v one, y1, .v (.lst (l.map D.int)), .o (.lst (nearL l l.length)), y4, y5]
  | 0, j, x1, x4, x5, e => ⟨x1, x4, x5, by rw [← e]; rfl⟩
  | k + 1, j, x1, x4, x5, e => by
    obtain ⟨y5, b⟩ := near_body (one := one) (fd := nearL l j) (x4 := x4) (x5 := x5) h hl (show j < l.length by omega) (by simp [nearL]; omega)
    obtain ⟨z1, z4, z5, e2⟩ := near_all h hl k (j + 1) (.v (.int ((j : Int) + 1))) (.v (fr l j)) y5 (by omega)
    refine ⟨z1, z4, z5, ?_⟩
    have s : tName 1 (.int ((j : Int) + 1)) [.v one, x1, .v (.lst (l.map D.int)), .o (.lst (nearL l j)), x4, x5] = some [.v one, .v (.int ((j : Int) + 1)), .v (.lst (l.map D.int)), .o (.lst (nearL l j)), x4, x5] := rfl
    rw [← nearL_succ] at b
    rw [rng_succ, ← e2, show (((j + 1 : Nat) : Int) + 1) = (j : Int) + 1 + 1 by omega]
    simp only [forL, s, b]
end
theorem s_near {t b : Int} {l : List Int} (h : CF t b l) (k : Fr t b) : m_near_fractions [.v (F t b)] = .ok (.lst (nearL l l.length)) [.no] := by
  have l60 := h.le60 k
  have c := s_check k
  have st := s_steps h k
  have ab := h.abs_le (B := 1000000000) (by decide) (by have := k.ab; omega) k.qb
  obtain ⟨y1, y4, y5, e⟩ := near_all (one := F t b) (fun a ha => by have := ab a ha; omega) l60 l.length 0 .no .no .no (by omega)
  have a1 : st1_near_fractions [.v (F t b), .no, .no, .no, .no, .no] = .nx [.v (F t b), .no, .no, .no, .no, .no] := by
    generalize F t b = X at *
    simp [st1_near_fractions, runM, runF, sSeq, sIf, sRet, sRetF, sSet, sSetO, sSetIx, sAsg, sPar, sNil, sDrop, sRetO, sMut1, oApp, ofRo, Ro.bind, lift, eVar, eC, eOp, eCmp, qCmp, qAnd, qOr, qNot, qTru, eAnd, eOr, eNot, eIf, eNeg, eChain, qChain, eIxV, slotD, dIx, dIxS, isDic, atI, ixN, eCall, aCons, aNil, eTup, eLst, oLen, eLenV, lenD, oInt, eq_ii, lt_ii, gt_ii, ge_ii, le_ii, add_ii, sub_ii, outR, outOk, outs, ownS, isNo, isLstS, List.replicate, eCallD, callM, okAr, arS, putO, rV, rO, rNil, tName, tTupl, tsCons, tsNil, eLc, lcL, iSeq, seqD, qYes, noOwn, isOwn, wipeE, backE, sl24, c]
  have a2 : st2_near_fractions [.v (F t b), .no, .no, .no, .no, .no] = .nx [.v (F t b), .no, .v (.lst (l.map D.int)), .o (.lst []), .no, .no] := by
    generalize F t b = X at *
    generalize l.map D.int = L at *
    simp [st2_near_fractions, sParL, runM, runF, sSeq, sIf, sRet, sRetF, sSet, sSetO, sSetIx, sAsg, sPar, sNil, sDrop, sRetO, sMut1, oApp, ofRo, Ro.bind, lift, eVar, eC, eOp, eCmp, qCmp, qAnd, qOr, qNot, qTru, eAnd, eOr, eNot, eIf, eNeg, eChain, qChain, eIxV, slotD, dIx, dIxS, isDic, atI, ixN, eCall, aCons, aNil, eTup, eLst, oLen, eLenV, lenD, oInt, eq_ii, lt_ii, gt_ii, ge_ii, le_ii, add_ii, sub_ii, outR, outOk, outs, ownS, isNo, isLstS, List.replicate, eCallD, callM, okAr, arS, putO, rV, rO, rNil, tName, tTupl, tsCons, tsNil, eLc, lcL, iSeq, seqD, qYes, noOwn, isOwn, wipeE, backE, sl24, st, eCallD]
    try rfl
  have a3 : iR2 (eC (.int 1)) (eOp dAdd (eLenV 2) (eC (.int 1))) [.v (F t b), .no, .v (.lst (l.map D.int)), .o (.lst []), .no, .no] = .ok (rng 1 l.length) [.v (F t b), .no, .v (.lst (l.map D.int)), .o (.lst []), .no, .no] := by
    have := iR2_of (f := eC (.int 1)) (g := eOp dAdd (eLenV 2) (eC (.int 1))) (E := [.v (F t b), .no, .v (.lst (l.map D.int)), .o (.lst []), .no, .no]) (E' := [.v (F t b), .no, .v (.lst (l.map D.int)), .o (.lst []), .no, .no]) (E2 := [.v (F t b), .no, .v (.lst (l.map D.int)), .o (.lst []), .no, .no]) (i := 1) (j := (l.length : Int) + 1) rfl (by simp [runM, runF, sSeq, sIf, sRet, sRetF, sSet, sSetO, sSetIx, sAsg, sPar, sNil, sDrop, sRetO, sMut1, oApp, ofRo, Ro.bind, lift, eVar, eC, eOp, eCmp, qCmp, qAnd, qOr, qNot, qTru, eAnd, eOr, eNot, eIf, eNeg, eChain, qChain, eIxV, slotD, dIx, dIxS, isDic, atI, ixN, eCall, aCons, aNil, eTup, eLst, oLen, eLenV, lenD, oInt, eq_ii, lt_ii, gt_ii, ge_ii, le_ii, add_ii, sub_ii, outR, outOk, outs, ownS, isNo, isLstS, List.replicate, eCallD, callM, okAr, arS, putO, rV, rO, rNil, tName, tTupl, tsCons, tsNil, eLc, lcL, iSeq, seqD, qYes, noOwn, isOwn, wipeE, backE, sl24]) (by decide) (by omega)
    rw [this, show ((l.length : Int) + 1 - 1).toNat = l.length by omega]
  have e' : forL (tName 1) lb2_near_fractions (rng 1 l.length) [.v (F t b), .no, .v (.lst (l.map D.int)), .o (.lst []), .no, .no] = _ := e
  have hb := (congrFun ch_near_fractions [.v (F t b), .no, .no, .no, .no, .no]).trans ((seq_nx a1).trans ((seq_nx a2).trans ((seq_nx ((sFor_of a3).trans e')).trans (show st4_near_fractions [.v (F t b), y1, .v (.lst (l.map D.int)), .o (.lst (nearL l l.length)), y4, y5] = .retF (.lst (nearL l l.length)) [.v (F t b), y1, .v (.lst (l.map D.int)), .no, y4, y5] from rfl))))
  exact runF_ret hb rfl rfl rfl rfl
end K02

namespace K02
open PySem L2 LamX Rf
/-! ## the nearest fraction: plain -/
def dd (p q t b : Int) : Int := ((t * q - p * b).natAbs : Int)
abbrev Bst := Option (Int × Int)
def upd (p q : Int) (s : Bst) (c : Int × Int) : Bst := match s with
  | none => some c
  | some x => if dd p q c.1 c.2 * x.2 < dd p q x.1 x.2 * c.2 then some c else some x
def lo (p q b : Int) : Int := p * b / q
theorem fl {q t x : Int} (hq : 0 < q) (h1 : q * t ≤ x) (h2 : x < q * t + q) : x / q = t := by
  have a : t ≤ x / q := Int.le_ediv_of_mul_le hq (by rw [Int.mul_comm]; exact h1)
  have b : x / q < t + 1 := Int.ediv_lt_of_lt_mul hq (by rw [Int.add_mul, Int.one_mul, Int.mul_comm]; exact h2)
  omega
theorem lo_is {p q b : Int} (hq : 0 < q) : q * lo p q b ≤ p * b ∧ p * b < q * lo p q b + q := by
  have h1 := Int.mul_ediv_add_emod (p * b) q
  have h2 := Int.emod_nonneg (p * b) (show q ≠ 0 by omega)
  have h3 := Int.emod_lt_of_pos (p * b) hq
  unfold lo
  generalize q * (p * b / q) = z at *
  omega
def isC (p q t b : Int) : Prop := t = lo p q b ∨ t = lo p q b + 1
/-- what is not in lowest terms was met before -/
theorem met_before {p q t b g t0 b0 : Int} (hq : 0 < q) (hg : 1 ≤ g) (ht : t = g * t0) (hb : b = g * b0) (h : isC p q t b) : isC p q t0 b0 := by
  obtain ⟨l1, l2⟩ := lo_is (p := p) (b := b) hq
  have e1 : q * t = g * (q * t0) := by rw [ht]; grind
  have e2 : p * b = g * (p * b0) := by rw [hb]; grind
  rcases h with h | h
  · left
    rw [← h, e1, e2] at l1 l2
    have a1 : q * t0 ≤ p * b0 := Int.le_of_mul_le_mul_left l1 (by omega)
    refine (fl hq a1 ?_).symm
    refine Int.lt_of_mul_lt_mul_left (a := g) ?_ (by omega)
    rw [Int.mul_add]
    have := Int.mul_le_mul_of_nonneg_right hg (show 0 ≤ q by omega)
    omega
  · right
    have e3 : q * lo p q b = q * t - q := by rw [h, Int.mul_add, Int.mul_one]; omega
    rw [e3, e1, e2] at l1 l2
    have a1 : p * b0 < q * t0 := Int.lt_of_mul_lt_mul_left (a := g) (by omega) (by omega)
    have a2 : q * t0 - q ≤ p * b0 := by
      refine Int.le_of_mul_le_mul_left (a := g) ?_ (by omega)
      rw [Int.mul_sub]
      have := Int.mul_le_mul_of_nonneg_right hg (show 0 ≤ q by omega)
      omega
    have : p * b0 / q = t0 - 1 := fl hq (by rw [Int.mul_sub, Int.mul_one]; exact a2) (by rw [Int.mul_sub, Int.mul_one]; omega)
    unfold lo
    omega
theorem dd_scale {p q t b g t0 b0 : Int} (hg : 0 ≤ g) (ht : t = g * t0) (hb : b = g * b0) : dd p q t b = g * dd p q t0 b0 := by
  unfold dd
  have : t * q - p * b = g * (t0 * q - p * b0) := by rw [ht, hb]; grind
  rw [this, Int.natAbs_mul, Int.natCast_mul, Int.natAbs_of_nonneg hg]
/-- best so far: below or at bottom n; c also those met at n + 1 -/
structure Ok (p q : Int) (n : Int) (s : Int × Int) : Prop where
  g : Int.gcd s.1 s.2 = 1
  b1 : 1 ≤ s.2
  c : isC p q s.1 s.2
  le : ∀ t0 b0, 1 ≤ b0 → b0 ≤ n → isC p q t0 b0 → dd p q s.1 s.2 * b0 ≤ dd p q t0 b0 * s.2
theorem no_better {p q n : Int} {s : Int × Int} (hq : 0 < q) (h : Ok p q n s) {t b : Int} (hb : 1 ≤ b) (hn : b ≤ n + 1) (hc : isC p q t b) (hg : Int.gcd t b ≠ 1) : ¬ dd p q t b * s.2 < dd p q s.1 s.2 * b := by
  have gp : 0 < Int.gcd t b := Int.gcd_pos_of_ne_zero_right _ (by omega)
  obtain ⟨t0, ht⟩ := Int.gcd_dvd_left t b
  obtain ⟨b0, hb0⟩ := Int.gcd_dvd_right t b
  generalize hG : Int.gcd t b = G at *
  have g2 : (2 : Int) ≤ (G : Int) := by omega
  have b0p : 1 ≤ b0 := by
    refine Int.not_lt.mp fun hc => ?_
    have := Int.mul_le_mul_of_nonneg_left (show b0 ≤ 0 by omega) (show (0 : Int) ≤ (G : Int) by omega)
    omega
  have b0n : b0 ≤ n := by
    have := Int.mul_le_mul_of_nonneg_right g2 (show 0 ≤ b0 by omega)
    omega
  have m := met_before hq (show (1 : Int) ≤ (G : Int) by omega) ht hb0 hc
  have l := h.le t0 b0 b0p b0n m
  have sc := dd_scale (p := p) (q := q) (show (0 : Int) ≤ (G : Int) by omega) ht hb0
  rw [sc]
  have e1 : (G : Int) * dd p q t0 b0 * s.2 = G * (dd p q t0 b0 * s.2) := Int.mul_assoc ..
  have e2 : dd p q s.1 s.2 * b = G * (dd p q s.1 s.2 * b0) := by rw [hb0]; grind
  rw [e1, e2]
  have := Int.mul_le_mul_of_nonneg_left l (show (0 : Int) ≤ (G : Int) by omega)
  omega
theorem tri {a b c a' b' c' : Int} (hb : 0 < b') (h1 : a * b' < b * a') (h2 : b * c' ≤ c * b') (ha : 0 ≤ a') (hc : 0 ≤ c') : a * c' ≤ c * a' := by
  have k1 := Int.mul_le_mul_of_nonneg_right (Int.le_of_lt h1) hc
  have k2 := Int.mul_le_mul_of_nonneg_right h2 ha
  refine Int.le_of_mul_le_mul_right (a := b') ?_ hb
  have e1 : a * c' * b' = a * b' * c' := by grind
  have e2 : c * a' * b' = c * b' * a' := by grind
  have e3 : b * a' * c' = b * c' * a' := by grind
  omega
theorem dd_nn (p q t b : Int) : 0 ≤ dd p q t b := by unfold dd; omega
/-- the step to a candidate -/
theorem upd_ok {p q n : Int} {s : Int × Int} (hq : 0 < q) (h : Ok p q n s) {t b : Int} (hb : 1 ≤ b) (hn : b = n + 1) (hc : isC p q t b) : ∃ s', upd p q (some s) (t, b) = some s' ∧ Ok p q n s' ∧ dd p q s'.1 s'.2 * b ≤ dd p q t b * s'.2 ∧ (∀ t0, dd p q s.1 s.2 * b ≤ dd p q t0 b * s.2 → dd p q s'.1 s'.2 * b ≤ dd p q t0 b * s'.2) ∧ (if dd p q t b * s.2 < dd p q s.1 s.2 * b then s' = (t, b) ∧ Int.gcd t b = 1 else s' = s) := by
  by_cases hl : dd p q t b * s.2 < dd p q s.1 s.2 * b
  · have hg : Int.gcd t b = 1 := by
      by_cases hg : Int.gcd t b = 1
      · exact hg
      · exact absurd hl (no_better hq h hb (by omega) hc hg)
    refine ⟨(t, b), by simp [upd, hl], ⟨hg, hb, hc, fun t0 b0 h1 h2 h3 => tri (by have := h.b1; omega) hl (h.le t0 b0 h1 h2 h3) (by omega) (by omega)⟩, Int.le_refl _, fun t0 h0 => tri (by have := h.b1; omega) hl h0 (by omega) (by omega), by rw [if_pos hl]; exact ⟨rfl, hg⟩⟩
  · exact ⟨s, by simp [upd, hl], h, by omega, fun t0 h0 => h0, by rw [if_neg hl]⟩
def step (p q : Int) (s : Bst) (b : Int) : Bst := upd p q (upd p q s (lo p q b, b)) (lo p q b + 1, b)
theorem step_ok {p q n : Int} {s : Int × Int} (hq : 0 < q) (h : Ok p q n s) (hn : 0 ≤ n) : ∃ s', step p q (some s) (n + 1) = some s' ∧ Ok p q (n + 1) s' := by
  obtain ⟨s1, e1, o1, l1, m1, _⟩ := upd_ok hq h (t := lo p q (n + 1)) (b := n + 1) (by omega) rfl (.inl rfl)
  obtain ⟨s2, e2, o2, l2, m2, _⟩ := upd_ok hq o1 (t := lo p q (n + 1) + 1) (b := n + 1) (by omega) rfl (.inr rfl)
  refine ⟨s2, by unfold step; rw [e1, e2], o2.g, o2.b1, o2.c, fun t0 b0 h1 h2 h3 => ?_⟩
  by_cases hb : b0 ≤ n
  · exact o2.le t0 b0 h1 hb h3
  · have : b0 = n + 1 := by omega
    subst this
    rcases h3 with rfl | rfl
    · exact m2 _ l1
    · exact l2
theorem step_one {p q : Int} (hq : 0 < q) : ∃ s, step p q none 1 = some s ∧ Ok p q 1 s ∧ ∃ s1, upd p q none (lo p q 1, 1) = some s1 ∧ s1 = (lo p q 1, 1) ∧ Ok p q 0 s1 := by
  have o1 : Ok p q 0 (lo p q 1, 1) := ⟨by simp, by simp, .inl rfl, fun t0 b0 h1 h2 => by omega⟩
  obtain ⟨s2, e2, o2, l2, m2, _⟩ := upd_ok hq o1 (t := lo p q 1 + 1) (b := 1) (by omega) rfl (.inr rfl)
  refine ⟨s2, by unfold step; exact e2, ⟨o2.g, o2.b1, o2.c, fun t0 b0 h1 h2 h3 => ?_⟩, _, rfl, rfl, o1⟩
  have : b0 = 1 := by omega
  subst this
  rcases h3 with rfl | rfl
  · exact m2 _ (Int.le_refl _)
  · exact l2
end K02

namespace K02
open PySem L2 LamX Rf
/-! ## the nearest fraction: walks -/
structure Bd (p q t b : Int) : Prop where
  hp : p.natAbs ≤ 1000000000
  q0 : 0 < q
  hq : q ≤ 1000000000
  b1 : 1 ≤ b
  hb : b ≤ 1000
  ht : t.natAbs ≤ 1000000000000000
theorem ml2 {i j : Int} (h : i.natAbs ≤ 1000000000000000000000) (k : j.natAbs ≤ 1000000000000000000000) : dMul (.int i) (.int j) = some (.int (i * j)) := mul_ii (by rw [BD_eq]; omega) (by rw [BD_eq]; omega)
theorem nabs_mul {i j A B : Int} (h : i.natAbs ≤ A.toNat) (k : j.natAbs ≤ B.toNat) : (i * j).natAbs ≤ A.toNat * B.toNat := by
  rw [Int.natAbs_mul]
  exact Nat.mul_le_mul h k
section
variable {p q t b : Int}
theorem Bd.tq (h : Bd p q t b) : (t * q).natAbs ≤ 1000000000000000 * 1000000000 := by
  rw [Int.natAbs_mul]
  exact Nat.mul_le_mul h.ht (by have := h.q0; have := h.hq; omega)
theorem Bd.pb (h : Bd p q t b) : (p * b).natAbs ≤ 1000000000 * 1000 := by
  rw [Int.natAbs_mul]
  exact Nat.mul_le_mul h.hp (by have := h.b1; have := h.hb; omega)
theorem Bd.bq (h : Bd p q t b) : (b * q).natAbs ≤ 1000 * 1000000000 := by
  rw [Int.natAbs_mul]
  exact Nat.mul_le_mul (by have := h.b1; have := h.hb; omega) (by have := h.q0; have := h.hq; omega)
theorem Bd.dd (h : Bd p q t b) : dd p q t b ≤ 1000000000000000000000 * 2000 := by
  have h1 := h.tq
  have h2 := h.pb
  unfold K02.dd
  omega
/-- the law's own best and its gap -/
def lB : Bst → D
  | none => .non
  | some s => F s.1 s.2
def lG (p q : Int) : Bst → D
  | none => .non
  | some s => F (dd p q s.1 s.2) (s.2 * q)
theorem lstep_none {x0 x1 x5 x7 : Slot} (h : Bd p q t b) (g : Int.gcd t b = 1) : lb1__law_best [.v (F p q), x1, .v (.int b), .v .non, .v .non, x5, .v (.int t), x7] = .nx [.v (F p q), x1, .v (.int b), .v (F t b), .v (F (dd p q t b) (b * q)), x5, .v (.int t), .v (F (dd p q t b) (b * q))] := by
  have m1 := ml2 (i := t) (j := q) (by have := h.ht; omega) (by have := h.q0; have := h.hq; omega)
  have m2 := ml2 (i := p) (j := b) (by have := h.hp; omega) (by have := h.b1; have := h.hb; omega)
  have m3 := ml2 (i := b) (j := q) (by have := h.b1; have := h.hb; omega) (by have := h.q0; have := h.hq; omega)
  have a : oAbs [.int (t * q - p * b)] = some (.int (dd p q t b)) := abs_nat (t * q - p * b)
  have o := s_over1 (p := t) (q := b) (by have := h.b1; omega) g (by have := h.b1; have := h.hb; omega)
  have isn : bIsN .non .non = some true := by kernel_rfl
  generalize dd p q t b = A at *
  simp only [F] at *
  simp [lb1__law_best, runM, runF, sSeq, sIf, sRet, sRetF, sSet, sSetO, sSetIx, sAsg, sPar, sNil, sDrop, sRetO, sMut1, oApp, ofRo, Ro.bind, lift, eVar, eC, eOp, eCmp, qCmp, qAnd, qOr, qNot, qTru, eAnd, eOr, eNot, eIf, eNeg, eChain, qChain, eIxV, slotD, dIx, dIxS, isDic, atI, ixN, eCall, aCons, aNil, eTup, eLst, oLen, eLenV, lenD, oInt, eq_ii, lt_ii, gt_ii, ge_ii, le_ii, add_ii, sub_ii, outR, outOk, outs, ownS, isNo, isLstS, List.replicate, eCallD, callM, okAr, arS, putO, rV, rO, rNil, tName, tTupl, tsCons, tsNil, eLc, lcL, iSeq, seqD, qYes, noOwn, isOwn, wipeE, backE, sl24, F, m1, m2, m3, a, o, isn]
theorem lstep_some {x0 x1 x5 x7 : Slot} {s : Int × Int} (h : Bd p q t b) (hs : Bd p q s.1 s.2) (g : dd p q t b * s.2 < dd p q s.1 s.2 * b → Int.gcd t b = 1) : lb1__law_best [.v (F p q), x1, .v (.int b), .v (F s.1 s.2), .v (F (dd p q s.1 s.2) (s.2 * q)), x5, .v (.int t), x7] = .nx [.v (F p q), x1, .v (.int b), .v (if dd p q t b * s.2 < dd p q s.1 s.2 * b then F t b else F s.1 s.2), .v (if dd p q t b * s.2 < dd p q s.1 s.2 * b then F (dd p q t b) (b * q) else F (dd p q s.1 s.2) (s.2 * q)), x5, .v (.int t), .v (F (dd p q t b) (b * q))] := by
  have m1 := ml2 (i := t) (j := q) (by have := h.ht; omega) (by have := h.q0; have := h.hq; omega)
  have m2 := ml2 (i := p) (j := b) (by have := h.hp; omega) (by have := h.b1; have := h.hb; omega)
  have m3 := ml2 (i := b) (j := q) (by have := h.b1; have := h.hb; omega) (by have := h.q0; have := h.hq; omega)
  have m4 := mul_ii (i := dd p q t b) (j := s.2 * q) (by rw [BD_eq]; have := h.dd; have := dd_nn p q t b; omega) (by rw [BD_eq]; have := hs.bq; omega)
  have m5 := mul_ii (i := dd p q s.1 s.2) (j := b * q) (by rw [BD_eq]; have := hs.dd; have := dd_nn p q s.1 s.2; omega) (by rw [BD_eq]; have := h.bq; omega)
  have a : oAbs [.int (t * q - p * b)] = some (.int (dd p q t b)) := abs_nat (t * q - p * b)
  have isn : bIsN (F s.1 s.2) .non = some false := by kernel_rfl
  have lt : (dd p q t b * (s.2 * q) < dd p q s.1 s.2 * (b * q)) ↔ (dd p q t b * s.2 < dd p q s.1 s.2 * b) := by
    rw [← Int.mul_assoc, ← Int.mul_assoc]
    exact ⟨fun k => Int.lt_of_mul_lt_mul_right k (Int.le_of_lt h.q0), fun k => Int.mul_lt_mul_of_pos_right k h.q0⟩
  by_cases c : dd p q t b * s.2 < dd p q s.1 s.2 * b
  · have o := s_over1 (p := t) (q := b) (by have := h.b1; omega) (g c) (by have := h.b1; have := h.hb; omega)
    have c' := lt.mpr c
    rw [if_pos c, if_pos c]
    generalize dd p q s.1 s.2 = A' at *
    generalize dd p q t b = A at *
    generalize b * q = BQ at *
    generalize s.2 * q = SQ at *
    generalize s.1 = s1 at *
    generalize s.2 = s2 at *
    simp only [F] at *
    simp [lb1__law_best, runM, runF, sSeq, sIf, sRet, sRetF, sSet, sSetO, sSetIx, sAsg, sPar, sNil, sDrop, sRetO, sMut1, oApp, ofRo, Ro.bind, lift, eVar, eC, eOp, eCmp, qCmp, qAnd, qOr, qNot, qTru, eAnd, eOr, eNot, eIf, eNeg, eChain, qChain, eIxV, slotD, dIx, dIxS, isDic, atI, ixN, eCall, aCons, aNil, eTup, eLst, oLen, eLenV, lenD, oInt, eq_ii, lt_ii, gt_ii, ge_ii, le_ii, add_ii, sub_ii, outR, outOk, outs, ownS, isNo, isLstS, List.replicate, eCallD, callM, okAr, arS, putO, rV, rO, rNil, tName, tTupl, tsCons, tsNil, eLc, lcL, iSeq, seqD, qYes, noOwn, isOwn, wipeE, backE, sl24, F, m1, m2, m3, m4, m5, a, o, isn, c']
  · have c' : ¬ (dd p q t b * (s.2 * q) < dd p q s.1 s.2 * (b * q)) := fun k => c (lt.mp k)
    rw [if_neg c, if_neg c]
    generalize dd p q s.1 s.2 = A' at *
    generalize dd p q t b = A at *
    generalize b * q = BQ at *
    generalize s.2 * q = SQ at *
    generalize s.1 = s1 at *
    generalize s.2 = s2 at *
    simp only [F] at *
    simp [lb1__law_best, runM, runF, sSeq, sIf, sRet, sRetF, sSet, sSetO, sSetIx, sAsg, sPar, sNil, sDrop, sRetO, sMut1, oApp, ofRo, Ro.bind, lift, eVar, eC, eOp, eCmp, qCmp, qAnd, qOr, qNot, qTru, eAnd, eOr, eNot, eIf, eNeg, eChain, qChain, eIxV, slotD, dIx, dIxS, isDic, atI, ixN, eCall, aCons, aNil, eTup, eLst, oLen, eLenV, lenD, oInt, eq_ii, lt_ii, gt_ii, ge_ii, le_ii, add_ii, sub_ii, outR, outOk, outs, ownS, isNo, isLstS, List.replicate, eCallD, callM, okAr, arS, putO, rV, rO, rNil, tName, tTupl, tsCons, tsNil, eLc, lcL, iSeq, seqD, qYes, noOwn, isOwn, wipeE, backE, sl24, F, m1, m2, m3, m4, m5, a, isn, c']
/-! the program's -/
def gg (p q t b : Int) : Int := (Int.gcd (p * b - t * q) (q * b) : Nat)
def fa (p q t b : Int) : Int := (((p * b - t * q) / gg p q t b).natAbs : Int)
def fb (p q t b : Int) : Int := q * b / gg p q t b
def pB (p q : Int) : Bst → D
  | none => .non
  | some s => .tup [F (fa p q s.1 s.2) (fb p q s.1 s.2), F s.1 s.2]
theorem Bd.qb0 (h : Bd p q t b) : 0 < q * b := Int.mul_pos h.q0 (by have := h.b1; omega)
theorem Bd.qb (h : Bd p q t b) : (q * b).natAbs ≤ 1000000000000 := by
  have := h.bq
  rw [Int.mul_comm]
  omega
theorem Bd.g0 (h : Bd p q t b) : 0 < gg p q t b := by
  have := Int.gcd_pos_of_ne_zero_right (p * b - t * q) (show q * b ≠ 0 by have := h.qb0; omega)
  unfold gg
  omega
theorem Bd.gle (h : Bd p q t b) : gg p q t b ≤ 1000000000000 := by
  have h1 := h.qb
  have h2 := h.qb0
  have : Int.gcd (p * b - t * q) (q * b) ≤ (q * b).natAbs := Nat.le_of_dvd (by omega) (Int.gcd_dvd_natAbs_right _ _)
  unfold gg
  omega
theorem Bd.fam (h : Bd p q t b) : gg p q t b * fa p q t b = K02.dd p q t b := by
  have e : (p * b - t * q) / gg p q t b * gg p q t b = p * b - t * q := Int.ediv_mul_cancel (Int.gcd_dvd_left _ _)
  have g0 := h.g0
  unfold fa K02.dd
  have : ((p * b - t * q) / gg p q t b * gg p q t b).natAbs = (t * q - p * b).natAbs := by rw [e]; omega
  rw [Int.natAbs_mul] at this
  generalize (p * b - t * q) / gg p q t b = x at *
  generalize gg p q t b = g at *
  rw [← this]
  rw [Int.natCast_mul, Int.natAbs_of_nonneg (show 0 ≤ g by omega), Int.mul_comm]
theorem Bd.fbm (h : Bd p q t b) : gg p q t b * fb p q t b = q * b := by
  have e : q * b / gg p q t b * gg p q t b = q * b := Int.ediv_mul_cancel (Int.gcd_dvd_right _ _)
  rw [Int.mul_comm]
  exact e
theorem s_lowest {n m : Int} (h0 : 0 < m) (hm : m ≤ 1000000000000) : m_lowest [.v (.int n), .v (.int m)] = .ok (F (n / (Int.gcd n m : Nat)) (m / (Int.gcd n m : Nat))) [.no, .no] := by
  have s := s_divisor (a := n) (b := m) (by omega)
  have gp := Int.gcd_pos_of_ne_zero_right n (show m ≠ 0 by omega)
  have gl : Int.gcd n m ≤ m.natAbs := Nat.le_of_dvd (by omega) (Int.gcd_dvd_natAbs_right _ _)
  generalize Int.gcd n m = G at *
  have d := fun x : Int => div_ii (i := x) (j := (G : Int)) (by omega) (by rw [BD_eq]; omega)
  have nn : ¬ m < 0 := by omega
  generalize (G : Int) = g at *
  simp [m_lowest, b_lowest, runM, runF, sSeq, sIf, sRet, sRetF, sSet, sSetO, sSetIx, sAsg, sPar, sNil, sDrop, sRetO, sMut1, oApp, ofRo, Ro.bind, lift, eVar, eC, eOp, eCmp, qCmp, qAnd, qOr, qNot, qTru, eAnd, eOr, eNot, eIf, eNeg, eChain, qChain, eIxV, slotD, dIx, dIxS, isDic, atI, ixN, eCall, aCons, aNil, eTup, eLst, oLen, eLenV, lenD, oInt, eq_ii, lt_ii, gt_ii, ge_ii, le_ii, add_ii, sub_ii, outR, outOk, outs, ownS, isNo, isLstS, List.replicate, eCallD, callM, okAr, arS, putO, rV, rO, rNil, tName, tTupl, tsCons, tsNil, eLc, lcL, iSeq, seqD, qYes, noOwn, isOwn, wipeE, backE, sl24, s, d, nn, F]
theorem s_take (h : Bd p q t b) : m_take [.v (F p q), .v (F t b)] = .ok (F ((p * b - t * q) / gg p q t b) (fb p q t b)) [.no, .no] := by
  have m1 := ml2 (i := t) (j := q) (by have := h.ht; omega) (by have := h.q0; have := h.hq; omega)
  have m2 := ml2 (i := p) (j := b) (by have := h.hp; omega) (by have := h.b1; have := h.hb; omega)
  have m3 := ml2 (i := q) (j := b) (by have := h.q0; have := h.hq; omega) (by have := h.b1; have := h.hb; omega)
  have s := s_lowest (n := p * b - t * q) h.qb0 (by have := h.qb; have := h.qb0; omega)
  have s : m_lowest [.v (.int (p * b - t * q)), .v (.int (q * b))] = .ok (F ((p * b - t * q) / gg p q t b) (fb p q t b)) [.no, .no] := s
  generalize (p * b - t * q) / gg p q t b = N at *
  generalize fb p q t b = M at *
  simp only [F] at *
  simp [m_take, b_take, runM, runF, sSeq, sIf, sRet, sRetF, sSet, sSetO, sSetIx, sAsg, sPar, sNil, sDrop, sRetO, sMut1, oApp, ofRo, Ro.bind, lift, eVar, eC, eOp, eCmp, qCmp, qAnd, qOr, qNot, qTru, eAnd, eOr, eNot, eIf, eNeg, eChain, qChain, eIxV, slotD, dIx, dIxS, isDic, atI, ixN, eCall, aCons, aNil, eTup, eLst, oLen, eLenV, lenD, oInt, eq_ii, lt_ii, gt_ii, ge_ii, le_ii, add_ii, sub_ii, outR, outOk, outs, ownS, isNo, isLstS, List.replicate, eCallD, callM, okAr, arS, putO, rV, rO, rNil, tName, tTupl, tsCons, tsNil, eLc, lcL, iSeq, seqD, qYes, noOwn, isOwn, wipeE, backE, sl24, m1, m2, m3, s]
theorem less_iff {s : Int × Int} (h : Bd p q t b) (hs : Bd p q s.1 s.2) : (fa p q t b * fb p q s.1 s.2 < fa p q s.1 s.2 * fb p q t b) ↔ (dd p q t b * s.2 < dd p q s.1 s.2 * b) := by
  have e1 := h.fam; have e2 := h.fbm; have e3 := hs.fam; have e4 := hs.fbm
  have g1 := h.g0; have g2 := hs.g0
  have q0 := h.q0
  generalize gg p q t b = g at *
  generalize gg p q s.1 s.2 = g' at *
  generalize fa p q t b = A at *
  generalize fb p q t b = B at *
  generalize fa p q s.1 s.2 = A' at *
  generalize fb p q s.1 s.2 = B' at *
  rw [← e1, ← e3]
  have k1 : q * (g * A * s.2) = g * g' * (A * B') := by
    have : q * (g * A * s.2) = g * A * (q * s.2) := by grind
    rw [this, ← e4]
    grind
  have k2 : q * (g' * A' * b) = g * g' * (A' * B) := by
    have : q * (g' * A' * b) = g' * A' * (q * b) := by grind
    rw [this, ← e2]
    grind
  have gp : 0 < g * g' := Int.mul_pos g1 g2
  constructor
  · intro k
    have := Int.mul_lt_mul_of_pos_left k gp
    rw [← k1, ← k2] at this
    exact Int.lt_of_mul_lt_mul_left this (Int.le_of_lt q0)
  · intro k
    have := Int.mul_lt_mul_of_pos_left k q0
    rw [k1, k2] at this
    exact Int.lt_of_mul_lt_mul_left this (Int.le_of_lt gp)
theorem Bd.fabd (h : Bd p q t b) : 0 ≤ fa p q t b ∧ fa p q t b ≤ 2000000000000000000000000 ∧ 0 ≤ fb p q t b ∧ fb p q t b ≤ 1000000000000 := by
  have e1 := h.fam; have e2 := h.fbm; have g0 := h.g0; have d := h.dd; have dn := dd_nn p q t b
  have q1 := h.qb; have q2 := h.qb0
  have f0 : 0 ≤ fa p q t b := by unfold fa; omega
  have b0 : 0 ≤ fb p q t b := by
    refine Int.not_lt.mp fun hc => ?_
    have := Int.mul_neg_of_pos_of_neg g0 hc
    omega
  have k1 := Int.mul_le_mul_of_nonneg_right (show 1 ≤ gg p q t b by omega) f0
  have k2 := Int.mul_le_mul_of_nonneg_right (show 1 ≤ gg p q t b by omega) b0
  refine ⟨f0, by omega, b0, by omega⟩
theorem s_less {s : Int × Int} (h : Bd p q t b) (hs : Bd p q s.1 s.2) : m_is_less [.v (F (fa p q t b) (fb p q t b)), .v (F (fa p q s.1 s.2) (fb p q s.1 s.2))] = .ok (.bl (decide (dd p q t b * s.2 < dd p q s.1 s.2 * b))) [.no, .no] := by
  have l := less_iff h hs
  have b1 := h.fabd
  have b2 := hs.fabd
  have m1 := mul_ii (i := fa p q t b) (j := fb p q s.1 s.2) (by rw [BD_eq]; omega) (by rw [BD_eq]; omega)
  have m2 := mul_ii (i := fa p q s.1 s.2) (j := fb p q t b) (by rw [BD_eq]; omega) (by rw [BD_eq]; omega)
  have e : decide (dd p q t b * s.2 < dd p q s.1 s.2 * b) = decide (fa p q t b * fb p q s.1 s.2 < fa p q s.1 s.2 * fb p q t b) := decide_eq_decide.mpr l.symm
  rw [e]
  simp [m_is_less, b_is_less, runM, runF, sSeq, sIf, sRet, sRetF, sSet, sSetO, sSetIx, sAsg, sPar, sNil, sDrop, sRetO, sMut1, oApp, ofRo, Ro.bind, lift, eVar, eC, eOp, eCmp, qCmp, qAnd, qOr, qNot, qTru, eAnd, eOr, eNot, eIf, eNeg, eChain, qChain, eIxV, slotD, dIx, dIxS, isDic, atI, ixN, eCall, aCons, aNil, eTup, eLst, oLen, eLenV, lenD, oInt, eq_ii, lt_ii, gt_ii, ge_ii, le_ii, add_ii, sub_ii, outR, outOk, outs, ownS, isNo, isLstS, List.replicate, eCallD, callM, okAr, arS, putO, rV, rO, rNil, tName, tTupl, tsCons, tsNil, eLc, lcL, iSeq, seqD, qYes, noOwn, isOwn, wipeE, backE, sl24, F, m1, m2]
theorem pstep_skip {x1 x2 x4 x6 : Slot} (h : Bd p q t b) (g : Int.gcd t b ≠ 1) : lb1_best_below [.v (F p q), x1, x2, .v (.int b), x4, .v (.int t), x6] = .nx [.v (F p q), x1, x2, .v (.int b), x4, .v (.int t), x6] := by
  have s := s_divisor (a := t) (b := b) (by have := h.b1; have := h.hb; omega)
  have g' : ¬ ((Int.gcd t b : Nat) : Int) = 1 := by omega
  generalize Int.gcd t b = G at *
  generalize F p q = X at *
  simp [lb1_best_below, runM, runF, sSeq, sIf, sRet, sRetF, sSet, sSetO, sSetIx, sAsg, sPar, sNil, sDrop, sRetO, sMut1, oApp, ofRo, Ro.bind, lift, eVar, eC, eOp, eCmp, qCmp, qAnd, qOr, qNot, qTru, eAnd, eOr, eNot, eIf, eNeg, eChain, qChain, eIxV, slotD, dIx, dIxS, isDic, atI, ixN, eCall, aCons, aNil, eTup, eLst, oLen, eLenV, lenD, oInt, eq_ii, lt_ii, gt_ii, ge_ii, le_ii, add_ii, sub_ii, outR, outOk, outs, ownS, isNo, isLstS, List.replicate, eCallD, callM, okAr, arS, putO, rV, rO, rNil, tName, tTupl, tsCons, tsNil, eLc, lcL, iSeq, seqD, qYes, noOwn, isOwn, wipeE, backE, sl24, s, g']
theorem pstep_none {x1 x4 x6 : Slot} (h : Bd p q t b) (g : Int.gcd t b = 1) : ∃ y6, lb1_best_below [.v (F p q), x1, .v .non, .v (.int b), x4, .v (.int t), x6] = .nx [.v (F p q), x1, .v (pB p q (some (t, b))), .v (.int b), x4, .v (.int t), y6] := by
  have s := s_divisor (a := t) (b := b) (by have := h.b1; have := h.hb; omega)
  rw [g] at s
  have s : m_divisor [.v (.int t), .v (.int b)] = .ok (.int 1) [.no, .no] := s
  have tk := s_take h
  have a : oAbs [.int ((p * b - t * q) / gg p q t b)] = some (.int (fa p q t b)) := abs_nat _
  have isn : bIsN .non .non = some true := by kernel_rfl
  have ep : pB p q (some (t, b)) = .tup [F (fa p q t b) (fb p q t b), F t b] := rfl
  refine ⟨.v (F (fa p q t b) (fb p q t b)), ?_⟩
  rw [ep]
  generalize (p * b - t * q) / gg p q t b = N at *
  generalize fa p q t b = A at *
  generalize fb p q t b = B at *
  simp only [F] at *
  simp [lb1_best_below, runM, runF, sSeq, sIf, sRet, sRetF, sSet, sSetO, sSetIx, sAsg, sPar, sNil, sDrop, sRetO, sMut1, oApp, ofRo, Ro.bind, lift, eVar, eC, eOp, eCmp, qCmp, qAnd, qOr, qNot, qTru, eAnd, eOr, eNot, eIf, eNeg, eChain, qChain, eIxV, slotD, dIx, dIxS, isDic, atI, ixN, eCall, aCons, aNil, eTup, eLst, oLen, eLenV, lenD, oInt, eq_ii, lt_ii, gt_ii, ge_ii, le_ii, add_ii, sub_ii, outR, outOk, outs, ownS, isNo, isLstS, List.replicate, eCallD, callM, okAr, arS, putO, rV, rO, rNil, tName, tTupl, tsCons, tsNil, eLc, lcL, iSeq, seqD, qYes, noOwn, isOwn, wipeE, backE, sl24, s, tk, a, isn]
theorem pstep_some {x1 x4 x6 : Slot} {s : Int × Int} (h : Bd p q t b) (hs : Bd p q s.1 s.2) (g : Int.gcd t b = 1) : ∃ y6, lb1_best_below [.v (F p q), x1, .v (pB p q (some s)), .v (.int b), x4, .v (.int t), x6] = .nx [.v (F p q), x1, .v (if dd p q t b * s.2 < dd p q s.1 s.2 * b then pB p q (some (t, b)) else pB p q (some s)), .v (.int b), x4, .v (.int t), y6] := by
  have s1 := s_divisor (a := t) (b := b) (by have := h.b1; have := h.hb; omega)
  rw [g] at s1
  have s1 : m_divisor [.v (.int t), .v (.int b)] = .ok (.int 1) [.no, .no] := s1
  have tk := s_take h
  have a : oAbs [.int ((p * b - t * q) / gg p q t b)] = some (.int (fa p q t b)) := abs_nat _
  have isn : ∀ x y : D, bIsN (.tup [x, y]) .non = some false := fun x y => by kernel_rfl
  have l := s_less h hs
  have ep : pB p q (some (t, b)) = .tup [F (fa p q t b) (fb p q t b), F t b] := rfl
  have es : pB p q (some s) = .tup [F (fa p q s.1 s.2) (fb p q s.1 s.2), F s.1 s.2] := rfl
  refine ⟨.v (F (fa p q t b) (fb p q t b)), ?_⟩
  rw [ep, es]
  by_cases c : dd p q t b * s.2 < dd p q s.1 s.2 * b
  · rw [if_pos c]
    rw [decide_eq_true c] at l
    generalize (p * b - t * q) / gg p q t b = N at *
    generalize fa p q t b = A at *
    generalize fb p q t b = B at *
    generalize fa p q s.1 s.2 = A' at *
    generalize fb p q s.1 s.2 = B' at *
    simp only [F] at *
    simp [lb1_best_below, runM, runF, sSeq, sIf, sRet, sRetF, sSet, sSetO, sSetIx, sAsg, sPar, sNil, sDrop, sRetO, sMut1, oApp, ofRo, Ro.bind, lift, eVar, eC, eOp, eCmp, qCmp, qAnd, qOr, qNot, qTru, eAnd, eOr, eNot, eIf, eNeg, eChain, qChain, eIxV, slotD, dIx, dIxS, isDic, atI, ixN, eCall, aCons, aNil, eTup, eLst, oLen, eLenV, lenD, oInt, eq_ii, lt_ii, gt_ii, ge_ii, le_ii, add_ii, sub_ii, outR, outOk, outs, ownS, isNo, isLstS, List.replicate, eCallD, callM, okAr, arS, putO, rV, rO, rNil, tName, tTupl, tsCons, tsNil, eLc, lcL, iSeq, seqD, qYes, noOwn, isOwn, wipeE, backE, sl24, s1, tk, a, isn, l, truD]
  · rw [if_neg c]
    rw [decide_eq_false c] at l
    generalize (p * b - t * q) / gg p q t b = N at *
    generalize fa p q t b = A at *
    generalize fb p q t b = B at *
    generalize fa p q s.1 s.2 = A' at *
    generalize fb p q s.1 s.2 = B' at *
    simp only [F] at *
    simp [lb1_best_below, runM, runF, sSeq, sIf, sRet, sRetF, sSet, sSetO, sSetIx, sAsg, sPar, sNil, sDrop, sRetO, sMut1, oApp, ofRo, Ro.bind, lift, eVar, eC, eOp, eCmp, qCmp, qAnd, qOr, qNot, qTru, eAnd, eOr, eNot, eIf, eNeg, eChain, qChain, eIxV, slotD, dIx, dIxS, isDic, atI, ixN, eCall, aCons, aNil, eTup, eLst, oLen, eLenV, lenD, oInt, eq_ii, lt_ii, gt_ii, ge_ii, le_ii, add_ii, sub_ii, outR, outOk, outs, ownS, isNo, isLstS, List.replicate, eCallD, callM, okAr, arS, putO, rV, rO, rNil, tName, tTupl, tsCons, tsNil, eLc, lcL, iSeq, seqD, qYes, noOwn, isOwn, wipeE, backE, sl24, s1, tk, a, isn, l, truD]
end
end K02

namespace K02
open PySem L2 LamX Rf
section
variable {p q : Int}
theorem cand_bd {t b : Int} (k : Fr p q) (h1 : 1 ≤ b) (h2 : b ≤ 1000) (hc : isC p q t b) : Bd p q t b := by
  have pb : (p * b).natAbs ≤ 1000000000 * 1000 := by
    rw [Int.natAbs_mul]
    exact Nat.mul_le_mul k.ab (by omega)
  have l := q_abs (t := p * b) (b := q) (B := 1000000000000) k.q0 (by decide) (by omega)
  have l : (lo p q b).natAbs ≤ 1000000000000 := by unfold lo; omega
  refine ⟨k.ab, k.q0, k.qb, h1, h2, ?_⟩
  rcases hc with rfl | rfl <;> omega
theorem cand {n : Int} {s : Int × Int} (k : Fr p q) (h : Ok p q n s) (hs : s.2 ≤ 1000) {t : Int} (h0 : 0 ≤ n) (hn : n + 1 ≤ 1000) (hc : isC p q t (n + 1)) : ∃ s', upd p q (some s) (t, n + 1) = some s' ∧ Ok p q n s' ∧ s'.2 ≤ 1000 ∧ (∀ x1 x5 x7 : Slot, ∃ y7, lb1__law_best [.v (F p q), x1, .v (.int (n + 1)), .v (lB (some s)), .v (lG p q (some s)), x5, .v (.int t), x7] = .nx [.v (F p q), x1, .v (.int (n + 1)), .v (lB (some s')), .v (lG p q (some s')), x5, .v (.int t), y7]) ∧
    ∀ x1 x4 x6 : Slot, ∃ y6, lb1_best_below [.v (F p q), x1, .v (pB p q (some s)), .v (.int (n + 1)), x4, .v (.int t), x6] = .nx [.v (F p q), x1, .v (pB p q (some s')), .v (.int (n + 1)), x4, .v (.int t), y6] := by
  obtain ⟨s', e, o, _, _, c⟩ := upd_ok k.q0 h (t := t) (b := n + 1) (by omega) rfl hc
  have b1 := cand_bd k (by omega) hn hc
  have b2 := cand_bd k h.b1 hs h.c
  by_cases hl : dd p q t (n + 1) * s.2 < dd p q s.1 s.2 * (n + 1)
  · rw [if_pos hl] at c
    obtain ⟨rfl, g⟩ := c
    refine ⟨_, e, o, hn, fun x1 x5 x7 => ⟨.v (F (dd p q t (n + 1)) ((n + 1) * q)), ?_⟩, fun x1 x4 x6 => ?_⟩
    · have := lstep_some (x0 := .no) (x1 := x1) (x5 := x5) (x7 := x7) b1 b2 fun _ => g
      rw [if_pos hl, if_pos hl] at this
      exact this
    · obtain ⟨y6, this⟩ := pstep_some (x1 := x1) (x4 := x4) (x6 := x6) b1 b2 g
      rw [if_pos hl] at this
      exact ⟨y6, this⟩
  · rw [if_neg hl] at c
    subst c
    refine ⟨_, e, o, hs, fun x1 x5 x7 => ⟨.v (F (dd p q t (n + 1)) ((n + 1) * q)), ?_⟩, fun x1 x4 x6 => ?_⟩
    · have := lstep_some (x0 := .no) (x1 := x1) (x5 := x5) (x7 := x7) b1 b2 fun c => absurd c hl
      rw [if_neg hl, if_neg hl] at this
      exact this
    · by_cases g : Int.gcd t (n + 1) = 1
      · obtain ⟨y6, this⟩ := pstep_some (x1 := x1) (x4 := x4) (x6 := x6) b1 b2 g
        rw [if_neg hl] at this
        exact ⟨y6, this⟩
      · exact ⟨x6, pstep_skip b1 g⟩
theorem low_l {x1 x3 x4 x5 x6 x7 : Slot} {b : Int} (k : Fr p q) (h1 : 1 ≤ b) (h2 : b ≤ 1000) : sSet 5 (eOp dDiv (eOp dMul (eIxV 0 (eC (.int 0))) (eVar 2)) (eIxV 0 (eC (.int 1)))) [.v (F p q), x1, .v (.int b), x3, x4, x5, x6, x7] = .nx [.v (F p q), x1, .v (.int b), x3, x4, .v (.int (lo p q b)), x6, x7] := by
  have m := ml2 (i := p) (j := b) (by have := k.ab; omega) (by omega)
  have d := dv (i := p * b) k.q0 k.qb
  unfold lo
  simp [runM, runF, sSeq, sIf, sRet, sRetF, sSet, sSetO, sSetIx, sAsg, sPar, sNil, sDrop, sRetO, sMut1, oApp, ofRo, Ro.bind, lift, eVar, eC, eOp, eCmp, qCmp, qAnd, qOr, qNot, qTru, eAnd, eOr, eNot, eIf, eNeg, eChain, qChain, eIxV, slotD, dIx, dIxS, isDic, atI, ixN, eCall, aCons, aNil, eTup, eLst, oLen, eLenV, lenD, oInt, eq_ii, lt_ii, gt_ii, ge_ii, le_ii, add_ii, sub_ii, outR, outOk, outs, ownS, isNo, isLstS, List.replicate, eCallD, callM, okAr, arS, putO, rV, rO, rNil, tName, tTupl, tsCons, tsNil, eLc, lcL, iSeq, seqD, qYes, noOwn, isOwn, wipeE, backE, sl24, F, m, d]
theorem low_p {x1 x2 x4 x5 x6 : Slot} {b : Int} (k : Fr p q) (h1 : 1 ≤ b) (h2 : b ≤ 1000) : sSet 4 (eOp dDiv (eOp dMul (eIxV 0 (eC (.int 0))) (eVar 3)) (eIxV 0 (eC (.int 1)))) [.v (F p q), x1, x2, .v (.int b), x4, x5, x6] = .nx [.v (F p q), x1, x2, .v (.int b), .v (.int (lo p q b)), x5, x6] := by
  have m := ml2 (i := p) (j := b) (by have := k.ab; omega) (by omega)
  have d := dv (i := p * b) k.q0 k.qb
  unfold lo
  simp [runM, runF, sSeq, sIf, sRet, sRetF, sSet, sSetO, sSetIx, sAsg, sPar, sNil, sDrop, sRetO, sMut1, oApp, ofRo, Ro.bind, lift, eVar, eC, eOp, eCmp, qCmp, qAnd, qOr, qNot, qTru, eAnd, eOr, eNot, eIf, eNeg, eChain, qChain, eIxV, slotD, dIx, dIxS, isDic, atI, ixN, eCall, aCons, aNil, eTup, eLst, oLen, eLenV, lenD, oInt, eq_ii, lt_ii, gt_ii, ge_ii, le_ii, add_ii, sub_ii, outR, outOk, outs, ownS, isNo, isLstS, List.replicate, eCallD, callM, okAr, arS, putO, rV, rO, rNil, tName, tTupl, tsCons, tsNil, eLc, lcL, iSeq, seqD, qYes, noOwn, isOwn, wipeE, backE, sl24, F, m, d]
theorem two_l {x1 x3 x4 x6 x7 : Slot} {b l : Int} : iSeq (eTup (aCons (eVar 5) (aCons (eOp dAdd (eVar 5) (eC (.int 1))) (aNil)))) [.v (F p q), x1, .v (.int b), x3, x4, .v (.int l), x6, x7] = .ok [.int l, .int (l + 1)] [.v (F p q), x1, .v (.int b), x3, x4, .v (.int l), x6, x7] := by
  simp [runM, runF, sSeq, sIf, sRet, sRetF, sSet, sSetO, sSetIx, sAsg, sPar, sNil, sDrop, sRetO, sMut1, oApp, ofRo, Ro.bind, lift, eVar, eC, eOp, eCmp, qCmp, qAnd, qOr, qNot, qTru, eAnd, eOr, eNot, eIf, eNeg, eChain, qChain, eIxV, slotD, dIx, dIxS, isDic, atI, ixN, eCall, aCons, aNil, eTup, eLst, oLen, eLenV, lenD, oInt, eq_ii, lt_ii, gt_ii, ge_ii, le_ii, add_ii, sub_ii, outR, outOk, outs, ownS, isNo, isLstS, List.replicate, eCallD, callM, okAr, arS, putO, rV, rO, rNil, tName, tTupl, tsCons, tsNil, eLc, lcL, iSeq, seqD, qYes, noOwn, isOwn, wipeE, backE, sl24]
theorem two_p {x1 x2 x5 x6 : Slot} {b l : Int} : iSeq (eTup (aCons (eVar 4) (aCons (eOp dAdd (eVar 4) (eC (.int 1))) (aNil)))) [.v (F p q), x1, x2, .v (.int b), .v (.int l), x5, x6] = .ok [.int l, .int (l + 1)] [.v (F p q), x1, x2, .v (.int b), .v (.int l), x5, x6] := by
  simp [runM, runF, sSeq, sIf, sRet, sRetF, sSet, sSetO, sSetIx, sAsg, sPar, sNil, sDrop, sRetO, sMut1, oApp, ofRo, Ro.bind, lift, eVar, eC, eOp, eCmp, qCmp, qAnd, qOr, qNot, qTru, eAnd, eOr, eNot, eIf, eNeg, eChain, qChain, eIxV, slotD, dIx, dIxS, isDic, atI, ixN, eCall, aCons, aNil, eTup, eLst, oLen, eLenV, lenD, oInt, eq_ii, lt_ii, gt_ii, ge_ii, le_ii, add_ii, sub_ii, outR, outOk, outs, ownS, isNo, isLstS, List.replicate, eCallD, callM, okAr, arS, putO, rV, rO, rNil, tName, tTupl, tsCons, tsNil, eLc, lcL, iSeq, seqD, qYes, noOwn, isOwn, wipeE, backE, sl24]
theorem body {n : Int} {s : Int × Int} (k : Fr p q) (h : Ok p q n s) (hs : s.2 ≤ 1000) (h0 : 0 ≤ n) (hn : n + 1 ≤ 1000) : ∃ s', Ok p q (n + 1) s' ∧ s'.2 ≤ 1000 ∧ (∀ x1 x5 x6 x7 : Slot, ∃ y5 y6 y7, lb2__law_best [.v (F p q), x1, .v (.int (n + 1)), .v (lB (some s)), .v (lG p q (some s)), x5, x6, x7] = .nx [.v (F p q), x1, .v (.int (n + 1)), .v (lB (some s')), .v (lG p q (some s')), y5, y6, y7]) ∧
    ∀ x1 x4 x5 x6 : Slot, ∃ y4 y5 y6, lb2_best_below [.v (F p q), x1, .v (pB p q (some s)), .v (.int (n + 1)), x4, x5, x6] = .nx [.v (F p q), x1, .v (pB p q (some s')), .v (.int (n + 1)), y4, y5, y6] := by
  obtain ⟨s1, e1, o1, b1, l1, p1⟩ := cand k h hs h0 hn (.inl rfl)
  obtain ⟨s2, e2, o2, b2, l2, p2⟩ := cand k o1 b1 h0 hn (.inr rfl)
  obtain ⟨s3, e3, o3⟩ := step_ok k.q0 h h0
  have : s3 = s2 := by
    unfold step at e3
    rw [e1, e2] at e3
    exact (Option.some.inj e3).symm
  subst this
  refine ⟨_, o3, b2, fun x1 x5 x6 x7 => ?_, fun x1 x4 x5 x6 => ?_⟩
  · obtain ⟨y7, q1⟩ := l1 x1 (.v (.int (lo p q (n + 1)))) x7
    obtain ⟨z7, q2⟩ := l2 x1 (.v (.int (lo p q (n + 1)))) y7
    refine ⟨.v (.int (lo p q (n + 1))), .v (.int (lo p q (n + 1) + 1)), z7, ?_⟩
    exact (seq_nx (low_l k (by omega) hn)).trans ((sFor_of two_l).trans (show forL (tName 6) lb1__law_best [.int (lo p q (n + 1)), .int (lo p q (n + 1) + 1)] [.v (F p q), x1, .v (.int (n + 1)), .v (lB (some s)), .v (lG p q (some s)), .v (.int (lo p q (n + 1))), x6, x7] = _ from by
      have t1 : tName 6 (.int (lo p q (n + 1))) [.v (F p q), x1, .v (.int (n + 1)), .v (lB (some s)), .v (lG p q (some s)), .v (.int (lo p q (n + 1))), x6, x7] = some [.v (F p q), x1, .v (.int (n + 1)), .v (lB (some s)), .v (lG p q (some s)), .v (.int (lo p q (n + 1))), .v (.int (lo p q (n + 1))), x7] := rfl
      have t2 : tName 6 (.int (lo p q (n + 1) + 1)) [.v (F p q), x1, .v (.int (n + 1)), .v (lB (some s1)), .v (lG p q (some s1)), .v (.int (lo p q (n + 1))), .v (.int (lo p q (n + 1))), y7] = some [.v (F p q), x1, .v (.int (n + 1)), .v (lB (some s1)), .v (lG p q (some s1)), .v (.int (lo p q (n + 1))), .v (.int (lo p q (n + 1) + 1)), y7] := rfl
      simp only [forL, t1, q1, t2, q2]))
  · obtain ⟨y6, q1⟩ := p1 x1 (.v (.int (lo p q (n + 1)))) x6
    obtain ⟨z6, q2⟩ := p2 x1 (.v (.int (lo p q (n + 1)))) y6
    refine ⟨.v (.int (lo p q (n + 1))), .v (.int (lo p q (n + 1) + 1)), z6, ?_⟩
    exact (seq_nx (low_p k (by omega) hn)).trans ((sFor_of two_p).trans (show forL (tName 5) lb1_best_below [.int (lo p q (n + 1)), .int (lo p q (n + 1) + 1)] [.v (F p q), x1, .v (pB p q (some s)), .v (.int (n + 1)), .v (.int (lo p q (n + 1))), x5, x6] = _ from by
      have t1 : tName 5 (.int (lo p q (n + 1))) [.v (F p q), x1, .v (pB p q (some s)), .v (.int (n + 1)), .v (.int (lo p q (n + 1))), x5, x6] = some [.v (F p q), x1, .v (pB p q (some s)), .v (.int (n + 1)), .v (.int (lo p q (n + 1))), .v (.int (lo p q (n + 1))), x6] := rfl
      have t2 : tName 5 (.int (lo p q (n + 1) + 1)) [.v (F p q), x1, .v (pB p q (some s1)), .v (.int (n + 1)), .v (.int (lo p q (n + 1))), .v (.int (lo p q (n + 1))), y6] = some [.v (F p q), x1, .v (pB p q (some s1)), .v (.int (n + 1)), .v (.int (lo p q (n + 1))), .v (.int (lo p q (n + 1) + 1)), y6] := rfl
      simp only [forL, t1, q1, t2, q2]))
theorem body1 (k : Fr p q) : ∃ s', Ok p q 1 s' ∧ s'.2 ≤ 1000 ∧ (∀ x1 x5 x6 x7 : Slot, ∃ y5 y6 y7, lb2__law_best [.v (F p q), x1, .v (.int 1), .v .non, .v .non, x5, x6, x7] = .nx [.v (F p q), x1, .v (.int 1), .v (lB (some s')), .v (lG p q (some s')), y5, y6, y7]) ∧
    ∀ x1 x4 x5 x6 : Slot, ∃ y4 y5 y6, lb2_best_below [.v (F p q), x1, .v .non, .v (.int 1), x4, x5, x6] = .nx [.v (F p q), x1, .v (pB p q (some s')), .v (.int 1), y4, y5, y6] := by
  obtain ⟨s3, e3, o3, s1, e1, rfl, o1⟩ := step_one (p := p) k.q0
  have bd1 := cand_bd (t := lo p q 1) (b := 1) k (by decide) (by decide) (.inl rfl)
  have g1 : Int.gcd (lo p q 1) 1 = 1 := by simp
  obtain ⟨s2, e2, o2, b2, l2, p2⟩ := cand k o1 (show (1 : Int) ≤ 1000 by decide) (by decide) (by decide) (.inr rfl)
  have e2' : upd p q (some (lo p q 1, 1)) (lo p q 1 + 1, 1) = some s2 := e2
  have : s3 = s2 := by
    unfold step at e3
    rw [e1, e2'] at e3
    exact (Option.some.inj e3).symm
  subst this
  refine ⟨_, o3, b2, fun x1 x5 x6 x7 => ?_, fun x1 x4 x5 x6 => ?_⟩
  · have q1 := lstep_none (x0 := .no) (x1 := x1) (x5 := .v (.int (lo p q 1))) (x7 := x7) bd1 g1
    obtain ⟨z7, q2⟩ := l2 x1 (.v (.int (lo p q 1))) (.v (F (dd p q (lo p q 1) 1) (1 * q)))
    refine ⟨.v (.int (lo p q 1)), .v (.int (lo p q 1 + 1)), z7, ?_⟩
    exact (seq_nx (low_l k (by decide) (by decide))).trans ((sFor_of two_l).trans (show forL (tName 6) lb1__law_best [.int (lo p q 1), .int (lo p q 1 + 1)] [.v (F p q), x1, .v (.int 1), .v .non, .v .non, .v (.int (lo p q 1)), x6, x7] = _ from by
      have t1 : tName 6 (.int (lo p q 1)) [.v (F p q), x1, .v (.int 1), .v .non, .v .non, .v (.int (lo p q 1)), x6, x7] = some [.v (F p q), x1, .v (.int 1), .v .non, .v .non, .v (.int (lo p q 1)), .v (.int (lo p q 1)), x7] := rfl
      have t2 : tName 6 (.int (lo p q 1 + 1)) [.v (F p q), x1, .v (.int 1), .v (F (lo p q 1) 1), .v (F (dd p q (lo p q 1) 1) (1 * q)), .v (.int (lo p q 1)), .v (.int (lo p q 1)), .v (F (dd p q (lo p q 1) 1) (1 * q))] = some [.v (F p q), x1, .v (.int 1), .v (F (lo p q 1) 1), .v (F (dd p q (lo p q 1) 1) (1 * q)), .v (.int (lo p q 1)), .v (.int (lo p q 1 + 1)), .v (F (dd p q (lo p q 1) 1) (1 * q))] := rfl
      have q2' : lb1__law_best [.v (F p q), x1, .v (.int 1), .v (F (lo p q 1) 1), .v (F (dd p q (lo p q 1) 1) (1 * q)), .v (.int (lo p q 1)), .v (.int (lo p q 1 + 1)), .v (F (dd p q (lo p q 1) 1) (1 * q))] = _ := q2
      simp only [forL, t1, q1, t2, q2']
      rfl))
  · obtain ⟨y6, q1⟩ := pstep_none (x1 := x1) (x4 := .v (.int (lo p q 1))) (x6 := x6) bd1 g1
    obtain ⟨z6, q2⟩ := p2 x1 (.v (.int (lo p q 1))) y6
    refine ⟨.v (.int (lo p q 1)), .v (.int (lo p q 1 + 1)), z6, ?_⟩
    exact (seq_nx (low_p k (by decide) (by decide))).trans ((sFor_of two_p).trans (show forL (tName 5) lb1_best_below [.int (lo p q 1), .int (lo p q 1 + 1)] [.v (F p q), x1, .v .non, .v (.int 1), .v (.int (lo p q 1)), x5, x6] = _ from by
      have t1 : tName 5 (.int (lo p q 1)) [.v (F p q), x1, .v .non, .v (.int 1), .v (.int (lo p q 1)), x5, x6] = some [.v (F p q), x1, .v .non, .v (.int 1), .v (.int (lo p q 1)), .v (.int (lo p q 1)), x6] := rfl
      have t2 : tName 5 (.int (lo p q 1 + 1)) [.v (F p q), x1, .v (pB p q (some (lo p q 1, 1))), .v (.int 1), .v (.int (lo p q 1)), .v (.int (lo p q 1)), y6] = some [.v (F p q), x1, .v (pB p q (some (lo p q 1, 1))), .v (.int 1), .v (.int (lo p q 1)), .v (.int (lo p q 1 + 1)), y6] := rfl
      have q2' : lb1_best_below [.v (F p q), x1, .v (pB p q (some (lo p q 1, 1))), .v (.int 1), .v (.int (lo p q 1)), .v (.int (lo p q 1 + 1)), y6] = _ := q2
      simp only [forL, t1, q1, t2, q2']
      rfl))
theorem loops (k : Fr p q) : ∀ (r : Nat) (n : Int) (s : Int × Int), Ok p q n s → s.2 ≤ 1000 → 0 ≤ n → n + r ≤ 1000 → ∃ s', Ok p q (n + r) s' ∧ s'.2 ≤ 1000 ∧ (∀ x1 x2 x5 x6 x7 : Slot, ∃ y2 y5 y6 y7, forL (tName 2) lb2__law_best (rng (n + 1) r) [.v (F p q), x1, x2, .v (lB (some s)), .v (lG p q (some s)), x5, x6, x7] = .nx [.v (F p q), x1, y2, .v (lB (some s')), .v (lG p q (some s')), y5, y6, y7]) ∧
    ∀ x1 x3 x4 x5 x6 : Slot, ∃ y3 y4 y5 y6, forL (tName 3) lb2_best_below (rng (n + 1) r) [.v (F p q), x1, .v (pB p q (some s)), x3, x4, x5, x6] = .nx [.v (F p q), x1, .v (pB p q (some s')), y3, y4, y5, y6]
  | 0, n, s, h, hs, h0, hn => ⟨s, by simpa using h, hs, fun x1 x2 x5 x6 x7 => ⟨x2, x5, x6, x7, rfl⟩, fun x1 x3 x4 x5 x6 => ⟨x3, x4, x5, x6, rfl⟩⟩
  | r + 1, n, s, h, hs, h0, hn => by
    obtain ⟨s1, o1, b1, l1, p1⟩ := body k h hs h0 (by omega)
    obtain ⟨s2, o2, b2, l2, p2⟩ := loops k r (n + 1) s1 o1 b1 (by omega) (by omega)
    refine ⟨s2, by rw [show n + ((r + 1 : Nat) : Int) = n + 1 + (r : Int) by omega]; exact o2, b2, fun x1 x2 x5 x6 x7 => ?_, fun x1 x3 x4 x5 x6 => ?_⟩
    · obtain ⟨y5, y6, y7, q1⟩ := l1 x1 x5 x6 x7
      obtain ⟨z2, z5, z6, z7, q2⟩ := l2 x1 (.v (.int (n + 1))) y5 y6 y7
      refine ⟨z2, z5, z6, z7, ?_⟩
      have t1 : tName 2 (.int (n + 1)) [.v (F p q), x1, x2, .v (lB (some s)), .v (lG p q (some s)), x5, x6, x7] = some [.v (F p q), x1, .v (.int (n + 1)), .v (lB (some s)), .v (lG p q (some s)), x5, x6, x7] := rfl
      rw [rng_succ, ← q2]
      simp only [forL, t1, q1]
    · obtain ⟨y4, y5, y6, q1⟩ := p1 x1 x4 x5 x6
      obtain ⟨z3, z4, z5, z6, q2⟩ := p2 x1 (.v (.int (n + 1))) y4 y5 y6
      refine ⟨z3, z4, z5, z6, ?_⟩
      have t1 : tName 3 (.int (n + 1)) [.v (F p q), x1, .v (pB p q (some s)), x3, x4, x5, x6] = some [.v (F p q), x1, .v (pB p q (some s)), .v (.int (n + 1)), x4, x5, x6] := rfl
      rw [rng_succ, ← q2]
      simp only [forL, t1, q1]
end
theorem s_above {i m : Int} (h : 1 ≤ i ∧ i ≤ m) : m_check_above [.v (.int i), .v (.int m)] = .ok .non [.no, .no] := by
  have i1 : isiD .i (.int i) = some true := by kernel_rfl
  have i2 : isiD .b (.int i) = some false := by kernel_rfl
  simp [m_check_above, b_check_above, m_is_within, b_is_within, m_is_integer, b_is_integer, runM, runF, sSeq, sIf, sRet, sRetF, sSet, sSetO, sSetIx, sAsg, sPar, sNil, sDrop, sRetO, sMut1, oApp, ofRo, Ro.bind, lift, eVar, eC, eOp, eCmp, qCmp, qAnd, qOr, qNot, qTru, eAnd, eOr, eNot, eIf, eNeg, eChain, qChain, eIxV, slotD, dIx, dIxS, isDic, atI, ixN, eCall, aCons, aNil, eTup, eLst, oLen, eLenV, lenD, oInt, eq_ii, lt_ii, gt_ii, ge_ii, le_ii, add_ii, sub_ii, outR, outOk, outs, ownS, isNo, isLstS, List.replicate, eCallD, callM, okAr, arS, putO, rV, rO, rNil, tName, tTupl, tsCons, tsNil, eLc, lcL, iSeq, seqD, qYes, noOwn, isOwn, wipeE, backE, sl24, eIsi, i1, i2, truD, h.1, h.2]
def st1_best_below : Env' → So := sDrop (eCallD m_check_fraction (rV (eVar 0) (rNil)))
def st2_best_below : Env' → So := sDrop (eCallD m_check_above (rV (eVar 1) (rV (eOp dPow (eC (.int 10)) (eC (.int 4))) (rNil))))
def st3_best_below : Env' → So := sSet 2 (eC .non)
def st4_best_below : Env' → So := sFor (iR2 (eC (.int 1)) (eOp dAdd (eVar 1) (eC (.int 1)))) (tName 3) (lb2_best_below)
def st5_best_below : Env' → So := sRet (eIxV 2 (eC (.int 1)))
theorem ch_best_below : b_best_below = sSeq st1_best_below (sSeq st2_best_below (sSeq st3_best_below (sSeq st4_best_below (st5_best_below)))) := rfl
def st1_law_best : Env' → So := sAsg (tTupl 2 (tsCons (tName 3) (tsCons (tName 4) (tsNil)))) (eTup (aCons (eC .non) (aCons (eC .non) (aNil))))
def st2_law_best : Env' → So := sFor (iR2 (eC (.int 1)) (eOp dAdd (eVar 1) (eC (.int 1)))) (tName 2) (lb2__law_best)
def st3_law_best : Env' → So := sRet (eVar 3)
theorem ch_law_best : b__law_best = sSeq st1_law_best (sSeq st2_law_best (st3_law_best)) := rfl
theorem s_best {p q : Int} (k : Fr p q) {m : Nat} (h1 : 1 ≤ m) (h2 : m ≤ 1000) : ∃ s : Int × Int, m_best_below [.v (F p q), .v (.int (m : Int))] = .ok (F s.1 s.2) [.no, .no] ∧ m__law_best [.v (F p q), .v (.int (m : Int))] = .ok (F s.1 s.2) [.no, .no] ∧ Bd p q s.1 s.2 := by
  obtain ⟨r, rfl⟩ : ∃ r, m = r + 1 := ⟨m - 1, by omega⟩
  obtain ⟨s1, o1, b1, l1, p1⟩ := body1 k
  obtain ⟨s2, o2, b2, l2, p2⟩ := loops k r 1 s1 o1 b1 (by decide) (by omega)
  refine ⟨s2, ?_, ?_, cand_bd k o2.b1 b2 o2.c⟩
  · have c := s_check k
    have c2 := s_above (i := ((r + 1 : Nat) : Int)) (m := 10000) (by omega)
    have ten4 : dPow (.int 10) (.int 4) = some (.int 10000) := by kernel_rfl
    have a1 : st1_best_below [.v (F p q), .v (.int ((r + 1 : Nat) : Int)), .no, .no, .no, .no, .no] = .nx [.v (F p q), .v (.int ((r + 1 : Nat) : Int)), .no, .no, .no, .no, .no] := by
      generalize F p q = X at *
      generalize ((r + 1 : Nat) : Int) = M at *
      simp [st1_best_below, runM, runF, sSeq, sIf, sRet, sRetF, sSet, sSetO, sSetIx, sAsg, sPar, sNil, sDrop, sRetO, sMut1, oApp, ofRo, Ro.bind, lift, eVar, eC, eOp, eCmp, qCmp, qAnd, qOr, qNot, qTru, eAnd, eOr, eNot, eIf, eNeg, eChain, qChain, eIxV, slotD, dIx, dIxS, isDic, atI, ixN, eCall, aCons, aNil, eTup, eLst, oLen, eLenV, lenD, oInt, eq_ii, lt_ii, gt_ii, ge_ii, le_ii, add_ii, sub_ii, outR, outOk, outs, ownS, isNo, isLstS, List.replicate, eCallD, callM, okAr, arS, putO, rV, rO, rNil, tName, tTupl, tsCons, tsNil, eLc, lcL, iSeq, seqD, qYes, noOwn, isOwn, wipeE, backE, sl24, c]
    have a2 : st2_best_below [.v (F p q), .v (.int ((r + 1 : Nat) : Int)), .no, .no, .no, .no, .no] = .nx [.v (F p q), .v (.int ((r + 1 : Nat) : Int)), .no, .no, .no, .no, .no] := by
      generalize F p q = X at *
      generalize ((r + 1 : Nat) : Int) = M at *
      simp [st2_best_below, runM, runF, sSeq, sIf, sRet, sRetF, sSet, sSetO, sSetIx, sAsg, sPar, sNil, sDrop, sRetO, sMut1, oApp, ofRo, Ro.bind, lift, eVar, eC, eOp, eCmp, qCmp, qAnd, qOr, qNot, qTru, eAnd, eOr, eNot, eIf, eNeg, eChain, qChain, eIxV, slotD, dIx, dIxS, isDic, atI, ixN, eCall, aCons, aNil, eTup, eLst, oLen, eLenV, lenD, oInt, eq_ii, lt_ii, gt_ii, ge_ii, le_ii, add_ii, sub_ii, outR, outOk, outs, ownS, isNo, isLstS, List.replicate, eCallD, callM, okAr, arS, putO, rV, rO, rNil, tName, tTupl, tsCons, tsNil, eLc, lcL, iSeq, seqD, qYes, noOwn, isOwn, wipeE, backE, sl24, c2, ten4]
    have a3 : st3_best_below [.v (F p q), .v (.int ((r + 1 : Nat) : Int)), .no, .no, .no, .no, .no] = .nx [.v (F p q), .v (.int ((r + 1 : Nat) : Int)), .v .non, .no, .no, .no, .no] := rfl
    have a4 : iR2 (eC (.int 1)) (eOp dAdd (eVar 1) (eC (.int 1))) [.v (F p q), .v (.int ((r + 1 : Nat) : Int)), .v .non, .no, .no, .no, .no] = .ok (rng 1 (r + 1)) [.v (F p q), .v (.int ((r + 1 : Nat) : Int)), .v .non, .no, .no, .no, .no] := by
      have := iR2_of (f := eC (.int 1)) (g := eOp dAdd (eVar 1) (eC (.int 1))) (E := [.v (F p q), .v (.int ((r + 1 : Nat) : Int)), .v .non, .no, .no, .no, .no]) (E' := [.v (F p q), .v (.int ((r + 1 : Nat) : Int)), .v .non, .no, .no, .no, .no]) (E2 := [.v (F p q), .v (.int ((r + 1 : Nat) : Int)), .v .non, .no, .no, .no, .no]) (i := 1) (j := ((r + 1 : Nat) : Int) + 1) rfl rfl (by decide) (by omega)
      rw [this, show (((r + 1 : Nat) : Int) + 1 - 1).toNat = r + 1 by omega]
    obtain ⟨y4, y5, y6, e1⟩ := p1 (.v (.int ((r + 1 : Nat) : Int))) .no .no .no
    obtain ⟨z3, z4, z5, z6, e2⟩ := p2 (.v (.int ((r + 1 : Nat) : Int))) (.v (.int 1)) y4 y5 y6
    have e3 : forL (tName 3) lb2_best_below (rng 1 (r + 1)) [.v (F p q), .v (.int ((r + 1 : Nat) : Int)), .v .non, .no, .no, .no, .no] = .nx [.v (F p q), .v (.int ((r + 1 : Nat) : Int)), .v (pB p q (some s2)), z3, z4, z5, z6] := by
      have t1 : tName 3 (.int 1) [.v (F p q), .v (.int ((r + 1 : Nat) : Int)), .v .non, .no, .no, .no, .no] = some [.v (F p q), .v (.int ((r + 1 : Nat) : Int)), .v .non, .v (.int 1), .no, .no, .no] := rfl
      rw [rng_succ, ← e2]
      simp only [forL, t1, e1]
    have a5 : st5_best_below [.v (F p q), .v (.int ((r + 1 : Nat) : Int)), .v (pB p q (some s2)), z3, z4, z5, z6] = .ret (F s2.1 s2.2) [.v (F p q), .v (.int ((r + 1 : Nat) : Int)), .v (pB p q (some s2)), z3, z4, z5, z6] := by
      have ep : pB p q (some s2) = .tup [F (fa p q s2.1 s2.2) (fb p q s2.1 s2.2), F s2.1 s2.2] := rfl
      rw [ep]
      generalize F (fa p q s2.1 s2.2) (fb p q s2.1 s2.2) = A
      generalize F s2.1 s2.2 = B
      simp [st5_best_below, runM, runF, sSeq, sIf, sRet, sRetF, sSet, sSetO, sSetIx, sAsg, sPar, sNil, sDrop, sRetO, sMut1, oApp, ofRo, Ro.bind, lift, eVar, eC, eOp, eCmp, qCmp, qAnd, qOr, qNot, qTru, eAnd, eOr, eNot, eIf, eNeg, eChain, qChain, eIxV, slotD, dIx, dIxS, isDic, atI, ixN, eCall, aCons, aNil, eTup, eLst, oLen, eLenV, lenD, oInt, eq_ii, lt_ii, gt_ii, ge_ii, le_ii, add_ii, sub_ii, outR, outOk, outs, ownS, isNo, isLstS, List.replicate, eCallD, callM, okAr, arS, putO, rV, rO, rNil, tName, tTupl, tsCons, tsNil, eLc, lcL, iSeq, seqD, qYes, noOwn, isOwn, wipeE, backE, sl24]
    have hb := (congrFun ch_best_below [.v (F p q), .v (.int ((r + 1 : Nat) : Int)), .no, .no, .no, .no, .no]).trans ((seq_nx a1).trans ((seq_nx a2).trans ((seq_nx a3).trans ((seq_nx ((sFor_of a4).trans e3)).trans a5))))
    exact runM_ret hb rfl rfl rfl rfl
  · have a1 : st1_law_best [.v (F p q), .v (.int ((r + 1 : Nat) : Int)), .no, .no, .no, .no, .no, .no] = .nx [.v (F p q), .v (.int ((r + 1 : Nat) : Int)), .no, .v .non, .v .non, .no, .no, .no] := by
      generalize F p q = X
      generalize ((r + 1 : Nat) : Int) = M
      simp [st1_law_best, runM, runF, sSeq, sIf, sRet, sRetF, sSet, sSetO, sSetIx, sAsg, sPar, sNil, sDrop, sRetO, sMut1, oApp, ofRo, Ro.bind, lift, eVar, eC, eOp, eCmp, qCmp, qAnd, qOr, qNot, qTru, eAnd, eOr, eNot, eIf, eNeg, eChain, qChain, eIxV, slotD, dIx, dIxS, isDic, atI, ixN, eCall, aCons, aNil, eTup, eLst, oLen, eLenV, lenD, oInt, eq_ii, lt_ii, gt_ii, ge_ii, le_ii, add_ii, sub_ii, outR, outOk, outs, ownS, isNo, isLstS, List.replicate, eCallD, callM, okAr, arS, putO, rV, rO, rNil, tName, tTupl, tsCons, tsNil, eLc, lcL, iSeq, seqD, qYes, noOwn, isOwn, wipeE, backE, sl24]
    have a4 : iR2 (eC (.int 1)) (eOp dAdd (eVar 1) (eC (.int 1))) [.v (F p q), .v (.int ((r + 1 : Nat) : Int)), .no, .v .non, .v .non, .no, .no, .no] = .ok (rng 1 (r + 1)) [.v (F p q), .v (.int ((r + 1 : Nat) : Int)), .no, .v .non, .v .non, .no, .no, .no] := by
      have := iR2_of (f := eC (.int 1)) (g := eOp dAdd (eVar 1) (eC (.int 1))) (E := [.v (F p q), .v (.int ((r + 1 : Nat) : Int)), .no, .v .non, .v .non, .no, .no, .no]) (E' := [.v (F p q), .v (.int ((r + 1 : Nat) : Int)), .no, .v .non, .v .non, .no, .no, .no]) (E2 := [.v (F p q), .v (.int ((r + 1 : Nat) : Int)), .no, .v .non, .v .non, .no, .no, .no]) (i := 1) (j := ((r + 1 : Nat) : Int) + 1) rfl rfl (by decide) (by omega)
      rw [this, show (((r + 1 : Nat) : Int) + 1 - 1).toNat = r + 1 by omega]
    obtain ⟨y5, y6, y7, e1⟩ := l1 (.v (.int ((r + 1 : Nat) : Int))) .no .no .no
    obtain ⟨z2, z5, z6, z7, e2⟩ := l2 (.v (.int ((r + 1 : Nat) : Int))) (.v (.int 1)) y5 y6 y7
    have e3 : forL (tName 2) lb2__law_best (rng 1 (r + 1)) [.v (F p q), .v (.int ((r + 1 : Nat) : Int)), .no, .v .non, .v .non, .no, .no, .no] = .nx [.v (F p q), .v (.int ((r + 1 : Nat) : Int)), z2, .v (lB (some s2)), .v (lG p q (some s2)), z5, z6, z7] := by
      have t1 : tName 2 (.int 1) [.v (F p q), .v (.int ((r + 1 : Nat) : Int)), .no, .v .non, .v .non, .no, .no, .no] = some [.v (F p q), .v (.int ((r + 1 : Nat) : Int)), .v (.int 1), .v .non, .v .non, .no, .no, .no] := rfl
      rw [rng_succ, ← e2]
      simp only [forL, t1, e1]
    have hb := (congrFun ch_law_best [.v (F p q), .v (.int ((r + 1 : Nat) : Int)), .no, .no, .no, .no, .no, .no]).trans ((seq_nx a1).trans ((seq_nx ((sFor_of a4).trans e3)).trans (show st3_law_best [.v (F p q), .v (.int ((r + 1 : Nat) : Int)), z2, .v (lB (some s2)), .v (lG p q (some s2)), z5, z6, z7] = .ret (F s2.1 s2.2) [.v (F p q), .v (.int ((r + 1 : Nat) : Int)), z2, .v (lB (some s2)), .v (lG p q (some s2)), z5, z6, z7] from rfl)))
    exact runM_ret hb rfl rfl rfl rfl
end K02

namespace K02
open PySem L2 LamX Rf
/-! ## the chain of a root -/
structure RS where
  a : Int
  b : Int
  h : Int
def rnx (n r : Int) (s : RS) : RS := ⟨s.h * s.b - s.a, (n - (s.h * s.b - s.a) * (s.h * s.b - s.a)) / s.b, (r + (s.h * s.b - s.a)) / ((n - (s.h * s.b - s.a) * (s.h * s.b - s.a)) / s.b)⟩
def inS (s : RS) : Bool := decide (s.a.natAbs ≤ 1000) && decide (0 < s.b) && decide (s.b ≤ 1000) && decide (s.h.natAbs ≤ 1000)
def okS (n r : Int) : Nat → RS → Bool
  | 0, s => inS s
  | k + 1, s => inS s && okS n r k (rnx n r s)
def outS (n r : Int) : Nat → RS → List Int
  | 0, _ => []
  | k + 1, s => (rnx n r s).h :: outS n r k (rnx n r s)
def nxS (n r : Int) : Nat → RS → RS
  | 0, s => s
  | k + 1, s => nxS n r k (rnx n r s)
def okR (n r : Nat) : Bool := n == r * r || okS n r 11 ⟨0, 1, r⟩
def okAll : Bool := (List.range 31).all fun r => (List.range (2 * r + 1)).all fun d => okR (r * r + d) r
theorem okAll_is : okAll = true := by decide +kernel
theorem okR_of {n r : Nat} (h1 : r * r ≤ n) (h2 : n < (r + 1) * (r + 1)) (h3 : n ≤ 900) (h4 : r * r ≠ n) : okS n r 11 ⟨0, 1, r⟩ = true := by
  have hr : r < 31 := by
    refine Nat.not_le.mp fun c => ?_
    have := Nat.mul_le_mul c c
    omega
  have e : (r + 1) * (r + 1) = r * r + 2 * r + 1 := by grind
  have a := okAll_is
  simp only [okAll, List.all_eq_true, List.mem_range] at a
  have a := a r hr (n - r * r) (by omega)
  rw [show r * r + (n - r * r) = n by omega] at a
  have : ¬ n = r * r := fun c => h4 c.symm
  simpa [okR, this] using a
theorem okS_mono {n r : Int} : ∀ {k j : Nat} {s : RS}, okS n r k s = true → j ≤ k → okS n r j s = true
  | 0, 0, s, h, _ => h
  | k + 1, 0, s, h, _ => by simp [okS] at h ⊢; exact h.1
  | 0, j + 1, s, h, hj => absurd hj (by omega)
  | k + 1, j + 1, s, h, hj => by
    simp [okS] at h ⊢
    exact ⟨h.1, okS_mono h.2 (by omega)⟩
structure In (s : RS) : Prop where
  a : s.a.natAbs ≤ 1000
  b0 : 0 < s.b
  b1 : s.b ≤ 1000
  h : s.h.natAbs ≤ 1000
theorem okS_in {n r : Int} : ∀ {k : Nat} {s : RS}, okS n r k s = true → In s
  | 0, s, h => by
    simp [okS, inS] at h
    exact ⟨h.1.1.1, h.1.1.2, h.1.2, h.2⟩
  | k + 1, s, h => by
    simp [okS, inS] at h
    exact ⟨h.1.1.1.1, h.1.1.1.2, h.1.1.2, h.1.2⟩
section
variable {n r : Int} {s : RS} {fd : List Int}
structure Nx (n r : Int) (s : RS) : Prop where
  m1 : dMul (.int s.h) (.int s.b) = some (.int (s.h * s.b))
  m1' : dMul (.int s.b) (.int s.h) = some (.int (s.h * s.b))
  m2 : dMul (.int (rnx n r s).a) (.int (rnx n r s).a) = some (.int ((rnx n r s).a * (rnx n r s).a))
  d1 : dDiv (.int (n - (rnx n r s).a * (rnx n r s).a)) (.int s.b) = some (.int (rnx n r s).b)
  d2 : dDiv (.int (r + (rnx n r s).a)) (.int (rnx n r s).b) = some (.int (rnx n r s).h)
theorem nx_of (h : In s) (h' : In (rnx n r s)) : Nx n r s :=
  ⟨ml (by have := h.h; omega) (by have := h.b0; have := h.b1; omega), by rw [Int.mul_comm]; exact ml (by have := h.b0; have := h.b1; omega) (by have := h.h; omega), ml (by have := h'.a; omega) (by have := h'.a; omega), dv h.b0 (by have := h.b1; omega), dv h'.b0 (by have := h'.b1; omega)⟩
theorem p_step {m : Int} (h : Nx n r s) (hf : fd.length < 1000) : lb2_root_chain [.v (.int n), .v (.int m), .v (.int r), .o (.lst (fd.map D.int)), .v (.int s.a), .v (.int s.b), .v (.int s.h)] = .nx [.v (.int n), .v (.int m), .v (.int r), .o (.lst ((fd ++ [(rnx n r s).h]).map D.int)), .v (.int (rnx n r s).a), .v (.int (rnx n r s).b), .v (.int (rnx n r s).h)] := by
  obtain ⟨m1, m1', m2, d1, d2⟩ := h
  have hz : fd.length < 16777216 := by omega
  have e : s.h * s.b - s.a = (rnx n r s).a := rfl
  generalize rnx n r s = t at *
  generalize s.h * s.b = z at *
  simp [lb2_root_chain, runM, runF, sSeq, sIf, sRet, sRetF, sSet, sSetO, sSetIx, sAsg, sPar, sNil, sDrop, sRetO, sMut1, oApp, ofRo, Ro.bind, lift, eVar, eC, eOp, eCmp, qCmp, qAnd, qOr, qNot, qTru, eAnd, eOr, eNot, eIf, eNeg, eChain, qChain, eIxV, slotD, dIx, dIxS, isDic, atI, ixN, eCall, aCons, aNil, eTup, eLst, oLen, eLenV, lenD, oInt, eq_ii, lt_ii, gt_ii, ge_ii, le_ii, add_ii, sub_ii, outR, outOk, outs, ownS, isNo, isLstS, List.replicate, eCallD, callM, okAr, arS, putO, rV, rO, rNil, tName, tTupl, tsCons, tsNil, eLc, lcL, iSeq, seqD, qYes, noOwn, isOwn, wipeE, backE, sl24, m1, m1', m2, d1, d2, e, hz]
theorem l_step {m : Int} {x3 : Slot} (h : Nx n r s) (hf : fd.length < 1000) : lb3__law_root [.v (.int n), .v (.int m), .v (.int r), x3, .o (.lst (fd.map D.int)), .v (.int s.a), .v (.int s.b), .v (.int s.h)] = .nx [.v (.int n), .v (.int m), .v (.int r), x3, .o (.lst ((fd ++ [(rnx n r s).h]).map D.int)), .v (.int (rnx n r s).a), .v (.int (rnx n r s).b), .v (.int (rnx n r s).h)] := by
  obtain ⟨m1, m1', m2, d1, d2⟩ := h
  have hz : fd.length < 16777216 := by omega
  have e : s.h * s.b - s.a = (rnx n r s).a := rfl
  generalize rnx n r s = t at *
  generalize s.h * s.b = z at *
  simp [lb3__law_root, runM, runF, sSeq, sIf, sRet, sRetF, sSet, sSetO, sSetIx, sAsg, sPar, sNil, sDrop, sRetO, sMut1, oApp, ofRo, Ro.bind, lift, eVar, eC, eOp, eCmp, qCmp, qAnd, qOr, qNot, qTru, eAnd, eOr, eNot, eIf, eNeg, eChain, qChain, eIxV, slotD, dIx, dIxS, isDic, atI, ixN, eCall, aCons, aNil, eTup, eLst, oLen, eLenV, lenD, oInt, eq_ii, lt_ii, gt_ii, ge_ii, le_ii, add_ii, sub_ii, outR, outOk, outs, ownS, isNo, isLstS, List.replicate, eCallD, callM, okAr, arS, putO, rV, rO, rNil, tName, tTupl, tsCons, tsNil, eLc, lcL, iSeq, seqD, qYes, noOwn, isOwn, wipeE, backE, sl24, m1, m1', m2, d1, d2, e, hz]
end
theorem p_loop {n r : Int} (hr : r.natAbs ≤ 1000) (hne : r * r ≠ n) : ∀ (k : Nat) (s : RS) (fd : List Int) (f : Nat), okS n r k s = true → fd.length + k < 1000 → k < f → whileN lq1_root_chain lb2_root_chain f [.v (.int n), .v (.int ((fd.length + k : Nat) : Int)), .v (.int r), .o (.lst (fd.map D.int)), .v (.int s.a), .v (.int s.b), .v (.int s.h)] = .nx [.v (.int n), .v (.int ((fd.length + k : Nat) : Int)), .v (.int r), .o (.lst ((fd ++ outS n r k s).map D.int)), .v (.int (nxS n r k s).a), .v (.int (nxS n r k s).b), .v (.int (nxS n r k s).h)]
  | _, s, fd, 0, _, _, h => absurd h (Nat.not_lt_zero _)
  | 0, s, fd, f + 1, h, hl, hf => by
    have e : bNe (.int (r * r)) (.int n) = some true := by
      show some (!decide (r * r = n)) = _
      simp [hne]
    have m := ml (i := r) (j := r) (by omega) (by omega)
    have q : lq1_root_chain [.v (.int n), .v (.int ((fd.length + 0 : Nat) : Int)), .v (.int r), .o (.lst (fd.map D.int)), .v (.int s.a), .v (.int s.b), .v (.int s.h)] = .ok false [.v (.int n), .v (.int ((fd.length + 0 : Nat) : Int)), .v (.int r), .o (.lst (fd.map D.int)), .v (.int s.a), .v (.int s.b), .v (.int s.h)] := by
      simp [lq1_root_chain, runM, runF, sSeq, sIf, sRet, sRetF, sSet, sSetO, sSetIx, sAsg, sPar, sNil, sDrop, sRetO, sMut1, oApp, ofRo, Ro.bind, lift, eVar, eC, eOp, eCmp, qCmp, qAnd, qOr, qNot, qTru, eAnd, eOr, eNot, eIf, eNeg, eChain, qChain, eIxV, slotD, dIx, dIxS, isDic, atI, ixN, eCall, aCons, aNil, eTup, eLst, oLen, eLenV, lenD, oInt, eq_ii, lt_ii, gt_ii, ge_ii, le_ii, add_ii, sub_ii, outR, outOk, outs, ownS, isNo, isLstS, List.replicate, eCallD, callM, okAr, arS, putO, rV, rO, rNil, tName, tTupl, tsCons, tsNil, eLc, lcL, iSeq, seqD, qYes, noOwn, isOwn, wipeE, backE, sl24, m, e]
    rw [whileN, q]
    simp [ofRo, outS, nxS]
  | k + 1, s, fd, f + 1, h, hl, hf => by
    simp only [okS, Bool.and_eq_true] at h
    have i1 : In s := okS_in (n := n) (r := r) (k := 0) h.1
    have i2 := okS_in h.2
    have st := p_step (m := ((fd.length + (k + 1) : Nat) : Int)) (nx_of i1 i2) (fd := fd) (by omega)
    have ih := p_loop hr hne k (rnx n r s) (fd ++ [(rnx n r s).h]) f h.2 (by simp; omega) (by omega)
    have e : bNe (.int (r * r)) (.int n) = some true := by
      show some (!decide (r * r = n)) = _
      simp [hne]
    have m := ml (i := r) (j := r) (by omega) (by omega)
    have lt : ((fd.length : Nat) : Int) < ((fd.length + (k + 1) : Nat) : Int) := by omega
    have q : lq1_root_chain [.v (.int n), .v (.int ((fd.length + (k + 1) : Nat) : Int)), .v (.int r), .o (.lst (fd.map D.int)), .v (.int s.a), .v (.int s.b), .v (.int s.h)] = .ok true [.v (.int n), .v (.int ((fd.length + (k + 1) : Nat) : Int)), .v (.int r), .o (.lst (fd.map D.int)), .v (.int s.a), .v (.int s.b), .v (.int s.h)] := by
      generalize ((fd.length + (k + 1) : Nat) : Int) = M at *
      simp [lq1_root_chain, runM, runF, sSeq, sIf, sRet, sRetF, sSet, sSetO, sSetIx, sAsg, sPar, sNil, sDrop, sRetO, sMut1, oApp, ofRo, Ro.bind, lift, eVar, eC, eOp, eCmp, qCmp, qAnd, qOr, qNot, qTru, eAnd, eOr, eNot, eIf, eNeg, eChain, qChain, eIxV, slotD, dIx, dIxS, isDic, atI, ixN, eCall, aCons, aNil, eTup, eLst, oLen, eLenV, lenD, oInt, eq_ii, lt_ii, gt_ii, ge_ii, le_ii, add_ii, sub_ii, outR, outOk, outs, ownS, isNo, isLstS, List.replicate, eCallD, callM, okAr, arS, putO, rV, rO, rNil, tName, tTupl, tsCons, tsNil, eLc, lcL, iSeq, seqD, qYes, noOwn, isOwn, wipeE, backE, sl24, m, e, lt]
    have el : (fd ++ [(rnx n r s).h]).length + k = fd.length + (k + 1) := by simp; omega
    rw [el] at ih
    simp only [whileN, ofRo, q, st, outS, nxS]
    rw [ih]
    simp
theorem l_loop {n r m : Int} : ∀ (k : Nat) (lo : Int) (x3 : Slot) (s : RS) (fd : List Int), okS n r k s = true → fd.length + k < 1000 → ∃ y3, forL (tName 3) lb3__law_root (rng lo k) [.v (.int n), .v (.int m), .v (.int r), x3, .o (.lst (fd.map D.int)), .v (.int s.a), .v (.int s.b), .v (.int s.h)] = .nx [.v (.int n), .v (.int m), .v (.int r), y3, .o (.lst ((fd ++ outS n r k s).map D.int)), .v (.int (nxS n r k s).a), .v (.int (nxS n r k s).b), .v (.int (nxS n r k s).h)]
  | 0, lo, x3, s, fd, h, hl => ⟨x3, by simp [rng, forL, outS, nxS]⟩
  | k + 1, lo, x3, s, fd, h, hl => by
    simp only [okS, Bool.and_eq_true] at h
    have i1 : In s := okS_in (n := n) (r := r) (k := 0) h.1
    have i2 := okS_in h.2
    have st := l_step (m := m) (x3 := .v (.int lo)) (nx_of i1 i2) (fd := fd) (by omega)
    obtain ⟨y3, ih⟩ := l_loop (m := m) k (lo + 1) (.v (.int lo)) (rnx n r s) (fd ++ [(rnx n r s).h]) h.2 (by simp; omega)
    refine ⟨y3, ?_⟩
    have t1 : tName 3 (.int lo) [.v (.int n), .v (.int m), .v (.int r), x3, .o (.lst (fd.map D.int)), .v (.int s.a), .v (.int s.b), .v (.int s.h)] = some [.v (.int n), .v (.int m), .v (.int r), .v (.int lo), .o (.lst (fd.map D.int)), .v (.int s.a), .v (.int s.b), .v (.int s.h)] := rfl
    rw [rng_succ]
    simp only [forL, t1, st, ih, outS, nxS]
    simp
/-- the law's own root -/
theorem lr_loop {n : Nat} {x1 x3 x4 x5 x6 x7 : Slot} (hb : n ≤ 1000) : ∀ (k r f : Nat), r * r ≤ n → n < (r + k + 1) * (r + k + 1) → k < f → r + k ≤ 1000 → ∃ h : Nat, whileN lq1__law_root lb2__law_root f [.v (.int (n : Int)), x1, .v (.int (r : Int)), x3, x4, x5, x6, x7] = .nx [.v (.int (n : Int)), x1, .v (.int (h : Int)), x3, x4, x5, x6, x7] ∧ h * h ≤ n ∧ n < (h + 1) * (h + 1)
  | _, r, 0, _, _, h, _ => absurd h (Nat.not_lt_zero _)
  | k, r, f + 1, h1, h2, h3, h4 => by
    have m := ml (i := (r : Int) + 1) (j := (r : Int) + 1) (by omega) (by omega)
    have e : ((r : Int) + 1) * ((r : Int) + 1) ≤ (n : Int) ↔ (r + 1) * (r + 1) ≤ n := by
      rw [← Int.ofNat_le]
      simp
    by_cases c : (r + 1) * (r + 1) ≤ n
    · have q : lq1__law_root [.v (.int (n : Int)), x1, .v (.int (r : Int)), x3, x4, x5, x6, x7] = .ok true [.v (.int (n : Int)), x1, .v (.int (r : Int)), x3, x4, x5, x6, x7] := by
        have c' := e.mpr c
        generalize ((r : Int) + 1) * ((r : Int) + 1) = z at *
        simp [lq1__law_root, runM, runF, sSeq, sIf, sRet, sRetF, sSet, sSetO, sSetIx, sAsg, sPar, sNil, sDrop, sRetO, sMut1, oApp, ofRo, Ro.bind, lift, eVar, eC, eOp, eCmp, qCmp, qAnd, qOr, qNot, qTru, eAnd, eOr, eNot, eIf, eNeg, eChain, qChain, eIxV, slotD, dIx, dIxS, isDic, atI, ixN, eCall, aCons, aNil, eTup, eLst, oLen, eLenV, lenD, oInt, eq_ii, lt_ii, gt_ii, ge_ii, le_ii, add_ii, sub_ii, outR, outOk, outs, ownS, isNo, isLstS, List.replicate, eCallD, callM, okAr, arS, putO, rV, rO, rNil, tName, tTupl, tsCons, tsNil, eLc, lcL, iSeq, seqD, qYes, noOwn, isOwn, wipeE, backE, sl24, m, c']
      have b : lb2__law_root [.v (.int (n : Int)), x1, .v (.int (r : Int)), x3, x4, x5, x6, x7] = .nx [.v (.int (n : Int)), x1, .v (.int ((r + 1 : Nat) : Int)), x3, x4, x5, x6, x7] := by
        simp [lb2__law_root, runM, runF, sSeq, sIf, sRet, sRetF, sSet, sSetO, sSetIx, sAsg, sPar, sNil, sDrop, sRetO, sMut1, oApp, ofRo, Ro.bind, lift, eVar, eC, eOp, eCmp, qCmp, qAnd, qOr, qNot, qTru, eAnd, eOr, eNot, eIf, eNeg, eChain, qChain, eIxV, slotD, dIx, dIxS, isDic, atI, ixN, eCall, aCons, aNil, eTup, eLst, oLen, eLenV, lenD, oInt, eq_ii, lt_ii, gt_ii, ge_ii, le_ii, add_ii, sub_ii, outR, outOk, outs, ownS, isNo, isLstS, List.replicate, eCallD, callM, okAr, arS, putO, rV, rO, rNil, tName, tTupl, tsCons, tsNil, eLc, lcL, iSeq, seqD, qYes, noOwn, isOwn, wipeE, backE, sl24]
      obtain ⟨k, rfl⟩ : ∃ j, k = j + 1 := by
        cases k with
        | zero => exact absurd c (by simpa using h2)
        | succ j => exact ⟨j, rfl⟩
      obtain ⟨h, ih, p1, p2⟩ := lr_loop hb (x1 := x1) (x3 := x3) (x4 := x4) (x5 := x5) (x6 := x6) (x7 := x7) k (r + 1) f c (by rw [show r + 1 + k + 1 = r + (k + 1) + 1 by omega]; exact h2) (by omega) (by omega)
      refine ⟨h, ?_, p1, p2⟩
      simp only [whileN, ofRo, q, b, ih, if_true]
    · have q : lq1__law_root [.v (.int (n : Int)), x1, .v (.int (r : Int)), x3, x4, x5, x6, x7] = .ok false [.v (.int (n : Int)), x1, .v (.int (r : Int)), x3, x4, x5, x6, x7] := by
        have c' : ¬ _ := fun g => c (e.mp g)
        generalize ((r : Int) + 1) * ((r : Int) + 1) = z at *
        simp [lq1__law_root, runM, runF, sSeq, sIf, sRet, sRetF, sSet, sSetO, sSetIx, sAsg, sPar, sNil, sDrop, sRetO, sMut1, oApp, ofRo, Ro.bind, lift, eVar, eC, eOp, eCmp, qCmp, qAnd, qOr, qNot, qTru, eAnd, eOr, eNot, eIf, eNeg, eChain, qChain, eIxV, slotD, dIx, dIxS, isDic, atI, ixN, eCall, aCons, aNil, eTup, eLst, oLen, eLenV, lenD, oInt, eq_ii, lt_ii, gt_ii, ge_ii, le_ii, add_ii, sub_ii, outR, outOk, outs, ownS, isNo, isLstS, List.replicate, eCallD, callM, okAr, arS, putO, rV, rO, rNil, tName, tTupl, tsCons, tsNil, eLc, lcL, iSeq, seqD, qYes, noOwn, isOwn, wipeE, backE, sl24, m, c']
      refine ⟨r, ?_, h1, by omega⟩
      simp [whileN, ofRo, q]
theorem root_eq {n h r : Nat} (h1 : h * h ≤ n) (h2 : n < (h + 1) * (h + 1)) (r1 : r * r ≤ n) (r2 : n < (r + 1) * (r + 1)) : h = r := by
  rcases Nat.lt_trichotomy h r with c | c | c
  · have := Nat.mul_le_mul c c
    simp only [Nat.succ_eq_add_one] at this
    omega
  · exact c
  · have := Nat.mul_le_mul c c
    simp only [Nat.succ_eq_add_one] at this
    omega
theorem outS_in {n r : Int} : ∀ (k : Nat) (s : RS), okS n r k s = true → ∀ y ∈ outS n r k s, y.natAbs ≤ 1000
  | 0, s, h, y, hy => by simp [outS] at hy
  | k + 1, s, h, y, hy => by
    simp only [okS, Bool.and_eq_true] at h
    simp only [outS, List.mem_cons] at hy
    rcases hy with rfl | hy
    · exact (okS_in h.2).h
    · exact outS_in k _ h.2 y hy
theorem outS_len {n r : Int} : ∀ (k : Nat) (s : RS), (outS n r k s).length = k
  | 0, s => rfl
  | k + 1, s => by simp [outS, outS_len k]
def st1_root_chain : Env' → So := sDrop (eCallD m_check_above (rV (eVar 0) (rV (eOp dPow (eC (.int 10)) (eC (.int 6))) (rNil))))
def st2_root_chain : Env' → So := sDrop (eCallD m_check_above (rV (eVar 1) (rV (eC (.int 200)) (rNil))))
def st3_root_chain : Env' → So := sSet 2 (eCallD m_root_of (rV (eVar 0) (rNil)))
def st4_root_chain : Env' → So := sParL [3, 4, 5, 6] [true, false, false, false] (aCons (eLst (aCons (eVar 2) (aNil))) (aCons (eC (.int 0)) (aCons (eC (.int 1)) (aCons (eVar 2) (aNil)))))
def st5_root_chain : Env' → So := sWhile (lq1_root_chain) (lb2_root_chain)
def st6_root_chain : Env' → So := sRet (eCall oTuple (aCons (eVar 3) aNil))
theorem ch_root_chain : b_root_chain = sSeq st1_root_chain (sSeq st2_root_chain (sSeq st3_root_chain (sSeq st4_root_chain (sSeq st5_root_chain (st6_root_chain))))) := rfl
def st1_law_root : Env' → So := sSet 2 (eC (.int 0))
def st2_law_root : Env' → So := sWhile (lq1__law_root) (lb2__law_root)
def st3_law_root : Env' → So := sIf (qCmp bEq (eOp dMul (eVar 2) (eVar 2)) (eVar 0)) (sRet (eTup (aCons (eVar 2) (aNil)))) (sNil)
def st4_law_root : Env' → So := sParL [4, 5, 6, 7] [true, false, false, false] (aCons (eLst (aCons (eVar 2) (aNil))) (aCons (eC (.int 0)) (aCons (eC (.int 1)) (aCons (eVar 2) (aNil)))))
def st5_law_root : Env' → So := sFor (iR1 (eOp dSub (eVar 1) (eC (.int 1)))) (tName 3) (lb3__law_root)
def st6_law_root : Env' → So := sRet (eCall oTuple (aCons (eVar 4) aNil))
theorem ch_law_root : b__law_root = sSeq st1_law_root (sSeq st2_law_root (sSeq st3_law_root (sSeq st4_law_root (sSeq st5_law_root (st6_law_root))))) := rfl
theorem s_root_chain {n k : Nat} (h1 : 1 ≤ n) (h2 : n ≤ 900) (hk : k ≤ 11) : ∃ ys : List Int, m_root_chain [.v (.int (n : Int)), .v (.int ((k + 1 : Nat) : Int))] = .ok (.tup (ys.map D.int)) [.no, .no] ∧ m__law_root [.v (.int (n : Int)), .v (.int ((k + 1 : Nat) : Int))] = .ok (.tup (ys.map D.int)) [.no, .no] ∧ (∀ y ∈ ys, y.natAbs ≤ 1000) ∧ ys.length ≤ 12 := by
  obtain ⟨r, e, r1, r2⟩ := s_root_of (n := n) (by omega)
  have hr : r ≤ 30 := by
    refine Nat.not_lt.mp fun c => ?_
    have := Nat.mul_le_mul c c
    simp only [Nat.succ_eq_add_one] at this
    omega
  obtain ⟨r', el, q1, q2⟩ := lr_loop (n := n) (x1 := .v (.int ((k + 1 : Nat) : Int))) (x3 := .no) (x4 := .no) (x5 := .no) (x6 := .no) (x7 := .no) (by omega) 30 0 many (by omega) (by omega) (by decide) (by omega)
  obtain rfl := root_eq q1 q2 r1 r2
  have ten6 : dPow (.int 10) (.int 6) = some (.int 1000000) := by kernel_rfl
  have ca := s_above (i := (n : Int)) (m := 1000000) (by omega)
  have cb := s_above (i := ((k + 1 : Nat) : Int)) (m := 200) (by omega)
  have a1 : st1_root_chain [.v (.int (n : Int)), .v (.int ((k + 1 : Nat) : Int)), .no, .no, .no, .no, .no] = .nx [.v (.int (n : Int)), .v (.int ((k + 1 : Nat) : Int)), .no, .no, .no, .no, .no] := by
    generalize ((k + 1 : Nat) : Int) = M at *
    simp [st1_root_chain, runM, runF, sSeq, sIf, sRet, sRetF, sSet, sSetO, sSetIx, sAsg, sPar, sNil, sDrop, sRetO, sMut1, oApp, ofRo, Ro.bind, lift, eVar, eC, eOp, eCmp, qCmp, qAnd, qOr, qNot, qTru, eAnd, eOr, eNot, eIf, eNeg, eChain, qChain, eIxV, slotD, dIx, dIxS, isDic, atI, ixN, eCall, aCons, aNil, eTup, eLst, oLen, eLenV, lenD, oInt, eq_ii, lt_ii, gt_ii, ge_ii, le_ii, add_ii, sub_ii, outR, outOk, outs, ownS, isNo, isLstS, List.replicate, eCallD, callM, okAr, arS, putO, rV, rO, rNil, tName, tTupl, tsCons, tsNil, eLc, lcL, iSeq, seqD, qYes, noOwn, isOwn, wipeE, backE, sl24, ca, ten6]
  have a2 : st2_root_chain [.v (.int (n : Int)), .v (.int ((k + 1 : Nat) : Int)), .no, .no, .no, .no, .no] = .nx [.v (.int (n : Int)), .v (.int ((k + 1 : Nat) : Int)), .no, .no, .no, .no, .no] := by
    generalize ((k + 1 : Nat) : Int) = M at *
    simp [st2_root_chain, runM, runF, sSeq, sIf, sRet, sRetF, sSet, sSetO, sSetIx, sAsg, sPar, sNil, sDrop, sRetO, sMut1, oApp, ofRo, Ro.bind, lift, eVar, eC, eOp, eCmp, qCmp, qAnd, qOr, qNot, qTru, eAnd, eOr, eNot, eIf, eNeg, eChain, qChain, eIxV, slotD, dIx, dIxS, isDic, atI, ixN, eCall, aCons, aNil, eTup, eLst, oLen, eLenV, lenD, oInt, eq_ii, lt_ii, gt_ii, ge_ii, le_ii, add_ii, sub_ii, outR, outOk, outs, ownS, isNo, isLstS, List.replicate, eCallD, callM, okAr, arS, putO, rV, rO, rNil, tName, tTupl, tsCons, tsNil, eLc, lcL, iSeq, seqD, qYes, noOwn, isOwn, wipeE, backE, sl24, cb]
  have a3 : st3_root_chain [.v (.int (n : Int)), .v (.int ((k + 1 : Nat) : Int)), .no, .no, .no, .no, .no] = .nx [.v (.int (n : Int)), .v (.int ((k + 1 : Nat) : Int)), .v (.int (r' : Int)), .no, .no, .no, .no] := by
    generalize ((k + 1 : Nat) : Int) = M at *
    simp [st3_root_chain, runM, runF, sSeq, sIf, sRet, sRetF, sSet, sSetO, sSetIx, sAsg, sPar, sNil, sDrop, sRetO, sMut1, oApp, ofRo, Ro.bind, lift, eVar, eC, eOp, eCmp, qCmp, qAnd, qOr, qNot, qTru, eAnd, eOr, eNot, eIf, eNeg, eChain, qChain, eIxV, slotD, dIx, dIxS, isDic, atI, ixN, eCall, aCons, aNil, eTup, eLst, oLen, eLenV, lenD, oInt, eq_ii, lt_ii, gt_ii, ge_ii, le_ii, add_ii, sub_ii, outR, outOk, outs, ownS, isNo, isLstS, List.replicate, eCallD, callM, okAr, arS, putO, rV, rO, rNil, tName, tTupl, tsCons, tsNil, eLc, lcL, iSeq, seqD, qYes, noOwn, isOwn, wipeE, backE, sl24, e]
  have a4 : st4_root_chain [.v (.int (n : Int)), .v (.int ((k + 1 : Nat) : Int)), .v (.int (r' : Int)), .no, .no, .no, .no] = .nx [.v (.int (n : Int)), .v (.int ((k + 1 : Nat) : Int)), .v (.int (r' : Int)), .o (.lst ([(r' : Int)].map D.int)), .v (.int 0), .v (.int 1), .v (.int (r' : Int))] := rfl
  have l1 : st1_law_root [.v (.int (n : Int)), .v (.int ((k + 1 : Nat) : Int)), .no, .no, .no, .no, .no, .no] = .nx [.v (.int (n : Int)), .v (.int ((k + 1 : Nat) : Int)), .v (.int ((0 : Nat) : Int)), .no, .no, .no, .no, .no] := rfl
  have l2 : st2_law_root [.v (.int (n : Int)), .v (.int ((k + 1 : Nat) : Int)), .v (.int ((0 : Nat) : Int)), .no, .no, .no, .no, .no] = .nx [.v (.int (n : Int)), .v (.int ((k + 1 : Nat) : Int)), .v (.int (r' : Int)), .no, .no, .no, .no, .no] := el
  have m := ml (i := (r' : Int)) (j := (r' : Int)) (by omega) (by omega)
  by_cases c : r' * r' = n
  · have c' : (r' : Int) * (r' : Int) = (n : Int) := by rw [← c]; simp
    refine ⟨[(r' : Int)], ?_, ?_, by simp; omega, by simp⟩
    · have ne : bNe (.int (n : Int)) (.int (n : Int)) = some false := by
        show some (!decide ((n : Int) = n)) = _
        simp
      have a5 : st5_root_chain [.v (.int (n : Int)), .v (.int ((k + 1 : Nat) : Int)), .v (.int (r' : Int)), .o (.lst ([(r' : Int)].map D.int)), .v (.int 0), .v (.int 1), .v (.int (r' : Int))] = .nx [.v (.int (n : Int)), .v (.int ((k + 1 : Nat) : Int)), .v (.int (r' : Int)), .o (.lst ([(r' : Int)].map D.int)), .v (.int 0), .v (.int 1), .v (.int (r' : Int))] := by
        have q : lq1_root_chain [.v (.int (n : Int)), .v (.int ((k + 1 : Nat) : Int)), .v (.int (r' : Int)), .o (.lst ([(r' : Int)].map D.int)), .v (.int 0), .v (.int 1), .v (.int (r' : Int))] = .ok false [.v (.int (n : Int)), .v (.int ((k + 1 : Nat) : Int)), .v (.int (r' : Int)), .o (.lst ([(r' : Int)].map D.int)), .v (.int 0), .v (.int 1), .v (.int (r' : Int))] := by
          rw [c'] at m
          generalize ((k + 1 : Nat) : Int) = M at *
          simp [lq1_root_chain, runM, runF, sSeq, sIf, sRet, sRetF, sSet, sSetO, sSetIx, sAsg, sPar, sNil, sDrop, sRetO, sMut1, oApp, ofRo, Ro.bind, lift, eVar, eC, eOp, eCmp, qCmp, qAnd, qOr, qNot, qTru, eAnd, eOr, eNot, eIf, eNeg, eChain, qChain, eIxV, slotD, dIx, dIxS, isDic, atI, ixN, eCall, aCons, aNil, eTup, eLst, oLen, eLenV, lenD, oInt, eq_ii, lt_ii, gt_ii, ge_ii, le_ii, add_ii, sub_ii, outR, outOk, outs, ownS, isNo, isLstS, List.replicate, eCallD, callM, okAr, arS, putO, rV, rO, rNil, tName, tTupl, tsCons, tsNil, eLc, lcL, iSeq, seqD, qYes, noOwn, isOwn, wipeE, backE, sl24, m, ne]
        have w : ∀ f : Nat, whileN lq1_root_chain lb2_root_chain (f + 1) [.v (.int (n : Int)), .v (.int ((k + 1 : Nat) : Int)), .v (.int (r' : Int)), .o (.lst ([(r' : Int)].map D.int)), .v (.int 0), .v (.int 1), .v (.int (r' : Int))] = .nx [.v (.int (n : Int)), .v (.int ((k + 1 : Nat) : Int)), .v (.int (r' : Int)), .o (.lst ([(r' : Int)].map D.int)), .v (.int 0), .v (.int 1), .v (.int (r' : Int))] := by
          intro f
          rw [whileN, q]
          simp [ofRo]
        exact w (many - 1)
      have hb := (congrFun ch_root_chain [.v (.int (n : Int)), .v (.int ((k + 1 : Nat) : Int)), .no, .no, .no, .no, .no]).trans ((seq_nx a1).trans ((seq_nx a2).trans ((seq_nx a3).trans ((seq_nx a4).trans ((seq_nx a5).trans (show st6_root_chain [.v (.int (n : Int)), .v (.int ((k + 1 : Nat) : Int)), .v (.int (r' : Int)), .o (.lst ([(r' : Int)].map D.int)), .v (.int 0), .v (.int 1), .v (.int (r' : Int))] = .ret (.tup ([(r' : Int)].map D.int)) [.v (.int (n : Int)), .v (.int ((k + 1 : Nat) : Int)), .v (.int (r' : Int)), .v (.lst ([(r' : Int)].map D.int)), .v (.int 0), .v (.int 1), .v (.int (r' : Int))] from rfl))))))
      exact runM_ret hb rfl rfl rfl rfl
    · have l3 : st3_law_root [.v (.int (n : Int)), .v (.int ((k + 1 : Nat) : Int)), .v (.int (r' : Int)), .no, .no, .no, .no, .no] = .ret (.tup ([(r' : Int)].map D.int)) [.v (.int (n : Int)), .v (.int ((k + 1 : Nat) : Int)), .v (.int (r' : Int)), .no, .no, .no, .no, .no] := by
        rw [c'] at m
        generalize ((k + 1 : Nat) : Int) = M at *
        have qq : bEq (.int (n : Int)) (.int (n : Int)) = some true := by
          show some (decide ((n : Int) = n)) = _
          simp
        simp [st3_law_root, runM, runF, sSeq, sIf, sRet, sRetF, sSet, sSetO, sSetIx, sAsg, sPar, sNil, sDrop, sRetO, sMut1, oApp, ofRo, Ro.bind, lift, eVar, eC, eOp, eCmp, qCmp, qAnd, qOr, qNot, qTru, eAnd, eOr, eNot, eIf, eNeg, eChain, qChain, eIxV, slotD, dIx, dIxS, isDic, atI, ixN, eCall, aCons, aNil, eTup, eLst, oLen, eLenV, lenD, oInt, eq_ii, lt_ii, gt_ii, ge_ii, le_ii, add_ii, sub_ii, outR, outOk, outs, ownS, isNo, isLstS, List.replicate, eCallD, callM, okAr, arS, putO, rV, rO, rNil, tName, tTupl, tsCons, tsNil, eLc, lcL, iSeq, seqD, qYes, noOwn, isOwn, wipeE, backE, sl24, m, qq]
      have hb := (congrFun ch_law_root [.v (.int (n : Int)), .v (.int ((k + 1 : Nat) : Int)), .no, .no, .no, .no, .no, .no]).trans ((seq_nx l1).trans ((seq_nx l2).trans (seq_ret l3)))
      exact runM_ret hb rfl rfl rfl rfl
  · have ok := okS_mono (okR_of r1 r2 h2 c) hk
    have c' : (r' : Int) * (r' : Int) ≠ (n : Int) := fun g => c (by rw [← Int.natCast_mul] at g; exact Int.ofNat.inj g)
    refine ⟨(r' : Int) :: outS n r' k ⟨0, 1, r'⟩, ?_, ?_, ?_, ?_⟩
    · have a5 := p_loop (n := n) (r := r') (by omega) c' k ⟨0, 1, r'⟩ [(r' : Int)] many ok (by simp; omega) (Nat.lt_of_le_of_lt hk (by decide))
      rw [show ([(r' : Int)].length + k : Nat) = k + 1 by simp; omega] at a5
      have a5 : st5_root_chain [.v (.int (n : Int)), .v (.int ((k + 1 : Nat) : Int)), .v (.int (r' : Int)), .o (.lst ([(r' : Int)].map D.int)), .v (.int 0), .v (.int 1), .v (.int (r' : Int))] = _ := a5
      have hb := (congrFun ch_root_chain [.v (.int (n : Int)), .v (.int ((k + 1 : Nat) : Int)), .no, .no, .no, .no, .no]).trans ((seq_nx a1).trans ((seq_nx a2).trans ((seq_nx a3).trans ((seq_nx a4).trans ((seq_nx a5).trans (show st6_root_chain [.v (.int (n : Int)), .v (.int ((k + 1 : Nat) : Int)), .v (.int (r' : Int)), .o (.lst (([(r' : Int)] ++ outS n r' k ⟨0, 1, r'⟩).map D.int)), .v (.int (nxS n r' k ⟨0, 1, r'⟩).a), .v (.int (nxS n r' k ⟨0, 1, r'⟩).b), .v (.int (nxS n r' k ⟨0, 1, r'⟩).h)] = .ret (.tup (([(r' : Int)] ++ outS n r' k ⟨0, 1, r'⟩).map D.int)) [.v (.int (n : Int)), .v (.int ((k + 1 : Nat) : Int)), .v (.int (r' : Int)), .v (.lst (([(r' : Int)] ++ outS n r' k ⟨0, 1, r'⟩).map D.int)), .v (.int (nxS n r' k ⟨0, 1, r'⟩).a), .v (.int (nxS n r' k ⟨0, 1, r'⟩).b), .v (.int (nxS n r' k ⟨0, 1, r'⟩).h)] from rfl))))))
      exact runM_ret hb rfl rfl rfl rfl
    · have l3 : st3_law_root [.v (.int (n : Int)), .v (.int ((k + 1 : Nat) : Int)), .v (.int (r' : Int)), .no, .no, .no, .no, .no] = .nx [.v (.int (n : Int)), .v (.int ((k + 1 : Nat) : Int)), .v (.int (r' : Int)), .no, .no, .no, .no, .no] := by
        generalize ((k + 1 : Nat) : Int) = M at *
        have qq : bEq (.int ((r' : Int) * (r' : Int))) (.int (n : Int)) = some false := by
          show some (decide ((r' : Int) * (r' : Int) = n)) = _
          simp [c']
        generalize (r' : Int) * (r' : Int) = z at *
        simp [st3_law_root, runM, runF, sSeq, sIf, sRet, sRetF, sSet, sSetO, sSetIx, sAsg, sPar, sNil, sDrop, sRetO, sMut1, oApp, ofRo, Ro.bind, lift, eVar, eC, eOp, eCmp, qCmp, qAnd, qOr, qNot, qTru, eAnd, eOr, eNot, eIf, eNeg, eChain, qChain, eIxV, slotD, dIx, dIxS, isDic, atI, ixN, eCall, aCons, aNil, eTup, eLst, oLen, eLenV, lenD, oInt, eq_ii, lt_ii, gt_ii, ge_ii, le_ii, add_ii, sub_ii, outR, outOk, outs, ownS, isNo, isLstS, List.replicate, eCallD, callM, okAr, arS, putO, rV, rO, rNil, tName, tTupl, tsCons, tsNil, eLc, lcL, iSeq, seqD, qYes, noOwn, isOwn, wipeE, backE, sl24, m, qq]
      have l4 : st4_law_root [.v (.int (n : Int)), .v (.int ((k + 1 : Nat) : Int)), .v (.int (r' : Int)), .no, .no, .no, .no, .no] = .nx [.v (.int (n : Int)), .v (.int ((k + 1 : Nat) : Int)), .v (.int (r' : Int)), .no, .o (.lst ([(r' : Int)].map D.int)), .v (.int 0), .v (.int 1), .v (.int (r' : Int))] := rfl
      obtain ⟨y3, lp⟩ := l_loop (n := n) (r := r') (m := ((k + 1 : Nat) : Int)) k 0 .no ⟨0, 1, r'⟩ [(r' : Int)] ok (by simp; omega)
      have l5 : st5_law_root [.v (.int (n : Int)), .v (.int ((k + 1 : Nat) : Int)), .v (.int (r' : Int)), .no, .o (.lst ([(r' : Int)].map D.int)), .v (.int 0), .v (.int 1), .v (.int (r' : Int))] = _ := (sFor_nat (f := eOp dSub (eVar 1) (eC (.int 1))) (n := k) (by
        have : ((k + 1 : Nat) : Int) - 1 = (k : Int) := by omega
        generalize ((k + 1 : Nat) : Int) = M at *
        simp [runM, runF, sSeq, sIf, sRet, sRetF, sSet, sSetO, sSetIx, sAsg, sPar, sNil, sDrop, sRetO, sMut1, oApp, ofRo, Ro.bind, lift, eVar, eC, eOp, eCmp, qCmp, qAnd, qOr, qNot, qTru, eAnd, eOr, eNot, eIf, eNeg, eChain, qChain, eIxV, slotD, dIx, dIxS, isDic, atI, ixN, eCall, aCons, aNil, eTup, eLst, oLen, eLenV, lenD, oInt, eq_ii, lt_ii, gt_ii, ge_ii, le_ii, add_ii, sub_ii, outR, outOk, outs, ownS, isNo, isLstS, List.replicate, eCallD, callM, okAr, arS, putO, rV, rO, rNil, tName, tTupl, tsCons, tsNil, eLc, lcL, iSeq, seqD, qYes, noOwn, isOwn, wipeE, backE, sl24, this]) (by omega)).trans lp
      have hb := (congrFun ch_law_root [.v (.int (n : Int)), .v (.int ((k + 1 : Nat) : Int)), .no, .no, .no, .no, .no, .no]).trans ((seq_nx l1).trans ((seq_nx l2).trans ((seq_nx l3).trans ((seq_nx l4).trans ((seq_nx l5).trans (show st6_law_root [.v (.int (n : Int)), .v (.int ((k + 1 : Nat) : Int)), .v (.int (r' : Int)), y3, .o (.lst (([(r' : Int)] ++ outS n r' k ⟨0, 1, r'⟩).map D.int)), .v (.int (nxS n r' k ⟨0, 1, r'⟩).a), .v (.int (nxS n r' k ⟨0, 1, r'⟩).b), .v (.int (nxS n r' k ⟨0, 1, r'⟩).h)] = .ret (.tup (([(r' : Int)] ++ outS n r' k ⟨0, 1, r'⟩).map D.int)) [.v (.int (n : Int)), .v (.int ((k + 1 : Nat) : Int)), .v (.int (r' : Int)), y3, .v (.lst (([(r' : Int)] ++ outS n r' k ⟨0, 1, r'⟩).map D.int)), .v (.int (nxS n r' k ⟨0, 1, r'⟩).a), .v (.int (nxS n r' k ⟨0, 1, r'⟩).b), .v (.int (nxS n r' k ⟨0, 1, r'⟩).h)] from rfl))))))
      exact runM_ret hb rfl rfl rfl rfl
    · intro y hy
      rcases List.mem_cons.mp hy with rfl | hy
      · omega
      · exact outS_in k _ ok y hy
    · simp [outS_len]
      omega
end K02

namespace K02
open PySem L2 LamX Rf
def st1_law_is_refused : Env' → So := sPar 4 5 (eCallD m__law_no_fraction (rO 0 (rNil))) (eCallD m__law_any (rO 0 (rV (eLst (aCons (eC (.int 0)) (aCons (eC (.int 10001)) (aCons (eNeg (eC (.int 1))) (aCons (eC .non) (aCons (eC (.bl true)) (aCons (eC (.str "1")) (aCons (eTup (aCons (eC (.int 1)) (aNil))) (aCons (eC (.dK [] [])) (aNil)))))))))) (rNil))))
def st2_law_is_refused : Env' → So := sSet 1 (eLst (aCons (eC .non) (aCons (eTup (aNil)) (aCons (eLst (aCons (eC (.int 1)) (aNil))) (aCons (eTup (aCons (eC (.int 1)) (aCons (eC (.int 0)) (aNil)))) (aCons (eTup (aCons (eC (.int 1)) (aCons (eNeg (eC (.int 1))) (aNil)))) (aCons (eTup (aCons (eOp dAdd (eOp dPow (eC (.int 10)) (eC (.int 6))) (eC (.int 1))) (aNil))) (aCons (eTup (aCons (eC (.bl true)) (aNil))) (aCons (eTup (aCons (eC (.str "1")) (aNil))) (aCons (eOp dMul (eTup (aCons (eC (.int 1)) (aNil))) (eC (.int 61))) (aCons (eC (.int 0)) (aCons (eC (.dK [] [])) (aCons (eTup (aCons (eC (.int 1)) (aCons (eC .non) (aNil)))) (aNil))))))))))))))
def st3_law_is_refused : Env' → So := sSet 1 (eCallD m__law_any (rO 0 (rV (eVar 1) (rNil))))
def st4_law_is_refused : Env' → So := sSetO 2 (eLst (aNil))
def st5_law_is_refused : Env' → So := sFor (iSeq (eTup (aCons (eC (.fn "chain")) (aCons (eC (.fn "near_fractions")) (aNil))))) (tName 3) (lb1__law_is_refused)
def st6_law_is_refused : Env' → So := sSetO 2 (eOp dAddL (eVar 2) (eLst (aCons (eCallD m__law_word_by (rV (eC (.fn "best_below")) (rV (eVar 4) (rV (eVar 5) (rNil))))) (aCons (eCallD m__law_word_by (rV (eC (.fn "best_below")) (rV (eTup (aCons (eC (.int 1)) (aCons (eC (.int 2)) (aNil)))) (rV (eVar 5) (rNil))))) (aNil)))))
def st7_law_is_refused : Env' → So := sMut1 2 oApp (eCallD m__law_word_of (rV (eC (.fn "from_chain")) (rV (eVar 1) (rNil))))
def st8_law_is_refused : Env' → So := sMut1 2 oApp (eCallD m__law_word_by (rV (eC (.fn "root_chain")) (rV (eCallD m__law_any (rO 0 (rV (eLst (aCons (eC (.int 0)) (aCons (eOp dAdd (eOp dPow (eC (.int 10)) (eC (.int 6))) (eC (.int 1))) (aCons (eNeg (eC (.int 1))) (aCons (eC .non) (aCons (eC (.bl true)) (aNil))))))) (rNil)))) (rV (eC (.int 3)) (rNil)))))
def st9_law_is_refused : Env' → So := sMut1 2 oApp (eCallD m__law_word_by (rV (eC (.fn "root_chain")) (rV (eC (.int 3)) (rV (eCallD m__law_any (rO 0 (rV (eLst (aCons (eC (.int 0)) (aCons (eC (.int 201)) (aCons (eNeg (eC (.int 1))) (aCons (eC .non) (aCons (eC (.bl true)) (aNil))))))) (rNil)))) (rNil)))))
def st10_law_is_refused : Env' → So := sIf (qCmp bNotIn (eIxV 2 (eC (.int 4))) (eTup (aCons (eC (.str "fraction")) (aCons (eC (.str "number")) (aNil))))) (sRet (eC (.bl false))) (sNil)
def st11_law_is_refused : Env' → So := sRet (eCmp bEq (eOp dAdd (eSl (eVar 2) (oNone) (oSome (eC (.int 4)))) (eSl (eVar 2) (oSome (eC (.int 5))) (oNone))) (eOp dAddL (eOp dMul (eLst (aCons (eC (.str "fraction")) (aNil))) (eC (.int 3))) (eOp dMul (eLst (aCons (eC (.str "number")) (aNil))) (eC (.int 3)))))
theorem ch_law_is_refused : b__law_is_refused = sSeq st1_law_is_refused (sSeq st2_law_is_refused (sSeq st3_law_is_refused (sSeq st4_law_is_refused (sSeq st5_law_is_refused (sSeq st6_law_is_refused (sSeq st7_law_is_refused (sSeq st8_law_is_refused (sSeq st9_law_is_refused (sSeq st10_law_is_refused (st11_law_is_refused)))))))))) := rfl
def st1_law_no_fraction : Env' → So := sSet 1 (eLst (aCons (eC .non) (aCons (eC (.int 0)) (aCons (eTup (aCons (eC (.int 1)) (aNil))) (aCons (eTup (aCons (eC (.int 1)) (aCons (eC (.int 0)) (aNil)))) (aCons (eTup (aCons (eC (.int 2)) (aCons (eC (.int 4)) (aNil)))) (aCons (eTup (aCons (eC (.int 0)) (aCons (eC (.int 2)) (aNil)))) (aCons (eTup (aCons (eC (.int 1)) (aCons (eNeg (eC (.int 2))) (aNil)))) (aCons (eLst (aCons (eC (.int 1)) (aCons (eC (.int 2)) (aNil)))) (aCons (eTup (aCons (eC (.bl true)) (aCons (eC (.int 2)) (aNil)))) (aCons (eTup (aCons (eC (.int 1)) (aCons (eC (.bl true)) (aNil)))) (aCons (eTup (aCons (eC (.str "1")) (aCons (eC (.int 2)) (aNil)))) (aCons (eTup (aCons (eC (.int 1)) (aCons (eC (.int 2)) (aCons (eC (.int 3)) (aNil))))) (aCons (eC (.dK [] [])) (aNil)))))))))))))))
def st2_law_no_fraction : Env' → So := sRet (eCallD m__law_any (rO 0 (rV (eVar 1) (rNil))))
theorem ch_law_no_fraction : b__law_no_fraction = sSeq st1_law_no_fraction (st2_law_no_fraction) := rfl
def nofr : List D := [.non, .int 0, .tup [.int 1], .tup [.int 1, .int 0], .tup [.int 2, .int 4], .tup [.int 0, .int 2], .tup [.int 1, .int (-2)], .lst [.int 1, .int 2], .tup [.bl true, .int 2], .tup [.int 1, .bl true], .tup [.str "1", .int 2], .tup [.int 1, .int 2, .int 3], .dK [] []]
def bad8 : List D := [.int 0, .int 10001, .int (-1), .non, .bl true, .str "1", .tup [.int 1], .dK [] []]
def parts12 : List D := [.non, .tup [], .lst [.int 1], .tup [.int 1, .int 0], .tup [.int 1, .int (-1)], .tup [.int 1000001], .tup [.bl true], .tup [.str "1"], .tup (List.replicate 61 (.int 1)), .int 0, .dK [] [], .tup [.int 1, .non]]
def badn : List D := [.int 0, .int 1000001, .int (-1), .non, .bl true]
def badm : List D := [.int 0, .int 201, .int (-1), .non, .bl true]
abbrev wf : D := .str "fraction"
abbrev wn : D := .str "number"
theorem w_chain : nofr.map (fun x => m__law_word_of [.v (.fn "chain"), .v x]) = nofr.map fun _ => .ok wf [.no, .no] := by kernel_rfl
theorem w_near : nofr.map (fun x => m__law_word_of [.v (.fn "near_fractions"), .v x]) = nofr.map fun _ => .ok wf [.no, .no] := by kernel_rfl
theorem w_best (y : D) : nofr.map (fun x => m__law_word_by [.v (.fn "best_below"), .v x, .v y]) = nofr.map fun _ => .ok wf [.no, .no, .no] := by kernel_rfl
theorem w_half : bad8.map (fun y => m__law_word_by [.v (.fn "best_below"), .v (.tup [.int 1, .int 2]), .v y]) = bad8.map fun _ => .ok wn [.no, .no, .no] := by kernel_rfl
theorem w_rootn : badn.map (fun y => m__law_word_by [.v (.fn "root_chain"), .v y, .v (.int 3)]) = badn.map fun _ => .ok wn [.no, .no, .no] := by kernel_rfl
theorem w_rootm : badm.map (fun y => m__law_word_by [.v (.fn "root_chain"), .v (.int 3), .v y]) = badm.map fun _ => .ok wn [.no, .no, .no] := by kernel_rfl
def wOf (d : D) : D := match m__law_word_of [.v (.fn "from_chain"), .v d] with
  | .ok w _ => w
  | _ => .non
theorem w_from : parts12.map (fun y => m__law_word_of [.v (.fn "from_chain"), .v y]) = parts12.map fun y => .ok (wOf y) [.no, .no] := by kernel_rfl
theorem w_from2 : parts12.map wOf = [wf, wf, wf, wf, wf, wf, wf, wf, wf, wf, wf, wf] := by kernel_rfl
theorem s_no_fraction {n : Nat} {d : D} (hT : Tape n d) (hn : n ≤ 1000000) : ∃ x tp, m__law_no_fraction [.o d] = .ok x [.o tp] ∧ x ∈ nofr ∧ Tape (n + 1) tp := by
  obtain ⟨x, tp, hx, e, h1⟩ := s_any (xs := nofr) hT (by omega) (by decide) (by decide)
  refine ⟨x, tp, ?_, hx, h1⟩
  have a1 : st1_law_no_fraction [.o d, .no] = .nx [.o d, .v (.lst nofr)] := by kernel_rfl
  have a2 : st2_law_no_fraction [.o d, .v (.lst nofr)] = .ret x [.o tp, .v (.lst nofr)] := by simp [st2_law_no_fraction, runM, runF, sSeq, sIf, sRet, sRetF, sSet, sSetO, sSetIx, sAsg, sPar, sNil, sDrop, sRetO, sMut1, oApp, ofRo, Ro.bind, lift, eVar, eC, eOp, eCmp, qCmp, qAnd, qOr, qNot, qTru, eAnd, eOr, eNot, eIf, eNeg, eChain, qChain, eIxV, slotD, dIx, dIxS, isDic, atI, ixN, eCall, aCons, aNil, eTup, eLst, oLen, eLenV, lenD, oInt, eq_ii, lt_ii, gt_ii, ge_ii, le_ii, add_ii, sub_ii, outR, outOk, outs, ownS, isNo, isLstS, List.replicate, eCallD, callM, okAr, arS, putO, rV, rO, rNil, tName, tTupl, tsCons, tsNil, eLc, lcL, iSeq, seqD, qYes, noOwn, isOwn, wipeE, backE, sl24, e]
  exact runM_ret ((congrFun ch_law_no_fraction [.o d, .no]).trans ((seq_nx a1).trans a2)) rfl rfl rfl rfl
section
variable {t x y p : D} {s1 s2 s3 s4 s5 : Slot}
theorem f2 : st2_law_is_refused [.o t, s1, s2, s3, s4, s5] = .nx [.o t, .v (.lst parts12), s2, s3, s4, s5] := by kernel_rfl
theorem f4 : st4_law_is_refused [.o t, s1, s2, s3, s4, s5] = .nx [.o t, s1, .o (.lst []), s3, s4, s5] := by kernel_rfl
theorem mutw {L : Env' → Ro D} {ws : List D} {w t' : D} (hl : ws.length < 100) (l : L [.o t, .v p, .o (.lst ws), s3, .v x, .v y] = .ok w [.o t', .v p, .o (.lst ws), s3, .v x, .v y]) : sMut1 2 oApp L [.o t, .v p, .o (.lst ws), s3, .v x, .v y] = .nx [.o t', .v p, .o (.lst (ws ++ [w])), s3, .v x, .v y] := by
  have hz : ws.length < 16777216 := by omega
  simp [runM, runF, sSeq, sIf, sRet, sRetF, sSet, sSetO, sSetIx, sAsg, sPar, sNil, sDrop, sRetO, sMut1, oApp, ofRo, Ro.bind, lift, eVar, eC, eOp, eCmp, qCmp, qAnd, qOr, qNot, qTru, eAnd, eOr, eNot, eIf, eNeg, eChain, qChain, eIxV, slotD, dIx, dIxS, isDic, atI, ixN, eCall, aCons, aNil, eTup, eLst, oLen, eLenV, lenD, oInt, eq_ii, lt_ii, gt_ii, ge_ii, le_ii, add_ii, sub_ii, outR, outOk, outs, ownS, isNo, isLstS, List.replicate, eCallD, callM, okAr, arS, putO, rV, rO, rNil, tName, tTupl, tsCons, tsNil, eLc, lcL, iSeq, seqD, qYes, noOwn, isOwn, wipeE, backE, sl24, l, hz]
theorem f5 (h : x ∈ nofr) : ∃ y3, st5_law_is_refused [.o t, .v p, .o (.lst []), s3, .v x, .v y] = .nx [.o t, .v p, .o (.lst [wf, wf]), y3, .v x, .v y] := by
  have k1 := List.map_inj_left.mp w_chain x h
  have k2 := List.map_inj_left.mp w_near x h
  refine ⟨.v (.fn "near_fractions"), ?_⟩
  have i0 : iSeq (eTup (aCons (eC (.fn "chain")) (aCons (eC (.fn "near_fractions")) (aNil)))) [.o t, .v p, .o (.lst []), s3, .v x, .v y] = .ok [.fn "chain", .fn "near_fractions"] [.o t, .v p, .o (.lst []), s3, .v x, .v y] := by kernel_rfl
  have b1 : lb1__law_is_refused [.o t, .v p, .o (.lst []), .v (.fn "chain"), .v x, .v y] = .nx [.o t, .v p, .o (.lst [wf]), .v (.fn "chain"), .v x, .v y] := mutw (by decide) (by simp [runM, runF, sSeq, sIf, sRet, sRetF, sSet, sSetO, sSetIx, sAsg, sPar, sNil, sDrop, sRetO, sMut1, oApp, ofRo, Ro.bind, lift, eVar, eC, eOp, eCmp, qCmp, qAnd, qOr, qNot, qTru, eAnd, eOr, eNot, eIf, eNeg, eChain, qChain, eIxV, slotD, dIx, dIxS, isDic, atI, ixN, eCall, aCons, aNil, eTup, eLst, oLen, eLenV, lenD, oInt, eq_ii, lt_ii, gt_ii, ge_ii, le_ii, add_ii, sub_ii, outR, outOk, outs, ownS, isNo, isLstS, List.replicate, eCallD, callM, okAr, arS, putO, rV, rO, rNil, tName, tTupl, tsCons, tsNil, eLc, lcL, iSeq, seqD, qYes, noOwn, isOwn, wipeE, backE, sl24, k1])
  have b2 : lb1__law_is_refused [.o t, .v p, .o (.lst [wf]), .v (.fn "near_fractions"), .v x, .v y] = .nx [.o t, .v p, .o (.lst [wf, wf]), .v (.fn "near_fractions"), .v x, .v y] := mutw (by decide) (by simp [runM, runF, sSeq, sIf, sRet, sRetF, sSet, sSetO, sSetIx, sAsg, sPar, sNil, sDrop, sRetO, sMut1, oApp, ofRo, Ro.bind, lift, eVar, eC, eOp, eCmp, qCmp, qAnd, qOr, qNot, qTru, eAnd, eOr, eNot, eIf, eNeg, eChain, qChain, eIxV, slotD, dIx, dIxS, isDic, atI, ixN, eCall, aCons, aNil, eTup, eLst, oLen, eLenV, lenD, oInt, eq_ii, lt_ii, gt_ii, ge_ii, le_ii, add_ii, sub_ii, outR, outOk, outs, ownS, isNo, isLstS, List.replicate, eCallD, callM, okAr, arS, putO, rV, rO, rNil, tName, tTupl, tsCons, tsNil, eLc, lcL, iSeq, seqD, qYes, noOwn, isOwn, wipeE, backE, sl24, k2])
  have t1 : ∀ d : D, tName 3 d [.o t, .v p, .o (.lst []), s3, .v x, .v y] = some [.o t, .v p, .o (.lst []), .v d, .v x, .v y] := fun _ => rfl
  have t2 : ∀ d e : D, tName 3 d [.o t, .v p, .o (.lst [wf]), .v e, .v x, .v y] = some [.o t, .v p, .o (.lst [wf]), .v d, .v x, .v y] := fun _ _ => rfl
  refine (sFor_of i0).trans ?_
  simp only [forL, t1, b1, t2, b2]
theorem f6 (h : x ∈ nofr) (hy : y ∈ bad8) : st6_law_is_refused [.o t, .v p, .o (.lst [wf, wf]), s3, .v x, .v y] = .nx [.o t, .v p, .o (.lst [wf, wf, wf, wn]), s3, .v x, .v y] := by
  have k1 := List.map_inj_left.mp (w_best y) x h
  have k2 := List.map_inj_left.mp w_half y hy
  simp [st6_law_is_refused, runM, runF, sSeq, sIf, sRet, sRetF, sSet, sSetO, sSetIx, sAsg, sPar, sNil, sDrop, sRetO, sMut1, oApp, ofRo, Ro.bind, lift, eVar, eC, eOp, eCmp, qCmp, qAnd, qOr, qNot, qTru, eAnd, eOr, eNot, eIf, eNeg, eChain, qChain, eIxV, slotD, dIx, dIxS, isDic, atI, ixN, eCall, aCons, aNil, eTup, eLst, oLen, eLenV, lenD, oInt, eq_ii, lt_ii, gt_ii, ge_ii, le_ii, add_ii, sub_ii, outR, outOk, outs, ownS, isNo, isLstS, List.replicate, eCallD, callM, okAr, arS, putO, rV, rO, rNil, tName, tTupl, tsCons, tsNil, eLc, lcL, iSeq, seqD, qYes, noOwn, isOwn, wipeE, backE, sl24, dAddL, k1, k2]
theorem f7 (h : p ∈ parts12) : st7_law_is_refused [.o t, .v p, .o (.lst [wf, wf, wf, wn]), s3, .v x, .v y] = .nx [.o t, .v p, .o (.lst [wf, wf, wf, wn, wf]), s3, .v x, .v y] := by
  have k1 := List.map_inj_left.mp w_from p h
  have k2 : wOf p = wf := by
    have : wOf p ∈ parts12.map wOf := List.mem_map_of_mem h
    rw [w_from2] at this
    simpa using this
  rw [k2] at k1
  exact mutw (by decide) (by simp [runM, runF, sSeq, sIf, sRet, sRetF, sSet, sSetO, sSetIx, sAsg, sPar, sNil, sDrop, sRetO, sMut1, oApp, ofRo, Ro.bind, lift, eVar, eC, eOp, eCmp, qCmp, qAnd, qOr, qNot, qTru, eAnd, eOr, eNot, eIf, eNeg, eChain, qChain, eIxV, slotD, dIx, dIxS, isDic, atI, ixN, eCall, aCons, aNil, eTup, eLst, oLen, eLenV, lenD, oInt, eq_ii, lt_ii, gt_ii, ge_ii, le_ii, add_ii, sub_ii, outR, outOk, outs, ownS, isNo, isLstS, List.replicate, eCallD, callM, okAr, arS, putO, rV, rO, rNil, tName, tTupl, tsCons, tsNil, eLc, lcL, iSeq, seqD, qYes, noOwn, isOwn, wipeE, backE, sl24, k1])
theorem f8 {z t' : D} (q : m__law_any [.o t, .v (.lst badn)] = .ok z [.o t', .no]) (h : z ∈ badn) : st8_law_is_refused [.o t, .v p, .o (.lst [wf, wf, wf, wn, wf]), s3, .v x, .v y] = .nx [.o t', .v p, .o (.lst [wf, wf, wf, wn, wf, wn]), s3, .v x, .v y] := by
  have k1 := List.map_inj_left.mp w_rootn z h
  have ten6 : dPow (.int 10) (.int 6) = some (.int 1000000) := by kernel_rfl
  simp only [badn] at q
  exact mutw (by decide) (by simp [runM, runF, sSeq, sIf, sRet, sRetF, sSet, sSetO, sSetIx, sAsg, sPar, sNil, sDrop, sRetO, sMut1, oApp, ofRo, Ro.bind, lift, eVar, eC, eOp, eCmp, qCmp, qAnd, qOr, qNot, qTru, eAnd, eOr, eNot, eIf, eNeg, eChain, qChain, eIxV, slotD, dIx, dIxS, isDic, atI, ixN, eCall, aCons, aNil, eTup, eLst, oLen, eLenV, lenD, oInt, eq_ii, lt_ii, gt_ii, ge_ii, le_ii, add_ii, sub_ii, outR, outOk, outs, ownS, isNo, isLstS, List.replicate, eCallD, callM, okAr, arS, putO, rV, rO, rNil, tName, tTupl, tsCons, tsNil, eLc, lcL, iSeq, seqD, qYes, noOwn, isOwn, wipeE, backE, sl24, q, k1, ten6])
theorem f9 {z t' : D} (q : m__law_any [.o t, .v (.lst badm)] = .ok z [.o t', .no]) (h : z ∈ badm) : st9_law_is_refused [.o t, .v p, .o (.lst [wf, wf, wf, wn, wf, wn]), s3, .v x, .v y] = .nx [.o t', .v p, .o (.lst [wf, wf, wf, wn, wf, wn, wn]), s3, .v x, .v y] := by
  have k1 := List.map_inj_left.mp w_rootm z h
  simp only [badm] at q
  exact mutw (by decide) (by simp [runM, runF, sSeq, sIf, sRet, sRetF, sSet, sSetO, sSetIx, sAsg, sPar, sNil, sDrop, sRetO, sMut1, oApp, ofRo, Ro.bind, lift, eVar, eC, eOp, eCmp, qCmp, qAnd, qOr, qNot, qTru, eAnd, eOr, eNot, eIf, eNeg, eChain, qChain, eIxV, slotD, dIx, dIxS, isDic, atI, ixN, eCall, aCons, aNil, eTup, eLst, oLen, eLenV, lenD, oInt, eq_ii, lt_ii, gt_ii, ge_ii, le_ii, add_ii, sub_ii, outR, outOk, outs, ownS, isNo, isLstS, List.replicate, eCallD, callM, okAr, arS, putO, rV, rO, rNil, tName, tTupl, tsCons, tsNil, eLc, lcL, iSeq, seqD, qYes, noOwn, isOwn, wipeE, backE, sl24, q, k1])
theorem f10 : st10_law_is_refused [.o t, .v p, .o (.lst [wf, wf, wf, wn, wf, wn, wn]), s3, .v x, .v y] = .nx [.o t, .v p, .o (.lst [wf, wf, wf, wn, wf, wn, wn]), s3, .v x, .v y] := by kernel_rfl
theorem f11 : st11_law_is_refused [.o t, .v p, .o (.lst [wf, wf, wf, wn, wf, wn, wn]), s3, .v x, .v y] = .ret (.bl true) [.o t, .v p, .v (.lst [wf, wf, wf, wn, wf, wn, wn]), s3, .v x, .v y] := by kernel_rfl
end
theorem s_refused {n : Nat} {d : D} (hT : Tape n d) (hn : n ≤ 100000) : ∃ tp, m__law_is_refused [.o d] = .ok (.bl true) [.o tp] ∧ Tape (n + 5) tp := by
  obtain ⟨x, t1, q1, hx, T1⟩ := s_no_fraction hT (by omega)
  obtain ⟨y, t2, hy, q2, T2⟩ := s_any (xs := bad8) T1 (by omega) (by decide) (by decide)
  obtain ⟨p, t3, hp, q3, T3⟩ := s_any (xs := parts12) T2 (by omega) (by decide) (by decide)
  obtain ⟨z1, t4, hz1, q4, T4⟩ := s_any (xs := badn) T3 (by omega) (by decide) (by decide)
  obtain ⟨z2, t5, hz2, q5, T5⟩ := s_any (xs := badm) T4 (by omega) (by decide) (by decide)
  refine ⟨t5, ?_, T5⟩
  have f1 : st1_law_is_refused [.o d, .no, .no, .no, .no, .no] = .nx [.o t2, .no, .no, .no, .v x, .v y] := by
    simp only [bad8] at q2
    simp [st1_law_is_refused, runM, runF, sSeq, sIf, sRet, sRetF, sSet, sSetO, sSetIx, sAsg, sPar, sNil, sDrop, sRetO, sMut1, oApp, ofRo, Ro.bind, lift, eVar, eC, eOp, eCmp, qCmp, qAnd, qOr, qNot, qTru, eAnd, eOr, eNot, eIf, eNeg, eChain, qChain, eIxV, slotD, dIx, dIxS, isDic, atI, ixN, eCall, aCons, aNil, eTup, eLst, oLen, eLenV, lenD, oInt, eq_ii, lt_ii, gt_ii, ge_ii, le_ii, add_ii, sub_ii, outR, outOk, outs, ownS, isNo, isLstS, List.replicate, eCallD, callM, okAr, arS, putO, rV, rO, rNil, tName, tTupl, tsCons, tsNil, eLc, lcL, iSeq, seqD, qYes, noOwn, isOwn, wipeE, backE, sl24, q1, q2]
  have f3 : st3_law_is_refused [.o t2, .v (.lst parts12), .no, .no, .v x, .v y] = .nx [.o t3, .v p, .no, .no, .v x, .v y] := by
    simp [st3_law_is_refused, runM, runF, sSeq, sIf, sRet, sRetF, sSet, sSetO, sSetIx, sAsg, sPar, sNil, sDrop, sRetO, sMut1, oApp, ofRo, Ro.bind, lift, eVar, eC, eOp, eCmp, qCmp, qAnd, qOr, qNot, qTru, eAnd, eOr, eNot, eIf, eNeg, eChain, qChain, eIxV, slotD, dIx, dIxS, isDic, atI, ixN, eCall, aCons, aNil, eTup, eLst, oLen, eLenV, lenD, oInt, eq_ii, lt_ii, gt_ii, ge_ii, le_ii, add_ii, sub_ii, outR, outOk, outs, ownS, isNo, isLstS, List.replicate, eCallD, callM, okAr, arS, putO, rV, rO, rNil, tName, tTupl, tsCons, tsNil, eLc, lcL, iSeq, seqD, qYes, noOwn, isOwn, wipeE, backE, sl24, q3]
  obtain ⟨y3, f5'⟩ := f5 (t := t3) (p := p) (y := y) (s3 := .no) hx
  have h := (congrFun ch_law_is_refused [.o d, .no, .no, .no, .no, .no]).trans ((seq_nx f1).trans ((seq_nx f2).trans ((seq_nx f3).trans ((seq_nx f4).trans ((seq_nx f5').trans ((seq_nx (f6 hx hy)).trans ((seq_nx (f7 hp)).trans ((seq_nx (f8 q4 hz1)).trans ((seq_nx (f9 q5 hz2)).trans ((seq_nx f10).trans f11))))))))))
  exact runM_ret h rfl rfl rfl rfl
end K02

set_option exponentiation.threshold 3000
namespace K02
open PySem L2 LamX Rf
/-! ## reprs -/
theorem okL_all {n : Nat} : ∀ {xs : List D}, (∀ x ∈ xs, okD n x = true) → okL n xs = true
  | [], _ => rfl
  | x :: xs, h => by
    rw [okL, h x (by simp), okL_all fun y hy => h y (by simp [hy])]
    rfl
theorem shL_all : ∀ {xs : List D}, (∀ x ∈ xs, shD x = true) → shL xs = true
  | [], _ => rfl
  | x :: xs, h => by
    rw [shL, h x (by simp), shL_all fun y hy => h y (by simp [hy])]
    rfl
theorem noSL_all : ∀ {xs : List D}, (∀ x ∈ xs, noS x = true) → noSL xs = true
  | [], _ => rfl
  | x :: xs, h => by
    rw [noSL, h x (by simp), noSL_all fun y hy => h y (by simp [hy])]
    rfl
theorem szL_all {K : Nat} : ∀ {xs : List D}, (∀ x ∈ xs, szD x ≤ K) → szL xs ≤ xs.length * (K + 2)
  | [], _ => by simp [szL]
  | x :: xs, h => by
    have a := h x (by simp)
    have b := szL_all (xs := xs) fun y hy => h y (by simp [hy])
    rw [szL, List.length_cons, Nat.add_mul, Nat.one_mul]
    omega
structure It (x : D) : Prop where
  ok : okD 59 x = true
  sh : shD x = true
  no : noS x = true
  sz : szD x ≤ 3000
theorem it_int {i : Int} (h : -BD ≤ i ∧ i ≤ BD) : It (.int i) := by
  have l := log2_lt h
  refine ⟨rfl, ?_, rfl, ?_⟩
  · simp [shD]; omega
  · simp [szD]; omega
theorem it_F {p q : Int} (h1 : -BD ≤ p ∧ p ≤ BD) (h2 : -BD ≤ q ∧ q ≤ BD) : It (F p q) := by
  have l1 := log2_lt h1
  have l2 := log2_lt h2
  refine ⟨rfl, ?_, rfl, ?_⟩
  · simp [F, shD, shL]; omega
  · simp [F, szD, szL]; omega
theorem rp_all {xs : List D} (h : ∀ x ∈ xs, It x) (hl : xs.length ≤ 1000) : rp (.lst xs) = true ∧ rp (.tup xs) = true := by
  have a := okL_all (n := 59) fun x hx => (h x hx).ok
  have b := shL_all fun x hx => (h x hx).sh
  have c := noSL_all fun x hx => (h x hx).no
  have d := szL_all (K := 3000) fun x hx => (h x hx).sz
  have e : xs.length * 3002 ≤ 1000 * 3002 := Nat.mul_le_mul_right _ hl
  have e1 : szL xs + 4 ≤ 16000000 := by omega
  have o : ∀ y, okD 60 (.lst y) = okL 59 y ∧ okD 60 (.tup y) = okL 59 y := fun y => ⟨by rw [okD], by rw [okD]⟩
  refine ⟨?_, ?_⟩ <;> simp [rp, okRep, noS, shD, szD, (o xs).1, (o xs).2, a, b, c, e1]
theorem rp_F {p q : Int} (h1 : -BD ≤ p ∧ p ≤ BD) (h2 : -BD ≤ q ∧ q ≤ BD) : rp (F p q) = true :=
  (rp_all (xs := [.int p, .int q]) (fun x hx => by
    simp at hx
    rcases hx with rfl | rfl
    · exact it_int h1
    · exact it_int h2) (by simp)).2
theorem ne_F (p q : Int) : bNe (F p q) (F p q) = some false := by
  simp [bNe, F, okD, okL, eqD, eqL]
/-! ## the beginnings' bounds -/
section
variable {p q : Int} {l : List Int}
theorem two_le : ∀ {r : List Int}, (∀ a ∈ r, 1 ≤ a) → (ev r).2 ≤ (ev r).1
  | [], _ => by decide
  | c :: r, h => by
    have h1 := ev_pos (l := r) fun a ha => h a (by simp [ha])
    have hc := h c (by simp)
    show (ev r).1 ≤ c * (ev r).1 + (ev r).2
    have := Int.mul_le_mul_of_nonneg_right hc (show 0 ≤ (ev r).1 by omega)
    omega
theorem CF.ne (h : CF p q l) (k : Fr p q) : l ≠ [] := by
  rintro rfl
  have := h.nil_inv
  have := k.q0
  omega
theorem evl_of (h : CF p q l) (k : Fr p q) : ev l = (p, q) := h.ev k.g fun e => absurd e (by have := k.q0; omega)
theorem fr_bd (h : CF p q l) (k : Fr p q) {j : Nat} (hj : j < l.length) : 0 < (ev (l.take (j + 1))).2 ∧ (ev (l.take (j + 1))).2 ≤ 1000000000 ∧ (ev (l.take (j + 1))).1.natAbs ≤ 1000000001000000000 := by
  have e := evl_of h k
  have ab := h.abs_le (B := 1000000000) (by decide) (by have := k.ab; omega) k.qb
  cases l with
  | nil => simp at hj
  | cons a r =>
    have rp := h.rest_pos
    have e2 : (ev r).1 = q := congrArg Prod.snd e
    have tp : ∀ c ∈ r.take j, 1 ≤ c := fun c hc => rp c (List.mem_of_mem_take hc)
    have m := (ev_mono (pre := r.take j) (suf := r.drop j) tp fun c hc => rp c (List.mem_of_mem_drop hc)).1
    rw [List.take_append_drop, e2] at m
    have p1 := ev_pos tp
    have p2 := two_le tp
    have p3 := k.qb
    have a1 := ab a (by simp)
    show 0 < (ev (r.take j)).1 ∧ (ev (r.take j)).1 ≤ 1000000000 ∧ (a * (ev (r.take j)).1 + (ev (r.take j)).2).natAbs ≤ 1000000001000000000
    generalize (ev (r.take j)).1 = x at *
    generalize (ev (r.take j)).2 = y at *
    have : (a * x).natAbs ≤ 1000000000 * 1000000000 := by
      rw [Int.natAbs_mul]
      exact Nat.mul_le_mul (by omega) (by omega)
    omega
theorem it_fr (h : CF p q l) (k : Fr p q) {j : Nat} (hj : j < l.length) : It (fr l j) := by
  obtain ⟨a, b, c⟩ := fr_bd h k hj
  exact it_F (by rw [BD_eq]; omega) (by rw [BD_eq]; omega)
theorem rp_near (h : CF p q l) (k : Fr p q) : rp (.lst (nearL l l.length)) = true := by
  have l60 := h.le60 k
  refine (rp_all (fun x hx => ?_) (by simp [nearL]; omega)).1
  simp only [nearL, List.mem_map, List.mem_range] at hx
  obtain ⟨j, hj, rfl⟩ := hx
  exact it_fr h k hj
theorem rp_l (h : CF p q l) (k : Fr p q) : rp (.lst (l.map D.int)) = true := by
  have l60 := h.le60 k
  have ab := h.abs_le (B := 1000000000) (by decide) (by have := k.ab; omega) k.qb
  refine (rp_all (fun x hx => ?_) (by simp; omega)).1
  obtain ⟨a, ha, rfl⟩ := List.mem_map.mp hx
  have := ab a ha
  exact it_int (by rw [BD_eq]; omega)
end
theorem maxL_ge : ∀ (ns : List Int), ∀ y ∈ ns, y ≤ maxL ns
  | [], y, h => by cases h
  | [n], y, h => by
    obtain rfl : y = n := by simpa using h
    exact Int.le_refl _
  | n :: n' :: ns, y, h => by
    have ih := maxL_ge (n' :: ns)
    have e : maxL (n :: n' :: ns) = if maxL (n' :: ns) < n then n else maxL (n' :: ns) := rfl
    rw [e]
    split
    · rcases List.mem_cons.mp h with rfl | hy
      · omega
      · have := ih y hy; omega
    · rcases List.mem_cons.mp h with rfl | hy
      · omega
      · exact ih y hy
end K02

set_option exponentiation.threshold 3000
namespace K02
open PySem L2 LamX Rf
def st1_law_is_right : Env' → So := sSet 1 (eCallD m__law_fraction (rO 0 (rNil)))
def st2_law_is_right : Env' → So := sSet 2 (eCallD m__law_chain (rV (eVar 1) (rNil)))
def st3_law_is_right : Env' → So := sIf (qCmp bNe (eCall oRepr (aCons (eCallD m_chain (rV (eVar 1) (rNil))) aNil)) (eCall oRepr (aCons (eVar 2) aNil))) (sRet (eC (.bl false))) (sNil)
def st4_law_is_right : Env' → So := sIf (qAnd (qCmp bLe (eCall (oMx maxL) (aCons (lc1__law_is_right) aNil)) (eOp dPow (eC (.int 10)) (eC (.int 6)))) (qCmp bNe (eCall oRepr (aCons (eCallD m_from_chain (rV (eCall oTuple (aCons (eVar 2) aNil)) (rNil))) aNil)) (eCall oRepr (aCons (eVar 1) aNil)))) (sRet (eC (.bl false))) (sNil)
def st5_law_is_right : Env' → So := sSetO 3 (lc2__law_is_right)
def st6_law_is_right : Env' → So := sIf (qOr (qCmp bNe (eCall oRepr (aCons (eCallD m_near_fractions (rV (eVar 1) (rNil))) aNil)) (eCall oRepr (aCons (eVar 3) aNil))) (qCmp bNe (eIxV 3 (eNeg (eC (.int 1)))) (eVar 1))) (sRet (eC (.bl false))) (sNil)
def st7_law_is_right : Env' → So := sFor (iEnu (eVar 3)) (tTupl 2 (tsCons (tName 7) (tsCons (tName 8) (tsNil)))) (lb3__law_is_right)
def st8_law_is_right : Env' → So := sSet 4 (eTup (aCons (eOp dSub (eCallD m__law_pick (rO 0 (rV (eC (.int 9)) (rNil)))) (eC (.int 4))) (aNil)))
def st9_law_is_right : Env' → So := sFor (iR1 (eCallD m__law_pick (rO 0 (rV (eC (.int 8)) (rNil))))) (tName 5) (lb4__law_is_right)
def st10_law_is_right : Env' → So := sIf (qCmp bNe (eCall oRepr (aCons (eCallD m_from_chain (rV (eVar 4) (rNil))) aNil)) (eCall oRepr (aCons (eCallD m__law_from (rV (eVar 4) (rNil))) aNil))) (sRet (eC (.bl false))) (sNil)
def st11_law_is_right : Env' → So := sSet 6 (eOp dAdd (eC (.int 1)) (eCallD m__law_pick (rO 0 (rV (eCallD m__law_any (rO 0 (rV (eLst (aCons (eC (.int 3)) (aCons (eC (.int 30)) (aNil)))) (rNil)))) (rNil)))))
def st12_law_is_right : Env' → So := sIf (qCmp bNe (eCall oRepr (aCons (eCallD m_best_below (rV (eVar 1) (rV (eVar 6) (rNil)))) aNil)) (eCall oRepr (aCons (eCallD m__law_best (rV (eVar 1) (rV (eVar 6) (rNil)))) aNil))) (sRet (eC (.bl false))) (sNil)
def st13_law_is_right : Env' → So := sPar 10 11 (eOp dAdd (eC (.int 1)) (eCallD m__law_pick (rO 0 (rV (eCallD m__law_any (rO 0 (rV (eLst (aCons (eC (.int 30)) (aCons (eC (.int 900)) (aNil)))) (rNil)))) (rNil))))) (eOp dAdd (eC (.int 1)) (eCallD m__law_pick (rO 0 (rV (eC (.int 12)) (rNil)))))
def st14_law_is_right : Env' → So := sRet (eCmp bEq (eCall oRepr (aCons (eCallD m_root_chain (rV (eVar 10) (rV (eVar 11) (rNil)))) aNil)) (eCall oRepr (aCons (eCallD m__law_root (rV (eVar 10) (rV (eVar 11) (rNil)))) aNil)))
theorem ch_law_is_right : b__law_is_right = sSeq st1_law_is_right (sSeq st2_law_is_right (sSeq st3_law_is_right (sSeq st4_law_is_right (sSeq st5_law_is_right (sSeq st6_law_is_right (sSeq st7_law_is_right (sSeq st8_law_is_right (sSeq st9_law_is_right (sSeq st10_law_is_right (sSeq st11_law_is_right (sSeq st12_law_is_right (sSeq st13_law_is_right (st14_law_is_right))))))))))))) := rfl
theorem nL_from (l : List Int) : ∀ (k lo : Nat), (rng (lo : Int) k).filterMap (fun d => match d with | .int i => some (fr l i.toNat) | _ => none) = (List.range' lo k).map (fr l)
  | 0, lo => rfl
  | k + 1, lo => by
    rw [rng_succ, List.range'_succ, List.map_cons, ← nL_from l k (lo + 1)]
    rfl
theorem nL_is (l : List Int) (n : Nat) : (rng 0 n).filterMap (fun d => match d with | .int i => some (fr l i.toNat) | _ => none) = nearL l n := by
  rw [nearL, List.range_eq_range']
  exact nL_from l n 0
theorem sl_take1 {l : List Int} {j : Nat} (h : j < l.length) : dSl (.lst (l.map D.int)) none (some ((j : Int) + 1)) = some (.lst ((l.take (j + 1)).map D.int)) := by
  have s : HT.sIx l.length l.length (some ((j : Int) + 1)) = j + 1 := by
    rw [show (j : Int) + 1 = ((j + 1 : Nat) : Int) by omega, HT.sIx_nat]
    omega
  simp [dSl, cut, s, HT.sIx_none, List.map_take]
section
variable {p q : Int} {l : List Int} {t : D}
abbrev E1 (t : D) (p q : Int) (l : List Int) (s3 : Slot) : Env' := [.o t, .v (F p q), .v (.lst (l.map D.int)), s3, .no, .no, .no, .no, .no, .no, .no, .no, .no]
theorem r3 (h : CF p q l) (k : Fr p q) : st3_law_is_right (E1 t p q l .no) = .nx (E1 t p q l .no) := by
  have c := s_chain h k
  have r := repr_of (rp_l h k)
  have n := ne_repr (rp_l h k)
  unfold E1
  generalize PyData.shown (toPy (.lst (l.map D.int))) = S at *
  generalize l.map D.int = L at *
  generalize F p q = X at *
  simp [st3_law_is_right, runM, runF, sSeq, sIf, sRet, sRetF, sSet, sSetO, sSetIx, sAsg, sPar, sNil, sDrop, sRetO, sMut1, oApp, ofRo, Ro.bind, lift, eVar, eC, eOp, eCmp, qCmp, qAnd, qOr, qNot, qTru, eAnd, eOr, eNot, eIf, eNeg, eChain, qChain, eIxV, slotD, dIx, dIxS, isDic, atI, ixN, eCall, aCons, aNil, eTup, eLst, oLen, eLenV, lenD, oInt, eq_ii, lt_ii, gt_ii, ge_ii, le_ii, add_ii, sub_ii, outR, outOk, outs, ownS, isNo, isLstS, List.replicate, eCallD, callM, okAr, arS, putO, rV, rO, rNil, tName, tTupl, tsCons, tsNil, eLc, lcL, iSeq, seqD, qYes, noOwn, isOwn, wipeE, backE, sl24, c, r, n]
theorem lc1_is (hl : l.length ≤ 60) : lc1__law_is_right (E1 t p q l .no) = .ok (.lst ((l.map fun a => (a.natAbs : Int)).map D.int)) (E1 t p q l .no) := by
  have k := eLc_map (vs := [12]) (it := iSeq (eVar 2)) (t := tName 12) (q := qYes) (f := eCall oAbs (aCons (eVar 12) aNil)) (E := E1 t p q l .no) (E1 := E1 t p q l .no) (ds := l.map D.int) (fun d => match d with | .int i => some (.int (i.natAbs : Int)) | _ => none) rfl rfl (by rw [List.length_map]; omega) rfl rfl ?_
  · rw [lc1__law_is_right, k, List.filterMap_map, List.map_map]
    congr 2
    exact congrFun (List.filterMap_eq_map (f := D.int ∘ fun a : Int => (a.natAbs : Int))) l
  · intro d hd
    obtain ⟨a, ha, rfl⟩ := List.mem_map.mp hd
    have ab := abs_nat a
    refine ⟨[.o t, .v (F p q), .v (.lst (l.map D.int)), .no, .no, .no, .no, .no, .no, .no, .no, .no, .v (.int a)], rfl, .inr ⟨_, [.o t, .v (F p q), .v (.lst (l.map D.int)), .no, .no, .no, .no, .no, .no, .no, .no, .no, .v (.int a)], [.o t, .v (F p q), .v (.lst (l.map D.int)), .no, .no, .no, .no, .no, .no, .no, .no, .no, .v (.int a)], rfl, rfl, ?_, rfl, rfl⟩⟩
    generalize l.map D.int = L at *
    generalize F p q = X at *
    simp [runM, runF, sSeq, sIf, sRet, sRetF, sSet, sSetO, sSetIx, sAsg, sPar, sNil, sDrop, sRetO, sMut1, oApp, ofRo, Ro.bind, lift, eVar, eC, eOp, eCmp, qCmp, qAnd, qOr, qNot, qTru, eAnd, eOr, eNot, eIf, eNeg, eChain, qChain, eIxV, slotD, dIx, dIxS, isDic, atI, ixN, eCall, aCons, aNil, eTup, eLst, oLen, eLenV, lenD, oInt, eq_ii, lt_ii, gt_ii, ge_ii, le_ii, add_ii, sub_ii, outR, outOk, outs, ownS, isNo, isLstS, List.replicate, eCallD, callM, okAr, arS, putO, rV, rO, rNil, tName, tTupl, tsCons, tsNil, eLc, lcL, iSeq, seqD, qYes, noOwn, isOwn, wipeE, backE, sl24, ab]
theorem r4 (h : CF p q l) (k : Fr p q) : st4_law_is_right (E1 t p q l .no) = .nx (E1 t p q l .no) := by
  have ten6 : dPow (.int 10) (.int 6) = some (.int 1000000) := by kernel_rfl
  have c := lc1_is (t := t) (p := p) (q := q) (l := l) (h.le60 k)
  have ne := h.ne k
  have o : oMx maxL [.lst ((l.map fun a => (a.natAbs : Int)).map D.int)] = some (.int (maxL (l.map fun a => (a.natAbs : Int)))) := by
    cases l with
    | nil => exact absurd rfl ne
    | cons a r =>
      show (match ints? (((a :: r).map fun a => (a.natAbs : Int)).map D.int) with
        | some (n :: ns) => some (D.int (maxL (n :: ns)))
        | _ => none) = _
      rw [ints?_map]
      rfl
  have ot : ∀ L : List D, oTuple [.lst L] = some (.tup L) := fun _ => rfl
  by_cases m : maxL (l.map fun a => (a.natAbs : Int)) ≤ 1000000
  · have l60 := h.le60 k
    have e := evl_of h k
    have hm : ∀ a ∈ l, a.natAbs ≤ 1000000 := fun a ha => by
      have := maxL_ge (l.map fun a => (a.natAbs : Int)) a.natAbs (List.mem_map_of_mem ha)
      omega
    have tl : ∀ a ∈ l.tail, 1 ≤ a := by
      cases l with
      | nil => exact absurd rfl ne
      | cons a r => exact h.rest_pos
    obtain ⟨i, c0, rfl⟩ : ∃ i c0, l = i ++ [c0] := ⟨l.dropLast, l.getLast ne, (List.dropLast_concat_getLast ne).symm⟩
    have f := s_from hm tl l60
    rw [e] at f
    have kb := k.ab
    have r := repr_of (rp_F (p := p) (q := q) (by rw [BD_eq]; omega) (by have := k.q0; have := k.qb; rw [BD_eq]; omega))
    have n := ne_repr (rp_F (p := p) (q := q) (by rw [BD_eq]; omega) (by have := k.q0; have := k.qb; rw [BD_eq]; omega))
    unfold E1 at *
    generalize PyData.shown (toPy (F p q)) = S at *
    generalize maxL ((i ++ [c0]).map fun a => (a.natAbs : Int)) = M at *
    generalize ((i ++ [c0]).map fun a => (a.natAbs : Int)).map D.int = A at *
    generalize (i ++ [c0]).map D.int = L at *
    generalize F p q = X at *
    simp [st4_law_is_right, runM, runF, sSeq, sIf, sRet, sRetF, sSet, sSetO, sSetIx, sAsg, sPar, sNil, sDrop, sRetO, sMut1, oApp, ofRo, Ro.bind, lift, eVar, eC, eOp, eCmp, qCmp, qAnd, qOr, qNot, qTru, eAnd, eOr, eNot, eIf, eNeg, eChain, qChain, eIxV, slotD, dIx, dIxS, isDic, atI, ixN, eCall, aCons, aNil, eTup, eLst, oLen, eLenV, lenD, oInt, eq_ii, lt_ii, gt_ii, ge_ii, le_ii, add_ii, sub_ii, outR, outOk, outs, ownS, isNo, isLstS, List.replicate, eCallD, callM, okAr, arS, putO, rV, rO, rNil, tName, tTupl, tsCons, tsNil, eLc, lcL, iSeq, seqD, qYes, noOwn, isOwn, wipeE, backE, sl24, c, o, m, ten6, ot, f, r, n]
  · unfold E1 at *
    generalize maxL (l.map fun a => (a.natAbs : Int)) = M at *
    generalize (l.map fun a => (a.natAbs : Int)).map D.int = A at *
    generalize l.map D.int = L at *
    generalize F p q = X at *
    simp [st4_law_is_right, runM, runF, sSeq, sIf, sRet, sRetF, sSet, sSetO, sSetIx, sAsg, sPar, sNil, sDrop, sRetO, sMut1, oApp, ofRo, Ro.bind, lift, eVar, eC, eOp, eCmp, qCmp, qAnd, qOr, qNot, qTru, eAnd, eOr, eNot, eIf, eNeg, eChain, qChain, eIxV, slotD, dIx, dIxS, isDic, atI, ixN, eCall, aCons, aNil, eTup, eLst, oLen, eLenV, lenD, oInt, eq_ii, lt_ii, gt_ii, ge_ii, le_ii, add_ii, sub_ii, outR, outOk, outs, ownS, isNo, isLstS, List.replicate, eCallD, callM, okAr, arS, putO, rV, rO, rNil, tName, tTupl, tsCons, tsNil, eLc, lcL, iSeq, seqD, qYes, noOwn, isOwn, wipeE, backE, sl24, c, o, m, ten6]
theorem lc2_is (h : CF p q l) (k : Fr p q) : lc2__law_is_right (E1 t p q l .no) = .ok (.lst (nearL l l.length)) (E1 t p q l .no) := by
  have l60 := h.le60 k
  have ab := h.abs_le (B := 1000000000) (by decide) (by have := k.ab; omega) k.qb
  have kk := eLc_map (vs := [7]) (it := iR1 (eLenV 2)) (t := tName 7) (q := qYes) (f := eCallD m__law_from (rV (eSl (eVar 2) (oNone) (oSome (eOp dAdd (eVar 7) (eC (.int 1))))) (rNil))) (E := E1 t p q l .no) (E1 := E1 t p q l .no) (ds := rng 0 l.length) (fun d => match d with | .int i => some (fr l i.toNat) | _ => none) (iR1_nat (by
    have : (l.map D.int).length = l.length := List.length_map ..
    unfold E1
    generalize l.map D.int = L at *
    generalize F p q = X at *
    simp [runM, runF, sSeq, sIf, sRet, sRetF, sSet, sSetO, sSetIx, sAsg, sPar, sNil, sDrop, sRetO, sMut1, oApp, ofRo, Ro.bind, lift, eVar, eC, eOp, eCmp, qCmp, qAnd, qOr, qNot, qTru, eAnd, eOr, eNot, eIf, eNeg, eChain, qChain, eIxV, slotD, dIx, dIxS, isDic, atI, ixN, eCall, aCons, aNil, eTup, eLst, oLen, eLenV, lenD, oInt, eq_ii, lt_ii, gt_ii, ge_ii, le_ii, add_ii, sub_ii, outR, outOk, outs, ownS, isNo, isLstS, List.replicate, eCallD, callM, okAr, arS, putO, rV, rO, rNil, tName, tTupl, tsCons, tsNil, eLc, lcL, iSeq, seqD, qYes, noOwn, isOwn, wipeE, backE, sl24, this]) (by omega)) rfl (by rw [rng_len]; omega) rfl rfl ?_
  · rw [lc2__law_is_right, kk, nL_is]
  · intro d hd
    obtain ⟨j, hj0⟩ := List.mem_iff_getElem?.mp hd
    obtain ⟨rfl, hj⟩ := rng_get hj0
    rw [Int.zero_add]
    have sl := sl_take1 hj
    have tk := take_one hj
    obtain ⟨b1, b2, b3⟩ := fr_bd h k hj
    have fo := (s_lfrom (i := l.take j) (c := l[j]) (fun a ha => by
      rw [← tk] at ha
      have := ab a (List.mem_of_mem_take ha)
      omega) (by rw [← tk]; exact b1) (by rw [← tk, List.length_take]; omega) (by rw [← tk]; exact Nat.lt_of_le_of_lt (show _ ≤ 1000000000 by omega) (by decide))).1
    rw [← tk] at fo
    refine ⟨[.o t, .v (F p q), .v (.lst (l.map D.int)), .no, .no, .no, .no, .v (.int (j : Int)), .no, .no, .no, .no, .no], rfl, .inr ⟨_, [.o t, .v (F p q), .v (.lst (l.map D.int)), .no, .no, .no, .no, .v (.int (j : Int)), .no, .no, .no, .no, .no], [.o t, .v (F p q), .v (.lst (l.map D.int)), .no, .no, .no, .no, .v (.int (j : Int)), .no, .no, .no, .no, .no], rfl, rfl, ?_, rfl, rfl⟩⟩
    show eCallD _ _ _ = .ok (fr l j) _
    unfold fr
    generalize F (ev (l.take (j + 1))).1 (ev (l.take (j + 1))).2 = R at *
    generalize (l.take (j + 1)).map D.int = T at *
    generalize l.map D.int = L at *
    generalize F p q = X at *
    simp [runM, runF, sSeq, sIf, sRet, sRetF, sSet, sSetO, sSetIx, sAsg, sPar, sNil, sDrop, sRetO, sMut1, oApp, ofRo, Ro.bind, lift, eVar, eC, eOp, eCmp, qCmp, qAnd, qOr, qNot, qTru, eAnd, eOr, eNot, eIf, eNeg, eChain, qChain, eIxV, slotD, dIx, dIxS, isDic, atI, ixN, eCall, aCons, aNil, eTup, eLst, oLen, eLenV, lenD, oInt, eq_ii, lt_ii, gt_ii, ge_ii, le_ii, add_ii, sub_ii, outR, outOk, outs, ownS, isNo, isLstS, List.replicate, eCallD, callM, okAr, arS, putO, rV, rO, rNil, tName, tTupl, tsCons, tsNil, eLc, lcL, iSeq, seqD, qYes, noOwn, isOwn, wipeE, backE, sl24, eSl, oNone, oSome, sl, fo]
theorem r5 (h : CF p q l) (k : Fr p q) : st5_law_is_right (E1 t p q l .no) = .nx (E1 t p q l (.o (.lst (nearL l l.length)))) := by
  have c := lc2_is (t := t) h k
  unfold E1 at *
  generalize nearL l l.length = A at *
  generalize l.map D.int = L at *
  generalize F p q = X at *
  simp [st5_law_is_right, runM, runF, sSeq, sIf, sRet, sRetF, sSet, sSetO, sSetIx, sAsg, sPar, sNil, sDrop, sRetO, sMut1, oApp, ofRo, Ro.bind, lift, eVar, eC, eOp, eCmp, qCmp, qAnd, qOr, qNot, qTru, eAnd, eOr, eNot, eIf, eNeg, eChain, qChain, eIxV, slotD, dIx, dIxS, isDic, atI, ixN, eCall, aCons, aNil, eTup, eLst, oLen, eLenV, lenD, oInt, eq_ii, lt_ii, gt_ii, ge_ii, le_ii, add_ii, sub_ii, outR, outOk, outs, ownS, isNo, isLstS, List.replicate, eCallD, callM, okAr, arS, putO, rV, rO, rNil, tName, tTupl, tsCons, tsNil, eLc, lcL, iSeq, seqD, qYes, noOwn, isOwn, wipeE, backE, sl24, c]
theorem lst_lastD {L : List D} {a : D} : dIx (.lst (L ++ [a])) (.int (-1)) = some a := by
  have e1 : (if (1 : Int) ≤ (L.length : Int) + 1 then some (-1 + ((L.length : Int) + 1)).toNat else none) = some L.length := by
    rw [if_pos (by omega)]
    congr 1
    omega
  simp [dIx, dIxS, isDic, atI, ixN, e1]
theorem near_last (h : CF p q l) (k : Fr p q) : dIx (.lst (nearL l l.length)) (.int (-1)) = some (F p q) := by
  have e := evl_of h k
  have ne := h.ne k
  obtain ⟨m, hm⟩ : ∃ m, l.length = m + 1 := ⟨l.length - 1, by have := List.length_pos_iff.mpr ne; omega⟩
  rw [hm, nearL_succ]
  have : fr l m = F p q := by
    unfold fr
    rw [← hm, List.take_length, e]
  rw [this]
  exact lst_lastD
theorem r6 (h : CF p q l) (k : Fr p q) : st6_law_is_right (E1 t p q l (.o (.lst (nearL l l.length)))) = .nx (E1 t p q l (.v (.lst (nearL l l.length)))) := by
  have c := s_near h k
  have r := repr_of (rp_near h k)
  have n := ne_repr (rp_near h k)
  have x := near_last h k
  have n2 := ne_F p q
  unfold E1 at *
  generalize PyData.shown (toPy (.lst (nearL l l.length))) = S at *
  generalize nearL l l.length = A at *
  generalize l.map D.int = L at *
  generalize F p q = X at *
  simp [st6_law_is_right, runM, runF, sSeq, sIf, sRet, sRetF, sSet, sSetO, sSetIx, sAsg, sPar, sNil, sDrop, sRetO, sMut1, oApp, ofRo, Ro.bind, lift, eVar, eC, eOp, eCmp, qCmp, qAnd, qOr, qNot, qTru, eAnd, eOr, eNot, eIf, eNeg, eChain, qChain, eIxV, slotD, eCall, aCons, aNil, eTup, eLst, oLen, eLenV, lenD, oInt, eq_ii, lt_ii, gt_ii, ge_ii, le_ii, add_ii, sub_ii, outR, outOk, outs, ownS, isNo, isLstS, List.replicate, eCallD, callM, okAr, arS, putO, rV, rO, rNil, tName, tTupl, tsCons, tsNil, eLc, lcL, iSeq, seqD, qYes, noOwn, isOwn, wipeE, backE, sl24, c, r, n, x, n2]
end
end K02

set_option exponentiation.threshold 3000
namespace K02
open PySem L2 LamX Rf
section
variable {p q : Int} {l : List Int} {t : D}
abbrev E7 (t : D) (p q : Int) (l : List Int) (s7 s8 s9 : Slot) : Env' := [.o t, .v (F p q), .v (.lst (l.map D.int)), .v (.lst (nearL l l.length)), .no, .no, .no, s7, s8, s9, .no, .no, .no]
theorem gap_body (h : CF p q l) (k : Fr p q) {j : Nat} (hj : j < l.length) {s9 : Slot} : ∃ y9, lb3__law_is_right (E7 t p q l (.v (.int (j : Int))) (.v (fr l j)) s9) = .nx (E7 t p q l (.v (.int (j : Int))) (.v (fr l j)) y9) := by
  obtain ⟨b1, b2, b3⟩ := fr_bd h k hj
  have e := evl_of h k
  have m1 := ml2 (i := (ev (l.take (j + 1))).1) (j := q) (by omega) (by have := k.q0; have := k.qb; omega)
  have m2 := ml2 (i := p) (j := (ev (l.take (j + 1))).2) (by have := k.ab; omega) (by omega)
  have nl : (nearL l l.length).length = l.length := by simp [nearL]
  refine ⟨.v (.int ((ev (l.take (j + 1))).1 * q - p * (ev (l.take (j + 1))).2)), ?_⟩
  have i0 : dIx (.tup [.int (ev (l.take (j + 1))).1, .int (ev (l.take (j + 1))).2]) (.int 0) = some (.int (ev (l.take (j + 1))).1) := rfl
  have bb : ∀ b : Bool, bNe (.bl b) (.bl b) = some false := fun b => by cases b <;> kernel_rfl
  have oi : oInt [.int (j : Int)] = some (.int (j : Int)) := rfl
  have md : dMod (.int (j : Int)) (.int 2) = some (.int ((j : Int) % 2)) := mod_ii (by decide)
  by_cases c : (j : Int) < (l.length : Int) - 1
  · have sg := gap_sign (l.take (j + 1)) (l.drop (j + 1)) (by
      intro hc
      have := congrArg List.length hc
      rw [List.length_take, List.length_nil] at this
      omega) (by
      intro hc
      have := congrArg List.length hc
      rw [List.length_drop, List.length_nil] at this
      omega) (by
      cases l with
      | nil => simp
      | cons a r =>
        intro x hx
        refine h.rest_pos x (List.mem_of_mem_drop (i := j) ?_)
        exact List.mem_of_mem_tail hx)
    rw [List.take_append_drop, e, List.length_take] at sg
    simp only at sg
    have eb : decide ((ev (l.take (j + 1))).1 * q - p * (ev (l.take (j + 1))).2 < 0) = decide ((j : Int) % 2 = 0) := by
      rcases sg with ⟨s1, s2⟩ | ⟨s1, s2⟩
      · rw [decide_eq_true s2, decide_eq_true (by omega)]
      · rw [decide_eq_false (by omega), decide_eq_false (by omega)]
    have be : bEq (.int ((j : Int) % 2)) (.int 0) = some (decide ((j : Int) % 2 = 0)) := rfl
    have bl : bLt (.int ((ev (l.take (j + 1))).1 * q - p * (ev (l.take (j + 1))).2)) (.int 0) = some (decide ((j : Int) % 2 = 0)) := by
      rw [← eb]
      rfl
    have b2' := bb (decide ((j : Int) % 2 = 0))
    unfold E7 fr
    generalize decide ((j : Int) % 2 = 0) = B at *
    generalize (j : Int) % 2 = J at *
    generalize (ev (l.take (j + 1))).1 * q = Z1 at *
    generalize p * (ev (l.take (j + 1))).2 = Z2 at *
    generalize nearL l l.length = A at *
    generalize l.map D.int = L at *
    simp [lb3__law_is_right, runM, runF, sSeq, sIf, sRet, sRetF, sSet, sSetO, sSetIx, sAsg, sPar, sNil, sDrop, sRetO, sMut1, oApp, ofRo, Ro.bind, lift, eVar, eC, eOp, eCmp, qCmp, qAnd, qOr, qNot, qTru, eAnd, eOr, eNot, eIf, eNeg, eChain, qChain, eIxV, slotD, dIx, dIxS, isDic, atI, ixN, eCall, aCons, aNil, eTup, eLst, oLen, eLenV, lenD, oInt, eq_ii, lt_ii, gt_ii, ge_ii, le_ii, add_ii, sub_ii, outR, outOk, outs, ownS, isNo, isLstS, List.replicate, eCallD, callM, okAr, arS, putO, rV, rO, rNil, tName, tTupl, tsCons, tsNil, eLc, lcL, iSeq, seqD, qYes, noOwn, isOwn, wipeE, backE, sl24, F, m1, m2, nl, c, oi, md, be, bl, b2']
  · unfold E7 fr
    generalize (ev (l.take (j + 1))).1 * q = Z1 at *
    generalize p * (ev (l.take (j + 1))).2 = Z2 at *
    generalize nearL l l.length = A at *
    generalize l.map D.int = L at *
    simp [lb3__law_is_right, runM, runF, sSeq, sIf, sRet, sRetF, sSet, sSetO, sSetIx, sAsg, sPar, sNil, sDrop, sRetO, sMut1, oApp, ofRo, Ro.bind, lift, eVar, eC, eOp, eCmp, qCmp, qAnd, qOr, qNot, qTru, eAnd, eOr, eNot, eIf, eNeg, eChain, qChain, eIxV, slotD, dIx, dIxS, isDic, atI, ixN, eCall, aCons, aNil, eTup, eLst, oLen, eLenV, lenD, oInt, eq_ii, lt_ii, gt_ii, ge_ii, le_ii, add_ii, sub_ii, outR, outOk, outs, ownS, isNo, isLstS, List.replicate, eCallD, callM, okAr, arS, putO, rV, rO, rNil, tName, tTupl, tsCons, tsNil, eLc, lcL, iSeq, seqD, qYes, noOwn, isOwn, wipeE, backE, sl24, F, m1, m2, nl, c]
theorem gap_loop (h : CF p q l) (k : Fr p q) : ∀ (m j : Nat) (s7 s8 s9 : Slot), j + m = l.length → ∃ y7 y8 y9, forL (tTupl 2 (tsCons (tName 7) (tsCons (tName 8) (tsNil)))) lb3__law_is_right (enumD j ((List.range' j m).map (fr l))) (E7 t p q l s7 s8 s9) = .nx (E7 t p q l y7 y8 y9)
  | 0, j, s7, s8, s9, e => ⟨s7, s8, s9, rfl⟩
  | m + 1, j, s7, s8, s9, e => by
    obtain ⟨z9, b⟩ := gap_body (t := t) h k (j := j) (by omega) (s9 := s9)
    obtain ⟨y7, y8, y9, e2⟩ := gap_loop h k m (j + 1) (.v (.int (j : Int))) (.v (fr l j)) z9 (by omega)
    refine ⟨y7, y8, y9, ?_⟩
    have t1 : tTupl 2 (tsCons (tName 7) (tsCons (tName 8) (tsNil))) (.tup [.int (j : Int), fr l j]) (E7 t p q l s7 s8 s9) = some (E7 t p q l (.v (.int (j : Int))) (.v (fr l j)) s9) := rfl
    rw [List.range'_succ, List.map_cons, enumD, ← e2]
    simp only [forL, t1, b]
theorem r7 (h : CF p q l) (k : Fr p q) : ∃ y7 y8 y9, st7_law_is_right (E7 t p q l .no .no .no) = .nx (E7 t p q l y7 y8 y9) := by
  obtain ⟨y7, y8, y9, e⟩ := gap_loop (t := t) h k l.length 0 .no .no .no (by omega)
  refine ⟨y7, y8, y9, ?_⟩
  rw [← List.range_eq_range'] at e
  exact (sFor_of (show iEnu (eVar 3) (E7 t p q l .no .no .no) = .ok (enumD 0 (nearL l l.length)) (E7 t p q l .no .no .no) from rfl)).trans e
end
end K02

set_option exponentiation.threshold 3000
namespace K02
open PySem L2 LamX Rf
theorem eq_of_ne {a b : D} (h : bNe a b = some false) : bEq a b = some true := by
  unfold bNe at h
  unfold bEq
  split at h
  · rename_i g
    rw [if_pos g]
    simp at h
    rw [h]
  · cases h
theorem add_one {ps : List Int} {b : Int} (h : ps.length ≤ 100) : dAdd (.tup (ps.map D.int)) (.tup [.int b]) = some (.tup ((ps ++ [b]).map D.int)) := by
  have : (ps.map D.int).length + [D.int b].length ≤ sizeLine := by
    rw [List.length_map, sl24]
    simp
    omega
  show (if (ps.map D.int).length + [D.int b].length ≤ sizeLine then some (D.tup (ps.map D.int ++ [D.int b])) else none) = _
  rw [if_pos this]
  simp
section
variable {X L A : D} {s4 s5 s6 s7 s8 s9 s10 s11 s12 : Slot}
theorem part_body {n : Nat} {d : D} {ps : List Int} (hT : Tape n d) (hn : n ≤ 1000000) (hp : ps.length ≤ 100) : ∃ (b : Int) (tp : D), 1 ≤ b ∧ b ≤ 5 ∧ lb4__law_is_right [.o d, .v X, .v L, .v A, .v (.tup (ps.map D.int)), s5, s6, s7, s8, s9, s10, s11, s12] = .nx [.o tp, .v X, .v L, .v A, .v (.tup ((ps ++ [b]).map D.int)), s5, s6, s7, s8, s9, s10, s11, s12] ∧ Tape (n + 2) tp := by
  obtain ⟨x, t1, hx, q1, T1⟩ := s_any (xs := [.int 1, .int 5]) hT (by omega) (by simp) (by simp)
  have hg : ∃ g : Int, x = .int g ∧ 0 < g ∧ g ≤ 5 := by
    simp at hx
    rcases hx with rfl | rfl <;> exact ⟨_, rfl, by omega, by omega⟩
  obtain ⟨g, rfl, g0, g1⟩ := hg
  obtain ⟨a, t2, q2, a0, a1, T2⟩ := s_pick (m := g) T1 (by omega) (by omega) (by omega)
  have ad := add_one (b := 1 + a) hp
  refine ⟨1 + a, t2, by omega, by omega, ?_, T2⟩
  generalize ps.map D.int = P at *
  generalize (ps ++ [1 + a]).map D.int = P2 at *
  have ad : dAddT (.tup P) (.tup [.int (1 + a)]) = some (.tup P2) := ad
  simp [lb4__law_is_right, runM, runF, sSeq, sIf, sRet, sRetF, sSet, sSetO, sSetIx, sAsg, sPar, sNil, sDrop, sRetO, sMut1, oApp, ofRo, Ro.bind, lift, eVar, eC, eOp, eCmp, qCmp, qAnd, qOr, qNot, qTru, eAnd, eOr, eNot, eIf, eNeg, eChain, qChain, eIxV, slotD, dIx, dIxS, isDic, atI, ixN, eCall, aCons, aNil, eTup, eLst, oLen, eLenV, lenD, oInt, eq_ii, lt_ii, gt_ii, ge_ii, le_ii, add_ii, sub_ii, outR, outOk, outs, ownS, isNo, isLstS, List.replicate, eCallD, callM, okAr, arS, putO, rV, rO, rNil, tName, tTupl, tsCons, tsNil, eLc, lcL, iSeq, seqD, qYes, noOwn, isOwn, wipeE, backE, sl24, q1, q2, dAdd, dAddI, dI2, tru2, ad]
theorem part_loop {a0 : Int} : ∀ (m : Nat) (lo : Int) {n : Nat} {d : D} {ps : List Int} {s5 : Slot}, Tape n d → n + 2 * m ≤ 1000000 → ps.length + m ≤ 100 → (∀ b ∈ ps, 1 ≤ b ∧ b ≤ 5) → ∃ (ps' : List Int) (tp : D) (y5 : Slot), forL (tName 5) lb4__law_is_right (rng lo m) [.o d, .v X, .v L, .v A, .v (.tup ((a0 :: ps).map D.int)), s5, s6, s7, s8, s9, s10, s11, s12] = .nx [.o tp, .v X, .v L, .v A, .v (.tup ((a0 :: ps').map D.int)), y5, s6, s7, s8, s9, s10, s11, s12] ∧ Tape (n + 2 * m) tp ∧ ps'.length = ps.length + m ∧ ∀ b ∈ ps', 1 ≤ b ∧ b ≤ 5
  | 0, lo, n, d, ps, s5, hT, hn, hl, hp => ⟨ps, d, s5, rfl, hT, rfl, hp⟩
  | m + 1, lo, n, d, ps, s5, hT, hn, hl, hp => by
    obtain ⟨b, t1, b1, b2, e, T1⟩ := part_body (X := X) (L := L) (A := A) (s5 := .v (.int lo)) (s6 := s6) (s7 := s7) (s8 := s8) (s9 := s9) (s10 := s10) (s11 := s11) (s12 := s12) (ps := a0 :: ps) hT (by omega) (by simp; omega)
    obtain ⟨ps', tp, y5, e2, T2, l2, h2⟩ := part_loop m (lo + 1) (ps := ps ++ [b]) (s5 := .v (.int lo)) T1 (by omega) (by simp; omega) (fun c hc => by
      rcases List.mem_append.mp hc with hc | hc
      · exact hp c hc
      · obtain rfl : c = b := by simpa using hc
        exact ⟨b1, b2⟩)
    refine ⟨ps', tp, y5, ?_, by rw [show n + 2 * (m + 1) = n + 2 + 2 * m by omega]; exact T2, by simp at l2; omega, h2⟩
    have t5 : tName 5 (.int lo) [.o d, .v X, .v L, .v A, .v (.tup ((a0 :: ps).map D.int)), s5, s6, s7, s8, s9, s10, s11, s12] = some [.o d, .v X, .v L, .v A, .v (.tup ((a0 :: ps).map D.int)), .v (.int lo), s6, s7, s8, s9, s10, s11, s12] := rfl
    have e : lb4__law_is_right [.o d, .v X, .v L, .v A, .v (.tup ((a0 :: ps).map D.int)), .v (.int lo), s6, s7, s8, s9, s10, s11, s12] = .nx [.o t1, .v X, .v L, .v A, .v (.tup ((a0 :: (ps ++ [b])).map D.int)), .v (.int lo), s6, s7, s8, s9, s10, s11, s12] := e
    rw [rng_succ, ← e2]
    simp only [forL, t5, e]
theorem r8 {n : Nat} {d : D} (hT : Tape n d) (hn : n ≤ 1000000) : ∃ (a : Int) (tp : D), -4 ≤ a ∧ a ≤ 4 ∧ st8_law_is_right [.o d, .v X, .v L, .v A, .no, s5, s6, s7, s8, s9, s10, s11, s12] = .nx [.o tp, .v X, .v L, .v A, .v (.tup ([a].map D.int)), s5, s6, s7, s8, s9, s10, s11, s12] ∧ Tape (n + 1) tp := by
  obtain ⟨a, t2, q2, a0, a1, T2⟩ := s_pick (m := 9) hT (by omega) (by omega) (by omega)
  refine ⟨a - 4, t2, by omega, by omega, ?_, T2⟩
  simp [st8_law_is_right, runM, runF, sSeq, sIf, sRet, sRetF, sSet, sSetO, sSetIx, sAsg, sPar, sNil, sDrop, sRetO, sMut1, oApp, ofRo, Ro.bind, lift, eVar, eC, eOp, eCmp, qCmp, qAnd, qOr, qNot, qTru, eAnd, eOr, eNot, eIf, eNeg, eChain, qChain, eIxV, slotD, dIx, dIxS, isDic, atI, ixN, eCall, aCons, aNil, eTup, eLst, oLen, eLenV, lenD, oInt, eq_ii, lt_ii, gt_ii, ge_ii, le_ii, add_ii, sub_ii, outR, outOk, outs, ownS, isNo, isLstS, List.replicate, eCallD, callM, okAr, arS, putO, rV, rO, rNil, tName, tTupl, tsCons, tsNil, eLc, lcL, iSeq, seqD, qYes, noOwn, isOwn, wipeE, backE, sl24, q2]
theorem r9 {n : Nat} {d : D} {a0 : Int} (hT : Tape n d) (hn : n ≤ 100000) : ∃ (ps : List Int) (tp : D) (y5 : Slot) (k : Nat), st9_law_is_right [.o d, .v X, .v L, .v A, .v (.tup ([a0].map D.int)), .no, s6, s7, s8, s9, s10, s11, s12] = .nx [.o tp, .v X, .v L, .v A, .v (.tup ((a0 :: ps).map D.int)), y5, s6, s7, s8, s9, s10, s11, s12] ∧ k ≤ 15 ∧ Tape (n + k) tp ∧ ps.length ≤ 7 ∧ ∀ b ∈ ps, 1 ≤ b ∧ b ≤ 5 := by
  obtain ⟨a, t2, q2, a1, a2, T2⟩ := s_pick (m := 8) hT (by omega) (by omega) (by omega)
  obtain ⟨m, rfl⟩ : ∃ m : Nat, a = (m : Int) := ⟨a.toNat, by omega⟩
  obtain ⟨ps, tp, y5, e, T3, l, h⟩ := part_loop (X := X) (L := L) (A := A) (a0 := a0) (s6 := s6) (s7 := s7) (s8 := s8) (s9 := s9) (s10 := s10) (s11 := s11) (s12 := s12) m 0 (ps := []) (s5 := .no) T2 (by omega) (by simp; omega) (by simp)
  refine ⟨ps, tp, y5, 1 + 2 * m, ?_, by omega, by rw [← Nat.add_assoc]; exact T3, by simp at l; omega, h⟩
  refine (sFor_nat (n := m) ?_ (by omega)).trans e
  simp [runM, runF, sSeq, sIf, sRet, sRetF, sSet, sSetO, sSetIx, sAsg, sPar, sNil, sDrop, sRetO, sMut1, oApp, ofRo, Ro.bind, lift, eVar, eC, eOp, eCmp, qCmp, qAnd, qOr, qNot, qTru, eAnd, eOr, eNot, eIf, eNeg, eChain, qChain, eIxV, slotD, dIx, dIxS, isDic, atI, ixN, eCall, aCons, aNil, eTup, eLst, oLen, eLenV, lenD, oInt, eq_ii, lt_ii, gt_ii, ge_ii, le_ii, add_ii, sub_ii, outR, outOk, outs, ownS, isNo, isLstS, List.replicate, eCallD, callM, okAr, arS, putO, rV, rO, rNil, tName, tTupl, tsCons, tsNil, eLc, lcL, iSeq, seqD, qYes, noOwn, isOwn, wipeE, backE, sl24, q2]
theorem r10 {d : D} {a0 : Int} {ps : List Int} (h1 : -4 ≤ a0 ∧ a0 ≤ 4) (hl : ps.length ≤ 7) (hp : ∀ b ∈ ps, 1 ≤ b ∧ b ≤ 5) : st10_law_is_right [.o d, .v X, .v L, .v A, .v (.tup ((a0 :: ps).map D.int)), s5, s6, s7, s8, s9, s10, s11, s12] = .nx [.o d, .v X, .v L, .v A, .v (.tup ((a0 :: ps).map D.int)), s5, s6, s7, s8, s9, s10, s11, s12] := by
  have bd : ∀ a ∈ a0 :: ps, a.natAbs ≤ 5 := fun a ha => by
    rcases List.mem_cons.mp ha with rfl | ha
    · omega
    · have := hp a ha; omega
  have eb := ev_bottom (a := a0) (l := ps) fun b hb => (hp b hb).1
  have sb := ev_sbk (k := 3) (l := a0 :: ps) fun a ha => by have := bd a ha; omega
  have pw : 2 ^ (3 * (a0 :: ps).length) ≤ 2 ^ 24 := Nat.pow_le_pow_right (by decide) (by simp; omega)
  have tl : ∀ a ∈ (a0 :: ps).tail, 1 ≤ a := fun b hb => (hp b hb).1
  have ln : (a0 :: ps).length ≤ 60 := by simp; omega
  have r := repr_of (rp_F (p := (ev (a0 :: ps)).1) (q := (ev (a0 :: ps)).2) (by rw [BD_eq]; omega) (by rw [BD_eq]; omega))
  have n := ne_repr (rp_F (p := (ev (a0 :: ps)).1) (q := (ev (a0 :: ps)).2) (by rw [BD_eq]; omega) (by rw [BD_eq]; omega))
  generalize a0 :: ps = l at *
  obtain ⟨i, c0, rfl⟩ : ∃ i c0, l = i ++ [c0] := by
    have ne : l ≠ [] := by
      rintro rfl
      simp [ev] at eb
    exact ⟨l.dropLast, l.getLast ne, (List.dropLast_concat_getLast ne).symm⟩
  have f1 := s_from (fun a ha => by have := bd a ha; omega) tl ln
  have f2 := (s_lfrom (fun a ha => by have := bd a ha; omega) eb ln (Nat.lt_of_le_of_lt (show _ ≤ 2 ^ 24 by omega) (by decide))).2
  generalize F (ev (i ++ [c0])).1 (ev (i ++ [c0])).2 = R at *
  generalize (i ++ [c0]).map D.int = P at *
  simp [st10_law_is_right, runM, runF, sSeq, sIf, sRet, sRetF, sSet, sSetO, sSetIx, sAsg, sPar, sNil, sDrop, sRetO, sMut1, oApp, ofRo, Ro.bind, lift, eVar, eC, eOp, eCmp, qCmp, qAnd, qOr, qNot, qTru, eAnd, eOr, eNot, eIf, eNeg, eChain, qChain, eIxV, slotD, dIx, dIxS, isDic, atI, ixN, eCall, aCons, aNil, eTup, eLst, oLen, eLenV, lenD, oInt, eq_ii, lt_ii, gt_ii, ge_ii, le_ii, add_ii, sub_ii, outR, outOk, outs, ownS, isNo, isLstS, List.replicate, eCallD, callM, okAr, arS, putO, rV, rO, rNil, tName, tTupl, tsCons, tsNil, eLc, lcL, iSeq, seqD, qYes, noOwn, isOwn, wipeE, backE, sl24, f1, f2, r, n]
theorem r11 {n : Nat} {d : D} (hT : Tape n d) (hn : n ≤ 1000000) : ∃ (m : Nat) (tp : D), 1 ≤ m ∧ m ≤ 30 ∧ st11_law_is_right [.o d, .v X, .v L, .v A, s4, s5, .no, s7, s8, s9, s10, s11, s12] = .nx [.o tp, .v X, .v L, .v A, s4, s5, .v (.int (m : Int)), s7, s8, s9, s10, s11, s12] ∧ Tape (n + 2) tp := by
  obtain ⟨x, t1, hx, q1, T1⟩ := s_any (xs := [.int 3, .int 30]) hT (by omega) (by simp) (by simp)
  have hg : ∃ g : Int, x = .int g ∧ 0 < g ∧ g ≤ 30 := by
    simp at hx
    rcases hx with rfl | rfl <;> exact ⟨_, rfl, by omega, by omega⟩
  obtain ⟨g, rfl, g0, g1⟩ := hg
  obtain ⟨a, t2, q2, a0, a1, T2⟩ := s_pick (m := g) T1 (by omega) (by omega) (by omega)
  refine ⟨(1 + a).toNat, t2, by omega, by omega, ?_, T2⟩
  rw [show (((1 + a).toNat : Nat) : Int) = 1 + a by omega]
  simp [st11_law_is_right, runM, runF, sSeq, sIf, sRet, sRetF, sSet, sSetO, sSetIx, sAsg, sPar, sNil, sDrop, sRetO, sMut1, oApp, ofRo, Ro.bind, lift, eVar, eC, eOp, eCmp, qCmp, qAnd, qOr, qNot, qTru, eAnd, eOr, eNot, eIf, eNeg, eChain, qChain, eIxV, slotD, dIx, dIxS, isDic, atI, ixN, eCall, aCons, aNil, eTup, eLst, oLen, eLenV, lenD, oInt, eq_ii, lt_ii, gt_ii, ge_ii, le_ii, add_ii, sub_ii, outR, outOk, outs, ownS, isNo, isLstS, List.replicate, eCallD, callM, okAr, arS, putO, rV, rO, rNil, tName, tTupl, tsCons, tsNil, eLc, lcL, iSeq, seqD, qYes, noOwn, isOwn, wipeE, backE, sl24, q1, q2]
theorem r12 {d : D} {p q : Int} (k : Fr p q) {m : Nat} (h1 : 1 ≤ m) (h2 : m ≤ 30) : st12_law_is_right [.o d, .v (F p q), .v L, .v A, s4, s5, .v (.int (m : Int)), s7, s8, s9, s10, s11, s12] = .nx [.o d, .v (F p q), .v L, .v A, s4, s5, .v (.int (m : Int)), s7, s8, s9, s10, s11, s12] := by
  obtain ⟨s, e1, e2, bd⟩ := s_best k h1 (by omega)
  have ht := bd.ht
  have hb := bd.hb
  have hb1 := bd.b1
  have r := repr_of (rp_F (p := s.1) (q := s.2) (by rw [BD_eq]; omega) (by rw [BD_eq]; omega))
  have n := ne_repr (rp_F (p := s.1) (q := s.2) (by rw [BD_eq]; omega) (by rw [BD_eq]; omega))
  generalize F s.1 s.2 = R at *
  generalize F p q = X at *
  simp [st12_law_is_right, runM, runF, sSeq, sIf, sRet, sRetF, sSet, sSetO, sSetIx, sAsg, sPar, sNil, sDrop, sRetO, sMut1, oApp, ofRo, Ro.bind, lift, eVar, eC, eOp, eCmp, qCmp, qAnd, qOr, qNot, qTru, eAnd, eOr, eNot, eIf, eNeg, eChain, qChain, eIxV, slotD, dIx, dIxS, isDic, atI, ixN, eCall, aCons, aNil, eTup, eLst, oLen, eLenV, lenD, oInt, eq_ii, lt_ii, gt_ii, ge_ii, le_ii, add_ii, sub_ii, outR, outOk, outs, ownS, isNo, isLstS, List.replicate, eCallD, callM, okAr, arS, putO, rV, rO, rNil, tName, tTupl, tsCons, tsNil, eLc, lcL, iSeq, seqD, qYes, noOwn, isOwn, wipeE, backE, sl24, e1, e2, r, n]
theorem r13 {n : Nat} {d : D} (hT : Tape n d) (hn : n ≤ 1000000) : ∃ (u m : Nat) (tp : D), 1 ≤ u ∧ u ≤ 900 ∧ m ≤ 11 ∧ st13_law_is_right [.o d, .v X, .v L, .v A, s4, s5, s6, s7, s8, s9, .no, .no, s12] = .nx [.o tp, .v X, .v L, .v A, s4, s5, s6, s7, s8, s9, .v (.int (u : Int)), .v (.int ((m + 1 : Nat) : Int)), s12] ∧ Tape (n + 3) tp := by
  obtain ⟨x, t1, hx, q1, T1⟩ := s_any (xs := [.int 30, .int 900]) hT (by omega) (by simp) (by simp)
  have hg : ∃ g : Int, x = .int g ∧ 0 < g ∧ g ≤ 900 := by
    simp at hx
    rcases hx with rfl | rfl <;> exact ⟨_, rfl, by omega, by omega⟩
  obtain ⟨g, rfl, g0, g1⟩ := hg
  obtain ⟨a, t2, q2, a0, a1, T2⟩ := s_pick (m := g) T1 (by omega) (by omega) (by omega)
  obtain ⟨b, t3, q3, b0, b1, T3⟩ := s_pick (m := 12) T2 (by omega) (by omega) (by omega)
  refine ⟨(1 + a).toNat, b.toNat, t3, by omega, by omega, by omega, ?_, T3⟩
  rw [show (((1 + a).toNat : Nat) : Int) = 1 + a by omega, show ((b.toNat + 1 : Nat) : Int) = 1 + b by omega]
  simp [st13_law_is_right, runM, runF, sSeq, sIf, sRet, sRetF, sSet, sSetO, sSetIx, sAsg, sPar, sNil, sDrop, sRetO, sMut1, oApp, ofRo, Ro.bind, lift, eVar, eC, eOp, eCmp, qCmp, qAnd, qOr, qNot, qTru, eAnd, eOr, eNot, eIf, eNeg, eChain, qChain, eIxV, slotD, dIx, dIxS, isDic, atI, ixN, eCall, aCons, aNil, eTup, eLst, oLen, eLenV, lenD, oInt, eq_ii, lt_ii, gt_ii, ge_ii, le_ii, add_ii, sub_ii, outR, outOk, outs, ownS, isNo, isLstS, List.replicate, eCallD, callM, okAr, arS, putO, rV, rO, rNil, tName, tTupl, tsCons, tsNil, eLc, lcL, iSeq, seqD, qYes, noOwn, isOwn, wipeE, backE, sl24, q1, q2, q3]
theorem r14 {d : D} {u m : Nat} (h1 : 1 ≤ u) (h2 : u ≤ 900) (h3 : m ≤ 11) : st14_law_is_right [.o d, .v X, .v L, .v A, s4, s5, s6, s7, s8, s9, .v (.int (u : Int)), .v (.int ((m + 1 : Nat) : Int)), s12] = .ret (.bl true) [.o d, .v X, .v L, .v A, s4, s5, s6, s7, s8, s9, .v (.int (u : Int)), .v (.int ((m + 1 : Nat) : Int)), s12] := by
  obtain ⟨ys, e1, e2, hy, hl⟩ := s_root_chain h1 h2 h3
  have g := (rp_all (xs := ys.map D.int) (fun x hx => by
    obtain ⟨y, hy', rfl⟩ := List.mem_map.mp hx
    have := hy y hy'
    exact it_int (by rw [BD_eq]; omega)) (by simp; omega)).2
  have r := repr_of g
  have n := eq_of_ne (ne_repr g)
  generalize PyData.shown (toPy (.tup (ys.map D.int))) = S at *
  generalize ys.map D.int = Y at *
  generalize ((m + 1 : Nat) : Int) = M at *
  simp [st14_law_is_right, runM, runF, sSeq, sIf, sRet, sRetF, sSet, sSetO, sSetIx, sAsg, sPar, sNil, sDrop, sRetO, sMut1, oApp, ofRo, Ro.bind, lift, eVar, eC, eOp, eCmp, qCmp, qAnd, qOr, qNot, qTru, eAnd, eOr, eNot, eIf, eNeg, eChain, qChain, eIxV, slotD, dIx, dIxS, isDic, atI, ixN, eCall, aCons, aNil, eTup, eLst, oLen, eLenV, lenD, oInt, eq_ii, lt_ii, gt_ii, ge_ii, le_ii, add_ii, sub_ii, outR, outOk, outs, ownS, isNo, isLstS, List.replicate, eCallD, callM, okAr, arS, putO, rV, rO, rNil, tName, tTupl, tsCons, tsNil, eLc, lcL, iSeq, seqD, qYes, noOwn, isOwn, wipeE, backE, sl24, e1, e2, r, n]
end
end K02

set_option exponentiation.threshold 3000
namespace K02
open PySem L2 LamX Rf
theorem s_right {n : Nat} {d : D} (hT : Tape n d) (hn : n ≤ 10000) : ∃ tp m, m__law_is_right [.o d] = .ok (.bl true) [.o tp] ∧ m ≤ 30 ∧ Tape (n + m) tp := by
  obtain ⟨p, q, t1, e1, k, T1⟩ := s_fraction hT (by omega)
  obtain ⟨l, h⟩ := CF.ex (q.toNat + 1) p q (by have := k.q0; omega) (by omega)
  have lc := s_lchain h k
  have g1 : st1_law_is_right [.o d, .no, .no, .no, .no, .no, .no, .no, .no, .no, .no, .no, .no] = .nx [.o t1, .v (F p q), .no, .no, .no, .no, .no, .no, .no, .no, .no, .no, .no] := by
    generalize F p q = X at *
    simp [st1_law_is_right, runM, runF, sSeq, sIf, sRet, sRetF, sSet, sSetO, sSetIx, sAsg, sPar, sNil, sDrop, sRetO, sMut1, oApp, ofRo, Ro.bind, lift, eVar, eC, eOp, eCmp, qCmp, qAnd, qOr, qNot, qTru, eAnd, eOr, eNot, eIf, eNeg, eChain, qChain, eIxV, slotD, dIx, dIxS, isDic, atI, ixN, eCall, aCons, aNil, eTup, eLst, oLen, eLenV, lenD, oInt, eq_ii, lt_ii, gt_ii, ge_ii, le_ii, add_ii, sub_ii, outR, outOk, outs, ownS, isNo, isLstS, List.replicate, eCallD, callM, okAr, arS, putO, rV, rO, rNil, tName, tTupl, tsCons, tsNil, eLc, lcL, iSeq, seqD, qYes, noOwn, isOwn, wipeE, backE, sl24, e1]
  have g2 : st2_law_is_right [.o t1, .v (F p q), .no, .no, .no, .no, .no, .no, .no, .no, .no, .no, .no] = .nx [.o t1, .v (F p q), .v (.lst (l.map D.int)), .no, .no, .no, .no, .no, .no, .no, .no, .no, .no] := by
    generalize l.map D.int = L at *
    generalize F p q = X at *
    simp [st2_law_is_right, runM, runF, sSeq, sIf, sRet, sRetF, sSet, sSetO, sSetIx, sAsg, sPar, sNil, sDrop, sRetO, sMut1, oApp, ofRo, Ro.bind, lift, eVar, eC, eOp, eCmp, qCmp, qAnd, qOr, qNot, qTru, eAnd, eOr, eNot, eIf, eNeg, eChain, qChain, eIxV, slotD, dIx, dIxS, isDic, atI, ixN, eCall, aCons, aNil, eTup, eLst, oLen, eLenV, lenD, oInt, eq_ii, lt_ii, gt_ii, ge_ii, le_ii, add_ii, sub_ii, outR, outOk, outs, ownS, isNo, isLstS, List.replicate, eCallD, callM, okAr, arS, putO, rV, rO, rNil, tName, tTupl, tsCons, tsNil, eLc, lcL, iSeq, seqD, qYes, noOwn, isOwn, wipeE, backE, sl24, lc]
  have g3 := r3 (t := t1) h k
  have g4 := r4 (t := t1) h k
  have g5 := r5 (t := t1) h k
  have g6 := r6 (t := t1) h k
  obtain ⟨y7, y8, y9, g7⟩ := r7 (t := t1) h k
  obtain ⟨a0, t2, a1, a2, g8, T2⟩ := r8 (X := F p q) (L := .lst (l.map D.int)) (A := .lst (nearL l l.length)) (s5 := .no) (s6 := .no) (s7 := y7) (s8 := y8) (s9 := y9) (s10 := .no) (s11 := .no) (s12 := .no) T1 (by omega)
  obtain ⟨ps, t3, y5, m, g9, hm, T3, hl, hp⟩ := r9 (X := F p q) (L := .lst (l.map D.int)) (A := .lst (nearL l l.length)) (a0 := a0) (s6 := .no) (s7 := y7) (s8 := y8) (s9 := y9) (s10 := .no) (s11 := .no) (s12 := .no) T2 (by omega)
  have g10 := r10 (X := F p q) (L := .lst (l.map D.int)) (A := .lst (nearL l l.length)) (d := t3) (a0 := a0) (ps := ps) (s5 := y5) (s6 := .no) (s7 := y7) (s8 := y8) (s9 := y9) (s10 := .no) (s11 := .no) (s12 := .no) ⟨a1, a2⟩ hl hp
  obtain ⟨mo, t4, m1, m2, g11, T4⟩ := r11 (X := F p q) (L := .lst (l.map D.int)) (A := .lst (nearL l l.length)) (s4 := .v (.tup ((a0 :: ps).map D.int))) (s5 := y5) (s7 := y7) (s8 := y8) (s9 := y9) (s10 := .no) (s11 := .no) (s12 := .no) T3 (by omega)
  have g12 := r12 (L := .lst (l.map D.int)) (A := .lst (nearL l l.length)) (d := t4) (s4 := .v (.tup ((a0 :: ps).map D.int))) (s5 := y5) (s7 := y7) (s8 := y8) (s9 := y9) (s10 := .no) (s11 := .no) (s12 := .no) k m1 m2
  obtain ⟨u, v, t5, u1, u2, v1, g13, T5⟩ := r13 (X := F p q) (L := .lst (l.map D.int)) (A := .lst (nearL l l.length)) (s4 := .v (.tup ((a0 :: ps).map D.int))) (s5 := y5) (s6 := .v (.int (mo : Int))) (s7 := y7) (s8 := y8) (s9 := y9) (s12 := .no) T4 (by omega)
  have g14 := r14 (X := F p q) (L := .lst (l.map D.int)) (A := .lst (nearL l l.length)) (d := t5) (s4 := .v (.tup ((a0 :: ps).map D.int))) (s5 := y5) (s6 := .v (.int (mo : Int))) (s7 := y7) (s8 := y8) (s9 := y9) (s12 := .no) u1 u2 v1
  refine ⟨t5, 3 + 1 + m + 2 + 3, ?_, by omega, by rw [show n + (3 + 1 + m + 2 + 3) = n + 3 + 1 + m + 2 + 3 by omega]; exact T5⟩
  have hb := (congrFun ch_law_is_right [.o d, .no, .no, .no, .no, .no, .no, .no, .no, .no, .no, .no, .no]).trans ((seq_nx g1).trans ((seq_nx g2).trans ((seq_nx g3).trans ((seq_nx g4).trans ((seq_nx g5).trans ((seq_nx g6).trans ((seq_nx g7).trans ((seq_nx g8).trans ((seq_nx g9).trans ((seq_nx g10).trans ((seq_nx g11).trans ((seq_nx g12).trans ((seq_nx g13).trans g14)))))))))))))
  exact runM_ret hb rfl rfl rfl rfl
def st1_law : Env' → So := sSetO 1 (eCallD m__law_tape (rV (eVar 0) (rNil)))
def st2_law : Env' → So := sSetO 2 (eLst (aCons (eCallD m_chain (rV (eTup (aCons (eC (.int 10)) (aCons (eC (.int 7)) (aNil)))) (rNil))) (aCons (eCallD m_chain (rV (eTup (aCons (eNeg (eC (.int 1))) (aCons (eC (.int 2)) (aNil)))) (rNil))) (aCons (eCallD m_from_chain (rV (eTup (aCons (eC (.int 1)) (aCons (eC (.int 2)) (aCons (eC (.int 3)) (aNil))))) (rNil))) (aCons (eCallD m_near_fractions (rV (eTup (aCons (eC (.int 10)) (aCons (eC (.int 7)) (aNil)))) (rNil))) (aCons (eCallD m_best_below (rV (eTup (aCons (eC (.int 1)) (aCons (eC (.int 2)) (aNil)))) (rV (eC (.int 1)) (rNil)))) (aNil)))))))
def st3_law : Env' → So := sMut1 2 oApp (eCallD m_root_chain (rV (eC (.int 2)) (rV (eC (.int 3)) (rNil))))
def st4_law : Env' → So := sIf (qOr (qCmp bNe (eVar 2) (eLst (aCons (eLst (aCons (eC (.int 1)) (aCons (eC (.int 2)) (aCons (eC (.int 3)) (aNil))))) (aCons (eLst (aCons (eNeg (eC (.int 1))) (aCons (eC (.int 2)) (aNil)))) (aCons (eTup (aCons (eC (.int 10)) (aCons (eC (.int 7)) (aNil)))) (aCons (eLst (aCons (eTup (aCons (eC (.int 1)) (aCons (eC (.int 1)) (aNil)))) (aCons (eTup (aCons (eC (.int 3)) (aCons (eC (.int 2)) (aNil)))) (aCons (eTup (aCons (eC (.int 10)) (aCons (eC (.int 7)) (aNil)))) (aNil))))) (aCons (eTup (aCons (eC (.int 0)) (aCons (eC (.int 1)) (aNil)))) (aCons (eTup (aCons (eC (.int 1)) (aCons (eC (.int 2)) (aCons (eC (.int 2)) (aNil))))) (aNil))))))))) (qCmp bNe (eCallD m_root_chain (rV (eC (.int 9)) (rV (eC (.int 5)) (rNil)))) (eTup (aCons (eC (.int 3)) (aNil))))) (sRet (eC (.bl false))) (sNil)
def st5_law : Env' → So := sFor (iR1 (eC (.int 6))) (tName 3) (lb1_law)
def st6_law : Env' → So := sRet (eC (.bl true))
theorem ch_law : b_law = sSeq st1_law (sSeq st2_law (sSeq st3_law (sSeq st4_law (sSeq st5_law (st6_law))))) := rfl
def st1_lb1_law : Env' → So := sIf (qOr (qNot (qTru (eCallD m__law_is_right (rO 1 (rNil))))) (qNot (qTru (eCallD m__law_is_refused (rO 1 (rNil)))))) (sRet (eC (.bl false))) (sNil)
theorem ch_lb1_law : lb1_law = st1_lb1_law := rfl
def preAll : Env' → So := sSeq st2_law (sSeq st3_law st4_law)
def nxg : So → Nat → Slot
  | .nx e, i => e.getD i .no
  | _, _ => .no
theorem pre_ok (z t : D) : preAll [.v z, .o t, .no, .no] = .nx [.v z, .o t, nxg (preAll [.v z, .o t, .no, .no]) 2, nxg (preAll [.v z, .o t, .no, .no]) 3] := by kernel_rfl
theorem body_ok {n : Nat} {d z : D} {x2 x3 : Slot} (hT : Tape n d) (hn : n ≤ 1000) : ∃ tp m, lb1_law [.v z, .o d, x2, x3] = .nx [.v z, .o tp, x2, x3] ∧ m ≤ 35 ∧ Tape (n + m) tp := by
  obtain ⟨t2, m2, q2, h2, T2⟩ := s_right hT (by omega)
  obtain ⟨t3, q3, T3⟩ := s_refused T2 (by omega)
  refine ⟨t3, m2 + 5, ?_, by omega, by rw [show n + (m2 + 5) = n + m2 + 5 by omega]; exact T3⟩
  simp [lb1_law, runM, runF, sSeq, sIf, sRet, sRetF, sSet, sSetO, sSetIx, sAsg, sPar, sNil, sDrop, sRetO, sMut1, oApp, ofRo, Ro.bind, lift, eVar, eC, eOp, eCmp, qCmp, qAnd, qOr, qNot, qTru, eAnd, eOr, eNot, eIf, eNeg, eChain, qChain, eIxV, slotD, dIx, dIxS, isDic, atI, ixN, eCall, aCons, aNil, eTup, eLst, oLen, eLenV, lenD, oInt, eq_ii, lt_ii, gt_ii, ge_ii, le_ii, add_ii, sub_ii, outR, outOk, outs, ownS, isNo, isLstS, List.replicate, eCallD, callM, okAr, arS, putO, rV, rO, rNil, tName, tTupl, tsCons, tsNil, eLc, lcL, iSeq, seqD, qYes, noOwn, isOwn, wipeE, backE, sl24, q2, q3, truD]
theorem loop_ok : ∀ (r : Nat) (lo : Int) {n : Nat} {d z : D} {x2 x3 : Slot}, Tape n d → n + 35 * r ≤ 1000 → ∃ tp x3', forL (tName 3) lb1_law (rng lo r) [.v z, .o d, x2, x3] = .nx [.v z, .o tp, x2, x3']
  | 0, lo, n, d, z, x2, x3, h, _ => ⟨d, x3, rfl⟩
  | r + 1, lo, n, d, z, x2, x3, h, hn => by
    obtain ⟨tp, m, e, hm, T⟩ := body_ok (z := z) (x2 := x2) (x3 := .v (.int lo)) h (by omega)
    obtain ⟨tp2, a, e2⟩ := loop_ok r (lo + 1) (z := z) (x2 := x2) (x3 := .v (.int lo)) T (by omega)
    refine ⟨tp2, a, ?_⟩
    have s : tName 3 (.int lo) [.v z, .o d, x2, x3] = some [.v z, .o d, x2, .v (.int lo)] := rfl
    rw [rng_succ, ← e2]
    simp only [forL, s, e]
theorem plain (ns : List Int) (hl : ns.length ≤ 63) (hb : ∀ z ∈ ns, PySem.Builtin.Int.intBits z ≤ 1048576) : ∃ os, m_law [.v (.scr ns)] = .ok (.bl true) os := by
  obtain ⟨t, q, T⟩ := tape_ok ns hl
  have q' : m__law_tape [.v (.scr ns)] = .ok t [.no] := q
  have p := pre_ok (.scr ns) t
  generalize nxg (preAll [.v (.scr ns), .o t, .no, .no]) 2 = x2 at p
  generalize nxg (preAll [.v (.scr ns), .o t, .no, .no]) 3 = x3 at p
  obtain ⟨tp, y3, e⟩ := loop_ok 6 0 (z := .scr ns) (x2 := x2) (x3 := x3) T (by decide)
  have c1 : st1_law [.v (.scr ns), .no, .no, .no] = .nx [.v (.scr ns), .o t, .no, .no] := by simp [st1_law, runM, runF, sSeq, sIf, sRet, sRetF, sSet, sSetO, sSetIx, sAsg, sPar, sNil, sDrop, sRetO, sMut1, oApp, ofRo, Ro.bind, lift, eVar, eC, eOp, eCmp, qCmp, qAnd, qOr, qNot, qTru, eAnd, eOr, eNot, eIf, eNeg, eChain, qChain, eIxV, slotD, dIx, dIxS, isDic, atI, ixN, eCall, aCons, aNil, eTup, eLst, oLen, eLenV, lenD, oInt, eq_ii, lt_ii, gt_ii, ge_ii, le_ii, add_ii, sub_ii, outR, outOk, outs, ownS, isNo, isLstS, List.replicate, eCallD, callM, okAr, arS, putO, rV, rO, rNil, tName, tTupl, tsCons, tsNil, eLc, lcL, iSeq, seqD, qYes, noOwn, isOwn, wipeE, backE, sl24, q']
  have c5 : st5_law [.v (.scr ns), .o t, x2, x3] = .nx [.v (.scr ns), .o tp, x2, y3] := (sFor_nat (f := eC (.int 6)) (n := 6) rfl (by decide)).trans e
  have h6 : st6_law [.v (.scr ns), .o tp, x2, y3] = .ret (.bl true) [.v (.scr ns), .o tp, x2, y3] := rfl
  have hp : ∀ g : Env' → So, sSeq st2_law (sSeq st3_law (sSeq st4_law g)) = sSeq preAll g := fun g => by
    unfold preAll
    rw [seq_assoc, seq_assoc]
  have h1 : b_law [.v (.scr ns), .no, .no, .no] = .ret (.bl true) [.v (.scr ns), .o tp, x2, y3] := by
    rw [ch_law, seq_nx c1, hp, seq_nx p, seq_nx c5, h6]
  exact ⟨[.no], runM_ret h1 rfl rfl rfl rfl⟩
end K02

namespace K02
open PySem L2 LamX Rf
open PyProof.Rows hiding St
theorem it_NoFraction : InitT (inClass (tp 6) 0) ["self"] [] := ⟨⟨_, _, _, _, _, _, _, _, _, rfl, rfl, rfl, by decide +kernel, by decide +kernel, rfl, rfl, rfl, rfl, rfl, fun _ _ _ _ _ => ⟨⟨_, rfl⟩, rfl, rfl⟩, fun _ _ _ _ _ _ _ _ us hl => match us, hl with | [_], _ => rfl⟩⟩
theorem it_NoNumber : InitT (inClass (tp 7) 0) ["self"] [] := ⟨⟨_, _, _, _, _, _, _, _, _, rfl, rfl, rfl, by decide +kernel, by decide +kernel, rfl, rfl, rfl, rfl, rfl, fun _ _ _ _ _ => ⟨⟨_, rfl⟩, rfl, rfl⟩, fun _ _ _ _ _ _ _ _ us hl => match us, hl with | [_], _ => rfl⟩⟩
theorem mk {K : PySem.W.Frag} {w : World} {h : Heap} {mg : Str → Option Value} {fa : Addr} (X : K.In h) (G : h.Ns mainGlobals mg) (hfa : mg "law" = some (.ref fa))
    {f_is_integer : Addr} {od_is_integer an_is_integer : Option Addr} {sl_is_integer : Array (Option Value)} {oc_is_integer kV_is_integer dc_is_integer pm_is_integer ct_is_integer : Value}
    {cd_is_integer : Value}
    {f_is_within : Addr} {od_is_within an_is_within : Option Addr} {sl_is_within : Array (Option Value)} {oc_is_within kV_is_within dc_is_within pm_is_within ct_is_within : Value}
    {cd_is_within : Value}
    {f_is_tuple : Addr} {od_is_tuple an_is_tuple : Option Addr} {sl_is_tuple : Array (Option Value)} {oc_is_tuple kV_is_tuple dc_is_tuple pm_is_tuple ct_is_tuple : Value}
    {cd_is_tuple : Value}
    {f_divisor : Addr} {od_divisor an_divisor : Option Addr} {sl_divisor : Array (Option Value)} {oc_divisor kV_divisor dc_divisor pm_divisor ct_divisor : Value}
    {cd_divisor : Value}
    {f_lowest : Addr} {od_lowest an_lowest : Option Addr} {sl_lowest : Array (Option Value)} {oc_lowest kV_lowest dc_lowest pm_lowest ct_lowest : Value}
    {cd_lowest : Value}
    {f_take : Addr} {od_take an_take : Option Addr} {sl_take : Array (Option Value)} {oc_take kV_take dc_take pm_take ct_take : Value}
    {cd_take : Value}
    {f_is_less : Addr} {od_is_less an_is_less : Option Addr} {sl_is_less : Array (Option Value)} {oc_is_less kV_is_less dc_is_less pm_is_less ct_is_less : Value}
    {cd_is_less : Value}
    {f_is_fraction : Addr} {od_is_fraction an_is_fraction : Option Addr} {sl_is_fraction : Array (Option Value)} {oc_is_fraction kV_is_fraction dc_is_fraction pm_is_fraction ct_is_fraction : Value}
    {cd_is_fraction : Value}
    {f_check_fraction : Addr} {od_check_fraction an_check_fraction : Option Addr} {sl_check_fraction : Array (Option Value)} {oc_check_fraction kV_check_fraction dc_check_fraction pm_check_fraction ct_check_fraction : Value}
    {cd_check_fraction : Value}
    {f_root_of : Addr} {od_root_of an_root_of : Option Addr} {sl_root_of : Array (Option Value)} {oc_root_of kV_root_of dc_root_of pm_root_of ct_root_of : Value}
    {cd_root_of : Value}
    {f_check_above : Addr} {od_check_above an_check_above : Option Addr} {sl_check_above : Array (Option Value)} {oc_check_above kV_check_above dc_check_above pm_check_above ct_check_above : Value}
    {cd_check_above : Value}
    {f_steps_of : Addr} {od_steps_of an_steps_of : Option Addr} {sl_steps_of : Array (Option Value)} {oc_steps_of kV_steps_of dc_steps_of pm_steps_of ct_steps_of : Value}
    {cd_steps_of : Value}
    {f_chain : Addr} {od_chain an_chain : Option Addr} {sl_chain : Array (Option Value)} {oc_chain kV_chain dc_chain pm_chain ct_chain : Value}
    {cd_chain : Value}
    {f_from_chain : Addr} {od_from_chain an_from_chain : Option Addr} {sl_from_chain : Array (Option Value)} {oc_from_chain kV_from_chain dc_from_chain pm_from_chain ct_from_chain : Value}
    {cd_from_chain : Value}
    {f_near_fractions : Addr} {od_near_fractions an_near_fractions : Option Addr} {sl_near_fractions : Array (Option Value)} {oc_near_fractions kV_near_fractions dc_near_fractions pm_near_fractions ct_near_fractions : Value}
    {cd_near_fractions : Value}
    {f_best_below : Addr} {od_best_below an_best_below : Option Addr} {sl_best_below : Array (Option Value)} {oc_best_below kV_best_below dc_best_below pm_best_below ct_best_below : Value}
    {cd_best_below : Value}
    {f_root_chain : Addr} {od_root_chain an_root_chain : Option Addr} {sl_root_chain : Array (Option Value)} {oc_root_chain kV_root_chain dc_root_chain pm_root_chain ct_root_chain : Value}
    {cd_root_chain : Value}
    {f__law_tape : Addr} {od__law_tape an__law_tape : Option Addr} {sl__law_tape : Array (Option Value)} {oc__law_tape kV__law_tape dc__law_tape pm__law_tape ct__law_tape : Value}
    {cd__law_tape : Value}
    {f__law_pick : Addr} {od__law_pick an__law_pick : Option Addr} {sl__law_pick : Array (Option Value)} {oc__law_pick kV__law_pick dc__law_pick pm__law_pick ct__law_pick : Value}
    {cd__law_pick : Value}
    {f__law_any : Addr} {od__law_any an__law_any : Option Addr} {sl__law_any : Array (Option Value)} {oc__law_any kV__law_any dc__law_any pm__law_any ct__law_any : Value}
    {cd__law_any : Value}
    {f__law_shared : Addr} {od__law_shared an__law_shared : Option Addr} {sl__law_shared : Array (Option Value)} {oc__law_shared kV__law_shared dc__law_shared pm__law_shared ct__law_shared : Value}
    {cd__law_shared : Value}
    {f__law_over : Addr} {od__law_over an__law_over : Option Addr} {sl__law_over : Array (Option Value)} {oc__law_over kV__law_over dc__law_over pm__law_over ct__law_over : Value}
    {cd__law_over : Value}
    {f__law_fraction : Addr} {od__law_fraction an__law_fraction : Option Addr} {sl__law_fraction : Array (Option Value)} {oc__law_fraction kV__law_fraction dc__law_fraction pm__law_fraction ct__law_fraction : Value}
    {cd__law_fraction : Value}
    {f__law_no_fraction : Addr} {od__law_no_fraction an__law_no_fraction : Option Addr} {sl__law_no_fraction : Array (Option Value)} {oc__law_no_fraction kV__law_no_fraction dc__law_no_fraction pm__law_no_fraction ct__law_no_fraction : Value}
    {cd__law_no_fraction : Value}
    {f__law_word : Addr} {od__law_word an__law_word : Option Addr} {sl__law_word : Array (Option Value)} {oc__law_word kV__law_word dc__law_word pm__law_word ct__law_word : Value}
    {cd__law_word : Value}
    {f__law_chain : Addr} {od__law_chain an__law_chain : Option Addr} {sl__law_chain : Array (Option Value)} {oc__law_chain kV__law_chain dc__law_chain pm__law_chain ct__law_chain : Value}
    {cd__law_chain : Value}
    {f__law_from : Addr} {od__law_from an__law_from : Option Addr} {sl__law_from : Array (Option Value)} {oc__law_from kV__law_from dc__law_from pm__law_from ct__law_from : Value}
    {cd__law_from : Value}
    {f__law_best : Addr} {od__law_best an__law_best : Option Addr} {sl__law_best : Array (Option Value)} {oc__law_best kV__law_best dc__law_best pm__law_best ct__law_best : Value}
    {cd__law_best : Value}
    {f__law_root : Addr} {od__law_root an__law_root : Option Addr} {sl__law_root : Array (Option Value)} {oc__law_root kV__law_root dc__law_root pm__law_root ct__law_root : Value}
    {cd__law_root : Value}
    {f__law_is_right : Addr} {od__law_is_right an__law_is_right : Option Addr} {sl__law_is_right : Array (Option Value)} {oc__law_is_right kV__law_is_right dc__law_is_right pm__law_is_right ct__law_is_right : Value}
    {cd__law_is_right : Value}
    {f__law_is_refused : Addr} {od__law_is_refused an__law_is_refused : Option Addr} {sl__law_is_refused : Array (Option Value)} {oc__law_is_refused kV__law_is_refused dc__law_is_refused pm__law_is_refused ct__law_is_refused : Value}
    {cd__law_is_refused : Value}
    {f__law_word_of : Addr} {od__law_word_of an__law_word_of : Option Addr} {sl__law_word_of : Array (Option Value)} {oc__law_word_of kV__law_word_of dc__law_word_of pm__law_word_of ct__law_word_of : Value}
    {cA__law_word_of P__law_word_of : Addr} {ccl__law_word_of : Value} {cdd__law_word_of : Option Addr} {vs__law_word_of : Array Value} {ccs__law_word_of : Array (Option Value)}
    {f__law_word_by : Addr} {od__law_word_by an__law_word_by : Option Addr} {sl__law_word_by : Array (Option Value)} {oc__law_word_by kV__law_word_by dc__law_word_by pm__law_word_by ct__law_word_by : Value}
    {cA__law_word_by P__law_word_by : Addr} {ccl__law_word_by : Value} {cdd__law_word_by : Option Addr} {vs__law_word_by : Array Value} {ccs__law_word_by : Array (Option Value)}
    {f_law : Addr} {od_law an_law : Option Addr} {sl_law : Array (Option Value)} {oc_law kV_law dc_law pm_law ct_law : Value}
    {cd_law : Value}
    {C_GridError : Addr}
    {C_NoFraction I_NoFraction : Addr} {nm_NoFraction q_NoFraction : Str} {N_NoFraction : Addr} {bs_NoFraction bm_NoFraction : List Value} {sn_NoFraction : List Str} {sub_NoFraction : List Value} {ab_NoFraction : Bool} {col_NoFraction : Option Bool} {dd_NoFraction : Option Addr} {k0_NoFraction k1_NoFraction k2_NoFraction k3_NoFraction k5_NoFraction : Option Value}
    {ikV_NoFraction idc_NoFraction ipm_NoFraction ict_NoFraction ioc_NoFraction : Value} {ian_NoFraction iod_NoFraction : Option Addr} {isl_NoFraction : Array (Option Value)} {icc_NoFraction icd_NoFraction : Addr} {iccl_NoFraction : Value} {icdd_NoFraction : Option Addr} {ivs_NoFraction : Array Value} {iccs_NoFraction : Array (Option Value)} {ifl_NoFraction : Str} {itf_NoFraction : Tok} {icl_NoFraction : Value} {icld_NoFraction : Option Addr} {icsl_NoFraction : Array (Option Value)}
    {C_NoNumber I_NoNumber : Addr} {nm_NoNumber q_NoNumber : Str} {N_NoNumber : Addr} {bs_NoNumber bm_NoNumber : List Value} {sn_NoNumber : List Str} {sub_NoNumber : List Value} {ab_NoNumber : Bool} {col_NoNumber : Option Bool} {dd_NoNumber : Option Addr} {k0_NoNumber k1_NoNumber k2_NoNumber k3_NoNumber k5_NoNumber : Option Value}
    {ikV_NoNumber idc_NoNumber ipm_NoNumber ict_NoNumber ioc_NoNumber : Value} {ian_NoNumber iod_NoNumber : Option Addr} {isl_NoNumber : Array (Option Value)} {icc_NoNumber icd_NoNumber : Addr} {iccl_NoNumber : Value} {icdd_NoNumber : Option Addr} {ivs_NoNumber : Array Value} {iccs_NoNumber : Array (Option Value)} {ifl_NoNumber : Str} {itf_NoNumber : Tok} {icl_NoNumber : Value} {icld_NoNumber : Option Addr} {icsl_NoNumber : Array (Option Value)}
    (a_is_integer : PySem.W.nsIn K mainGlobals "is_integer" = some (some (.ref f_is_integer)))
    (l_is_integer : K.lookup f_is_integer = some ⟨oc_is_integer, od_is_integer, .func (PySem.W.fnOf "is_integer" "is_integer" (defArgs (tp 1)) (defBody (tp 1)) (defScope (tp 1)) .none kV_is_integer dc_is_integer pm_is_integer an_is_integer cd_is_integer ct_is_integer), sl_is_integer⟩)
    (c_is_integer : PySem.W.codeIn K cd_is_integer "is_integer" = true)
    (k_is_integer : PySem.W.keepIn K (.ref f_is_integer) = true)
    (a_is_within : PySem.W.nsIn K mainGlobals "is_within" = some (some (.ref f_is_within)))
    (l_is_within : K.lookup f_is_within = some ⟨oc_is_within, od_is_within, .func (PySem.W.fnOf "is_within" "is_within" (defArgs (tp 2)) (defBody (tp 2)) (defScope (tp 2)) .none kV_is_within dc_is_within pm_is_within an_is_within cd_is_within ct_is_within), sl_is_within⟩)
    (c_is_within : PySem.W.codeIn K cd_is_within "is_within" = true)
    (k_is_within : PySem.W.keepIn K (.ref f_is_within) = true)
    (a_is_tuple : PySem.W.nsIn K mainGlobals "is_tuple" = some (some (.ref f_is_tuple)))
    (l_is_tuple : K.lookup f_is_tuple = some ⟨oc_is_tuple, od_is_tuple, .func (PySem.W.fnOf "is_tuple" "is_tuple" (defArgs (tp 3)) (defBody (tp 3)) (defScope (tp 3)) .none kV_is_tuple dc_is_tuple pm_is_tuple an_is_tuple cd_is_tuple ct_is_tuple), sl_is_tuple⟩)
    (c_is_tuple : PySem.W.codeIn K cd_is_tuple "is_tuple" = true)
    (k_is_tuple : PySem.W.keepIn K (.ref f_is_tuple) = true)
    (a_divisor : PySem.W.nsIn K mainGlobals "divisor" = some (some (.ref f_divisor)))
    (l_divisor : K.lookup f_divisor = some ⟨oc_divisor, od_divisor, .func (PySem.W.fnOf "divisor" "divisor" (defArgs (tp 10)) (defBody (tp 10)) (defScope (tp 10)) .none kV_divisor dc_divisor pm_divisor an_divisor cd_divisor ct_divisor), sl_divisor⟩)
    (c_divisor : PySem.W.codeIn K cd_divisor "divisor" = true)
    (k_divisor : PySem.W.keepIn K (.ref f_divisor) = true)
    (a_lowest : PySem.W.nsIn K mainGlobals "lowest" = some (some (.ref f_lowest)))
    (l_lowest : K.lookup f_lowest = some ⟨oc_lowest, od_lowest, .func (PySem.W.fnOf "lowest" "lowest" (defArgs (tp 11)) (defBody (tp 11)) (defScope (tp 11)) .none kV_lowest dc_lowest pm_lowest an_lowest cd_lowest ct_lowest), sl_lowest⟩)
    (c_lowest : PySem.W.codeIn K cd_lowest "lowest" = true)
    (k_lowest : PySem.W.keepIn K (.ref f_lowest) = true)
    (a_take : PySem.W.nsIn K mainGlobals "take" = some (some (.ref f_take)))
    (l_take : K.lookup f_take = some ⟨oc_take, od_take, .func (PySem.W.fnOf "take" "take" (defArgs (tp 12)) (defBody (tp 12)) (defScope (tp 12)) .none kV_take dc_take pm_take an_take cd_take ct_take), sl_take⟩)
    (c_take : PySem.W.codeIn K cd_take "take" = true)
    (k_take : PySem.W.keepIn K (.ref f_take) = true)
    (a_is_less : PySem.W.nsIn K mainGlobals "is_less" = some (some (.ref f_is_less)))
    (l_is_less : K.lookup f_is_less = some ⟨oc_is_less, od_is_less, .func (PySem.W.fnOf "is_less" "is_less" (defArgs (tp 13)) (defBody (tp 13)) (defScope (tp 13)) .none kV_is_less dc_is_less pm_is_less an_is_less cd_is_less ct_is_less), sl_is_less⟩)
    (c_is_less : PySem.W.codeIn K cd_is_less "is_less" = true)
    (k_is_less : PySem.W.keepIn K (.ref f_is_less) = true)
    (a_is_fraction : PySem.W.nsIn K mainGlobals "is_fraction" = some (some (.ref f_is_fraction)))
    (l_is_fraction : K.lookup f_is_fraction = some ⟨oc_is_fraction, od_is_fraction, .func (PySem.W.fnOf "is_fraction" "is_fraction" (defArgs (tp 14)) (defBody (tp 14)) (defScope (tp 14)) .none kV_is_fraction dc_is_fraction pm_is_fraction an_is_fraction cd_is_fraction ct_is_fraction), sl_is_fraction⟩)
    (c_is_fraction : PySem.W.codeIn K cd_is_fraction "is_fraction" = true)
    (k_is_fraction : PySem.W.keepIn K (.ref f_is_fraction) = true)
    (a_check_fraction : PySem.W.nsIn K mainGlobals "check_fraction" = some (some (.ref f_check_fraction)))
    (l_check_fraction : K.lookup f_check_fraction = some ⟨oc_check_fraction, od_check_fraction, .func (PySem.W.fnOf "check_fraction" "check_fraction" (defArgs (tp 15)) (defBody (tp 15)) (defScope (tp 15)) .none kV_check_fraction dc_check_fraction pm_check_fraction an_check_fraction cd_check_fraction ct_check_fraction), sl_check_fraction⟩)
    (c_check_fraction : PySem.W.codeIn K cd_check_fraction "check_fraction" = true)
    (k_check_fraction : PySem.W.keepIn K (.ref f_check_fraction) = true)
    (a_root_of : PySem.W.nsIn K mainGlobals "root_of" = some (some (.ref f_root_of)))
    (l_root_of : K.lookup f_root_of = some ⟨oc_root_of, od_root_of, .func (PySem.W.fnOf "root_of" "root_of" (defArgs (tp 16)) (defBody (tp 16)) (defScope (tp 16)) .none kV_root_of dc_root_of pm_root_of an_root_of cd_root_of ct_root_of), sl_root_of⟩)
    (c_root_of : PySem.W.codeIn K cd_root_of "root_of" = true)
    (k_root_of : PySem.W.keepIn K (.ref f_root_of) = true)
    (a_check_above : PySem.W.nsIn K mainGlobals "check_above" = some (some (.ref f_check_above)))
    (l_check_above : K.lookup f_check_above = some ⟨oc_check_above, od_check_above, .func (PySem.W.fnOf "check_above" "check_above" (defArgs (tp 17)) (defBody (tp 17)) (defScope (tp 17)) .none kV_check_above dc_check_above pm_check_above an_check_above cd_check_above ct_check_above), sl_check_above⟩)
    (c_check_above : PySem.W.codeIn K cd_check_above "check_above" = true)
    (k_check_above : PySem.W.keepIn K (.ref f_check_above) = true)
    (a_steps_of : PySem.W.nsIn K mainGlobals "steps_of" = some (some (.ref f_steps_of)))
    (l_steps_of : K.lookup f_steps_of = some ⟨oc_steps_of, od_steps_of, .func (PySem.W.fnOf "steps_of" "steps_of" (defArgs (tp 18)) (defBody (tp 18)) (defScope (tp 18)) .none kV_steps_of dc_steps_of pm_steps_of an_steps_of cd_steps_of ct_steps_of), sl_steps_of⟩)
    (c_steps_of : PySem.W.codeIn K cd_steps_of "steps_of" = true)
    (k_steps_of : PySem.W.keepIn K (.ref f_steps_of) = true)
    (a_chain : PySem.W.nsIn K mainGlobals "chain" = some (some (.ref f_chain)))
    (l_chain : K.lookup f_chain = some ⟨oc_chain, od_chain, .func (PySem.W.fnOf "chain" "chain" (defArgs (tp 19)) (defBody (tp 19)) (defScope (tp 19)) .none kV_chain dc_chain pm_chain an_chain cd_chain ct_chain), sl_chain⟩)
    (c_chain : PySem.W.codeIn K cd_chain "chain" = true)
    (k_chain : PySem.W.keepIn K (.ref f_chain) = true)
    (a_from_chain : PySem.W.nsIn K mainGlobals "from_chain" = some (some (.ref f_from_chain)))
    (l_from_chain : K.lookup f_from_chain = some ⟨oc_from_chain, od_from_chain, .func (PySem.W.fnOf "from_chain" "from_chain" (defArgs (tp 20)) (defBody (tp 20)) (defScope (tp 20)) .none kV_from_chain dc_from_chain pm_from_chain an_from_chain cd_from_chain ct_from_chain), sl_from_chain⟩)
    (c_from_chain : PySem.W.codeIn K cd_from_chain "from_chain" = true)
    (k_from_chain : PySem.W.keepIn K (.ref f_from_chain) = true)
    (a_near_fractions : PySem.W.nsIn K mainGlobals "near_fractions" = some (some (.ref f_near_fractions)))
    (l_near_fractions : K.lookup f_near_fractions = some ⟨oc_near_fractions, od_near_fractions, .func (PySem.W.fnOf "near_fractions" "near_fractions" (defArgs (tp 21)) (defBody (tp 21)) (defScope (tp 21)) .none kV_near_fractions dc_near_fractions pm_near_fractions an_near_fractions cd_near_fractions ct_near_fractions), sl_near_fractions⟩)
    (c_near_fractions : PySem.W.codeIn K cd_near_fractions "near_fractions" = true)
    (k_near_fractions : PySem.W.keepIn K (.ref f_near_fractions) = true)
    (a_best_below : PySem.W.nsIn K mainGlobals "best_below" = some (some (.ref f_best_below)))
    (l_best_below : K.lookup f_best_below = some ⟨oc_best_below, od_best_below, .func (PySem.W.fnOf "best_below" "best_below" (defArgs (tp 22)) (defBody (tp 22)) (defScope (tp 22)) .none kV_best_below dc_best_below pm_best_below an_best_below cd_best_below ct_best_below), sl_best_below⟩)
    (c_best_below : PySem.W.codeIn K cd_best_below "best_below" = true)
    (k_best_below : PySem.W.keepIn K (.ref f_best_below) = true)
    (a_root_chain : PySem.W.nsIn K mainGlobals "root_chain" = some (some (.ref f_root_chain)))
    (l_root_chain : K.lookup f_root_chain = some ⟨oc_root_chain, od_root_chain, .func (PySem.W.fnOf "root_chain" "root_chain" (defArgs (tp 23)) (defBody (tp 23)) (defScope (tp 23)) .none kV_root_chain dc_root_chain pm_root_chain an_root_chain cd_root_chain ct_root_chain), sl_root_chain⟩)
    (c_root_chain : PySem.W.codeIn K cd_root_chain "root_chain" = true)
    (k_root_chain : PySem.W.keepIn K (.ref f_root_chain) = true)
    (a__law_tape : PySem.W.nsIn K mainGlobals "_law_tape" = some (some (.ref f__law_tape)))
    (l__law_tape : K.lookup f__law_tape = some ⟨oc__law_tape, od__law_tape, .func (PySem.W.fnOf "_law_tape" "_law_tape" (defArgs (tp 25)) (defBody (tp 25)) (defScope (tp 25)) .none kV__law_tape dc__law_tape pm__law_tape an__law_tape cd__law_tape ct__law_tape), sl__law_tape⟩)
    (c__law_tape : PySem.W.codeIn K cd__law_tape "_law_tape" = true)
    (k__law_tape : PySem.W.keepIn K (.ref f__law_tape) = true)
    (a__law_pick : PySem.W.nsIn K mainGlobals "_law_pick" = some (some (.ref f__law_pick)))
    (l__law_pick : K.lookup f__law_pick = some ⟨oc__law_pick, od__law_pick, .func (PySem.W.fnOf "_law_pick" "_law_pick" (defArgs (tp 26)) (defBody (tp 26)) (defScope (tp 26)) .none kV__law_pick dc__law_pick pm__law_pick an__law_pick cd__law_pick ct__law_pick), sl__law_pick⟩)
    (c__law_pick : PySem.W.codeIn K cd__law_pick "_law_pick" = true)
    (k__law_pick : PySem.W.keepIn K (.ref f__law_pick) = true)
    (a__law_any : PySem.W.nsIn K mainGlobals "_law_any" = some (some (.ref f__law_any)))
    (l__law_any : K.lookup f__law_any = some ⟨oc__law_any, od__law_any, .func (PySem.W.fnOf "_law_any" "_law_any" (defArgs (tp 27)) (defBody (tp 27)) (defScope (tp 27)) .none kV__law_any dc__law_any pm__law_any an__law_any cd__law_any ct__law_any), sl__law_any⟩)
    (c__law_any : PySem.W.codeIn K cd__law_any "_law_any" = true)
    (k__law_any : PySem.W.keepIn K (.ref f__law_any) = true)
    (a__law_shared : PySem.W.nsIn K mainGlobals "_law_shared" = some (some (.ref f__law_shared)))
    (l__law_shared : K.lookup f__law_shared = some ⟨oc__law_shared, od__law_shared, .func (PySem.W.fnOf "_law_shared" "_law_shared" (defArgs (tp 28)) (defBody (tp 28)) (defScope (tp 28)) .none kV__law_shared dc__law_shared pm__law_shared an__law_shared cd__law_shared ct__law_shared), sl__law_shared⟩)
    (c__law_shared : PySem.W.codeIn K cd__law_shared "_law_shared" = true)
    (k__law_shared : PySem.W.keepIn K (.ref f__law_shared) = true)
    (a__law_over : PySem.W.nsIn K mainGlobals "_law_over" = some (some (.ref f__law_over)))
    (l__law_over : K.lookup f__law_over = some ⟨oc__law_over, od__law_over, .func (PySem.W.fnOf "_law_over" "_law_over" (defArgs (tp 29)) (defBody (tp 29)) (defScope (tp 29)) .none kV__law_over dc__law_over pm__law_over an__law_over cd__law_over ct__law_over), sl__law_over⟩)
    (c__law_over : PySem.W.codeIn K cd__law_over "_law_over" = true)
    (k__law_over : PySem.W.keepIn K (.ref f__law_over) = true)
    (a__law_fraction : PySem.W.nsIn K mainGlobals "_law_fraction" = some (some (.ref f__law_fraction)))
    (l__law_fraction : K.lookup f__law_fraction = some ⟨oc__law_fraction, od__law_fraction, .func (PySem.W.fnOf "_law_fraction" "_law_fraction" (defArgs (tp 30)) (defBody (tp 30)) (defScope (tp 30)) .none kV__law_fraction dc__law_fraction pm__law_fraction an__law_fraction cd__law_fraction ct__law_fraction), sl__law_fraction⟩)
    (c__law_fraction : PySem.W.codeIn K cd__law_fraction "_law_fraction" = true)
    (k__law_fraction : PySem.W.keepIn K (.ref f__law_fraction) = true)
    (a__law_no_fraction : PySem.W.nsIn K mainGlobals "_law_no_fraction" = some (some (.ref f__law_no_fraction)))
    (l__law_no_fraction : K.lookup f__law_no_fraction = some ⟨oc__law_no_fraction, od__law_no_fraction, .func (PySem.W.fnOf "_law_no_fraction" "_law_no_fraction" (defArgs (tp 31)) (defBody (tp 31)) (defScope (tp 31)) .none kV__law_no_fraction dc__law_no_fraction pm__law_no_fraction an__law_no_fraction cd__law_no_fraction ct__law_no_fraction), sl__law_no_fraction⟩)
    (c__law_no_fraction : PySem.W.codeIn K cd__law_no_fraction "_law_no_fraction" = true)
    (k__law_no_fraction : PySem.W.keepIn K (.ref f__law_no_fraction) = true)
    (a__law_word : PySem.W.nsIn K mainGlobals "_law_word" = some (some (.ref f__law_word)))
    (l__law_word : K.lookup f__law_word = some ⟨oc__law_word, od__law_word, .func (PySem.W.fnOf "_law_word" "_law_word" (defArgs (tp 32)) (defBody (tp 32)) (defScope (tp 32)) .none kV__law_word dc__law_word pm__law_word an__law_word cd__law_word ct__law_word), sl__law_word⟩)
    (c__law_word : PySem.W.codeIn K cd__law_word "_law_word" = true)
    (k__law_word : PySem.W.keepIn K (.ref f__law_word) = true)
    (a__law_chain : PySem.W.nsIn K mainGlobals "_law_chain" = some (some (.ref f__law_chain)))
    (l__law_chain : K.lookup f__law_chain = some ⟨oc__law_chain, od__law_chain, .func (PySem.W.fnOf "_law_chain" "_law_chain" (defArgs (tp 33)) (defBody (tp 33)) (defScope (tp 33)) .none kV__law_chain dc__law_chain pm__law_chain an__law_chain cd__law_chain ct__law_chain), sl__law_chain⟩)
    (c__law_chain : PySem.W.codeIn K cd__law_chain "_law_chain" = true)
    (k__law_chain : PySem.W.keepIn K (.ref f__law_chain) = true)
    (a__law_from : PySem.W.nsIn K mainGlobals "_law_from" = some (some (.ref f__law_from)))
    (l__law_from : K.lookup f__law_from = some ⟨oc__law_from, od__law_from, .func (PySem.W.fnOf "_law_from" "_law_from" (defArgs (tp 34)) (defBody (tp 34)) (defScope (tp 34)) .none kV__law_from dc__law_from pm__law_from an__law_from cd__law_from ct__law_from), sl__law_from⟩)
    (c__law_from : PySem.W.codeIn K cd__law_from "_law_from" = true)
    (k__law_from : PySem.W.keepIn K (.ref f__law_from) = true)
    (a__law_best : PySem.W.nsIn K mainGlobals "_law_best" = some (some (.ref f__law_best)))
    (l__law_best : K.lookup f__law_best = some ⟨oc__law_best, od__law_best, .func (PySem.W.fnOf "_law_best" "_law_best" (defArgs (tp 35)) (defBody (tp 35)) (defScope (tp 35)) .none kV__law_best dc__law_best pm__law_best an__law_best cd__law_best ct__law_best), sl__law_best⟩)
    (c__law_best : PySem.W.codeIn K cd__law_best "_law_best" = true)
    (k__law_best : PySem.W.keepIn K (.ref f__law_best) = true)
    (a__law_root : PySem.W.nsIn K mainGlobals "_law_root" = some (some (.ref f__law_root)))
    (l__law_root : K.lookup f__law_root = some ⟨oc__law_root, od__law_root, .func (PySem.W.fnOf "_law_root" "_law_root" (defArgs (tp 36)) (defBody (tp 36)) (defScope (tp 36)) .none kV__law_root dc__law_root pm__law_root an__law_root cd__law_root ct__law_root), sl__law_root⟩)
    (c__law_root : PySem.W.codeIn K cd__law_root "_law_root" = true)
    (k__law_root : PySem.W.keepIn K (.ref f__law_root) = true)
    (a__law_is_right : PySem.W.nsIn K mainGlobals "_law_is_right" = some (some (.ref f__law_is_right)))
    (l__law_is_right : K.lookup f__law_is_right = some ⟨oc__law_is_right, od__law_is_right, .func (PySem.W.fnOf "_law_is_right" "_law_is_right" (defArgs (tp 37)) (defBody (tp 37)) (defScope (tp 37)) .none kV__law_is_right dc__law_is_right pm__law_is_right an__law_is_right cd__law_is_right ct__law_is_right), sl__law_is_right⟩)
    (c__law_is_right : PySem.W.codeIn K cd__law_is_right "_law_is_right" = true)
    (k__law_is_right : PySem.W.keepIn K (.ref f__law_is_right) = true)
    (a__law_is_refused : PySem.W.nsIn K mainGlobals "_law_is_refused" = some (some (.ref f__law_is_refused)))
    (l__law_is_refused : K.lookup f__law_is_refused = some ⟨oc__law_is_refused, od__law_is_refused, .func (PySem.W.fnOf "_law_is_refused" "_law_is_refused" (defArgs (tp 38)) (defBody (tp 38)) (defScope (tp 38)) .none kV__law_is_refused dc__law_is_refused pm__law_is_refused an__law_is_refused cd__law_is_refused ct__law_is_refused), sl__law_is_refused⟩)
    (c__law_is_refused : PySem.W.codeIn K cd__law_is_refused "_law_is_refused" = true)
    (k__law_is_refused : PySem.W.keepIn K (.ref f__law_is_refused) = true)
    (a__law_word_of : PySem.W.nsIn K mainGlobals "_law_word_of" = some (some (.ref f__law_word_of)))
    (l__law_word_of : K.lookup f__law_word_of = some ⟨oc__law_word_of, od__law_word_of, .func (PySem.W.fnOf "_law_word_of" "_law_word_of" (defArgs (tp 39)) (defBody (tp 39)) (defScope (tp 39)) .none kV__law_word_of dc__law_word_of pm__law_word_of an__law_word_of (.ref cA__law_word_of) ct__law_word_of), sl__law_word_of⟩)
    (c__law_word_of : PySem.W.codeIn K (.ref cA__law_word_of) "_law_word_of" = true)
    (k__law_word_of : PySem.W.keepIn K (.ref f__law_word_of) = true)
    (lc__law_word_of : K.lookup cA__law_word_of = some ⟨ccl__law_word_of, cdd__law_word_of, .fields vs__law_word_of, ccs__law_word_of⟩)
    (lp__law_word_of : vs__law_word_of[11]? = some (.ref P__law_word_of))
    (ch__law_word_of : PySem.W.codeHdIn K cA__law_word_of P__law_word_of = true)
    (np__law_word_of : K.lookup P__law_word_of = none)
    (tp__law_word_of : h.get? P__law_word_of = some tabO)
    (a__law_word_by : PySem.W.nsIn K mainGlobals "_law_word_by" = some (some (.ref f__law_word_by)))
    (l__law_word_by : K.lookup f__law_word_by = some ⟨oc__law_word_by, od__law_word_by, .func (PySem.W.fnOf "_law_word_by" "_law_word_by" (defArgs (tp 40)) (defBody (tp 40)) (defScope (tp 40)) .none kV__law_word_by dc__law_word_by pm__law_word_by an__law_word_by (.ref cA__law_word_by) ct__law_word_by), sl__law_word_by⟩)
    (c__law_word_by : PySem.W.codeIn K (.ref cA__law_word_by) "_law_word_by" = true)
    (k__law_word_by : PySem.W.keepIn K (.ref f__law_word_by) = true)
    (lc__law_word_by : K.lookup cA__law_word_by = some ⟨ccl__law_word_by, cdd__law_word_by, .fields vs__law_word_by, ccs__law_word_by⟩)
    (lp__law_word_by : vs__law_word_by[11]? = some (.ref P__law_word_by))
    (ch__law_word_by : PySem.W.codeHdIn K cA__law_word_by P__law_word_by = true)
    (np__law_word_by : K.lookup P__law_word_by = none)
    (tp__law_word_by : h.get? P__law_word_by = some tabO)
    (a_law : PySem.W.nsIn K mainGlobals "law" = some (some (.ref f_law)))
    (l_law : K.lookup f_law = some ⟨oc_law, od_law, .func (PySem.W.fnOf "law" "law" (defArgs (tp 41)) (defBody (tp 41)) (defScope (tp 41)) .none kV_law dc_law pm_law an_law cd_law ct_law), sl_law⟩)
    (c_law : PySem.W.codeIn K cd_law "law" = true)
    (k_law : PySem.W.keepIn K (.ref f_law) = true)
    (d__law_word_of__law_word_by : P__law_word_of ≠ P__law_word_by)
    (z_ValueError : PySem.W.nsIn K mainGlobals "ValueError" = some none)
    (z_abs : PySem.W.nsIn K mainGlobals "abs" = some none)
    (z_all : PySem.W.nsIn K mainGlobals "all" = some none)
    (z_any : PySem.W.nsIn K mainGlobals "any" = some none)
    (z_bool : PySem.W.nsIn K mainGlobals "bool" = some none)
    (z_enumerate : PySem.W.nsIn K mainGlobals "enumerate" = some none)
    (z_int : PySem.W.nsIn K mainGlobals "int" = some none)
    (z_isinstance : PySem.W.nsIn K mainGlobals "isinstance" = some none)
    (z_len : PySem.W.nsIn K mainGlobals "len" = some none)
    (z_max : PySem.W.nsIn K mainGlobals "max" = some none)
    (z_range : PySem.W.nsIn K mainGlobals "range" = some none)
    (z_repr : PySem.W.nsIn K mainGlobals "repr" = some none)
    (z_tuple : PySem.W.nsIn K mainGlobals "tuple" = some none)
    (v_MOST_SIZE : Rf.Con K mg "MOST_SIZE" (.int 1000000000000000000))
    (a_GridError : PySem.W.nsIn K mainGlobals "GridError" = some (some (.ref C_GridError)))
    (opq : PySem.W.nsIn K cStatics "thirdparty.any" = some none)
    (z_super : PySem.W.nsIn K mainGlobals "super" = some none)
    (sp_cls : PySem.W.specialIn K (.builtin "object.__class__") "__get__" = some (some (.builtin "getset_descriptor.__get__")))
    (tk_cls : PySem.W.takesIn K (.builtin "object.__class__") = some true)
    (a_NoFraction : PySem.W.nsIn K mainGlobals "NoFraction" = some (some (.ref C_NoFraction)))
    (l_NoFraction : K.lookup C_NoFraction = some (excClassObj nm_NoFraction q_NoFraction C_NoFraction N_NoFraction bs_NoFraction bm_NoFraction true sn_NoFraction sub_NoFraction ab_NoFraction col_NoFraction dd_NoFraction k0_NoFraction k1_NoFraction k2_NoFraction k3_NoFraction k5_NoFraction "ValueError.__new__"))
    (r_NoFraction : PySem.HandSPX.refsVE bm_NoFraction = true)
    (kc_NoFraction : PySem.W.keepIn K (.ref C_NoFraction) = true)
    (ex_NoFraction : PySem.W.subIn K (.ref C_NoFraction) (.type "BaseException") = some true)
    (ve_NoFraction : PySem.W.subIn K (.ref C_NoFraction) (.type "ValueError") = some true)
    (ty_NoFraction : PySem.W.typeIn K (.ref C_NoFraction) = some (.type "type"))
    (mr_NoFraction : PySem.W.mroIn K C_NoFraction (.ref C_NoFraction) = some true)
    (su_NoFraction : PySem.W.ks_superIn K C_NoFraction C_NoFraction "__init__" = some (some (.builtin "ValueError.__init__")))
    (i_NoFraction : PySem.W.findIn K (.ref C_NoFraction) "__init__" = some (some (.ref I_NoFraction)))
    (li_NoFraction : K.lookup I_NoFraction = some ⟨ioc_NoFraction, iod_NoFraction, .func (PySem.W.ksFn "__init__" "NoFraction.__init__" (defArgs (inClass (tp 6) 0)) (defBody (inClass (tp 6) 0)) (defScope (inClass (tp 6) 0)) .none ikV_NoFraction idc_NoFraction ipm_NoFraction ian_NoFraction (.ref icd_NoFraction) ict_NoFraction icc_NoFraction), isl_NoFraction⟩)
    (ti_NoFraction : PySem.W.typeIn K (.ref I_NoFraction) = some (.type "function"))
    (ci_NoFraction : PySem.W.codeIn K (.ref icd_NoFraction) "NoFraction.__init__" = true)
    (ld_NoFraction : K.lookup icd_NoFraction = some ⟨iccl_NoFraction, icdd_NoFraction, .fields ivs_NoFraction, iccs_NoFraction⟩)
    (l2_NoFraction : ivs_NoFraction[2]? = some (.str ifl_NoFraction itf_NoFraction))
    (lf_NoFraction : ((PySem.Challenge.rw_stepgrids_k02_whole_chains_of_fractions.prog.main.file : Str) == ifl_NoFraction) = true)
    (lx_NoFraction : K.lookup icc_NoFraction = some ⟨icl_NoFraction, icld_NoFraction, .cell (some (.ref C_NoFraction)), icsl_NoFraction⟩)
    (x1_NoFraction : PySem.W.findIn K (.ref C_NoFraction) "__getattribute__" = some (some (.builtin "BaseException.__getattribute__")))
    (x2_NoFraction : PySem.W.findIn K (.ref C_NoFraction) "__getattr__" = some none)
    (x3_NoFraction : PySem.W.hasDictIn K C_NoFraction = true)
    (x4_NoFraction : PySem.W.findIn K (.ref C_NoFraction) "__class__" = some (some (.builtin "object.__class__")))
    (x5_NoFraction : PySem.W.mroIn K C_NoFraction (.type "object") = some true)
    (em_NoFraction : PySem.W.exmOne K (.ref C_NoFraction) (.ref C_GridError) = some true)
    (kv_NoFraction : PySem.W.kitOne K (.ref C_NoFraction) (.type "ValueError") = some true)
    (a_NoNumber : PySem.W.nsIn K mainGlobals "NoNumber" = some (some (.ref C_NoNumber)))
    (l_NoNumber : K.lookup C_NoNumber = some (excClassObj nm_NoNumber q_NoNumber C_NoNumber N_NoNumber bs_NoNumber bm_NoNumber true sn_NoNumber sub_NoNumber ab_NoNumber col_NoNumber dd_NoNumber k0_NoNumber k1_NoNumber k2_NoNumber k3_NoNumber k5_NoNumber "ValueError.__new__"))
    (r_NoNumber : PySem.HandSPX.refsVE bm_NoNumber = true)
    (kc_NoNumber : PySem.W.keepIn K (.ref C_NoNumber) = true)
    (ex_NoNumber : PySem.W.subIn K (.ref C_NoNumber) (.type "BaseException") = some true)
    (ve_NoNumber : PySem.W.subIn K (.ref C_NoNumber) (.type "ValueError") = some true)
    (ty_NoNumber : PySem.W.typeIn K (.ref C_NoNumber) = some (.type "type"))
    (mr_NoNumber : PySem.W.mroIn K C_NoNumber (.ref C_NoNumber) = some true)
    (su_NoNumber : PySem.W.ks_superIn K C_NoNumber C_NoNumber "__init__" = some (some (.builtin "ValueError.__init__")))
    (i_NoNumber : PySem.W.findIn K (.ref C_NoNumber) "__init__" = some (some (.ref I_NoNumber)))
    (li_NoNumber : K.lookup I_NoNumber = some ⟨ioc_NoNumber, iod_NoNumber, .func (PySem.W.ksFn "__init__" "NoNumber.__init__" (defArgs (inClass (tp 7) 0)) (defBody (inClass (tp 7) 0)) (defScope (inClass (tp 7) 0)) .none ikV_NoNumber idc_NoNumber ipm_NoNumber ian_NoNumber (.ref icd_NoNumber) ict_NoNumber icc_NoNumber), isl_NoNumber⟩)
    (ti_NoNumber : PySem.W.typeIn K (.ref I_NoNumber) = some (.type "function"))
    (ci_NoNumber : PySem.W.codeIn K (.ref icd_NoNumber) "NoNumber.__init__" = true)
    (ld_NoNumber : K.lookup icd_NoNumber = some ⟨iccl_NoNumber, icdd_NoNumber, .fields ivs_NoNumber, iccs_NoNumber⟩)
    (l2_NoNumber : ivs_NoNumber[2]? = some (.str ifl_NoNumber itf_NoNumber))
    (lf_NoNumber : ((PySem.Challenge.rw_stepgrids_k02_whole_chains_of_fractions.prog.main.file : Str) == ifl_NoNumber) = true)
    (lx_NoNumber : K.lookup icc_NoNumber = some ⟨icl_NoNumber, icld_NoNumber, .cell (some (.ref C_NoNumber)), icsl_NoNumber⟩)
    (x1_NoNumber : PySem.W.findIn K (.ref C_NoNumber) "__getattribute__" = some (some (.builtin "BaseException.__getattribute__")))
    (x2_NoNumber : PySem.W.findIn K (.ref C_NoNumber) "__getattr__" = some none)
    (x3_NoNumber : PySem.W.hasDictIn K C_NoNumber = true)
    (x4_NoNumber : PySem.W.findIn K (.ref C_NoNumber) "__class__" = some (some (.builtin "object.__class__")))
    (x5_NoNumber : PySem.W.mroIn K C_NoNumber (.type "object") = some true)
    (em_NoNumber : PySem.W.exmOne K (.ref C_NoNumber) (.ref C_GridError) = some true)
    (kv_NoNumber : PySem.W.kitOne K (.ref C_NoNumber) (.type "ValueError") = some true)
    (kk_NoFraction_NoFraction : PySem.W.kitOne K (.ref C_NoFraction) (.ref C_NoFraction) = some true)
    (kk_NoFraction_NoNumber : PySem.W.kitOne K (.ref C_NoFraction) (.ref C_NoNumber) = some false)
    (kk_NoNumber_NoFraction : PySem.W.kitOne K (.ref C_NoNumber) (.ref C_NoFraction) = some false)
    (kk_NoNumber_NoNumber : PySem.W.kitOne K (.ref C_NoNumber) (.ref C_NoNumber) = some true)
    : LawAtG PySem.Challenge.rw_stepgrids_k02_whole_chains_of_fractions w K 10 63 "script" mg fa h := by
  cases hfa.symm.trans (PySem.W.mg_of X G a_law)
  have hEx : ∀ c C, errs.contains c = true → mg c = some (.ref C) → PySem.W.exmOne K (.ref C) (.ref C_GridError) = some true := fun c C hc e => by
    simp only [errs, List.contains_cons, List.contains_nil, Bool.or_false, Bool.or_eq_true, beq_iff_eq] at hc
    rcases hc with rfl | rfl
    · cases e.symm.trans (PySem.W.mg_of X G a_NoFraction)
      exact em_NoFraction
    · cases e.symm.trans (PySem.W.mg_of X G a_NoNumber)
      exact em_NoNumber
  have hXc : ∀ c C, errs.contains c = true → mg c = some (.ref C) → ExcC K C := fun c C hc e => by
    simp only [errs, List.contains_cons, List.contains_nil, Bool.or_false, Bool.or_eq_true, beq_iff_eq] at hc
    rcases hc with rfl | rfl
    · cases e.symm.trans (PySem.W.mg_of X G a_NoFraction)
      exact ⟨x1_NoFraction, x2_NoFraction, ex_NoFraction, x3_NoFraction, x4_NoFraction, sp_cls, tk_cls, x5_NoFraction⟩
    · cases e.symm.trans (PySem.W.mg_of X G a_NoNumber)
      exact ⟨x1_NoNumber, x2_NoNumber, ex_NoNumber, x3_NoNumber, x4_NoNumber, sp_cls, tk_cls, x5_NoNumber⟩
  have hVe : ∀ c C, errs.contains c = true → mg c = some (.ref C) → PySem.W.kitOne K (.ref C) (.type "ValueError") = some true := fun c C hc e => by
    simp only [errs, List.contains_cons, List.contains_nil, Bool.or_false, Bool.or_eq_true, beq_iff_eq] at hc
    rcases hc with rfl | rfl
    · cases e.symm.trans (PySem.W.mg_of X G a_NoFraction)
      exact kv_NoFraction
    · cases e.symm.trans (PySem.W.mg_of X G a_NoNumber)
      exact kv_NoNumber
  have hK_NoFraction : ∀ c C, errs.contains c = true → mg c = some (.ref C) → PySem.W.kitOne K (.ref C) (.ref C_NoFraction) = some (c == "NoFraction") := fun c C hc e => by
    simp only [errs, List.contains_cons, List.contains_nil, Bool.or_false, Bool.or_eq_true, beq_iff_eq] at hc
    rcases hc with rfl | rfl
    · cases e.symm.trans (PySem.W.mg_of X G a_NoFraction)
      exact kk_NoFraction_NoFraction
    · cases e.symm.trans (PySem.W.mg_of X G a_NoNumber)
      exact kk_NoNumber_NoFraction
  have hK_NoNumber : ∀ c C, errs.contains c = true → mg c = some (.ref C) → PySem.W.kitOne K (.ref C) (.ref C_NoNumber) = some (c == "NoNumber") := fun c C hc e => by
    simp only [errs, List.contains_cons, List.contains_nil, Bool.or_false, Bool.or_eq_true, beq_iff_eq] at hc
    rcases hc with rfl | rfl
    · cases e.symm.trans (PySem.W.mg_of X G a_NoFraction)
      exact kk_NoFraction_NoNumber
    · cases e.symm.trans (PySem.W.mg_of X G a_NoNumber)
      exact kk_NoNumber_NoNumber
  let mkTx : ∀ base : Heap, (∀ p ∈ ([(cA__law_word_of, P__law_word_of), (cA__law_word_by, P__law_word_by)] : List (Addr × Addr)), TabB base mg p.1 p.2) → Tx PySem.Challenge.rw_stepgrids_k02_whole_chains_of_fractions.prog K mg base := fun base hB =>
    { a_is_integer := f_is_integer, fd_is_integer := _, g_is_integer := PySem.W.mg_of X G a_is_integer, F_is_integer := L2.fun_mk l_is_integer c_is_integer k_is_integer, B_is_integer := L2.Fun.binds (L2.fun_mk l_is_integer c_is_integer k_is_integer) (fun _ _ _ _ _ _ us hl => match us, hl with | [_], _ => rfl),
      a_is_within := f_is_within, fd_is_within := _, g_is_within := PySem.W.mg_of X G a_is_within, F_is_within := L2.fun_mk l_is_within c_is_within k_is_within, B_is_within := L2.Fun.binds (L2.fun_mk l_is_within c_is_within k_is_within) (fun _ _ _ _ _ _ us hl => match us, hl with | [_, _, _], _ => rfl),
      a_is_tuple := f_is_tuple, fd_is_tuple := _, g_is_tuple := PySem.W.mg_of X G a_is_tuple, F_is_tuple := L2.fun_mk l_is_tuple c_is_tuple k_is_tuple, B_is_tuple := L2.Fun.binds (L2.fun_mk l_is_tuple c_is_tuple k_is_tuple) (fun _ _ _ _ _ _ us hl => match us, hl with | [_, _, _], _ => rfl),
      a_divisor := f_divisor, fd_divisor := _, g_divisor := PySem.W.mg_of X G a_divisor, F_divisor := L2.fun_mk l_divisor c_divisor k_divisor, B_divisor := L2.Fun.binds (L2.fun_mk l_divisor c_divisor k_divisor) (fun _ _ _ _ _ _ us hl => match us, hl with | [_, _], _ => rfl),
      a_lowest := f_lowest, fd_lowest := _, g_lowest := PySem.W.mg_of X G a_lowest, F_lowest := L2.fun_mk l_lowest c_lowest k_lowest, B_lowest := L2.Fun.binds (L2.fun_mk l_lowest c_lowest k_lowest) (fun _ _ _ _ _ _ us hl => match us, hl with | [_, _], _ => rfl),
      a_take := f_take, fd_take := _, g_take := PySem.W.mg_of X G a_take, F_take := L2.fun_mk l_take c_take k_take, B_take := L2.Fun.binds (L2.fun_mk l_take c_take k_take) (fun _ _ _ _ _ _ us hl => match us, hl with | [_, _], _ => rfl),
      a_is_less := f_is_less, fd_is_less := _, g_is_less := PySem.W.mg_of X G a_is_less, F_is_less := L2.fun_mk l_is_less c_is_less k_is_less, B_is_less := L2.Fun.binds (L2.fun_mk l_is_less c_is_less k_is_less) (fun _ _ _ _ _ _ us hl => match us, hl with | [_, _], _ => rfl),
      a_is_fraction := f_is_fraction, fd_is_fraction := _, g_is_fraction := PySem.W.mg_of X G a_is_fraction, F_is_fraction := L2.fun_mk l_is_fraction c_is_fraction k_is_fraction, B_is_fraction := L2.Fun.binds (L2.fun_mk l_is_fraction c_is_fraction k_is_fraction) (fun _ _ _ _ _ _ us hl => match us, hl with | [_], _ => rfl),
      a_check_fraction := f_check_fraction, fd_check_fraction := _, g_check_fraction := PySem.W.mg_of X G a_check_fraction, F_check_fraction := L2.fun_mk l_check_fraction c_check_fraction k_check_fraction, B_check_fraction := L2.Fun.binds (L2.fun_mk l_check_fraction c_check_fraction k_check_fraction) (fun _ _ _ _ _ _ us hl => match us, hl with | [_], _ => rfl),
      a_root_of := f_root_of, fd_root_of := _, g_root_of := PySem.W.mg_of X G a_root_of, F_root_of := L2.fun_mk l_root_of c_root_of k_root_of, B_root_of := L2.Fun.binds (L2.fun_mk l_root_of c_root_of k_root_of) (fun _ _ _ _ _ _ us hl => match us, hl with | [_], _ => rfl),
      a_check_above := f_check_above, fd_check_above := _, g_check_above := PySem.W.mg_of X G a_check_above, F_check_above := L2.fun_mk l_check_above c_check_above k_check_above, B_check_above := L2.Fun.binds (L2.fun_mk l_check_above c_check_above k_check_above) (fun _ _ _ _ _ _ us hl => match us, hl with | [_, _], _ => rfl),
      a_steps_of := f_steps_of, fd_steps_of := _, g_steps_of := PySem.W.mg_of X G a_steps_of, F_steps_of := L2.fun_mk l_steps_of c_steps_of k_steps_of, B_steps_of := L2.Fun.binds (L2.fun_mk l_steps_of c_steps_of k_steps_of) (fun _ _ _ _ _ _ us hl => match us, hl with | [_], _ => rfl),
      a_chain := f_chain, fd_chain := _, g_chain := PySem.W.mg_of X G a_chain, F_chain := L2.fun_mk l_chain c_chain k_chain, B_chain := L2.Fun.binds (L2.fun_mk l_chain c_chain k_chain) (fun _ _ _ _ _ _ us hl => match us, hl with | [_], _ => rfl),
      a_from_chain := f_from_chain, fd_from_chain := _, g_from_chain := PySem.W.mg_of X G a_from_chain, F_from_chain := L2.fun_mk l_from_chain c_from_chain k_from_chain, B_from_chain := L2.Fun.binds (L2.fun_mk l_from_chain c_from_chain k_from_chain) (fun _ _ _ _ _ _ us hl => match us, hl with | [_], _ => rfl),
      a_near_fractions := f_near_fractions, fd_near_fractions := _, g_near_fractions := PySem.W.mg_of X G a_near_fractions, F_near_fractions := L2.fun_mk l_near_fractions c_near_fractions k_near_fractions, B_near_fractions := L2.Fun.binds (L2.fun_mk l_near_fractions c_near_fractions k_near_fractions) (fun _ _ _ _ _ _ us hl => match us, hl with | [_], _ => rfl),
      a_best_below := f_best_below, fd_best_below := _, g_best_below := PySem.W.mg_of X G a_best_below, F_best_below := L2.fun_mk l_best_below c_best_below k_best_below, B_best_below := L2.Fun.binds (L2.fun_mk l_best_below c_best_below k_best_below) (fun _ _ _ _ _ _ us hl => match us, hl with | [_, _], _ => rfl),
      a_root_chain := f_root_chain, fd_root_chain := _, g_root_chain := PySem.W.mg_of X G a_root_chain, F_root_chain := L2.fun_mk l_root_chain c_root_chain k_root_chain, B_root_chain := L2.Fun.binds (L2.fun_mk l_root_chain c_root_chain k_root_chain) (fun _ _ _ _ _ _ us hl => match us, hl with | [_, _], _ => rfl),
      a__law_tape := f__law_tape, fd__law_tape := _, g__law_tape := PySem.W.mg_of X G a__law_tape, F__law_tape := L2.fun_mk l__law_tape c__law_tape k__law_tape, B__law_tape := L2.Fun.binds (L2.fun_mk l__law_tape c__law_tape k__law_tape) (fun _ _ _ _ _ _ us hl => match us, hl with | [_], _ => rfl),
      a__law_pick := f__law_pick, fd__law_pick := _, g__law_pick := PySem.W.mg_of X G a__law_pick, F__law_pick := L2.fun_mk l__law_pick c__law_pick k__law_pick, B__law_pick := L2.Fun.binds (L2.fun_mk l__law_pick c__law_pick k__law_pick) (fun _ _ _ _ _ _ us hl => match us, hl with | [_, _], _ => rfl),
      a__law_any := f__law_any, fd__law_any := _, g__law_any := PySem.W.mg_of X G a__law_any, F__law_any := L2.fun_mk l__law_any c__law_any k__law_any, B__law_any := L2.Fun.binds (L2.fun_mk l__law_any c__law_any k__law_any) (fun _ _ _ _ _ _ us hl => match us, hl with | [_, _], _ => rfl),
      a__law_shared := f__law_shared, fd__law_shared := _, g__law_shared := PySem.W.mg_of X G a__law_shared, F__law_shared := L2.fun_mk l__law_shared c__law_shared k__law_shared, B__law_shared := L2.Fun.binds (L2.fun_mk l__law_shared c__law_shared k__law_shared) (fun _ _ _ _ _ _ us hl => match us, hl with | [_, _], _ => rfl),
      a__law_over := f__law_over, fd__law_over := _, g__law_over := PySem.W.mg_of X G a__law_over, F__law_over := L2.fun_mk l__law_over c__law_over k__law_over, B__law_over := L2.Fun.binds (L2.fun_mk l__law_over c__law_over k__law_over) (fun _ _ _ _ _ _ us hl => match us, hl with | [_, _], _ => rfl),
      a__law_fraction := f__law_fraction, fd__law_fraction := _, g__law_fraction := PySem.W.mg_of X G a__law_fraction, F__law_fraction := L2.fun_mk l__law_fraction c__law_fraction k__law_fraction, B__law_fraction := L2.Fun.binds (L2.fun_mk l__law_fraction c__law_fraction k__law_fraction) (fun _ _ _ _ _ _ us hl => match us, hl with | [_], _ => rfl),
      a__law_no_fraction := f__law_no_fraction, fd__law_no_fraction := _, g__law_no_fraction := PySem.W.mg_of X G a__law_no_fraction, F__law_no_fraction := L2.fun_mk l__law_no_fraction c__law_no_fraction k__law_no_fraction, B__law_no_fraction := L2.Fun.binds (L2.fun_mk l__law_no_fraction c__law_no_fraction k__law_no_fraction) (fun _ _ _ _ _ _ us hl => match us, hl with | [_], _ => rfl),
      a__law_word := f__law_word, fd__law_word := _, g__law_word := PySem.W.mg_of X G a__law_word, F__law_word := L2.fun_mk l__law_word c__law_word k__law_word, B__law_word := L2.Fun.binds (L2.fun_mk l__law_word c__law_word k__law_word) (fun _ _ _ _ _ _ us hl => match us, hl with | [_], _ => rfl),
      a__law_chain := f__law_chain, fd__law_chain := _, g__law_chain := PySem.W.mg_of X G a__law_chain, F__law_chain := L2.fun_mk l__law_chain c__law_chain k__law_chain, B__law_chain := L2.Fun.binds (L2.fun_mk l__law_chain c__law_chain k__law_chain) (fun _ _ _ _ _ _ us hl => match us, hl with | [_], _ => rfl),
      a__law_from := f__law_from, fd__law_from := _, g__law_from := PySem.W.mg_of X G a__law_from, F__law_from := L2.fun_mk l__law_from c__law_from k__law_from, B__law_from := L2.Fun.binds (L2.fun_mk l__law_from c__law_from k__law_from) (fun _ _ _ _ _ _ us hl => match us, hl with | [_], _ => rfl),
      a__law_best := f__law_best, fd__law_best := _, g__law_best := PySem.W.mg_of X G a__law_best, F__law_best := L2.fun_mk l__law_best c__law_best k__law_best, B__law_best := L2.Fun.binds (L2.fun_mk l__law_best c__law_best k__law_best) (fun _ _ _ _ _ _ us hl => match us, hl with | [_, _], _ => rfl),
      a__law_root := f__law_root, fd__law_root := _, g__law_root := PySem.W.mg_of X G a__law_root, F__law_root := L2.fun_mk l__law_root c__law_root k__law_root, B__law_root := L2.Fun.binds (L2.fun_mk l__law_root c__law_root k__law_root) (fun _ _ _ _ _ _ us hl => match us, hl with | [_, _], _ => rfl),
      a__law_is_right := f__law_is_right, fd__law_is_right := _, g__law_is_right := PySem.W.mg_of X G a__law_is_right, F__law_is_right := L2.fun_mk l__law_is_right c__law_is_right k__law_is_right, B__law_is_right := L2.Fun.binds (L2.fun_mk l__law_is_right c__law_is_right k__law_is_right) (fun _ _ _ _ _ _ us hl => match us, hl with | [_], _ => rfl),
      a__law_is_refused := f__law_is_refused, fd__law_is_refused := _, g__law_is_refused := PySem.W.mg_of X G a__law_is_refused, F__law_is_refused := L2.fun_mk l__law_is_refused c__law_is_refused k__law_is_refused, B__law_is_refused := L2.Fun.binds (L2.fun_mk l__law_is_refused c__law_is_refused k__law_is_refused) (fun _ _ _ _ _ _ us hl => match us, hl with | [_], _ => rfl),
      a__law_word_of := f__law_word_of, fd__law_word_of := _, g__law_word_of := PySem.W.mg_of X G a__law_word_of, F__law_word_of := L2.fun_mk l__law_word_of c__law_word_of k__law_word_of, B__law_word_of := L2.Fun.binds (L2.fun_mk l__law_word_of c__law_word_of k__law_word_of) (fun _ _ _ _ _ _ us hl => match us, hl with | [_, _], _ => rfl),
      a__law_word_by := f__law_word_by, fd__law_word_by := _, g__law_word_by := PySem.W.mg_of X G a__law_word_by, F__law_word_by := L2.fun_mk l__law_word_by c__law_word_by k__law_word_by, B__law_word_by := L2.Fun.binds (L2.fun_mk l__law_word_by c__law_word_by k__law_word_by) (fun _ _ _ _ _ _ us hl => match us, hl with | [_, _, _], _ => rfl),
      a_law := fa, fd_law := _, g_law := PySem.W.mg_of X G a_law, F_law := L2.fun_mk l_law c_law k_law, B_law := L2.Fun.binds (L2.fun_mk l_law c_law k_law) (fun _ _ _ _ _ _ us hl => match us, hl with | [_], _ => rfl),
      n_ValueError := PySem.W.mg_none_of X G z_ValueError,
      n_abs := PySem.W.mg_none_of X G z_abs,
      n_all := PySem.W.mg_none_of X G z_all,
      n_any := PySem.W.mg_none_of X G z_any,
      n_bool := PySem.W.mg_none_of X G z_bool,
      n_enumerate := PySem.W.mg_none_of X G z_enumerate,
      n_int := PySem.W.mg_none_of X G z_int,
      n_isinstance := PySem.W.mg_none_of X G z_isinstance,
      n_len := PySem.W.mg_none_of X G z_len,
      n_max := PySem.W.mg_none_of X G z_max,
      n_range := PySem.W.mg_none_of X G z_range,
      n_repr := PySem.W.mg_none_of X G z_repr,
      n_tuple := PySem.W.mg_none_of X G z_tuple,
      v_MOST_SIZE := v_MOST_SIZE,
      aC_GridError := C_GridError, C_GridError := PySem.W.mg_of X G a_GridError, ex_GridError := hEx, xc := hXc, k_ValueError := hVe,
      aC_NoFraction := C_NoFraction, aI_NoFraction := I_NoFraction, C_NoFraction := PySem.W.mg_of X G a_NoFraction, k_NoFraction := hK_NoFraction,
      E_NoFraction := ⟨PySem.W.mg_of X G a_NoFraction, ⟨_, _, _, _, _, _, _, _, _, _, _, _, _, _, _, l_NoFraction, r_NoFraction⟩, kc_NoFraction, ex_NoFraction, ve_NoFraction, ty_NoFraction, su_NoFraction, mr_NoFraction, opq, PySem.W.mg_none_of X G z_super, by decide +kernel⟩,
      I_NoFraction := itx_mk i_NoFraction li_NoFraction ti_NoFraction ci_NoFraction ld_NoFraction l2_NoFraction lf_NoFraction lx_NoFraction it_NoFraction,
      aC_NoNumber := C_NoNumber, aI_NoNumber := I_NoNumber, C_NoNumber := PySem.W.mg_of X G a_NoNumber, k_NoNumber := hK_NoNumber,
      E_NoNumber := ⟨PySem.W.mg_of X G a_NoNumber, ⟨_, _, _, _, _, _, _, _, _, _, _, _, _, _, _, l_NoNumber, r_NoNumber⟩, kc_NoNumber, ex_NoNumber, ve_NoNumber, ty_NoNumber, su_NoNumber, mr_NoNumber, opq, PySem.W.mg_none_of X G z_super, by decide +kernel⟩,
      I_NoNumber := itx_mk i_NoNumber li_NoNumber ti_NoNumber ci_NoNumber ld_NoNumber l2_NoNumber lf_NoNumber lx_NoNumber it_NoNumber,
      P__law_word_of := P__law_word_of, cA__law_word_of := cA__law_word_of, c__law_word_of := (by unfold Rf.codeAt; rw [l__law_word_of]), T__law_word_of := hB (cA__law_word_of, P__law_word_of) (by simp),
      P__law_word_by := P__law_word_by, cA__law_word_by := cA__law_word_by, c__law_word_by := (by unfold Rf.codeAt; rw [l__law_word_by]), T__law_word_by := hB (cA__law_word_by, P__law_word_by) (by simp),
      d__law_word_of__law_word_by := d__law_word_of__law_word_by }
  refine ⟨_, [(cA__law_word_of, P__law_word_of), (cA__law_word_by, P__law_word_by)], spM ⟨K, mg⟩ ⟨[(P__law_word_of, ("_law_word_of.<locals>.<lambda>" : Str)), (P__law_word_by, ("_law_word_by.<locals>.<lambda>" : Str))], [], fun _ => none, fun _ => none⟩ m_law, ?_, fun s v => .of_eq rfl, fun H a ns hl hb ht hS => law_sp (tabs_nil ht ?_) hS (plain ns hl hb), fun base hK hN hB => fnG_of (w := w) (mkTx base hB).F_law sc_law rfl (bd_law (mkTx base hB))⟩
  · intro p hp
    simp only [List.mem_cons, List.not_mem_nil, or_false] at hp
    rcases hp with rfl | rfl
    · exact ⟨tp__law_word_of, np__law_word_of, PySem.W.codeHd_of_K X ch__law_word_of⟩
    · exact ⟨tp__law_word_by, np__law_word_by, PySem.W.codeHd_of_K X ch__law_word_by⟩
  · intro p hp
    simp only [List.mem_cons, List.not_mem_nil, or_false] at hp
    rcases hp with rfl | rfl
    · exact ⟨(cA__law_word_of, P__law_word_of), by simp, rfl⟩
    · exact ⟨(cA__law_word_by, P__law_word_by), by simp, rfl⟩
end K02
open PySem PySem.W PyProof.Rows
set_option maxHeartbeats 0 in
theorem PySem.Challenge.cw_stepgrids_k02_whole_chains_of_fractions_holds : PySem.Challenge.rw_stepgrids_k02_whole_chains_of_fractions.Holds := by
  w_on; o_law; k_head; (case hw => w_witness2)
  k_fill
  refine Rf.walk_ofG (l := PySem.Challenge.rw_stepgrids_k02_whole_chains_of_fractions) (n := 63) (k := 10) (x := "script") rfl (by decide) rfl ⟨rfl, by decide, by decide⟩ (fun w h Y => PySem.W.km_in_of Y) ?F
  case F =>
    intro w mg fa h XPh Y KX G hmg
    refine' K02.mk KX G hmg ?a_is_integer ?l_is_integer ?c_is_integer ?k_is_integer ?a_is_within ?l_is_within ?c_is_within ?k_is_within ?a_is_tuple ?l_is_tuple ?c_is_tuple ?k_is_tuple ?a_divisor ?l_divisor ?c_divisor ?k_divisor ?a_lowest ?l_lowest ?c_lowest ?k_lowest ?a_take ?l_take ?c_take ?k_take ?a_is_less ?l_is_less ?c_is_less ?k_is_less ?a_is_fraction ?l_is_fraction ?c_is_fraction ?k_is_fraction ?a_check_fraction ?l_check_fraction ?c_check_fraction ?k_check_fraction ?a_root_of ?l_root_of ?c_root_of ?k_root_of ?a_check_above ?l_check_above ?c_check_above ?k_check_above ?a_steps_of ?l_steps_of ?c_steps_of ?k_steps_of ?a_chain ?l_chain ?c_chain ?k_chain ?a_from_chain ?l_from_chain ?c_from_chain ?k_from_chain ?a_near_fractions ?l_near_fractions ?c_near_fractions ?k_near_fractions ?a_best_below ?l_best_below ?c_best_below ?k_best_below ?a_root_chain ?l_root_chain ?c_root_chain ?k_root_chain ?a__law_tape ?l__law_tape ?c__law_tape ?k__law_tape ?a__law_pick ?l__law_pick ?c__law_pick ?k__law_pick ?a__law_any ?l__law_any ?c__law_any ?k__law_any ?a__law_shared ?l__law_shared ?c__law_shared ?k__law_shared ?a__law_over ?l__law_over ?c__law_over ?k__law_over ?a__law_fraction ?l__law_fraction ?c__law_fraction ?k__law_fraction ?a__law_no_fraction ?l__law_no_fraction ?c__law_no_fraction ?k__law_no_fraction ?a__law_word ?l__law_word ?c__law_word ?k__law_word ?a__law_chain ?l__law_chain ?c__law_chain ?k__law_chain ?a__law_from ?l__law_from ?c__law_from ?k__law_from ?a__law_best ?l__law_best ?c__law_best ?k__law_best ?a__law_root ?l__law_root ?c__law_root ?k__law_root ?a__law_is_right ?l__law_is_right ?c__law_is_right ?k__law_is_right ?a__law_is_refused ?l__law_is_refused ?c__law_is_refused ?k__law_is_refused ?a__law_word_of ?l__law_word_of ?c__law_word_of ?k__law_word_of ?lc__law_word_of ?lp__law_word_of ?ch__law_word_of ?np__law_word_of ?tp__law_word_of ?a__law_word_by ?l__law_word_by ?c__law_word_by ?k__law_word_by ?lc__law_word_by ?lp__law_word_by ?ch__law_word_by ?np__law_word_by ?tp__law_word_by ?a_law ?l_law ?c_law ?k_law ?d__law_word_of__law_word_by ?z_ValueError ?z_abs ?z_all ?z_any ?z_bool ?z_enumerate ?z_int ?z_isinstance ?z_len ?z_max ?z_range ?z_repr ?z_tuple ?v_MOST_SIZE ?a_GridError ?opq ?z_super ?sp_cls ?tk_cls ?a_NoFraction ?l_NoFraction ?r_NoFraction ?kc_NoFraction ?ex_NoFraction ?ve_NoFraction ?ty_NoFraction ?mr_NoFraction ?su_NoFraction ?i_NoFraction ?li_NoFraction ?ti_NoFraction ?ci_NoFraction ?ld_NoFraction ?l2_NoFraction ?lf_NoFraction ?lx_NoFraction ?x1_NoFraction ?x2_NoFraction ?x3_NoFraction ?x4_NoFraction ?x5_NoFraction ?em_NoFraction ?kv_NoFraction ?a_NoNumber ?l_NoNumber ?r_NoNumber ?kc_NoNumber ?ex_NoNumber ?ve_NoNumber ?ty_NoNumber ?mr_NoNumber ?su_NoNumber ?i_NoNumber ?li_NoNumber ?ti_NoNumber ?ci_NoNumber ?ld_NoNumber ?l2_NoNumber ?lf_NoNumber ?lx_NoNumber ?x1_NoNumber ?x2_NoNumber ?x3_NoNumber ?x4_NoNumber ?x5_NoNumber ?em_NoNumber ?kv_NoNumber ?kk_NoFraction_NoFraction ?kk_NoFraction_NoNumber ?kk_NoNumber_NoFraction ?kk_NoNumber_NoNumber
    (case a_is_integer => k_is)
    (case l_is_integer => k_is)
    (case c_is_integer => k_is)
    (case k_is_integer => k_is)
    (case a_is_within => k_is)
    (case l_is_within => k_is)
    (case c_is_within => k_is)
    (case k_is_within => k_is)
    (case a_is_tuple => k_is)
    (case l_is_tuple => k_is)
    (case c_is_tuple => k_is)
    (case k_is_tuple => k_is)
    (case a_divisor => k_is)
    (case l_divisor => k_is)
    (case c_divisor => k_is)
    (case k_divisor => k_is)
    (case a_lowest => k_is)
    (case l_lowest => k_is)
    (case c_lowest => k_is)
    (case k_lowest => k_is)
    (case a_take => k_is)
    (case l_take => k_is)
    (case c_take => k_is)
    (case k_take => k_is)
    (case a_is_less => k_is)
    (case l_is_less => k_is)
    (case c_is_less => k_is)
    (case k_is_less => k_is)
    (case a_is_fraction => k_is)
    (case l_is_fraction => k_is)
    (case c_is_fraction => k_is)
    (case k_is_fraction => k_is)
    (case a_check_fraction => k_is)
    (case l_check_fraction => k_is)
    (case c_check_fraction => k_is)
    (case k_check_fraction => k_is)
    (case a_root_of => k_is)
    (case l_root_of => k_is)
    (case c_root_of => k_is)
    (case k_root_of => k_is)
    (case a_check_above => k_is)
    (case l_check_above => k_is)
    (case c_check_above => k_is)
    (case k_check_above => k_is)
    (case a_steps_of => k_is)
    (case l_steps_of => k_is)
    (case c_steps_of => k_is)
    (case k_steps_of => k_is)
    (case a_chain => k_is)
    (case l_chain => k_is)
    (case c_chain => k_is)
    (case k_chain => k_is)
    (case a_from_chain => k_is)
    (case l_from_chain => k_is)
    (case c_from_chain => k_is)
    (case k_from_chain => k_is)
    (case a_near_fractions => k_is)
    (case l_near_fractions => k_is)
    (case c_near_fractions => k_is)
    (case k_near_fractions => k_is)
    (case a_best_below => k_is)
    (case l_best_below => k_is)
    (case c_best_below => k_is)
    (case k_best_below => k_is)
    (case a_root_chain => k_is)
    (case l_root_chain => k_is)
    (case c_root_chain => k_is)
    (case k_root_chain => k_is)
    (case a__law_tape => k_is)
    (case l__law_tape => k_is)
    (case c__law_tape => k_is)
    (case k__law_tape => k_is)
    (case a__law_pick => k_is)
    (case l__law_pick => k_is)
    (case c__law_pick => k_is)
    (case k__law_pick => k_is)
    (case a__law_any => k_is)
    (case l__law_any => k_is)
    (case c__law_any => k_is)
    (case k__law_any => k_is)
    (case a__law_shared => k_is)
    (case l__law_shared => k_is)
    (case c__law_shared => k_is)
    (case k__law_shared => k_is)
    (case a__law_over => k_is)
    (case l__law_over => k_is)
    (case c__law_over => k_is)
    (case k__law_over => k_is)
    (case a__law_fraction => k_is)
    (case l__law_fraction => k_is)
    (case c__law_fraction => k_is)
    (case k__law_fraction => k_is)
    (case a__law_no_fraction => k_is)
    (case l__law_no_fraction => k_is)
    (case c__law_no_fraction => k_is)
    (case k__law_no_fraction => k_is)
    (case a__law_word => k_is)
    (case l__law_word => k_is)
    (case c__law_word => k_is)
    (case k__law_word => k_is)
    (case a__law_chain => k_is)
    (case l__law_chain => k_is)
    (case c__law_chain => k_is)
    (case k__law_chain => k_is)
    (case a__law_from => k_is)
    (case l__law_from => k_is)
    (case c__law_from => k_is)
    (case k__law_from => k_is)
    (case a__law_best => k_is)
    (case l__law_best => k_is)
    (case c__law_best => k_is)
    (case k__law_best => k_is)
    (case a__law_root => k_is)
    (case l__law_root => k_is)
    (case c__law_root => k_is)
    (case k__law_root => k_is)
    (case a__law_is_right => k_is)
    (case l__law_is_right => k_is)
    (case c__law_is_right => k_is)
    (case k__law_is_right => k_is)
    (case a__law_is_refused => k_is)
    (case l__law_is_refused => k_is)
    (case c__law_is_refused => k_is)
    (case k__law_is_refused => k_is)
    (case a__law_word_of => k_is)
    (case l__law_word_of => k_is)
    (case c__law_word_of => k_is)
    (case k__law_word_of => k_is)
    (case lc__law_word_of => k_is)
    (case lp__law_word_of => rfl)
    (case ch__law_word_of => kernel_rfl)
    (case np__law_word_of => kernel_rfl)
    (case tp__law_word_of => exact PySem.W.km_tabs_of Y _ (by decide))
    (case a__law_word_by => k_is)
    (case l__law_word_by => k_is)
    (case c__law_word_by => k_is)
    (case k__law_word_by => k_is)
    (case lc__law_word_by => k_is)
    (case lp__law_word_by => rfl)
    (case ch__law_word_by => kernel_rfl)
    (case np__law_word_by => kernel_rfl)
    (case tp__law_word_by => exact PySem.W.km_tabs_of Y _ (by decide))
    (case a_law => k_is)
    (case l_law => k_is)
    (case c_law => k_is)
    (case k_law => k_is)
    (case d__law_word_of__law_word_by => decide)
    (case z_ValueError => k_is)
    (case z_abs => k_is)
    (case z_all => k_is)
    (case z_any => k_is)
    (case z_bool => k_is)
    (case z_enumerate => k_is)
    (case z_int => k_is)
    (case z_isinstance => k_is)
    (case z_len => k_is)
    (case z_max => k_is)
    (case z_range => k_is)
    (case z_repr => k_is)
    (case z_tuple => k_is)
    (case v_MOST_SIZE => exact Rf.con_loose XPh (by simp))
    (case a_GridError => k_is)
    (case opq => k_is)
    (case z_super => k_is)
    (case sp_cls => k_is)
    (case tk_cls => k_is)
    (case a_NoFraction => k_is)
    (case l_NoFraction => k_is)
    (case r_NoFraction => decide +kernel)
    (case kc_NoFraction => k_is)
    (case ex_NoFraction => k_is)
    (case ve_NoFraction => k_is)
    (case ty_NoFraction => k_is)
    (case mr_NoFraction => k_is)
    (case su_NoFraction => kernel_rfl)
    (case i_NoFraction => k_is)
    (case li_NoFraction => k_is)
    (case ti_NoFraction => k_is)
    (case ci_NoFraction => k_is)
    (case ld_NoFraction => k_is)
    (case l2_NoFraction => rfl)
    (case lf_NoFraction => decide +kernel)
    (case lx_NoFraction => k_is)
    (case x1_NoFraction => k_is)
    (case x2_NoFraction => k_is)
    (case x3_NoFraction => k_is)
    (case x4_NoFraction => k_is)
    (case x5_NoFraction => k_is)
    (case em_NoFraction => kernel_rfl)
    (case kv_NoFraction => kernel_rfl)
    (case a_NoNumber => k_is)
    (case l_NoNumber => k_is)
    (case r_NoNumber => decide +kernel)
    (case kc_NoNumber => k_is)
    (case ex_NoNumber => k_is)
    (case ve_NoNumber => k_is)
    (case ty_NoNumber => k_is)
    (case mr_NoNumber => k_is)
    (case su_NoNumber => kernel_rfl)
    (case i_NoNumber => k_is)
    (case li_NoNumber => k_is)
    (case ti_NoNumber => k_is)
    (case ci_NoNumber => k_is)
    (case ld_NoNumber => k_is)
    (case l2_NoNumber => rfl)
    (case lf_NoNumber => decide +kernel)
    (case lx_NoNumber => k_is)
    (case x1_NoNumber => k_is)
    (case x2_NoNumber => k_is)
    (case x3_NoNumber => k_is)
    (case x4_NoNumber => k_is)
    (case x5_NoNumber => k_is)
    (case em_NoNumber => kernel_rfl)
    (case kv_NoNumber => kernel_rfl)
    (case kk_NoFraction_NoFraction => kernel_rfl)
    (case kk_NoFraction_NoNumber => kernel_rfl)
    (case kk_NoNumber_NoFraction => kernel_rfl)
    (case kk_NoNumber_NoNumber => kernel_rfl)


