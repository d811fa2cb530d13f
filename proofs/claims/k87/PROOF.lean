import PyProof.Rows.All
import Wide.All
import OpenK.AllK
import Wide.FinOn
import HandS.ForMost
import HandS.More
import HandS.NoneIn
import HandS.Defaults
import HandS.DictComp
import HandS.Zip
import HandS.TupAny
import HandS.Small
import HandS.MakeKw
import HandS.MakeKwOnly
import HandS.IsInst
import HandS.ListItems
import KE.DataEq
import KE.LtData
import KE.SortData
import KE.KDictSum
import KE.KDictLetter
import HandS.WordsDict
import KE.DataMinMax
import HandS.Sort
import HandS.AnyAll
import HandS.Text
import KE.KEqDict
import HandS.SlotsOwn
import HandS.Style
import KE.KStar
import KE.KItemsList
import KE.GoesMore
import PyProof.ReprRoads
import HandS.Ends
import HandS.EndBits
import HandS.HeadEnd
import KE.KStateDown
import Lean
import HandS.Head0
import HandS.Head1
import HandS.Head2
import HandS.HeadHook1
import HandS.HeadHook2
import HandS.HeadHook3
import HandS.HeadHook4
import PySem.Challenge.RW_handcounts_k87_whole_joined_and_crossed
set_option Elab.async false
set_option linter.all false
set_option maxRecDepth 100000
set_option maxHeartbeats 4000000
/-! The data layer: values with tuples by value, over the hand layer. -/
namespace Q7
open PySem PySem.Spec PyProof.Rows L2

inductive D where
  | non | bl (b : Bool) | int (i : Int) | str (x : Str) | ty (n : String) | ref (a : Addr) | tup (ds : List D)

inductive DO where
  | lst (w : Bool) (ds : List D)
  | dct (w : Bool) (kvs : List (Key × D))
  | ins (C : Addr) (fs : List (Str × D))

structure Stm where
  a : Addr
  l : Addr
  cs : List Int
  s1 : Int
  s2 : Int
  s3 : Int

structure DH where
  st : Option Stm
  ob : Addr → Option DO

def DH.put (G : DH) (a : Addr) (o : DO) : DH := { G with ob := fun b => if b = a then some o else G.ob b }
theorem DH.put_same {G : DH} {a : Addr} {o : DO} : (G.put a o).ob a = some o := by unfold DH.put; simp
theorem DH.put_ne {G : DH} {a b : Addr} {o : DO} (h : b ≠ a) : (G.put a o).ob b = G.ob b := by unfold DH.put; simp [h]
theorem DH.put_st {G : DH} {a : Addr} {o : DO} : (G.put a o).st = G.st := rfl

/-- all tuples stand, all that is locked -/
def TM (H H' : Hp) : Prop := (∀ p vs, H p = some (.tup vs) → H' p = some (.tup vs)) ∧ ∀ p o u, H p = some (.frz o u) → H' p = some (.frz o u)
theorem TM.refl (H : Hp) : TM H H := ⟨fun _ _ h => h, fun _ _ _ h => h⟩
theorem TM.trans {H H1 H2 : Hp} (a : TM H H1) (b : TM H1 H2) : TM H H2 := ⟨fun p vs h => b.1 p vs (a.1 p vs h), fun p o u h => b.2 p o u (a.2 p o u h)⟩
theorem TM.new {H : Hp} {p : Addr} {o : HO} (h : H p = none) : TM H (upd H p o) :=
  ⟨fun q vs e => by rw [upd_ne (ne_of_none e h)]; exact e, fun q o u e => by rw [upd_ne (ne_of_none e h)]; exact e⟩
def NoTF (u : HO) : Prop := (∀ vs, u ≠ .tup vs) ∧ ∀ o v, u ≠ .frz o v
theorem TM.write {H : Hp} {p : Addr} {u o : HO} (h : H p = some u) (hu : NoTF u) : TM H (upd H p o) := by
  refine ⟨fun q vs e => ?_, fun q o v e => ?_⟩
  · rw [upd_ne]
    · exact e
    · intro z; subst z; rw [h] at e; exact hu.1 vs (Option.some.inj e)
  · rw [upd_ne]
    · exact e
    · intro z; subst z; rw [h] at e; exact hu.2 o v (Option.some.inj e)

mutual
def RV (H : Hp) : D → V → Prop
  | .non, v => v = .non
  | .bl b, v => v = .bl b
  | .int i, v => v = .int i
  | .str x, v => v = .str x
  | .ty n, v => v = .ty n
  | .ref a, v => v = .ref a
  | .tup ds, v => ∃ p vs, v = .ref p ∧ H p = some (.tup vs) ∧ RVs H ds vs
def RVs (H : Hp) : List D → List V → Prop
  | [], vs => vs = []
  | d :: ds, vs => ∃ v r, vs = v :: r ∧ RV H d v ∧ RVs H ds r
end

mutual
theorem RV.mono {H H' : Hp} (t : TM H H') : ∀ (d : D) (v : V), RV H d v → RV H' d v
  | .non, _, h => h
  | .bl _, _, h => h
  | .int _, _, h => h
  | .str _, _, h => h
  | .ty _, _, h => h
  | .ref _, _, h => h
  | .tup ds, v, h => by
    obtain ⟨p, vs, e, h1, h2⟩ := h
    exact ⟨p, vs, e, t.1 p vs h1, RVs.mono t ds vs h2⟩
theorem RVs.mono {H H' : Hp} (t : TM H H') : ∀ (ds : List D) (vs : List V), RVs H ds vs → RVs H' ds vs
  | [], _, h => h
  | d :: ds, vs, h => by
    obtain ⟨v, r, e, h1, h2⟩ := h
    exact ⟨v, r, e, RV.mono t d v h1, RVs.mono t ds r h2⟩
end

section
variable {H H' : Hp}
theorem RVs.nil : RVs H [] [] := rfl
theorem RVs.cons {d : D} {v : V} {ds : List D} {vs : List V} (h : RV H d v) (t : RVs H ds vs) : RVs H (d :: ds) (v :: vs) := ⟨v, vs, rfl, h, t⟩
theorem RVs.length : ∀ {ds : List D} {vs : List V}, RVs H ds vs → vs.length = ds.length
  | [], _, h => by
    have e : _ = [] := h
    rw [e]; rfl
  | d :: ds, vs, h => by
    obtain ⟨v, r, e, h1, h2⟩ := h
    rw [e, List.length_cons, List.length_cons, RVs.length h2]
theorem RVs.get : ∀ {ds : List D} {vs : List V} {i : Nat} {d : D}, RVs H ds vs → ds[i]? = some d → ∃ v, vs[i]? = some v ∧ RV H d v
  | [], _, _, _, _, e => by simp at e
  | x :: ds, vs, 0, d, h, e => by
    obtain ⟨v, r, e1, h1, h2⟩ := h
    simp at e; subst e; subst e1
    exact ⟨v, rfl, h1⟩
  | x :: ds, vs, i + 1, d, h, e => by
    obtain ⟨v, r, e1, h1, h2⟩ := h
    subst e1
    simpa using RVs.get (i := i) h2 (by simpa using e)
theorem RVs.get' : ∀ {ds : List D} {vs : List V} {i : Nat} {v : V}, RVs H ds vs → vs[i]? = some v → ∃ d, ds[i]? = some d ∧ RV H d v := by
  intro ds vs i v h e
  have hl := h.length
  have hi : i < vs.length := (List.getElem?_eq_some_iff.mp e).1
  obtain ⟨d, hd⟩ : ∃ d, ds[i]? = some d := ⟨ds[i]'(by omega), List.getElem?_eq_getElem (by omega)⟩
  obtain ⟨v', e', r⟩ := h.get hd
  rw [e] at e'
  cases e'
  exact ⟨d, hd, r⟩
theorem RVs.append : ∀ {ds es : List D} {vs us : List V}, RVs H ds vs → RVs H es us → RVs H (ds ++ es) (vs ++ us)
  | [], es, vs, us, h, t => by
    have e : vs = [] := h
    subst e
    exact t
  | d :: ds, es, vs, us, h, t => by
    obtain ⟨v, r, e1, h1, h2⟩ := h
    subst e1
    exact ⟨v, r ++ us, rfl, h1, h2.append t⟩
theorem RVs.take : ∀ {ds : List D} {vs : List V} (n : Nat), RVs H ds vs → RVs H (ds.take n) (vs.take n)
  | _, _, 0, _ => by simp; exact RVs.nil
  | [], vs, n + 1, h => by
    have e : vs = [] := h
    subst e
    exact RVs.nil
  | d :: ds, vs, n + 1, h => by
    obtain ⟨v, r, e1, h1, h2⟩ := h
    subst e1
    exact ⟨v, r.take n, rfl, h1, h2.take n⟩
theorem RVs.drop : ∀ {ds : List D} {vs : List V} (n : Nat), RVs H ds vs → RVs H (ds.drop n) (vs.drop n)
  | _, _, 0, h => by simpa using h
  | [], vs, n + 1, h => by
    have e : vs = [] := h
    subst e
    exact RVs.nil
  | d :: ds, vs, n + 1, h => by
    obtain ⟨v, r, e1, h1, h2⟩ := h
    subst e1
    simpa using h2.drop n
theorem RVs.set : ∀ {ds : List D} {vs : List V} {d : D} {v : V} (n : Nat), RV H d v → RVs H ds vs → RVs H (ds.set n d) (vs.set n v)
  | [], vs, _, _, n, _, h => by
    have e : vs = [] := h
    subst e
    simpa using RVs.nil
  | x :: ds, vs, d, v, 0, hd, h => by
    obtain ⟨v', r, e1, h1, h2⟩ := h
    subst e1
    exact ⟨v, r, rfl, hd, h2⟩
  | x :: ds, vs, d, v, n + 1, hd, h => by
    obtain ⟨v', r, e1, h1, h2⟩ := h
    subst e1
    exact ⟨v', r.set n v, rfl, h1, h2.set n hd⟩
theorem RVs.eraseIdx : ∀ {ds : List D} {vs : List V} (n : Nat), RVs H ds vs → RVs H (ds.eraseIdx n) (vs.eraseIdx n)
  | [], vs, n, h => by
    have e : vs = [] := h
    subst e
    simpa using RVs.nil
  | x :: ds, vs, 0, h => by
    obtain ⟨v', r, e1, h1, h2⟩ := h
    subst e1
    exact h2
  | x :: ds, vs, n + 1, h => by
    obtain ⟨v', r, e1, h1, h2⟩ := h
    subst e1
    exact ⟨v', r.eraseIdx n, rfl, h1, h2.eraseIdx n⟩
theorem RVs.map_int : ∀ {ns : List Int} {vs : List V}, RVs H (ns.map D.int) vs → vs = ns.map V.int
  | [], vs, h => h
  | n :: ns, vs, h => by
    obtain ⟨v, r, e, h1, h2⟩ := h
    have h1' : v = .int n := h1
    rw [e, h1', RVs.map_int h2]; rfl
theorem RVs.map_str : ∀ {ns : List Str} {vs : List V}, RVs H (ns.map D.str) vs → vs = ns.map V.str
  | [], vs, h => h
  | n :: ns, vs, h => by
    obtain ⟨v, r, e, h1, h2⟩ := h
    have h1' : v = .str n := h1
    rw [e, h1', RVs.map_str h2]; rfl
theorem RVs.map_bl : ∀ {ns : List Bool} {vs : List V}, RVs H (ns.map D.bl) vs → vs = ns.map V.bl
  | [], vs, h => h
  | n :: ns, vs, h => by
    obtain ⟨v, r, e, h1, h2⟩ := h
    have h1' : v = .bl n := h1
    rw [e, h1', RVs.map_bl h2]; rfl
theorem RVs.of_int : ∀ (ns : List Int), RVs H (ns.map D.int) (ns.map V.int)
  | [] => RVs.nil
  | n :: ns => RVs.cons rfl (RVs.of_int ns)
theorem RVs.of_str : ∀ (ns : List Str), RVs H (ns.map D.str) (ns.map V.str)
  | [] => RVs.nil
  | n :: ns => RVs.cons rfl (RVs.of_str ns)
theorem RVs.mem : ∀ {ds : List D} {vs : List V} {v : V}, RVs H ds vs → v ∈ vs → ∃ d ∈ ds, RV H d v
  | [], vs, v, h, hv => by
    have e : vs = [] := h
    subst e
    cases hv
  | d :: ds, vs, v, h, hv => by
    obtain ⟨v', r, e1, h1, h2⟩ := h
    subst e1
    rcases List.mem_cons.mp hv with e | hv
    · subst e; exact ⟨d, List.mem_cons_self, h1⟩
    · obtain ⟨d', hd, q⟩ := h2.mem hv
      exact ⟨d', List.mem_cons_of_mem _ hd, q⟩
end

/-- the pairs of a dict, the attributes of an instance -/
def RKs {κ : Type} (H : Hp) : List (κ × D) → List (κ × V) → Prop
  | [], kvs => kvs = []
  | p :: ps, kvs => ∃ v r, kvs = (p.1, v) :: r ∧ RV H p.2 v ∧ RKs H ps r
theorem RKs.nil {κ : Type} {H : Hp} : RKs H ([] : List (κ × D)) ([] : List (κ × V)) := rfl
theorem RKs.mono {κ : Type} {H H' : Hp} (t : TM H H') : ∀ (ds : List (κ × D)) (vs : List (κ × V)), RKs H ds vs → RKs H' ds vs
  | [], _, h => h
  | d :: ds, vs, h => by
    obtain ⟨v, r, e, h1, h2⟩ := h
    exact ⟨v, r, e, RV.mono t _ v h1, RKs.mono t ds r h2⟩
theorem RKs.keys {κ : Type} {H : Hp} : ∀ {ds : List (κ × D)} {vs : List (κ × V)}, RKs H ds vs → vs.map (·.1) = ds.map (·.1)
  | [], _, h => by
    have e : _ = [] := h
    rw [e]; rfl
  | d :: ds, vs, h => by
    obtain ⟨v, r, e, h1, h2⟩ := h
    rw [e, List.map_cons, List.map_cons, RKs.keys h2]
theorem RKs.length {κ : Type} {H : Hp} {ds : List (κ × D)} {vs : List (κ × V)} (h : RKs H ds vs) : vs.length = ds.length := by
  have e := congrArg List.length h.keys
  rwa [List.length_map, List.length_map] at e
theorem RKs.vals {κ : Type} {H : Hp} : ∀ {ds : List (κ × D)} {vs : List (κ × V)}, RKs H ds vs → RVs H (ds.map (·.2)) (vs.map (·.2))
  | [], _, h => by
    have e : _ = [] := h
    rw [e]; exact RVs.nil
  | d :: ds, vs, h => by
    obtain ⟨v, r, e, h1, h2⟩ := h
    rw [e]
    exact ⟨v, _, rfl, h1, h2.vals⟩
theorem RKs.get {κ : Type} {H : Hp} : ∀ {ds : List (κ × D)} {vs : List (κ × V)} {i : Nat} {p : κ × D}, RKs H ds vs → ds[i]? = some p → ∃ v, vs[i]? = some (p.1, v) ∧ RV H p.2 v
  | [], _, _, _, _, e => by simp at e
  | x :: ds, vs, 0, d, h, e => by
    obtain ⟨v, r, e1, h1, h2⟩ := h
    simp at e; subst e; subst e1
    exact ⟨v, rfl, h1⟩
  | x :: ds, vs, i + 1, d, h, e => by
    obtain ⟨v, r, e1, h1, h2⟩ := h
    subst e1
    simpa using RKs.get (i := i) h2 (by simpa using e)

/-- what stands at a -/
def RO (H : Hp) (a : Addr) : DO → Prop
  | .lst true ds => ∃ vs, H a = some (.lst vs) ∧ RVs H ds vs
  | .lst false ds => ∃ vs, Rd H a (.lst vs) ∧ RVs H ds vs
  | .dct true kvs => ∃ ws, H a = some (.dK ws) ∧ RKs H kvs ws
  | .dct false kvs => ∃ o ws, H a = some (.frz o (.dK ws)) ∧ RKs H kvs ws
  | .ins C fs => ∃ dx ws, H a = some (.ins C dx ws) ∧ RKs H fs ws

/-- the stream as two lists -/
def Stm.ob (S : Stm) (a : Addr) : Option DO := if a = S.a then some (.lst true [.ref S.l, .int S.s1, .int S.s2, .int S.s3]) else if a = S.l then some (.lst true (S.cs.map D.int)) else none
structure RH (H : Hp) (G : DH) : Prop where
  ob : ∀ a o, G.ob a = some o → RO H a o
  st : ∀ S, G.st = some S → S.a ≠ S.l ∧ G.ob S.a = none ∧ G.ob S.l = none ∧ H S.a = some (.lst [.ref S.l, .int S.s1, .int S.s2, .int S.s3]) ∧ H S.l = some (.lst (S.cs.map V.int))

section
variable {H H' : Hp} {G : DH}
theorem RO.at {a : Addr} {o : DO} (h : RO H a o) (t : TM H H') (e : ∀ u, H a = some u → H' a = some u) : RO H' a o := by
  cases o with
  | lst w ds =>
    cases w with
    | true =>
      obtain ⟨vs, h1, h2⟩ := h
      exact ⟨vs, e _ h1, RVs.mono t _ _ h2⟩
    | false =>
      obtain ⟨vs, h1, h2⟩ := h
      refine ⟨vs, ?_, RVs.mono t _ _ h2⟩
      rcases h1 with h1 | ⟨o, h1⟩
      · exact .inl (e _ h1)
      · exact .inr ⟨o, e _ h1⟩
  | dct w ds =>
    cases w with
    | true =>
      obtain ⟨vs, h1, h2⟩ := h
      exact ⟨vs, e _ h1, RKs.mono t _ _ h2⟩
    | false =>
      obtain ⟨o, vs, h1, h2⟩ := h
      exact ⟨o, vs, e _ h1, RKs.mono t _ _ h2⟩
  | ins C fs =>
    obtain ⟨dx, ws, h1, h2⟩ := h
    exact ⟨dx, ws, e _ h1, RKs.mono t _ _ h2⟩
/-- what is tracked is kept -/
theorem RH.keep (r : RH H G) (t : ∀ a u, H a = some u → H' a = some u) : RH H' G :=
  ⟨fun a o e => (r.ob a o e).at ⟨fun p vs h => t p _ h, fun p o u h => t p _ h⟩ (t a), fun S e => by
    obtain ⟨h1, h2, h3, h4, h5⟩ := r.st S e
    exact ⟨h1, h2, h3, t _ _ h4, t _ _ h5⟩⟩
theorem keep_new {p : Addr} {o : HO} (h : H p = none) : ∀ a u, H a = some u → upd H p o a = some u := fun a u e => by
  rw [upd_ne (ne_of_none e h)]; exact e
/-- an untracked address is no object of ours -/
def DO.rw : DO → Bool
  | .lst w _ => w
  | .dct w _ => w
  | .ins _ _ => true
theorem RO.some_of {a : Addr} {o : DO} (q : RO H a o) : ∃ u, H a = some u ∧ (o.rw = true → NoTF u) := by
  cases o with
  | lst w ds =>
    cases w with
    | true =>
      obtain ⟨vs, h1, _⟩ := q
      exact ⟨_, h1, fun _ => ⟨fun _ z => (nomatch z), fun _ _ z => (nomatch z)⟩⟩
    | false =>
      obtain ⟨vs, h1 | ⟨o, h1⟩, _⟩ := q
      · exact ⟨_, h1, fun z => nomatch z⟩
      · exact ⟨_, h1, fun z => nomatch z⟩
  | dct w ds =>
    cases w with
    | true =>
      obtain ⟨vs, h1, _⟩ := q
      exact ⟨_, h1, fun _ => ⟨fun _ z => (nomatch z), fun _ _ z => (nomatch z)⟩⟩
    | false =>
      obtain ⟨o, vs, h1, _⟩ := q
      exact ⟨_, h1, fun z => nomatch z⟩
  | ins C fs =>
    obtain ⟨dx, vs, h1, _⟩ := q
    exact ⟨_, h1, fun _ => ⟨fun _ z => (nomatch z), fun _ _ z => (nomatch z)⟩⟩
theorem RH.free (r : RH H G) {p : Addr} (h : H p = none) : G.ob p = none := by
  cases e : G.ob p with
  | none => rfl
  | some o =>
    obtain ⟨u, hu, _⟩ := (r.ob p o e).some_of
    rw [h] at hu; cases hu
/-- a new object -/
theorem RH.new {p : Addr} {u : HO} {o : DO} (r : RH H G) (h : H p = none) (q : RO (upd H p u) p o) : RH (upd H p u) (G.put p o) := by
  have r' : RH (upd H p u) G := r.keep (keep_new h)
  have hg := r.free h
  refine ⟨fun a o' e => ?_, fun S e => ?_⟩
  · by_cases ha : a = p
    · subst ha
      rw [DH.put_same] at e
      cases e
      exact q
    · rw [DH.put_ne ha] at e
      exact r'.ob a o' e
  · obtain ⟨h1, h2, h3, h4, h5⟩ := r'.st S e
    obtain ⟨_, _, _, h4', h5'⟩ := r.st S e
    exact ⟨h1, by rw [DH.put_ne (ne_of_none h4' h)]; exact h2, by rw [DH.put_ne (ne_of_none h5' h)]; exact h3, h4, h5⟩
/-- an object written -/
theorem RH.write_tm {p : Addr} {u v : HO} {o' : DO} (r : RH H G) (h : G.ob p = some o') (hp : H p = some v) (hw : o'.rw = true := by rfl) : TM H (upd H p u) := by
  obtain ⟨v', h1, h2⟩ := (r.ob p o' h).some_of
  rw [hp] at h1; cases h1
  exact TM.write hp (h2 hw)
theorem RH.write {p : Addr} {u v : HO} {o o' : DO} (r : RH H G) (h : G.ob p = some o') (hp : H p = some v) (q : RO (upd H p u) p o) (hw : o'.rw = true := by rfl) : RH (upd H p u) (G.put p o) := by
  have t : TM H (upd H p u) := r.write_tm h hp hw
  refine ⟨fun a o'' e => ?_, fun S e => ?_⟩
  · by_cases ha : a = p
    · subst ha
      rw [DH.put_same] at e
      cases e
      exact q
    · rw [DH.put_ne ha] at e
      exact (r.ob a o'' e).at t fun u' z => by rw [upd_ne ha]; exact z
  · obtain ⟨h1, h2, h3, h4, h5⟩ := r.st S e
    have n1 : S.a ≠ p := fun z => by rw [z, h] at h2; cases h2
    have n2 : S.l ≠ p := fun z => by rw [z, h] at h3; cases h3
    exact ⟨h1, by rw [DH.put_ne n1]; exact h2, by rw [DH.put_ne n2]; exact h3, by rw [upd_ne n1]; exact h4, by rw [upd_ne n2]; exact h5⟩
end
section
variable {H H' : Hp} {G : DH}
theorem RO.lstT {a : Addr} {ds : List D} {vs : List V} (h : H a = some (.lst vs)) (r : RVs H ds vs) : RO H a (.lst true ds) := ⟨vs, h, r⟩
theorem RO.dctT {a : Addr} {ds : List (Key × D)} {vs : List (Key × V)} (h : H a = some (.dK vs)) (r : RKs H ds vs) : RO H a (.dct true ds) := ⟨vs, h, r⟩
theorem RO.dctF {a : Addr} {o : Obj} {ds : List (Key × D)} {vs : List (Key × V)} (h : H a = some (.frz o (.dK vs))) (r : RKs H ds vs) : RO H a (.dct false ds) := ⟨o, vs, h, r⟩
theorem RO.insT {a C dx : Addr} {ds : List (Str × D)} {vs : List (Str × V)} (h : H a = some (.ins C dx vs)) (r : RKs H ds vs) : RO H a (.ins C ds) := ⟨dx, vs, h, r⟩
theorem RH.newL {p : Addr} {ds : List D} {vs : List V} (r : RH H G) (h : H p = none) (q : RVs H ds vs) : RH (upd H p (.lst vs)) (G.put p (.lst true ds)) := r.new h (RO.lstT upd_same (RVs.mono (TM.new h) _ _ q))
theorem RH.newD {p : Addr} {ds : List (Key × D)} {vs : List (Key × V)} (r : RH H G) (h : H p = none) (q : RKs H ds vs) : RH (upd H p (.dK vs)) (G.put p (.dct true ds)) := r.new h (RO.dctT upd_same (RKs.mono (TM.new h) _ _ q))
theorem RH.writeL {p : Addr} {u : HO} {o : DO} {ds : List D} {vs : List V} (r : RH H G) (h : G.ob p = some o) (hp : H p = some u) (q : RVs H ds vs) (hw : o.rw = true := by rfl) : RH (upd H p (.lst vs)) (G.put p (.lst true ds)) := r.write h hp (RO.lstT upd_same (RVs.mono (r.write_tm h hp hw) _ _ q)) hw
theorem RH.writeD {p : Addr} {u : HO} {o : DO} {ds : List (Key × D)} {vs : List (Key × V)} (r : RH H G) (h : G.ob p = some o) (hp : H p = some u) (q : RKs H ds vs) (hw : o.rw = true := by rfl) : RH (upd H p (.dK vs)) (G.put p (.dct true ds)) := r.write h hp (RO.dctT upd_same (RKs.mono (r.write_tm h hp hw) _ _ q)) hw
theorem RH.atL {a : Addr} {ds : List D} (r : RH H G) (h : G.ob a = some (.lst true ds)) : ∃ vs, H a = some (.lst vs) ∧ RVs H ds vs := r.ob a _ h
theorem RH.atR {a : Addr} {w : Bool} {ds : List D} (rh : RH H G) (h : G.ob a = some (.lst w ds)) : ∃ vs, Rd H a (.lst vs) ∧ RVs H ds vs := by
  have ro := rh.ob a _ h
  cases w with
  | true => obtain ⟨vs, h1, h2⟩ := ro; exact ⟨vs, .inl h1, h2⟩
  | false => exact ro
theorem RH.atD {a : Addr} {ds : List (Key × D)} (r : RH H G) (h : G.ob a = some (.dct true ds)) : ∃ vs, H a = some (.dK vs) ∧ RKs H ds vs := r.ob a _ h
theorem RH.atF {a : Addr} {ds : List (Key × D)} (r : RH H G) (h : G.ob a = some (.dct false ds)) : ∃ o vs, H a = some (.frz o (.dK vs)) ∧ RKs H ds vs := r.ob a _ h
theorem RH.atDR {a : Addr} {w : Bool} {ds : List (Key × D)} (r : RH H G) (h : G.ob a = some (.dct w ds)) : ∃ vs, Rd H a (.dK vs) ∧ RKs H ds vs := by
  have ro := r.ob a _ h
  cases w with
  | true => obtain ⟨vs, h1, h2⟩ := ro; exact ⟨vs, .inl h1, h2⟩
  | false => obtain ⟨o, vs, h1, h2⟩ := ro; exact ⟨vs, .inr ⟨o, h1⟩, h2⟩
theorem RH.atI {a C : Addr} {fs : List (Str × D)} (r : RH H G) (h : G.ob a = some (.ins C fs)) : ∃ dx ws, H a = some (.ins C dx ws) ∧ RKs H fs ws := r.ob a _ h
end
/-! dicts: the hand layer's functions, over any values -/
section
variable {κ β : Type} [DecidableEq κ]
def valA (kvs : List (κ × β)) (k : κ) : Option β := (kvs.find? fun kv => decide (kv.1 = k)).map (·.2)
def putA (kvs : List (κ × β)) (k : κ) (v : β) : List (κ × β) :=
  if (kvs.any fun kv => decide (kv.1 = k)) = true then kvs.map (fun kv => if kv.1 = k then (kv.1, v) else kv) else kvs ++ [(k, v)]
def dropA (kvs : List (κ × β)) (k : κ) : List (κ × β) := kvs.filter fun kv => decide (kv.1 ≠ k)
def mergeA (kvs more : List (κ × β)) : List (κ × β) := more.foldl (fun acc kv => putA acc kv.1 kv.2) kvs
end
section
variable {κ : Type} [DecidableEq κ] {H : Hp}
theorem RKs.val (k : κ) : ∀ {ds : List (κ × D)} {vs : List (κ × V)}, RKs H ds vs → (∀ d, valA ds k = some d → ∃ v, valV vs k = some v ∧ RV H d v) ∧ (valA ds k = none → valV vs k = none)
  | [], vs, h => by
    have e : vs = [] := h
    subst e
    exact ⟨fun d hd => (nomatch (show (none : Option D) = some d from hd)), fun _ => rfl⟩
  | p :: ds, vs, h => by
    obtain ⟨v, r, e, h1, h2⟩ := h
    subst e
    have ih := RKs.val k h2
    by_cases hk : p.1 = k
    · have e1 : valA (p :: ds) k = some p.2 := by simp [valA, List.find?_cons, hk]
      rw [e1, valV_pos (show ((p.1, v) : κ × V).1 = k from hk)]
      exact ⟨fun d hd => by cases hd; exact ⟨v, rfl, h1⟩, fun z => by cases z⟩
    · have e1 : valA (p :: ds) k = valA ds k := by simp [valA, List.find?_cons, hk]
      rw [e1, valV_neg (show ¬ ((p.1, v) : κ × V).1 = k from hk)]
      exact ih
theorem RKs.anyK (k : κ) {ds : List (κ × D)} {vs : List (κ × V)} (h : RKs H ds vs) : (vs.any fun kv => decide (kv.1 = k)) = (ds.any fun kv => decide (kv.1 = k)) := by
  have e := h.keys
  have e1 : ∀ {γ : Type} (l : List (κ × γ)), (l.any fun kv => decide (kv.1 = k)) = ((l.map (·.1)).any fun x => decide (x = k)) := fun l => by rw [List.any_map]; rfl
  rw [e1 vs, e1 ds, e]
theorem RKs.append {κ : Type} {H : Hp} : ∀ {ds es : List (κ × D)} {vs us : List (κ × V)}, RKs H ds vs → RKs H es us → RKs H (ds ++ es) (vs ++ us)
  | [], es, vs, us, h, t => by
    have e : vs = [] := h
    subst e
    exact t
  | d :: ds, es, vs, us, h, t => by
    obtain ⟨v, r, e1, h1, h2⟩ := h
    subst e1
    exact ⟨v, r ++ us, rfl, h1, h2.append t⟩
theorem RKs.one {κ : Type} {H : Hp} {k : κ} {d : D} {v : V} (h : RV H d v) : RKs H [(k, d)] [(k, v)] := ⟨v, [], rfl, h, rfl⟩
theorem RKs.putMap (k : κ) {d : D} {v : V} (hv : RV H d v) : ∀ {ds : List (κ × D)} {vs : List (κ × V)}, RKs H ds vs → RKs H (ds.map fun kv => if kv.1 = k then (kv.1, d) else kv) (vs.map fun kv => if kv.1 = k then (kv.1, v) else kv)
  | [], vs, h => by
    have e : vs = [] := h
    subst e
    rfl
  | p :: ds, vs, h => by
    obtain ⟨v', r, e, h1, h2⟩ := h
    subst e
    by_cases hk : p.1 = k
    · refine ⟨v, r.map fun kv => if kv.1 = k then (kv.1, v) else kv, ?_, ?_, RKs.putMap k hv h2⟩
      · simp [hk]
      · simp [hk, hv]
    · refine ⟨v', r.map fun kv => if kv.1 = k then (kv.1, v) else kv, ?_, ?_, RKs.putMap k hv h2⟩
      · simp [hk]
      · simp [hk, h1]
theorem RKs.put (k : κ) {d : D} {v : V} (hv : RV H d v) {ds : List (κ × D)} {vs : List (κ × V)} (h : RKs H ds vs) : RKs H (putA ds k d) (putK vs k v) := by
  unfold putA putK
  rw [h.anyK k]
  by_cases c : (ds.any fun kv => decide (kv.1 = k)) = true
  · rw [if_pos c, if_pos c]; exact h.putMap k hv
  · rw [if_neg c, if_neg c]; exact h.append (RKs.one hv)
theorem RKs.drop (k : κ) : ∀ {ds : List (κ × D)} {vs : List (κ × V)}, RKs H ds vs → RKs H (dropA ds k) (dropK vs k)
  | [], vs, h => by
    have e : vs = [] := h
    subst e
    rfl
  | p :: ds, vs, h => by
    obtain ⟨v', r, e, h1, h2⟩ := h
    subst e
    have ih := RKs.drop k h2
    unfold dropA dropK at ih ⊢
    by_cases hk : p.1 = k
    · rw [List.filter_cons_of_neg (by simp [hk]), List.filter_cons_of_neg (by simp [hk])]
      exact ih
    · rw [List.filter_cons_of_pos (by simp [hk]), List.filter_cons_of_pos (by simp [hk])]
      exact ⟨v', _, rfl, h1, ih⟩
theorem RKs.merge {H : Hp} : ∀ {more : List (Key × D)} {us : List (Key × V)} {ds : List (Key × D)} {vs : List (Key × V)}, RKs H more us → RKs H ds vs → RKs H (mergeA ds more) (mergeK vs us)
  | [], us, ds, vs, h, t => by
    have e : us = [] := h
    subst e
    exact t
  | p :: more, us, ds, vs, h, t => by
    obtain ⟨v', r, e, h1, h2⟩ := h
    subst e
    show RKs H (mergeA (putA ds p.1 p.2) more) (mergeK (putK vs p.1 v') r)
    exact RKs.merge h2 (t.put p.1 h1)
end
end Q7

namespace Q7
open PySem PySem.Spec PyProof.Rows L2

abbrev DEnv := List (Option D)
abbrev DK := D → DH → Prop
abbrev WE := DEnv → DH → DK → Prop
abbrev WT := DEnv → DH → (Bool → DH → Prop) → Prop
abbrev WA := DEnv → DH → (List D → DH → Prop) → Prop
structure DEnds where
  nx : DEnv → DH → Prop
  rt : DK
  bk : DEnv → DH → Prop := fun _ _ => False
  ct : DEnv → DH → Prop := fun _ _ => False
abbrev WS := DEnds → DEnv → DH → Prop
/-- an exception that leaves: its class, its fields -/
abbrev DX := Addr → List (Str × D) → DH → Prop
abbrev DX0 : DX := fun _ _ _ => False
abbrev DSp := List D → DH → DK → DX → Prop

def RE (H : Hp) (δ : DEnv) (σ : L2.St) : Prop := δ.length = σ.length ∧ ∀ (i : Nat) (d : D), δ[i]? = some (some d) → ∃ v, σ[i]? = some (some v) ∧ RV H d v
theorem RE.mono {H H' : Hp} {δ : DEnv} {σ : L2.St} (r : RE H δ σ) (t : TM H H') : RE H' δ σ := ⟨r.1, fun i d e => by
  obtain ⟨v, h1, h2⟩ := r.2 i d e
  exact ⟨v, h1, RV.mono t _ _ h2⟩⟩
theorem RE.set {H : Hp} {δ : DEnv} {σ : L2.St} {d : D} {v : V} (r : RE H δ σ) (i : Nat) (h : RV H d v) : RE H (δ.set i (some d)) (σ.set i (some v)) := by
  refine ⟨by rw [List.length_set, List.length_set]; exact r.1, fun j e he => ?_⟩
  by_cases hj : i = j
  · subst hj
    by_cases hi : i < δ.length
    · rw [List.getElem?_set_self hi] at he
      cases he
      exact ⟨v, List.getElem?_set_self (by rw [← r.1]; exact hi), h⟩
    · rw [List.getElem?_eq_none (by rw [List.length_set]; omega)] at he
      cases he
  · rw [List.getElem?_set_ne hj] at he ⊢
    exact r.2 j e he
def Post (H : Hp) (Q1 : DK) (Q : VK) : Prop := ∀ v G' H' x, Q1 v G' → RH H' G' → TM H H' → RV H' v x → Q x H'
def PostX (H : Hp) (E1 : DX) (E : XK) : Prop := ∀ C fs G' H' dd ws, E1 C fs G' → RH H' G' → TM H H' → H' dd = some (.xd ws) → RKs H' fs ws → E (.ref C) (some dd) H'
theorem Post.after {H H1 : Hp} {Q1 : DK} {Q : VK} (p : Post H Q1 Q) (t : TM H H1) : Post H1 Q1 Q := fun v G' H' x h r t' rv => p v G' H' x h r (t.trans t') rv
theorem PostX.after {H H1 : Hp} {E1 : DX} {E : XK} (p : PostX H E1 E) (t : TM H H1) : PostX H1 E1 E := fun C fs G' H' dd ws h r t' e q => p C fs G' H' dd ws h r (t.trans t') e q
theorem PostX.zero {H : Hp} {E : XK} : PostX H DX0 E := fun _ _ _ _ _ _ h => h.elim

/-- readings out of the data layer's -/
def EV (B : Hp) (w : WE) : TE := fun σ H Q => ∃ δ G Q1, TM B H ∧ RE H δ σ ∧ RH H G ∧ w δ G Q1 ∧ Post H Q1 Q
def TV (B : Hp) (w : WT) : TT := fun σ H Q => ∃ δ G Q1, TM B H ∧ RE H δ σ ∧ RH H G ∧ w δ G Q1 ∧ ∀ b G' H', Q1 b G' → RH H' G' → TM H H' → Q b H'
def AV (B : Hp) (w : WA) : TA := fun σ H Q => ∃ δ G Q1, TM B H ∧ RE H δ σ ∧ RH H G ∧ w δ G Q1 ∧ ∀ vs G' H' xs, Q1 vs G' → RH H' G' → TM H H' → RVs H' vs xs → Q xs H'
def PostS (B : Hp) (N : DEnv → DH → Prop) (M : L2.St → Hp → Prop) : Prop := ∀ δ' G' σ' H', N δ' G' → RE H' δ' σ' → RH H' G' → TM B H' → M σ' H'
structure PostE (B : Hp) (E : DEnds) (T : Ends) : Prop where
  nx : PostS B E.nx T.nx
  rt : ∀ v G' H' x, E.rt v G' → RH H' G' → TM B H' → RV H' v x → T.rt x H'
  bk : PostS B E.bk T.bk
  ct : PostS B E.ct T.ct
theorem PostS.after {B B' : Hp} {N : DEnv → DH → Prop} {M : L2.St → Hp → Prop} (p : PostS B N M) (t : TM B B') : PostS B' N M := fun δ' G' σ' H' n re rh t' => p δ' G' σ' H' n re rh (t.trans t')
theorem PostE.after {B B' : Hp} {E : DEnds} {T : Ends} (p : PostE B E T) (t : TM B B') : PostE B' E T := ⟨p.nx.after t, fun v G' H' x h r t' rv => p.rt v G' H' x h r (t.trans t') rv, p.bk.after t, p.ct.after t⟩
def SV (B : Hp) (w : WS) : TS := fun T σ H => ∃ δ G E, TM B H ∧ RE H δ σ ∧ RH H G ∧ w E δ G ∧ PostE H E T
def SPV (sp : DSp) : Sp := fun vs H Q E => ∃ ds G Q1 E1, RVs H ds vs ∧ RH H G ∧ sp ds G Q1 E1 ∧ Post H Q1 Q ∧ PostX H E1 E
/-- by values -/
def OV (r : D → D → DH → DK → Prop) : R2 := fun x y H Q => ∃ dx dy G Q1, RV H dx x ∧ RV H dy y ∧ RH H G ∧ r dx dy G Q1 ∧ Post H Q1 Q
def UV (r : D → DH → DK → Prop) : V → Hp → VK → Prop := fun x H Q => ∃ dx G Q1, RV H dx x ∧ RH H G ∧ r dx G Q1 ∧ Post H Q1 Q
def CV (r : List D → DH → DK → Prop) : List V → Hp → VK → Prop := fun xs H Q => ∃ ds G Q1, RVs H ds xs ∧ RH H G ∧ r ds G Q1 ∧ Post H Q1 Q
def MV (r : D → List D → DH → DK → Prop) : V → List V → Hp → VK → Prop := fun x xs H Q => ∃ d ds G Q1, RV H d x ∧ RVs H ds xs ∧ RH H G ∧ r d ds G Q1 ∧ Post H Q1 Q

theorem _root_.L2.PE.imp {X : Cx} {e : Expr} {t t' : TE} (h : PE X e t) (i : ∀ σ H Q, t' σ H Q → t σ H Q) : PE X e t' := ⟨fun pins s σ H Q I q => h.run pins s σ H Q I (i σ H Q q)⟩
theorem _root_.L2.PT.imp {X : Cx} {e : Expr} {t t' : TT} (h : PT X e t) (i : ∀ σ H Q, t' σ H Q → t σ H Q) : PT X e t' := ⟨fun pins s σ H Q I q => h.run pins s σ H Q I (i σ H Q q)⟩
theorem _root_.L2.PW.imp {X : Cx} {e : Expr} {t t' : TT} (h : PW X e t) (i : ∀ σ H Q, t' σ H Q → t σ H Q) : PW X e t' := ⟨fun wh pins s σ H Q I q => h.run wh pins s σ H Q I (i σ H Q q)⟩
theorem _root_.L2.PA.imp {X : Cx} {e : List Expr} {t t' : TA} (h : PA X e t) (i : ∀ σ H Q, t' σ H Q → t σ H Q) : PA X e t' := ⟨fun pos pins s σ H Q I q => h.run pos pins s σ H Q I (i σ H Q q)⟩
theorem _root_.L2.PK.imp {X : Cx} {e : List Keyword} {t t' : TA} (h : PK X e t) (i : ∀ σ H Q, t' σ H Q → t σ H Q) : PK X e t' := ⟨fun pos pins s σ H Q I q => h.run pos pins s σ H Q I (i σ H Q q)⟩
theorem _root_.L2.PS.imp {X : Cx} {e : Stmt} {t t' : TS} (h : PS X e t) (i : ∀ D σ H, t' D σ H → t D σ H) : PS X e t' := ⟨fun pins s σ H D I q => h.run pins s σ H D I (i D σ H q)⟩
theorem _root_.L2.PSs.imp {X : Cx} {e : List Stmt} {t t' : TS} (h : PSs X e t) (i : ∀ D σ H, t' D σ H → t D σ H) : PSs X e t' := ⟨fun pins s σ H D I q => h.run pins s σ H D I (i D σ H q)⟩
theorem _root_.L2.OpR.imp {X : Cx} {f : Value → Value → Sem Value} {r r' : R2} (h : OpR X f r) (i : ∀ x y H Q, r' x y H Q → r x y H Q) : OpR X f r' := by
  intro pins s σ H x y v u Q I rx ry q
  exact h pins s σ H x y v u Q I rx ry (i x y H Q q)

section
variable {X : Cx} {B : Hp} {a b e : Expr} {es : List Expr} {pos : Pos} {wa wb w : WE} {wt wu : WT} {ws : WA}

/-! ### expressions -/
def wC (d : D) : WE := fun _ G Q => Q d G
def wVar (i : Nat) : WE := fun δ G Q => ∃ d, δ[i]? = some (some d) ∧ Q d G
def wOp (r : D → D → DH → DK → Prop) (wa wb : WE) : WE := fun δ G Q => wa δ G fun x G1 => wb δ G1 fun y G2 => r x y G2 Q
def wUn (r : D → DH → DK → Prop) (wa : WE) : WE := fun δ G Q => wa δ G fun x G1 => r x G1 Q
theorem ev_c {d : D} {v : V} (h : PE X e (tC v)) (r : ∀ H, RV H d v) : PE X e (EV B (wC d)) := h.imp fun σ H Q ⟨δ, G, Q1, t, re, rh, h, p⟩ => p _ _ _ _ h rh (TM.refl H) (r H)
theorem ev_int {i j} : PE X (.Constant (.int i) j pos) (EV B (wC (.int i))) := ev_c pe_int fun _ => rfl
theorem ev_bl {i j} : PE X (.Constant (.bool i) j pos) (EV B (wC (.bl i))) := ev_c pe_bl fun _ => rfl
theorem ev_non {j} : PE X (.Constant .none j pos) (EV B (wC .non)) := ev_c pe_non fun _ => rfl
theorem ev_str {i j} : PE X (.Constant (.str i) j pos) (EV B (wC (.str i))) := ev_c pe_str fun _ => rfl
theorem ev_tvar {i : Nat} (h : PE X e (tVar i)) : PE X e (EV B (wVar i)) := h.imp fun σ H Q ⟨δ, G, Q1, t, re, rh, ⟨d, hd, h⟩, p⟩ => by
  obtain ⟨v, h1, h2⟩ := re.2 i d hd
  exact ⟨v, h1, p _ _ _ _ h rh (TM.refl H) h2⟩
theorem ev_var (i : Nat) {x : Str} (hN : X.N[i]? = some x := by rfl) (hv : Vis X.env.scope x := by first | exact Or.inl rfl | exact Or.inr (Or.inl rfl) | exact Or.inr (Or.inr rfl)) (hd : (x == ("__debug__" : Str)) = false := by decide)
    (hcd : (x == ("__classdict__" : Str)) = false := by decide) : PE X (.Name x pos) (EV B (wVar i)) := ev_tvar (pe_var hN hv hd hcd)
theorem ev2 {σ : L2.St} {H : Hp} {R : V → V → Hp → Prop} {δ : DEnv} {G : DH} {k : D → D → DH → Prop} (t : TM B H) (re : RE H δ σ) (rh : RH H G) (h : wa δ G fun x G1 => wb δ G1 fun y G2 => k x y G2)
    (i : ∀ x y G2 H2 v u, k x y G2 → RH H2 G2 → TM H H2 → RV H2 x v → RV H2 y u → R v u H2) : EV B wa σ H fun v H1 => EV B wb σ H1 fun u H2 => R v u H2 :=
  ⟨δ, G, _, t, re, rh, h, fun x G1 H1 v h1 rh1 t1 rv => ⟨δ, G1, _, t.trans t1, re.mono t1, rh1, h1, fun y G2 H2 u h2 rh2 t2 ru => i x y G2 H2 v u h2 rh2 (t1.trans t2) (RV.mono t2 _ _ rv) ru⟩⟩
theorem ev_op {op : Operator} {r : D → D → DH → DK → Prop} (ho : OpR X (binaryOp op) (OV r)) (ha : PE X a (EV B wa)) (hb : PE X b (EV B wb)) : PE X (.BinOp a op b pos) (EV B (wOp r wa wb)) :=
  (pe_op ho ha hb).imp fun σ H Q ⟨δ, G, Q1, t, re, rh, h, p⟩ => ev2 t re rh h fun x y G2 H2 v u h2 rh2 t2 rv ru => ⟨x, y, G2, Q1, rv, ru, rh2, h2, p.after t2⟩
theorem ev_un {op : UnaryOp} {r : D → DH → DK → Prop} (ho : UnR X (unaryOp op) (UV r)) (ha : PE X a (EV B wa)) : PE X (.UnaryOp op a pos) (EV B (wUn r wa)) :=
  (pe_un ho ha).imp fun σ H Q ⟨δ, G, Q1, t, re, rh, h, p⟩ => ⟨δ, G, _, t, re, rh, h, fun x G1 H1 v h1 rh1 t1 rv => ⟨x, G1, Q1, rv, rh1, h1, p.after t1⟩⟩
theorem ev_cmp {op : CmpOp} {r : D → D → DH → DK → Prop} (ho : OpR X (compareOp op) (OV r)) (ha : PE X a (EV B wa)) (hb : PE X b (EV B wb)) (hm : behindInMarks op b = false := by first | exact nomark _ | rfl) : PE X (.Compare a [op] [b] pos) (EV B (wOp r wa wb)) :=
  (pe_cmpR ho ha hb hm).imp fun σ H Q ⟨δ, G, Q1, t, re, rh, h, p⟩ => ev2 t re rh h fun x y G2 H2 v u h2 rh2 t2 rv ru => ⟨x, y, G2, Q1, rv, ru, rh2, h2, p.after t2⟩
/-- tests -/
def wB (w : WE) : WT := fun δ G Q => w δ G fun x G1 => ∃ c, x = .bl c ∧ Q c G1
theorem tv_cmp {op : CmpOp} {r : D → D → DH → DK → Prop} (ho : OpR X (compareOp op) (OV r)) (ha : PE X a (EV B wa)) (hb : PE X b (EV B wb)) (hm : behindInMarks op b = false := by first | exact nomark _ | rfl) : PT X (.Compare a [op] [b] pos) (TV B (wB (wOp r wa wb))) :=
  (pt_cmpR ho ha hb hm).imp fun σ H Q ⟨δ, G, Q1, t, re, rh, h, p⟩ => ev2 t re rh h fun x y G2 H2 v u h2 rh2 t2 rv ru =>
    ⟨x, y, G2, _, rv, ru, rh2, h2, fun z G3 H3 x3 ⟨c, e, q⟩ rh3 t3 r3 => by
      subst e
      have r3' : x3 = .bl c := r3
      exact ⟨c, r3', p _ _ _ q rh3 (t2.trans t3)⟩⟩
theorem tv_val (h : PE X e (EV B w)) (he : ∀ whole, isTrue e X.env whole = (do let v ← whole; standAt e.pos; holding [v] (truthy v)) := by intro _; rfl) : PT X e (TV B (wB w)) :=
  (pt_val h he).imp fun σ H Q ⟨δ, G, Q1, t, re, rh, h, p⟩ => ⟨δ, G, _, t, re, rh, h, fun z G3 H3 x3 ⟨c, e, q⟩ rh3 t3 r3 => by
      subst e
      have r3' : x3 = .bl c := r3
      exact ⟨c, r3', p _ _ _ q rh3 t3⟩⟩
def wAnd (t u : WT) : WT := fun δ G Q => t δ G fun c G1 => if c = true then u δ G1 Q else Q false G1
def wOr (t u : WT) : WT := fun δ G Q => t δ G fun c G1 => if c = true then Q true G1 else u δ G1 Q
def wNot (t : WT) : WT := fun δ G Q => t δ G fun c G1 => Q (!c) G1
variable {rest : List Expr}
theorem wv_one_and (h : PT X a (TV B wt)) : PW X (.BoolOp .And [a] pos) (TV B wt) := pw_and1 h
theorem wv_one_or (h : PT X a (TV B wt)) : PW X (.BoolOp .Or [a] pos) (TV B wt) := pw_or1 h
theorem wv_and (ha : PT X a (TV B wt)) (hb : PW X (.BoolOp .And (b :: rest) pos) (TV B wu)) : PW X (.BoolOp .And (a :: b :: rest) pos) (TV B (wAnd wt wu)) :=
  (pw_and ha hb).imp fun σ H Q ⟨δ, G, Q1, t, re, rh, h, p⟩ => ⟨δ, G, _, t, re, rh, h, fun c G1 H1 h1 rh1 t1 => by
    cases c with
    | true =>
      rw [if_pos rfl] at h1 ⊢
      exact ⟨δ, G1, Q1, t.trans t1, re.mono t1, rh1, h1, fun b G2 H2 h2 rh2 t2 => p b G2 H2 h2 rh2 (t1.trans t2)⟩
    | false =>
      rw [if_neg Bool.false_ne_true] at h1 ⊢
      exact p _ _ _ h1 rh1 t1⟩
theorem wv_or (ha : PT X a (TV B wt)) (hb : PW X (.BoolOp .Or (b :: rest) pos) (TV B wu)) : PW X (.BoolOp .Or (a :: b :: rest) pos) (TV B (wOr wt wu)) :=
  (pw_or ha hb).imp fun σ H Q ⟨δ, G, Q1, t, re, rh, h, p⟩ => ⟨δ, G, _, t, re, rh, h, fun c G1 H1 h1 rh1 t1 => by
    cases c with
    | false =>
      rw [if_neg Bool.false_ne_true] at h1 ⊢
      exact ⟨δ, G1, Q1, t.trans t1, re.mono t1, rh1, h1, fun b G2 H2 h2 rh2 t2 => p b G2 H2 h2 rh2 (t1.trans t2)⟩
    | true =>
      rw [if_pos rfl] at h1 ⊢
      exact p _ _ _ h1 rh1 t1⟩
theorem tv_not (ha : PT X a (TV B wt)) : PT X (.UnaryOp .Not a pos) (TV B (wNot wt)) :=
  (pt_not ha).imp fun σ H Q ⟨δ, G, Q1, t, re, rh, h, p⟩ => ⟨δ, G, _, t, re, rh, h, fun c G1 H1 h1 rh1 t1 => p _ _ _ h1 rh1 t1⟩
/-- .. as values -/
def wAndV (wa wb : WE) : WE := fun δ G Q => wa δ G fun x G1 => ∃ c, x = .bl c ∧ if c = true then wb δ G1 Q else Q (.bl false) G1
def wOrV (wa wb : WE) : WE := fun δ G Q => wa δ G fun x G1 => ∃ c, x = .bl c ∧ if c = true then Q (.bl true) G1 else wb δ G1 Q
def wNotV (wa : WE) : WE := fun δ G Q => wa δ G fun x G1 => ∃ c, x = .bl c ∧ Q (.bl (!c)) G1
theorem ev_one {op} (h : PE X a (EV B wa)) : PE X (.BoolOp op [a] pos) (EV B wa) := pe_one h
theorem ev_and (ha : PE X a (EV B wa)) (hb : PE X (.BoolOp .And (b :: rest) pos) (EV B wb)) : PE X (.BoolOp .And (a :: b :: rest) pos) (EV B (wAndV wa wb)) :=
  (pe_and ha hb).imp fun σ H Q ⟨δ, G, Q1, t, re, rh, h, p⟩ => ⟨δ, G, _, t, re, rh, h, fun x G1 H1 v ⟨c, e, h1⟩ rh1 t1 rv => by
    subst e
    refine ⟨c, rv, ?_⟩
    cases c with
    | true =>
      rw [if_pos rfl] at h1 ⊢
      exact ⟨δ, G1, Q1, t.trans t1, re.mono t1, rh1, h1, p.after t1⟩
    | false =>
      rw [if_neg Bool.false_ne_true] at h1 ⊢
      exact p _ _ _ _ h1 rh1 t1 rfl⟩
theorem ev_or (ha : PE X a (EV B wa)) (hb : PE X (.BoolOp .Or (b :: rest) pos) (EV B wb)) : PE X (.BoolOp .Or (a :: b :: rest) pos) (EV B (wOrV wa wb)) :=
  (pe_or ha hb).imp fun σ H Q ⟨δ, G, Q1, t, re, rh, h, p⟩ => ⟨δ, G, _, t, re, rh, h, fun x G1 H1 v ⟨c, e, h1⟩ rh1 t1 rv => by
    subst e
    refine ⟨c, rv, ?_⟩
    cases c with
    | false =>
      rw [if_neg Bool.false_ne_true] at h1 ⊢
      exact ⟨δ, G1, Q1, t.trans t1, re.mono t1, rh1, h1, p.after t1⟩
    | true =>
      rw [if_pos rfl] at h1 ⊢
      exact p _ _ _ _ h1 rh1 t1 rfl⟩
theorem ev_not (ha : PE X a (EV B wa)) : PE X (.UnaryOp .Not a pos) (EV B (wNotV wa)) :=
  (pe_not ha).imp fun σ H Q ⟨δ, G, Q1, t, re, rh, h, p⟩ => ⟨δ, G, _, t, re, rh, h, fun x G1 H1 v ⟨c, e, h1⟩ rh1 t1 rv => by
    subst e
    exact ⟨c, rv, p _ _ _ _ h1 rh1 t1 rfl⟩⟩
def wIf (t : WT) (wa wb : WE) : WE := fun δ G Q => t δ G fun c G1 => if c = true then wa δ G1 Q else wb δ G1 Q
theorem ev_if {c : Expr} (hc : PT X c (TV B wt)) (ha : PE X a (EV B wa)) (hb : PE X b (EV B wb)) : PE X (.IfExp c a b pos) (EV B (wIf wt wa wb)) :=
  (pe_ifExp hc ha hb).imp fun σ H Q ⟨δ, G, Q1, t, re, rh, h, p⟩ => ⟨δ, G, _, t, re, rh, h, fun c G1 H1 h1 rh1 t1 => by
    cases c with
    | true =>
      rw [if_pos rfl] at h1 ⊢
      exact ⟨δ, G1, Q1, t.trans t1, re.mono t1, rh1, h1, p.after t1⟩
    | false =>
      rw [if_neg Bool.false_ne_true] at h1 ⊢
      exact ⟨δ, G1, Q1, t.trans t1, re.mono t1, rh1, h1, p.after t1⟩⟩
/-- a < b < c -/
def wChain (r r' : D → D → DH → DK → Prop) (wa wb wc : WE) : WE := fun δ G Q => wa δ G fun x G1 => wb δ G1 fun y G2 => r x y G2 fun z G3 => ∃ k, z = .bl k ∧ (if k = true then wc δ G3 fun u G4 => r' y u G4 Q else Q (.bl false) G3)
theorem ev_chain {c : Expr} {wc : WE} {op op' : CmpOp} {r r' : D → D → DH → DK → Prop} (ho : OpR X (compareOp op) (OV r)) (ho' : OpR X (compareOp op') (OV r')) (ha : PE X a (EV B wa)) (hb : PE X b (EV B wb)) (hc : PE X c (EV B wc)) (hm : lastMarks [op, op'] [b, c] = false := by rfl) : PE X (.Compare a [op, op'] [b, c] pos) (EV B (wChain r r' wa wb wc)) :=
  (pe_chain ho ho' ha hb hc hm).imp fun σ H Q ⟨δ, G, Q1, t, re, rh, h, p⟩ => ev2 t re rh h fun x y G2 H2 v u h2 rh2 t2 rv ru =>
    ⟨x, y, G2, _, rv, ru, rh2, h2, fun z G3 H3 x3 ⟨k, e, q⟩ rh3 t3 r3 => by
      subst e
      refine ⟨k, r3, ?_⟩
      cases k with
      | true =>
        rw [if_pos rfl] at q ⊢
        exact ⟨δ, G3, _, t.trans (t2.trans t3), re.mono (t2.trans t3), rh3, q, fun w G4 H4 x4 h4 rh4 t4 r4 => ⟨y, w, G4, Q1, RV.mono (t3.trans t4) _ _ ru, r4, rh4, h4, p.after (t2.trans (t3.trans t4))⟩⟩
      | false =>
        rw [if_neg Bool.false_ne_true] at q ⊢
        exact p _ _ _ _ q rh3 (t2.trans t3) rfl⟩

/-! ### arguments, displays -/
def wNil : WA := fun _ G Q => Q [] G
def wCons (w : WE) (ws : WA) : WA := fun δ G Q => w δ G fun x G1 => ws δ G1 fun xs G2 => Q (x :: xs) G2
theorem av_nil : PA X [] (AV B wNil) := pa_nil.imp fun σ H Q ⟨δ, G, Q1, t, re, rh, h, p⟩ => p _ _ _ _ h rh (TM.refl H) RVs.nil
theorem av_cons (ha : PE X e (EV B w)) (hr : PA X es (AV B ws)) (hs : starEach (e :: es) X.env = (false, eval e X.env) :: starEach es X.env := by rfl) : PA X (e :: es) (AV B (wCons w ws)) :=
  (pa_cons ha hr hs).imp fun σ H Q ⟨δ, G, Q1, t, re, rh, h, p⟩ => ⟨δ, G, _, t, re, rh, h, fun x G1 H1 v h1 rh1 t1 rv => ⟨δ, G1, _, t.trans t1, re.mono t1, rh1, h1, fun xs G2 H2 vs h2 rh2 t2 rvs => p _ _ _ _ h2 rh2 (t1.trans t2) (RVs.cons (RV.mono t2 _ _ rv) rvs)⟩⟩
def wTup (ws : WA) : WE := fun δ G Q => ws δ G fun xs G1 => xs.length ≤ sizeLine ∧ Q (.tup xs) G1
def wLst (ws : WA) : WE := fun δ G Q => ws δ G fun xs G1 => xs.length ≤ sizeLine ∧ ∀ p, G1.ob p = none → Q (.ref p) (G1.put p (.lst true xs))
theorem ev_tup {k} (h : PA X es (AV B ws)) : PE X (.Tuple es k pos) (EV B (wTup ws)) :=
  (pe_tup h).imp fun σ H Q ⟨δ, G, Q1, t, re, rh, h, p⟩ => ⟨δ, G, _, t, re, rh, h, fun xs G1 H1 vs ⟨hl, h1⟩ rh1 t1 rvs => ⟨by rw [rvs.length]; exact hl, fun q hq =>
    p _ _ _ _ h1 (rh1.keep (keep_new hq)) (t1.trans (TM.new hq)) ⟨q, vs, rfl, upd_same, RVs.mono (TM.new hq) _ _ rvs⟩⟩⟩
theorem ev_lst (h : PA X es (AV B ws)) : PE X (.List es pos) (EV B (wLst ws)) :=
  (pe_lst h).imp fun σ H Q ⟨δ, G, Q1, t, re, rh, h, p⟩ => ⟨δ, G, _, t, re, rh, h, fun xs G1 H1 vs ⟨hl, h1⟩ rh1 t1 rvs => ⟨by rw [rvs.length]; exact hl, fun q hq =>
    p _ _ _ _ (h1 q (rh1.free hq)) (rh1.new hq ⟨vs, upd_same, RVs.mono (TM.new hq) _ _ rvs⟩) (t1.trans (TM.new hq)) rfl⟩⟩

/-! ### calls -/
variable {CX : CXT} {k : Nat} {f : Addr} {fd : FuncData} {ps : List Str} {sp : DSp} {x : Str} {p : Pos}
def wCall (sp : DSp) (E : DX) (ws : WA) : WE := fun δ G Q => ws δ G fun xs G1 => sp xs G1 Q E
theorem ev_call (F : FnOk X.prog X.w X.K X.mg X.base CX0 k f fd ps (SPV sp)) (hr : Room k X.A) (hg : Gl X x) (hm : X.mg x = some (.ref f)) (hk : PySem.W.keepIn X.K (.ref f) = true) (hb : Binds X.K fd ps []) (ha : PA X (e :: es) (AV B ws))
    (hdb : (x == ("__debug__" : Str)) = false := by decide) (hs : starEach (e :: es) X.env = (false, eval e X.env) :: starEach es X.env := by rfl) (h2 : (backTo pos (starEach es X.env)).any (·.1) = false := by rfl) : PE X (.Call (.Name x p) (e :: es) [] pos) (EV B (wCall sp DX0 ws)) :=
  (pe_call F hr hg hm hk hb .nil pass0 ha (by assumption) (by assumption) (by assumption)).imp fun σ H Q ⟨δ, G, Q1, t, re, rh, h, pq⟩ => ⟨δ, G, _, t, re, rh, h, fun xs G1 H1 vs h1 rh1 t1 rvs => by
    show SPV sp (vs ++ []) H1 Q E0
    rw [List.append_nil]
    exact ⟨xs, G1, Q1, DX0, rvs, rh1, h1, pq.after t1, PostX.zero⟩⟩
end
end Q7

namespace Q7
open PySem PySem.Spec PyProof.Rows L2

/-! ### targets -/
inductive Tgt where
  | nm (i : Nat)
  | tp (ts : List Tgt)
def unp (G : DH) : D → Option (List D)
  | .tup ds => some ds
  | .ref a => match G.ob a with
    | some (.lst _ ds) => some ds
    | _ => none
  | _ => none
theorem unp_ref {G : DH} {a : Addr} {ds : List D} (h : unp G (.ref a) = some ds) : ∃ w, G.ob a = some (.lst w ds) := by
  have h' : (match G.ob a with
    | some (.lst _ ds) => some ds
    | _ => none) = some ds := h
  cases hg : G.ob a with
  | none => rw [hg] at h'; cases h'
  | some o =>
    rw [hg] at h'
    cases o with
    | lst w es =>
      have e : es = ds := Option.some.inj h'
      subst e
      exact ⟨w, rfl⟩
    | dct _ _ => cases h'
    | ins _ _ => cases h'
theorem RH.lst {H : Hp} {G : DH} {a : Addr} {w : Bool} {ds : List D} (rh : RH H G) (h : G.ob a = some (.lst w ds)) : ∃ vs, Rd H a (.lst vs) ∧ RVs H ds vs := rh.atR h
mutual
def asg (G : DH) : Tgt → D → DEnv → Option DEnv
  | .nm i, d, δ => some (δ.set i (some d))
  | .tp ts, d, δ => match unp G d with
    | some ds => asgs G ts ds δ
    | none => none
def asgs (G : DH) : List Tgt → List D → DEnv → Option DEnv
  | [], [], δ => some δ
  | t :: ts, d :: ds, δ => match asg G t d δ with
    | some δ1 => asgs G ts ds δ1
    | none => none
  | _, _, _ => none
end
mutual
def slots : Tgt → List Nat
  | .nm i => [i]
  | .tp ts => slotss ts
def slotss : List Tgt → List Nat
  | [] => []
  | t :: ts => slots t ++ slotss ts
end
mutual
def gT (K : PySem.W.Frag) : Tgt → TG
  | .nm i => gName i
  | .tp ts => fun v σ H Q => gTup K ts.length (gTs K ts) v σ H Q ∨ gUnl K ts.length (gTs K ts) v σ H Q
def gTs (K : PySem.W.Frag) : List Tgt → TGs
  | [] => gNil
  | t :: ts => gCons (gT K t) (gTs K ts)
end
def wipeD (δ : DEnv) : List Nat → DEnv
  | [] => δ
  | v :: vs => (wipeD δ vs).set v none
theorem RE.none {H : Hp} {δ : DEnv} {σ : L2.St} (r : RE H δ σ) (i : Nat) : RE H (δ.set i Option.none) (σ.set i Option.none) := by
  refine ⟨by rw [List.length_set, List.length_set]; exact r.1, fun j e he => ?_⟩
  by_cases hj : i = j
  · subst hj
    by_cases hi : i < δ.length
    · rw [List.getElem?_set_self hi] at he
      cases he
    · rw [List.getElem?_eq_none (by rw [List.length_set]; omega)] at he
      cases he
  · rw [List.getElem?_set_ne hj] at he ⊢
    exact r.2 j e he
theorem RE.wipe {H : Hp} {δ : DEnv} {σ : L2.St} (r : RE H δ σ) : ∀ vs : List Nat, RE H (wipeD δ vs) (L2.wipe σ vs)
  | [] => r
  | v :: vs => (RE.wipe r vs).none v
theorem wipe_set (σ : L2.St) (i : Nat) (x : Option V) : ∀ vs : List Nat, L2.wipe (σ.set i x) vs = if i ∈ vs then L2.wipe σ vs else (L2.wipe σ vs).set i x
  | [] => by simp [L2.wipe]
  | v :: vs => by
    show (L2.wipe (σ.set i x) vs).set v none = if i ∈ v :: vs then (L2.wipe σ vs).set v none else ((L2.wipe σ vs).set v none).set i x
    rw [wipe_set σ i x vs]
    by_cases h1 : i ∈ vs
    · rw [if_pos h1, if_pos (List.mem_cons_of_mem _ h1)]
    · rw [if_neg h1]
      by_cases h2 : i = v
      · subst h2
        rw [if_pos List.mem_cons_self, List.set_set]
      · rw [if_neg (fun z => (List.mem_cons.mp z).elim h2 h1), List.set_comm _ _ h2]
def Outs (T : List Nat) (σ σ' : L2.St) : Prop := ∀ vs : List Nat, (∀ i ∈ T, i ∈ vs) → L2.wipe σ' vs = L2.wipe σ vs
mutual
theorem gT_ok {K : PySem.W.Frag} {H : Hp} {G : DH} {Q : L2.St → Hp → Prop} (rh : RH H G) : ∀ (T : Tgt) (d : D) (v : V) (δ δ' : DEnv) (σ : L2.St), asg G T d δ = some δ' → RV H d v → RE H δ σ →
    (∀ σ', RE H δ' σ' → Outs (slots T) σ σ' → Q σ' H) → gT K T v σ H Q
  | .nm i, d, v, δ, δ', σ, e, rv, re, q => by
    have e' : δ.set i (some d) = δ' := Option.some.inj e
    subst e'
    refine q _ (re.set i rv) fun vs hv => ?_
    rw [wipe_set, if_pos (hv i (by simp [slots]))]
  | .tp ts, d, v, δ, δ', σ, e, rv, re, q => by
    have e' : (match unp G d with
      | some ds => asgs G ts ds δ
      | none => none) = some δ' := e
    cases d with
    | tup ds =>
      obtain ⟨p, vs, ev, hp, rvs⟩ := rv
      have e2 : asgs G ts ds δ = some δ' := e'
      have hl := asgs_len ts ds δ δ' e2
      exact .inl ⟨p, vs, ev, SqT.of hp, by rw [rvs.length, hl], gTs_ok rh ts ds vs δ δ' σ e2 rvs re q⟩
    | ref a =>
      cases hu : unp G (.ref a) with
      | none => rw [hu] at e'; cases e'
      | some ds =>
        rw [hu] at e'
        obtain ⟨w, hg⟩ := unp_ref hu
        have e3 : asgs G ts ds δ = some δ' := e'
        have hl := asgs_len ts ds δ δ' e3
        obtain ⟨vs, hs, rvs⟩ := rh.lst hg
        exact .inr ⟨a, vs, rv, .inl hs, by rw [rvs.length, hl], gTs_ok rh ts ds vs δ δ' σ e3 rvs re q⟩
    | non => cases e'
    | bl _ => cases e'
    | int _ => cases e'
    | str _ => cases e'
    | ty _ => cases e'
theorem gTs_ok {K : PySem.W.Frag} {H : Hp} {G : DH} {Q : L2.St → Hp → Prop} (rh : RH H G) : ∀ (T : List Tgt) (ds : List D) (vs : List V) (δ δ' : DEnv) (σ : L2.St), asgs G T ds δ = some δ' → RVs H ds vs → RE H δ σ →
    (∀ σ', RE H δ' σ' → Outs (slotss T) σ σ' → Q σ' H) → gTs K T vs σ H Q
  | [], [], vs, δ, δ', σ, e, rv, re, q => by
    have e' : δ = δ' := Option.some.inj e
    subst e'
    have ev : vs = [] := rv
    exact ⟨ev, q σ re fun _ _ => rfl⟩
  | t :: ts, d :: ds, vs, δ, δ', σ, e, rv, re, q => by
    obtain ⟨v, r, ev, r1, r2⟩ := rv
    have e' : (match asg G t d δ with
      | some δ1 => asgs G ts ds δ1
      | none => none) = some δ' := e
    cases h1 : asg G t d δ with
    | none => rw [h1] at e'; cases e'
    | some δ1 =>
      rw [h1] at e'
      refine ⟨v, r, ev, gT_ok rh t d v δ δ1 σ h1 r1 re fun σ1 re1 o1 => gTs_ok rh ts ds r δ1 δ' σ1 e' r2 re1 fun σ2 re2 o2 => q σ2 re2 fun vs hv => ?_⟩
      rw [o2 vs fun i hi => hv i (by simp [slotss, hi]), o1 vs fun i hi => hv i (by simp [slotss, hi])]
  | [], d :: ds, _, _, _, _, e, _, _, _ => by cases e
  | t :: ts, [], _, _, _, _, e, _, _, _ => by cases e
theorem asgs_len {G : DH} : ∀ (T : List Tgt) (ds : List D) (δ δ' : DEnv), asgs G T ds δ = some δ' → ds.length = T.length
  | [], [], _, _, _ => rfl
  | t :: ts, d :: ds, δ, δ', e => by
    have e' : (match asg G t d δ with
      | some δ1 => asgs G ts ds δ1
      | none => none) = some δ' := e
    cases h1 : asg G t d δ with
    | none => rw [h1] at e'; cases e'
    | some δ1 =>
      rw [h1] at e'
      rw [List.length_cons, List.length_cons, asgs_len ts ds δ1 δ' e']
  | [], d :: ds, _, _, e => by cases e
  | t :: ts, [], _, _, e => by cases e
end
section
variable {X : Cx} {pos : Pos} {es : List Expr} {e : Expr} {t : Tgt} {ts : List Tgt}
theorem tg_nm (i : Nat) {x : Str} (hN : X.N.Nodup) (hi : X.N[i]? = some x := by rfl) (hx : Loc X.env.scope x := by first | exact Or.inl rfl | exact Or.inr rfl) (hf : X.fn x = true ∨ X.env.scope.names.lookup x = some .local := by first | exact .inl rfl | exact .inr rfl | assumption) : PG X (.Name x pos) (gT X.K (.nm i)) := pg_name hN hi hx hf
theorem tgs_nil : PGs X [] (gTs X.K []) := pgs_nil
theorem tgs_cons (h1 : PG X e (gT X.K t)) (h2 : PGs X es (gTs X.K ts)) (hs : (assignEach (e :: es) X.env).map (·.2) = assign e X.env :: (assignEach es X.env).map (·.2) := by rfl) : PGs X (e :: es) (gTs X.K (t :: ts)) := pgs_cons h1 h2 hs
theorem tg_tp {k} (hc : X.calm = true) (h : PGs X es (gTs X.K ts)) (hn : (assignEach es X.env).length = ts.length := by rfl) (hst : (assignEach es X.env).findIdx? (·.1) = none := by rfl) : PG X (.Tuple es k pos) (gT X.K (.tp ts)) := by
  refine ⟨fun pins s σ H v u Q I r hw => ?_⟩
  rcases hw with hw | hw
  · exact (pg_tup (pos := pos) (k := k) hc h hn hst).run pins s σ H v u Q I r hw
  · exact (pg_unl (pos := pos) (k := k) hc h hn hst).run pins s σ H v u Q I r hw
end

/-! ### statements -/
section
variable {X : Cx} {B : Hp} {a b e tg : Expr} {es : List Expr} {pos : Pos} {wa wb w we : WE} {wt wu : WT} {ws : WA} {st : Stmt} {rest body : List Stmt} {u v : WS} {T : Tgt}
def wNext : WS := fun E δ G => E.nx δ G
def wSeq (u v : WS) : WS := fun E δ G => u { E with nx := v E } δ G
def wNever : WS := fun _ _ _ => False
def wExpr (w : WE) : WS := fun E δ G => w δ G fun _ G1 => E.nx δ G1
def wRet (w : WE) : WS := fun E δ G => w δ G E.rt
def wRetN : WS := fun E _ G => E.rt .non G
def wIfS (t : WT) (u v : WS) : WS := fun E δ G => t δ G fun c G1 => if c = true then u E δ G1 else v E δ G1
def wAsg (w : WE) (T : Tgt) : WS := fun E δ G => w δ G fun x G1 => ∃ δ2, asg G1 T x δ = some δ2 ∧ E.nx δ2 G1
def wBreak : WS := fun E δ G => E.bk δ G
def wCont : WS := fun E δ G => E.ct δ G
theorem PostE.withNx {B : Hp} {E : DEnds} {T : Ends} {N : DEnv → DH → Prop} {M : L2.St → Hp → Prop} (p : PostE B E T) (h : PostS B N M) : PostE B { E with nx := N } { T with nx := M } := ⟨h, p.rt, p.bk, p.ct⟩
theorem ss_nil : PSs X [] (SV B wNext) := pss_nil.imp fun D σ H ⟨δ, G, E, t, re, rh, h, p⟩ => p.nx δ G σ H h re rh (TM.refl H)
theorem ss_never : PSs X body (SV B wNever) := pss_never.imp fun D σ H ⟨δ, G, E, t, re, rh, h, p⟩ => h
theorem sv_never : PS X st (SV B wNever) := ps_never.imp fun D σ H ⟨δ, G, E, t, re, rh, h, p⟩ => h
theorem ss_cons (h1 : PS X st (SV B u)) (h2 : PSs X rest (SV B v)) : PSs X (st :: rest) (SV B (wSeq u v)) :=
  (pss_cons h1 h2).imp fun D σ H ⟨δ, G, E, t, re, rh, h, p⟩ => ⟨δ, G, _, t, re, rh, h, p.withNx fun δ' G' σ' H' n re' rh' t' => ⟨δ', G', E, t.trans t', re', rh', n, p.after t'⟩⟩
theorem ss_one (h1 : PS X st (SV B u)) : PSs X [st] (SV B u) := pss_one h1
theorem sv_pass : PS X (.Pass pos) (SV B wNext) := ps_pass.imp fun D σ H ⟨δ, G, E, t, re, rh, h, p⟩ => p.nx δ G σ H h re rh (TM.refl H)
theorem sv_break : PS X (.Break pos) (SV B wBreak) := ps_break.imp fun D σ H ⟨δ, G, E, t, re, rh, h, p⟩ => p.bk δ G σ H h re rh (TM.refl H)
theorem sv_cont : PS X (.Continue pos) (SV B wCont) := ps_continue.imp fun D σ H ⟨δ, G, E, t, re, rh, h, p⟩ => p.ct δ G σ H h re rh (TM.refl H)
theorem sv_expr (he : PE X e (EV B w)) (hs : swapsWith e none pos.line X.env = pure false := by rfl) : PS X (.Expr e pos) (SV B (wExpr w)) :=
  (ps_expr he hs).imp fun D σ H ⟨δ, G, E, t, re, rh, h, p⟩ => ⟨δ, G, _, t, re, rh, h, fun x G1 H1 v h1 rh1 t1 rv => p.nx δ G1 σ H1 h1 (re.mono t1) rh1 t1⟩
theorem sv_ret (he : PE X e (EV B w)) : PS X (.Return (some e) pos) (SV B (wRet w)) :=
  (ps_ret he).imp fun D σ H ⟨δ, G, E, t, re, rh, h, p⟩ => ⟨δ, G, _, t, re, rh, h, fun x G1 H1 v h1 rh1 t1 rv => p.rt x G1 H1 v h1 rh1 t1 rv⟩
theorem sv_retN : PS X (.Return none pos) (SV B wRetN) := ps_retN.imp fun D σ H ⟨δ, G, E, t, re, rh, h, p⟩ => p.rt .non G H .non h rh (TM.refl H) rfl
theorem sv_if {c : Expr} {x y : List Stmt} (hc : PT X c (TV B wt)) (ha : PSs X x (SV B u)) (hb : PSs X y (SV B v)) : PS X (.If c x y pos) (SV B (wIfS wt u v)) :=
  (ps_if hc ha hb).imp fun D σ H ⟨δ, G, E, t, re, rh, h, p⟩ => ⟨δ, G, _, t, re, rh, h, fun c G1 H1 h1 rh1 t1 => by
    cases c with
    | true =>
      rw [if_pos rfl] at h1 ⊢
      exact ⟨δ, G1, E, t.trans t1, re.mono t1, rh1, h1, p.after t1⟩
    | false =>
      rw [if_neg Bool.false_ne_true] at h1 ⊢
      exact ⟨δ, G1, E, t.trans t1, re.mono t1, rh1, h1, p.after t1⟩⟩
theorem asg_ok {D : Ends} {σ : L2.St} {H : Hp} (h : SV B (wAsg we T) D σ H) : tAsg (EV B we) (gT X.K T) D σ H := by
  obtain ⟨δ, G, E, t, re, rh, h, p⟩ := h
  exact ⟨δ, G, _, t, re, rh, h, fun x G1 H1 v ⟨δ2, e2, h1⟩ rh1 t1 rv => gT_ok rh1 T x v δ δ2 σ e2 rv (re.mono t1) fun σ' re' _ => p.nx δ2 G1 σ' H1 h1 re' rh1 t1⟩
theorem sv_asg (he : PE X e (EV B we)) (hg : PG X tg (gT X.K T)) (hs : swapsWithSole [tg] e pos.line X.env = pure false := by rfl) (hw : swappedStores [tg] e X.env = pure none := by rfl)
    (h1 : (assignEach [tg] X.env).map (·.2) = [assign tg X.env] := by rfl) : PS X (.Assign [tg] e pos) (SV B (wAsg we T)) := (ps_asg he hg hs hw h1).imp fun D σ H h => asg_ok h
theorem sv_set (i : Nat) {x : Str} {pos' : Pos} (hN : X.N.Nodup) (he : PE X e (EV B we)) (hi : X.N[i]? = some x := by rfl) (hx : Loc X.env.scope x := by first | exact Or.inl rfl | exact Or.inr rfl) (hs : swapsWith e (some (.Name x pos')) pos.line X.env = pure false := by rfl) (hf : X.fn x = true ∨ X.env.scope.names.lookup x = some .local := by first | exact .inl rfl | exact .inr rfl | assumption) :
    PS X (.Assign [.Name x pos'] e pos) (SV B (wAsg we (.nm i))) := (ps_set hN hi hx he hs hf).imp fun D σ H h => asg_ok (X := X) h
/-- a, b = x, y, local names -/
theorem sv_par {i j : Nat} {x y : Str} {px py pt : Pos} {kt k2 pt2} (hc : X.calm = true) (hN : X.N.Nodup) (ha : PA X [a, b] (AV B (wCons wa (wCons wb wNil)))) (hi : X.N[i]? = some x := by rfl) (hj : X.N[j]? = some y := by rfl) (hij : i ≠ j := by decide)
    (hx : X.env.scope.names.lookup x = some .local := by rfl) (hy : X.env.scope.names.lookup y = some .local := by rfl) (hw : swappedStores [.Tuple [.Name x px, .Name y py] kt pt] (.Tuple [a, b] k2 pt2) X.env = pure (some [x, y]) := by rfl)
    (hs : swapsWithSole [.Tuple [.Name x px, .Name y py] kt pt] (.Tuple [a, b] k2 pt2) pos.line X.env = pure false := by rfl) :
    PS X (.Assign [.Tuple [.Name x px, .Name y py] kt pt] (.Tuple [a, b] k2 pt2) pos) (SV B (wAsg (wTup (wCons wa (wCons wb wNil))) (.tp [.nm i, .nm j]))) :=
  (ps_par hc hN hi hj hij hx hy ha hw hs).imp fun D σ H ⟨δ, G, E, t, re, rh, h, p⟩ => by
    have h' : wCons wa (wCons wb wNil) δ G (fun xs G1 => xs.length ≤ sizeLine ∧ ∃ δ2, asg G1 (.tp [.nm i, .nm j]) (.tup xs) δ = some δ2 ∧ E.nx δ2 G1) := h
    refine ⟨δ, G, _, t, re, rh, h', fun xs G1 H1 vs ⟨hl, δ2, e2, h1⟩ rh1 t1 rvs => ?_⟩
    have e3 : asgs G1 [.nm i, .nm j] xs δ = some δ2 := e2
    have hlen := asgs_len _ _ _ _ e3
    match xs, hlen, rvs, e3 with
    | [d1, d2], _, rvs, e3 =>
      obtain ⟨v, r, ev, r1, w, r', er, r2, en⟩ := rvs
      have en' : r' = [] := en
      subst en'; subst er; subst ev
      have e4 : (δ.set i (some d1)).set j (some d2) = δ2 := Option.some.inj e3
      refine ⟨v, w, rfl, p.nx δ2 G1 _ H1 h1 ?_ rh1 t1⟩
      rw [← e4]
      exact ((re.mono t1).set i r1).set j r2
/-- freezing a dict -/
def wFz (w : WS) : WS := fun E δ G => ∃ d kvs, G.ob d = some (.dct true kvs) ∧ w E δ (G.put d (.dct false kvs))
theorem fz_rh {H : Hp} {G : DH} {d : Addr} {kvs : List (Key × D)} {ws : List (Key × V)} {od : Obj} (rh : RH H G) (hd : G.ob d = some (.dct true kvs)) (hh : H d = some (.dK ws)) (rk : RKs H kvs ws) : RH (upd H d (.frz od (.dK ws))) (G.put d (.dct false kvs)) ∧ TM H (upd H d (.frz od (.dK ws))) :=
  have t := rh.write_tm (u := .frz od (.dK ws)) hd hh
  ⟨rh.write hd hh ⟨od, ws, upd_same, RKs.mono t _ _ rk⟩, t⟩
theorem ss_fz (h : PSs X body (SV B u)) : PSs X body (SV B (wFz u)) := by
  refine ⟨fun pins s σ H D I hw => ?_⟩
  obtain ⟨δ, G, E, t, re, rh, ⟨d, kvs, hd, hw⟩, p⟩ := hw
  obtain ⟨ws, hh, rk⟩ := rh.ob d _ hd
  obtain ⟨od, I1⟩ := I.lock hh trivial
  obtain ⟨rh1, t1⟩ := fz_rh (od := od) rh hd hh rk
  exact h.run pins s σ _ D I1 ⟨δ, _, E, t.trans t1, re.mono t1, rh1, hw, p.after t1⟩
def wFzE (w : WE) : WE := fun δ G Q => ∃ d kvs, G.ob d = some (.dct true kvs) ∧ w δ (G.put d (.dct false kvs)) Q
theorem ev_fz (h : PE X e (EV B w)) : PE X e (EV B (wFzE w)) := by
  refine ⟨fun pins s σ H Q I hw => ?_⟩
  obtain ⟨δ, G, Q1, t, re, rh, ⟨d, kvs, hd, hw⟩, p⟩ := hw
  obtain ⟨ws, hh, rk⟩ := rh.ob d _ hd
  obtain ⟨od, I1⟩ := I.lock hh trivial
  obtain ⟨rh1, t1⟩ := fz_rh (od := od) rh hd hh rk
  exact h.run pins s σ _ Q I1 ⟨δ, _, Q1, t.trans t1, re.mono t1, rh1, hw, p.after t1⟩

/-! ### what is walked -/
abbrev WI := DEnv → DH → ((DH → Prop) → List D → DH → Prop) → Prop
def ItOk (H0 : Hp) (J : It) (S : DH → Prop) (items : List D) : Prop := ∀ G H, TM H0 H → RH H G → S G → (J.stop items.length H) ∧ ∀ i, i < items.length → J.go i H ∧ ∀ x H', J.yld i H x H' → RH H' G ∧ TM H H' ∧ ∃ d, items[i]? = some d ∧ RV H' d x
def IV (B : Hp) (w : WI) : TI := fun σ H R => ∃ δ G Q1, TM B H ∧ RE H δ σ ∧ RH H G ∧ w δ G Q1 ∧ ∀ S items G' H' J, Q1 S items G' → RH H' G' → TM H H' → ItOk H' J S items → R J H'
theorem _root_.L2.PI.imp {iter : Expr} {t t' : TI} (h : PI X tg iter t) (i : ∀ σ H R, t' σ H R → t σ H R) : PI X tg iter t' := ⟨fun pins s σ H R I q => h.run pins s σ H R I (i σ H R q)⟩
variable {iter : Expr} {wi : WI}
def wFor (wi : WI) (T : Tgt) (body : WS) : WS := fun E δ G => wi δ G fun S items G1 => ∃ I : Nat → DEnv → DH → Prop, I 0 δ G1 ∧ (∀ i δ' G', I i δ' G' → S G') ∧
  (∀ i x δ' G', items[i]? = some x → I i δ' G' → ∃ δ2, asg G' T x δ' = some δ2 ∧ body { nx := I (i + 1), ct := I (i + 1), bk := E.nx, rt := E.rt } δ2 G') ∧ (∀ δ' G', I items.length δ' G' → E.nx δ' G')
theorem sv_for (hp : PassesOwn (model X.prog X.w) X.A X.env X.xe) (hc : X.calm = true) (hi : PI X tg iter (IV B wi)) (hg : PG X tg (gT X.K T)) (hb : PSs X body (SV B u))
    (hs : ∀ x, foldedSetIterable iter X.env x = pure x := by intro _; rfl) : PS X (.For tg iter body [] pos) (SV B (wFor wi T u)) :=
  (ps_for hp hc hi hg hb hs).imp fun D σ H ⟨δ, G, E, t, re, rh, h, p⟩ => by
    refine ⟨δ, G, _, t, re, rh, h, fun S items G1 H1 J ⟨I, i0, hS, step, fin⟩ rh1 t1 ok => ?_⟩
    refine ⟨fun i m σ' H' => ∃ δ' G', TM H1 H' ∧ RE H' δ' σ' ∧ RH H' G' ∧ I i δ' G' ∧ i ≤ items.length ∧ m = items.length - i, ⟨items.length, δ, G1, TM.refl H1, re.mono t1, rh1, i0, Nat.zero_le _, rfl⟩, ?_⟩
    rintro i m σ' H' ⟨δ', G', t', re', rh', ii, hle, rfl⟩
    obtain ⟨stp, gos⟩ := ok G' H' t' rh' (hS i δ' G' ii)
    by_cases hlt : i < items.length
    · obtain ⟨go, yl⟩ := gos i hlt
      refine .inr ⟨go, fun σ3 H3 => ∃ δ3 G3, TM H1 H3 ∧ RE H3 δ3 σ3 ∧ RH H3 G3 ∧ I (i + 1) δ3 G3, fun σ3 H3 ⟨δ3, G3, t3, re3, rh3, i3⟩ => ⟨items.length - (i + 1), by omega, δ3, G3, t3, re3, rh3, i3, hlt, rfl⟩, fun x H4 y => ?_⟩
      obtain ⟨rh4, t4, d, hd, rv⟩ := yl x H4 y
      obtain ⟨δ2, e2, h2⟩ := step i d δ' G' hd ii
      refine gT_ok rh4 T d x δ' δ2 σ' e2 rv (re'.mono t4) fun σ5 re5 _ => ⟨δ2, G', _, t.trans (t1.trans (t'.trans t4)), re5, rh4, h2, ⟨?_, (p.after (t1.trans (t'.trans t4))).rt, ?_, ?_⟩⟩
      · exact fun δ6 G6 σ6 H6 n re6 rh6 t6 => ⟨δ6, G6, t'.trans (t4.trans t6), re6, rh6, n⟩
      · exact (p.after (t1.trans (t'.trans t4))).nx
      · exact fun δ6 G6 σ6 H6 n re6 rh6 t6 => ⟨δ6, G6, t'.trans (t4.trans t6), re6, rh6, n⟩
    · have ei : i = items.length := by omega
      subst ei
      exact .inl ⟨stp, p.nx δ' G' σ' H' (fin δ' G' ii) re' rh' (t1.trans t')⟩
def wWhile (c : WT) (body : WS) : WS := fun E δ G => ∃ (I : DEnv → DH → Prop) (μ : DEnv → DH → Nat), I δ G ∧ ∀ δ1 G1, I δ1 G1 → c δ1 G1 fun b G2 => if b = true then body { nx := fun δ' G' => I δ' G' ∧ μ δ' G' < μ δ1 G1, ct := fun δ' G' => I δ' G' ∧ μ δ' G' < μ δ1 G1, bk := E.nx, rt := E.rt } δ1 G2 else E.nx δ1 G2
theorem sv_while {c : Expr} (hp : PassesOwn (model X.prog X.w) X.A X.env X.xe) (hc : PT X c (TV B wt)) (hb : PSs X body (SV B u)) : PS X (.While c body [] pos) (SV B (wWhile wt u)) :=
  (ps_while hp hc hb).imp fun D σ H ⟨δ, G, E, t, re, rh, ⟨I, μ, i0, step⟩, p⟩ => by
    refine ⟨fun m σ' H' => ∃ δ' G', TM H H' ∧ RE H' δ' σ' ∧ RH H' G' ∧ I δ' G' ∧ m = μ δ' G', ⟨_, δ, G, TM.refl H, re, rh, i0, rfl⟩, ?_⟩
    rintro m σ' H' ⟨δ', G', t', re', rh', ii, rfl⟩
    refine ⟨δ', G', _, t.trans t', re', rh', step δ' G' ii, fun b G2 H2 h2 rh2 t2 => ?_⟩
    cases b with
    | true =>
      rw [if_pos rfl] at h2 ⊢
      refine ⟨fun σ3 H3 => ∃ δ3 G3, TM H H3 ∧ RE H3 δ3 σ3 ∧ RH H3 G3 ∧ I δ3 G3 ∧ μ δ3 G3 < μ δ' G', fun σ3 H3 ⟨δ3, G3, t3, re3, rh3, i3, l3⟩ => ⟨_, l3, δ3, G3, t3, re3, rh3, i3, rfl⟩, ?_⟩
      exact ⟨δ', G2, _, t.trans (t'.trans t2), re'.mono t2, rh2, h2, ⟨fun δ6 G6 σ6 H6 n re6 rh6 t6 => ⟨δ6, G6, t'.trans (t2.trans t6), re6, rh6, n.1, n.2⟩, (p.after (t'.trans t2)).rt, (p.after (t'.trans t2)).nx, fun δ6 G6 σ6 H6 n re6 rh6 t6 => ⟨δ6, G6, t'.trans (t2.trans t6), re6, rh6, n.1, n.2⟩⟩⟩
    | false =>
      rw [if_neg Bool.false_ne_true] at h2 ⊢
      exact p.nx δ' G2 σ' H2 h2 (re'.mono t2) rh2 (t'.trans t2)
end
end Q7

namespace Q7
open PySem PySem.Spec PyProof.Rows L2

theorem wipe_sub (σ : L2.St) (vs : List Nat) : ∀ us : List Nat, (∀ i ∈ us, i ∈ vs) → L2.wipe (L2.wipe σ us) vs = L2.wipe σ vs
  | [], _ => rfl
  | u :: us, h => by
    show L2.wipe ((L2.wipe σ us).set u none) vs = L2.wipe σ vs
    rw [wipe_set, if_pos (h u List.mem_cons_self)]
    exact wipe_sub σ vs us fun i hi => h i (List.mem_cons_of_mem _ hi)
theorem wipe_idem (σ : L2.St) (vs : List Nat) : L2.wipe (L2.wipe σ vs) vs = L2.wipe σ vs := wipe_sub σ vs vs fun _ h => h
theorem Outs.wipe {T : List Nat} {σ σ' : L2.St} {vs : List Nat} (o : Outs T (L2.wipe σ vs) σ') (h : ∀ i ∈ T, i ∈ vs) : L2.wipe σ' vs = L2.wipe σ vs := by rw [o vs h, wipe_idem]

section
variable {X : Cx} {B : Hp} {a b e tg elt iter kx vx : Expr} {ifs : List Expr} {pos : Pos} {wa wb w we wk wv : WE} {wt : WT} {wi : WI} {T : Tgt} {scope : Scope} {own : List (Str × Nat)}
theorem tv_yes : PTs X [] (TV B fun _ G Q => Q true G) := ⟨fun pins s σ H Q I ⟨δ, G, Q1, t, re, rh, h, p⟩ => pts_nil.run pins s σ H Q I (p _ _ _ h rh (TM.refl H))⟩
theorem tv_one (h : PT X e (TV B wt)) : PTs X [e] (TV B wt) := pts_one h
def wLC (wi : WI) (T : Tgt) (wt : WT) (we : WE) (vs : List Nat) : WE := fun δ G Q => wi δ G fun S items G1 => ∀ p, G1.ob p = none → ∃ I : Nat → DH → Prop, I 0 (G1.put p (.lst true [])) ∧ (∀ i G', I i G' → S G') ∧
  (∀ i x G', items[i]? = some x → I i G' → ∃ δ2, asg G' T x (wipeD δ vs) = some δ2 ∧ wt δ2 G' fun b G2 => if b = true then we δ2 G2 fun y G3 => ∃ acc, G3.ob p = some (.lst true acc) ∧ acc.length < sizeLine ∧ I (i + 1) (G3.put p (.lst true (acc ++ [y]))) else I (i + 1) G2) ∧
  (∀ G', I items.length G' → Q (.ref p) G')
theorem lc_read {σ : L2.St} {H : Hp} {Q : VK} {vs : List Nat} (hT : ∀ i ∈ slots T, i ∈ vs) (h : EV B (wLC wi T wt we vs) σ H Q) : tLc (IV B wi) (gT X.K T) (TV B wt) (EV B we) vs σ H Q := by
  obtain ⟨δ, G, Q1, t, re, rh, h, p⟩ := h
  refine ⟨δ, G, _, t, re, rh, h, fun S items G1 H1 J hJ rh1 t1 ok D hD => ?_⟩
  obtain ⟨I, i0, hS, step, fin⟩ := hJ D (rh1.free hD)
  have tD : TM H1 (upd H1 D (.lst [])) := TM.new hD
  refine ⟨fun i m H' => ∃ G', TM H1 H' ∧ RH H' G' ∧ I i G' ∧ i ≤ items.length ∧ m = items.length - i, ⟨items.length, _, tD, rh1.newL hD RVs.nil, i0, Nat.zero_le _, rfl⟩, ?_⟩
  rintro i m H' ⟨G', t'', rh', ii, hle, rfl⟩
  have t' := t1.trans t''
  obtain ⟨stp, gos⟩ := ok G' H' t'' rh' (hS i G' ii)
  by_cases hlt : i < items.length
  · obtain ⟨go, yl⟩ := gos i hlt
    refine .inr ⟨go, fun H3 => ∃ G3, TM H1 H3 ∧ RH H3 G3 ∧ I (i + 1) G3, fun H3 ⟨G3, t3, rh3, i3⟩ => ⟨items.length - (i + 1), by omega, G3, t3, rh3, i3, hlt, rfl⟩, fun x H4 y => ?_⟩
    obtain ⟨rh4, t4, d, hd, rv⟩ := yl x H4 y
    obtain ⟨δ2, e2, h2⟩ := step i d G' hd ii
    refine gT_ok rh4 T d x _ δ2 _ e2 rv ((re.mono (t'.trans t4)).wipe vs) fun σ5 re5 o5 => ⟨o5.wipe hT, δ2, G', _, t.trans (t'.trans t4), re5, rh4, h2, fun b G6 H6 h6 rh6 t6 => ?_⟩
    cases b with
    | true =>
      rw [if_pos rfl] at h6 ⊢
      refine ⟨δ2, G6, _, t.trans (t'.trans (t4.trans t6)), re5.mono t6, rh6, h6, fun y G7 H7 v ⟨acc, ha, hl, i7⟩ rh7 t7 rv7 => ?_⟩
      obtain ⟨us, hu, ru⟩ := rh7.ob D _ ha
      have tw := rh7.write_tm (u := .lst (us ++ [v])) ha hu
      exact ⟨us, hu, by rw [ru.length]; exact hl, _, (t''.trans (t4.trans (t6.trans t7))).trans tw, rh7.writeL ha hu (ru.append (RVs.cons rv7 RVs.nil)), i7⟩
    | false =>
      rw [if_neg Bool.false_ne_true] at h6 ⊢
      exact ⟨G6, t''.trans (t4.trans t6), rh6, h6⟩
  · have ei : i = items.length := by omega
    subst ei
    exact .inl ⟨stp, p _ _ _ _ (fin G' ii) rh' t' rfl⟩
theorem ev_lc (hc : X.calm = true) (hN : X.N.Nodup) (hi : PI X tg iter (IV B wi)) (ok : BlkOk X.N X.env.scope scope own)
    (hg : ∀ (s : Shared) (H : Hp) (C : Addr) (cl : List (Str × Addr)) (fp : List Addr), PG (X.blk s H scope (compEnvC scope cl C X.env) fp) tg (gT X.K T)) (ht : ∀ (s : Shared) (H : Hp) (C : Addr) (cl : List (Str × Addr)) (fp : List Addr), PTs (X.blk s H scope (compEnvC scope cl C X.env) fp) ifs (TV B wt))
    (he : ∀ (s : Shared) (H : Hp) (C : Addr) (cl : List (Str × Addr)) (fp : List Addr), PE (X.blk s H scope (compEnvC scope cl C X.env) fp) elt (EV B we)) (hT : ∀ i ∈ slots T, i ∈ own.map (·.2)) (hs : ∀ x, foldedSetIterable iter X.env x = pure x := by intro _; rfl) :
    PE X (.ListComp elt [⟨tg, iter, ifs, 0⟩] scope pos) (EV B (wLC wi T wt we (own.map (·.2)))) := (pe_lc hc hN hi ok hg ht he hs).imp fun σ H Q h => lc_read hT h
theorem sv_setLc (i : Nat) {y : Str} {py spos : Pos} (hc : X.calm = true) (hN : X.N.Nodup) (hi : PI X tg iter (IV B wi)) (ok : BlkOk X.N X.env.scope scope own)
    (hg : ∀ (s : Shared) (H : Hp) (C : Addr) (cl : List (Str × Addr)) (fp : List Addr), PG (X.blk s H scope (compEnvC scope cl C X.env) fp) tg (gT X.K T)) (ht : ∀ (s : Shared) (H : Hp) (C : Addr) (cl : List (Str × Addr)) (fp : List Addr), PTs (X.blk s H scope (compEnvC scope cl C X.env) fp) ifs (TV B wt))
    (he : ∀ (s : Shared) (H : Hp) (C : Addr) (cl : List (Str × Addr)) (fp : List Addr), PE (X.blk s H scope (compEnvC scope cl C X.env) fp) elt (EV B we)) (hT : ∀ i ∈ slots T, i ∈ own.map (·.2)) (hy : X.N[i]? = some y := by rfl) (hyl : X.env.scope.names.lookup y = some .local := by rfl)
    (hsw : swapsWith (.ListComp elt [⟨tg, iter, ifs, 0⟩] scope pos) (some (.Name y py)) spos.line X.env = pure true := by exact sw_true rfl rfl rfl (by decide +kernel)) (hs : ∀ x, foldedSetIterable iter X.env x = pure x := by intro _; rfl) :
    PS X (.Assign [.Name y py] (.ListComp elt [⟨tg, iter, ifs, 0⟩] scope pos) spos) (SV B (wAsg (wLC wi T wt we (own.map (·.2))) (.nm i))) :=
  (ps_setLc hc hN hy hyl hsw hi ok hg ht he hs).imp fun D σ H h => by
    obtain ⟨δ, G, E, t, re, rh, h, p⟩ := h
    exact lc_read hT ⟨δ, G, _, t, re, rh, h, fun x G1 H1 v ⟨δ2, e2, h1⟩ rh1 t1 rv => by
      have e3 : δ.set i (some x) = δ2 := Option.some.inj e2
      rw [← e3] at h1
      exact p.nx _ G1 _ H1 h1 ((re.mono t1).set i rv) rh1 t1⟩
/-- dict comprehensions, keys ints or texts -/
def kD : Key → D
  | .inl i => .int i
  | .inr x => .str x
theorem kD_rv {H : Hp} {k : Key} {v : V} (h : RV H (kD k) v) : v = kV k := by
  cases k with
  | inl i => exact h
  | inr x => exact h
def wDC (wi : WI) (T : Tgt) (wt : WT) (wk wv : WE) (vs : List Nat) : WE := fun δ G Q => wi δ G fun S items G1 => ∀ p, G1.ob p = none → ∃ I : Nat → DH → Prop, I 0 (G1.put p (.dct true [])) ∧ (∀ i G', I i G' → S G') ∧
  (∀ i x G', items[i]? = some x → I i G' → ∃ δ2, asg G' T x (wipeD δ vs) = some δ2 ∧ wt δ2 G' fun b G2 => if b = true then wk δ2 G2 fun y G3 => wv δ2 G3 fun z G4 => ∃ k acc, y = kD k ∧ G4.ob p = some (.dct true acc) ∧ acc.length < sizeLine ∧ I (i + 1) (G4.put p (.dct true (putA acc k z))) else I (i + 1) G2) ∧
  (∀ G', I items.length G' → Q (.ref p) G')
theorem dc_read {σ : L2.St} {H : Hp} {Q : VK} {vs : List Nat} (hT : ∀ i ∈ slots T, i ∈ vs) (h : EV B (wDC wi T wt wk wv vs) σ H Q) : tDc (IV B wi) (gT X.K T) (TV B wt) (EV B wk) (EV B wv) vs σ H Q := by
  obtain ⟨δ, G, Q1, t, re, rh, h, p⟩ := h
  refine ⟨δ, G, _, t, re, rh, h, fun S items G1 H1 J hJ rh1 t1 ok D hD => ?_⟩
  obtain ⟨I, i0, hS, step, fin⟩ := hJ D (rh1.free hD)
  have tD : TM H1 (upd H1 D (.dK [])) := TM.new hD
  refine ⟨fun i m H' => ∃ G', TM H1 H' ∧ RH H' G' ∧ I i G' ∧ i ≤ items.length ∧ m = items.length - i, ⟨items.length, _, tD, rh1.newD hD RKs.nil, i0, Nat.zero_le _, rfl⟩, ?_⟩
  rintro i m H' ⟨G', t'', rh', ii, hle, rfl⟩
  have t' := t1.trans t''
  obtain ⟨stp, gos⟩ := ok G' H' t'' rh' (hS i G' ii)
  by_cases hlt : i < items.length
  · obtain ⟨go, yl⟩ := gos i hlt
    refine .inr ⟨go, fun H3 => ∃ G3, TM H1 H3 ∧ RH H3 G3 ∧ I (i + 1) G3, fun H3 ⟨G3, t3, rh3, i3⟩ => ⟨items.length - (i + 1), by omega, G3, t3, rh3, i3, hlt, rfl⟩, fun x H4 y => ?_⟩
    obtain ⟨rh4, t4, d, hd, rv⟩ := yl x H4 y
    obtain ⟨δ2, e2, h2⟩ := step i d G' hd ii
    refine gT_ok rh4 T d x _ δ2 _ e2 rv ((re.mono (t'.trans t4)).wipe vs) fun σ5 re5 o5 => ⟨o5.wipe hT, δ2, G', _, t.trans (t'.trans t4), re5, rh4, h2, fun b G6 H6 h6 rh6 t6 => ?_⟩
    cases b with
    | true =>
      rw [if_pos rfl] at h6 ⊢
      refine ev2 (t.trans (t'.trans (t4.trans t6))) (re5.mono t6) rh6 h6 fun y z G7 H7 v w ⟨k, acc, ek, ha, hl, i7⟩ rh7 t7 rv7 rw7 => ?_
      subst ek
      obtain ⟨us, hu, ru⟩ := rh7.atD ha
      have tw := rh7.write_tm (u := .dK (putK us k w)) ha hu
      exact ⟨us, k, kD_rv rv7, hu, by rw [ru.length]; exact hl, _, (t''.trans (t4.trans (t6.trans t7))).trans tw, rh7.writeD ha hu (ru.put k rw7), i7⟩
    | false =>
      rw [if_neg Bool.false_ne_true] at h6 ⊢
      exact ⟨G6, t''.trans (t4.trans t6), rh6, h6⟩
  · have ei : i = items.length := by omega
    subst ei
    exact .inl ⟨stp, p _ _ _ _ (fin G' ii) rh' t' rfl⟩
theorem ev_dc (hc : X.calm = true) (hN : X.N.Nodup) (hi : PI X tg iter (IV B wi)) (ok : BlkOk X.N X.env.scope scope own)
    (hg : ∀ (s : Shared) (H : Hp) (C : Addr) (cl : List (Str × Addr)) (fp : List Addr), PG (X.blk s H scope (compEnvC scope cl C X.env) fp) tg (gT X.K T)) (ht : ∀ (s : Shared) (H : Hp) (C : Addr) (cl : List (Str × Addr)) (fp : List Addr), PTs (X.blk s H scope (compEnvC scope cl C X.env) fp) ifs (TV B wt))
    (hk : ∀ (s : Shared) (H : Hp) (C : Addr) (cl : List (Str × Addr)) (fp : List Addr), PE (X.blk s H scope (compEnvC scope cl C X.env) fp) kx (EV B wk))
    (he : ∀ (s : Shared) (H : Hp) (C : Addr) (cl : List (Str × Addr)) (fp : List Addr), PE (X.blk s H scope (compEnvC scope cl C X.env) fp) vx (EV B wv)) (hT : ∀ i ∈ slots T, i ∈ own.map (·.2)) (hs : ∀ x, foldedSetIterable iter X.env x = pure x := by intro _; rfl) :
    PE X (.DictComp kx vx [⟨tg, iter, ifs, 0⟩] scope pos) (EV B (wDC wi T wt wk wv (own.map (·.2)))) := (pe_dc hc hN hi ok hg ht hk he hs).imp fun σ H Q h => dc_read hT h
theorem sw_trueD {kx vx : Expr} {gs : List Comprehension} {scope : Scope} {pos py : Pos} {y : Str} {l : Nat} {env : Env} (hk : env.scope.kind = .function) (hy : env.scope.names.lookup y = some .local) (hl : (py.line == pos.line) = true)
    (ha : (scope.names.any fun (n, k) => n == y && (k == .local || k == .cell)) = false) : swapsWith (.DictComp kx vx gs scope pos) (some (.Name y py)) l env = pure true := by
  have ky : env.kindOf y = some .local := hy
  have hb : env.blockKind = .function := by unfold Env.blockKind; rw [hk]; rfl
  unfold swapsWith
  simp only [hb, ky, ha, Expr.pos, hl]
  rfl
theorem ps_setDc {i : Nat} {y : Str} {py : Pos} {spos : Pos} {twi : TI} {g : TG} {tt : TT} {tk tv : TE} (hc : X.calm = true) (hN : X.N.Nodup) (hy : X.N[i]? = some y) (hyl : X.env.scope.names.lookup y = some .local)
    (hsw : swapsWith (.DictComp kx vx [⟨tg, iter, ifs, 0⟩] scope pos) (some (.Name y py)) spos.line X.env = pure true) (hi : PI X tg iter twi) (ok : BlkOk X.N X.env.scope scope own)
    (hg : ∀ (s : Shared) (H : Hp) (C : Addr) (cl : List (Str × Addr)) (fp : List Addr), PG (X.blk s H scope (compEnvC scope cl C X.env) fp) tg g) (ht : ∀ (s : Shared) (H : Hp) (C : Addr) (cl : List (Str × Addr)) (fp : List Addr), PTs (X.blk s H scope (compEnvC scope cl C X.env) fp) ifs tt)
    (hk : ∀ (s : Shared) (H : Hp) (C : Addr) (cl : List (Str × Addr)) (fp : List Addr), PE (X.blk s H scope (compEnvC scope cl C X.env) fp) kx tk)
    (he : ∀ (s : Shared) (H : Hp) (C : Addr) (cl : List (Str × Addr)) (fp : List Addr), PE (X.blk s H scope (compEnvC scope cl C X.env) fp) vx tv) (hs : ∀ x, foldedSetIterable iter X.env x = pure x := by intro _; rfl) :
    PS X (.Assign [.Name y py] (.DictComp kx vx [⟨tg, iter, ifs, 0⟩] scope pos) spos) (tAsg (tDc twi g tt tk tv (own.map (·.2))) (gName i)) := by
  refine ⟨fun pins s σ H D I h => ?_⟩
  rw [exec_Assign_Name_used _ _ _ _ hsw]
  refine wpAny_bind (wpAny_standAt (wpAny_bind ?_))
  show wpAny _ X.A (do let _ ← comprehension (.DictComp kx vx [⟨tg, iter, ifs, 0⟩] scope pos) scope X.env (firstIterPos [⟨tg, iter, ifs, 0⟩] pos) newDict false (eval iter X.env) (some (assign (.Name y py) X.env))) _ _ s
  have h : tDc twi g tt tk tv (own.map (·.2)) σ H (fun x H1 => gName i x σ H1 D.nx) := h
  refine wpAny_bind (thn (dc_core (Qf := fun _ s' => SP X pins D .next s') hc hN I hi ok hg ht hk he hs h fun L C s' m H' I' q hn f => ?_) fun _ s' hq => wpAny_pure (wpAny_pure hq))
  show wpAny _ _ (assign (.Name y py) X.env (.ref L)) _ _ _
  refine wpAny_assign_Name (store_ok2 (v := V.ref L) I' hN hy (.inl hyl) rfl (fun s2 I2 ⟨a, sb, ha⟩ => ?_) (.inr hyl))
  obtain ⟨f0, f1, f2, f3, f4, f5⟩ := f
  have haC : C ≠ a := by
    rcases ha with z | z
    · rw [z]; exact f1
    · exact fun e => f4 y a z e.symm
  refine ⟨m, hn.sameBut sb haC, fun h3 sb3 => ?_⟩
  exact ⟨_, H', I2.turned (t' := s2.toks) (fun b o hb e => (sb3.2 b hb).trans e) f0 f1 f3 f4 f5, q⟩
theorem sv_setDc (i : Nat) {y : Str} {py spos : Pos} (hc : X.calm = true) (hN : X.N.Nodup) (hi : PI X tg iter (IV B wi)) (ok : BlkOk X.N X.env.scope scope own)
    (hg : ∀ (s : Shared) (H : Hp) (C : Addr) (cl : List (Str × Addr)) (fp : List Addr), PG (X.blk s H scope (compEnvC scope cl C X.env) fp) tg (gT X.K T)) (ht : ∀ (s : Shared) (H : Hp) (C : Addr) (cl : List (Str × Addr)) (fp : List Addr), PTs (X.blk s H scope (compEnvC scope cl C X.env) fp) ifs (TV B wt))
    (hk : ∀ (s : Shared) (H : Hp) (C : Addr) (cl : List (Str × Addr)) (fp : List Addr), PE (X.blk s H scope (compEnvC scope cl C X.env) fp) kx (EV B wk))
    (he : ∀ (s : Shared) (H : Hp) (C : Addr) (cl : List (Str × Addr)) (fp : List Addr), PE (X.blk s H scope (compEnvC scope cl C X.env) fp) vx (EV B wv)) (hT : ∀ i ∈ slots T, i ∈ own.map (·.2)) (hy : X.N[i]? = some y := by rfl) (hyl : X.env.scope.names.lookup y = some .local := by rfl)
    (hsw : swapsWith (.DictComp kx vx [⟨tg, iter, ifs, 0⟩] scope pos) (some (.Name y py)) spos.line X.env = pure true := by exact sw_trueD rfl rfl rfl (by decide +kernel)) (hs : ∀ x, foldedSetIterable iter X.env x = pure x := by intro _; rfl) :
    PS X (.Assign [.Name y py] (.DictComp kx vx [⟨tg, iter, ifs, 0⟩] scope pos) spos) (SV B (wAsg (wDC wi T wt wk wv (own.map (·.2))) (.nm i))) :=
  (ps_setDc hc hN hy hyl hsw hi ok hg ht hk he hs).imp fun D σ H h => by
    obtain ⟨δ, G, E, t, re, rh, h, p⟩ := h
    exact dc_read hT ⟨δ, G, _, t, re, rh, h, fun x G1 H1 v ⟨δ2, e2, h1⟩ rh1 t1 rv => by
      have e3 : δ.set i (some x) = δ2 := Option.some.inj e2
      rw [← e3] at h1
      exact p.nx _ G1 _ H1 h1 ((re.mono t1).set i rv) rh1 t1⟩
end
end Q7

namespace Q7
open PySem PySem.Spec PyProof.Rows L2

/-! ### what is walked -/
/-- list, tuple, text, frozen dict -/
def iAny (K : PySem.W.Frag) (te : TE) : TI := fun σ H R => te σ H fun x H1 =>
  (∃ a, x = .ref a ∧ (∃ xs, SqL K H1 a xs) ∧ R (Itl K a) H1) ∨ (∃ a, x = .ref a ∧ (∃ xs, SqT K H1 a xs) ∧ R (Itt K a) H1) ∨ (∃ z, x = .str z ∧ R (Its z) H1) ∨ (∃ d o kvs, x = .ref d ∧ H1 d = some (.frz o (.dK kvs)) ∧ R (Itk d o kvs) H1)
theorem pi_any {X : Cx} {tg e : Expr} {te : TE} (he : PE X e te) : PI X tg e (iAny X.K te) := by
  refine ⟨fun pins s σ H R I h => ?_⟩
  refine thn (he.run pins s σ H _ I h) fun v s1 ⟨y, H1, I1, r1, q⟩ => ?_
  rcases q with ⟨a, e, ⟨xs, hq⟩, q⟩ | ⟨a, e, ⟨xs, hq⟩, q⟩ | ⟨x, ex, q⟩ | ⟨d, o, kvs, ex, hd, q⟩
  · subst e
    cases r1
    obtain ⟨its, rv, p, hz⟩ := I1.list hq
    refine wpAny_pyIter_list p.isList ?_
    refine ⟨s1.heap.objs.size, [s1.heap.objs.size], _, _, H1, rfl, I1.kept (t' := s1.toks) fun b o e => Heap.get?_push_of_some _ e, turn_list a _, ⟨_, Heap.get?_push_size _ rfl, rfl, rfl⟩, fun b hb => ?_, q⟩
    have e : b = s1.heap.objs.size := by simpa using hb
    subst e
    exact I1.fpOk (Nat.le_refl _) (I1.hok.fresh (Nat.le_refl _))
  · subst e
    cases r1
    obtain ⟨its, rv, p, hz⟩ := I1.tuple hq
    refine wpAny_pyIter_tuple (show s1.heap.IsTuple a its.toArray from p) ?_
    refine ⟨s1.heap.objs.size, [s1.heap.objs.size], _, _, H1, rfl, I1.kept (t' := s1.toks) fun b o e => Heap.get?_push_of_some _ e, turn_tuple a _, ⟨_, Heap.get?_push_size _ rfl, rfl, rfl⟩, fun b hb => ?_, q⟩
    have e : b = s1.heap.objs.size := by simpa using hb
    subst e
    exact I1.fpOk (Nat.le_refl _) (I1.hok.fresh (Nat.le_refl _))
  · subst ex
    obtain ⟨t, rfl⟩ := r1
    cases ha : x.cps.all (· < 128)
    · exact wpAny_pyIter_wide ha (pi_one (tk := s1.toks) I1 _ (turn_str _ x t "str_iterator" (.inr rfl)) ⟨_, Heap.get?_push_size _ rfl, rfl, rfl⟩ q)
    · exact wpAny_pyIter_ascii ha (pi_one (tk := s1.toks) I1 _ (turn_str _ x t "str_ascii_iterator" (.inl rfl)) ⟨_, Heap.get?_push_size _ rfl, rfl, rfl⟩ q)
  · subst ex
    obtain rfl : v = Value.ref d := r1
    obtain ⟨hs, hgd, hx, es, ep, vs, hdt, hsz, kv, hm⟩ := I1.frzK hd
    refine iter_keys hs hgd hx hdt (pi_one (tk := s1.toks) I1 _ (turn_keys _ hdt) ⟨_, Heap.get?_push_size _ rfl, rfl, ?_⟩ q)
    rw [hsz] <;> rfl
def LstAt (a : Addr) (ds : List D) (G : DH) : Prop := ∃ w, G.ob a = some (.lst w ds)
def FrzAt (a : Addr) (kvs : List (Key × D)) (G : DH) : Prop := G.ob a = some (.dct false kvs)
def Tru : DH → Prop := fun _ => True
def sgn (z : Str) : List D := z.cps.toList.map fun c => .str ⟨#[c]⟩
def WalkD (x : D) (G : DH) (R : (DH → Prop) → List D → DH → Prop) : Prop :=
  (∃ a ds, x = .ref a ∧ LstAt a ds G ∧ R (LstAt a ds) ds G) ∨ (∃ ds, x = .tup ds ∧ R Tru ds G) ∨ (∃ z, x = .str z ∧ R Tru (sgn z) G) ∨ (∃ a kvs, x = .ref a ∧ FrzAt a kvs G ∧ R (FrzAt a kvs) (kvs.map fun p => kD p.1) G)
def wiE (w : WE) : WI := fun δ G R => w δ G fun x G1 => WalkD x G1 R
theorem sq_at {K : PySem.W.Frag} {H : Hp} {G : DH} {a : Addr} {ds : List D} (rh : RH H G) (h : LstAt a ds G) : ∃ vs, SqL K H a vs ∧ RVs H ds vs := by
  obtain ⟨w, h⟩ := h
  obtain ⟨vs, h1, h2⟩ := rh.atR h
  exact ⟨vs, .inl h1, h2⟩
theorem itl_ok {K : PySem.W.Frag} {a : Addr} {ds : List D} {H0 : Hp} : ItOk H0 (Itl K a) (LstAt a ds) ds := fun G H _ rh hS => by
  obtain ⟨vs, h1, h2⟩ := sq_at (K := K) rh hS
  refine ⟨⟨vs, h1, Nat.le_of_eq h2.length⟩, fun i hi => ?_⟩
  obtain ⟨v, hv, rv⟩ := h2.get (List.getElem?_eq_getElem hi)
  refine ⟨⟨vs, v, h1, hv⟩, fun x H' ⟨e, y⟩ => ?_⟩
  subst e
  have e2 := (y vs h1).symm.trans hv
  cases e2
  exact ⟨rh, TM.refl _, _, List.getElem?_eq_getElem hi, rv⟩
theorem itt_ok {K : PySem.W.Frag} {p : Addr} {vs : List V} {ds : List D} {H0 : Hp} (hp : H0 p = some (.tup vs)) (hr : RVs H0 ds vs) : ItOk H0 (Itt K p) Tru ds := fun G H t rh _ => by
  have h1 : SqT K H p vs := SqT.of (t.1 _ _ hp)
  have h2 := RVs.mono t _ _ hr
  refine ⟨⟨vs, h1, Nat.le_of_eq h2.length⟩, fun i hi => ?_⟩
  obtain ⟨v, hv, rv⟩ := h2.get (List.getElem?_eq_getElem hi)
  refine ⟨⟨vs, v, h1, hv⟩, fun x H' ⟨e, y⟩ => ?_⟩
  subst e
  have e2 := (y vs h1).symm.trans hv
  cases e2
  exact ⟨rh, TM.refl _, _, List.getElem?_eq_getElem hi, rv⟩
theorem its_ok {z : Str} {H0 : Hp} : ItOk H0 (Its z) Tru (sgn z) := fun G H t rh _ => by
  have hl : (sgn z).length = z.cps.size := by simp [sgn]
  refine ⟨Nat.le_of_eq hl.symm, fun i hi => ⟨show i < z.cps.size by rw [← hl]; exact hi, fun x H' ⟨e, c, hc, ex⟩ => ?_⟩⟩
  subst e
  refine ⟨rh, TM.refl _, .str ⟨#[c]⟩, ?_, ex⟩
  unfold sgn
  rw [List.getElem?_map, Array.getElem?_toList, hc]
  rfl
theorem itk_ok {d : Addr} {o : Obj} {kvs : List (Key × D)} {ws : List (Key × V)} {H0 : Hp} (frz : H0 d = some (.frz o (.dK ws))) (hr : RKs H0 kvs ws) : ItOk H0 (Itk d o ws) (FrzAt d kvs) (kvs.map fun p => kD p.1) := fun G H t rh hS => by
  have hd := t.2 _ _ _ frz
  have hl : ws.length = kvs.length := hr.length
  refine ⟨⟨hd, by rw [List.length_map, hl]; exact Nat.le_refl _⟩, fun i hi => ?_⟩
  rw [List.length_map] at hi
  refine ⟨⟨hd, by omega⟩, fun x H' ⟨e, k, v, hk, ex⟩ => ?_⟩
  subst e
  obtain ⟨v', hv', _⟩ := hr.get (List.getElem?_eq_getElem hi)
  rw [hk] at hv'
  have ek : k = kvs[i].1 := by cases hv'; rfl
  refine ⟨rh, TM.refl _, kD kvs[i].1, by rw [List.getElem?_map, List.getElem?_eq_getElem hi]; rfl, ?_⟩
  subst ex
  rw [ek]
  cases kvs[i].1 <;> rfl
theorem iti_ok {d : Addr} {o : Obj} {kvs : List (Key × D)} {ws : List (Key × V)} {H0 : Hp} (frz : H0 d = some (.frz o (.dK ws))) (hr : RKs H0 kvs ws) : ItOk H0 (Iti d o ws) (FrzAt d kvs) (kvs.map fun p => .tup [kD p.1, p.2]) := fun G H t rh hS => by
  have hd := t.2 _ _ _ frz
  have hl : ws.length = kvs.length := hr.length
  have hr' := RKs.mono t _ _ hr
  refine ⟨⟨hd, by rw [List.length_map, hl]; exact Nat.le_refl _⟩, fun i hi => ?_⟩
  rw [List.length_map] at hi
  refine ⟨⟨hd, by omega⟩, fun x H' ⟨T, k, v, hk, ex, hT, eH⟩ => ?_⟩
  subst eH
  obtain ⟨v', hv', rv⟩ := hr'.get (List.getElem?_eq_getElem hi)
  rw [hk] at hv'
  have ek : k = kvs[i].1 := by cases hv'; rfl
  have ev : v = v' := by cases hv'; rfl
  refine ⟨rh.keep (keep_new hT), TM.new hT, .tup [kD kvs[i].1, kvs[i].2], by rw [List.getElem?_map, List.getElem?_eq_getElem hi]; rfl, T, [kV k, v], ex, upd_same, ?_⟩
  refine RVs.cons ?_ (RVs.cons ?_ RVs.nil)
  · rw [ek]; cases kvs[i].1 <;> rfl
  · rw [ev]; exact RV.mono (TM.new hT) _ _ rv
theorem ite_ok {K : PySem.W.Frag} {a : Addr} {ds : List D} {H0 : Hp} : ItOk H0 (Ite K a) (LstAt a ds) ((List.range ds.length).map fun i => .tup [.int (i : Nat), ds.getD i .non]) := fun G H _ rh hS => by
  obtain ⟨vs, h1, h2⟩ := sq_at (K := K) rh hS
  refine ⟨⟨vs, h1, by rw [List.length_map, List.length_range]; exact Nat.le_of_eq h2.length⟩, fun i hi => ?_⟩
  rw [List.length_map, List.length_range] at hi
  obtain ⟨v, hv, rv⟩ := h2.get (List.getElem?_eq_getElem hi)
  refine ⟨⟨vs, v, h1, hv⟩, fun x H' ⟨T, x', ex, hT, eH, y⟩ => ?_⟩
  subst eH
  have e2 := (y vs h1).symm.trans hv
  cases e2
  refine ⟨rh.keep (keep_new hT), TM.new hT, .tup [.int (i : Nat), ds[i]], ?_, T, _, ex, upd_same, RVs.cons rfl (RVs.cons (RV.mono (TM.new hT) _ _ rv) RVs.nil)⟩
  rw [List.getElem?_map, List.getElem?_range hi]
  simp [hi]
theorem itz_ok {K : PySem.W.Frag} {a b : Addr} {ds es : List D} {H0 : Hp} : ItOk H0 (Itz K a b) (fun G => LstAt a ds G ∧ LstAt b es G) ((ds.zip es).map fun p => .tup [p.1, p.2]) := fun G H _ rh hS => by
  obtain ⟨vs, h1, h2⟩ := sq_at (K := K) rh hS.1
  obtain ⟨us, g1, g2⟩ := sq_at (K := K) rh hS.2
  refine ⟨⟨vs, us, h1, g1, by rw [List.length_map, List.length_zip, h2.length, g2.length]; omega⟩, fun i hi => ?_⟩
  rw [List.length_map, List.length_zip] at hi
  obtain ⟨v, hv, rv⟩ := h2.get (List.getElem?_eq_getElem (show i < ds.length by omega))
  obtain ⟨u, hu, ru⟩ := g2.get (List.getElem?_eq_getElem (show i < es.length by omega))
  refine ⟨⟨vs, us, v, u, h1, g1, hv, hu⟩, fun x H' ⟨T, x', y', ex, hT, eH, y, z⟩ => ?_⟩
  subst eH
  have e2 := (y vs h1).symm.trans hv
  cases e2
  have e3 := (z us g1).symm.trans hu
  cases e3
  refine ⟨rh.keep (keep_new hT), TM.new hT, .tup [ds[i], es[i]], ?_, T, _, ex, upd_same, RVs.cons (RV.mono (TM.new hT) _ _ rv) (RVs.cons (RV.mono (TM.new hT) _ _ ru) RVs.nil)⟩
  rw [List.getElem?_map, List.getElem?_eq_getElem (by rw [List.length_zip]; omega)]
  simp
theorem itzT_ok {K : PySem.W.Frag} {p q : Addr} {vs us : List V} {ds es : List D} {H0 : Hp} (hp : H0 p = some (.tup vs)) (hr : RVs H0 ds vs) (hq : H0 q = some (.tup us)) (hs : RVs H0 es us) : ItOk H0 (RZ.ItzT K p q) Tru ((ds.zip es).map fun p => .tup [p.1, p.2]) := fun G H t rh _ => by
  have h1 : SqT K H p vs := SqT.of (t.1 _ _ hp)
  have g1 : SqT K H q us := SqT.of (t.1 _ _ hq)
  have h2 := RVs.mono t _ _ hr
  have g2 := RVs.mono t _ _ hs
  refine ⟨⟨vs, us, h1, g1, by rw [List.length_map, List.length_zip, h2.length, g2.length]; omega⟩, fun i hi => ?_⟩
  rw [List.length_map, List.length_zip] at hi
  obtain ⟨v, hv, rv⟩ := h2.get (List.getElem?_eq_getElem (show i < ds.length by omega))
  obtain ⟨u, hu, ru⟩ := g2.get (List.getElem?_eq_getElem (show i < es.length by omega))
  refine ⟨⟨vs, us, v, u, h1, g1, hv, hu⟩, fun x H' ⟨T, x', y', ex, hT, eH, y, z⟩ => ?_⟩
  subst eH
  have e2 := (y vs h1).symm.trans hv
  cases e2
  have e3 := (z us g1).symm.trans hu
  cases e3
  refine ⟨rh.keep (keep_new hT), TM.new hT, .tup [ds[i], es[i]], ?_, T, _, ex, upd_same, RVs.cons (RV.mono (TM.new hT) _ _ rv) (RVs.cons (RV.mono (TM.new hT) _ _ ru) RVs.nil)⟩
  rw [List.getElem?_map, List.getElem?_eq_getElem (by rw [List.length_zip]; omega)]
  simp
section
variable {X : Cx} {B : Hp} {tg e e2 : Expr} {w : WE} {ws : WA} {p pos apos cpos : Pos} {elts : List Expr} {kk : Nat} {tpos : Pos}
theorem iv_any (he : PE X e (EV B w)) : PI X tg e (IV B (wiE w)) :=
  (pi_any he).imp fun σ H R ⟨δ, G, Q1, t, re, rh, h, k⟩ => ⟨δ, G, _, t, re, rh, h, fun x G1 H1 v h1 rh1 t1 rv => by
    rcases h1 with ⟨a, ds, ex, hl, h1⟩ | ⟨ds, ex, h1⟩ | ⟨z, ex, h1⟩ | ⟨a, kvs, ex, hf, h1⟩
    · subst ex
      obtain ⟨vs, hs, _⟩ := sq_at (K := X.K) rh1 hl
      exact .inl ⟨a, rv, ⟨vs, hs⟩, k _ _ _ _ _ h1 rh1 t1 itl_ok⟩
    · subst ex
      obtain ⟨q, vs, ev, hq, rvs⟩ := rv
      exact .inr (.inl ⟨q, ev, ⟨vs, SqT.of hq⟩, k _ _ _ _ _ h1 rh1 t1 (itt_ok hq rvs)⟩)
    · subst ex
      exact .inr (.inr (.inl ⟨z, rv, k _ _ _ _ _ h1 rh1 t1 its_ok⟩))
    · subst ex
      obtain ⟨o, ws, hd, rk⟩ := rh1.atF hf
      exact .inr (.inr (.inr ⟨a, o, ws, rv, hd, k _ _ _ _ _ h1 rh1 t1 (itk_ok hd rk)⟩))⟩
def wiItems (w : WE) : WI := fun δ G R => w δ G fun x G1 => ∃ a kvs, x = .ref a ∧ FrzAt a kvs G1 ∧ R (FrzAt a kvs) (kvs.map fun p => .tup [kD p.1, p.2]) G1
theorem iv_items (he : PE X e (EV B w)) (hbase : attributeBase e "items" X.env (eval e X.env) = eval e X.env := by rfl) (hline : (apos.endLine == cpos.line) = true := by rfl) : PI X (.Tuple elts kk tpos) (.Call (.Attribute e "items" apos) [] [] cpos) (IV B (wiItems w)) :=
  (pi_items he hbase hline).imp fun σ H R ⟨δ, G, Q1, t, re, rh, h, k⟩ => ⟨δ, G, _, t, re, rh, h, fun x G1 H1 v ⟨a, kvs, ex, hf, h1⟩ rh1 t1 rv => by
    subst ex
    obtain ⟨o, ws, hd, rk⟩ := rh1.atF hf
    exact ⟨a, o, ws, rv, hd, k _ _ _ _ _ h1 rh1 t1 (iti_ok hd rk)⟩⟩
def rngD (lo : Int) (n : Nat) : List D := (List.range n).map fun i => .int (lo + (i : Nat))
theorem itr_ok {lo : Int} {n : Nat} {H0 : Hp} : ItOk H0 (Itr lo n) Tru (rngD lo n) := fun G H t rh _ => by
  have hl : (rngD lo n).length = n := by simp [rngD]
  refine ⟨Nat.le_of_eq hl.symm, fun i hi => ⟨show i < n by rw [← hl]; exact hi, fun x H' ⟨e, ex⟩ => ?_⟩⟩
  subst e
  refine ⟨rh, TM.refl _, .int (lo + i), ?_, ex⟩
  unfold rngD
  rw [List.getElem?_map, List.getElem?_range (by rw [← hl]; exact hi)]
  rfl
def wiRng1 (ws : WA) : WI := fun δ G R => ws δ G fun xs G1 => ∃ j : Int, xs = [.int j] ∧ -(2 ^ 62) ≤ j ∧ j < 2 ^ 62 ∧ R Tru (rngD 0 j.toNat) G1
def wiRng2 (ws : WA) : WI := fun δ G R => ws δ G fun xs G1 => ∃ i j : Int, xs = [.int i, .int j] ∧ (-(2 ^ 62) ≤ i ∧ i < 2 ^ 62 ∧ -(2 ^ 62) ≤ j ∧ j < 2 ^ 62) ∧ R Tru (rngD i (j - i).toNat) G1
theorem iv_rng1 (hg : Gl X "range") (hm : X.mg "range" = none) (ha : PA X [e] (AV B ws)) (hs : starEach [e] X.env = [(false, eval e X.env)] := by rfl) : PI X tg (.Call (.Name "range" p) [e] [] pos) (IV B (wiRng1 ws)) :=
  (pi_range1 hg hm ha hs).imp fun σ H R ⟨δ, G, Q1, t, re, rh, h, k⟩ => ⟨δ, G, _, t, re, rh, h, fun xs G1 H1 vs ⟨j, ex, h1, h2, h3⟩ rh1 t1 rv => by
    subst ex
    obtain ⟨v, r, ev, rv1, rn⟩ := rv
    have e1 : v = .int j := rv1
    have e2 : r = [] := rn
    subst e1; subst e2
    exact ⟨j, ev, h1, h2, k _ _ _ _ _ h3 rh1 t1 itr_ok⟩⟩
theorem iv_rng2 (hg : Gl X "range") (hm : X.mg "range" = none) (ha : PA X [e, e2] (AV B ws)) (hs : starEach [e, e2] X.env = [(false, eval e X.env), (false, eval e2 X.env)] := by rfl) (hs2 : starEach [e2] X.env = [(false, eval e2 X.env)] := by rfl) : PI X tg (.Call (.Name "range" p) [e, e2] [] pos) (IV B (wiRng2 ws)) :=
  (pi_range2 hg hm ha hs hs2).imp fun σ H R ⟨δ, G, Q1, t, re, rh, h, k⟩ => ⟨δ, G, _, t, re, rh, h, fun xs G1 H1 vs ⟨i, j, ex, hb, h3⟩ rh1 t1 rv => by
    subst ex
    obtain ⟨v, r, ev, rv1, w, r', er, rv2, rn⟩ := rv
    have e1 : v = .int i := rv1
    have e3 : w = .int j := rv2
    have e2 : r' = [] := rn
    subst e1; subst e2; subst e3; subst er
    exact ⟨i, j, ev, hb, k _ _ _ _ _ h3 rh1 t1 itr_ok⟩⟩
def enumD (ds : List D) : List D := (List.range ds.length).map fun i => .tup [.int (i : Nat), ds.getD i .non]
def wiEnum (ws : WA) : WI := fun δ G R => ws δ G fun xs G1 => ∃ a ds, xs = [.ref a] ∧ LstAt a ds G1 ∧ R (LstAt a ds) (enumD ds) G1
theorem iv_enum (hg : Gl X "enumerate") (hm : X.mg "enumerate" = none) (ha : PA X [e] (AV B ws)) (hs : starEach [e] X.env = [(false, eval e X.env)] := by rfl) : PI X (.Tuple elts kk tpos) (.Call (.Name "enumerate" p) [e] [] pos) (IV B (wiEnum ws)) :=
  (pi_enum hg hm ha hs).imp fun σ H R ⟨δ, G, Q1, t, re, rh, h, k⟩ => ⟨δ, G, _, t, re, rh, h, fun xs G1 H1 vs ⟨a, ds, ex, hl, h3⟩ rh1 t1 rv => by
    subst ex
    obtain ⟨v, r, ev, rv1, rn⟩ := rv
    have e1 : v = .ref a := rv1
    have e2 : r = [] := rn
    subst e1; subst e2
    obtain ⟨us, hs, _⟩ := sq_at (K := X.K) rh1 hl
    exact ⟨a, us, ev, hs, k _ _ _ _ _ h3 rh1 t1 ite_ok⟩⟩
def zipD (ds es : List D) : List D := (ds.zip es).map fun p => .tup [p.1, p.2]
def wiZip (ws : WA) : WI := fun δ G R => ws δ G fun xs G1 => (∃ a b ds es, xs = [.ref a, .ref b] ∧ LstAt a ds G1 ∧ LstAt b es G1 ∧ R (fun G => LstAt a ds G ∧ LstAt b es G) (zipD ds es) G1) ∨ ∃ ds es, xs = [.tup ds, .tup es] ∧ R Tru (zipD ds es) G1
theorem iv_zip (hg : Gl X "zip") (hm : X.mg "zip" = none) (ha : PA X [e, e2] (AV B ws)) (hs : starEach [e, e2] X.env = (false, eval e X.env) :: starEach [e2] X.env := by rfl) (hpl : (backTo pos (starEach [e2] X.env)).any (·.1) = false := by rfl) :
    PI X (.Tuple elts kk tpos) (.Call (.Name "zip" p) [e, e2] [] pos) (IV B (wiZip ws)) :=
  (RZ.pi_zipA hg hm ha hs hpl).imp fun σ H R ⟨δ, G, Q1, t, re, rh, h, k⟩ => ⟨δ, G, _, t, re, rh, h, fun xs G1 H1 vs h1 rh1 t1 rv => by
    rcases h1 with ⟨a, b, ds, es, ex, hl, hm, h3⟩ | ⟨ds, es, ex, h3⟩
    · subst ex
      obtain ⟨v, r, ev, rv1, w, r', er, rv2, rn⟩ := rv
      have e1 : v = .ref a := rv1
      have e3 : w = .ref b := rv2
      have e2 : r' = [] := rn
      subst e1; subst e2; subst e3; subst er
      obtain ⟨us, hs, _⟩ := sq_at (K := X.K) rh1 hl
      obtain ⟨us2, hs2, _⟩ := sq_at (K := X.K) rh1 hm
      exact ⟨a, b, us, us2, ev, .inl ⟨hs, hs2, k _ _ _ _ _ h3 rh1 t1 itz_ok⟩⟩
    · subst ex
      obtain ⟨v, r, ev, rv1, w, r', er, rv2, rn⟩ := rv
      obtain ⟨p, vs1, e1, hp, r1⟩ := rv1
      obtain ⟨q, vs2, e3, hq, r2⟩ := rv2
      have e2 : r' = [] := rn
      subst e1; subst e2; subst e3; subst er
      exact ⟨p, q, vs1, vs2, ev, .inr ⟨SqT.of hp, SqT.of hq, k _ _ _ _ _ h3 rh1 t1 (itzT_ok hp r1 hq r2)⟩⟩⟩
end
end Q7

namespace Q7
open PySem PySem.Spec PyProof.Rows L2

section
variable {X : Cx} {B : Hp} {a b e o i : Expr} {es : List Expr} {pos apos cpos pos' : Pos} {wa wb w we wo : WE} {ws wk : WA} {f : Str} {C : Addr}
/-! ### attributes -/
def wFld (C : Addr) (f : Str) (w : WE) : WE := fun δ G Q => w δ G fun x G1 => ∃ a fs v, x = .ref a ∧ G1.ob a = some (.ins C fs) ∧ fs.lookup f = some v ∧ Q v G1
theorem RKs.look {H : Hp} {f : Str} : ∀ {fs : List (Str × D)} {ws : List (Str × V)} {v : D}, RKs H fs ws → fs.lookup f = some v → ∃ u, ws.lookup f = some u ∧ RV H v u
  | [], ws, v, h, e => by cases e
  | p :: fs, ws, v, h, e => by
    obtain ⟨u, r, ew, h1, h2⟩ := h
    subst ew
    rw [List.lookup_cons] at e ⊢
    cases hb : f == p.1 with
    | true =>
      rw [hb] at e
      cases e
      exact ⟨u, rfl, h1⟩
    | false =>
      rw [hb] at e
      exact RKs.look h2 e
theorem ev_fld (c : Cls X.K C) (n : NoAttr X.K C f) (he : PE X e (EV B w)) (hb : attributeBase e f X.env (eval e X.env) = eval e X.env := by rfl) : PE X (.Attribute e f pos) (EV B (wFld C f w)) :=
  (pe_fld he hb).imp fun σ H Q ⟨δ, G, Q1, t, re, rh, h, p⟩ => ⟨δ, G, _, t, re, rh, h, fun x G1 H1 v ⟨a, fs, u, ex, ha, hl, h1⟩ rh1 t1 rv => by
    subst ex
    obtain ⟨dx, us, hh, rk⟩ := rh1.atI ha
    obtain ⟨z, hz, rz⟩ := RKs.look rk hl
    exact ⟨a, C, dx, us, z, rv, hh, c, n, hz, p _ _ _ _ h1 rh1 t1 rz⟩⟩
def putFA {β : Type} (f : Str) (v : β) : List (Str × β) → List (Str × β)
  | [] => [(f, v)]
  | (g, u) :: r => if g = f then (g, v) :: r else (g, u) :: putFA f v r
theorem RKs.putF {H : Hp} {f : Str} {d : D} {v : V} (hv : RV H d v) : ∀ {fs : List (Str × D)} {ws : List (Str × V)}, RKs H fs ws → RKs H (putFA f d fs) (L2.putF f v ws)
  | [], ws, h => by
    have e : ws = [] := h
    subst e
    exact RKs.one hv
  | (g, x) :: fs, ws, h => by
    obtain ⟨u, r, ew, h1, h2⟩ := h
    subst ew
    show RKs H (if g = f then (g, d) :: fs else (g, x) :: putFA f d fs) (if g = f then (g, v) :: r else (g, u) :: L2.putF f v r)
    by_cases hg : g = f
    · rw [if_pos hg, if_pos hg]
      exact ⟨v, r, rfl, hv, h2⟩
    · rw [if_neg hg, if_neg hg]
      exact ⟨u, _, rfl, h1, RKs.putF hv h2⟩
def wSetFld (C : Addr) (f : Str) (wo wv : WE) : WS := fun E δ G => wv δ G fun y G1 => wo δ G1 fun x G2 => ∃ a fs, x = .ref a ∧ G2.ob a = some (.ins C fs) ∧ fs.length < 1000 ∧ E.nx δ (G2.put a (.ins C (putFA f y fs)))
theorem sv_fld (c : Cls X.K C) (n : NoAttr X.K C f) (ho : PE X o (EV B wo)) (hv : PE X e (EV B we)) (hs : swapsWith e (some (.Attribute o f pos')) pos.line X.env = pure false := by rfl) : PS X (.Assign [.Attribute o f pos'] e pos) (SV B (wSetFld C f wo we)) :=
  (ps_fld ho hv hs).imp fun D σ H ⟨δ, G, E, t, re, rh, h, p⟩ => ev2 t re rh h fun y x G2 H2 u v ⟨a, fs, ex, ha, hl, h1⟩ rh2 t2 ru rv => by
    subst ex
    obtain ⟨dx, us, hh, rk⟩ := rh2.atI ha
    have tw := rh2.write_tm (u := .ins C dx (L2.putF f u us)) ha hh
    refine ⟨a, C, dx, us, rv, hh, c, n, by rw [rk.length]; exact hl, p.nx _ _ _ _ h1 ((re.mono t2).mono tw) (rh2.write ha hh (RO.insT upd_same (RKs.mono tw _ _ (RKs.putF ru rk)))) (t2.trans tw)⟩
/-! ### subscripts -/
theorem ix_dict (hu : X.A.units + 1 < cLine) : IxR X (fun x y H Q => ∃ a v, x = .ref a ∧ DGet H a y (some v) ∧ Q v H) := by
  intro value slice pins s σ H x y v u Q I rx ry h hs
  obtain ⟨a, z, ex, g, q⟩ := h
  subst ex
  obtain rfl : v = Value.ref a := rx
  have hT := dict_typeIs I g
  have hw := d_getItem (Q := EP X pins σ Q) (E := X.xe) hu I g ry fun w' s3 I3 rw' => ⟨z, H, I3, rw', q⟩
  unfold subscriptTail
  refine wpAny_bind ?_
  rw [getitemInPython_of_ne hT.not_modules]
  refine wpAny_bind (wpAny_specialOf hT PySem.F.slot_dict_getitem.lookup ?_)
  have fin : wpAny (model X.prog X.w) X.A (subscripted slice false (.ref a) u) (fun r s₃ => wpAny (model X.prog X.w) X.A (letTemporaryGo value (.ref a) r >>= fun _ => pure r) (EP X pins σ Q) X.xe s₃) X.xe s := by
    rw [hs]
    exact wpAny_operating (wpAny_mono hw (fun r s₃ h₃ => wpAny_bind (wpAny_letTemporaryGo (wpAny_pure h₃))) fun _ _ x => x)
  first
    | exact wpAny_pure (wpAny_bind fin)
    | exact wpAny_pure fin
    | exact wpAny_bind fin
    | exact fin
def ixD (x y : D) (G : DH) (Q : DK) : Prop :=
  (∃ a ds i v, x = .ref a ∧ LstAt a ds G ∧ y = .int i ∧ atI ds i = some v ∧ Q v G) ∨ (∃ ds i v, x = .tup ds ∧ y = .int i ∧ atI ds i = some v ∧ Q v G) ∨
  (∃ z i c, x = .str z ∧ y = .int i ∧ z.length ≤ sizeLine ∧ atI z.cps.toList i = some c ∧ Q (.str ⟨#[c]⟩) G) ∨ ∃ a w kvs k v, x = .ref a ∧ G.ob a = some (.dct w kvs) ∧ y = kD k ∧ valA kvs k = some v ∧ Q v G
theorem RVs.atI {H : Hp} {ds : List D} {vs : List V} {i : Int} {v : D} (h : RVs H ds vs) (e : atI ds i = some v) : ∃ u, L2.atI vs i = some u ∧ RV H v u := by
  unfold L2.atI at e ⊢
  rw [h.length]
  cases hj : ixN ds.length i with
  | none => rw [hj] at e; cases e
  | some j =>
    rw [hj] at e
    exact h.get e
theorem ix_any (hu : X.A.units + 1 < cLine) : IxR X (OV ixD) := by
  intro value slice pins s σ H x y v u Q I rx ry h hs
  obtain ⟨dx, dy, G, Q1, r1, r2, rh, h, p⟩ := h
  rcases h with ⟨a, ds, i, z, ex, hl, ey, hi, q⟩ | ⟨ds, i, z, ex, ey, hi, q⟩ | ⟨z, i, c, ex, ey, hz, hi, q⟩ | ⟨a, w, kvs, k, z, ex, hd, ey, hv, q⟩
  · subst ex; subst ey
    obtain ⟨vs, h1, h2⟩ := sq_at (K := X.K) rh hl
    obtain ⟨z', e1, rz⟩ := h2.atI hi
    exact ix_list value slice pins s σ H x y v u Q I rx ry ⟨a, vs, i, z', r1, r2, h1, e1, p _ _ _ _ q rh (TM.refl H) rz⟩ hs
  · subst ex; subst ey
    obtain ⟨pp, vs, ep, hp, h2⟩ := r1
    obtain ⟨z', e1, rz⟩ := h2.atI hi
    exact ix_tup value slice pins s σ H x y v u Q I rx ry ⟨pp, vs, i, z', ep, r2, SqT.of hp, e1, p _ _ _ _ q rh (TM.refl H) rz⟩ hs
  · subst ex; subst ey
    exact ix_str value slice pins s σ H x y v u Q I rx ry ⟨z, i, c, r1, r2, hz, hi, p _ _ _ _ q rh (TM.refl H) rfl⟩ hs
  · subst ex; subst ey
    obtain ⟨ws, h1, rk⟩ := rh.atDR hd
    obtain ⟨z', e1, rz⟩ := (rk.val k).1 z hv
    exact ix_dict hu value slice pins s σ H x y v u Q I rx ry ⟨a, z', r1, .inl ⟨ws, k, h1, kD_rv r2, e1.symm⟩, p _ _ _ _ q rh (TM.refl H) rz⟩ hs
theorem ev_ix (hu : X.A.units + 1 < cLine) (ha : PE X a (EV B wa)) (hb : PE X b (EV B wb)) (hs : PlainIx b := by exact fun _ _ => rfl) : PE X (.Subscript a b pos) (EV B (wOp ixD wa wb)) :=
  (pe_ix (ix_any hu) ha hb hs).imp fun σ H Q ⟨δ, G, Q1, t, re, rh, h, p⟩ => ev2 t re rh h fun x y G2 H2 v u h2 rh2 t2 rv ru => ⟨x, y, G2, Q1, rv, ru, rh2, h2, p.after t2⟩
/-- a[i] = v -/
def setD (x y v : D) (G : DH) (Q : DH → Prop) : Prop :=
  (∃ a ds i j, x = .ref a ∧ G.ob a = some (.lst true ds) ∧ y = .int i ∧ ixN ds.length i = some j ∧ Q (G.put a (.lst true (ds.set j v)))) ∨
  ∃ a kvs k, x = .ref a ∧ G.ob a = some (.dct true kvs) ∧ y = kD k ∧ kvs.length < sizeLine ∧ Q (G.put a (.dct true (putA kvs k v)))
def wSetIx (wo wi wv : WE) : WS := fun E δ G => wv δ G fun v G1 => wo δ G1 fun x G2 => wi δ G2 fun y G3 => setD x y v G3 fun G4 => E.nx δ G4
theorem set_any (hu : X.A.units + 1 < cLine) : PSet X (fun o i v H Q => rSetL o i v H Q ∨ rSetD o i v H Q) := by
  intro pins s σ H o i v ov iv u Q I ro ri rv h
  rcases h with h | h
  · exact set_list pins s σ H o i v ov iv u Q I ro ri rv h
  · exact set_dict hu pins s σ H o i v ov iv u Q I ro ri rv h
theorem sv_setIx (hu : X.A.units + 1 < cLine) (ho : PE X o (EV B wo)) (hi : PE X i (EV B w)) (hv : PE X e (EV B we)) (hs : swapsWithSole [.Subscript o i pos'] e pos.line X.env = pure false := by rfl) (hw : swappedStores [.Subscript o i pos'] e X.env = pure none := by rfl)
    (h1 : (assignEach [.Subscript o i pos'] X.env).map (·.2) = [assign (.Subscript o i pos') X.env] := by rfl)
    (ha : ∀ v, assign (.Subscript o i pos') X.env v = (do
      let ov ← holding [v] (eval o X.env)
      let iv ← holding [v, ov] (eval i X.env)
      standAt pos'
      holding [v, ov, iv] (setItem ov iv v)
      release [v, ov, iv] []) := by intro _; rfl) : PS X (.Assign [.Subscript o i pos'] e pos) (SV B (wSetIx wo w we)) :=
  (ps_asg hv (pg_sub ho hi (set_any hu) ha) hs hw h1).imp fun D σ H ⟨δ, G, E, t, re, rh, h, p⟩ => ⟨δ, G, _, t, re, rh, h, fun v G1 H1 u h1 rh1 t1 ru =>
    ev2 (t.trans t1) (re.mono t1) rh1 h1 fun x y G3 H3 xv yv h3 rh3 t3 rx ry => by
      have ru3 := RV.mono t3 _ _ ru
      rcases h3 with ⟨a, ds, i, j, ex, ha, ey, hj, q⟩ | ⟨a, kvs, k, ex, ha, ey, hl, q⟩
      · subst ex; subst ey
        obtain ⟨vs, hh, rvs⟩ := rh3.atL ha
        have tw := rh3.write_tm (u := .lst (vs.set j u)) ha hh
        exact .inl ⟨a, vs, i, j, rx, ry, hh, by rw [rvs.length]; exact hj, p.nx _ _ _ _ q ((re.mono (t1.trans t3)).mono tw) (rh3.writeL ha hh (rvs.set j ru3)) ((t1.trans t3).trans tw)⟩
      · subst ex; subst ey
        obtain ⟨vs, hh, rk⟩ := rh3.atD ha
        have tw := rh3.write_tm (u := .dK (putK vs k u)) ha hh
        exact .inr ⟨a, _, rx, .inl ⟨vs, k, hh, kD_rv ry, by rw [rk.length]; exact hl, rfl⟩, p.nx _ _ _ _ q ((re.mono (t1.trans t3)).mono tw) (rh3.writeD ha hh (rk.put k ru3)) ((t1.trans t3).trans tw)⟩⟩
/-! ### slices -/
abbrev WO := DEnv → DH → (Option Int → DH → Prop) → Prop
def OVo (B : Hp) (w : WO) : TO := fun σ H Q => ∃ δ G Q1, TM B H ∧ RE H δ σ ∧ RH H G ∧ w δ G Q1 ∧ ∀ z G' H', Q1 z G' → RH H' G' → TM H H' → Q z H'
theorem _root_.L2.PO.imp {X : Cx} {e : Option Expr} {t t' : TO} (h : PO X e t) (i : ∀ σ H Q, t' σ H Q → t σ H Q) : PO X e t' := ⟨fun pins s σ H Q I q => h.run pins s σ H Q I (i σ H Q q)⟩
def wNoPart : WO := fun _ G Q => Q none G
def wPart (w : WE) : WO := fun δ G Q => w δ G fun x G1 => ∃ i, x = .int i ∧ Q (some i) G1
theorem ov_none : PO X none (OVo B wNoPart) := po_none.imp fun σ H Q ⟨δ, G, Q1, t, re, rh, h, p⟩ => p _ _ _ h rh (TM.refl H)
theorem ov_some (he : PE X e (EV B w)) : PO X (some e) (OVo B (wPart w)) := (po_some he).imp fun σ H Q ⟨δ, G, Q1, t, re, rh, h, p⟩ => ⟨δ, G, _, t, re, rh, h, fun x G1 H1 v ⟨i, ex, h1⟩ rh1 t1 rv => by
  subst ex
  exact ⟨i, rv, p _ _ _ h1 rh1 t1⟩⟩
def cutA {β : Type} (xs : List β) (lo hi : Option Int) : List β := (xs.drop (HT.sIx xs.length 0 lo)).take (HT.sIx xs.length xs.length hi - HT.sIx xs.length 0 lo)
def slD (x : D) (lo hi : Option Int) (G : DH) (Q : DK) : Prop :=
  (∃ a ds, x = .ref a ∧ LstAt a ds G ∧ ∀ p, G.ob p = none → Q (.ref p) (G.put p (.lst true (cutA ds lo hi)))) ∨ (∃ z, x = .str z ∧ z.length ≤ sizeLine ∧ Q (.str (cutS z lo hi)) G) ∨ ∃ ds, x = .tup ds ∧ Q (.tup (cutA ds lo hi)) G
def wSl (w : WE) (lo hi : WO) : WE := fun δ G Q => w δ G fun x G1 => lo δ G1 fun l G2 => hi δ G2 fun u G3 => slD x l u G3 Q
theorem RVs.cut {H : Hp} {ds : List D} {vs : List V} (h : RVs H ds vs) (lo hi : Option Int) : RVs H (cutA ds lo hi) (cutV vs lo hi) := by
  unfold cutA cutV
  rw [h.length]
  exact (h.drop _).take _
theorem ev_sl {lo hi : Option Expr} {wl wh : WO} {p2 : Pos} (he : PE X e (EV B w)) (hl : PO X lo (OVo B wl)) (hh : PO X hi (OVo B wh)) : PE X (.Subscript e (.Slice lo hi none p2) pos) (EV B (wSl w wl wh)) :=
  (pe_slice (SlR.or sl_list (SlR.or sl_str sl_tupA)) he hl hh).imp fun σ H Q ⟨δ, G, Q1, t, re, rh, h, p⟩ => ⟨δ, G, _, t, re, rh, h, fun x G1 H1 v h1 rh1 t1 rv => ⟨δ, G1, _, t.trans t1, re.mono t1, rh1, h1, fun l G2 H2 h2 rh2 t2 =>
    ⟨δ, G2, _, t.trans (t1.trans t2), re.mono (t1.trans t2), rh2, h2, fun u G3 H3 h3 rh3 t3 => by
      have rv3 := RV.mono (t2.trans t3) _ _ rv
      have p3 := p.after (t1.trans (t2.trans t3))
      rcases h3 with ⟨a, ds, ex, hl, q⟩ | ⟨z, ex, hz, q⟩ | ⟨ds, ex, q⟩
      · subst ex
        obtain ⟨vs, hs, rvs⟩ := sq_at (K := X.K) rh3 hl
        exact .inl ⟨a, vs, rv3, hs, fun d hd => p3 _ _ _ _ (q d (rh3.free hd)) (rh3.newL hd (rvs.cut l u)) (TM.new hd) rfl⟩
      · subst ex
        exact .inr (.inl ⟨z, rv3, hz, p3 _ _ _ _ q rh3 (TM.refl _) rfl⟩)
      · subst ex
        obtain ⟨d, vs, ed, hd, rvs⟩ := rv3
        refine .inr (.inr ⟨d, vs, ed, SqT.of hd, fun ⟨c1, c2⟩ => p3 _ _ _ _ q rh3 (TM.refl _) ⟨d, vs, rfl, hd, ?_⟩, fun _ d2 hd2 => p3 _ _ _ _ q (rh3.keep (keep_new hd2)) (TM.new hd2) ⟨d2, _, rfl, upd_same, RVs.mono (TM.new hd2) _ _ (rvs.cut l u)⟩⟩)
        have hc : cutV vs l u = vs := by
          unfold cutV
          rw [c1, c2, List.drop_zero, Nat.sub_zero, List.take_length]
        have := rvs.cut l u
        rwa [hc] at this⟩⟩⟩
/-! ### built-in functions -/
variable {x : Str} {p : Pos} {id T name : String}
def wCB (r : List D → DH → DK → Prop) (ws : WA) : WE := fun δ G Q => ws δ G fun xs G1 => r xs G1 Q
theorem cb_imp {r : List D → DH → DK → Prop} {σ : L2.St} {H : Hp} {Q : VK} (h : EV B (wCB r ws) σ H Q) : tCB (CV r) (AV B ws) σ H Q := by
  obtain ⟨δ, G, Q1, t, re, rh, h, p⟩ := h
  exact ⟨δ, G, _, t, re, rh, h, fun xs G1 H1 vs h1 rh1 t1 rv => ⟨xs, G1, Q1, rv, rh1, h1, p.after t1⟩⟩
theorem ev_cb {r : List D → DH → DK → Prop} (hc : CallR X (.builtin id) (CV r)) (hg : Gl X x) (hm : X.mg x = none) (hv : bootBuiltins x = some (.builtin id)) (ha : PA X (e :: es) (AV B ws)) (hn : x ≠ "__name__" := by decide) (hdb : (x == ("__debug__" : Str)) = false := by decide)
    (he : starEach (e :: es) X.env = (false, eval e X.env) :: starEach es X.env := by rfl) (hpl : (backTo pos (starEach es X.env)).any (·.1) = false := by rfl) : PE X (.Call (.Name x p) (e :: es) [] pos) (EV B (wCB r ws)) :=
  (pe_callB hc hg hm hv ha hn hdb he hpl).imp fun σ H Q h => cb_imp h
theorem ev_cty {r : List D → DH → DK → Prop} (hc : CallR X (.type T) (CV r)) (hg : Gl X x) (hm : X.mg x = none) (hv : bootBuiltins x = some (.type T)) (ha : PA X (e :: es) (AV B ws)) (hn : x ≠ "__name__" := by decide) (hdb : (x == ("__debug__" : Str)) = false := by decide)
    (he : starEach (e :: es) X.env = (false, eval e X.env) :: starEach es X.env := by rfl) (hpl : (backTo pos (starEach es X.env)).any (·.1) = false := by rfl) : PE X (.Call (.Name x p) (e :: es) [] pos) (EV B (wCB r ws)) :=
  (pe_callTy hc hg hm hv ha hn hdb he hpl).imp fun σ H Q h => cb_imp h
end
end Q7

namespace Q7
open PySem PySem.Spec PyProof.Rows L2

/-! ### defs -/
/-- the def x of the text st, at level k, with its promise -/
structure Fn (P : Program) (w : World) (K : PySem.W.Frag) (mg : Str → Option Value) (base : Heap) (x : Str) (st : Stmt) (ps : List Str) (k : Nat) (sp : DSp) : Prop where
  ex : ∃ f fd, mg x = some (.ref f) ∧ FunD K x x (defArgs st) (defBody st) (defScope st) [] [] f fd ∧ Binds K fd ps [] ∧ FnOk P w K mg base CX0 k f fd ps (SPV sp)
/-- the method m of the class C (named cn) -/
structure Mt (P : Program) (w : World) (K : PySem.W.Frag) (mg : Str → Option Value) (base : Heap) (C : Addr) (m qual : Str) (st : Stmt) (ps : List Str) (k : Nat) (sp : DSp) : Prop where
  ex : ∃ f fd, Meth K C m f ∧ FunD K m qual (defArgs st) (defBody st) (defScope st) [] [] f fd ∧ Binds K fd ps [] ∧ FnOk P w K mg base CX0 k f fd ps (SPV sp)
/-- the maker of the class C, named cn -/
structure Mkr (P : Program) (w : World) (K : PySem.W.Frag) (mg : Str → Option Value) (base : Heap) (cn : Str) (C : Addr) (ps : List Str) (k : Nat) (sp : DSp) : Prop where
  ex : ∃ f fd, mg cn = some (.ref C) ∧ Mk K C f ∧ Binds K fd ps [] ∧ FnOk P w K mg base CX0 k f fd ps (SPV sp)
def startD (N : List Str) (ds : List D) : DEnv := ds.map some ++ List.replicate (N.length - ds.length) none
theorem RVs.start {H : Hp} (N : List Str) : ∀ {ds : List D} {vs : List V}, RVs H ds vs → RE H (startD N ds) (L2.start N vs) := by
  intro ds vs h
  refine ⟨by unfold startD L2.start; rw [List.length_append, List.length_append, List.length_map, List.length_map, List.length_replicate, List.length_replicate, h.length], fun i d e => ?_⟩
  unfold startD at e
  by_cases hi : i < ds.length
  · rw [List.getElem?_append_left (by rw [List.length_map]; exact hi), List.getElem?_map] at e
    cases hd : ds[i]? with
    | none => rw [hd] at e; cases e
    | some x =>
      rw [hd] at e
      have e' : x = d := Option.some.inj (Option.some.inj e)
      subst e'
      obtain ⟨v, hv, r⟩ := h.get hd
      refine ⟨v, ?_, r⟩
      unfold L2.start
      rw [List.getElem?_append_left (by rw [List.length_map, h.length]; exact hi), List.getElem?_map, hv]
      rfl
  · rw [List.getElem?_append_right (by rw [List.length_map]; omega)] at e
    have := List.mem_of_getElem? e
    rw [List.mem_replicate] at this
    cases this.2
section
variable {P : Program} {w : World} {K : PySem.W.Frag} {mg : Str → Option Value} {base : Heap}
theorem fnOk_of {qual x : Str} {params : Arguments} {body : List Stmt} {scope : Scope} {f : Addr} {fd : FuncData} {N ps : List Str} {k : Nat} {sp : DSp} {wb : WS} (F : FunD K x qual params body scope [] [] f fd) (S : FnScope N ps scope)
    (len : ∀ ds G Q E, sp ds G Q E → ds.length = ps.length)
    (dv : ∀ (cdv : Value) (A : Around) (outer : List Env) (s : Shared) (H : Hp) (E : XK), Room k (A.deeper (envOfC qual scope s.heap.objs.size f cdv)) → PSs (cxOf CX0 P w K mg base N qual scope f cdv A outer s H E).nox body (SV H wb))
    (pure : ∀ ds G Q E, sp ds G Q E → wb { nx := fun _ G' => Q .non G', rt := Q } (startD N ds) G) : FnOk P w K mg base CX0 (k + 1) f fd ps (SPV sp) := by
  refine F.ok S (fun vs H Q E h => ?_) (fun cdv A outer s H vs Q E hr h => ?_)
  · obtain ⟨ds, G, Q1, E1, r, rh, h, _⟩ := h
    rw [r.length, len ds G Q1 E1 h]
  · obtain ⟨ds, G, Q1, E1, r, rh, h, p, _⟩ := h
    refine ⟨_, (dv cdv A outer s H E hr).nox, startD N ds, G, _, TM.refl H, r.start N, rh, pure ds G Q1 E1 h, ⟨?_, ?_, ?_, ?_⟩⟩
    · exact fun δ' G' σ' H' n _ rh' t' => p .non G' H' .non n rh' t' rfl
    · exact fun v G' H' x h1 rh' t' rv => p v G' H' x h1 rh' t' rv
    · exact fun _ _ _ _ n _ _ _ => n
    · exact fun _ _ _ _ n _ _ _ => n
end
theorem FnOk.low {P : Program} {w : World} {K : PySem.W.Frag} {mg : Str → Option Value} {base : Heap} {j k : Nat} {f : Addr} {fd : FuncData} {ps : List Str} {sp : Sp} (F : FnOk P w K mg base CX0 j f fd ps sp) (h : j ≤ k) : FnOk P w K mg base CX0 k f fd ps sp := F.mono h
section
variable {X : Cx} {B : Hp} {a b e o i : Expr} {es : List Expr} {kws : List Keyword} {pos apos cpos pos' : Pos} {wa wb w we wo : WE} {ws wk : WA} {x m qual : Str} {p : Pos} {st : Stmt} {ps : List Str} {k j : Nat} {sp : DSp} {C : Addr}
theorem ev_fn (F : Fn X.prog X.w X.K X.mg X.base x st ps k sp) (hr : Room j X.A) (hg : Gl X x) (ha : PA X (e :: es) (AV B ws)) (hkj : k ≤ j := by decide)
    (hdb : (x == ("__debug__" : Str)) = false := by decide) (hs : starEach (e :: es) X.env = (false, eval e X.env) :: starEach es X.env := by rfl) (h2 : (backTo pos (starEach es X.env)).any (·.1) = false := by rfl) : PE X (.Call (.Name x p) (e :: es) [] pos) (EV B (wCall sp DX0 ws)) := by
  obtain ⟨f, fd, hm, hF, hb, hok⟩ := F.ex
  exact ev_call hok (hr.mono hkj) hg hm hF.kp hb ha hdb hs h2
theorem ev_fn0 (F : Fn X.prog X.w X.K X.mg X.base x st ps k sp) (hr : Room j X.A) (hg : Gl X x) (hkj : k ≤ j := by decide) (hdb : (x == ("__debug__" : Str)) = false := by decide) : PE X (.Call (.Name x p) [] [] pos) (EV B (wCall sp DX0 wNil)) := by
  obtain ⟨f, fd, hm, hF, hb, hok⟩ := F.ex
  exact (pe_call0 hok (hr.mono hkj) hg hm hF.kp hb .nil pass0 hdb).imp fun σ H Q ⟨δ, G, Q1, t, re, rh, h, pq⟩ => ⟨[], G, Q1, DX0, RVs.nil, rh, h, pq, PostX.zero⟩
/-- methods of one's own -/
def wMeth (C : Addr) (m : Str) (sp : DSp) (wo : WE) (ws : WA) : WE := fun δ G Q => wo δ G fun x G1 => ∃ a fs, x = .ref a ∧ G1.ob a = some (.ins C fs) ∧ fs.lookup m = none ∧ ws δ G1 fun xs G2 => sp (x :: xs) G2 Q DX0
theorem RKs.lookN {H : Hp} {f : Str} : ∀ {fs : List (Str × D)} {ws : List (Str × V)}, RKs H fs ws → fs.lookup f = none → ws.lookup f = none
  | [], ws, h, e => by
    have e : ws = [] := h
    subst e
    rfl
  | p :: fs, ws, h, e => by
    obtain ⟨u, r, ew, h1, h2⟩ := h
    subst ew
    rw [List.lookup_cons] at e ⊢
    cases hb : f == p.1 with
    | true => rw [hb] at e; cases e
    | false =>
      rw [hb] at e
      exact RKs.lookN h2 e
theorem ev_mt {pl : Sem Bool} (F : Mt X.prog X.w X.K X.mg X.base C m qual st ps k sp) (c : Cls X.K C) (hr : Room j X.A) (ho : PE X o (EV B wo)) (ha : PA X (e :: es) (AV B ws)) (hkj : k ≤ j := by decide)
    (hst : starEach (e :: es) X.env = (false, eval e X.env) :: starEach es X.env := by rfl) (hpl : (backTo pos (starEach es X.env)).any (·.1) = false := by rfl)
    (ht : eval (.Call (.Attribute o m apos) (e :: es) [] pos) X.env = (do
      let ov ← eval o X.env
      standAt apos.atName
      let (f, first) ← holding [ov] (getMethod ov m pl)
      callWith pos f first (backTo pos (starEach (e :: es) X.env)) (backToKw pos (keywordEach [] X.env))) := by rfl) : PE X (.Call (.Attribute o m apos) (e :: es) [] pos) (EV B (wMeth C m sp wo ws)) := by
  obtain ⟨f, fd, hm, hF, hb, hok⟩ := F.ex
  exact (pe_meth ho c hm hok (hr.mono hkj) hb .nil pass0 ha hst hpl ht).imp fun σ H Q ⟨δ, G, Q1, t, re, rh, h, pq⟩ => ⟨δ, G, _, t, re, rh, h, fun x G1 H1 v ⟨a, fs, ex, hi, hl, h1⟩ rh1 t1 rv => by
    subst ex
    obtain ⟨dx, us, hh, rk⟩ := rh1.atI hi
    refine ⟨a, dx, us, rv, hh, rk.lookN hl, δ, G1, _, t.trans t1, re.mono t1, rh1, h1, fun xs G2 H2 vs h2 rh2 t2 rvs => ?_⟩
    show SPV sp (v :: (vs ++ [])) H2 Q E0
    rw [List.append_nil]
    exact ⟨_, G2, Q1, DX0, RVs.cons (RV.mono t2 _ _ rv) rvs, rh2, h2, pq.after (t1.trans t2), PostX.zero⟩⟩
theorem ev_mt0 {pl : Sem Bool} (F : Mt X.prog X.w X.K X.mg X.base C m qual st ps k sp) (c : Cls X.K C) (hr : Room j X.A) (ho : PE X o (EV B wo)) (hkj : k ≤ j := by decide)
    (ht : eval (.Call (.Attribute o m apos) [] [] pos) X.env = (do
      let ov ← eval o X.env
      standAt apos.atName
      let (f, first) ← holding [ov] (getMethod ov m pl)
      callWith pos f first (backTo pos (starEach [] X.env)) (backToKw pos (keywordEach [] X.env))) := by rfl) : PE X (.Call (.Attribute o m apos) [] [] pos) (EV B (wMeth C m sp wo wNil)) := by
  obtain ⟨f, fd, hm, hF, hb, hok⟩ := F.ex
  exact (pe_meth0 ho c hm hok (hr.mono hkj) hb .nil pass0 ht).imp fun σ H Q ⟨δ, G, Q1, t, re, rh, h, pq⟩ => ⟨δ, G, _, t, re, rh, h, fun x G1 H1 v ⟨a, fs, ex, hi, hl, h1⟩ rh1 t1 rv => by
    subst ex
    obtain ⟨dx, us, hh, rk⟩ := rh1.atI hi
    exact ⟨a, dx, us, rv, hh, rk.lookN hl, ⟨_, G1, Q1, DX0, RVs.cons rv RVs.nil, rh1, h1, pq.after t1, PostX.zero⟩⟩⟩
/-- a new instance -/
def wMake (C : Addr) (sp : DSp) (ws : WA) : WE := fun δ G Q => ws δ G fun xs G1 => ∀ x, G1.ob x = none → sp (.ref x :: xs) (G1.put x (.ins C [])) (fun v G2 => v = .non ∧ Q (.ref x) G2) DX0
theorem ev_mk (F : Mkr X.prog X.w X.K X.mg X.base x C ps k sp) (hr : Room j X.A) (hg : Gl X x) (ha : PA X (e :: es) (AV B ws)) (hkj : k + 1 ≤ j := by decide) (hdb : (x == ("__debug__" : Str)) = false := by decide)
    (he : starEach (e :: es) X.env = (false, eval e X.env) :: starEach es X.env := by rfl) (hpl : (backTo pos (starEach es X.env)).any (·.1) = false := by rfl) : PE X (.Call (.Name x p) (e :: es) [] pos) (EV B (wMake C sp ws)) := by
  obtain ⟨f, fd, hm, M, hb, hok⟩ := F.ex
  exact (pe_make M hok (hr.mono hkj) hg hm hb .nil pass0 ha hdb he hpl).imp fun σ H Q ⟨δ, G, Q1, t, re, rh, h, pq⟩ => ⟨δ, G, _, t, re, rh, h, fun xs G1 H1 vs h1 rh1 t1 rvs y dx ny ndx ne => by
    have n2 : upd H1 dx (.own y) y = none := by rw [upd_ne ne.symm]; exact ny
    have tt : TM H1 (upd (upd H1 dx (.own y)) y (.ins C dx [])) := (TM.new ndx).trans (TM.new n2)
    show SPV sp (.ref y :: (vs ++ [])) _ _ E0
    rw [List.append_nil]
    refine ⟨.ref y :: xs, _, _, DX0, RVs.cons (d := .ref y) (v := .ref y) rfl (RVs.mono tt _ _ rvs), (rh1.keep (keep_new ndx)).new n2 (RO.insT upd_same RKs.nil), h1 y (rh1.free ny), fun v G2 H2 z ⟨ev, q⟩ rh2 t2 rz => ?_, PostX.zero⟩
    subst ev
    exact ⟨rz, pq _ _ _ _ q rh2 (t1.trans (tt.trans t2)) rfl⟩⟩
/-! ### keywords -/
def pick {α : Type} (d : α) (ix : List Nat) (l : List α) : List α := ix.map fun i => l.getD i d
theorem Vals.getD : ∀ {vs : List V} {us : List Value} (i : Nat), Vals vs us → RelV (vs.getD i .non) (us.getD i .none)
  | _, _, i, .nil => by simp; rfl
  | _, _, 0, .cons r t => by simpa using r
  | _, _, i + 1, .cons r t => by simpa using Vals.getD i t
theorem Vals.pick {vs : List V} {us : List Value} (h : Vals vs us) : ∀ ix : List Nat, Vals (pick .non ix vs) (Q7.pick .none ix us)
  | [] => .nil
  | i :: ix => .cons (Vals.getD i h) (Vals.pick h ix)
theorem RVs.getD {H : Hp} : ∀ {ds : List D} {vs : List V} (i : Nat), RVs H ds vs → RV H (ds.getD i .non) (vs.getD i .non)
  | [], vs, i, h => by
    have e : vs = [] := h
    subst e
    simp; rfl
  | d :: ds, vs, 0, h => by
    obtain ⟨v, r, e, h1, h2⟩ := h
    subst e
    simpa using h1
  | d :: ds, vs, i + 1, h => by
    obtain ⟨v, r, e, h1, h2⟩ := h
    subst e
    simpa using RVs.getD i h2
theorem RVs.pick {H : Hp} {ds : List D} {vs : List V} (h : RVs H ds vs) : ∀ ix : List Nat, RVs H (pick .non ix ds) (Q7.pick .non ix vs)
  | [] => RVs.nil
  | i :: ix => RVs.cons (RVs.getD i h) (RVs.pick h ix)
def wCallK (sp : DSp) (n m : Nat) (ix : List Nat) (ws wk : WA) : WE := fun δ G Q => ws δ G fun xs G1 => wk δ G1 fun zs G2 => xs.length = n ∧ zs.length = m ∧ sp (pick .non ix (xs ++ zs)) G2 Q DX0
theorem kv_nil : PK X [] (AV B wNil) := pk_nil.imp fun σ H Q ⟨δ, G, Q1, t, re, rh, h, p⟩ => p _ _ _ _ h rh (TM.refl H) RVs.nil
theorem kv_cons {nm : Option Str} {kpos : Pos} (ha : PE X e (EV B w)) (hr : PK X kws (AV B ws)) : PK X (⟨nm, e, kpos⟩ :: kws) (AV B (wCons w ws)) :=
  (pk_cons ha hr).imp fun σ H Q ⟨δ, G, Q1, t, re, rh, h, p⟩ => ⟨δ, G, _, t, re, rh, h, fun x G1 H1 v h1 rh1 t1 rv => ⟨δ, G1, _, t.trans t1, re.mono t1, rh1, h1, fun xs G2 H2 vs h2 rh2 t2 rvs => p _ _ _ _ h2 rh2 (t1.trans t2) (RVs.cons (RV.mono t2 _ _ rv) rvs)⟩⟩
theorem kbn_of {K : PySem.W.Frag} {x qual : Str} {params : Arguments} {body : List Stmt} {scope : Scope} {f : Addr} {fd : FuncData} {n : Nat} {ks : List Str} {ix : List Nat} (F : FunD K x qual params body scope [] [] f fd)
    (h : ∀ (kV doc pm : Value) (an : Option Addr) (cdv ct : Value) (us ws : List Value), us.length = n → ws.length = ks.length → bindArgs (PySem.W.fnOf x qual params body scope .none kV doc pm an cdv ct) ⟨us, ks.zip ws⟩ = pure (ps.zip (pick .none ix (us ++ ws)))) :
    KBn K fd ps n ks (fun us ws => pick .none ix (us ++ ws)) (fun vs zs => pick .non ix (vs ++ zs)) := by
  obtain ⟨oc, od, dV, kV, doc, pm, an, cdv, ct, osl, rfl, lk, hcd, hD, hK⟩ := F.ex
  rcases hD with ⟨_, rfl⟩ | ⟨e, _⟩
  · exact ⟨fun s us ws _ l1 l2 => .of_eq (h kV doc pm an cdv ct us ws l1 l2), fun r1 r2 => Vals.pick (r1.append r2) ix⟩
  · exact absurd rfl e
theorem ev_fnK {n : Nat} {ks : List Str} {ix : List Nat} (F : Fn X.prog X.w X.K X.mg X.base x st ps k sp) (hr : Room j X.A) (hg : Gl X x) (ha : PA X (e :: es) (AV B ws)) (hkw : PK X kws (AV B wk))
    (h : ∀ (kV doc pm : Value) (an : Option Addr) (cdv ct : Value) (us vs : List Value), us.length = n → vs.length = ks.length → bindArgs (PySem.W.fnOf x x (defArgs st) (defBody st) (defScope st) .none kV doc pm an cdv ct) ⟨us, ks.zip vs⟩ = pure (ps.zip (pick .none ix (us ++ vs))))
    (hkj : k ≤ j := by decide) (hall : (backToKw pos (keywordEach kws X.env)).all (·.1.isSome) = true := by rfl) (hks : (backToKw pos (keywordEach kws X.env)).filterMap (·.1) = ks := by rfl)
    (hdb : (x == ("__debug__" : Str)) = false := by decide) (he : starEach (e :: es) X.env = (false, eval e X.env) :: starEach es X.env := by rfl)
    (hpl : ((backTo pos (starEach (e :: es) X.env)).any (·.1) || (backToKw pos (keywordEach kws X.env)).any (·.1.isNone)) = false := by rfl) : PE X (.Call (.Name x p) (e :: es) kws pos) (EV B (wCallK sp n ks.length ix ws wk)) := by
  obtain ⟨f, fd, hm, hF, hb, hok⟩ := F.ex
  exact (pe_callN hok (hr.mono hkj) hg hm hF.kp (kbn_of hF h) pass0 ha hkw hall hks hdb he hpl).imp fun σ H Q ⟨δ, G, Q1, t, re, rh, h, pq⟩ => ⟨δ, G, _, t, re, rh, h, fun xs G1 H1 vs h1 rh1 t1 rvs => ⟨δ, G1, _, t.trans t1, re.mono t1, rh1, h1, fun zs G2 H2 us ⟨l1, l2, h2⟩ rh2 t2 rus =>
    ⟨by rw [rvs.length]; exact l1, by rw [rus.length]; exact l2, _, G2, Q1, DX0, ((RVs.mono t2 _ _ rvs).append rus).pick ix, rh2, h2, pq.after (t1.trans t2), PostX.zero⟩⟩⟩
theorem pe_callN0 {CX : CXT} {fd : FuncData} {f : Addr} {ks : List Str} {spV : Sp} {E : XK} {tk : TA} {g : List Value → List Value → List Value} {gV : List V → List V → List V} (F : FnOk X.prog X.w X.K X.mg X.base CX k f fd ps spV) (hr : Room k X.A) (hg : Gl X x) (hm : X.mg x = some (.ref f)) (hk : PySem.W.keepIn X.K (.ref f) = true) (hb : KBn X.K fd ps 0 ks g gV) (hx : Passes CX X E)
    (hkw : PK X kws tk) (hall : (backToKw pos (keywordEach kws X.env)).all (·.1.isSome) = true := by rfl) (hks : (backToKw pos (keywordEach kws X.env)).filterMap (·.1) = ks := by rfl)
    (hdb : (x == ("__debug__" : Str)) = false := by decide) (hpl : ((backTo pos (starEach [] X.env)).any (·.1) || (backToKw pos (keywordEach kws X.env)).any (·.1.isNone)) = false := by rfl) :
    PE X (.Call (.Name x p) [] kws pos) (tCallN 0 ks.length spV gV E tNil tk) := by
  refine ⟨fun pins s σ H Q I h => ?_⟩
  refine wpAny_Call_Name_kw (ld_glob I hg hm ?_ hdb)
  refine PySem.W.callWith_KW0 (h₀ := X.base) I.ok.mod.kin hk hall ?_ hpl
  refine thn (hkw.run pos pins s σ H _ I h) fun ws s2 ⟨zs, H2, I2, rz, l1, l2, q2⟩ => ⟨I2.kIn, ?_⟩
  rw [hks]
  exact run_fnN (us := []) (vs := []) F hr hb hx I2 .nil rz rfl l2 q2
theorem ev_fnK0 {ks : List Str} {ix : List Nat} (F : Fn X.prog X.w X.K X.mg X.base x st ps k sp) (hr : Room j X.A) (hg : Gl X x) (hkw : PK X kws (AV B wk))
    (h : ∀ (kV doc pm : Value) (an : Option Addr) (cdv ct : Value) (us vs : List Value), us.length = 0 → vs.length = ks.length → bindArgs (PySem.W.fnOf x x (defArgs st) (defBody st) (defScope st) .none kV doc pm an cdv ct) ⟨us, ks.zip vs⟩ = pure (ps.zip (pick .none ix (us ++ vs))))
    (hkj : k ≤ j := by decide) (hall : (backToKw pos (keywordEach kws X.env)).all (·.1.isSome) = true := by rfl) (hks : (backToKw pos (keywordEach kws X.env)).filterMap (·.1) = ks := by rfl)
    (hdb : (x == ("__debug__" : Str)) = false := by decide) (hpl : ((backTo pos (starEach [] X.env)).any (·.1) || (backToKw pos (keywordEach kws X.env)).any (·.1.isNone)) = false := by rfl) : PE X (.Call (.Name x p) [] kws pos) (EV B (wCallK sp 0 ks.length ix wNil wk)) := by
  obtain ⟨f, fd, hm, hF, hb, hok⟩ := F.ex
  exact (pe_callN0 hok (hr.mono hkj) hg hm hF.kp (kbn_of hF h) pass0 hkw hall hks hdb hpl).imp fun σ H Q ⟨δ, G, Q1, t, re, rh, h, pq⟩ => ⟨δ, G, _, t, re, rh, h, fun zs G2 H2 us ⟨l1, l2, h2⟩ rh2 t2 rus =>
    ⟨rfl, by rw [rus.length]; exact l2, _, G2, Q1, DX0, rus.pick ix, rh2, h2, pq.after t2, PostX.zero⟩⟩
/-! ### methods of built-in types -/
variable {T name id : String}
def TyD (T : String) (x : D) (G : DH) : Prop := (T = "list" ∧ ∃ a ds, x = .ref a ∧ LstAt a ds G) ∨ (T = "dict" ∧ ∃ a kvs, x = .ref a ∧ G.ob a = some (.dct true kvs)) ∨ (T = "str" ∧ ∃ z, x = .str z)
theorem TyD.v {K : PySem.W.Frag} {H : Hp} {G : DH} {x : D} {v : V} (rh : RH H G) (rv : RV H x v) (h : TyD T x G) : tyV K T v H := by
  rcases h with ⟨e, a, ds, ex, hl⟩ | ⟨e, a, kvs, ex, hd⟩ | ⟨e, z, ex⟩
  · subst ex
    have ev : v = .ref a := rv
    subst ev
    obtain ⟨vs, hs, _⟩ := sq_at (K := K) rh hl
    exact .inl ⟨e, vs, hs⟩
  · subst ex
    have ev : v = .ref a := rv
    subst ev
    obtain ⟨vs, hs, _⟩ := rh.atD hd
    exact .inr (.inr (.inl ⟨e, .inl ⟨vs, hs⟩⟩))
  · subst ex
    have ev : v = .str z := rv
    subst ev
    exact e
def wBM (T : String) (r : D → List D → DH → DK → Prop) (wo : WE) (ws : WA) : WE := fun δ G Q => wo δ G fun x G1 => TyD T x G1 ∧ ws δ G1 fun xs G2 => r x xs G2 Q
theorem ev_bm {nm : Str} {r : D → List D → DH → DK → Prop} (pa : PlainAttrs T) (slot : Slot T nm id) (hty : typeOf (.builtin id) = pure (.type "method_descriptor")) (hm : MtR X id (MV r)) (ho : PE X o (EV B wo)) (ha : PA X (e :: es) (AV B ws))
    (hbase : attributeBase o nm X.env (eval o X.env) = eval o X.env := by rfl)
    (hfew : ((backTo cpos (starEach (e :: es) X.env)).all (fun x => !x.1) && (backToKw cpos (keywordEach [] X.env)).all (fun x => x.1.isSome)
      && decide ((e :: es).length + ([] : List Keyword).length + (if ([] : List Keyword).isEmpty then 0 else 1) < 30)) = true := by rfl)
    (hline : (apos.endLine == cpos.line) = true := by rfl) (hs : starEach (e :: es) X.env = (false, eval e X.env) :: starEach es X.env := by rfl) (hplain : (backTo cpos (starEach es X.env)).any (·.1) = false := by rfl) :
    PE X (.Call (.Attribute o nm apos) (e :: es) [] cpos) (EV B (wBM T r wo ws)) :=
  (pe_bm pa slot hty hm ho ha hbase hfew hline hs hplain).imp fun σ H Q ⟨δ, G, Q1, t, re, rh, h, pq⟩ => ⟨δ, G, _, t, re, rh, h, fun x G1 H1 v ⟨ty, h1⟩ rh1 t1 rv => ⟨ty.v rh1 rv, δ, G1, _, t.trans t1, re.mono t1, rh1, h1, fun xs G2 H2 vs h2 rh2 t2 rvs =>
    ⟨x, xs, G2, Q1, RV.mono t2 _ _ rv, rvs, rh2, h2, pq.after (t1.trans t2)⟩⟩⟩
theorem ev_bm0 {nm : Str} {r : D → List D → DH → DK → Prop} (pa : PlainAttrs T) (slot : Slot T nm id) (hty : typeOf (.builtin id) = pure (.type "method_descriptor")) (hm : MtR X id (MV r)) (ho : PE X o (EV B wo))
    (hbase : attributeBase o nm X.env (eval o X.env) = eval o X.env := by rfl) (hline : (apos.endLine == cpos.line) = true := by rfl) : PE X (.Call (.Attribute o nm apos) [] [] cpos) (EV B (wBM T r wo wNil)) :=
  (pe_bm0 pa slot hty hm ho hbase hline).imp fun σ H Q ⟨δ, G, Q1, t, re, rh, h, pq⟩ => ⟨δ, G, _, t, re, rh, h, fun x G1 H1 v ⟨ty, h1⟩ rh1 t1 rv => ⟨ty.v rh1 rv, x, [], G1, Q1, rv, RVs.nil, rh1, h1, pq.after t1⟩⟩
end
end Q7

namespace Q7
open PySem PySem.Spec PyProof.Rows L2

/-! ### operators by values -/
section
variable {X : Cx}
theorem OVor {f : Value → Value → Sem Value} {r r' : D → D → DH → DK → Prop} (h : OpR X f (OV r)) (h' : OpR X f (OV r')) : OpR X f (OV fun x y G Q => r x y G Q ∨ r' x y G Q) :=
  (OpR.or h h').imp fun x y H Q ⟨dx, dy, G, Q1, r1, r2, rh, q, p⟩ => q.elim (fun q => .inl ⟨dx, dy, G, Q1, r1, r2, rh, q, p⟩) fun q => .inr ⟨dx, dy, G, Q1, r1, r2, rh, q, p⟩
/-- two ints -/
def oII (C : Int → Int → Prop) (g : Int → Int → D) : D → D → DH → DK → Prop := fun x y G Q => ∃ i j, x = .int i ∧ y = .int j ∧ C i j ∧ Q (g i j) G
theorem ov_II {f : Value → Value → Sem Value} {C : Int → Int → Prop} {g : Int → Int → V} {g' : Int → Int → D} (h : OpR X f (rI C g)) (hg : ∀ H i j, RV H (g' i j) (g i j)) : OpR X f (OV (oII C g')) :=
  h.imp fun x y H Q ⟨dx, dy, G, Q1, r1, r2, rh, ⟨i, j, e1, e2, c, q⟩, p⟩ => by
    subst e1; subst e2
    exact ⟨i, j, r1, r2, c, p _ _ _ _ q rh (TM.refl H) (hg H i j)⟩
theorem ov_I0 {f : Value → Value → Sem Value} {g : Int → Int → V} {g' : Int → Int → D} (h : OpR X f (rI0 g)) (hg : ∀ H i j, RV H (g' i j) (g i j)) : OpR X f (OV (oII (fun _ _ => True) g')) :=
  h.imp fun x y H Q ⟨dx, dy, G, Q1, r1, r2, rh, ⟨i, j, e1, e2, c, q⟩, p⟩ => by
    subst e1; subst e2
    exact ⟨i, j, r1, r2, p _ _ _ _ q rh (TM.refl H) (hg H i j)⟩
abbrev dSub : D → D → DH → DK → Prop := oII (fun _ _ => True) fun i j => .int (i - j)
theorem ov_sub : OpR X (binaryOp .Sub) (OV dSub) := ov_I0 op_sub fun _ _ _ => rfl
abbrev dMod : D → D → DH → DK → Prop := oII (fun _ j => 0 < j) fun i j => .int (i % j)
theorem ov_mod : OpR X (binaryOp .Mod) (OV dMod) := ov_II op_mod fun _ _ _ => rfl
abbrev dDiv : D → D → DH → DK → Prop := oII CDiv fun i j => .int (i / j)
theorem ov_div : OpR X (binaryOp .FloorDiv) (OV dDiv) := ov_II op_fdiv fun _ _ _ => rfl
abbrev dPow : D → D → DH → DK → Prop := oII CPow fun i j => .int (i ^ j.toNat)
theorem ov_pow : OpR X (binaryOp .Pow) (OV dPow) := ov_II op_pow fun _ _ _ => rfl
/-- +: ints, texts, lists, tuples -/
def dAdd (x y : D) (G : DH) (Q : DK) : Prop :=
  (∃ i j, x = .int i ∧ y = .int j ∧ Q (.int (i + j)) G) ∨ (∃ i j, x = .str i ∧ y = .str j ∧ i.length + j.length ≤ sizeLine ∧ Q (.str (i ++ j)) G) ∨
  (∃ a b ds es, x = .ref a ∧ y = .ref b ∧ G.ob a = some (.lst true ds) ∧ G.ob b = some (.lst true es) ∧ ds.length + es.length ≤ sizeLine ∧ ∀ p, G.ob p = none → Q (.ref p) (G.put p (.lst true (ds ++ es)))) ∨
  ∃ ds es, x = .tup ds ∧ y = .tup es ∧ ds.length + es.length ≤ sizeLine ∧ Q (.tup (ds ++ es)) G
theorem ov_add : OpR X (binaryOp .Add) (OV dAdd) :=
  (OpR.or op_add (OpR.or op_add_str (OpR.or op_cat op_catA))).imp fun x y H Q ⟨dx, dy, G, Q1, r1, r2, rh, q, p⟩ => by
    rcases q with ⟨i, j, e1, e2, q⟩ | ⟨i, j, e1, e2, l, q⟩ | ⟨a, b, ds, es, e1, e2, h1, h2, l, q⟩ | ⟨ds, es, e1, e2, l, q⟩
    · subst e1; subst e2
      exact .inl ⟨i, j, r1, r2, p _ _ _ _ q rh (TM.refl H) rfl⟩
    · subst e1; subst e2
      exact .inr (.inl ⟨i, j, r1, r2, l, p _ _ _ _ q rh (TM.refl H) rfl⟩)
    · subst e1; subst e2
      obtain ⟨vs, g1, k1⟩ := rh.atL h1
      obtain ⟨us, g2, k2⟩ := rh.atL h2
      exact .inr (.inr (.inl ⟨a, b, vs, us, r1, r2, g1, g2, by rw [k1.length, k2.length]; exact l, fun d hd => p _ _ _ _ (q d (rh.free hd)) (rh.newL hd (k1.append k2)) (TM.new hd) rfl⟩))
    · subst e1; subst e2
      obtain ⟨a, vs, ea, g1, k1⟩ := r1
      obtain ⟨b, us, eb, g2, k2⟩ := r2
      refine .inr (.inr (.inr ⟨a, b, vs, us, ea, eb, SqT.of g1, SqT.of g2, by rw [k1.length, k2.length]; exact l, fun z => ?_, fun _ z => ?_, fun _ _ d hd => ?_⟩))
      · subst z
        have e0 : ds = [] := List.length_eq_zero_iff.mp (by have := k1.length; simpa using this.symm)
        subst e0
        exact p _ _ _ _ q rh (TM.refl H) ⟨b, us, rfl, g2, k2⟩
      · subst z
        have e0 : es = [] := List.length_eq_zero_iff.mp (by have := k2.length; simpa using this.symm)
        subst e0
        rw [List.append_nil] at q
        exact p _ _ _ _ q rh (TM.refl H) ⟨a, vs, rfl, g1, k1⟩
      · exact p _ _ _ _ q (rh.keep (keep_new hd)) (TM.new hd) ⟨d, _, rfl, upd_same, RVs.mono (TM.new hd) _ _ (k1.append k2)⟩
/-- *: ints, a list -/
def dMul (x y : D) (G : DH) (Q : DK) : Prop :=
  (∃ i j, x = .int i ∧ y = .int j ∧ CMul i j ∧ Q (.int (i * j)) G) ∨
  ∃ a k ds, x = .ref a ∧ y = .int k ∧ G.ob a = some (.lst true ds) ∧ -(2 ^ 63) ≤ k ∧ k < 2 ^ 63 ∧ ds.length * k.toNat ≤ sizeLine ∧ ∀ p, G.ob p = none → Q (.ref p) (G.put p (.lst true (List.replicate k.toNat ds).flatten))
theorem RVs.flat {H : Hp} {ds : List D} {vs : List V} (h : RVs H ds vs) : ∀ n, RVs H (List.replicate n ds).flatten (List.replicate n vs).flatten
  | 0 => RVs.nil
  | n + 1 => by rw [List.replicate_succ, List.replicate_succ, List.flatten_cons, List.flatten_cons]; exact h.append (RVs.flat h n)
theorem ov_mul : OpR X (binaryOp .Mult) (OV dMul) :=
  (OpR.or op_mul op_rep).imp fun x y H Q ⟨dx, dy, G, Q1, r1, r2, rh, q, p⟩ => by
    rcases q with ⟨i, j, e1, e2, c, q⟩ | ⟨a, k, ds, e1, e2, h1, b1, b2, l, q⟩
    · subst e1; subst e2
      exact .inl ⟨i, j, r1, r2, c, p _ _ _ _ q rh (TM.refl H) rfl⟩
    · subst e1; subst e2
      obtain ⟨vs, g1, k1⟩ := rh.atL h1
      exact .inr ⟨a, k, vs, r1, r2, g1, b1, b2, by rw [k1.length]; exact l, fun d hd => p _ _ _ _ (q d (rh.free hd)) (rh.newL hd (k1.flat _)) (TM.new hd) rfl⟩
def dNeg (x : D) (G : DH) (Q : DK) : Prop := ∃ i, x = .int i ∧ Q (.int (-i)) G
theorem uv_neg : UnR X (unaryOp .USub) (UV dNeg) := by
  intro pins s σ H x v Q I rx h
  obtain ⟨dx, G, Q1, r1, rh, ⟨i, e1, q⟩, p⟩ := h
  subst e1
  exact un_neg pins s σ H x v Q I rx ⟨i, r1, p _ _ _ _ q rh (TM.refl H) rfl⟩
/-- == of flat values -/
def eqS : D → D → Option Bool
  | .non, .non => some true
  | .non, .int _ => some false
  | .int _, .non => some false
  | .non, .bl _ => some false
  | .bl _, .non => some false
  | .non, .str _ => some false
  | .str _, .non => some false
  | .int i, .int j => some (decide (i = j))
  | .bl i, .bl j => some (decide (i = j))
  | .str i, .str j => some (decide (i = j))
  | .int _, .str _ => some false
  | .str _, .int _ => some false
  | .bl _, .str _ => some false
  | .str _, .bl _ => some false
  | _, _ => none
theorem eqS_ok {H : Hp} {x y : D} {u v : V} {b : Bool} (h : eqS x y = some b) (r1 : RV H x u) (r2 : RV H y v) : scal u v = true ∧ decide (u = v) = b := by
  cases x <;> cases y <;> first
    | (cases h; done)
    | (have e1 := r1; have e2 := r2; unfold RV at e1 e2; subst e1; subst e2; refine ⟨rfl, ?_⟩; have h' := Option.some.inj h; subst h'; first | rfl | simp)
def dEqS (x y : D) (G : DH) (Q : DK) : Prop := ∃ b, eqS x y = some b ∧ Q (.bl b) G
def dNeS (x y : D) (G : DH) (Q : DK) : Prop := ∃ b, eqS x y = some b ∧ Q (.bl (!b)) G
theorem ov_eqS : OpR X (compareOp .Eq) (OV dEqS) := op_eq.imp fun x y H Q ⟨dx, dy, G, Q1, r1, r2, rh, ⟨b, e, q⟩, p⟩ => by
  obtain ⟨h1, h2⟩ := eqS_ok e r1 r2
  refine ⟨h1, ?_⟩
  rw [h2]
  exact p _ _ _ _ q rh (TM.refl H) rfl
theorem ov_neS : OpR X (compareOp .NotEq) (OV dNeS) := op_ne.imp fun x y H Q ⟨dx, dy, G, Q1, r1, r2, rh, ⟨b, e, q⟩, p⟩ => by
  obtain ⟨h1, h2⟩ := eqS_ok e r1 r2
  refine ⟨h1, ?_⟩
  rw [h2]
  exact p _ _ _ _ q rh (TM.refl H) rfl
def isNonD : D → Bool
  | .non => true
  | _ => false
def dIsN (x y : D) (G : DH) (Q : DK) : Prop := y = .non ∧ Q (.bl (isNonD x)) G
def dNotN (x y : D) (G : DH) (Q : DK) : Prop := y = .non ∧ Q (.bl (!isNonD x)) G
theorem isN_dec {H : Hp} {x : D} {u : V} (r : RV H x u) : decide (u = .non) = isNonD x := by
  cases x with
  | tup ds =>
    obtain ⟨p, vs, e, _⟩ := r
    subst e
    rfl
  | _ =>
    have e := r
    unfold RV at e
    subst e
    rfl
theorem ov_isN : OpR X (compareOp .Is) (OV dIsN) := op_isN.imp fun x y H Q ⟨dx, dy, G, Q1, r1, r2, rh, ⟨e, q⟩, p⟩ => by
  subst e
  refine ⟨r2, ?_⟩
  rw [isN_dec r1]
  exact p _ _ _ _ q rh (TM.refl H) rfl
theorem ov_notN : OpR X (compareOp .IsNot) (OV dNotN) := op_notN.imp fun x y H Q ⟨dx, dy, G, Q1, r1, r2, rh, ⟨e, q⟩, p⟩ => by
  subst e
  refine ⟨r2, ?_⟩
  rw [isN_dec r1]
  exact p _ _ _ _ q rh (TM.refl H) rfl
/-- order: ints, texts -/
def strLt (x y : Str) : Bool := decide (x.cps.toList < y.cps.toList)
def dLt (x y : D) (G : DH) (Q : DK) : Prop := (∃ i j, x = .int i ∧ y = .int j ∧ Q (.bl (decide (i < j))) G) ∨ ∃ i j, x = .str i ∧ y = .str j ∧ Q (.bl (strLt i j)) G
theorem ov_lt : OpR X (compareOp .Lt) (OV dLt) := (OpR.or op_lt op_lt_str).imp fun x y H Q ⟨dx, dy, G, Q1, r1, r2, rh, q, p⟩ => by
  rcases q with ⟨i, j, e1, e2, q⟩ | ⟨i, j, e1, e2, q⟩
  · subst e1; subst e2
    exact .inl ⟨i, j, r1, r2, p _ _ _ _ q rh (TM.refl H) rfl⟩
  · subst e1; subst e2
    exact .inr ⟨i, j, r1, r2, p _ _ _ _ q rh (TM.refl H) rfl⟩
abbrev dGe : D → D → DH → DK → Prop := oII (fun _ _ => True) fun i j => .bl (decide (j ≤ i))
theorem ov_ge : OpR X (compareOp .GtE) (OV dGe) := ov_I0 op_ge fun _ _ _ => rfl
abbrev dGt : D → D → DH → DK → Prop := oII (fun _ _ => True) fun i j => .bl (decide (j < i))
theorem ov_gt : OpR X (compareOp .Gt) (OV dGt) := ov_I0 op_gt fun _ _ _ => rfl
abbrev dLe : D → D → DH → DK → Prop := oII (fun _ _ => True) fun i j => .bl (decide (i ≤ j))
theorem ov_le : OpR X (compareOp .LtE) (OV dLe) := ov_I0 op_le fun _ _ _ => rfl
/-- in: a sign in a text, a key in a dict, a flat thing in a list or a tuple -/
def flatD : D → Bool
  | .non => true
  | .bl _ => true
  | .int _ => true
  | .str _ => true
  | _ => false
def eqF : D → D → Bool
  | .non, .non => true
  | .bl a, .bl b => a == b
  | .bl a, .int b => (if a then 1 else 0) == b
  | .int a, .bl b => a == (if b then 1 else 0)
  | .int a, .int b => a == b
  | .str a, .str b => a == b
  | _, _ => false
theorem flat_ok {H : Hp} {x : D} {u : V} (h : flatD x = true) (r : RV H x u) : flatV u = true := by
  cases x <;> first | (cases h; done) | (have e := r; unfold RV at e; subst e; rfl)
theorem eqF_ok {H : Hp} {x y : D} {u v : V} (h1 : flatD x = true) (h2 : flatD y = true) (r1 : RV H x u) (r2 : RV H y v) : eqV u v = eqF x y := by
  cases x <;> cases y <;> first | (cases h1; done) | (cases h2; done) | (have e1 := r1; have e2 := r2; unfold RV at e1 e2; subst e1; subst e2; rfl)
theorem flats_ok {H : Hp} : ∀ {ds : List D} {vs : List V}, ds.all flatD = true → RVs H ds vs → vs.all flatV = true
  | [], vs, _, h => by
    have e : vs = [] := h
    subst e; rfl
  | d :: ds, vs, ha, h => by
    obtain ⟨v, r, e, h1, h2⟩ := h
    subst e
    rw [List.all_cons, Bool.and_eq_true] at ha ⊢
    exact ⟨flat_ok ha.1 h1, flats_ok ha.2 h2⟩
theorem inV_ok {H : Hp} {x : D} {u : V} (hx : flatD x = true) (rx : RV H x u) : ∀ {ds : List D} {vs : List V}, ds.all flatD = true → RVs H ds vs → inV u vs = ds.any fun y => eqF y x
  | [], vs, _, h => by
    have e : vs = [] := h
    subst e; rfl
  | d :: ds, vs, ha, h => by
    obtain ⟨v, r, e, h1, h2⟩ := h
    subst e
    rw [List.all_cons, Bool.and_eq_true] at ha
    have ih := inV_ok hx rx ha.2 h2
    unfold inV at ih ⊢
    rw [List.any_cons, List.any_cons, ih, eqF_ok ha.1 hx h1 rx]
def inD (neg : Bool) (x y : D) (G : DH) (Q : DK) : Prop :=
  (∃ (c : Nat) (z : Str), x = .str ⟨#[c]⟩ ∧ y = .str z ∧ Q (.bl (neg ^^ decide (c ∈ z.cps.toList))) G) ∨
  (∃ ds, ((∃ a, y = .ref a ∧ LstAt a ds G) ∨ y = .tup ds) ∧ flatD x = true ∧ ds.all flatD = true ∧ Q (.bl (neg ^^ ds.any fun z => eqF z x)) G) ∨
  ∃ a w kvs k, y = .ref a ∧ G.ob a = some (.dct w kvs) ∧ x = kD k ∧ Q (.bl (neg ^^ (valA kvs k).isSome)) G
theorem op_dIn (hu : X.A.units + 1 < cLine) : OpR X (compareOp .In) (fun y x H Q => ∃ a o, x = .ref a ∧ DGet H a y o ∧ Q (.bl o.isSome) H) := by
  intro pins s σ H y x iv u Q I ry rx h
  obtain ⟨a, o, ex, g, q⟩ := h
  subst ex
  obtain rfl : u = Value.ref a := rx
  exact d_in hu I g ry fun s3 I3 => ⟨.bl o.isSome, H, I3, rfl, q⟩
theorem op_dNotIn (hu : X.A.units + 1 < cLine) : OpR X (compareOp .NotIn) (fun y x H Q => ∃ a o, x = .ref a ∧ DGet H a y o ∧ Q (.bl (!o.isSome)) H) := by
  intro pins s σ H y x iv u Q I ry rx h
  obtain ⟨a, o, ex, g, q⟩ := h
  subst ex
  obtain rfl : u = Value.ref a := rx
  exact d_notIn hu I g ry fun s3 I3 => ⟨.bl (!o.isSome), H, I3, rfl, q⟩
theorem dget_some {H : Hp} {kvs : List (Key × D)} {ws : List (Key × V)} (rk : RKs H kvs ws) (k : Key) : (valV ws k).isSome = (valA kvs k).isSome := by
  cases h : valA kvs k with
  | none => rw [(rk.val k).2 h]; rfl
  | some d =>
    obtain ⟨v, e, _⟩ := (rk.val k).1 d h
    rw [e]; rfl
theorem ov_in (hu : X.A.units + 1 < cLine) : OpR X (compareOp .In) (OV (inD false)) := (OpR.or op_in_sign (OpR.or op_in_seq (op_dIn hu))).imp fun x y H Q ⟨dx, dy, G, Q1, r1, r2, rh, q, p⟩ => by
  rcases q with ⟨c, z, e1, e2, q⟩ | ⟨ds, hs, fx, fs, q⟩ | ⟨a, w, kvs, k, e1, hd, e2, q⟩
  · subst e1; subst e2
    rw [Bool.false_xor] at q
    exact .inl ⟨c, z, r1, r2, p _ _ _ _ q rh (TM.refl H) rfl⟩
  · rw [Bool.false_xor] at q
    rcases hs with ⟨a, ea, hl⟩ | ed
    · subst ea
      obtain ⟨vs, h1, h2⟩ := sq_at (K := X.K) rh hl
      refine .inr (.inl ⟨a, vs, r2, .inl h1, flat_ok fx r1, flats_ok fs h2, ?_⟩)
      show Q (.bl (inV x vs)) H
      rw [inV_ok fx r1 fs h2]
      exact p _ _ _ _ q rh (TM.refl H) rfl
    · subst ed
      obtain ⟨a, vs, ea, h1, h2⟩ := r2
      refine .inr (.inl ⟨a, vs, ea, .inr (SqT.of h1), flat_ok fx r1, flats_ok fs h2, ?_⟩)
      show Q (.bl (inV x vs)) H
      rw [inV_ok fx r1 fs h2]
      exact p _ _ _ _ q rh (TM.refl H) rfl
  · subst e1; subst e2
    rw [Bool.false_xor] at q
    obtain ⟨ws, h1, rk⟩ := rh.atDR hd
    refine .inr (.inr ⟨a, valV ws k, r2, .inl ⟨ws, k, h1, kD_rv r1, rfl⟩, ?_⟩)
    rw [dget_some rk]
    exact p _ _ _ _ q rh (TM.refl H) rfl
theorem ov_notIn (hu : X.A.units + 1 < cLine) : OpR X (compareOp .NotIn) (OV (inD true)) := (OpR.or op_notIn_sign (OpR.or op_notIn_seq (op_dNotIn hu))).imp fun x y H Q ⟨dx, dy, G, Q1, r1, r2, rh, q, p⟩ => by
  rcases q with ⟨c, z, e1, e2, q⟩ | ⟨ds, hs, fx, fs, q⟩ | ⟨a, w, kvs, k, e1, hd, e2, q⟩
  · subst e1; subst e2
    rw [Bool.true_xor] at q
    exact .inl ⟨c, z, r1, r2, p _ _ _ _ q rh (TM.refl H) rfl⟩
  · rw [Bool.true_xor] at q
    rcases hs with ⟨a, ea, hl⟩ | ed
    · subst ea
      obtain ⟨vs, h1, h2⟩ := sq_at (K := X.K) rh hl
      refine .inr (.inl ⟨a, vs, r2, .inl h1, flat_ok fx r1, flats_ok fs h2, ?_⟩)
      show Q (.bl (!inV x vs)) H
      rw [inV_ok fx r1 fs h2]
      exact p _ _ _ _ q rh (TM.refl H) rfl
    · subst ed
      obtain ⟨a, vs, ea, h1, h2⟩ := r2
      refine .inr (.inl ⟨a, vs, ea, .inr (SqT.of h1), flat_ok fx r1, flats_ok fs h2, ?_⟩)
      show Q (.bl (!inV x vs)) H
      rw [inV_ok fx r1 fs h2]
      exact p _ _ _ _ q rh (TM.refl H) rfl
  · subst e1; subst e2
    rw [Bool.true_xor] at q
    obtain ⟨ws, h1, rk⟩ := rh.atDR hd
    refine .inr (.inr ⟨a, valV ws k, r2, .inl ⟨ws, k, h1, kD_rv r1, rfl⟩, ?_⟩)
    rw [dget_some rk]
    exact p _ _ _ _ q rh (TM.refl H) rfl
end
end Q7

namespace Q7
open PySem PySem.Spec PyProof.Rows L2

/-! ### what reads as data -/
def keyP : Key → PyData
  | .inl i => .int i
  | .inr x => .str x
mutual
def DT (G : DH) : PyData → D → Prop
  | .none, d => d = .non
  | .bool b, d => d = .bl b
  | .int i, d => d = .int i
  | .str x, d => d = .str x
  | .list ps, d => ∃ a ds w, d = .ref a ∧ G.ob a = some (.lst w ds) ∧ DTs G ps ds
  | .tuple ps, d => ∃ ds, d = .tup ds ∧ DTs G ps ds
  | .dict kvs, d => ∃ a w ks, d = .ref a ∧ G.ob a = some (.dct w ks) ∧ DTk G kvs ks
def DTs (G : DH) : List PyData → List D → Prop
  | [], ds => ds = []
  | p :: ps, ds => ∃ d r, ds = d :: r ∧ DT G p d ∧ DTs G ps r
def DTk (G : DH) : List (PyData × PyData) → List (Key × D) → Prop
  | [], ks => ks = []
  | (k, v) :: r, ks => ∃ k' d r', ks = (k', d) :: r' ∧ k = keyP k' ∧ DT G v d ∧ DTk G r r'
end
section
variable {X : Cx} {pins : List (Addr × Obj)} {σ : L2.St} {H : Hp} {s : Shared} {G : DH}
theorem pairs_key {P : Program} {w : World} {s : Shared} : ∀ {es : List DictEntry} {xs : List (Key × Value)}, Pairs (mixKind P w) es xs → ∃ as, ReadsAll s.heap (es.map (·.key)) (xs.map fun p => keyP p.1) as
  | _, _, .nil => ⟨_, .nil⟩
  | _, _, .cons h _ t => by
    obtain ⟨as, r⟩ := pairs_key (s := s) t
    rcases keyIs_shape h with ⟨i, t, ek, e⟩ | ⟨x, t, ek, e⟩
    · refine ⟨_, .cons (as := []) ?_ r⟩
      show Reads s.heap (DictEntry.key _) (keyP _) _
      rw [ek, e]; exact .int i t
    · refine ⟨_, .cons (as := []) ?_ r⟩
      show Reads s.heap (DictEntry.key _) (keyP _) _
      rw [ek, e]; exact .str x t
theorem pairs_val {P : Program} {w : World} : ∀ {es : List DictEntry} {xs : List (Key × Value)}, Pairs (mixKind P w) es xs → es.map (·.val) = xs.map (·.2)
  | _, _, .nil => rfl
  | _, _, .cons _ e t => by rw [List.map_cons, List.map_cons, pairs_val t, e]
mutual
theorem DT.reads (I : Inv X pins σ H s) (rh : RH H G) : ∀ (p : PyData) (d : D) (v : V) (u : Value), DT G p d → RV H d v → RelV v u → ∃ as, Reads s.heap u p as
  | .none, d, v, u, h, r, ru => by
    have e_h : d = .non := h; subst e_h; have e_r : v = .non := r; subst e_r
    cases (show u = Value.none from ru)
    exact ⟨_, .none⟩
  | .bool b, d, v, u, h, r, ru => by
    have e_h : d = .bl b := h; subst e_h; have e_r : v = .bl b := r; subst e_r
    cases (show u = Value.bool b from ru)
    exact ⟨_, .bool b⟩
  | .int i, d, v, u, h, r, ru => by
    have e_h : d = .int i := h; subst e_h; have e_r : v = .int i := r; subst e_r
    obtain ⟨t, e⟩ := (show ∃ t, u = Value.int i t from ru)
    subst e
    exact ⟨_, .int i t⟩
  | .str x, d, v, u, h, r, ru => by
    have e_h : d = .str x := h; subst e_h; have e_r : v = .str x := r; subst e_r
    obtain ⟨t, e⟩ := (show ∃ t, u = Value.str x t from ru)
    subst e
    exact ⟨_, .str x t⟩
  | .list ps, d, v, u, h, r, ru => by
    obtain ⟨a, ds, w, ed, hg, hd⟩ := h
    subst ed; have e_r : v = .ref a := r; subst e_r
    cases (show u = Value.ref a from ru)
    obtain ⟨vs, hs, rvs⟩ := sq_at (K := X.K) rh ⟨w, hg⟩
    obtain ⟨its, rv, ⟨o, n, ho, hc, _, hda⟩, _⟩ := I.list hs
    obtain ⟨as, hr⟩ := DTs.reads I rh ps ds vs its hd rvs rv
    exact ⟨_, .list ho hc hda hr⟩
  | .tuple ps, d, v, u, h, r, ru => by
    obtain ⟨ds, ed, hd⟩ := h
    subst ed
    obtain ⟨p, vs, ev, hp, rvs⟩ := r
    subst ev
    cases (show u = Value.ref p from ru)
    obtain ⟨its, rv, ⟨o, ho, hc, n, hda⟩, _⟩ := I.tuple (SqT.of hp)
    obtain ⟨as, hr⟩ := DTs.reads I rh ps ds vs its hd rvs rv
    exact ⟨_, .tuple ho hc hda hr⟩
  | .dict kvs, d, v, u, h, r, ru => by
    obtain ⟨a, w, ks, ed, hg, hd⟩ := h
    subst ed; have e_r : v = .ref a := r; subst e_r
    cases (show u = Value.ref a from ru)
    obtain ⟨ws, hs, rk⟩ := rh.atDR hg
    obtain ⟨z, lo, xs, rel, o, es, ep, ho, hx, hda, hko, hpr, hnd⟩ := dk_rd I.hok hs
    obtain ⟨bs, e1, hr⟩ := DTk.reads I rh kvs ks ws xs hd rk rel
    obtain ⟨as, hk⟩ := pairs_key (s := s) hpr
    rw [← e1] at hk
    rw [← pairs_val hpr] at hr
    exact ⟨_, .dict ho hx.1 hda hk hr⟩
theorem DTs.reads (I : Inv X pins σ H s) (rh : RH H G) : ∀ (ps : List PyData) (ds : List D) (vs : List V) (us : List Value), DTs G ps ds → RVs H ds vs → Vals vs us → ∃ as, ReadsAll s.heap us ps as
  | [], ds, vs, us, h, r, ru => by
    have e_h : ds = [] := h; subst e_h; have e_r : vs = [] := r; subst e_r
    cases ru
    exact ⟨_, .nil⟩
  | p :: ps, ds, vs, us, h, r, ru => by
    obtain ⟨d, rd, e, h1, h2⟩ := h
    subst e
    obtain ⟨v, rv, e, r1, r2⟩ := r
    subst e
    cases ru with
    | cons a b =>
      obtain ⟨as, q1⟩ := DT.reads I rh p _ _ _ h1 r1 a
      obtain ⟨bs, q2⟩ := DTs.reads I rh ps _ _ _ h2 r2 b
      exact ⟨_, .cons q1 q2⟩
theorem DTk.reads (I : Inv X pins σ H s) (rh : RH H G) : ∀ (kvs : List (PyData × PyData)) (ks : List (Key × D)) (ws : List (Key × V)) (xs : List (Key × Value)), DTk G kvs ks → RKs H ks ws → KV ws xs →
    ∃ as, kvs.map (·.1) = xs.map (fun p => keyP p.1) ∧ ReadsAll s.heap (xs.map (·.2)) (kvs.map (·.2)) as
  | [], ks, ws, xs, h, r, ru => by
    have e_h : ks = [] := h; subst e_h; have e_r : ws = [] := r; subst e_r
    cases ru
    exact ⟨_, rfl, .nil⟩
  | (k, p) :: kvs, ks, ws, xs, h, r, ru => by
    obtain ⟨k', d, r', e, ek, h1, h2⟩ := h
    subst e
    obtain ⟨v, rv, e, r1, r2⟩ := r
    subst e
    cases ru with
    | cons a b =>
      obtain ⟨a1, a2⟩ := a
      obtain ⟨as, q1⟩ := DT.reads I rh p _ _ _ h1 r1 a2
      obtain ⟨bs, e2, q2⟩ := DTk.reads I rh kvs _ _ _ h2 r2 b
      refine ⟨_, ?_, .cons q1 q2⟩
      rw [List.map_cons, List.map_cons, e2]
      show k :: _ = keyP _ :: _
      rw [ek, ← a1]
end
end
theorem DTs.length {G : DH} : ∀ {ps : List PyData} {ds : List D}, DTs G ps ds → ds.length = ps.length
  | [], _, h => by have e_h : _ = [] := h; subst e_h; rfl
  | p :: ps, _, h => by
    obtain ⟨d, r, e, _, h2⟩ := h
    subst e
    rw [List.length_cons, List.length_cons, h2.length]
/-! ### == != < of data -/
section
variable {X : Cx}
def dEqP (x y : D) (G : DH) (Q : DK) : Prop := ∃ p q, DT G p x ∧ DT G q y ∧ p.plain = true ∧ q.plain = true ∧ min p.depth q.depth ≤ 64 ∧ Q (.bl (PyData.eqv p q)) G
def dNeP (x y : D) (G : DH) (Q : DK) : Prop := ∃ p q, DT G p x ∧ DT G q y ∧ p.plain = true ∧ q.plain = true ∧ min p.depth q.depth ≤ 64 ∧ Q (.bl (!PyData.eqv p q)) G
theorem ov_eqP (hu : X.A.units + 64 < cLine) : OpR X (compareOp .Eq) (OV dEqP) := by
  intro pins s σ H x y v u Q I rx ry h
  obtain ⟨dx, dy, G, Q1, r1, r2, rh, ⟨p, q, hp, hq, pp, pq, hd, h⟩, po⟩ := h
  obtain ⟨as, e1⟩ := DT.reads I rh p dx x v hp r1 rx
  obtain ⟨bs, e2⟩ := DT.reads I rh q dy y u hq r2 ry
  exact SeqAt.eq_plain e1 e2 pp pq (by omega) ⟨.bl _, H, I, rfl, po _ _ _ _ h rh (TM.refl H) rfl⟩
theorem ov_neP (hu : X.A.units + 64 < cLine) : OpR X (compareOp .NotEq) (OV dNeP) := by
  intro pins s σ H x y v u Q I rx ry h
  obtain ⟨dx, dy, G, Q1, r1, r2, rh, ⟨p, q, hp, hq, pp, pq, hd, h⟩, po⟩ := h
  obtain ⟨as, e1⟩ := DT.reads I rh p dx x v hp r1 rx
  obtain ⟨bs, e2⟩ := DT.reads I rh q dy y u hq r2 ry
  exact SeqAt.ne_plain e1 e2 pp pq (by omega) ⟨.bl _, H, I, rfl, po _ _ _ _ h rh (TM.refl H) rfl⟩
open PySem.W in
def dLtP (x y : D) (G : DH) (Q : DK) : Prop := ∃ p q, DT G p x ∧ DT G q y ∧ alike p q = true ∧ p ≠ .none ∧ min p.depth q.depth ≤ 64 ∧ Q (.bl (dataLt p q)) G
theorem ov_ltP (hu : X.A.units + 64 < cLine) : OpR X (compareOp .Lt) (OV dLtP) := by
  intro pins s σ H x y v u Q I rx ry h
  obtain ⟨dx, dy, G, Q1, r1, r2, rh, ⟨p, q, hp, hq, al, hn, hd, h⟩, po⟩ := h
  obtain ⟨as, e1⟩ := DT.reads I rh p dx x v hp r1 rx
  obtain ⟨bs, e2⟩ := DT.reads I rh q dy y u hq r2 ry
  exact PySem.W.rcLt_alike p q X.A s v u as bs e1 e2 al hn (by omega) _ _ _ _ ⟨.bl _, H, I, rfl, po _ _ _ _ h rh (TM.refl H) rfl⟩
/-- in, of data in lists and tuples -/
def inP (neg : Bool) (x y : D) (G : DH) (Q : DK) : Prop := ∃ p ps, DT G p x ∧ ((∃ a ds, y = .ref a ∧ LstAt a ds G ∧ DTs G ps ds) ∨ ∃ ds, y = .tup ds ∧ DTs G ps ds) ∧ PyData.plainAll ps = true ∧ p.plain = true ∧ p.depth ≤ 63 ∧ Q (.bl (neg ^^ ps.any fun z => PyData.eqv z p)) G
theorem inP_reads {pins : List (Addr × Obj)} {σ : L2.St} {H : Hp} {s : Shared} {G : DH} {y : D} {v : V} {u : Value} {ps : List PyData} (I : Inv X pins σ H s) (rh : RH H G) (r : RV H y v) (ru : RelV v u) (h : (∃ a ds, y = .ref a ∧ LstAt a ds G ∧ DTs G ps ds) ∨ ∃ ds, y = .tup ds ∧ DTs G ps ds) :
    (∃ as, Reads s.heap u (.list ps) as) ∨ ∃ as, Reads s.heap u (.tuple ps) as := by
  rcases h with ⟨a, ds, e, ⟨w, hg⟩, hd⟩ | ⟨ds, e, hd⟩
  · exact .inl (DT.reads I rh (.list ps) y v u ⟨a, ds, w, e, hg, hd⟩ r ru)
  · exact .inr (DT.reads I rh (.tuple ps) y v u ⟨ds, e, hd⟩ r ru)
theorem ov_inP (hu : X.A.units + 65 < cLine) : OpR X (compareOp .In) (OV (inP false)) := by
  intro pins s σ H x y v u Q I rx ry h
  obtain ⟨dx, dy, G, Q1, r1, r2, rh, ⟨p, ps, hp, hq, pa, pp, hd, h⟩, po⟩ := h
  rw [Bool.false_xor] at h
  obtain ⟨as, e1⟩ := DT.reads I rh p dx x v hp r1 rx
  have fin : EP X pins σ Q (Value.bool (ps.any fun z => PyData.eqv z p)) s := ⟨.bl _, H, I, rfl, po _ _ _ _ h rh (TM.refl H) rfl⟩
  rcases inP_reads I rh r2 ry hq with ⟨bs, e2⟩ | ⟨bs, e2⟩
  · exact SeqAt.in_list_data e2 e1 pa pp (by omega) fin
  · exact SeqAt.in_tuple_data e2 e1 pa pp (by omega) fin
theorem ov_notInP (hu : X.A.units + 65 < cLine) : OpR X (compareOp .NotIn) (OV (inP true)) := by
  intro pins s σ H x y v u Q I rx ry h
  obtain ⟨dx, dy, G, Q1, r1, r2, rh, ⟨p, ps, hp, hq, pa, pp, hd, h⟩, po⟩ := h
  rw [Bool.true_xor] at h
  obtain ⟨as, e1⟩ := DT.reads I rh p dx x v hp r1 rx
  have fin : EP X pins σ Q (Value.bool (!ps.any fun z => PyData.eqv z p)) s := ⟨.bl _, H, I, rfl, po _ _ _ _ h rh (TM.refl H) rfl⟩
  rcases inP_reads I rh r2 ry hq with ⟨bs, e2⟩ | ⟨bs, e2⟩
  · exact SeqAt.notIn_list_data e2 e1 pa pp (by omega) fin
  · exact SeqAt.notIn_tuple_data e2 e1 pa pp (by omega) fin
end
end Q7

namespace Q7
open PySem PySem.Spec PyProof.Rows L2

/-! ### order of texts -/
def leS (x y : Str) : Bool := !strLt y x
theorem leS_iff {x y : Str} : leS x y = true ↔ x.cps.toList ≤ y.cps.toList := by
  unfold leS strLt
  simp [List.not_lt]
theorem str_ext {x y : Str} (h : x.cps.toList = y.cps.toList) : x = y := by
  cases x; cases y
  simp at h
  rw [h]
theorem leS_total (x y : Str) : leS x y = true ∨ leS y x = true := by
  rw [leS_iff, leS_iff]; exact List.le_total _ _
theorem leS_trans {x y z : Str} (h : leS x y = true) (h' : leS y z = true) : leS x z = true := by
  rw [leS_iff] at *; exact List.le_trans h h'
theorem leS_anti {x y : Str} (h : leS x y = true) (h' : leS y x = true) : x = y := by
  rw [leS_iff] at *; exact str_ext (List.le_antisymm h h')
def srtS (xs : List Str) : List Str := xs.mergeSort leS
theorem srtS_perm (xs : List Str) : (srtS xs).Perm xs := List.mergeSort_perm _ _
theorem srtS_pw (xs : List Str) : (srtS xs).Pairwise (fun a b => leS a b = true) :=
  List.pairwise_mergeSort (le := leS) (fun a b c h h' => leS_trans h h') (fun a b => by have := leS_total a b; simpa using this) xs
theorem pw_uniq {α : Type} {le : α → α → Bool} (anti : ∀ a b, le a b = true → le b a = true → a = b) : ∀ {xs ys : List α}, xs.Perm ys → xs.Pairwise (fun a b => le a b = true) → ys.Pairwise (fun a b => le a b = true) → xs = ys := by
  intro xs ys hp h1 h2
  exact hp.eq_of_pairwise (fun a b _ _ => anti a b) h1 h2
theorem risingS_pw : ∀ (l : List Str) (p : Str), risingS p l = true → (∀ y ∈ l, leS p y = true) ∧ l.Pairwise (fun a b => leS a b = true)
  | [], _, _ => ⟨fun y hy => (nomatch hy), .nil⟩
  | x :: r, p, h => by
    have h' : (!ltCps x.cps.toList p.cps.toList && risingS x r) = true := h
    rw [Bool.and_eq_true] at h'
    obtain ⟨i1, i2⟩ := risingS_pw r x h'.2
    have hx : leS p x = true := by
      unfold leS strLt
      have := h'.1
      rw [PyProof.Rows.ltCps_eq] at this
      exact this
    refine ⟨fun y hy => ?_, List.pairwise_cons.mpr ⟨i1, i2⟩⟩
    rcases List.mem_cons.mp hy with e | hy
    · rw [e]; exact hx
    · exact leS_trans hx (i1 y hy)
theorem sortedS_pw {l : List Str} (h : sortedS l = true) : l.Pairwise (fun a b => leS a b = true) := by
  cases l with
  | nil => exact .nil
  | cons x r =>
    obtain ⟨h1, h2⟩ := risingS_pw r x h
    exact List.pairwise_cons.mpr ⟨h1, h2⟩
theorem sortedS_eq {ys ks : List Str} (hp : ys.Perm ks) (h : sortedS ys = true) : ys = srtS ks :=
  pw_uniq (fun _ _ => leS_anti) (hp.trans (srtS_perm ks).symm) (sortedS_pw h) (srtS_pw ks)
/-! ### sorted -/
open PySem.W in
def leP (p q : PyData) : Bool := !dataLt q p
def srtD (ps : List PyData) (ds : List D) : List D := ((ps.zip ds).mergeSort (fun a b => leP a.1 b.1)).map (·.2)
mutual
def toP : D → PyData
  | .non => .none
  | .bl b => .bool b
  | .int i => .int i
  | .str x => .str x
  | .ty _ => .none
  | .ref _ => .none
  | .tup ds => .tuple (toPs ds)
def toPs : List D → List PyData
  | [] => []
  | d :: ds => toP d :: toPs ds
end
mutual
def okP : D → Bool
  | .ty _ => false
  | .ref _ => false
  | .tup ds => okPs ds
  | _ => true
def okPs : List D → Bool
  | [] => true
  | d :: ds => okP d && okPs ds
end
mutual
theorem DT.of {G : DH} : ∀ d : D, okP d = true → DT G (toP d) d
  | .non, _ => rfl
  | .bl _, _ => rfl
  | .int _, _ => rfl
  | .str _, _ => rfl
  | .ty _, h => by cases h
  | .ref _, h => by cases h
  | .tup ds, h => ⟨ds, rfl, DTs.of ds h⟩
theorem DTs.of {G : DH} : ∀ ds : List D, okPs ds = true → DTs G (toPs ds) ds
  | [], _ => rfl
  | d :: ds, h => by
    have h' : (okP d && okPs ds) = true := h
    rw [Bool.and_eq_true] at h'
    exact ⟨d, ds, rfl, DT.of d h'.1, DTs.of ds h'.2⟩
end
theorem toPs_map : ∀ ds : List D, toPs ds = ds.map toP
  | [] => rfl
  | d :: ds => by rw [List.map_cons, ← toPs_map ds]; rfl
theorem okPs_all : ∀ ds : List D, okPs ds = ds.all okP
  | [] => rfl
  | d :: ds => by rw [List.all_cons, ← okPs_all ds]; rfl
def leD (d e : D) : Bool := leP (toP d) (toP e)
theorem srtD_of (ds : List D) : srtD (toPs ds) ds = ds.mergeSort leD := by
  unfold srtD
  rw [List.map_mergeSort (r := fun a b => leP a.1 b.1) (s := leD) (f := fun p : PyData × D => p.2)]
  · congr 1
    rw [toPs_map]
    exact List.map_snd_zip (by simp)
  · intro a ha b hb
    rw [toPs_map] at ha hb
    have hz : ∀ p ∈ (ds.map toP).zip ds, p.1 = toP p.2 := by
      intro p hp
      rw [List.zip_map_left, List.mem_map] at hp
      obtain ⟨q, hq, e⟩ := hp
      subst e
      have : q.1 = q.2 := by
        obtain ⟨i, hi, e⟩ := List.getElem_of_mem hq
        rw [← e]; simp
      simp [Prod.map, this]
    show leP a.1 b.1 = leP (toP a.2) (toP b.2)
    rw [hz a ha, hz b hb]
section
variable {X : Cx}
open PySem.W in
def sortD (xs : List D) (G : DH) (Q : DK) : Prop :=
  (∃ a ds ps, xs = [.ref a] ∧ LstAt a ds G ∧ DTs G ps ds ∧ AllAlike ps ∧ Sortable ps ∧ (∀ p ∈ ps, p.depth ≤ 62) ∧ ∀ p, G.ob p = none → Q (.ref p) (G.put p (.lst true (srtD ps ds)))) ∨
  ∃ a w kvs ks, xs = [.ref a] ∧ G.ob a = some (.dct w kvs) ∧ kvs.map (·.1) = ks.map Sum.inr ∧ ks.length < 64 ∧ ∀ p, G.ob p = none → Q (.ref p) (G.put p (.lst true ((srtS ks).map .str)))
theorem DTs.each {pins : List (Addr × Obj)} {σ : L2.St} {H : Hp} {s : Shared} {G : DH} (I : Inv X pins σ H s) (rh : RH H G) : ∀ {ps : List PyData} {ds : List D} {vs : List V} {us : List Value}, DTs G ps ds → RVs H ds vs → Vals vs us →
    ∃ bs : List (PyData × D × V), bs.map (·.1) = ps ∧ bs.map (fun b => (b.1, b.2.1)) = ps.zip ds ∧ (∀ b ∈ bs, RV H b.2.1 b.2.2) ∧ PySem.W.EachIs (fun (v : Value) (b : PyData × D × V) => RelV b.2.2 v) us bs ∧ PySem.W.EachIs (fun (v : Value) (b : PyData × D × V) => ∃ as, Reads s.heap v b.1 as) us bs
  | [], ds, vs, us, h, r, ru => by
    have e : ds = [] := h
    subst e
    have e : vs = [] := r
    subst e
    cases ru
    exact ⟨[], rfl, rfl, fun b hb => (nomatch hb), .nil, .nil⟩
  | p :: ps, ds, vs, us, h, r, ru => by
    obtain ⟨d, rd, e, h1, h2⟩ := h
    subst e
    obtain ⟨v, rv, e, r1, r2⟩ := r
    subst e
    cases ru with
    | cons a b =>
      obtain ⟨bs, e1, e2, q, x1, x2⟩ := DTs.each I rh h2 r2 b
      obtain ⟨as, rd⟩ := DT.reads I rh p _ _ _ h1 r1 a
      refine ⟨(p, d, v) :: bs, by rw [List.map_cons, e1], by rw [List.map_cons, e2]; rfl, fun b hb => ?_, .cons a x1, .cons ⟨as, rd⟩ x2⟩
      rcases List.mem_cons.mp hb with e | hb
      · rw [e]; exact r1
      · exact q b hb
theorem each_vals {β : Type} {f : β → V} : ∀ {us : List Value} {bs : List β}, PySem.W.EachIs (fun (v : Value) (b : β) => RelV (f b) v) us bs → Vals (bs.map f) us
  | _, _, .nil => .nil
  | _, _, .cons h t => .cons h (each_vals t)
theorem RVs.of_mem {H : Hp} {β : Type} {f : β → D} {g : β → V} : ∀ {bs : List β}, (∀ b ∈ bs, RV H (f b) (g b)) → RVs H (bs.map f) (bs.map g)
  | [], _ => RVs.nil
  | b :: bs, h => RVs.cons (h b List.mem_cons_self) (RVs.of_mem fun c hc => h c (List.mem_cons_of_mem _ hc))
theorem cr_sortD (hu : X.A.units + 64 < cLine) (hcalm : X.calm = true) : CallR X (.builtin "sorted") (CV sortD) := by
  intro pins s σ H xs us Q I r h
  obtain ⟨ds0, G, Q1, rv0, rh, h, po⟩ := h
  rcases h with ⟨a, ds, ps, ex, hl, hd, al, so, hdp, q⟩ | ⟨a, w, kvs, ks, ex, hg, hk, h64, q⟩
  · subst ex
    obtain ⟨v, r0, ev, rv1, rn⟩ := rv0
    have e1 : v = .ref a := rv1
    have e2 : r0 = [] := rn
    subst e1; subst e2; subst ev
    rw [Vals.ref1 r]
    obtain ⟨vs, hs, rvs⟩ := sq_at (K := X.K) rh hl
    obtain ⟨its, rv, pl, hz⟩ := I.list hs
    obtain ⟨bs, b1, b2, b3, x1, x2⟩ := DTs.each I rh hd rvs rv
    have hlen : bs.length = vs.length := by rw [← x1.length, ← rv.length]
    refine PySem.W.sorted_data (vs := its) (bs := bs) (enc := (·.1)) pl.isList x1 x2 (by rw [b1]; exact al) (by rw [b1]; exact so) (by rw [hlen]; exact hz) (fun b hb => ?_) fun out hol ho => ?_
    · have hb1 : b.1 ∈ ps := by rw [← b1]; exact List.mem_map_of_mem hb
      have := hdp _ hb1
      omega
    · have hlo : out.length ≤ sizeLine := by rw [hol, hlen]; exact hz
      have hv := each_vals ho
      obtain ⟨ep, he⟩ := PyProof.Rows.sortedAll_at s.heap its out.toArray
      have hn : H (s.heap.objs.size + 1) = none := I.hok.fresh (Nat.le_succ _)
      have hq := po _ _ _ (.ref (s.heap.objs.size + 1)) (q _ (rh.free hn)) (rh.newL hn (ds := srtD ps ds) (vs := (bs.mergeSort (PySem.W.dataLe false (·.1))).map (·.2.2)) ?_) (TM.new hn) rfl
      · refine ⟨.ref _, _, I.laid (t' := s.toks) (fun _ _ => PyProof.Rows.sortedAll_old) (Nat.le_succ _) (show ObjOk X.prog X.w _ _ _ (.lst _) from ⟨?_, out, ep, hv, he⟩), rfl, hq⟩
        rw [hv.length]; exact hlo
      · have e3 : srtD ps ds = (bs.mergeSort (PySem.W.dataLe false (·.1))).map (·.2.1) := by
          unfold srtD
          rw [← b2, ← List.map_mergeSort (r := PySem.W.dataLe false (·.1)) (f := fun b : PyData × D × V => (b.1, b.2.1)), List.map_map]
          · rfl
          · intro a ha b hb
            rfl
        rw [e3]
        refine RVs.of_mem fun b hb => b3 b ?_
        exact (List.mergeSort_perm _ _).mem_iff.mp hb
  · subst ex
    obtain ⟨ws, h1, rk⟩ := rh.atDR hg
    refine call_sortedD hcalm pins s σ H xs us Q I r ⟨a, ws, ks, ?_, h1, rk.keys.trans hk, h64, fun ys p hp hs hn => ?_⟩
    · obtain ⟨v, r0, ev, rv1, rn⟩ := rv0
      have e1 : v = .ref a := rv1
      have e2 : r0 = [] := rn
      rw [ev, e1, e2]
    · rw [sortedS_eq hp hs]
      refine po _ _ _ _ (q p (rh.free hn)) (rh.newL hn ?_) (TM.new hn) rfl
      have := RVs.of_str (H := H) (srtS ks)
      exact this
/-! ### max, min of two -/
open PySem.W in
theorem best_ge {α : Type} {l : List α} : True := trivial
theorem CmpOf.strs_gt {prog : Program} {w : World} {A : Around} {P : Nat → Value → Prop} (val : Nat → Str) (hval : ∀ i v, P i v → ∃ t, v = .str (val i) t) :
    CmpOf prog w A .Gt P (fun i j => strLt (val j) (val i)) := fun i j vi vj s Q E hi hj h => by
  obtain ⟨t, rfl⟩ := hval i vi hi
  obtain ⟨u, rfl⟩ := hval j vj hj
  exact richCompare_gives (op := .Gt) (typeIs_str s _ t) (typeIs_str s _ u) F.slot_str_gt F.entry_str_gt (F.args_str_gt_2 _ _) (gives_str_gt _ _ t u) (fun x => nomatch x) h
theorem CmpOf.strs_lt {prog : Program} {w : World} {A : Around} {P : Nat → Value → Prop} (val : Nat → Str) (hval : ∀ i v, P i v → ∃ t, v = .str (val i) t) :
    CmpOf prog w A .Lt P (fun i j => strLt (val i) (val j)) := fun i j vi vj s Q E hi hj h => by
  obtain ⟨t, rfl⟩ := hval i vi hi
  obtain ⟨u, rfl⟩ := hval j vj hj
  exact richCompare_gives (op := .Lt) (typeIs_str s _ t) (typeIs_str s _ u) F.slot_str_lt F.entry_str_lt (F.args_str_lt_2 _ _) (gives_str_lt _ _ t u) (fun x => nomatch x) h
def two (a b : Str) (i : Nat) : Str := if i = 0 then a else b
theorem two_at {a b : Str} {t u : Tok} {i : Nat} {v : Value} (h : (#[Value.str a t, Value.str b u] : Array Value)[i]? = some v) : ∃ t, v = .str (two a b i) t := by
  match i with
  | 0 => exact ⟨t, by simpa [two] using h.symm⟩
  | 1 => exact ⟨u, by simpa [two] using h.symm⟩
  | i + 2 => simp at h
section
variable {prog : Program} {w : World} {A : Around} {E : Value → Shared → Prop} {s : Shared}
theorem max_two_strs {a b : Str} {t u : Tok} {Q : Value → Shared → Prop} (hh : A.handled = none)
    (h : ∀ h' tk, (∀ c o, s.heap.get? c = some o → h'.get? c = some o) → Q (if strLt a b = true then .str b u else .str a t) { s with heap := h', toks := tk }) :
    wpAny (model prog w) A (call (.builtin "max") [.str a t, .str b u]) Q E s := by
  have hT : (s.heap.push { cls := .type "tuple", data := .seq #[.str a t, .str b u] }).IsTuple s.heap.objs.size #[.str a t, .str b u] := ⟨_, Heap.get?_push_size _ rfl, rfl, 0, rfl⟩
  refine call_max_two (wpAny_pyIter_tuple hT ?_)
  have hsz : (s.heap.push { cls := .type "tuple", data := .seq #[.str a t, .str b u] }).objs.size = s.heap.objs.size + 1 := Heap.size_push ..
  refine ⟨_, [_, s.heap.objs.size], [_], _, _, _, _, rfl, Walks.tuple (A := A.in1) hh _ s.heap.objs.size (by rw [hsz]; exact Nat.ne_of_lt (Nat.lt_succ_self _)) #[.str a t, .str b u],
    ⟨⟨_, Heap.get?_push_size _ rfl, rfl, rfl⟩, hT.push _⟩, fun c hc => ?_, by simp, CmpOf.strs_gt (two a b) (fun _ _ => two_at), fun v h' tk hP hk => ?_⟩
  · show c < ((s.heap.push _).push _).objs.size
    rw [Heap.size_push, hsz]
    rcases List.mem_cons.mp hc with rfl | hc
    · rw [hsz]; exact Nat.lt_succ_self _
    · rcases List.mem_cons.mp hc with rfl | hc
      · exact Nat.lt_succ_of_lt (Nat.lt_succ_self _)
      · cases hc
  · have hold : ∀ c o, s.heap.get? c = some o → h'.get? c = some o := fun c o e => by
      refine hk c o (fun hm => ?_) (Heap.get?_push_of_some _ (Heap.get?_push_of_some _ e))
      rcases List.mem_cons.mp hm with e1 | hm
      · have := Heap.lt_size e; rw [e1, hsz] at this; exact Nat.lt_irrefl _ (Nat.lt_of_succ_lt this)
      · cases hm
    have := h h' tk hold
    have hv : v = if strLt a b = true then Value.str b u else Value.str a t := by
      have hP' : (#[Value.str a t, Value.str b u] : Array Value)[argBest (fun i j => strLt (two a b j) (two a b i)) 1]? = some v := hP
      by_cases hba : strLt a b = true
      · have e : argBest (fun i j => strLt (two a b j) (two a b i)) 1 = 1 := by simp [argBest, two, hba]
        rw [e] at hP'
        simpa [hba] using hP'.symm
      · have e : argBest (fun i j => strLt (two a b j) (two a b i)) 1 = 0 := by simp [argBest, two, hba]
        rw [e] at hP'
        simpa [hba] using hP'.symm
    rw [hv]; exact this
theorem min_two_strs {a b : Str} {t u : Tok} {Q : Value → Shared → Prop} (hh : A.handled = none)
    (h : ∀ h' tk, (∀ c o, s.heap.get? c = some o → h'.get? c = some o) → Q (if strLt b a = true then .str b u else .str a t) { s with heap := h', toks := tk }) :
    wpAny (model prog w) A (call (.builtin "min") [.str a t, .str b u]) Q E s := by
  have hT : (s.heap.push { cls := .type "tuple", data := .seq #[.str a t, .str b u] }).IsTuple s.heap.objs.size #[.str a t, .str b u] := ⟨_, Heap.get?_push_size _ rfl, rfl, 0, rfl⟩
  refine call_min_two (wpAny_pyIter_tuple hT ?_)
  have hsz : (s.heap.push { cls := .type "tuple", data := .seq #[.str a t, .str b u] }).objs.size = s.heap.objs.size + 1 := Heap.size_push ..
  refine ⟨_, [_, s.heap.objs.size], [_], _, _, _, _, rfl, Walks.tuple (A := A.in1) hh _ s.heap.objs.size (by rw [hsz]; exact Nat.ne_of_lt (Nat.lt_succ_self _)) #[.str a t, .str b u],
    ⟨⟨_, Heap.get?_push_size _ rfl, rfl, rfl⟩, hT.push _⟩, fun c hc => ?_, by simp, CmpOf.strs_lt (two a b) (fun _ _ => two_at), fun v h' tk hP hk => ?_⟩
  · show c < ((s.heap.push _).push _).objs.size
    rw [Heap.size_push, hsz]
    rcases List.mem_cons.mp hc with rfl | hc
    · rw [hsz]; exact Nat.lt_succ_self _
    · rcases List.mem_cons.mp hc with rfl | hc
      · exact Nat.lt_succ_of_lt (Nat.lt_succ_self _)
      · cases hc
  · have hold : ∀ c o, s.heap.get? c = some o → h'.get? c = some o := fun c o e => by
      refine hk c o (fun hm => ?_) (Heap.get?_push_of_some _ (Heap.get?_push_of_some _ e))
      rcases List.mem_cons.mp hm with e1 | hm
      · have := Heap.lt_size e; rw [e1, hsz] at this; exact Nat.lt_irrefl _ (Nat.lt_of_succ_lt this)
      · cases hm
    have := h h' tk hold
    have hv : v = if strLt b a = true then Value.str b u else Value.str a t := by
      have hP' : (#[Value.str a t, Value.str b u] : Array Value)[argBest (fun i j => strLt (two a b i) (two a b j)) 1]? = some v := hP
      by_cases hba : strLt b a = true
      · have e : argBest (fun i j => strLt (two a b i) (two a b j)) 1 = 1 := by simp [argBest, two, hba]
        rw [e] at hP'
        simpa [hba] using hP'.symm
      · have e : argBest (fun i j => strLt (two a b i) (two a b j)) 1 = 0 := by simp [argBest, two, hba]
        rw [e] at hP'
        simpa [hba] using hP'.symm
    rw [hv]; exact this
end
def maxD2 (xs : List D) (G : DH) (Q : DK) : Prop := (∃ i j, xs = [.int i, .int j] ∧ Q (.int (if j > i then j else i)) G) ∨ ∃ a b, xs = [.str a, .str b] ∧ Q (.str (if strLt a b = true then b else a)) G
def minD2 (xs : List D) (G : DH) (Q : DK) : Prop := (∃ i j, xs = [.int i, .int j] ∧ Q (.int (if j < i then j else i)) G) ∨ ∃ a b, xs = [.str a, .str b] ∧ Q (.str (if strLt b a = true then b else a)) G
theorem rvs2 {H : Hp} {x y : D} {xs : List V} (r : RVs H [x, y] xs) : ∃ u v, xs = [u, v] ∧ RV H x u ∧ RV H y v := by
  obtain ⟨u, r1, e1, h1, v, r2, e2, h2, e3⟩ := r
  have e3' : r2 = [] := e3
  subst e3'; subst e2; subst e1
  exact ⟨u, v, rfl, h1, h2⟩
theorem rvs1 {H : Hp} {x : D} {xs : List V} (r : RVs H [x] xs) : ∃ u, xs = [u] ∧ RV H x u := by
  obtain ⟨u, r1, e1, h1, e3⟩ := r
  have e3' : r1 = [] := e3
  subst e3'; subst e1
  exact ⟨u, rfl, h1⟩
theorem cr_max2 (hc : X.calm = true) : CallR X (.builtin "max") (CV maxD2) := by
  intro pins s σ H xs us Q I r h
  obtain ⟨ds0, G, Q1, rv0, rh, h, po⟩ := h
  rcases h with ⟨i, j, ex, q⟩ | ⟨a, b, ex, q⟩
  · subst ex
    obtain ⟨u, v, e, r1, r2⟩ := rvs2 rv0
    have e1 : u = .int i := r1
    have e2 : v = .int j := r2
    subst e1; subst e2
    exact call_max2 hc pins s σ H xs us Q I r ⟨i, j, e, po _ _ _ _ q rh (TM.refl H) rfl⟩
  · subst ex
    obtain ⟨u, v, e, r1, r2⟩ := rvs2 rv0
    have e1 : u = .str a := r1
    have e2 : v = .str b := r2
    subst e1; subst e2; subst e
    obtain ⟨u, w', rfl, ⟨t, rfl⟩, ⟨t', rfl⟩⟩ := vals2 r
    refine max_two_strs (I.ok.hd hc) fun h' tk k => ⟨_, H, I.kept k, ?_, po _ _ _ _ q rh (TM.refl H) rfl⟩
    by_cases hj : strLt a b = true
    · rw [if_pos hj, if_pos hj]; exact ⟨_, rfl⟩
    · rw [if_neg hj, if_neg hj]; exact ⟨_, rfl⟩
theorem cr_min2 (hc : X.calm = true) : CallR X (.builtin "min") (CV minD2) := by
  intro pins s σ H xs us Q I r h
  obtain ⟨ds0, G, Q1, rv0, rh, h, po⟩ := h
  rcases h with ⟨i, j, ex, q⟩ | ⟨a, b, ex, q⟩
  · subst ex
    obtain ⟨u, v, e, r1, r2⟩ := rvs2 rv0
    have e1 : u = .int i := r1
    have e2 : v = .int j := r2
    subst e1; subst e2
    exact call_min2 hc pins s σ H xs us Q I r ⟨i, j, e, po _ _ _ _ q rh (TM.refl H) rfl⟩
  · subst ex
    obtain ⟨u, v, e, r1, r2⟩ := rvs2 rv0
    have e1 : u = .str a := r1
    have e2 : v = .str b := r2
    subst e1; subst e2; subst e
    obtain ⟨u, w', rfl, ⟨t, rfl⟩, ⟨t', rfl⟩⟩ := vals2 r
    refine min_two_strs (I.ok.hd hc) fun h' tk k => ⟨_, H, I.kept k, ?_, po _ _ _ _ q rh (TM.refl H) rfl⟩
    by_cases hj : strLt b a = true
    · rw [if_pos hj, if_pos hj]; exact ⟨_, rfl⟩
    · rw [if_neg hj, if_neg hj]; exact ⟨_, rfl⟩
end
end Q7

namespace Q7
open PySem PySem.Spec PyProof.Rows L2

section
variable {X : Cx}
theorem CVor {f : Value} {r r' : List D → DH → DK → Prop} (h : CallR X f (CV r)) (h' : CallR X f (CV r')) : CallR X f (CV fun xs G Q => r xs G Q ∨ r' xs G Q) := by
  intro pins s σ H xs us Q I rs q
  obtain ⟨ds, G, Q1, r1, rh, q, p⟩ := q
  rcases q with q | q
  · exact h pins s σ H xs us Q I rs ⟨ds, G, Q1, r1, rh, q, p⟩
  · exact h' pins s σ H xs us Q I rs ⟨ds, G, Q1, r1, rh, q, p⟩
theorem CallR.imp {f : Value} {r r' : List V → Hp → VK → Prop} (h : CallR X f r) (i : ∀ xs H Q, r' xs H Q → r xs H Q) : CallR X f r' := by
  intro pins s σ H xs us Q I rs q
  exact h pins s σ H xs us Q I rs (i _ _ _ q)
theorem MtR.imp {f : String} {r r' : V → List V → Hp → VK → Prop} (h : MtR X f r) (i : ∀ x xs H Q, r' x xs H Q → r x xs H Q) : MtR X f r' := by
  intro pins s σ H x xs v us Q I rx rs q
  exact h pins s σ H x xs v us Q I rx rs (i _ _ _ _ q)
/-! ### len -/
def lenD (xs : List D) (G : DH) (Q : DK) : Prop :=
  (∃ a ds, xs = [.ref a] ∧ LstAt a ds G ∧ Q (.int ds.length) G) ∨ (∃ ds, xs = [.tup ds] ∧ Q (.int ds.length) G) ∨ (∃ z, xs = [.str z] ∧ z.length ≤ sizeLine ∧ Q (.int z.length) G) ∨
  ∃ a w kvs, xs = [.ref a] ∧ G.ob a = some (.dct w kvs) ∧ Q (.int kvs.length) G
theorem call_lenRd : CallR X (.builtin "len") (fun xs H Q => ∃ a kvs, xs = [V.ref a] ∧ Rd H a (.dK kvs) ∧ Q (.int kvs.length) H) := by
  intro pins s σ H xs us Q I r h
  obtain ⟨a, kvs, rfl, ha, q⟩ := h
  obtain ⟨u, rfl, ru⟩ := vals1 r
  cases ru
  exact d_len I ha fun t s' I' => ⟨.int kvs.length, H, I', ⟨t, rfl⟩, q⟩
theorem cr_len : CallR X (.builtin "len") (CV lenD) := CallR.imp (CallR.or call_len_seq (CallR.or call_len_str call_lenRd)) fun xs H Q ⟨ds, G, Q1, rv, rh, h, po⟩ => by
  rcases h with ⟨a, ds, ex, hl, q⟩ | ⟨ds, ex, q⟩ | ⟨z, ex, hz, q⟩ | ⟨a, w, kvs, ex, hg, q⟩
  · subst ex
    obtain ⟨u, e, r1⟩ := rvs1 rv
    have e1 : u = .ref a := r1
    subst e1; subst e
    obtain ⟨vs, hs, rvs⟩ := sq_at (K := X.K) rh hl
    refine .inl ⟨a, vs, rfl, .inl hs, ?_⟩
    rw [rvs.length]
    exact po _ _ _ _ q rh (TM.refl H) rfl
  · subst ex
    obtain ⟨u, e, p, vs, ep, hp, rvs⟩ := rvs1 rv
    subst ep; subst e
    refine .inl ⟨p, vs, rfl, .inr (SqT.of hp), ?_⟩
    rw [rvs.length]
    exact po _ _ _ _ q rh (TM.refl H) rfl
  · subst ex
    obtain ⟨u, e, r1⟩ := rvs1 rv
    have e1 : u = .str z := r1
    subst e1; subst e
    exact .inr (.inl ⟨z, rfl, hz, po _ _ _ _ q rh (TM.refl H) rfl⟩)
  · subst ex
    obtain ⟨u, e, r1⟩ := rvs1 rv
    have e1 : u = .ref a := r1
    subst e1; subst e
    obtain ⟨ws, hs, rk⟩ := rh.atDR hg
    refine .inr (.inr ⟨a, ws, rfl, hs, ?_⟩)
    rw [rk.length]
    exact po _ _ _ _ q rh (TM.refl H) rfl
/-! ### abs, int, bool, str of an int -/
def absD (xs : List D) (G : DH) (Q : DK) : Prop := ∃ i, xs = [.int i] ∧ Q (.int (if i < 0 then -i else i)) G
theorem cr_abs : CallR X (.builtin "abs") (CV absD) := CallR.imp call_abs fun xs H Q ⟨ds, G, Q1, rv, rh, ⟨i, ex, q⟩, po⟩ => by
  subst ex
  obtain ⟨u, e, r1⟩ := rvs1 rv
  have e1 : u = .int i := r1
  subst e1; subst e
  exact ⟨i, rfl, po _ _ _ _ q rh (TM.refl H) rfl⟩
def intD (xs : List D) (G : DH) (Q : DK) : Prop := (∃ i, xs = [.int i] ∧ Q (.int i) G) ∨ ∃ k, xs = [.bl k] ∧ Q (.int (if k then 1 else 0)) G
theorem cr_int : CallR X (.type "int") (CV intD) := CallR.imp call_int1 fun xs H Q ⟨ds, G, Q1, rv, rh, h, po⟩ => by
  rcases h with ⟨i, ex, q⟩ | ⟨k, ex, q⟩
  · subst ex
    obtain ⟨u, e, r1⟩ := rvs1 rv
    have e1 : u = .int i := r1
    subst e1; subst e
    exact .inl ⟨i, rfl, po _ _ _ _ q rh (TM.refl H) rfl⟩
  · subst ex
    obtain ⟨u, e, r1⟩ := rvs1 rv
    have e1 : u = .bl k := r1
    subst e1; subst e
    exact .inr ⟨k, rfl, po _ _ _ _ q rh (TM.refl H) rfl⟩
/-! ### sum, all, any, max, min of a list -/
def sumD (xs : List D) (G : DH) (Q : DK) : Prop := ∃ (a : Addr) (ns : List Int), xs = [.ref a] ∧ LstAt a (ns.map .int) G ∧ Q (.int ns.sum) G
theorem cr_sumD (hc : X.calm = true) : CallR X (.builtin "sum") (CV sumD) := CallR.imp (cr_sum hc) fun xs H Q ⟨ds, G, Q1, rv, rh, ⟨a, ns, ex, hl, q⟩, po⟩ => by
  subst ex
  obtain ⟨u, e, r1⟩ := rvs1 rv
  have e1 : u = .ref a := r1
  subst e1; subst e
  obtain ⟨vs, hs, rvs⟩ := sq_at (K := X.K) rh hl
  have e2 := rvs.map_int
  subst e2
  exact ⟨a, ns, rfl, hs, po _ _ _ _ q rh (TM.refl H) rfl⟩
def allD (xs : List D) (G : DH) (Q : DK) : Prop := ∃ (a : Addr) (bs : List Bool), xs = [.ref a] ∧ LstAt a (bs.map .bl) G ∧ Q (.bl (bs.all id)) G
theorem cr_allD (hc : X.calm = true) : CallR X (.builtin "all") (CV allD) := CallR.imp (cr_all hc) fun xs H Q ⟨ds, G, Q1, rv, rh, ⟨a, ns, ex, hl, q⟩, po⟩ => by
  subst ex
  obtain ⟨u, e, r1⟩ := rvs1 rv
  have e1 : u = .ref a := r1
  subst e1; subst e
  obtain ⟨vs, hs, rvs⟩ := sq_at (K := X.K) rh hl
  have e2 := rvs.map_bl
  subst e2
  exact ⟨a, ns, rfl, hs, po _ _ _ _ q rh (TM.refl H) rfl⟩
def anyD (xs : List D) (G : DH) (Q : DK) : Prop := ∃ (a : Addr) (bs : List Bool), xs = [.ref a] ∧ LstAt a (bs.map .bl) G ∧ Q (.bl (bs.any id)) G
theorem cr_anyD (hc : X.calm = true) : CallR X (.builtin "any") (CV anyD) := CallR.imp (cr_any hc) fun xs H Q ⟨ds, G, Q1, rv, rh, ⟨a, ns, ex, hl, q⟩, po⟩ => by
  subst ex
  obtain ⟨u, e, r1⟩ := rvs1 rv
  have e1 : u = .ref a := r1
  subst e1; subst e
  obtain ⟨vs, hs, rvs⟩ := sq_at (K := X.K) rh hl
  have e2 := rvs.map_bl
  subst e2
  exact ⟨a, ns, rfl, hs, po _ _ _ _ q rh (TM.refl H) rfl⟩
/-! ### list, tuple, dict -/
def listD (xs : List D) (G : DH) (Q : DK) : Prop :=
  (∃ ds, ((∃ a, xs = [.ref a] ∧ LstAt a ds G) ∨ xs = [.tup ds]) ∧ ∀ p, G.ob p = none → Q (.ref p) (G.put p (.lst true ds))) ∨
  ∃ a w kvs, xs = [.ref a] ∧ G.ob a = some (.dct w kvs) ∧ ∀ p, G.ob p = none → Q (.ref p) (G.put p (.lst true (kvs.map fun kv => kD kv.1)))
theorem keys_rvs {H : Hp} : ∀ {kvs : List (Key × D)} {ws : List (Key × V)}, RKs H kvs ws → RVs H (kvs.map fun kv => kD kv.1) (ws.map fun kv => kV kv.1)
  | [], ws, h => by
    have e : ws = [] := h
    subst e
    exact RVs.nil
  | p :: kvs, ws, h => by
    obtain ⟨v, r, e, h1, h2⟩ := h
    subst e
    refine RVs.cons ?_ (keys_rvs h2)
    show RV H (kD p.1) (kV p.1)
    cases p.1 <;> rfl
theorem cr_list (hc : X.calm = true) : CallR X (.type "list") (CV listD) := CallR.imp (CallR.or call_list_of (call_listD hc)) fun xs H Q ⟨ds, G, Q1, rv, rh, h, po⟩ => by
  rcases h with ⟨ds, hx, q⟩ | ⟨a, w, kvs, ex, hg, q⟩
  · rcases hx with ⟨a, ex, hl⟩ | ex
    · subst ex
      obtain ⟨u, e, r1⟩ := rvs1 rv
      have e1 : u = .ref a := r1
      subst e1; subst e
      obtain ⟨vs, hs, rvs⟩ := sq_at (K := X.K) rh hl
      exact .inl ⟨a, vs, rfl, .inl hs, fun l hn => po _ _ _ _ (q l (rh.free hn)) (rh.newL hn rvs) (TM.new hn) rfl⟩
    · subst ex
      obtain ⟨u, e, p, vs, ep, hp, rvs⟩ := rvs1 rv
      subst ep; subst e
      exact .inl ⟨p, vs, rfl, .inr (SqT.of hp), fun l hn => po _ _ _ _ (q l (rh.free hn)) (rh.newL hn rvs) (TM.new hn) rfl⟩
  · subst ex
    obtain ⟨u, e, r1⟩ := rvs1 rv
    have e1 : u = .ref a := r1
    subst e1; subst e
    obtain ⟨ws, hs, rk⟩ := rh.atDR hg
    exact .inr ⟨a, ws, rfl, hs, fun l hn => po _ _ _ _ (q l (rh.free hn)) (rh.newL hn (keys_rvs rk)) (TM.new hn) rfl⟩
def tupD (xs : List D) (G : DH) (Q : DK) : Prop := ∃ ds, ((∃ a, xs = [.ref a] ∧ LstAt a ds G) ∨ xs = [.tup ds]) ∧ Q (.tup ds) G
theorem cr_tuple : CallR X (.type "tuple") (CV tupD) := CallR.imp call_tuple_of fun xs H Q ⟨ds, G, Q1, rv, rh, ⟨ds', hx, q⟩, po⟩ => by
  rcases hx with ⟨a, ex, hl⟩ | ex
  · subst ex
    obtain ⟨u, e, r1⟩ := rvs1 rv
    have e1 : u = .ref a := r1
    subst e1; subst e
    obtain ⟨vs, hs, rvs⟩ := sq_at (K := X.K) rh hl
    exact ⟨a, vs, rfl, .inl ⟨hs, fun l hn => po _ _ _ _ q (rh.keep (keep_new hn)) (TM.new hn) ⟨l, vs, rfl, upd_same, RVs.mono (TM.new hn) _ _ rvs⟩⟩⟩
  · subst ex
    obtain ⟨u, e, p, vs, ep, hp, rvs⟩ := rvs1 rv
    subst ep; subst e
    exact ⟨p, vs, rfl, .inr ⟨SqT.of hp, po _ _ _ _ q rh (TM.refl H) ⟨p, vs, rfl, hp, rvs⟩⟩⟩
def dictD (xs : List D) (G : DH) (Q : DK) : Prop :=
  (∃ a kvs, xs = [.ref a] ∧ LstAt a (kvs.map fun p : Key × D => .tup [kD p.1, p.2]) G ∧ ∀ p, G.ob p = none → Q (.ref p) (G.put p (.dct true (mergeA [] kvs)))) ∨
  ∃ a w kvs, xs = [.ref a] ∧ G.ob a = some (.dct w kvs) ∧ ∀ p, G.ob p = none → Q (.ref p) (G.put p (.dct true kvs))
theorem pairs_rvs {K : PySem.W.Frag} {H : Hp} : ∀ {kvs : List (Key × D)} {vs : List V}, RVs H (kvs.map fun p : Key × D => .tup [kD p.1, p.2]) vs → ∃ (ps : List Addr) (ws : List (Key × V)), vs = ps.map V.ref ∧ RKs H kvs ws ∧ Paired (fun p kv => SqT K H p [kV kv.1, kv.2]) ps ws
  | [], vs, h => by
    have e : vs = [] := h
    subst e
    exact ⟨[], [], rfl, rfl, .nil⟩
  | p :: kvs, vs, h => by
    obtain ⟨v, r, e, ⟨a, us, ea, ha, hu⟩, h2⟩ := h
    subst e; subst ea
    obtain ⟨x, y, e, r1, r2⟩ := rvs2 hu
    subst e
    obtain ⟨ps, ws, e1, e2, e3⟩ := pairs_rvs (K := K) h2
    refine ⟨a :: ps, (p.1, y) :: ws, by rw [e1]; rfl, ⟨y, ws, rfl, r2, e2⟩, .cons ?_ e3⟩
    have := kD_rv r1
    rw [← this]
    exact SqT.of ha
theorem cr_dict (hc : X.calm = true) : CallR X (.type "dict") (CV dictD) := CallR.imp (CallR.or (call_dictP hc) call_dictD) fun xs H Q ⟨ds, G, Q1, rv, rh, h, po⟩ => by
  rcases h with ⟨a, kvs, ex, hl, q⟩ | ⟨a, w, kvs, ex, hg, q⟩
  · subst ex
    obtain ⟨u, e, r1⟩ := rvs1 rv
    have e1 : u = .ref a := r1
    subst e1; subst e
    obtain ⟨vs, hs, rvs⟩ := sq_at (K := X.K) rh hl
    obtain ⟨ps, ws, e1, rk, pr⟩ := pairs_rvs (K := X.K) rvs
    subst e1
    exact .inl ⟨a, ps, ws, rfl, hs, pr, fun l hn => po _ _ _ _ (q l (rh.free hn)) (rh.newD hn (RKs.merge rk RKs.nil)) (TM.new hn) rfl⟩
  · subst ex
    obtain ⟨u, e, r1⟩ := rvs1 rv
    have e1 : u = .ref a := r1
    subst e1; subst e
    obtain ⟨ws, hs, rk⟩ := rh.atDR hg
    exact .inr ⟨a, ws, rfl, hs, fun l hn => po _ _ _ _ (q l (rh.free hn)) (rh.newD hn rk) (TM.new hn) rfl⟩
/-! ### methods -/
def appD (x : D) (xs : List D) (G : DH) (Q : DK) : Prop := ∃ a ds y, x = .ref a ∧ xs = [y] ∧ G.ob a = some (.lst true ds) ∧ ds.length < sizeLine ∧ Q .non (G.put a (.lst true (ds ++ [y])))
theorem md_append : MtR X "list.append" (MV appD) := MtR.imp mt_append fun x xs H Q ⟨d, ds0, G, Q1, r1, r2, rh, ⟨a, ds, y, ex, exs, hg, hl, q⟩, po⟩ => by
  subst ex; subst exs
  obtain ⟨u, e, r3⟩ := rvs1 r2
  have e1 : x = .ref a := r1
  subst e1; subst e
  obtain ⟨vs, hh, rvs⟩ := rh.atL hg
  exact ⟨a, vs, u, rfl, rfl, hh, by rw [rvs.length]; exact hl, po _ _ _ _ q (rh.writeL hg hh (rvs.append (RVs.cons r3 RVs.nil))) (rh.write_tm hg hh) rfl⟩
def extD (x : D) (xs : List D) (G : DH) (Q : DK) : Prop := ∃ a b ds es, x = .ref a ∧ xs = [.ref b] ∧ G.ob a = some (.lst true ds) ∧ G.ob b = some (.lst true es) ∧ ds.length + es.length ≤ sizeLine ∧ Q .non (G.put a (.lst true (ds ++ es)))
theorem md_extend : MtR X "list.extend" (MV extD) := MtR.imp mt_extend fun x xs H Q ⟨d, ds0, G, Q1, r1, r2, rh, ⟨a, b, ds, es, ex, exs, hg, hb, hl, q⟩, po⟩ => by
  subst ex; subst exs
  obtain ⟨u, e, r3⟩ := rvs1 r2
  have e1 : x = .ref a := r1
  have e2 : u = .ref b := r3
  subst e1; subst e2; subst e
  obtain ⟨vs, hh, rvs⟩ := rh.atL hg
  obtain ⟨us, hh2, rus⟩ := rh.atL hb
  exact ⟨a, b, vs, us, rfl, rfl, hh, hh2, by rw [rvs.length, rus.length]; exact hl, po _ _ _ _ q (rh.writeL hg hh (rvs.append rus)) (rh.write_tm hg hh) rfl⟩
theorem RVs.dropLast {H : Hp} {ds : List D} {vs : List V} (h : RVs H ds vs) : RVs H ds.dropLast vs.dropLast := by
  rw [List.dropLast_eq_take, List.dropLast_eq_take, h.length]
  exact h.take _
def popD (x : D) (xs : List D) (G : DH) (Q : DK) : Prop :=
  (∃ a ds y, x = .ref a ∧ xs = [] ∧ G.ob a = some (.lst true ds) ∧ ds[ds.length - 1]? = some y ∧ Q y (G.put a (.lst true ds.dropLast))) ∨
  ∃ a ds i k y, x = .ref a ∧ xs = [.int i] ∧ G.ob a = some (.lst true ds) ∧ -(2 ^ 63) ≤ i ∧ i < 2 ^ 63 ∧ seqIndex? i ds.length = some k ∧ ds[k]? = some y ∧ Q y (G.put a (.lst true (ds.eraseIdx k)))
theorem md_pop : MtR X "list.pop" (MV popD) := MtR.imp (MtR.or mt_pop mt_popAt) fun x xs H Q ⟨d, ds0, G, Q1, r1, r2, rh, h, po⟩ => by
  rcases h with ⟨a, ds, y, ex, exs, hg, hy, q⟩ | ⟨a, ds, i, k, y, ex, exs, hg, b1, b2, hk, hy, q⟩
  · subst ex; subst exs
    have e1 : x = .ref a := r1
    have e2 : xs = [] := r2
    subst e1; subst e2
    obtain ⟨vs, hh, rvs⟩ := rh.atL hg
    obtain ⟨v, hv, rv⟩ := rvs.get hy
    have tw := rh.write_tm (u := .lst vs.dropLast) hg hh
    exact .inl ⟨a, vs, v, rfl, rfl, hh, by rw [rvs.length]; exact hv, po _ _ _ _ q (rh.writeL hg hh rvs.dropLast) tw (RV.mono tw _ _ rv)⟩
  · subst ex; subst exs
    obtain ⟨u, e, r3⟩ := rvs1 r2
    have e1 : x = .ref a := r1
    have e2 : u = .int i := r3
    subst e1; subst e2; subst e
    obtain ⟨vs, hh, rvs⟩ := rh.atL hg
    obtain ⟨v, hv, rv⟩ := rvs.get hy
    have tw := rh.write_tm (u := .lst (vs.eraseIdx k)) hg hh
    exact .inr ⟨a, vs, i, k, v, rfl, rfl, hh, b1, b2, by rw [rvs.length]; exact hk, hv, po _ _ _ _ q (rh.writeL hg hh (rvs.eraseIdx k)) tw (RV.mono tw _ _ rv)⟩
def joinD (x : D) (xs : List D) (G : DH) (Q : DK) : Prop := ∃ (z : Str) (a : Addr) (ys : List Str), x = .str z ∧ xs = [.ref a] ∧ LstAt a (ys.map .str) G ∧ (ys.map (·.length)).sum + ys.length * z.length ≤ 16777216 ∧ Q (.str (Txt.join z ys)) G
theorem md_join : MtR X "str.join" (MV joinD) := MtR.imp mt_join fun x xs H Q ⟨d, ds0, G, Q1, r1, r2, rh, ⟨z, a, ys, ex, exs, hl, hz, q⟩, po⟩ => by
  subst ex; subst exs
  obtain ⟨u, e, r3⟩ := rvs1 r2
  have e1 : x = .str z := r1
  have e2 : u = .ref a := r3
  subst e1; subst e2; subst e
  obtain ⟨vs, hs, rvs⟩ := sq_at (K := X.K) rh hl
  have e2 := rvs.map_str
  subst e2
  exact ⟨z, a, ys, rfl, rfl, .inl hs, hz, po _ _ _ _ q rh (TM.refl H) rfl⟩
end
/-! ### sum(o.values()) -/
section
variable {X : Cx} {B : Hp} {o : Expr} {p pos apos mpos : Pos} {td : TE}
def tSumVals (td : TE) : TE := fun σ H Q => td σ H fun x H1 => ∃ (a : Addr) (kvs : List (Key × V)) (is : List Int), x = V.ref a ∧ Rd H1 a (.dK kvs) ∧ kvs.map (·.2) = is.map V.int ∧ Q (.int is.sum) H1
theorem preSum_getD : ∀ ns : List Int, preSum (fun i => ns.getD i 0) ns.length = ns.sum
  | [] => rfl
  | p :: c => by
    show preSum (fun i => (p :: c).getD i 0) (c.length + 1) = (p :: c).sum
    rw [PySem.W.kdu_shift, List.sum_cons, ← preSum_getD c]
    rfl
theorem pe_sumVals (hc : X.calm = true) (hg : Gl X "sum") (hm : X.mg "sum" = none) (hd : PE X o td) (hbase : attributeBase o "values" X.env (eval o X.env) = eval o X.env := by rfl) (hline : (apos.endLine == mpos.line) = true := by rfl)
    (hse : starEach [Expr.Call (.Attribute o "values" apos) [] [] mpos] X.env = [(false, eval (Expr.Call (.Attribute o "values" apos) [] [] mpos) X.env)] := by rfl) :
    PE X (.Call (.Name "sum" p) [.Call (.Attribute o "values" apos) [] [] mpos] [] pos) (tSumVals td) := by
  refine ⟨fun pins s σ H Q I h => ?_⟩
  refine wpAny_Call_Name_kw (ld_blt I hg hm boot_sum ?_)
  rw [hse]
  refine PySem.callWith_builtin1 (wpAny_Call_method0_late hbase hline (thn (hd.run pins s σ H _ I h) fun v s1 ⟨x, H1, I1, r1, a, kvs, is, ex, ha, hv, q⟩ => ?_))
  subst ex
  obtain rfl : v = Value.ref a := r1
  obtain ⟨_, hsys, vs, rel, dof⟩ := dk_rd I1.hok ha
  obtain ⟨ep, dat⟩ := dof.dictAt
  have dat' := dat
  obtain ⟨ob, es, ho, ex, hdat, hko, hpr, hnd⟩ := dat'
  refine ⟨"dict", "dict.values", F.plainAttrs_dict, F.slot_dict_values, F.type_dict_values, ⟨ob, ho, ex.1⟩, fun b e => ?_, Calls.callWith_builtin rfl (PySem.evalArgs_none ?_)⟩
  · cases e
    exact ⟨ob, ho, ex.2.1⟩
  refine call_meetsIn F.slot_dict_values ⟨ob, ho, ex.1⟩ F.entry_dict_values (F.args_dict_values_1 _) (meets_dict_values (mixKind X.prog X.w) a hsys) ⟨⟨vs, dof⟩, ?_⟩
  have k1 : ∀ b u, s1.heap.get? b = some u → (s1.heap.push { cls := .type "dict_values", data := .fields #[.ref a] }).get? b = some u := fun b u e => Heap.get?_push_of_some _ e
  have dat1 : (s1.heap.push { cls := .type "dict_values", data := .fields #[.ref a] }).DictAt (mixKind X.prog X.w) a vs ep := dat.keep k1
  have hlv : vs.length = is.length := by
    have e1 := congrArg List.length hv
    rw [List.length_map, List.length_map] at e1
    rw [← e1]
    exact (KV.length rel).symm
  have hval : ∀ (i : Nat) (v : Value), (∃ k, vs[i]? = some (k, v)) → ∃ t, v = Value.int (is.getD i 0) t := fun i v ⟨k, hk⟩ => by
    obtain ⟨x, h1, h2⟩ := KV.at' rel hk
    have e1 : (kvs.map (·.2))[i]? = some x := by rw [List.getElem?_map, h1] <;> rfl
    rw [hv, List.getElem?_map] at e1
    obtain ⟨j, hj, e2⟩ := Option.map_eq_some_iff.mp e1
    subst e2
    obtain ⟨t, e3⟩ := h2
    refine ⟨t, ?_⟩
    rw [e3, List.getD_eq_getElem?_getD, hj] <;> rfl
  have hlt : a < s1.heap.objs.size := Heap.lt_size ho
  have hsz : (s1.heap.push { cls := .type "dict_values", data := .fields #[.ref a] }).objs.size = s1.heap.objs.size + 1 := Heap.size_push _ _
  refine call_sum_walkAnyS (wpAny_pyIter_values (v := s1.heap.objs.size) (d := a) ⟨_, Heap.get?_push_size _ rfl, rfl, rfl⟩ dat1 ?_)
  refine ⟨_, _, _, _, _, _, _, (fun i => is.getD i 0), rfl, (Walks.dictValues (knd := mixKind X.prog X.w) (A := X.A.in1) (I.ok.hd hc) (s1.heap.push { cls := .type "dict_values", data := .fields #[.ref a] }).objs.size a (by rw [hsz]; exact Nat.ne_of_lt (Nat.lt_succ_of_lt hlt)) vs ep).toS,
    ⟨⟨_, Heap.get?_push_size _ rfl, rfl, rfl⟩, dat1.keep fun b u e => Heap.get?_push_of_some _ e⟩, fun b hb => ?_, hval, fun s' t' hm' => ?_⟩
  · show b < ((s1.heap.push _).push _).objs.size
    rw [Heap.size_push, Heap.size_push]
    rw [hsz] at hb
    rcases List.mem_cons.mp hb with e | hb
    · rw [e]
      exact Nat.lt_succ_self _
    · have e : b = a := List.mem_singleton.mp hb
      rw [e]
      exact Nat.lt_succ_of_lt (Nat.lt_succ_of_lt hlt)
  · have hk : ∀ b o, s1.heap.get? b = some o → s'.heap.get? b = some o := fun b o e =>
      hm'.heap b o (fun hI => by
        have e1 : b = (s1.heap.push { cls := .type "dict_values", data := .fields #[.ref a] }).objs.size := List.mem_singleton.mp hI
        have e2 := Heap.lt_size e
        rw [hsz] at e1
        rw [e1] at e2
        exact absurd e2 (Nat.not_lt.mpr (Nat.le_succ _))) (Heap.get?_push_of_some _ (k1 b o e))
    rw [Moved.eq_with hm']
    rw [hlv, preSum_getD]
    exact ⟨.int is.sum, H1, I1.kept (t' := s'.toks) hk, ⟨_, rfl⟩, q⟩
def wSumVals (w : WE) : WE := fun δ G Q => w δ G fun x G1 => ∃ (a : Addr) (wr : Bool) (kvs : List (Key × D)) (ns : List Int), x = .ref a ∧ G1.ob a = some (.dct wr kvs) ∧ kvs.map (·.2) = ns.map D.int ∧ Q (.int ns.sum) G1
theorem ev_sumVals {w : WE} (hc : X.calm = true) (hg : Gl X "sum") (hm : X.mg "sum" = none) (hd : PE X o (EV B w)) (hbase : attributeBase o "values" X.env (eval o X.env) = eval o X.env := by rfl) (hline : (apos.endLine == mpos.line) = true := by rfl)
    (hse : starEach [Expr.Call (.Attribute o "values" apos) [] [] mpos] X.env = [(false, eval (Expr.Call (.Attribute o "values" apos) [] [] mpos) X.env)] := by rfl) :
    PE X (.Call (.Name "sum" p) [.Call (.Attribute o "values" apos) [] [] mpos] [] pos) (EV B (wSumVals w)) :=
  (pe_sumVals hc hg hm hd hbase hline hse).imp fun σ H Q ⟨δ, G, Q1, t, re, rh, h, p⟩ => ⟨δ, G, _, t, re, rh, h, fun x G1 H1 v ⟨a, wr, kvs, ns, ex, ha, hv, q⟩ rh1 t1 rv => by
    subst ex
    obtain ⟨ws, hs, rk⟩ := rh1.atDR ha
    refine ⟨a, ws, ns, rv, hs, ?_, p _ _ _ _ q rh1 t1 rfl⟩
    have := rk.vals
    rw [hv] at this
    exact this.map_int⟩
/-! ### for x in o.values() -/
def wiVals (w : WE) : WI := fun δ G R => w δ G fun x G1 => ∃ a kvs, x = .ref a ∧ FrzAt a kvs G1 ∧ R (FrzAt a kvs) (kvs.map (·.2)) G1
theorem itd_ok {d : Addr} {o : Obj} {kvs : List (Key × D)} {ws : List (Key × V)} {H0 : Hp} (frz : H0 d = some (.frz o (.dK ws))) (hr : RKs H0 kvs ws) : ItOk H0 (Itd d o ws) (FrzAt d kvs) (kvs.map (·.2)) := fun G H t rh hS => by
  have hd := t.2 _ _ _ frz
  have hl : ws.length = kvs.length := hr.length
  have hr' := RKs.mono t _ _ hr
  refine ⟨⟨hd, by rw [List.length_map, hl]; exact Nat.le_refl _⟩, fun i hi => ?_⟩
  rw [List.length_map] at hi
  refine ⟨⟨hd, by omega⟩, fun x H' ⟨e, k, hk⟩ => ?_⟩
  subst e
  obtain ⟨v', hv', rv⟩ := hr'.get (List.getElem?_eq_getElem hi)
  rw [hk] at hv'
  have ev : x = v' := by cases hv'; rfl
  subst ev
  exact ⟨rh, TM.refl _, _, by rw [List.getElem?_map, List.getElem?_eq_getElem hi]; rfl, rv⟩
theorem iv_vals {tg e : Expr} {w : WE} {cpos : Pos} (he : PE X e (EV B w)) (hbase : attributeBase e "values" X.env (eval e X.env) = eval e X.env := by rfl) (hline : (apos.endLine == cpos.line) = true := by rfl) : PI X tg (.Call (.Attribute e "values" apos) [] [] cpos) (IV B (wiVals w)) :=
  (pi_values he hbase hline).imp fun σ H R ⟨δ, G, Q1, t, re, rh, h, k⟩ => ⟨δ, G, _, t, re, rh, h, fun x G1 H1 v ⟨a, kvs, ex, hf, h1⟩ rh1 t1 rv => by
    subst ex
    obtain ⟨o, ws, hd, rk⟩ := rh1.atF hf
    exact ⟨a, o, ws, rv, hd, k _ _ _ _ _ h1 rh1 t1 (itd_ok hd rk)⟩⟩
end
end Q7

namespace Q7
open PySem PySem.Spec PyProof.Rows L2

/-! ### isinstance -/
/-- what isinstance and == ask of an own class, besides Cls -/
abbrev CIsi := SlX.SIsi
def TyN (x : D) (G : DH) (T : String) : Prop :=
  match x with
  | .non => T = "NoneType"
  | .bl _ => T = "bool"
  | .int _ => T = "int"
  | .str _ => T = "str"
  | .tup _ => T = "tuple"
  | .ty _ => False
  | .ref a => match G.ob a with
    | some (.lst _ _) => T = "list"
    | some (.dct _ _) => T = "dict"
    | _ => False
def TyI (K : PySem.W.Frag) (x : D) (G : DH) (t : Value) : Prop := (∃ T, TyN x G T ∧ t = .type T) ∨ ∃ a C fs, x = .ref a ∧ G.ob a = some (.ins C fs) ∧ Cls K C ∧ CIsi K C ∧ t = .ref C
inductive ClD : D → Value → Prop where
  | ty (T : String) : ClD (.ty T) (.type T)
  | own (C : Addr) : ClD (.ref C) (.ref C)
theorem TyN.ok {K : PySem.W.Frag} {H : Hp} {G : DH} {x : D} {v : V} {T : String} (rh : RH H G) (rv : RV H x v) (h : TyN x G T) : TyX K H v (.type T) := by
  cases x with
  | non => have e : T = _ := h; subst e; have e : v = _ := rv; subst e; exact .base .non
  | bl b => have e : T = _ := h; subst e; have e : v = _ := rv; subst e; exact .base (.bl b)
  | int i => have e : T = _ := h; subst e; have e : v = _ := rv; subst e; exact .base (.int i)
  | str z => have e : T = _ := h; subst e; have e : v = _ := rv; subst e; exact .base (.str z)
  | ty n => exact h.elim
  | tup ds =>
    have e : T = _ := h
    subst e
    obtain ⟨p, vs, e, hp, _⟩ := rv
    subst e
    exact .base (.tup hp)
  | ref a =>
    have e : v = .ref a := rv
    subst e
    have h : (match G.ob a with
      | some (.lst _ _) => T = "list"
      | some (.dct _ _) => T = "dict"
      | _ => False) := h
    cases hg : G.ob a with
    | none => rw [hg] at h; exact h.elim
    | some o =>
      rw [hg] at h
      have ro := rh.ob a o hg
      cases o with
      | lst w ds =>
        have e : T = _ := h
        subst e
        cases w with
        | true => obtain ⟨vs, h1, _⟩ := ro; exact .base (.lst h1)
        | false =>
          obtain ⟨vs, h1 | ⟨o, h1⟩, _⟩ := ro
          · exact .base (.lst h1)
          · exact .base (.frz h1)
      | dct w kvs =>
        have e : T = _ := h
        subst e
        cases w with
        | true => obtain ⟨vs, h1, _⟩ := ro; exact .base (.dK h1)
        | false => obtain ⟨o, vs, h1, _⟩ := ro; exact .fDict h1
      | ins C fs => exact h.elim
theorem TyI.ok {K : PySem.W.Frag} {H : Hp} {G : DH} {x : D} {v : V} {t : Value} (rh : RH H G) (rv : RV H x v) (h : TyI K x G t) : TyX K H v t := by
  rcases h with ⟨T, h, e⟩ | ⟨a, C, fs, ex, hg, c, i, e⟩
  · subst e; exact h.ok rh rv
  · subst e; subst ex
    have e : v = .ref a := rv
    subst e
    obtain ⟨dx, ws, hh, _⟩ := rh.atI hg
    exact .base (.ins hh c i.ca i.cn i.ct i.cm)
def isD (K : PySem.W.Frag) (xs : List D) (G : DH) (Q : DK) : Prop :=
  (∃ x c t u b, xs = [x, c] ∧ TyI K x G t ∧ ClD c u ∧ PySem.W.kitOne K t u = some b ∧ Q (.bl b) G) ∨
  ∃ x cs t us b, xs = [x, .tup cs] ∧ TyI K x G t ∧ Paired ClD cs us ∧ PySem.W.kitAny K t us = some b ∧ Q (.bl b) G
theorem ClD.v {H : Hp} {c : D} {v : V} {u : Value} (h : ClD c u) (r : RV H c v) : ClsV v u := by
  cases h with
  | ty T => have e : v = .ty T := r; subst e; exact .ty T
  | own C => have e : v = .ref C := r; subst e; exact .own C
theorem ClD.vs {H : Hp} : ∀ {cs : List D} {vs : List V} {us : List Value}, Paired ClD cs us → RVs H cs vs → Paired ClsV vs us
  | _, vs, _, .nil, r => by
    have e : vs = [] := r
    subst e
    exact .nil
  | _, vs, _, .cons h t, r => by
    obtain ⟨v, r', e, h1, h2⟩ := r
    subst e
    exact .cons (h.v h1) (ClD.vs t h2)
theorem cr_isi {X : Cx} : CallR X (.builtin "isinstance") (CV (isD X.K)) := CallR.imp (CallR.or call_isi call_isiT) fun xs H Q ⟨ds, G, Q1, rv, rh, h, po⟩ => by
  rcases h with ⟨x, c, t, u, b, ex, ty, cl, k, q⟩ | ⟨x, cs, t, us, b, ex, ty, cl, k, q⟩
  · subst ex
    obtain ⟨v, v2, e, r1, r2⟩ := rvs2 rv
    subst e
    exact .inl ⟨v, v2, t, u, b, rfl, cl.v r2, ty.ok rh r1, k, po _ _ _ _ q rh (TM.refl H) rfl⟩
  · subst ex
    obtain ⟨v, v2, e, r1, p, vs, e2, hp, rvs⟩ := rvs2 rv
    subst e; subst e2
    exact .inr ⟨v, p, vs, t, us, b, rfl, hp, ClD.vs cl rvs, ty.ok rh r1, k, po _ _ _ _ q rh (TM.refl H) rfl⟩
/-- built-in ones -/
def kitAnyB (a : String) : List String → Option Bool
  | [] => some false
  | b :: r => match kitB a b with
    | some true => some true
    | some false => kitAnyB a r
    | none => none
theorem kitAnyB_ok {K : PySem.W.Frag} {a : String} : ∀ {bs : List String} {r : Bool}, kitAnyB a bs = some r → PySem.W.kitAny K (.type a) (bs.map Value.type) = some r
  | [], r, h => h
  | b :: bs, r, h => by
    have h' : (match kitB a b with
      | some true => some true
      | some false => kitAnyB a bs
      | none => none) = some r := h
    show (match PySem.W.kitOne K (.type a) (.type b) with
      | some true => some true
      | some false => PySem.W.kitAny K (.type a) (bs.map Value.type)
      | none => none) = some r
    cases hk : kitB a b with
    | none => rw [hk] at h'; cases h'
    | some c =>
      rw [hk] at h'
      rw [kit_ty hk]
      cases c with
      | true => exact h'
      | false => exact kitAnyB_ok h'
theorem isD_ty {K : PySem.W.Frag} {x : D} {T T' : String} {b : Bool} {G : DH} {Q : DK} (h : TyN x G T) (k : kitB T T' = some b) (q : Q (.bl b) G) : isD K [x, .ty T'] G Q :=
  .inl ⟨x, _, _, _, b, rfl, .inl ⟨T, h, rfl⟩, .ty T', kit_ty k, q⟩
theorem isD_tys {K : PySem.W.Frag} {x : D} {T : String} {Ts : List String} {b : Bool} {G : DH} {Q : DK} (h : TyN x G T) (k : kitAnyB T Ts = some b) (q : Q (.bl b) G) : isD K [x, .tup (Ts.map .ty)] G Q := by
  refine .inr ⟨x, _, _, _, b, rfl, .inl ⟨T, h, rfl⟩, ?_, kitAnyB_ok k, q⟩
  clear k
  induction Ts with
  | nil => exact .nil
  | cons a r ih => exact .cons (.ty a) ih
theorem isD_own {K : PySem.W.Frag} {a C : Addr} {fs : List (Str × D)} {G : DH} {Q : DK} (c : Cls K C) (i : CIsi K C) (h : G.ob a = some (.ins C fs)) (q : Q (.bl true) G) : isD K [.ref a, .ref C] G Q :=
  .inl ⟨_, _, .ref C, .ref C, true, rfl, .inr ⟨a, C, fs, rfl, h, c, i, rfl⟩, .own C, by unfold PySem.W.kitOne; rw [if_pos (beq_self_eq_true _)], q⟩
/-! ### == by an own def -/
section
variable {X : Cx} {B : Hp} {a b : Expr} {pos : Pos} {wa wb : WE}
structure OwnM (P : Program) (w : World) (K : PySem.W.Frag) (mg : Str → Option Value) (base : Heap) (C : Addr) (m : Str) (ps : List Str) (k : Nat) (sp : DSp) : Prop where
  ex : ∃ f fd, PySem.W.findIn K (.ref C) m = some (some (.ref f)) ∧ PySem.W.isFn K (.ref f) = true ∧ Binds K fd ps [] ∧ FnOk P w K mg base CX0 k f fd ps (SPV sp)
def dOwn (C : Addr) (sp : DSp) : D → D → DH → DK → Prop := fun x y G Q => ∃ a fs b gs, x = .ref a ∧ y = .ref b ∧ G.ob a = some (.ins C fs) ∧ G.ob b = some (.ins C gs) ∧ sp [x, y] G Q DX0
theorem ov_own {C : Addr} {m : Str} {ps : List Str} {k j : Nat} {sp : DSp} (op : CmpOp) (hop : ∀ a b, compareOp op a b = richCompare op a b) (hs : (cmpInfo op).2.1 = m) (F : OwnM X.prog X.w X.K X.mg X.base C m ps k sp) (hn : PySem.W.notFirst X.K C (.ref C) = true) (hr : Room j X.A) (hkj : k ≤ j := by decide) : OpR X (compareOp op) (OV (dOwn C sp)) := by
  intro pins s σ H x y v u Q I rx ry h
  obtain ⟨dx, dy, G, Q1, r1, r2, rh, ⟨a, fs, b, gs, ex, ey, ha, hb, q⟩, po⟩ := h
  subst ex; subst ey
  have e1 : x = .ref a := r1
  have e2 : y = .ref b := r2
  subst e1; subst e2
  cases (show v = Value.ref a from rx)
  cases (show u = Value.ref b from ry)
  obtain ⟨f, fd, hf, hi, hbd, hok⟩ := F.ex
  obtain ⟨dxa, wsa, hha, _⟩ := rh.atI ha
  obtain ⟨dxb, wsb, hhb, _⟩ := rh.atI hb
  obtain ⟨mA, O, _⟩ := ins_get I.hok hha
  obtain ⟨od, J, _⟩ := O.look
  obtain ⟨mB, O', _⟩ := ins_get I.hok hhb
  obtain ⟨od', J', _⟩ := O'.look
  obtain ⟨m', hF⟩ := I.fr
  rw [hop]
  have hr' := hr.mono hkj
  refine PySem.W.cmp_K (op := op) (tb := .ref C) hr'.units0 hF I.ok.mod.kin J J'.type hn (by rw [hs]; exact hf) hi ?_
  refine wpAny_mono (run_fn (Q := Q) (us := [.ref a, .ref b]) (vs := [.ref a, .ref b]) (E := E0) hok hr' hbd .nil pass0 I (.cons rfl (.cons rfl .nil)) ?_) (fun w s' z => ?_) fun _ _ x => x
  · show SPV sp ([.ref a, .ref b] ++ []) H Q E0
    exact ⟨_, G, Q1, DX0, RVs.cons (d := .ref a) (v := .ref a) rfl (RVs.cons (d := .ref b) (v := .ref b) rfl RVs.nil), rh, q, po, PostX.zero⟩
  · obtain ⟨z', H', I', rz, qz⟩ := z
    exact SlX.cmpback rz ⟨z', H', I', rz, qz⟩
end
/-! ### three names at once -/
section
variable {X : Cx} {B : Hp} {a b c : Expr} {pos : Pos} {wa wb wc : WE}
theorem sv_par3 {i j l : Nat} {x y z : Str} {px py pz pt : Pos} {kt k2 pt2} (hc : X.calm = true) (hN : X.N.Nodup) (ha : PA X [a, b, c] (AV B (wCons wa (wCons wb (wCons wc wNil))))) (hi : X.N[i]? = some x := by rfl) (hj : X.N[j]? = some y := by rfl) (hl : X.N[l]? = some z := by rfl) (hij : i ≠ j := by decide) (hil : i ≠ l := by decide) (hjl : j ≠ l := by decide)
    (hx : X.env.scope.names.lookup x = some .local := by rfl) (hy : X.env.scope.names.lookup y = some .local := by rfl) (hz : X.env.scope.names.lookup z = some .local := by rfl)
    (hw : swappedStores [.Tuple [.Name x px, .Name y py, .Name z pz] kt pt] (.Tuple [a, b, c] k2 pt2) X.env = pure (some [x, y, z]) := by rfl)
    (hs : swapsWithSole [.Tuple [.Name x px, .Name y py, .Name z pz] kt pt] (.Tuple [a, b, c] k2 pt2) pos.line X.env = pure false := by rfl) :
    PS X (.Assign [.Tuple [.Name x px, .Name y py, .Name z pz] kt pt] (.Tuple [a, b, c] k2 pt2) pos) (SV B (wAsg (wTup (wCons wa (wCons wb (wCons wc wNil)))) (.tp [.nm i, .nm j, .nm l]))) :=
  (ps_par3 hc hN hi hj hl hij hil hjl hx hy hz ha hw hs).imp fun D σ H ⟨δ, G, E, t, re, rh, h, p⟩ => by
    have h' : wCons wa (wCons wb (wCons wc wNil)) δ G (fun xs G1 => xs.length ≤ sizeLine ∧ ∃ δ2, asg G1 (.tp [.nm i, .nm j, .nm l]) (.tup xs) δ = some δ2 ∧ E.nx δ2 G1) := h
    refine ⟨δ, G, _, t, re, rh, h', fun xs G1 H1 vs ⟨hl, δ2, e2, h1⟩ rh1 t1 rvs => ?_⟩
    have e3 : asgs G1 [.nm i, .nm j, .nm l] xs δ = some δ2 := e2
    have hlen := asgs_len _ _ _ _ e3
    match xs, hlen, rvs, e3 with
    | [d1, d2, d3], _, rvs, e3 =>
      obtain ⟨v, r, ev, r1, w, r', er, r2, z, r3, ez, r4, en⟩ := rvs
      have en' : r3 = [] := en
      subst en'; subst ez; subst er; subst ev
      have e4 : ((δ.set i (some d1)).set j (some d2)).set l (some d3) = δ2 := Option.some.inj e3
      refine ⟨v, w, z, rfl, p.nx δ2 G1 _ H1 h1 ?_ rh1 t1⟩
      rw [← e4]
      exact (((re.mono t1).set i r1).set j r2).set l r4
end
end Q7

namespace Q7
open PySem PySem.Spec PyProof.Rows L2

/-! ### == of dicts -/
def DTv (G : DH) : List (Key × PyData) → List (Key × D) → Prop
  | [], ks => ks = []
  | (k, p) :: r, ks => ∃ d r', ks = (k, d) :: r' ∧ DT G p d ∧ DTv G r r'
def hitsP : List (Key × PyData) → List (Key × PyData) → Bool
  | [], _ => true
  | (k, v) :: r, kb => match valA kb k with
    | none => false
    | some y => PyData.eqv v y && hitsP r kb
def eqK (pa pb : List (Key × PyData)) : Bool := pa.length == pb.length && hitsP pa pb
theorem DTv.length {G : DH} : ∀ {pa : List (Key × PyData)} {ka : List (Key × D)}, DTv G pa ka → ka.length = pa.length
  | [], _, h => by have e : _ = [] := h; rw [e]; rfl
  | p :: pa, _, h => by
    obtain ⟨d, r, e, _, h2⟩ := h
    rw [e, List.length_cons, List.length_cons, h2.length]
section
variable {X : Cx} {pins : List (Addr × Obj)} {σ : L2.St} {H : Hp} {s : Shared} {G : DH}
theorem DTv.find (I : Inv X pins σ H s) (rh : RH H G) (k : Key) : ∀ {pb : List (Key × PyData)} {kb : List (Key × D)} {ws : List (Key × V)} {xs : List (Key × Value)}, DTv G pb kb → RKs H kb ws → KV ws xs →
    (valA pb k = none ∧ valueAt xs k = none) ∨ ∃ p y as, valA pb k = some p ∧ valueAt xs k = some y ∧ Reads s.heap y p as ∧ p ∈ pb.map (·.2)
  | [], kb, ws, xs, h, r, ru => by
    have e : kb = [] := h
    subst e
    have e : ws = [] := r
    subst e
    cases ru
    exact .inl ⟨rfl, rfl⟩
  | (q, p) :: pb, kb, ws, xs, h, r, ru => by
    obtain ⟨d, r', e, h1, h2⟩ := h
    subst e
    obtain ⟨v, rv, e, r1, r2⟩ := r
    subst e
    cases ru with
    | cons a b =>
      rename_i x xs'
      obtain ⟨a1, a2⟩ := a
      obtain ⟨xk, xv⟩ := x
      have a1 : q = xk := a1
      subst a1
      by_cases hk : q = k
      · subst hk
        obtain ⟨as, q1⟩ := DT.reads I rh p _ _ _ h1 r1 a2
        refine .inr ⟨p, xv, as, ?_, ?_, q1, List.mem_cons_self⟩
        · simp [valA]
        · simp [valueAt]
      · have e1 : valA ((q, p) :: pb) k = valA pb k := by simp [valA, List.find?_cons, hk]
        have e2 : valueAt ((q, xv) :: xs') k = valueAt xs' k := by simp [valueAt, List.find?_cons, hk]
        rw [e1, e2]
        rcases DTv.find I rh k h2 r2 b with h | ⟨p', y, as, f1, f2, f3, f4⟩
        · exact .inl h
        · exact .inr ⟨p', y, as, f1, f2, f3, List.mem_cons_of_mem _ f4⟩
theorem hits_of {A : Around} (I : Inv X pins σ H s) (rh : RH H G) (hu : A.units + 60 < cLine) {pb : List (Key × PyData)} {kb : List (Key × D)} {ws : List (Key × V)} {xs : List (Key × Value)} (hb : DTv G pb kb) (rb : RKs H kb ws) (kvb : KV ws xs) (plb : ∀ p ∈ pb.map (·.2), p.plain = true ∧ p.depth ≤ 60) :
    ∀ {pa : List (Key × PyData)} {ka : List (Key × D)} {wa : List (Key × V)} {xa : List (Key × Value)}, DTv G pa ka → RKs H ka wa → KV wa xa → (∀ p ∈ pa.map (·.2), p.plain = true ∧ p.depth ≤ 60) → PySem.W.KeqHits A s xs xa (hitsP pa pb)
  | [], ka, wa, xa, h, r, ru, _ => by
    have e : ka = [] := h
    subst e
    have e : wa = [] := r
    subst e
    cases ru
    exact .nil
  | (q, p) :: pa, ka, wa, xa, h, r, ru, pl => by
    obtain ⟨d, r', e, h1, h2⟩ := h
    subst e
    obtain ⟨v, rv, e, r1, r2⟩ := r
    subst e
    cases ru with
    | cons a b =>
      rename_i x xs'
      obtain ⟨a1, a2⟩ := a
      obtain ⟨xk, xv⟩ := x
      have a1 : q = xk := a1
      subst a1
      obtain ⟨as, q1⟩ := DT.reads I rh p _ _ _ h1 r1 a2
      show PySem.W.KeqHits A s xs ((q, xv) :: xs') (match valA pb q with
        | none => false
        | some y => PyData.eqv p y && hitsP pa pb)
      rcases DTv.find I rh q hb rb kvb with ⟨f1, f2⟩ | ⟨p', y, bs, f1, f2, f3, f4⟩
      · rw [f1]
        exact .miss f2
      · rw [f1]
        have p1 := pl p List.mem_cons_self
        have p2 := plb p' f4
        refine .hit f2 (SeqAt.eqAt_plain p p' A s xv y as bs q1 f3 p1.1 p2.1 ?_) (hits_of I rh hu hb rb kvb plb h2 r2 b fun z hz => pl z (List.mem_cons_of_mem _ hz))
        have := p1.2
        omega
end
section
variable {X : Cx}
def dEqK (neg : Bool) (x y : D) (G : DH) (Q : DK) : Prop := ∃ a wa ka b wb kb pa pb, x = .ref a ∧ y = .ref b ∧ G.ob a = some (.dct wa ka) ∧ G.ob b = some (.dct wb kb) ∧ DTv G pa ka ∧ DTv G pb kb ∧ (∀ p ∈ pa.map (·.2), p.plain = true ∧ p.depth ≤ 60) ∧ (∀ p ∈ pb.map (·.2), p.plain = true ∧ p.depth ≤ 60) ∧ Q (.bl (neg ^^ eqK pa pb)) G
theorem ov_eqK (hu : X.A.units + 64 < cLine) : OpR X (compareOp .Eq) (OV (dEqK false)) := by
  intro pins s σ H x y v u Q I rx ry h
  obtain ⟨dx, dy, G, Q1, r1, r2, rh, ⟨a, wa, ka, b, wb, kb, pa, pb, ex, ey, ha, hb, da, db, pla, plb, q⟩, po⟩ := h
  subst ex; subst ey
  have e1 : x = .ref a := r1
  have e2 : y = .ref b := r2
  subst e1; subst e2
  cases (show v = Value.ref a from rx)
  cases (show u = Value.ref b from ry)
  obtain ⟨ws, hs, rk⟩ := rh.atDR ha
  obtain ⟨wt, ht, rk'⟩ := rh.atDR hb
  obtain ⟨z, lo, xs, rel, dd⟩ := dk_rd I.hok hs
  obtain ⟨z', lo', xs', rel', dd'⟩ := dk_rd I.hok ht
  rw [Bool.false_xor] at q
  refine PySem.W.keq_eq lo lo' dd dd' (by omega) (fun _ => hits_of I rh (by show X.A.units + 1 + 60 < _; omega) db rk' rel' plb da rk rel pla) ?_
  have l1 : xs.length = pa.length := by rw [← da.length, ← rk.length, rel.length]
  have l2 : xs'.length = pb.length := by rw [← db.length, ← rk'.length, rel'.length]
  rw [l1, l2]
  exact ⟨.bl _, H, I, rfl, po _ _ _ _ q rh (TM.refl H) rfl⟩
theorem ov_neK (hu : X.A.units + 64 < cLine) : OpR X (compareOp .NotEq) (OV (dEqK true)) := by
  intro pins s σ H x y v u Q I rx ry h
  obtain ⟨dx, dy, G, Q1, r1, r2, rh, ⟨a, wa, ka, b, wb, kb, pa, pb, ex, ey, ha, hb, da, db, pla, plb, q⟩, po⟩ := h
  subst ex; subst ey
  have e1 : x = .ref a := r1
  have e2 : y = .ref b := r2
  subst e1; subst e2
  cases (show v = Value.ref a from rx)
  cases (show u = Value.ref b from ry)
  obtain ⟨ws, hs, rk⟩ := rh.atDR ha
  obtain ⟨wt, ht, rk'⟩ := rh.atDR hb
  obtain ⟨z, lo, xs, rel, dd⟩ := dk_rd I.hok hs
  obtain ⟨z', lo', xs', rel', dd'⟩ := dk_rd I.hok ht
  rw [Bool.true_xor] at q
  refine PySem.W.keq_ne lo lo' dd dd' (by omega) (fun _ => hits_of I rh (by show X.A.units + 1 + 60 < _; omega) db rk' rel' plb da rk rel pla) ?_
  have l1 : xs.length = pa.length := by rw [← da.length, ← rk.length, rel.length]
  have l2 : xs'.length = pb.length := by rw [← db.length, ← rk'.length, rel'.length]
  rw [l1, l2]
  exact ⟨.bl _, H, I, rfl, po _ _ _ _ q rh (TM.refl H) rfl⟩
end
/-! ### list(d.items()), *d.items(), *xs -/
theorem RH.grow {H H' : Hp} {G : DH} {p : Addr} {o : DO} (r : RH H G) (k : ∀ b u, H b = some u → H' b = some u) (hn : H p = none) (q : RO H' p o) : RH H' (G.put p o) := by
  have r' := r.keep k
  refine ⟨fun a o' e => ?_, fun S e => ?_⟩
  · by_cases ha : a = p
    · subst ha
      rw [DH.put_same] at e
      cases e
      exact q
    · rw [DH.put_ne ha] at e
      exact r'.ob a o' e
  · obtain ⟨h1, h2, h3, h4, h5⟩ := r'.st S e
    obtain ⟨_, _, _, h4', h5'⟩ := r.st S e
    exact ⟨h1, by rw [DH.put_ne (ne_of_none h4' hn)]; exact h2, by rw [DH.put_ne (ne_of_none h5' hn)]; exact h3, h4, h5⟩
theorem TM.of_keep {H H' : Hp} (k : ∀ b u, H b = some u → H' b = some u) : TM H H' := ⟨fun p vs e => k p _ e, fun p o u e => k p _ e⟩
theorem items_rvs {H H' : Hp} (k : ∀ b u, H b = some u → H' b = some u) : ∀ {kvs : List (Key × D)} {ws : List (Key × V)} {ts : List Addr}, RKs H kvs ws → Paired (fun (t : Addr) (q : Key × V) => H' t = some (.tup [kV q.1, q.2])) ts ws → RVs H' (kvs.map fun p => .tup [kD p.1, p.2]) (ts.map V.ref)
  | [], ws, ts, h, pr => by
    have e : ws = [] := h
    subst e
    cases pr
    exact RVs.nil
  | p :: kvs, ws, ts, h, pr => by
    obtain ⟨v, r, e, h1, h2⟩ := h
    subst e
    cases pr with
    | cons a b =>
      refine RVs.cons ⟨_, _, rfl, a, RVs.cons ?_ (RVs.cons (RV.mono (TM.of_keep k) _ _ h1) RVs.nil)⟩ (items_rvs k h2 b)
      show RV H' (kD p.1) (kV p.1)
      cases p.1 <;> rfl
section
variable {X : Cx} {B : Hp} {e : Expr} {te : TE} {w : WE} {ws : WA} {p apos cpos pos spos : Pos} {es : List Expr}
def tListItemsR (te : TE) : TE := fun σ H Q => te σ H fun x H1 => ∃ (d : Addr) (kvs : List (Key × V)), x = .ref d ∧ Rd H1 d (.dK kvs) ∧
  ∀ (H' : Hp) (p : Addr) (ts : List Addr), (∀ b o, H1 b = some o → H' b = some o) → H1 p = none → H' p = some (.lst (ts.map V.ref)) → Paired (fun (t : Addr) (q : Key × V) => H' t = some (.tup [kV q.1, q.2])) ts kvs → Q (.ref p) H'
theorem pe_listItemsR (hc : X.calm = true) (he : PE X e te) (hg : Gl X "list") (hm : X.mg "list" = none) (hbase : attributeBase e "items" X.env (eval e X.env) = eval e X.env := by rfl) (hline : (apos.endLine == cpos.line) = true := by rfl)
    (hs : starEach [.Call (.Attribute e "items" apos) [] [] cpos] X.env = (false, eval (.Call (.Attribute e "items" apos) [] [] cpos) X.env) :: starEach [] X.env := by rfl) :
    PE X (.Call (.Name "list" p) [.Call (.Attribute e "items" apos) [] [] cpos] [] pos) (tListItemsR te) := by
  refine ⟨fun pins s σ H Q I hq => ?_⟩
  refine wpAny_Call_Name_kw (ld_blt I hg hm boot_list ?_)
  refine PyProof.Rows.callWith_type1 ?_ hs rfl
  rw [hs]
  show wpAny _ _ (spliced ((false, eval (.Call (.Attribute e "items" apos) [] [] cpos) X.env) :: backTo pos (starEach [] X.env))) _ _ s
  refine Calls.spliced_cons ?_
  refine wpAny_Call_method (T := "dict") (id := "dict.items") hbase rfl hline F.plainAttrs_dict F.slot_dict_items F.type_dict_items (thn (he.run pins s σ H _ I hq) fun u s1 ⟨x, H1, I1, rx, d, kvs, ex, hd, q⟩ => ?_)
  subst ex
  obtain rfl : u = Value.ref d := rx
  obtain ⟨hz, hs0, vs, kv, hdo⟩ := dk_rd I1.hok hd
  obtain ⟨ep, hat⟩ := hdo.dictAt
  have lk : kvs.length = vs.length := Paired.length kv
  have I2 : Inv X pins σ H1 { s1 with heap := s1.heap.push { cls := .type "dict_items", data := .fields #[.ref d] } } := I1.kept (t' := s1.toks) fun b ob q => Heap.get?_push_of_some _ q
  refine ⟨hdo.typeIs, hdo.mapOf.noDict, ?_⟩
  show wpAny _ _ (callWith cpos (.builtin "dict.items") [.ref d] [] []) _ X.xe s1
  refine method_meetsIn F.slot_dict_items F.entry_dict_items rfl (PySem.evalArgs_none ⟨rfl, hdo.typeIs, F.args_dict_items_1 _, _, meets_dict_items (mixKind X.prog X.w) d hs0, ⟨vs, hdo⟩, ?_⟩)
  refine Calls.spliced_nil ?_
  refine PySem.W.kdx_call (knd := mixKind X.prog X.w) (kvs := vs) (ep := ep) (I1.ok.hd hc) ⟨_, Heap.get?_push_size _ rfl, rfl, rfl⟩ (hat.push _) (by omega) fun h' tk acc c as hk hS hl hG hacc => ?_
  obtain ⟨H', k1, k2, k3, k4, k5, k6, J⟩ := LiI.items_laid (tk := tk) I2 hz kv hk hS hl hG hacc
  exact ⟨.ref _, H', J, rfl, q H' _ as k1 k2 k5 k6⟩
def itemsD (kvs : List (Key × D)) : List D := kvs.map fun p => .tup [kD p.1, p.2]
def wListItems (w : WE) : WE := fun δ G Q => w δ G fun x G1 => ∃ a wr kvs, x = .ref a ∧ G1.ob a = some (.dct wr kvs) ∧ ∀ p, G1.ob p = none → Q (.ref p) (G1.put p (.lst true (itemsD kvs)))
theorem ev_listItems (hc : X.calm = true) (he : PE X e (EV B w)) (hg : Gl X "list") (hm : X.mg "list" = none) (hbase : attributeBase e "items" X.env (eval e X.env) = eval e X.env := by rfl) (hline : (apos.endLine == cpos.line) = true := by rfl)
    (hs : starEach [.Call (.Attribute e "items" apos) [] [] cpos] X.env = (false, eval (.Call (.Attribute e "items" apos) [] [] cpos) X.env) :: starEach [] X.env := by rfl) :
    PE X (.Call (.Name "list" p) [.Call (.Attribute e "items" apos) [] [] cpos] [] pos) (EV B (wListItems w)) :=
  (pe_listItemsR hc he hg hm hbase hline hs).imp fun σ H Q ⟨δ, G, Q1, t, re, rh, h, po⟩ => ⟨δ, G, _, t, re, rh, h, fun x G1 H1 v ⟨a, wr, kvs, ex, ha, q⟩ rh1 t1 rv => by
    subst ex
    obtain ⟨ws, hs, rk⟩ := rh1.atDR ha
    exact ⟨a, ws, rv, hs, fun H' p ts k hn hp pr => po _ _ _ _ (q p (rh1.free hn)) (rh1.grow k hn (RO.lstT hp (items_rvs k rk pr))) (t1.trans (TM.of_keep k)) rfl⟩⟩
/-- *xs in a display: lists, tuples -/
def tStar (K : PySem.W.Frag) (te : TE) (t : TA) : TA := fun σ H Q => te σ H fun x H1 => ∃ a xs, x = .ref a ∧ (SqL K H1 a xs ∨ SqT K H1 a xs) ∧ t σ H1 fun vs H2 => Q (xs ++ vs) H2
theorem star_at {pins : List (Addr × Obj)} {σ : L2.St} {H : Hp} {s : Shared} {a : Addr} {xs : List V} {Q : List Value → Shared → Prop} (I : Inv X pins σ H s) (hq : SqL X.K H a xs ∨ SqT X.K H a xs) (h : ∀ its h', Vals xs its → Inv X pins σ H { s with heap := h' } → Q its { s with heap := h' }) :
    PySem.W.StarOf (model X.prog X.w) X.A X.xe (.ref a) Q s := by
  have fin : ∀ {T : String} {its : List Value} {o : Obj} {n : Nat}, Vals xs its → s.heap.get? a = some o → o.cls = .type T → o.data = .seq its.toArray n → T = "list" ∨ T = "tuple" → xs.length ≤ sizeLine → wpAny (model X.prog X.w) X.A (collect (.ref a)) Q X.xe s := fun {T its o n} rv ho hc hd hT hz => by
    refine wpAny_collect_seq a hT ho hc hd (fun h' hk => ?_) (by rw [List.size_toArray, ← rv.length]; exact hz)
    have := h its h' rv (I.kept (t' := s.toks) hk)
    simpa using this
  unfold PySem.W.StarOf notIterableAtAll
  rcases hq with hq | hq
  · obtain ⟨its, rv, pl, hz⟩ := I.list hq
    obtain ⟨o, ho, hc, n, hd⟩ := pl.isList
    exact wpAny_bind (wpAny_specialOf ⟨o, ho, hc⟩ PySem.F.slot_list_iter.lookup (wpAny_pure ⟨rfl, fin rv ho hc hd (.inl rfl) hz⟩))
  · obtain ⟨its, rv, ⟨o, ho, hc, n, hd⟩, hz⟩ := I.tuple hq
    exact wpAny_bind (wpAny_specialOf ⟨o, ho, hc⟩ PySem.F.slot_tuple_iter.lookup (wpAny_pure ⟨rfl, fin rv ho hc hd (.inr rfl) hz⟩))
theorem pa_star {t : TA} (he : PE X e te) (hr : PA X es t) (hs : starEach (.Starred e spos :: es) X.env = (true, eval e X.env) :: starEach es X.env := by rfl) : PA X (.Starred e spos :: es) (tStar X.K te t) := by
  refine ⟨fun pos pins s σ H Q I h => ?_⟩
  refine PySem.W.items_star (thn (he.run pins s σ H _ I h) fun u s1 ⟨x, H1, I1, rx, a, xs, ex, hq, q⟩ => ?_) hs
  subst ex
  obtain rfl : u = Value.ref a := rx
  refine star_at I1 hq fun its h' rv I2 => ?_
  exact thn (hr.run pos pins _ σ H1 _ I2 q) fun us s3 ⟨vs, H3, I3, r3, q3⟩ => ⟨xs ++ vs, H3, I3, rv.append r3, q3⟩
def wStar (w : WE) (ws : WA) : WA := fun δ G Q => w δ G fun x G1 => ∃ ds, ((∃ a, x = .ref a ∧ LstAt a ds G1) ∨ x = .tup ds) ∧ ws δ G1 fun xs G2 => Q (ds ++ xs) G2
theorem av_star (he : PE X e (EV B w)) (hr : PA X es (AV B ws)) (hs : starEach (.Starred e spos :: es) X.env = (true, eval e X.env) :: starEach es X.env := by rfl) : PA X (.Starred e spos :: es) (AV B (wStar w ws)) :=
  (pa_star he hr hs).imp fun σ H Q ⟨δ, G, Q1, t, re, rh, h, po⟩ => ⟨δ, G, _, t, re, rh, h, fun x G1 H1 v ⟨ds, hx, h1⟩ rh1 t1 rv => by
    have key : ∃ a vs, v = .ref a ∧ (SqL X.K H1 a vs ∨ SqT X.K H1 a vs) ∧ RVs H1 ds vs := by
      rcases hx with ⟨a, ex, hl⟩ | ex
      · subst ex
        obtain ⟨vs, hs, rvs⟩ := sq_at (K := X.K) rh1 hl
        exact ⟨a, vs, rv, .inl hs, rvs⟩
      · subst ex
        obtain ⟨p, vs, ep, hp, rvs⟩ := rv
        exact ⟨p, vs, ep, .inr (SqT.of hp), rvs⟩
    obtain ⟨a, vs, ev, hs, rvs⟩ := key
    exact ⟨a, vs, ev, hs, δ, G1, _, t.trans t1, re.mono t1, rh1, h1, fun xs G2 H2 us h2 rh2 t2 rus => po _ _ _ _ h2 rh2 (t1.trans t2) ((RVs.mono t2 _ _ rvs).append rus)⟩⟩
/-- *d.items() -/
def tStarItems (te : TE) (t : TA) : TA := fun σ H Q => te σ H fun x H1 => ∃ (d : Addr) (kvs : List (Key × V)), x = .ref d ∧ Rd H1 d (.dK kvs) ∧
  ∀ (H' : Hp) (ts : List Addr), (∀ b o, H1 b = some o → H' b = some o) → Paired (fun (t : Addr) (q : Key × V) => H' t = some (.tup [kV q.1, q.2])) ts kvs → t σ H' fun vs H2 => Q (ts.map V.ref ++ vs) H2
theorem items_laid2 {pins : List (Addr × Obj)} {σ : L2.St} {H : Hp} {s : Shared} {h' : Heap} {tk : Nat} {kvs : List (Key × V)} {vs : List (Key × Value)} {as : List Addr} (I : Inv X pins σ H s) (kv : KV kvs vs)
    (hk : ∀ b o, s.heap.get? b = some o → h'.get? b = some o) (hl : as.length = vs.length) (hG : PySem.W.KdxG (mixKind X.prog X.w) vs s.heap.objs.size h' as) :
    ∃ H' : Hp, (∀ b o, H b = some o → H' b = some o) ∧ Paired (fun (t : Addr) (q : Key × V) => H' t = some (.tup [kV q.1, q.2])) as kvs ∧ Inv X pins σ H' { s with heap := h', toks := tk } := by
  have lk : kvs.length = vs.length := Paired.length kv
  have nd : as.Nodup := List.Pairwise.imp (fun {a b} (h : a < b) => Nat.ne_of_lt h) hG.rise
  have new : ∀ t ∈ as, H t = none := fun t ht => I.hok.fresh (Nat.le_of_lt (hG.above t ht))
  have atP := LiI.putT_at as kvs H (by omega) nd
  have off : ∀ b, b ∉ as → LiI.putT H as kvs b = H b := fun b h1 => LiI.putT_off as kvs _ h1
  have low : ∀ b o, s.heap.get? b = some o → b ∉ as := fun b o e z => absurd (Heap.lt_size e) (Nat.not_lt.mpr (Nat.le_of_lt (hG.above b z)))
  have kp : ∀ b u, H b = some u → LiI.putT H as kvs b = some u := fun b u e => by
    rw [off b (fun z => by rw [new b z] at e; cases e)]
    exact e
  refine ⟨LiI.putT H as kvs, kp, atP, ?_⟩
  refine I.call' (ch := []) rfl ⟨fun b o q _ _ _ => hk b o q, fun b o q _ _ _ => ⟨o.slots, hk b o q⟩, fun b o q n _ => ?_, fun b o q _ => ⟨o, hk b o q⟩, fun b xs q => kp b _ q, fun b o u q => kp b _ q, fun b ps q => ⟨#[], by rw [kp b _ q]; simp⟩⟩ (fun b u q => ?_) I.bare fun b z => by simp at z
  · rw [off b (low b o q)]
    exact n
  · by_cases hb : b ∈ as
    · obtain ⟨j, pk, e1, e2, e3⟩ := LiI.paired_ix atP hb
      rw [e3] at q
      cases q
      obtain ⟨key, k, x, f1, f2, f3⟩ := hG.pairs j b e1
      obtain ⟨qv, g1, g2, g3⟩ := LiI.paired_get kv e2
      rw [f1] at g1
      cases g1
      have rk : RelV (kV pk.1) key := by
        rw [g2]
        exact relV_key (show keyIs k key = true from f2)
      exact ⟨by show 2 ≤ sizeLine; decide, [key, x], .cons rk (.cons g3 .nil), ⟨_, f3, rfl, _, rfl⟩⟩
    · rw [off b hb] at q
      exact (I.hok b u q).stay (fun d v _ y => hk d v y) (fun d y => kp d _ y) fun d xs y => kp d _ y
theorem pa_starItems {t : TA} (hc : X.calm = true) (he : PE X e te) (hr : PA X es t) (hbase : attributeBase e "items" X.env (eval e X.env) = eval e X.env := by rfl) (hline : (apos.endLine == cpos.line) = true := by rfl)
    (hs : starEach (.Starred (.Call (.Attribute e "items" apos) [] [] cpos) spos :: es) X.env = (true, eval (.Call (.Attribute e "items" apos) [] [] cpos) X.env) :: starEach es X.env := by rfl) : PA X (.Starred (.Call (.Attribute e "items" apos) [] [] cpos) spos :: es) (tStarItems te t) := by
  refine ⟨fun pos pins s σ H Q I h => ?_⟩
  refine PySem.W.items_star ?_ hs
  refine wpAny_Call_method (T := "dict") (id := "dict.items") hbase rfl hline F.plainAttrs_dict F.slot_dict_items F.type_dict_items (thn (he.run pins s σ H _ I h) fun u s1 ⟨x, H1, I1, rx, d, kvs, ex, hd, q⟩ => ?_)
  subst ex
  obtain rfl : u = Value.ref d := rx
  obtain ⟨hz, hs0, vs, kv, hdo⟩ := dk_rd I1.hok hd
  obtain ⟨ep, hat⟩ := hdo.dictAt
  have lk : kvs.length = vs.length := Paired.length kv
  have I2 : Inv X pins σ H1 { s1 with heap := s1.heap.push { cls := .type "dict_items", data := .fields #[.ref d] } } := I1.kept (t' := s1.toks) fun b ob q => Heap.get?_push_of_some _ q
  refine ⟨hdo.typeIs, hdo.mapOf.noDict, ?_⟩
  show wpAny _ _ (callWith cpos (.builtin "dict.items") [.ref d] [] []) _ X.xe s1
  refine method_meetsIn F.slot_dict_items F.entry_dict_items rfl (PySem.evalArgs_none ⟨rfl, hdo.typeIs, F.args_dict_items_1 _, _, meets_dict_items (mixKind X.prog X.w) d hs0, ⟨vs, hdo⟩, ?_⟩)
  have hT : Shared.TypeIs { s1 with heap := s1.heap.push { cls := .type "dict_items", data := .fields #[.ref d] } } (.ref s1.heap.objs.size) "dict_items" := ⟨_, Heap.get?_push_size _ rfl, rfl⟩
  unfold PySem.W.StarOf notIterableAtAll
  refine wpAny_bind (wpAny_specialOf hT PySem.F.slot_dict_items_iter.lookup (wpAny_pure ⟨rfl, ?_⟩))
  refine PySem.W.kdx_collect (knd := mixKind X.prog X.w) (kvs := vs) (ep := ep) (I1.ok.hd hc) ⟨_, Heap.get?_push_size _ rfl, rfl, rfl⟩ (hat.push _) (by omega) fun h' tk as hk hl hG => ?_
  obtain ⟨H', k1, k6, J⟩ := items_laid2 (tk := tk) I2 kv hk hl hG
  exact thn (hr.run pos pins _ σ H' _ J (q H' as k1 k6)) fun us s3 ⟨vs, H3, I3, r3, q3⟩ => ⟨_, H3, I3, (LiI.vals_refs as).append r3, q3⟩
def wStarItems (w : WE) (ws : WA) : WA := fun δ G Q => w δ G fun x G1 => ∃ a wr kvs, x = .ref a ∧ G1.ob a = some (.dct wr kvs) ∧ ws δ G1 fun xs G2 => Q (itemsD kvs ++ xs) G2
theorem av_starItems (hc : X.calm = true) (he : PE X e (EV B w)) (hr : PA X es (AV B ws)) (hbase : attributeBase e "items" X.env (eval e X.env) = eval e X.env := by rfl) (hline : (apos.endLine == cpos.line) = true := by rfl)
    (hs : starEach (.Starred (.Call (.Attribute e "items" apos) [] [] cpos) spos :: es) X.env = (true, eval (.Call (.Attribute e "items" apos) [] [] cpos) X.env) :: starEach es X.env := by rfl) : PA X (.Starred (.Call (.Attribute e "items" apos) [] [] cpos) spos :: es) (AV B (wStarItems w ws)) :=
  (pa_starItems hc he hr hbase hline hs).imp fun σ H Q ⟨δ, G, Q1, t, re, rh, h, po⟩ => ⟨δ, G, _, t, re, rh, h, fun x G1 H1 v ⟨a, wr, kvs, ex, ha, h1⟩ rh1 t1 rv => by
    subst ex
    obtain ⟨us, hs, rk⟩ := rh1.atDR ha
    refine ⟨a, us, rv, hs, fun H' ts k pr => ?_⟩
    have tk := TM.of_keep k
    exact ⟨δ, G1, _, t.trans (t1.trans tk), re.mono (t1.trans tk), rh1.keep k, h1, fun xs G2 H2 vs h2 rh2 t2 rvs => po _ _ _ _ h2 rh2 (t1.trans (tk.trans t2)) ((RVs.mono t2 _ _ (items_rvs k rk pr)).append rvs)⟩⟩
end
end Q7

namespace Q7
open PySem PySem.Spec PyProof.Rows L2

/-! ### enumerate of a tuple -/
section
open Sem (wp)
open AutoSeq1 (wpAny_loadPart')
theorem meets_enumerate_newT (l : Addr) (items : Array Value) (o : Obj) (hc : o.cls = .type "tuple") (n : Nat) (hd : o.data = .seq items n) :
    Meets (Builtin.«enumerate.__new__» ⟨[.type "enumerate", .ref l], []⟩) (fun _ R s => s.heap.get? l = some o ∧
      R (.ok (.ret (.ref (s.heap.push { cls := .type "tuple_iterator", data := .fields #[.ref l, .int 0 0] }).objs.size)))
        { s with heap := (s.heap.push { cls := .type "tuple_iterator", data := .fields #[.ref l, .int 0 0] }).push { cls := .type "enumerate", data := .fields #[.none, .bool false, .ref s.heap.objs.size, rawInt 0, .none, .none] } }) :=
  .of_wp fun prog w A R s h => by
    obtain ⟨hp, g, d, tk, os⟩ := s; obtain ⟨hl, h⟩ := h
    have hsub := sub_enumerate
    have hL : Heap.IsTuple (Shared.heap ⟨hp, g, d, tk, os⟩) l items := ⟨_, hl, hc, n, hd⟩
    obtain ⟨oc, od, dt, sl⟩ := o
    simp only at hc hd
    subst hc hd
    wp_walk using wpAny_loadPart' hl
    refine wpAny_stack_any fun st => wpAny_pure ?_
    split
    · rename_i c _ _ _ _ _
      cases (c == Value.type "enumerate")
      · wp_walk using wpAny_loadPart' hl, wpAny_pyIter_tuple hL
        exact ⟨_, rfl, h⟩
      · wp_walk using wpAny_loadPart' hl, wpAny_pyIter_tuple hL
        exact ⟨_, rfl, h⟩
    · wp_walk using wpAny_loadPart' hl, wpAny_pyIter_tuple hL
      exact ⟨_, rfl, h⟩
end
theorem call_enumerate_tuple {prog : Program} {w : World} {A : Around} {E : Value → Shared → Prop} {s : Shared} {l : Addr} {items : Array Value} {Q : Value → Shared → Prop} (hL : s.heap.IsTuple l items)
    (h : ∀ h', IsEnum h' (s.heap.objs.size + 1) s.heap.objs.size 0 .none → h'.IsTupleIter s.heap.objs.size l 0 → h'.objs.size = s.heap.objs.size + 2 →
      (∀ b o, s.heap.get? b = some o → h'.get? b = some o) → Q (.ref (s.heap.objs.size + 1)) { s with heap := h' }) :
    wpAny (model prog w) A (call (.type "enumerate") [.ref l]) Q E s := by
  obtain ⟨o, hl, hc, n, hd⟩ := hL
  refine callType_new F.called_enumerate (by decide) (F.typeCall_enumerate_1 _) (F.newCall_enumerate_1 _) (fun obj => F.args_object_init_2 obj _) F.entry_enumerate_new
    (meets_enumerate_newT l items o hc n hd) ⟨hl, ?_⟩
  have hz : (s.heap.push { cls := .type "tuple_iterator", data := .fields #[.ref l, .int 0 0] }).objs.size = s.heap.objs.size + 1 := Heap.size_push ..
  show _ ∧ _
  rw [hz]
  have he : IsEnum ((s.heap.push { cls := .type "tuple_iterator", data := .fields #[.ref l, .int 0 0] }).push
      { cls := .type "enumerate", data := .fields #[.none, .bool false, .ref s.heap.objs.size, rawInt 0, .none, .none] }) (s.heap.objs.size + 1) s.heap.objs.size 0 .none := by
    have := Heap.get?_push_size (s.heap.push { cls := .type "tuple_iterator", data := .fields #[.ref l, .int 0 0] })
      (o := { cls := .type "enumerate", data := .fields #[.none, .bool false, .ref s.heap.objs.size, rawInt 0, .none, .none] }) rfl
    rw [hz] at this; exact this
  refine ⟨⟨_, he, rfl⟩, h _ he ⟨_, Heap.get?_push_of_some _ (Heap.get?_push_size _ rfl), rfl, rfl⟩ (by rw [Heap.size_push, hz]) fun b o x => Heap.get?_push_of_some _ (Heap.get?_push_of_some _ x)⟩
theorem Draws_tuple {prog : Program} {w : World} {A : Around} (hh : A.handled = none) (it l : Addr) (hne : l ≠ it) (items : Array Value) :
    Draws prog w A it [it, l] items.size (fun i v => items[i]? = some v) (fun i h => h.IsTupleIter it l i ∧ h.IsTuple l items) where
  live := fun _ _ st => let ⟨o, ho, _⟩ := st.1; ⟨o, ho⟩
  frame := fun _ _ _ st hk => ⟨let ⟨o, ho, r⟩ := st.1; ⟨o, hk it (by simp) o ho, r⟩, let ⟨o, ho, r⟩ := st.2; ⟨o, hk l (by simp) o ho, r⟩⟩
  item := fun i s Q E hi st hQ => by
    refine wpAny_nextOf_tuple_item st.1 st.2 (x := items[i]) (by simp [hi]) fun h' hit' hs' => ?_
    exact hQ _ h' s.toks (by simp [hi]) ⟨hit', let ⟨o, ho, r⟩ := st.2; ⟨o, hs'.extBut l o hne ho, r⟩⟩ hs'
  done := fun s Q E st hE => wpAny_nextOf_tuple_end hh st.1 st.2 (by simp) hE
def Iet (K : PySem.W.Frag) (a : Addr) : It :=
  ⟨fun i H => ∃ (xs : List V) (x : V), SqT K H a xs ∧ xs[i]? = some x, fun i H v H' => ∃ T x, v = .ref T ∧ H T = none ∧ H' = upd H T (.tup [.int (i : Nat), x]) ∧ ∀ xs, SqT K H a xs → xs[i]? = some x, fun i H => ∃ xs : List V, SqT K H a xs ∧ xs.length = i⟩
theorem turn_enumT {P : Program} {w : World} {K : PySem.W.Frag} {elts : List Expr} {kk : Nat} {tpos : Pos} (a e it : Addr) :
    Turn P w K (.Tuple elts kk tpos) (Iet K a) [e, it] e (fun i h => (∃ old, IsEnum h e it ((i : Nat) : Int) old) ∧ h.IsTupleIter it a i ∧ e ≠ it ∧ a ≠ it ∧ e ≠ a) where
  mem := by simp
  obj := fun i h st b hb => by
    obtain ⟨⟨old, he⟩, ⟨o, ho, hc, hd⟩, _⟩ := st
    have e' : b = e ∨ b = it := by simpa using hb
    rcases e' with z | z
    · rw [z]; exact ⟨_, he, fun v q => nomatch q⟩
    · rw [z]; exact ⟨o, ho, fun v q => by rw [hd] at q; cases q⟩
  keep := fun i h h' st k => let ⟨⟨old, he⟩, ⟨o, ho, r⟩, hne⟩ := st; ⟨⟨old, k e (by simp) _ he⟩, ⟨o, k it (by simp) o ho, r⟩, hne⟩
  item := by
    intro X hP hw hK hc i pins s σ H E I hf st hg
    subst hP hw hK
    obtain ⟨⟨old, he⟩, hit, hne, hai, hea⟩ := st
    obtain ⟨xs, x, hq, hx⟩ := hg
    obtain ⟨its, rv, p, hz⟩ := I.tuple hq
    obtain ⟨u, hu, ru⟩ := rv.get hx
    have hel : e < s.heap.objs.size := Heap.lt_size he
    have hil : it < s.heap.objs.size := by obtain ⟨_, q, _⟩ := hit; exact Heap.lt_size q
    have hlt : i < its.toArray.size := by rw [List.size_toArray]; exact (List.getElem?_eq_some_iff.mp hu).1
    refine wpAny_pyNext_enum_itemD (Draws_tuple (A := X.A.in1) (I.ok.hd hc) it a hai its.toArray) he ⟨hit, p⟩ hlt hne (by simp; exact ⟨hne, hea⟩) fun x' h' tk hP ho hit' hT hsz hk => ?_
    have ex : x' = u := by
      have hP' : its.toArray[i]? = some x' := hP
      have hu' : its.toArray[i]? = some u := by simpa using hu
      rw [hu'] at hP'
      exact (Option.some.inj hP').symm
    subst ex
    refine ⟨_, rfl, wpAny_letOwnedTupleGo_enum (s := { s with heap := h', toks := tk + 1 }) ho fun h'' he' sb => ?_⟩
    have hT2 : h''.get? s.heap.objs.size = some { cls := .type "tuple", data := .seq #[.int i tk, x'] } := (sb.2 _ (Nat.ne_of_gt hel)).trans hT
    have new : ObjOk X.prog X.w (upd H s.heap.objs.size (.tup [.int (i : Nat), x])) h'' s.heap.objs.size (.tup [.int (i : Nat), x]) :=
      ⟨by show 2 ≤ sizeLine; decide, [.int i tk, x'], .cons ⟨_, rfl⟩ (.cons ru .nil), ⟨_, hT2, rfl, _, rfl⟩⟩
    have I1 : Inv X pins σ (upd H s.heap.objs.size (.tup [.int (i : Nat), x])) { s with heap := h'', toks := tk + 1 } :=
      I.turnedNew (ch := [e, it]) (fun b ob hb q => (sb.2 b (fun z => hb (by simp [z]))).trans (hk b ob (fun z => hb (by simp [z])) (fun z => hb (by simp [z])) q)) hf (Nat.le_refl _) new
    refine ⟨.ref s.heap.objs.size, _, I1, rfl, ⟨_, x, rfl, I.hok.fresh (Nat.le_refl _), rfl, fun ys hy => ?_⟩, ⟨⟨x', ?_⟩, ?_, hne, hai, hea⟩, fun b hb => ?_⟩
    · obtain ⟨its', rv', p', _⟩ := I.tuple hy
      obtain ⟨o1, h1, _, n1, d1⟩ := p
      obtain ⟨o2, h2, _, n2, d2⟩ := p'
      rw [h1] at h2
      cases h2
      rw [d1] at d2
      injection d2 with d3 _
      have d4 : its = its' := by simpa using d3
      subst d4
      have := rv.inj rv'
      rw [← this]; exact hx
    · have e1 : ((i + 1 : Nat) : Int) = (i : Int) + 1 := by omega
      rw [e1]; exact he'
    · obtain ⟨⟨o, ho', r⟩, _⟩ := hit'
      exact ⟨o, (sb.2 it (Ne.symm hne)).trans ho', r⟩
    · have hb' : b < s.heap.objs.size := by
        have e' : b = e ∨ b = it := by simpa using hb
        rcases e' with z | z
        · rw [z]; exact hel
        · rw [z]; exact hil
      rw [upd_ne (Nat.ne_of_lt hb')]
      exact (hf b hb).1
  done := by
    intro X hP hw hK hc i pins s σ H E I hf st hg
    subst hP hw hK
    obtain ⟨⟨old, he⟩, hit, hne, hai, hea⟩ := st
    obtain ⟨xs, hq, hx⟩ := hg
    obtain ⟨its, rv, p, hz⟩ := I.tuple hq
    obtain ⟨f0, f1, f2, f3, f4, f5⟩ := hf it (by simp)
    have hl := rv.length
    have hi : i = its.toArray.size := by rw [List.size_toArray]; omega
    subst hi
    exact wpAny_pyNext_enum_endD (Draws_tuple (A := X.A.in1) (I.ok.hd hc) it a hai its.toArray) he ⟨hit, p⟩ fun h' eb => ⟨rfl, I.turned (t' := s.toks) (fun b o hb q => eb b o hb q) f0 f1 f3 f4 f5⟩
  self := fun A i s Q E st h => let ⟨⟨_, he⟩, _⟩ := st; wpAny_pyIter_enum he h
end Q7

namespace Q7
open PySem PySem.Spec PyProof.Rows L2

section
variable {X : Cx} {B : Hp} {e : Expr} {ta : TA} {p pos tpos : Pos} {elts : List Expr} {kk : Nat} {ws : WA}
def iEnumA (K : PySem.W.Frag) (ta : TA) : TI := fun σ H R => ta σ H fun vs H1 => (∃ a xs, vs = [.ref a] ∧ SqL K H1 a xs ∧ R (Ite K a) H1) ∨ ∃ a xs, vs = [.ref a] ∧ SqT K H1 a xs ∧ R (Iet K a) H1
theorem pi_enumA (hg : Gl X "enumerate") (hm : X.mg "enumerate" = none) (ha : PA X [e] ta) (hs : starEach [e] X.env = [(false, eval e X.env)] := by rfl) :
    PI X (.Tuple elts kk tpos) (.Call (.Name "enumerate" p) [e] [] pos) (iEnumA X.K ta) := by
  refine ⟨fun pins s σ H R I h => ?_⟩
  refine Call_ (ld_blt I hg hm boot_enumerate (PyProof.Rows.callWith_type1 (thn (ha.run pos pins s σ H _ I h) fun us s1 ⟨vs, H1, I1, r1, q1⟩ => ?_) hs rfl))
  have fp : ∀ {b : Addr}, b ∈ [s1.heap.objs.size + 1, s1.heap.objs.size] → s1.heap.objs.size ≤ b := fun {b} hb => by
    have e' : b = s1.heap.objs.size + 1 ∨ b = s1.heap.objs.size := by simpa using hb
    rcases e' with z | z
    · rw [z]; exact Nat.le_add_right _ _
    · rw [z]; exact Nat.le_refl _
  rcases q1 with ⟨a, xs, ex, hq, q⟩ | ⟨a, xs, ex, hq, q⟩
  · subst ex
    cases r1 with
    | cons r rr =>
      cases rr
      cases r
      obtain ⟨its, rv, p', hz⟩ := I1.list hq
      refine call_enumerate_list p'.isList fun h' he hit hsz hk => wpAny_pyIter_enum he ?_
      have I2 : Inv X pins σ H1 { s1 with heap := h' } := I1.kept (t' := s1.toks) hk
      exact ⟨s1.heap.objs.size + 1, [s1.heap.objs.size + 1, s1.heap.objs.size], _, _, H1, rfl, I2, turn_enum a (s1.heap.objs.size + 1) s1.heap.objs.size, ⟨⟨.none, he⟩, hit, Nat.succ_ne_self _⟩, fun b hb => I1.fpOk (fp hb) (I1.hok.fresh (fp hb)), q⟩
  · subst ex
    cases r1 with
    | cons r rr =>
      cases rr
      cases r
      obtain ⟨its, rv, p', hz⟩ := I1.tuple hq
      have hlt : a < s1.heap.objs.size := by obtain ⟨o, ho, _⟩ := p'; exact Heap.lt_size ho
      refine call_enumerate_tuple (items := its.toArray) p' fun h' he hit hsz hk => wpAny_pyIter_enum he ?_
      have I2 : Inv X pins σ H1 { s1 with heap := h' } := I1.kept (t' := s1.toks) hk
      exact ⟨s1.heap.objs.size + 1, [s1.heap.objs.size + 1, s1.heap.objs.size], _, _, H1, rfl, I2, turn_enumT a (s1.heap.objs.size + 1) s1.heap.objs.size, ⟨⟨.none, he⟩, hit, Nat.succ_ne_self _, Nat.ne_of_lt hlt, Nat.ne_of_gt (Nat.lt_succ_of_lt hlt)⟩, fun b hb => I1.fpOk (fp hb) (I1.hok.fresh (fp hb)), q⟩
def wiEnumA (ws : WA) : WI := fun δ G R => ws δ G fun xs G1 => (∃ a ds, xs = [.ref a] ∧ LstAt a ds G1 ∧ R (LstAt a ds) (enumD ds) G1) ∨ ∃ ds, xs = [.tup ds] ∧ R Tru (enumD ds) G1
theorem iet_ok {K : PySem.W.Frag} {p : Addr} {vs : List V} {ds : List D} {H0 : Hp} (hp : H0 p = some (.tup vs)) (hr : RVs H0 ds vs) : ItOk H0 (Iet K p) Tru (enumD ds) := fun G H t rh _ => by
  have h1 : SqT K H p vs := SqT.of (t.1 _ _ hp)
  have h2 := RVs.mono t _ _ hr
  unfold enumD
  refine ⟨⟨vs, h1, by rw [List.length_map, List.length_range]; exact h2.length⟩, fun i hi => ?_⟩
  rw [List.length_map, List.length_range] at hi
  obtain ⟨v, hv, rv⟩ := h2.get (List.getElem?_eq_getElem hi)
  refine ⟨⟨vs, v, h1, hv⟩, fun x H' ⟨T, x', ex, hT, eH, y⟩ => ?_⟩
  subst eH
  have e2 := (y vs h1).symm.trans hv
  cases e2
  refine ⟨rh.keep (keep_new hT), TM.new hT, .tup [.int (i : Nat), ds[i]], ?_, T, _, ex, upd_same, RVs.cons rfl (RVs.cons (RV.mono (TM.new hT) _ _ rv) RVs.nil)⟩
  rw [List.getElem?_map, List.getElem?_range hi]
  simp [hi]
theorem iv_enumA (hg : Gl X "enumerate") (hm : X.mg "enumerate" = none) (ha : PA X [e] (AV B ws)) (hs : starEach [e] X.env = [(false, eval e X.env)] := by rfl) : PI X (.Tuple elts kk tpos) (.Call (.Name "enumerate" p) [e] [] pos) (IV B (wiEnumA ws)) :=
  (pi_enumA hg hm ha hs).imp fun σ H R ⟨δ, G, Q1, t, re, rh, h, k⟩ => ⟨δ, G, _, t, re, rh, h, fun xs G1 H1 vs h1 rh1 t1 rv => by
    rcases h1 with ⟨a, ds, ex, hl, h3⟩ | ⟨ds, ex, h3⟩
    · subst ex
      obtain ⟨v, ev, rv1⟩ := rvs1 rv
      have e1 : v = .ref a := rv1
      subst e1; subst ev
      obtain ⟨us, hs, _⟩ := sq_at (K := X.K) rh1 hl
      exact .inl ⟨a, us, rfl, hs, k _ _ _ _ _ h3 rh1 t1 ite_ok⟩
    · subst ex
      obtain ⟨v, ev, q, us, eq, hq, rus⟩ := rvs1 rv
      subst eq; subst ev
      exact .inr ⟨q, us, rfl, SqT.of hq, k _ _ _ _ _ h3 rh1 t1 (iet_ok hq rus)⟩⟩
end
/-! ### comprehensions over two -/
section
variable {X : Cx} {B : Hp} {a b e tg tg1 elt iter iter1 : Expr} {ifs ifs1 : List Expr} {pos : Pos} {we : WE} {wt wt1 : WT} {wi wi1 : WI} {T T1 : Tgt} {scope : Scope} {own : List (Str × Nat)} {vs1 : List Nat}
def wLC2 (wi : WI) (T : Tgt) (wt : WT) (wi1 : WI) (T1 : Tgt) (wt1 : WT) (we : WE) (vs vs1 : List Nat) : WE := fun δ G Q => wi δ G fun S items G1 => ∀ p, G1.ob p = none → ∃ I : Nat → DH → Prop, I 0 (G1.put p (.lst true [])) ∧ (∀ i G', I i G' → S G') ∧
  (∀ i x G', items[i]? = some x → I i G' → ∃ δ2, asg G' T x (wipeD δ vs) = some δ2 ∧ wt δ2 G' fun b G2 => if b = true then
    wi1 δ2 G2 fun S1 items1 G3 => ∃ J : Nat → DH → Prop, J 0 G3 ∧ (∀ j G', J j G' → S1 G') ∧
      (∀ j y G', items1[j]? = some y → J j G' → ∃ δ3, asg G' T1 y (wipeD δ2 vs1) = some δ3 ∧ wt1 δ3 G' fun c G4 => if c = true then we δ3 G4 fun z G5 => ∃ acc, G5.ob p = some (.lst true acc) ∧ acc.length < sizeLine ∧ J (j + 1) (G5.put p (.lst true (acc ++ [z]))) else J (j + 1) G4) ∧
      (∀ G', J items1.length G' → I (i + 1) G') else I (i + 1) G2) ∧
  (∀ G', I items.length G' → Q (.ref p) G')
theorem lc2_read {σ : L2.St} {H : Hp} {Q : VK} {vs : List Nat} (hT : ∀ i ∈ slots T, i ∈ vs) (hT1 : ∀ i ∈ slots T1, i ∈ vs1) (hvv : ∀ i ∈ vs1, i ∈ vs) (h : EV B (wLC2 wi T wt wi1 T1 wt1 we vs vs1) σ H Q) : tLc2 (IV B wi) (gT X.K T) (TV B wt) (IV B wi1) (gT X.K T1) (TV B wt1) (EV B we) vs vs1 σ H Q := by
  obtain ⟨δ, G, Q1, t, re, rh, h, p⟩ := h
  refine ⟨δ, G, _, t, re, rh, h, fun S items G1 H1 J hJ rh1 t1 ok D hD => ?_⟩
  obtain ⟨I, i0, hS, step, fin⟩ := hJ D (rh1.free hD)
  have tD : TM H1 (upd H1 D (.lst [])) := TM.new hD
  refine ⟨fun i m H' => ∃ G', TM H1 H' ∧ RH H' G' ∧ I i G' ∧ i ≤ items.length ∧ m = items.length - i, ⟨items.length, _, tD, rh1.newL hD RVs.nil, i0, Nat.zero_le _, rfl⟩, ?_⟩
  rintro i m H' ⟨G', t'', rh', ii, hle, rfl⟩
  have t' := t1.trans t''
  obtain ⟨stp, gos⟩ := ok G' H' t'' rh' (hS i G' ii)
  by_cases hlt : i < items.length
  · obtain ⟨go, yl⟩ := gos i hlt
    refine .inr ⟨go, fun H3 => ∃ G3, TM H1 H3 ∧ RH H3 G3 ∧ I (i + 1) G3, fun H3 ⟨G3, t3, rh3, i3⟩ => ⟨items.length - (i + 1), by omega, G3, t3, rh3, i3, hlt, rfl⟩, fun x H4 y => ?_⟩
    obtain ⟨rh4, t4, d, hd, rv⟩ := yl x H4 y
    obtain ⟨δ2, e2, h2⟩ := step i d G' hd ii
    refine gT_ok rh4 T d x _ δ2 _ e2 rv ((re.mono (t'.trans t4)).wipe vs) fun σ5 re5 o5 => ⟨o5.wipe hT, δ2, G', _, t.trans (t'.trans t4), re5, rh4, h2, fun b G6 H6 h6 rh6 t6 => ?_⟩
    cases b with
    | true =>
      rw [if_pos rfl] at h6 ⊢
      refine ⟨δ2, G6, _, t.trans (t'.trans (t4.trans t6)), re5.mono t6, rh6, h6, fun S1 items1 G7 H7 K7 ⟨J7, j0, hS1, step1, fin1⟩ rh7 t7 ok7 => ?_⟩
      refine ⟨fun j m H' => ∃ G', TM H7 H' ∧ RH H' G' ∧ J7 j G' ∧ j ≤ items1.length ∧ m = items1.length - j, ⟨items1.length, _, TM.refl _, rh7, j0, Nat.zero_le _, rfl⟩, ?_⟩
      rintro j m H8 ⟨G8, t8, rh8, jj, hle8, rfl⟩
      obtain ⟨stp8, gos8⟩ := ok7 G8 H8 t8 rh8 (hS1 j G8 jj)
      have t78 : TM H1 H8 := t''.trans (t4.trans (t6.trans (t7.trans t8)))
      by_cases hlt8 : j < items1.length
      · obtain ⟨go8, yl8⟩ := gos8 j hlt8
        refine .inr ⟨go8, fun H3 => ∃ G3, TM H7 H3 ∧ RH H3 G3 ∧ J7 (j + 1) G3, fun H3 ⟨G3, t3, rh3, i3⟩ => ⟨items1.length - (j + 1), by omega, G3, t3, rh3, i3, hlt8, rfl⟩, fun x9 H9 y9 => ?_⟩
        obtain ⟨rh9, t9, d9, hd9, rv9⟩ := yl8 x9 H9 y9
        obtain ⟨δ3, e3, h3⟩ := step1 j d9 G8 hd9 jj
        have tt : TM H6 H9 := t7.trans (t8.trans t9)
        refine gT_ok rh9 T1 d9 x9 _ δ3 _ e3 rv9 ((re5.mono (t6.trans tt)).wipe vs1) fun σ10 re10 o10 => ⟨o10.wipe hT1, δ3, G8, _, t.trans (t1.trans (t78.trans t9)), re10, rh9, h3, fun c G10 H10 h10 rh10 t10 => ?_⟩
        cases c with
        | true =>
          rw [if_pos rfl] at h10 ⊢
          refine ⟨δ3, G10, _, t.trans (t1.trans (t78.trans (t9.trans t10))), re10.mono t10, rh10, h10, fun z G11 H11 v ⟨acc, ha, hl, i11⟩ rh11 t11 rv11 => ?_⟩
          obtain ⟨us, hu, ru⟩ := rh11.ob D _ ha
          have tw := rh11.write_tm (u := .lst (us ++ [v])) ha hu
          exact ⟨us, hu, by rw [ru.length]; exact hl, _, (t8.trans (t9.trans (t10.trans t11))).trans tw, rh11.writeL ha hu (ru.append (RVs.cons rv11 RVs.nil)), i11⟩
        | false =>
          rw [if_neg Bool.false_ne_true] at h10 ⊢
          exact ⟨G10, t8.trans (t9.trans t10), rh10, h10⟩
      · have ej : j = items1.length := by omega
        subst ej
        exact .inl ⟨stp8, G8, t78, rh8, fin1 G8 jj⟩
    | false =>
      rw [if_neg Bool.false_ne_true] at h6 ⊢
      exact ⟨G6, t''.trans (t4.trans t6), rh6, h6⟩
  · have ei : i = items.length := by omega
    subst ei
    exact .inl ⟨stp, p _ _ _ _ (fin G' ii) rh' t' rfl⟩
theorem ev_lc2 (hc : X.calm = true) (hN : X.N.Nodup) (hi : PI X tg iter (IV B wi)) (ok : BlkOk X.N X.env.scope scope own)
    (hg : ∀ (s : Shared) (H : Hp) (C : Addr) (cl : List (Str × Addr)) (fp : List Addr), PG (X.blk s H scope (compEnvC scope cl C X.env) fp) tg (gT X.K T)) (ht : ∀ (s : Shared) (H : Hp) (C : Addr) (cl : List (Str × Addr)) (fp : List Addr), PTs (X.blk s H scope (compEnvC scope cl C X.env) fp) ifs (TV B wt))
    (hi1 : ∀ (s : Shared) (H : Hp) (C : Addr) (cl : List (Str × Addr)) (fp : List Addr), PI (X.blk s H scope (compEnvC scope cl C X.env) fp) tg1 iter1 (IV B wi1))
    (hg1 : ∀ (s : Shared) (H : Hp) (C : Addr) (cl : List (Str × Addr)) (fp : List Addr), PG (X.blk s H scope (compEnvC scope cl C X.env) fp) tg1 (gT X.K T1)) (ht1 : ∀ (s : Shared) (H : Hp) (C : Addr) (cl : List (Str × Addr)) (fp : List Addr), PTs (X.blk s H scope (compEnvC scope cl C X.env) fp) ifs1 (TV B wt1))
    (he : ∀ (s : Shared) (H : Hp) (C : Addr) (cl : List (Str × Addr)) (fp : List Addr), PE (X.blk s H scope (compEnvC scope cl C X.env) fp) elt (EV B we)) (hT : ∀ i ∈ slots T, i ∈ own.map (·.2)) (hT1 : ∀ i ∈ slots T1, i ∈ vs1) (hvv : ∀ i ∈ vs1, i ∈ own.map (·.2)) (hs : ∀ x, foldedSetIterable iter X.env x = pure x := by intro _; rfl) (hs1 : ∀ env x, foldedSetIterable iter1 env x = pure x := by intro _ _; rfl) :
    PE X (.ListComp elt [⟨tg, iter, ifs, 0⟩, ⟨tg1, iter1, ifs1, 0⟩] scope pos) (EV B (wLC2 wi T wt wi1 T1 wt1 we (own.map (·.2)) vs1)) := (pe_lc2 hc hN hi ok hvv hg ht hi1 hg1 ht1 he hs hs1).imp fun σ H Q h => lc2_read hT hT1 hvv h
theorem sv_setLc2 (i : Nat) {y : Str} {py spos : Pos} (hc : X.calm = true) (hN : X.N.Nodup) (hi : PI X tg iter (IV B wi)) (ok : BlkOk X.N X.env.scope scope own)
    (hg : ∀ (s : Shared) (H : Hp) (C : Addr) (cl : List (Str × Addr)) (fp : List Addr), PG (X.blk s H scope (compEnvC scope cl C X.env) fp) tg (gT X.K T)) (ht : ∀ (s : Shared) (H : Hp) (C : Addr) (cl : List (Str × Addr)) (fp : List Addr), PTs (X.blk s H scope (compEnvC scope cl C X.env) fp) ifs (TV B wt))
    (hi1 : ∀ (s : Shared) (H : Hp) (C : Addr) (cl : List (Str × Addr)) (fp : List Addr), PI (X.blk s H scope (compEnvC scope cl C X.env) fp) tg1 iter1 (IV B wi1))
    (hg1 : ∀ (s : Shared) (H : Hp) (C : Addr) (cl : List (Str × Addr)) (fp : List Addr), PG (X.blk s H scope (compEnvC scope cl C X.env) fp) tg1 (gT X.K T1)) (ht1 : ∀ (s : Shared) (H : Hp) (C : Addr) (cl : List (Str × Addr)) (fp : List Addr), PTs (X.blk s H scope (compEnvC scope cl C X.env) fp) ifs1 (TV B wt1))
    (he : ∀ (s : Shared) (H : Hp) (C : Addr) (cl : List (Str × Addr)) (fp : List Addr), PE (X.blk s H scope (compEnvC scope cl C X.env) fp) elt (EV B we)) (hT : ∀ i ∈ slots T, i ∈ own.map (·.2)) (hT1 : ∀ i ∈ slots T1, i ∈ vs1) (hvv : ∀ i ∈ vs1, i ∈ own.map (·.2)) (hy : X.N[i]? = some y := by rfl) (hyl : X.env.scope.names.lookup y = some .local := by rfl)
    (hsw : swapsWith (.ListComp elt [⟨tg, iter, ifs, 0⟩, ⟨tg1, iter1, ifs1, 0⟩] scope pos) (some (.Name y py)) spos.line X.env = pure true := by exact sw_true rfl rfl rfl (by decide +kernel)) (hs : ∀ x, foldedSetIterable iter X.env x = pure x := by intro _; rfl) (hs1 : ∀ env x, foldedSetIterable iter1 env x = pure x := by intro _ _; rfl) :
    PS X (.Assign [.Name y py] (.ListComp elt [⟨tg, iter, ifs, 0⟩, ⟨tg1, iter1, ifs1, 0⟩] scope pos) spos) (SV B (wAsg (wLC2 wi T wt wi1 T1 wt1 we (own.map (·.2)) vs1) (.nm i))) :=
  (ps_setLc2 hc hN hy hyl hsw hi ok hvv hg ht hi1 hg1 ht1 he hs hs1).imp fun D σ H h => by
    obtain ⟨δ, G, E, t, re, rh, h, p⟩ := h
    exact lc2_read hT hT1 hvv ⟨δ, G, _, t, re, rh, h, fun x G1 H1 v ⟨δ2, e2, h1⟩ rh1 t1 rv => by
      have e3 : δ.set i (some x) = δ2 := Option.some.inj e2
      rw [← e3] at h1
      exact p.nx _ G1 _ H1 h1 ((re.mono t1).set i rv) rh1 t1⟩
end
end Q7

namespace Q7
open PySem PySem.Spec PyProof.Rows L2

/-! ### repr -/
theorem keys_nodict : ∀ {xs : List (Key × Value)}, PyData.hasDictAll (xs.map fun p => keyP p.1) = false
  | [] => rfl
  | p :: xs => by
    show (PyData.hasDict (keyP p.1) || PyData.hasDictAll (xs.map fun p => keyP p.1)) = false
    rw [keys_nodict]
    cases p.1 <;> rfl
section
variable {X : Cx} {pins : List (Addr × Obj)} {σ : L2.St} {H : Hp} {s : Shared} {G : DH}
theorem readAtMost_or {h : Heap} {n m : Nat} {b1 b2 : List Addr} (hb1 : ReadAtMost h n b1) (hb2 : ReadAtMost h m b2) : ReadAtMost h (max n m) (b1 ++ b2) :=
  (hb1.mono (Nat.le_max_left _ _)).append (hb2.mono (Nat.le_max_right _ _))
mutual
theorem DT.reprK (I : Inv X pins σ H s) (rh : RH H G) : ∀ (p : PyData) (d : D) (v : V) (u : Value), DT G p d → RV H d v → RelV v u → p.showable = true → p.shown.length ≤ sizeLine → ∃ bs, ReadAtMost s.heap p.depth bs ∧ ReprK X.prog X.w bs s.heap p.depth u p.shown
  | .none, d, v, u, h, r, ru, hs, hz => by
    have e := h; have e2 : d = .non := h; subst e2; have e3 : v = .non := r; subst e3
    cases (show u = Value.none from ru)
    exact ⟨[], (fun _ h => nomatch h), by simp only [PyData.shown]; exact .of_is ReprIs.none _ _ _⟩
  | .bool b, d, v, u, h, r, ru, hs, hz => by
    have e2 : d = .bl b := h; subst e2; have e3 : v = .bl b := r; subst e3
    cases (show u = Value.bool b from ru)
    exact ⟨[], (fun _ h => nomatch h), by simp only [PyData.shown]; exact .of_is (ReprIs.bool b) _ _ _⟩
  | .int i, d, v, u, h, r, ru, hs, hz => by
    have e2 : d = .int i := h; subst e2; have e3 : v = .int i := r; subst e3
    obtain ⟨t, e⟩ := (show ∃ t, u = Value.int i t from ru)
    subst e
    exact ⟨[], (fun _ h => nomatch h), by simp only [PyData.shown]; exact .of_is (ReprIs.int t (by simpa [PyData.showable] using hs)) _ _ _⟩
  | .str x, d, v, u, h, r, ru, hs, hz => by
    have e2 : d = .str x := h; subst e2; have e3 : v = .str x := r; subst e3
    obtain ⟨t, e⟩ := (show ∃ t, u = Value.str x t from ru)
    subst e
    exact ⟨[], (fun _ h => nomatch h), by simp only [PyData.shown]; exact .of_is (ReprIs.str x t (by simpa only [PyData.shown] using hz)) _ _ _⟩
  | .list ps, d, v, u, h, r, ru, hs, hz => by
    have hz' : (listText (PyData.shownAll ps)).length ≤ sizeLine := by simpa only [PyData.shown] using hz
    obtain ⟨as, rd⟩ := DT.reads I rh (.list ps) d v u h r ru
    obtain ⟨a, ds, w, ed, hg, hd⟩ := h
    subst ed
    have e3 : v = .ref a := r
    subst e3
    cases (show u = Value.ref a from ru)
    obtain ⟨vs, hsq, rvs⟩ := sq_at (K := X.K) rh ⟨w, hg⟩
    obtain ⟨its, rv, ⟨o, n, ho, hc, _, hda⟩, _⟩ := I.list hsq
    obtain ⟨bs, hb, hk⟩ := DTs.reprK I rh ps ds vs its hd rvs rv (by simpa [PyData.showable] using hs) (fun t ht => Nat.le_trans (listText_mem_le ht) hz')
    have hna : a ∉ bs := not_mem_of_deeper rd (by simp only [PyData.depth]; omega) hb
    refine ⟨a :: bs, ReadAtMost.cons rd (by simp only [PyData.depth]; omega) hb, ?_⟩
    simp only [PyData.depth, PyData.shown]
    cases its with
    | nil =>
      have hn := hk.length_eq
      have e0 : PyData.shownAll ps = [] := List.length_eq_zero_iff.mp (by simpa using hn)
      rw [e0, listText_nil]
      exact ReprK.listEmpty ho hc hda
    | cons x l => exact ReprK.list ho hc hda hna (by simpa using hk.length_eq) (fun i y e => hk.item i y (by simpa using e))
  | .tuple ps, d, v, u, h, r, ru, hs, hz => by
    have hz' : (tupleText (PyData.shownAll ps)).length ≤ sizeLine := by simpa only [PyData.shown] using hz
    obtain ⟨as, rd⟩ := DT.reads I rh (.tuple ps) d v u h r ru
    obtain ⟨ds, ed, hd⟩ := h
    subst ed
    obtain ⟨p, vs, ev, hp, rvs⟩ := r
    subst ev
    cases (show u = Value.ref p from ru)
    obtain ⟨its, rv, ⟨o, ho, hc, n, hda⟩, _⟩ := I.tuple (SqT.of hp)
    obtain ⟨bs, hb, hk⟩ := DTs.reprK I rh ps ds vs its hd rvs rv (by simpa [PyData.showable] using hs) (fun t ht => Nat.le_trans (tupleText_mem_le ht) hz')
    have hna : p ∉ bs := not_mem_of_deeper rd (by simp only [PyData.depth]; omega) hb
    refine ⟨p :: bs, ReadAtMost.cons rd (by simp only [PyData.depth]; omega) hb, ?_⟩
    simp only [PyData.depth, PyData.shown]
    exact ReprK.tuple ho hc hda hna hk
  | .dict kvs, d, v, u, h, r, ru, hs, hz => by
    have hz' : (dictText (PyData.shownKv kvs)).length ≤ sizeLine := by simpa only [PyData.shown] using hz
    obtain ⟨as, rd⟩ := DT.reads I rh (.dict kvs) d v u h r ru
    obtain ⟨a, w, ks, ed, hg, hd⟩ := h
    subst ed
    have e3 : v = .ref a := r
    subst e3
    cases (show u = Value.ref a from ru)
    obtain ⟨ws, hsq, rk⟩ := rh.atDR hg
    obtain ⟨z, lo, xs, rel, o, es, ep, ho, hx, hda, hko, hpr, hnd⟩ := dk_rd I.hok hsq
    obtain ⟨hs1, hs2⟩ := PyData.showableKv_split kvs (by simpa [PyData.showable] using hs)
    obtain ⟨b2, hb2, k2⟩ := DTk.reprK I rh kvs ks ws xs hd rk rel hs2 (fun t ht => let ⟨p, hp, hl⟩ := PyData.shownKv_val_le kvs t ht; Nat.le_trans hl (Nat.le_trans (dictText_mem_le hp) hz'))
    obtain ⟨as2, e1, _⟩ := DTk.reads I rh kvs ks ws xs hd rk rel
    obtain ⟨as3, hk⟩ := pairs_key (s := s) hpr
    rw [← e1] at hk
    obtain ⟨b1, hb1, k1⟩ := ReprAllK.of_readsAll (prog := X.prog) (w := X.w) hk hs1 (fun hx => by rw [e1, keys_nodict] at hx; cases hx) (fun t ht => let ⟨p, hp, hl⟩ := PyData.shownKv_key_le kvs t ht; Nat.le_trans hl (Nat.le_trans (dictText_mem_le hp) hz'))
    rw [← pairs_val hpr] at k2
    have hb : ReadAtMost s.heap (PyData.depthKv kvs) (b1 ++ b2) := (hb1.mono (PyData.depthAll_keys_le kvs)).append (hb2.mono (PyData.depthAll_vals_le kvs))
    have hna : a ∉ b1 ++ b2 := not_mem_of_deeper rd (by simp only [PyData.depth]; omega) hb
    refine ⟨a :: (b1 ++ b2), ReadAtMost.cons rd (by simp only [PyData.depth]; omega) hb, ?_⟩
    simp only [PyData.depth, PyData.shown, PyData.shownKv_eq]
    exact ReprK.dict ho hx.1 hda lo hna (ReprEntriesK.of_two es.toList _ _
      (k1.more_le (fun b hb => List.mem_append_left _ hb) (PyData.depthAll_keys_le kvs)) (k2.more_le (fun b hb => List.mem_append_right _ hb) (PyData.depthAll_vals_le kvs)))
theorem DTs.reprK (I : Inv X pins σ H s) (rh : RH H G) : ∀ (ps : List PyData) (ds : List D) (vs : List V) (us : List Value), DTs G ps ds → RVs H ds vs → Vals vs us → PyData.showableAll ps = true → (∀ t ∈ PyData.shownAll ps, t.length ≤ sizeLine) →
    ∃ bs, ReadAtMost s.heap (PyData.depthAll ps) bs ∧ ReprAllK X.prog X.w bs s.heap (PyData.depthAll ps) us (PyData.shownAll ps)
  | [], ds, vs, us, h, r, ru, hs, hz => by
    have e : ds = [] := h
    subst e
    have e : vs = [] := r
    subst e
    cases ru
    exact ⟨[], (fun _ h => nomatch h), by simp only [PyData.shownAll]; exact .nil⟩
  | p :: ps, ds, vs, us, h, r, ru, hs, hz => by
    obtain ⟨d, rd, e, h1, h2⟩ := h
    subst e
    obtain ⟨v, rv, e, r1, r2⟩ := r
    subst e
    have hs' : p.showable = true ∧ PyData.showableAll ps = true := by simpa [PyData.showableAll] using hs
    cases ru with
    | cons a b =>
      obtain ⟨b1, hb1, k1⟩ := DT.reprK I rh p _ _ _ h1 r1 a hs'.1 (hz _ (by simp only [PyData.shownAll]; exact List.mem_cons_self ..))
      obtain ⟨b2, hb2, k2⟩ := DTs.reprK I rh ps _ _ _ h2 r2 b hs'.2 (fun t ht => hz t (by simp only [PyData.shownAll]; exact List.mem_cons_of_mem _ ht))
      refine ⟨b1 ++ b2, readAtMost_or hb1 hb2, ?_⟩
      simp only [PyData.depthAll, PyData.shownAll]
      exact .cons ((k1.more fun b hb => List.mem_append_left _ hb).level_le (Nat.le_max_left _ _)) (k2.more_le (fun b hb => List.mem_append_right _ hb) (Nat.le_max_right _ _))
theorem DTk.reprK (I : Inv X pins σ H s) (rh : RH H G) : ∀ (kvs : List (PyData × PyData)) (ks : List (Key × D)) (ws : List (Key × V)) (xs : List (Key × Value)), DTk G kvs ks → RKs H ks ws → KV ws xs → PyData.showableAll (kvs.map (·.2)) = true → (∀ t ∈ PyData.shownAll (kvs.map (·.2)), t.length ≤ sizeLine) →
    ∃ bs, ReadAtMost s.heap (PyData.depthAll (kvs.map (·.2))) bs ∧ ReprAllK X.prog X.w bs s.heap (PyData.depthAll (kvs.map (·.2))) (xs.map (·.2)) (PyData.shownAll (kvs.map (·.2)))
  | [], ks, ws, xs, h, r, ru, hs, hz => by
    have e : ks = [] := h
    subst e
    have e : ws = [] := r
    subst e
    cases ru
    exact ⟨[], (fun _ h => nomatch h), .nil⟩
  | (k, p) :: kvs, ks, ws, xs, h, r, ru, hs, hz => by
    obtain ⟨k', d, r', e, ek, h1, h2⟩ := h
    subst e
    obtain ⟨v, rv, e, r1, r2⟩ := r
    subst e
    have hs' : p.showable = true ∧ PyData.showableAll (kvs.map (·.2)) = true := by simpa [PyData.showableAll] using hs
    cases ru with
    | cons a b =>
      obtain ⟨a1, a2⟩ := a
      obtain ⟨b1, hb1, k1⟩ := DT.reprK I rh p _ _ _ h1 r1 a2 hs'.1 (hz _ (by simp only [List.map_cons, PyData.shownAll]; exact List.mem_cons_self ..))
      obtain ⟨b2, hb2, k2⟩ := DTk.reprK I rh kvs _ _ _ h2 r2 b hs'.2 (fun t ht => hz t (by simp only [List.map_cons, PyData.shownAll]; exact List.mem_cons_of_mem _ ht))
      refine ⟨b1 ++ b2, readAtMost_or hb1 hb2, ?_⟩
      simp only [List.map_cons, PyData.depthAll, PyData.shownAll]
      exact .cons ((k1.more fun b hb => List.mem_append_left _ hb).level_le (Nat.le_max_left _ _)) (k2.more_le (fun b hb => List.mem_append_right _ hb) (Nat.le_max_right _ _))
end
def isCont : PyData → Bool
  | .list _ => true
  | .tuple _ => true
  | .dict _ => true
  | _ => false
theorem DT.shows (I : Inv X pins σ H s) (rh : RH H G) (p : PyData) (d : D) (v : V) (u : Value) (h : DT G p d) (r : RV H d v) (ru : RelV v u) (hs : p.showable = true) (hz : p.shown.length ≤ sizeLine) (hc : isCont p = true) : ∃ a T idr, u = .ref a ∧ ShowsBy X.prog X.w s.heap a p T idr := by
  cases p with
  | none => cases hc
  | bool b => cases hc
  | int i => cases hc
  | str x => cases hc
  | list ps =>
    have hz' : (listText (PyData.shownAll ps)).length ≤ sizeLine := by simpa only [PyData.shown] using hz
    obtain ⟨as, rd⟩ := DT.reads I rh (.list ps) d v u h r ru
    obtain ⟨a, ds, w, ed, hg, hd⟩ := h
    subst ed
    have e3 : v = .ref a := r
    subst e3
    cases (show u = Value.ref a from ru)
    obtain ⟨vs, hsq, rvs⟩ := sq_at (K := X.K) rh ⟨w, hg⟩
    obtain ⟨its, rv, ⟨o, n, ho, hcl, _, hda⟩, _⟩ := I.list hsq
    obtain ⟨bs, hb, hk⟩ := DTs.reprK I rh ps ds vs its hd rvs rv (by simpa [PyData.showable] using hs) (fun t ht => Nat.le_trans (listText_mem_le ht) hz')
    have hna : a ∉ bs := not_mem_of_deeper rd (by simp only [PyData.depth]; omega) hb
    refine ⟨a, "list", "list.__repr__", rfl, F.slot_list_repr.toG, F.slot_list_str, F.slot_list_format, fun s hk0 => ⟨o, hk0 _ _ ho, hcl⟩, fun A E s Q hg hu hk0 hQ => ?_⟩
    simp only [PyData.depth] at hu
    simp only [PyData.shown] at hQ
    cases its with
    | nil =>
      have hn := hk.length_eq
      have e0 : PyData.shownAll ps = [] := List.length_eq_zero_iff.mp (by simpa using hn)
      rw [e0] at hQ
      simp only [listText_nil] at hQ
      exact call_list_repr_empty ⟨o, hk0 _ _ ho, hcl⟩ (hk0 _ _ ho) hda (hQ s.heap _ _ fun _ _ e => e)
    | cons x l =>
      exact call_list_reprK ho hcl hda hna (by simpa using hk.length_eq) (fun i y e => hk.item i y (by simpa using e)) hg (fun b _ => Clear.nil b) hu hk0 hQ hz'
  | tuple ps =>
    have hz' : (tupleText (PyData.shownAll ps)).length ≤ sizeLine := by simpa only [PyData.shown] using hz
    obtain ⟨as, rd⟩ := DT.reads I rh (.tuple ps) d v u h r ru
    obtain ⟨ds, ed, hd⟩ := h
    subst ed
    obtain ⟨p, vs, ev, hp, rvs⟩ := r
    subst ev
    cases (show u = Value.ref p from ru)
    obtain ⟨its, rv, ⟨o, ho, hcl, n, hda⟩, _⟩ := I.tuple (SqT.of hp)
    obtain ⟨bs, hb, hk⟩ := DTs.reprK I rh ps ds vs its hd rvs rv (by simpa [PyData.showable] using hs) (fun t ht => Nat.le_trans (tupleText_mem_le ht) hz')
    have hna : p ∉ bs := not_mem_of_deeper rd (by simp only [PyData.depth]; omega) hb
    refine ⟨p, "tuple", "tuple.__repr__", rfl, F.slot_tuple_repr, F.slot_tuple_str, F.slot_tuple_format, fun s hk0 => ⟨o, hk0 _ _ ho, hcl⟩, fun A E s Q hg hu hk0 hQ => ?_⟩
    simp only [PyData.depth] at hu
    simp only [PyData.shown] at hQ
    exact call_tuple_reprK ho hcl hda hna hk hg (fun b _ => Clear.nil b) hu hk0 hQ hz'
  | dict kvs =>
    have hz' : (dictText (PyData.shownKv kvs)).length ≤ sizeLine := by simpa only [PyData.shown] using hz
    obtain ⟨as, rd⟩ := DT.reads I rh (.dict kvs) d v u h r ru
    obtain ⟨a, w, ks, ed, hg, hd⟩ := h
    subst ed
    have e3 : v = .ref a := r
    subst e3
    cases (show u = Value.ref a from ru)
    obtain ⟨ws, hsq, rk⟩ := rh.atDR hg
    obtain ⟨z, lo, xs, rel, o, es, ep, ho, hx, hda, hko, hpr, hnd⟩ := dk_rd I.hok hsq
    obtain ⟨hs1, hs2⟩ := PyData.showableKv_split kvs (by simpa [PyData.showable] using hs)
    obtain ⟨b2, hb2, k2⟩ := DTk.reprK I rh kvs ks ws xs hd rk rel hs2 (fun t ht => let ⟨p, hp, hl⟩ := PyData.shownKv_val_le kvs t ht; Nat.le_trans hl (Nat.le_trans (dictText_mem_le hp) hz'))
    obtain ⟨as2, e1, _⟩ := DTk.reads I rh kvs ks ws xs hd rk rel
    obtain ⟨as3, hk⟩ := pairs_key (s := s) hpr
    rw [← e1] at hk
    obtain ⟨b1, hb1, k1⟩ := ReprAllK.of_readsAll (prog := X.prog) (w := X.w) hk hs1 (fun hx => by rw [e1, keys_nodict] at hx; cases hx) (fun t ht => let ⟨p, hp, hl⟩ := PyData.shownKv_key_le kvs t ht; Nat.le_trans hl (Nat.le_trans (dictText_mem_le hp) hz'))
    rw [← pairs_val hpr] at k2
    have hb : ReadAtMost s.heap (PyData.depthKv kvs) (b1 ++ b2) := (hb1.mono (PyData.depthAll_keys_le kvs)).append (hb2.mono (PyData.depthAll_vals_le kvs))
    have hna : a ∉ b1 ++ b2 := not_mem_of_deeper rd (by simp only [PyData.depth]; omega) hb
    refine ⟨a, "dict", "dict.__repr__", rfl, F.slot_dict_repr, F.slot_dict_str, F.slot_dict_format, fun s hk0 => ⟨o, hk0 _ _ ho, hx.1⟩, fun A E s Q hg hu hk0 hQ => ?_⟩
    simp only [PyData.depth] at hu
    simp only [PyData.shown, PyData.shownKv_eq] at hQ
    exact call_dict_reprK ho hx.1 hda lo hna (ReprEntriesK.of_two es.toList _ _
      (k1.more_le (fun b hb => List.mem_append_left _ hb) (PyData.depthAll_keys_le kvs)) (k2.more_le (fun b hb => List.mem_append_right _ hb) (PyData.depthAll_vals_le kvs))) hg (fun b _ => Clear.nil b) hu hk0 hQ (by rw [← PyData.shownKv_eq]; exact hz')
end
section
variable {X : Cx}
def reprD (xs : List D) (G : DH) (Q : DK) : Prop := ∃ x p, xs = [x] ∧ DT G p x ∧ isCont p = true ∧ p.showable = true ∧ p.shown.length ≤ sizeLine ∧ p.depth ≤ 60 ∧ Q (.str p.shown) G
theorem cr_repr (hg : X.A.guards = some []) (hu : X.A.units + 64 < cLine) : CallR X (.builtin "repr") (CV reprD) := by
  intro pins s σ H xs us Q I r h
  obtain ⟨ds, G, Q1, rv, rh, ⟨x, p, ex, hd, hc, hs, hz, hdp, q⟩, po⟩ := h
  subst ex
  obtain ⟨v, e, r1⟩ := rvs1 rv
  subst e
  obtain ⟨u, rfl, ru⟩ := vals1 r
  obtain ⟨a, T, idr, eu, S⟩ := DT.shows I rh p x v u hd r1 ru hs hz hc
  subst eu
  refine call_repr_slot (by omega) (S.typeIs s fun _ _ e => e) S.slotRepr (S.call X.A.in1 X.xe s _ hg (by show X.A.units + 1 + p.depth < cLine; omega) (fun _ _ e => e) fun h' u tk hk => ⟨_, _, rfl, .str p.shown, H, I.kept hk, ⟨_, rfl⟩, po _ _ _ _ q rh (TM.refl H) rfl⟩)
/-! ### defs that use repr: the guards are known -/
structure FnOkG (P : Program) (w : World) (K : PySem.W.Frag) (mg : Str → Option Value) (base : Heap) (CX : CXT) (k : Nat) (f : Addr) (fd : FuncData) (ps : List Str) (sp : Sp) : Prop where
  len : ∀ vs H Q E, sp vs H Q E → vs.length = ps.length
  run : ∀ (A : Around) (outer : List Env) (s : Shared) (H : Hp) (args : Args) (us : List Value) (vs : List V) (Q : VK) (E : XK), A.guards = some [] → Room k A → Env0 P w K mg base A outer s H → BindsTo s fd args (ps.zip us) → Vals vs us → sp vs H Q E →
    codeAny (model P w) A (.call (.ref f) args) (CR CX outer P w H s Q E) s
theorem fn_ofG {CX : CXT} {P : Program} {w : World} {K : PySem.W.Frag} {mg : Str → Option Value} {base : Heap} {k : Nat} {f : Addr} {name qual : Str} {params : Arguments} {body : List Stmt} {scope : Scope} {dV kV doc pm cdv ct oc : Value} {an od : Option Addr}
    {osl : Array (Option Value)} {N ps : List Str} {sp : Sp} (lk : K.lookup f = some ⟨oc, od, .func (PySem.W.fnOf name qual params body scope dV kV doc pm an cdv ct), osl⟩) (hcd : PySem.W.codeIn K cdv qual = true) (S : FnScope N ps scope)
    (len : ∀ vs H Q E, sp vs H Q E → vs.length = ps.length)
    (hbody : ∀ (A : Around) (outer : List Env) (s : Shared) (H : Hp) (vs : List V) (Q : VK) (E : XK), A.guards = some [] → Room k (A.deeper (envOfC qual scope s.heap.objs.size f cdv)) → sp vs H Q E →
      ∃ t, PSs (cxOf CX P w K mg base N qual scope f cdv A outer s H E) body t ∧ t { nx := fun _ H' => Q .non H', rt := Q } (L2.start N vs) H) :
    FnOkG P w K mg base CX (k + 1) f (PySem.W.fnOf name qual params body scope dV kV doc pm an cdv ct) ps sp := by
  refine ⟨len, fun A outer s H args us vs Q E hG hr e0 hb r hsp => ?_⟩
  have hl := len _ _ _ _ hsp
  have KX : K.In s.heap := e0.mod.kin.keeps fun b o e => (e0.bs b o e).1
  have lim : s.heap.NoLimit := e0.mod.nolimit.keeps fun b o e => (e0.bs b o e).1
  have hkind : ∀ y ∈ ps.zip us, scope.names.lookup y.1 = some .local ∨ (scope.names.lookup y.1 = some .cell ∧ ((cellsFrom (s.heap.objs.size + 1) scope.names []).lookup y.1).isSome = true) := fun ⟨n, v⟩ hy => by
    rcases S.par n (List.of_mem_zip hy).1 with q | q
    · exact .inl q
    · exact .inr ⟨q, PySem.W.cellsFrom_some _ _ _ (.inl q)⟩
  refine codeAny_call_function hr.depth (KX _ _ lk) rfl S.co S.gen rfl (PySem.W.codeRec_of KX hcd) (hb _ _ _ _ ?_)
  refine wpAny_newFunctionEnv_cells S.kind hkind fun env he s1 x => ?_
  subst he
  refine ⟨lim.keeps x.toInCall.keep, codeAny_func ?_⟩
  obtain ⟨t, ht, hq⟩ := hbody A outer s H vs Q E hG (hr.deeper _) hsp
  have I : Inv (cxOf CX P w K mg base N qual scope f cdv A outer s H E) [] (L2.start N vs) H s1 := inv_start S hr.hd e0 hl r x
  refine wpAny_mono (ht.run [] s1 (L2.start N vs) H _ I hq) (fun fl s' hs => ?_) fun e s' hs => hs
  have fin : ∀ {σ' : L2.St} {H' : Hp} {v : V} {u : Value}, Inv (cxOf CX P w K mg base N qual scope f cdv A outer s H E) [] σ' H' s' → RelV v u → Q v H' → CE outer P w H s Q u s' :=
    fun {σ' H' v u} J rv q => ⟨v, H', J.os, J.bare, J.base, J.hok, rv, q⟩
  cases fl with
  | ret u =>
    obtain ⟨v, σ', H', J, rv, q⟩ := hs
    exact fin J rv q
  | next =>
    obtain ⟨σ', H', J, q⟩ := hs
    exact fin (v := V.non) (u := Value.none) J rfl q
  | brk =>
    obtain ⟨_, _, _, q⟩ := hs
    exact False.elim q
  | cont =>
    obtain ⟨_, _, _, q⟩ := hs
    exact False.elim q
end
end Q7

namespace Q7
open PySem PySem.Spec PyProof.Rows L2

/-! ### operators, all at once -/
section
variable {X : Cx}
def dEq (x y : D) (G : DH) (Q : DK) : Prop := dEqS x y G Q ∨ dEqP x y G Q ∨ dEqK false x y G Q
def dNe (x y : D) (G : DH) (Q : DK) : Prop := dNeS x y G Q ∨ dNeP x y G Q ∨ dEqK true x y G Q
def dLtA (x y : D) (G : DH) (Q : DK) : Prop := dLt x y G Q ∨ dLtP x y G Q
def dIn (x y : D) (G : DH) (Q : DK) : Prop := inD false x y G Q ∨ inP false x y G Q
def dNotIn (x y : D) (G : DH) (Q : DK) : Prop := inD true x y G Q ∨ inP true x y G Q
theorem ov_eq (hu : X.A.units + 66 < cLine) : OpR X (compareOp .Eq) (OV dEq) := OVor ov_eqS (OVor (ov_eqP (by omega)) (ov_eqK (by omega)))
theorem ov_ne (hu : X.A.units + 66 < cLine) : OpR X (compareOp .NotEq) (OV dNe) := OVor ov_neS (OVor (ov_neP (by omega)) (ov_neK (by omega)))
theorem ov_ltA (hu : X.A.units + 66 < cLine) : OpR X (compareOp .Lt) (OV dLtA) := OVor ov_lt (ov_ltP (by omega))
theorem ov_inA (hu : X.A.units + 66 < cLine) : OpR X (compareOp .In) (OV dIn) := OVor (ov_in (by omega)) (ov_inP (by omega))
theorem ov_notInA (hu : X.A.units + 66 < cLine) : OpR X (compareOp .NotIn) (OV dNotIn) := OVor (ov_notIn (by omega)) (ov_notInP (by omega))
theorem rm66 {k : Nat} (h : Room k X.A) : X.A.units + 66 < cLine := by have := h.un; omega
theorem rm64 {k : Nat} (h : Room k X.A) : X.A.units + 64 < cLine := by have := h.un; omega
theorem rm1 {k : Nat} (h : Room k X.A) : X.A.units + 1 < cLine := by have := h.un; omega
end
/-! ### names -/
section
variable {X : Cx} {B : Hp} {pos : Pos}
theorem ev_tyn {x : Str} {T : String} (hg : Gl X x) (hm : X.mg x = none) (hv : bootBuiltins x = some (.type T)) (hn : x ≠ "__name__" := by decide) (hd : (x == ("__debug__" : Str)) = false := by decide) : PE X (.Name x pos) (EV B (wC (.ty T))) := ev_c (pe_bltn hg hm hv (v := .ty T) rfl hn hd) fun _ => rfl
theorem ev_own {x : Str} {C : Addr} (hg : Gl X x) (hm : X.mg x = some (.ref C)) (hd : (x == ("__debug__" : Str)) = false := by decide) : PE X (.Name x pos) (EV B (wC (.ref C))) := ev_c (pe_glob hg hm (v := .ref C) rfl hd) fun _ => rfl
theorem ev_gstr {x z : Str} {t : Tok} (hg : Gl X x) (hm : X.mg x = some (.str z t)) (hd : (x == ("__debug__" : Str)) = false := by decide) : PE X (.Name x pos) (EV B (wC (.str z))) := ev_c (pe_glob hg hm (v := .str z) ⟨t, rfl⟩ hd) fun _ => rfl
theorem ev_gint {x : Str} {z : Int} {t : Tok} (hg : Gl X x) (hm : X.mg x = some (.int z t)) (hd : (x == ("__debug__" : Str)) = false := by decide) : PE X (.Name x pos) (EV B (wC (.int z))) := ev_c (pe_glob hg hm (v := .int z) ⟨t, rfl⟩ hd) fun _ => rfl
end
/-! a dict is frozen as it is looked at -/
section
variable {X : Cx} {B : Hp} {e : Expr} {w : WE}
def wLk (w : WE) : WE := fun δ G Q => w δ G fun x G1 => Q x G1 ∨ ∃ a kvs, x = .ref a ∧ G1.ob a = some (.dct true kvs) ∧ Q x (G1.put a (.dct false kvs))
theorem ev_lk (h : PE X e (EV B w)) : PE X e (EV B (wLk w)) := by
  refine ⟨fun pins s σ H Q I hw => ?_⟩
  obtain ⟨δ, G, Q1, t, re, rh, hw, p⟩ := hw
  refine thn (h.run pins s σ H (fun v H' => Q v H' ∨ ∃ a ws, v = .ref a ∧ H' a = some (.dK ws) ∧ ∀ od, Q v (upd H' a (.frz od (.dK ws)))) I ⟨δ, G, _, t, re, rh, hw, fun x G1 H1 v h1 rh1 t1 rv => ?_⟩) fun u s1 ⟨v, H1, I1, r1, q⟩ => ?_
  · rcases h1 with h1 | ⟨a, kvs, ex, ha, h1⟩
    · exact .inl (p _ _ _ _ h1 rh1 t1 rv)
    · subst ex
      have e1 : v = .ref a := rv
      subst e1
      obtain ⟨ws, hh, rk⟩ := rh1.atD ha
      refine .inr ⟨a, ws, rfl, hh, fun od => ?_⟩
      obtain ⟨rh2, t2⟩ := fz_rh (od := od) rh1 ha hh rk
      exact p _ _ _ _ h1 rh2 (t1.trans t2) rfl
  · rcases q with q | ⟨a, ws, ev, hh, q⟩
    · exact ⟨v, H1, I1, r1, q⟩
    · obtain ⟨od, I2⟩ := I1.lock hh trivial
      exact ⟨v, _, I2, r1, q od⟩
end
/-! ### defs with the guards known -/
structure FnG (P : Program) (w : World) (K : PySem.W.Frag) (mg : Str → Option Value) (base : Heap) (x : Str) (st : Stmt) (ps : List Str) (k : Nat) (sp : DSp) : Prop where
  ex : ∃ f fd, mg x = some (.ref f) ∧ FunD K x x (defArgs st) (defBody st) (defScope st) [] [] f fd ∧ Binds K fd ps [] ∧ FnOkG P w K mg base CX0 k f fd ps (SPV sp)
theorem fnOkG_of {P : Program} {w : World} {K : PySem.W.Frag} {mg : Str → Option Value} {base : Heap} {qual x : Str} {params : Arguments} {body : List Stmt} {scope : Scope} {f : Addr} {fd : FuncData} {N ps : List Str} {k : Nat} {sp : DSp} {wb : WS} (F : FunD K x qual params body scope [] [] f fd) (S : FnScope N ps scope)
    (len : ∀ ds G Q E, sp ds G Q E → ds.length = ps.length)
    (dv : ∀ (cdv : Value) (A : Around) (outer : List Env) (s : Shared) (H : Hp) (E : XK), A.guards = some [] → Room k (A.deeper (envOfC qual scope s.heap.objs.size f cdv)) → PSs (cxOf CX0 P w K mg base N qual scope f cdv A outer s H E).nox body (SV H wb))
    (pure : ∀ ds G Q E, sp ds G Q E → wb { nx := fun _ G' => Q .non G', rt := Q } (startD N ds) G) : FnOkG P w K mg base CX0 (k + 1) f fd ps (SPV sp) := by
  obtain ⟨oc, od, dV, kV, doc, pm, an, cdv, ct, osl, rfl, lk, hcd, _, _⟩ := F.ex
  refine fn_ofG lk hcd S (fun vs H Q E h => ?_) (fun A outer s H vs Q E hG hr h => ?_)
  · obtain ⟨ds, G, Q1, E1, r, rh, h, _⟩ := h
    rw [r.length, len ds G Q1 E1 h]
  · obtain ⟨ds, G, Q1, E1, r, rh, h, p, _⟩ := h
    refine ⟨_, (dv cdv A outer s H E hG hr).nox, startD N ds, G, _, TM.refl H, r.start N, rh, pure ds G Q1 E1 h, ⟨?_, ?_, ?_, ?_⟩⟩
    · exact fun δ' G' σ' H' n _ rh' t' => p .non G' H' .non n rh' t' rfl
    · exact fun v G' H' x h1 rh' t' rv => p v G' H' x h1 rh' t' rv
    · exact fun _ _ _ _ n _ _ _ => n
    · exact fun _ _ _ _ n _ _ _ => n
section
variable {X : Cx} {B : Hp} {e : Expr} {es : List Expr} {pos p : Pos} {ws : WA} {x : Str} {st : Stmt} {ps : List Str} {k j : Nat} {sp : DSp}
theorem ev_fnG (F : FnG X.prog X.w X.K X.mg X.base x st ps k sp) (hG : X.A.guards = some []) (hr : Room j X.A) (hg : Gl X x) (ha : PA X (e :: es) (AV B ws)) (hkj : k ≤ j := by decide)
    (hdb : (x == ("__debug__" : Str)) = false := by decide) (hs : starEach (e :: es) X.env = (false, eval e X.env) :: starEach es X.env := by rfl) (h2 : (backTo pos (starEach es X.env)).any (·.1) = false := by rfl) : PE X (.Call (.Name x p) (e :: es) [] pos) (EV B (wCall sp DX0 ws)) := by
  obtain ⟨f, fd, hm, hF, hb, hok⟩ := F.ex
  refine ⟨fun pins s σ H Q I h => ?_⟩
  refine wpAny_Call_Name_kw (ld_glob I hg hm ?_ hdb)
  refine PySem.W.callWith_K (h₀ := X.base) I.ok.mod.kin hF.kp ?_ hs h2
  obtain ⟨δ, G, Q1, t, re, rh, h, pq⟩ := h
  refine thn (ha.run pos pins s σ H (fun vs H1 => SPV sp vs H1 Q E0) I ⟨δ, G, _, t, re, rh, h, fun xs G1 H1 vs h1 rh1 t1 rvs => ⟨xs, G1, Q1, DX0, rvs, rh1, h1, pq.after t1, PostX.zero⟩⟩) fun us s1 ⟨vs, H1, I1, r, q⟩ => ⟨I1.kIn, ?_⟩
  have hl : us.length = ps.length := by rw [← r.length]; exact hok.len _ _ _ _ q
  have hb' : BindsTo s1 fd ⟨us, []⟩ (ps.zip us) := by
    have := hb s1 us I1.kIn (by rw [List.append_nil]; exact hl)
    rwa [List.append_nil] at this
  refine wpAny_call (codeAny_mono (hok.run X.A X.stack s1 H1 ⟨us, []⟩ us vs Q E0 hG (hr.mono hkj) I1.env0 hb' r q) fun r s' hq => ?_)
  cases r with
  | error e => exact pass0 pins σ H1 s1 e s' I1 hq
  | ok fl =>
    cases fl with
    | ret u => exact I1.after hq
    | next => exact False.elim hq
    | brk => exact False.elim hq
    | cont => exact False.elim hq
end
/-- the names of built-ins are free -/
structure Bl (mg : Str → Option Value) : Prop where
  abs : mg "abs" = none
  all : mg "all" = none
  any : mg "any" = none
  bool : mg "bool" = none
  dict : mg "dict" = none
  enumerate : mg "enumerate" = none
  int : mg "int" = none
  isinstance : mg "isinstance" = none
  len : mg "len" = none
  list : mg "list" = none
  max : mg "max" = none
  min : mg "min" = none
  range : mg "range" = none
  repr : mg "repr" = none
  sorted : mg "sorted" = none
  str : mg "str" = none
  sum : mg "sum" = none
  tuple : mg "tuple" = none
  zip : mg "zip" = none
abbrev cx (P : Program) (w : World) (K : PySem.W.Frag) (mg : Str → Option Value) (base : Heap) (N : List Str) (x : Str) (st : Stmt) (f : Addr) (cdv : Value) (A : Around) (outer : List Env) (s : Shared) (H : Hp) (E : XK) : Cx :=
  (cxOf CX0 P w K mg base N x (defScope st) f cdv A outer s H E).nox
end Q7

namespace Q7
open PySem PySem.Spec PyProof.Rows L2

/-! ### dict displays -/
section
variable {X : Cx} {B : Hp} {pos : Pos} {k v : Expr} {ks : List (Option Expr)} {vs : List Expr} {wk wv : WE} {ws : List (WE × WE)}
def wEmp : WE := fun _ G Q => ∀ p, G.ob p = none → Q (.ref p) (G.put p (.dct true []))
theorem ev_emp : PE X (.Dict [] [] pos) (EV B wEmp) := pe_dnewK.imp fun σ H Q ⟨δ, G, Q1, t, re, rh, h, p⟩ => fun q hq => p _ _ _ _ (h q (rh.free hq)) (rh.newD hq RKs.nil) (TM.new hq) rfl
def wPairs : List (WE × WE) → DEnv → DH → (List (D × D) → DH → Prop) → Prop
  | [], _, G, Q => Q [] G
  | (wk, wv) :: r, δ, G, Q => wk δ G fun x G1 => wv δ G1 fun y G2 => wPairs r δ G2 fun ps G3 => Q ((x, y) :: ps) G3
def trsOf (B : Hp) (ws : List (WE × WE)) : List (TE × TE) := ws.map fun p => (EV B p.1, EV B p.2)
theorem dp_nil : PPs X pos [] [] (trsOf B []) := pps_nil
theorem dp_cons (hk : PE X k (EV B wk)) (hv : PE X v (EV B wv)) (hr : PPs X pos ks vs (trsOf B ws)) : PPs X pos (some k :: ks) (v :: vs) (trsOf B ((wk, wv) :: ws)) := pps_cons hk hv hr
def RPs (H : Hp) : List (D × D) → List (V × V) → Prop
  | [], vs => vs = []
  | p :: ps, vs => ∃ x y r, vs = (x, y) :: r ∧ RV H p.1 x ∧ RV H p.2 y ∧ RPs H ps r
theorem RPs.mono {H H' : Hp} (t : TM H H') : ∀ {ps : List (D × D)} {vs : List (V × V)}, RPs H ps vs → RPs H' ps vs
  | [], _, h => h
  | p :: ps, _, ⟨x, y, r, e, h1, h2, h3⟩ => ⟨x, y, r, e, RV.mono t _ _ h1, RV.mono t _ _ h2, RPs.mono t h3⟩
theorem pairs_read : ∀ (ws : List (WE × WE)) {σ : L2.St} {H : Hp} {δ : DEnv} {G : DH} {Q1 : List (D × D) → DH → Prop} {Q : List (V × V) → Hp → Prop}, TM B H → RE H δ σ → RH H G → wPairs ws δ G Q1 →
    (∀ ps G' H' vs, Q1 ps G' → RH H' G' → TM H H' → RPs H' ps vs → Q vs H') → tPairs (trsOf B ws) σ H Q
  | [], σ, H, δ, G, Q1, Q, t, re, rh, h, p => p [] G H [] h rh (TM.refl H) rfl
  | (wk, wv) :: r, σ, H, δ, G, Q1, Q, t, re, rh, h, p => by
    refine ⟨δ, G, _, t, re, rh, h, fun x G1 H1 v h1 rh1 t1 rv => ⟨δ, G1, _, t.trans t1, re.mono t1, rh1, h1, fun y G2 H2 u h2 rh2 t2 ru => ?_⟩⟩
    refine pairs_read r (t.trans (t1.trans t2)) (re.mono (t1.trans t2)) rh2 h2 fun ps G' H' vs q rh' t' rp => ?_
    exact p _ G' H' _ q rh' (t1.trans (t2.trans t')) ⟨v, u, vs, rfl, RV.mono (t2.trans t') _ _ rv, RV.mono t' _ _ ru, rp⟩
def wDisp (ws : List (WE × WE)) : WE := fun δ G Q => ∀ p, G.ob p = none → wPairs ws δ (G.put p (.dct true [])) fun ps G2 => ∃ kvs : List (Key × D), ps = kvs.map (fun kv => (kD kv.1, kv.2)) ∧ G2.ob p = some (.dct true []) ∧ kvs.length ≤ 15 ∧ Q (.ref p) (G2.put p (.dct true (mergeA [] kvs)))
theorem RPs.keyed {H : Hp} : ∀ {kvs : List (Key × D)} {vs : List (V × V)}, RPs H (kvs.map fun kv => (kD kv.1, kv.2)) vs → ∃ ws : List (Key × V), vs = ws.map (fun kv => (kV kv.1, kv.2)) ∧ RKs H kvs ws
  | [], vs, h => by
    have e : vs = [] := h
    exact ⟨[], e, rfl⟩
  | p :: kvs, vs, h => by
    obtain ⟨x, y, r, e, h1, h2, h3⟩ := h
    obtain ⟨ws, e2, rk⟩ := RPs.keyed h3
    refine ⟨(p.1, y) :: ws, ?_, y, ws, rfl, h2, rk⟩
    rw [e, e2, kD_rv h1]
    rfl
theorem ev_disp (h : PPs X pos ks vs (trsOf B ws)) (hall : ks.all (·.isSome) = true := by rfl) (hl : ks.length = vs.length := by rfl) (h0 : ks ≠ [] := by exact fun z => nomatch z) (h15 : ks.length ≤ 15 := by decide) : PE X (.Dict ks vs pos) (EV B (wDisp ws)) :=
  (pe_disp h hall hl h0 h15).imp fun σ H Q ⟨δ, G, Q1, t, re, rh, hw, p⟩ => fun q hq => by
    have tq := TM.new (o := .dK []) hq
    refine pairs_read ws (t.trans tq) (re.mono tq) (rh.newD hq RKs.nil) (hw q (rh.free hq)) fun ps G' H' vs ⟨kvs, ep, hg, hl, h1⟩ rh' t' rp => ?_
    subst ep
    obtain ⟨us, ev, rk⟩ := rp.keyed
    subst ev
    obtain ⟨w0, hh, r0⟩ := rh'.atD hg
    have e0 : w0 = [] := r0
    subst e0
    refine ⟨hh, us, rfl, by rw [rk.length]; exact hl, ?_⟩
    exact p _ _ _ _ h1 (rh'.writeD hg hh (RKs.merge rk RKs.nil)) ((tq.trans t').trans (rh'.write_tm hg hh)) rfl
end
end Q7

namespace Q7
open PySem PySem.Spec PyProof.Rows L2

/-! ### what is no longer told -/
structure Sub (G0 G : DH) : Prop where
  ob : ∀ a o, G0.ob a = some o → G.ob a = some o
  st : ∀ S, G0.st = some S → G.st = some S
theorem Sub.refl (G : DH) : Sub G G := ⟨fun _ _ h => h, fun _ h => h⟩
theorem Sub.trans {A B C : DH} (h : Sub A B) (h' : Sub B C) : Sub A C := ⟨fun a o e => h'.ob a o (h.ob a o e), fun S e => h'.st S (h.st S e)⟩
theorem Sub.none {A B : DH} {p : Addr} (h : Sub A B) (e : B.ob p = none) : A.ob p = none := by
  cases q : A.ob p with
  | none => rfl
  | some o => rw [h.ob p o q] at e; cases e
theorem Sub.put {A B : DH} (h : Sub A B) (p : Addr) (o : DO) : Sub (A.put p o) (B.put p o) := ⟨fun a u e => by
  by_cases ha : a = p
  · subst ha
    rw [DH.put_same] at e ⊢
    exact e
  · rw [DH.put_ne ha] at e ⊢
    exact h.ob a u e, fun S e => h.st S e⟩
theorem Sub.new {A B : DH} (h : Sub A B) {p : Addr} {o : DO} (e : B.ob p = Option.none) : Sub A (B.put p o) := by
  refine ⟨fun a u q => ?_, fun S e => h.st S e⟩
  have q' := h.ob a u q
  rw [DH.put_ne]
  · exact q'
  · intro z
    subst z
    rw [e] at q'
    cases q'
theorem Sub.over {A B : DH} (h : Sub A B) {p : Addr} {o : DO} (e : A.ob p = Option.none) : Sub A (B.put p o) := by
  refine ⟨fun a u q => ?_, fun S e => h.st S e⟩
  have q' := h.ob a u q
  rw [DH.put_ne]
  · exact q'
  · intro z
    subst z
    rw [e] at q
    cases q
theorem Sub.stm {A B : DH} (h : Sub A B) (S : Option Stm) : Sub { A with st := S } { B with st := S } := ⟨h.ob, fun _ e => e⟩
theorem RH.sub {H : Hp} {G0 G : DH} (h : Sub G0 G) (r : RH H G) : RH H G0 := ⟨fun a o e => r.ob a o (h.ob a o e), fun S e => by
  obtain ⟨h1, h2, h3, h4, h5⟩ := r.st S (h.st S e)
  exact ⟨h1, h.none h2, h.none h3, h4, h5⟩⟩
/-- a promise that forgets -/
def fg (Q : DK) : DK := fun v G => ∃ G0, Sub G0 G ∧ Q v G0
theorem Post.fg {H : Hp} {Q1 : DK} {Q : VK} (p : Post H Q1 Q) : Post H (fg Q1) Q := fun v G' H' x ⟨G0, hs, q⟩ rh t rv => p v G0 H' x q (rh.sub hs) t rv
theorem fnOk_fg {P : Program} {w : World} {K : PySem.W.Frag} {mg : Str → Option Value} {base : Heap} {qual x : Str} {params : Arguments} {body : List Stmt} {scope : Scope} {f : Addr} {fd : FuncData} {N ps : List Str} {k : Nat} {sp : DSp} {wb : WS} (F : FunD K x qual params body scope [] [] f fd) (S : FnScope N ps scope)
    (len : ∀ ds G Q E, sp ds G Q E → ds.length = ps.length)
    (dv : ∀ (cdv : Value) (A : Around) (outer : List Env) (s : Shared) (H : Hp) (E : XK), Room k (A.deeper (envOfC qual scope s.heap.objs.size f cdv)) → PSs (cxOf CX0 P w K mg base N qual scope f cdv A outer s H E).nox body (SV H wb))
    (pure : ∀ ds G Q E, sp ds G Q E → wb { nx := fun _ G' => fg Q .non G', rt := fg Q } (startD N ds) G) : FnOk P w K mg base CX0 (k + 1) f fd ps (SPV sp) := by
  have h1 : FnOk P w K mg base CX0 (k + 1) f fd ps (SPV fun ds G Q E => ∃ Q0, sp ds G Q0 E ∧ Q = fg Q0) := fnOk_of (wb := wb) F S (fun ds G Q E ⟨Q0, h, _⟩ => len ds G Q0 E h) dv fun ds G Q E ⟨Q0, h, e⟩ => by
    subst e
    exact pure ds G Q0 E h
  refine h1.imp fun vs H Q E ⟨ds, G, Q1, E1, r, rh, h, p, px⟩ => ⟨ds, G, fg Q1, E1, r, rh, ⟨Q1, h, rfl⟩, p.fg, px⟩
theorem fnOkG_fg {P : Program} {w : World} {K : PySem.W.Frag} {mg : Str → Option Value} {base : Heap} {qual x : Str} {params : Arguments} {body : List Stmt} {scope : Scope} {f : Addr} {fd : FuncData} {N ps : List Str} {k : Nat} {sp : DSp} {wb : WS} (F : FunD K x qual params body scope [] [] f fd) (S : FnScope N ps scope)
    (len : ∀ ds G Q E, sp ds G Q E → ds.length = ps.length)
    (dv : ∀ (cdv : Value) (A : Around) (outer : List Env) (s : Shared) (H : Hp) (E : XK), A.guards = some [] → Room k (A.deeper (envOfC qual scope s.heap.objs.size f cdv)) → PSs (cxOf CX0 P w K mg base N qual scope f cdv A outer s H E).nox body (SV H wb))
    (pure : ∀ ds G Q E, sp ds G Q E → wb { nx := fun _ G' => fg Q .non G', rt := fg Q } (startD N ds) G) : FnOkG P w K mg base CX0 (k + 1) f fd ps (SPV sp) := by
  have h1 : FnOkG P w K mg base CX0 (k + 1) f fd ps (SPV fun ds G Q E => ∃ Q0, sp ds G Q0 E ∧ Q = fg Q0) := fnOkG_of (wb := wb) F S (fun ds G Q E ⟨Q0, h, _⟩ => len ds G Q0 E h) dv fun ds G Q E ⟨Q0, h, e⟩ => by
    subst e
    exact pure ds G Q0 E h
  refine ⟨fun vs H Q E ⟨ds, G, Q1, E1, r, rh, h, p, px⟩ => by rw [r.length, len ds G Q1 E1 h], fun A outer s H args us vs Q E hG hr e0 hb rv ⟨ds, G, Q1, E1, r, rh, h, p, px⟩ => ?_⟩
  exact h1.run A outer s H args us vs Q E hG hr e0 hb rv ⟨ds, G, fg Q1, E1, r, rh, ⟨Q1, h, rfl⟩, p.fg, px⟩
/-- .. after a statement a dict may be frozen, things may be forgotten -/
def lkS (N : DEnv → DH → Prop) : DEnv → DH → Prop := fun δ G => N δ G ∨ ∃ a kvs, G.ob a = some (.dct true kvs) ∧ N δ (G.put a (.dct false kvs))
def wLkS (u : WS) : WS := fun E δ G => u { E with nx := lkS E.nx } δ G
theorem sv_lk {X : Cx} {B : Hp} {st : Stmt} {u : WS} (h : PS X st (SV B u)) : PS X st (SV B (wLkS u)) := by
  refine ⟨fun pins s σ H D I hw => ?_⟩
  obtain ⟨δ, G, E, t, re, rh, hw, p⟩ := hw
  refine thn (h.run pins s σ H { D with nx := fun σ' H' => D.nx σ' H' ∨ ∃ a ws, H' a = some (.dK ws) ∧ ∀ od, D.nx σ' (upd H' a (.frz od (.dK ws))) } I ⟨δ, G, _, t, re, rh, hw, ⟨?_, p.rt, p.bk, p.ct⟩⟩) fun fl s' hq => ?_
  · intro δ' G' σ' H' n re' rh' t'
    rcases n with n | ⟨a, kvs, ha, n⟩
    · exact .inl (p.nx _ _ _ _ n re' rh' t')
    · obtain ⟨ws, hh, rk⟩ := rh'.atD ha
      refine .inr ⟨a, ws, hh, fun od => ?_⟩
      obtain ⟨rh2, t2⟩ := fz_rh (od := od) rh' ha hh rk
      exact p.nx _ _ _ _ n (re'.mono t2) rh2 (t'.trans t2)
  · cases fl with
    | next =>
      obtain ⟨σ', H', I', q⟩ := hq
      rcases q with q | ⟨a, ws, hh, q⟩
      · exact ⟨σ', H', I', q⟩
      · obtain ⟨od, I2⟩ := I'.lock hh trivial
        exact ⟨σ', _, I2, q od⟩
    | ret u => exact hq
    | brk => exact hq
    | cont => exact hq
/-- the promise that a body makes -/
def wSp (ar : Nat) (N : List Str) (w : WS) : DSp := fun ds G Q _ => ds.length = ar ∧ w { nx := fun _ G' => fg Q .non G', rt := fg Q } (startD N ds) G
/-! ### comprehensions whose items are values -/
section
variable {T : Tgt} {wt : WT} {we wk wv : WE} {vs : List Nat} {δ : DEnv} {G1 : DH} {S : DH → Prop} {items : List D} {Q : DK}
theorem Sub.again {A B : DH} {p : Addr} {o o' : DO} (h : Sub (A.put p o) B) : Sub (A.put p o') (B.put p o') := by
  refine ⟨fun a u e => ?_, fun S e => h.st S e⟩
  by_cases ha : a = p
  · subst ha
    rw [DH.put_same] at e ⊢
    exact e
  · rw [DH.put_ne ha] at e ⊢
    exact h.ob a u (by rw [DH.put_ne ha]; exact e)
def LcBody (T : Tgt) (wt : WT) (we : WE) (vs : List Nat) (δ : DEnv) (Q : DK) (S : DH → Prop) (items : List D) (G1 : DH) : Prop :=
  ∀ p, G1.ob p = none → ∃ I : Nat → DH → Prop, I 0 (G1.put p (.lst true [])) ∧ (∀ i G', I i G' → S G') ∧
  (∀ i x G', items[i]? = some x → I i G' → ∃ δ2, asg G' T x (wipeD δ vs) = some δ2 ∧ wt δ2 G' fun b G2 => if b = true then we δ2 G2 fun y G3 => ∃ acc, G3.ob p = some (.lst true acc) ∧ acc.length < sizeLine ∧ I (i + 1) (G3.put p (.lst true (acc ++ [y]))) else I (i + 1) G2) ∧
  (∀ G', I items.length G' → Q (.ref p) G')
theorem lcI (f : D → Option D) (hS : ∀ G', Sub G1 G' → S G') (hl : items.length ≤ sizeLine)
    (step : ∀ (i : Nat) (x : D) (G' : DH) (N : DH → Prop) (Y : DK), items[i]? = some x → Sub G1 G' → (∀ G2, Sub G' G2 → f x = none → N G2) → (∀ y G3, Sub G' G3 → f x = some y → Y y G3) → ∃ δ2, asg G' T x (wipeD δ vs) = some δ2 ∧ wt δ2 G' fun b G2 => if b = true then we δ2 G2 Y else N G2)
    (fin : ∀ p G', G1.ob p = none → Sub (G1.put p (.lst true (items.filterMap f))) G' → Q (.ref p) G') : LcBody T wt we vs δ Q S items G1 := by
  intro p hp
  have s1 : ∀ ds, Sub G1 (G1.put p (.lst true ds)) := fun ds => (Sub.refl G1).new hp
  refine ⟨fun i G' => Sub (G1.put p (.lst true ((items.take i).filterMap f))) G', by show Sub _ _; rw [List.take_zero]; exact Sub.refl _, fun i G' h => hS G' ((s1 _).trans h), fun i x G' hx h => ?_, fun G' h => fin p G' hp (by have h' : Sub _ _ := h; rw [List.take_length] at h'; exact h')⟩
  have hlt : i < items.length := (List.getElem?_eq_some_iff.mp hx).1
  have htk : items.take (i + 1) = items.take i ++ [x] := by rw [List.take_add_one, hx]; rfl
  refine step i x G' _ _ hx ((s1 _).trans h) (fun G2 s2 h3 => ?_) (fun y G3 s3 h4 => ?_)
  · show Sub _ _
    rw [htk, List.filterMap_append]
    have e1 : List.filterMap f [x] = [] := by simp [h3]
    rw [e1, List.append_nil]
    exact h.trans s2
  · refine ⟨_, s3.ob _ _ (h.ob _ _ DH.put_same), ?_, ?_⟩
    · have := List.length_filterMap_le f (items.take i)
      rw [List.length_take] at this
      omega
    · show Sub _ _
      rw [htk, List.filterMap_append]
      have e1 : List.filterMap f [x] = [y] := by simp [h4]
      rw [e1]
      exact (h.trans s3).again
def DcBody (T : Tgt) (wt : WT) (wk wv : WE) (vs : List Nat) (δ : DEnv) (Q : DK) (S : DH → Prop) (items : List D) (G1 : DH) : Prop :=
  ∀ p, G1.ob p = none → ∃ I : Nat → DH → Prop, I 0 (G1.put p (.dct true [])) ∧ (∀ i G', I i G' → S G') ∧
  (∀ i x G', items[i]? = some x → I i G' → ∃ δ2, asg G' T x (wipeD δ vs) = some δ2 ∧ wt δ2 G' fun b G2 => if b = true then wk δ2 G2 fun y G3 => wv δ2 G3 fun z G4 => ∃ k acc, y = kD k ∧ G4.ob p = some (.dct true acc) ∧ acc.length < sizeLine ∧ I (i + 1) (G4.put p (.dct true (putA acc k z))) else I (i + 1) G2) ∧
  (∀ G', I items.length G' → Q (.ref p) G')
def dcAcc (f : D → Option (Key × D)) (xs : List D) : List (Key × D) := (xs.filterMap f).foldl (fun acc kv => putA acc kv.1 kv.2) []
theorem length_putA {κ β : Type} [DecidableEq κ] (kvs : List (κ × β)) (k : κ) (v : β) : (putA kvs k v).length ≤ kvs.length + 1 := by
  unfold putA
  split
  · rw [List.length_map]; omega
  · rw [List.length_append]; exact Nat.le_refl _
theorem length_foldA {κ β : Type} [DecidableEq κ] : ∀ (xs : List (κ × β)) (acc : List (κ × β)), (xs.foldl (fun acc kv => putA acc kv.1 kv.2) acc).length ≤ acc.length + xs.length
  | [], acc => Nat.le_refl _
  | x :: xs, acc => by
    have h1 := length_foldA xs (putA acc x.1 x.2)
    have h2 := length_putA acc x.1 x.2
    rw [List.foldl_cons, List.length_cons]
    omega
theorem dcI (f : D → Option (Key × D)) (hS : ∀ G', Sub G1 G' → S G') (hl : items.length ≤ sizeLine)
    (step : ∀ (i : Nat) (x : D) (G' : DH) (N : DH → Prop) (Y : D → D → DH → Prop), items[i]? = some x → Sub G1 G' → (∀ G2, Sub G' G2 → f x = none → N G2) → (∀ k z G3, Sub G' G3 → f x = some (k, z) → Y (kD k) z G3) → ∃ δ2, asg G' T x (wipeD δ vs) = some δ2 ∧ wt δ2 G' fun b G2 => if b = true then wk δ2 G2 fun y G3 => wv δ2 G3 fun z G4 => Y y z G4 else N G2)
    (fin : ∀ p G', G1.ob p = none → Sub (G1.put p (.dct true (dcAcc f items))) G' → Q (.ref p) G') : DcBody T wt wk wv vs δ Q S items G1 := by
  intro p hp
  have s1 : ∀ ds, Sub G1 (G1.put p (.dct true ds)) := fun ds => (Sub.refl G1).new hp
  refine ⟨fun i G' => Sub (G1.put p (.dct true (dcAcc f (items.take i)))) G', by show Sub _ _; rw [List.take_zero]; exact Sub.refl _, fun i G' h => hS G' ((s1 _).trans h), fun i x G' hx h => ?_, fun G' h => fin p G' hp (by have h' : Sub _ _ := h; rw [List.take_length] at h'; exact h')⟩
  have hlt : i < items.length := (List.getElem?_eq_some_iff.mp hx).1
  have htk : items.take (i + 1) = items.take i ++ [x] := by rw [List.take_add_one, hx]; rfl
  refine step i x G' _ _ hx ((s1 _).trans h) (fun G2 s2 h3 => ?_) (fun k z G3 s3 h4 => ?_)
  · show Sub _ _
    unfold dcAcc
    rw [htk, List.filterMap_append]
    have e1 : List.filterMap f [x] = [] := by simp [h3]
    rw [e1, List.append_nil]
    exact h.trans s2
  · refine ⟨k, _, rfl, s3.ob _ _ (h.ob _ _ DH.put_same), ?_, ?_⟩
    · have h5 := List.length_filterMap_le f (items.take i)
      have h6 := length_foldA ((items.take i).filterMap f) []
      rw [List.length_take] at h5
      unfold dcAcc
      simp only [List.length_nil] at h6
      omega
    · show Sub _ _
      have e1 : dcAcc f (items.take (i + 1)) = putA (dcAcc f (items.take i)) k z := by
        unfold dcAcc
        rw [htk, List.filterMap_append, List.foldl_append]
        simp [h4]
      rw [e1]
      exact (h.trans s3).again
end
end Q7

namespace Q7
open PySem PySem.Spec PyProof.Rows L2

/-! ### the stream, the law -/
def spStream (K : PySem.W.Frag) : Sp := fun vs H Q _ => ∃ (a : Addr) (ns : List Int), vs = [.ref a] ∧ SqL K H a (ns.map V.int) ∧ ∀ l p, H l = none → p ≠ l → H p = none → Q (.ref p) (upd (upd H l (.lst (ns.map V.int))) p (.lst [.ref l, .int 0, .int 0, .int 19]))
theorem stream_pure {K : PySem.W.Frag} {N : List Str} {vs : List V} {H : Hp} {Q : VK} {E : XK} (h : spStream K vs H Q E) (T : Ends) (hT : T.rt = Q) : tRet (tLst (tCons (tCB (fun xs H Q => ∃ p ys, xs = [.ref p] ∧ (SqL K H p ys ∨ SqT K H p ys) ∧ ∀ l, H l = none → Q (.ref l) (upd H l (.lst ys))) (tCons (tVar 0) tNil)) (tCons (tC (.int 0)) (tCons (tC (.int 0)) (tCons (tC (.int 19)) tNil))))) T (L2.start N vs) H := by
  obtain ⟨a, ns, ev, hs, q⟩ := h
  subst ev
  refine ⟨.ref a, rfl, a, ns.map V.int, rfl, .inl hs, fun l hl => ⟨by show 4 ≤ sizeLine; decide, fun p hp => ?_⟩⟩
  rw [hT]
  have hne : p ≠ l := fun z => by subst z; rw [upd_same] at hp; cases hp
  exact q l p hl hne (by rw [upd_ne hne] at hp; exact hp)
/-- what the law's body, behind the stream, must do -/
def lawStart (N : List Str) (a p : Addr) : DEnv := (startD N [.ref a]).set 1 (some (.ref p))
def lawHeap (p l : Addr) (ns : List Int) : DH := ⟨some ⟨p, l, ns, 0, 0, 19⟩, fun _ => none⟩
def LawPure (N : List Str) (w : WS) : Prop := ∀ (a p l : Addr) (ns : List Int), ns.length ≤ 63 → p ≠ l → w { nx := fun _ _ => False, rt := fun v _ => v = .bl true } (lawStart N a p) (lawHeap p l ns)
def spLaw (K : PySem.W.Frag) : Sp := fun vs H Q _ => ∃ (a : Addr) (ns : List Int), vs = [.ref a] ∧ SqL K H a (ns.map V.int) ∧ ns.length ≤ 63 ∧ ∀ H', Q (.bl true) H'
theorem law_pure {K : PySem.W.Frag} {N : List Str} {w : WS} {vs : List V} {H : Hp} {Q : VK} {E : XK} (h : spLaw K vs H Q E) (pw : LawPure N w) (h2 : 2 ≤ N.length) {e0 : XK} :
    tSeq (tAsg (tCall (spStream K) [] e0 (tCons (tVar 0) tNil)) (gName 1)) (SV (fun _ => none) w) { nx := fun _ H' => Q .non H', rt := Q } (L2.start N vs) H := by
  obtain ⟨a, ns, ev, hs, hl, q⟩ := h
  subst ev
  have hv : (L2.start N [.ref a])[0]? = some (some (.ref a)) := rfl
  refine ⟨.ref a, hv, a, ns, rfl, hs, fun l p hn hne hp => ?_⟩
  refine ⟨lawStart N a p, lawHeap p l ns, _, ⟨fun _ _ z => (nomatch z), fun _ _ _ z => (nomatch z)⟩, ?_, ⟨fun _ _ z => (nomatch z), fun S e => ?_⟩, pw a p l ns hl hne, ⟨?_, ?_, ?_, ?_⟩⟩
  · exact (RVs.start (H := upd (upd H l (.lst (ns.map V.int))) p (.lst [.ref l, .int 0, .int 0, .int 19])) N (RVs.cons (d := .ref a) (v := .ref a) rfl RVs.nil)).set 1 (d := .ref p) (v := .ref p) rfl
  · cases e
    exact ⟨hne, rfl, rfl, upd_same, by rw [upd_ne hne.symm]; exact upd_same⟩
  · exact fun _ _ _ _ n _ _ _ => n.elim
  · intro v G' H' x e _ _ rv
    subst e
    have e2 : x = .bl true := rv
    subst e2
    exact q H'
  · exact fun _ _ _ _ n _ _ _ => n
  · exact fun _ _ _ _ n _ _ _ => n
theorem law_callG {P : Program} {w : World} {K : PySem.W.Frag} {mg mb : Str → Option Value} {CX : CXT} {k : Nat} {fa a : Addr} {fd : FuncData} {x : Str} {sp : Sp} {s₁ : Shared} {vs : List Value} {ns : List Int}
    (KX : K.In s₁.heap) (hns : s₁.heap.Ns mainGlobals mg) (hb : s₁.heap.Ns builtinsNs mb) (hbb : ∀ x : Str, x ≠ "__name__" → mb x = bootBuiltins x) (hlim : s₁.heap.NoLimit) (hg : s₁.gens = #[])
    (ha : s₁.heap.get? a = some { cls := .type "list", data := .seq vs.toArray }) (hi : IntsAre vs ns) (hl : ns.length ≤ sizeLine) (hr : Room k callerA)
    (F : ∀ base : Heap, K.In base → base.Ns mainGlobals mg → FnOkG P w K mg base CX k fa fd [x] sp) (hbind : ∀ (s : Shared) (u : Value), BindsTo s fd ⟨[u], []⟩ [(x, u)])
    (hsp : ∀ H : Hp, Only H → SqL K H a (ns.map V.int) → sp [.ref a] H (fun v _ => v = .bl true) fun _ _ _ => False)
    (hCX : ∀ H e s', CX [] H s₁ (fun _ _ _ => False) e s' → False) :
    codeAny (model P w) callerA (.call (.ref fa) ⟨[.ref a], []⟩) (fun r s' => r = .ok (.ret (.bool true)) ∧ OldK s₁.heap s'.heap ∧ s'.os = s₁.os ∧ AllBare s'.gens) s₁ := by
  have rv := vals_ints hi
  have lenV := hi.length
  -- from an abstract heap in which nothing but the script may be tracked
  have core : ∀ H : Hp, Only H → SqL K H a (ns.map V.int) → HOk P w H s₁.heap → (∀ b, H b ≠ none → b = a) → (H a ≠ none → K.lookup a = none) →
      codeAny (model P w) callerA (.call (.ref fa) ⟨[.ref a], []⟩) (fun r s' => r = .ok (.ret (.bool true)) ∧ OldK s₁.heap s'.heap ∧ s'.os = s₁.os ∧ AllBare s'.gens) s₁ := by
    intro H hO hS hok hA hK
    have base_of : ∀ {b : Addr} {o : Obj}, s₁.heap.get? b = some o → H b = none → (hidT s₁.heap H).get? b = some o := fun e n => hidT_get e n
    have noA : ∀ {b : Addr} {o : Obj} {es : Array DictEntry} {ep : Nat}, s₁.heap.get? b = some o → o.data = .dict es ep → H b = none := fun {b o es ep} e d => by
      cases q : H b with
      | none => rfl
      | some u =>
        have e' : b = a := hA b (by rw [q]; simp)
        subst e'
        rw [ha] at e; cases e
        have d' : Data.seq vs.toArray _ = Data.dict es ep := d
        cases d'
    have nsK : ∀ {b : Addr} {m : Str → Option Value}, s₁.heap.Ns b m → (hidT s₁.heap H).Ns b m := fun {b m} ⟨o, es, ep, e, d, r⟩ => ⟨o, es, ep, base_of e (noA e d), d, r⟩
    have hKb : K.In (hidT s₁.heap H) := fun b o e => base_of (KX b o e) (by
      cases q : H b with
      | none => rfl
      | some u =>
        have e' : b = a := hA b (by rw [q]; simp)
        subst e'
        rw [hK (by rw [q]; simp)] at e; cases e)
    have hM : Mod K mg (hidT s₁.heap H) := ⟨hKb, nsK hns, ⟨mb, nsK hb, hbb⟩, let ⟨mc, h1, h2⟩ := hlim; ⟨mc, nsK h1, h2⟩⟩
    have e0 : Env0 P w K mg (hidT s₁.heap H) callerA [] s₁ H := ⟨rfl, hM, fun b o e => of_hidT e, Nat.le_of_eq (hidT_size _ _), trivial, fun b hb => absurd (show b ∈ ([] : List Addr) from hb) (by simp), hok, .of_eq hg⟩
    refine codeAny_mono ((F _ hKb (nsK hns)).run callerA [] s₁ H ⟨[.ref a], []⟩ [.ref a] [.ref a] _ _ rfl hr e0 (hbind s₁ (.ref a)) (.cons rfl .nil) (hsp H hO hS)) fun r s' h => ?_
    cases r with
    | error e => exact (hCX H e s' h).elim
    | ok fl =>
      cases fl with
      | next => exact False.elim h
      | brk => exact False.elim h
      | cont => exact False.elim h
      | ret u =>
        obtain ⟨v, H', os, bare, un, hok', r', q⟩ := h
        have q' : v = .bl true := q
        subst q'
        obtain rfl : u = Value.bool true := r'
        refine ⟨rfl, OldK.of_keep fun b o e => ?_, os, bare⟩
        cases q : H b with
        | none => exact un.keep b o e q (by intro z; exact absurd (show b ∈ ([] : List Addr) from z) (by simp)) (by simp)
        | some u =>
          rcases hO b with z | ⟨ob, xs, z⟩
          · rw [q] at z; cases z
          · have z2 := un.frzs b ob _ z
            obtain ⟨e1, _⟩ := hok b _ z
            obtain ⟨e2, _⟩ := hok' b _ z2
            rw [e] at e1; cases e1
            exact e2
  cases hk : K.lookup a with
  | some o =>
    -- the script is one of the module's own objects
    have e := KX a o hk
    rw [ha] at e
    cases e
    refine core (fun _ => none) (fun _ => .inl rfl) (.inr ⟨_, vs.toArray, _, hk, rfl, rfl, rfl, by rw [List.size_toArray, lenV]; exact hl, by simpa using rv⟩) (fun b u z => by have z' : (none : Option HO) = some u := z; cases z') (fun b z => absurd rfl z) fun z => absurd rfl z
  | none =>
    refine core (fun b => if b = a then some (.frz { cls := .type "list", data := .seq vs.toArray } (.lst (ns.map V.int))) else none) (fun b => ?_) (.inl (.inr ⟨{ cls := .type "list", data := .seq vs.toArray }, if_pos rfl⟩)) (fun b u z => ?_) (fun b z => ?_) fun _ => hk
    · by_cases hb : b = a
      · exact .inr ⟨_, _, if_pos hb⟩
      · exact .inl (if_neg hb)
    · by_cases hb : b = a
      · have z' := (if_pos hb).symm.trans z
        cases z'
        subst hb
        exact ⟨ha, by rw [List.length_map]; exact hl, vs, _, rv, ha⟩
      · have z' := (if_neg hb).symm.trans z
        cases z'
    · by_cases hb : b = a
      · exact hb
      · exact absurd (if_neg hb) z

theorem walk_ofG {l : PySem.W.OpenLaw} {k : Nat} {q : Program} {loose : List Str} {XP : (Str → Option Value) → Heap → Prop} {YP : World → Heap → Prop} {d : DefRec} {x : Str}
    (hn : l.most = some 63) (hdf : d.params.defaults = []) (hr : Room k callerA)
    (F : ∀ (w : World) (mg : Str → Option Value) (fa : Addr) (h : Heap), YP w h → h.Ns mainGlobals mg → mg d.name = some (.ref fa) →
      ∃ (K : PySem.W.Frag) (fd : FuncData), K.In h ∧ (∀ (s : Shared) (u : Value), BindsTo s fd ⟨[u], []⟩ [(x, u)]) ∧
        ∀ base : Heap, K.In base → base.Ns mainGlobals mg → FnOkG l.prog w K mg base CX0 k fa fd [x] (spLaw K)) :
    PySem.W.WalkO q loose XP YP l.row.toRowW d [] (fun f vs => PySem.call f vs) := by
  refine Att.attach_call hn hdf fun w s₀ s₁ mg mb fa o pm cd doc a vs ns G Y ho hd hcd hmg hobj hints hlen hg => ?_
  obtain ⟨K, fd, KX, hb, hF⟩ := F w mg fa _ Y G.T.g hmg
  exact law_callG KX G.T.g G.T.b G.T.builtins G.T.nolimit hg hobj hints (Nat.le_trans hlen (by decide)) hr hF hb (fun H _ hS => ⟨a, ns, rfl, hS, hlen, fun _ => rfl⟩) fun _ _ _ z => z
end Q7

namespace Q7
open PySem PySem.Spec PyProof.Rows L2

/-! ### steps -/
section
variable {δ : DEnv} {G : DH} {Q : DK} {i j k n : Int} {a b p : Addr} {d v x y : D} {ds es : List D} {w : Bool} {z s t : Str} {kvs : List (Key × D)} {E : DEnds}
theorem x_var {m : Nat} (h : δ[m]? = some (some d)) (q : Q d G) : wVar m δ G Q := ⟨d, h, q⟩
theorem x_ixL (h : G.ob a = some (.lst w ds)) (e : atI ds i = some v) (q : Q v G) : ixD (.ref a) (.int i) G Q := .inl ⟨a, ds, i, v, rfl, ⟨w, h⟩, rfl, e, q⟩
theorem x_ixT (e : atI ds i = some v) (q : Q v G) : ixD (.tup ds) (.int i) G Q := .inr (.inl ⟨ds, i, v, rfl, rfl, e, q⟩)
theorem x_ixS {c : Nat} (hl : z.length ≤ sizeLine) (e : atI z.cps.toList i = some c) (q : Q (.str ⟨#[c]⟩) G) : ixD (.str z) (.int i) G Q := .inr (.inr (.inl ⟨z, i, c, rfl, rfl, hl, e, q⟩))
theorem x_ixD {key : Key} (h : G.ob a = some (.dct w kvs)) (e : valA kvs key = some v) (q : Q v G) : ixD (.ref a) (kD key) G Q := .inr (.inr (.inr ⟨a, w, kvs, key, v, rfl, h, rfl, e, q⟩))
theorem x_eqI (q : Q (.bl (decide (i = j))) G) : dEq (.int i) (.int j) G Q := .inl ⟨_, rfl, q⟩
theorem x_eqS (q : Q (.bl (decide (s = t))) G) : dEq (.str s) (.str t) G Q := .inl ⟨_, rfl, q⟩
theorem x_neI (q : Q (.bl (!decide (i = j))) G) : dNe (.int i) (.int j) G Q := .inl ⟨_, rfl, q⟩
theorem x_neS (q : Q (.bl (!decide (s = t))) G) : dNe (.str s) (.str t) G Q := .inl ⟨_, rfl, q⟩
theorem x_ltI (q : Q (.bl (decide (i < j))) G) : dLtA (.int i) (.int j) G Q := .inl (.inl ⟨i, j, rfl, rfl, q⟩)
theorem x_ltS (q : Q (.bl (strLt s t)) G) : dLtA (.str s) (.str t) G Q := .inl (.inr ⟨s, t, rfl, rfl, q⟩)
theorem x_geI (q : Q (.bl (decide (j ≤ i))) G) : dGe (.int i) (.int j) G Q := ⟨i, j, rfl, rfl, trivial, q⟩
theorem x_gtI (q : Q (.bl (decide (j < i))) G) : dGt (.int i) (.int j) G Q := ⟨i, j, rfl, rfl, trivial, q⟩
theorem x_leI (q : Q (.bl (decide (i ≤ j))) G) : dLe (.int i) (.int j) G Q := ⟨i, j, rfl, rfl, trivial, q⟩
theorem x_addI (q : Q (.int (i + j)) G) : dAdd (.int i) (.int j) G Q := .inl ⟨i, j, rfl, rfl, q⟩
theorem x_addS (h : s.length + t.length ≤ sizeLine) (q : Q (.str (s ++ t)) G) : dAdd (.str s) (.str t) G Q := .inr (.inl ⟨s, t, rfl, rfl, h, q⟩)
theorem x_addL (h : G.ob a = some (.lst true ds)) (h' : G.ob b = some (.lst true es)) (hl : ds.length + es.length ≤ sizeLine) (q : ∀ p, G.ob p = none → Q (.ref p) (G.put p (.lst true (ds ++ es)))) : dAdd (.ref a) (.ref b) G Q := .inr (.inr (.inl ⟨a, b, ds, es, rfl, rfl, h, h', hl, q⟩))
theorem x_subI (q : Q (.int (i - j)) G) : dSub (.int i) (.int j) G Q := ⟨i, j, rfl, rfl, trivial, q⟩
theorem x_modI (h : 0 < j) (q : Q (.int (i % j)) G) : dMod (.int i) (.int j) G Q := ⟨i, j, rfl, rfl, h, q⟩
theorem x_divI (h : 0 < j) (h' : j < 1073741824) (q : Q (.int (i / j)) G) : dDiv (.int i) (.int j) G Q := ⟨i, j, rfl, rfl, ⟨h, h'⟩, q⟩
theorem x_powI (h : CPow i j) (q : Q (.int (i ^ j.toNat)) G) : dPow (.int i) (.int j) G Q := ⟨i, j, rfl, rfl, h, q⟩
theorem x_mulI (h : CMul i j) (q : Q (.int (i * j)) G) : dMul (.int i) (.int j) G Q := .inl ⟨i, j, rfl, rfl, h, q⟩
theorem x_negI (q : Q (.int (-i)) G) : dNeg (.int i) G Q := ⟨i, rfl, q⟩
theorem x_isN (q : Q (.bl (isNonD x)) G) : dIsN x .non G Q := ⟨rfl, q⟩
theorem x_notN (q : Q (.bl (!isNonD x)) G) : dNotN x .non G Q := ⟨rfl, q⟩
theorem x_int (q : Q (.int i) G) : intD [.int i] G Q := .inl ⟨i, rfl, q⟩
theorem x_abs (q : Q (.int (if i < 0 then -i else i)) G) : absD [.int i] G Q := ⟨i, rfl, q⟩
theorem x_lenL (h : G.ob a = some (.lst w ds)) (q : Q (.int ds.length) G) : lenD [.ref a] G Q := .inl ⟨a, ds, rfl, ⟨w, h⟩, q⟩
theorem x_lenT (q : Q (.int ds.length) G) : lenD [.tup ds] G Q := .inr (.inl ⟨ds, rfl, q⟩)
theorem x_lenS (h : z.length ≤ sizeLine) (q : Q (.int z.length) G) : lenD [.str z] G Q := .inr (.inr (.inl ⟨z, rfl, h, q⟩))
theorem x_lenD (h : G.ob a = some (.dct w kvs)) (q : Q (.int kvs.length) G) : lenD [.ref a] G Q := .inr (.inr (.inr ⟨a, w, kvs, rfl, h, q⟩))
theorem x_setL {m : Nat} {N : DH → Prop} (h : G.ob a = some (.lst true ds)) (e : ixN ds.length i = some m) (q : N (G.put a (.lst true (ds.set m v)))) : setD (.ref a) (.int i) v G N := .inl ⟨a, ds, i, m, rfl, h, rfl, e, q⟩
theorem x_setD {key : Key} {N : DH → Prop} (h : G.ob a = some (.dct true kvs)) (hl : kvs.length < sizeLine) (q : N (G.put a (.dct true (putA kvs key v)))) : setD (.ref a) (kD key) v G N := .inr ⟨a, kvs, key, rfl, h, rfl, hl, q⟩
theorem DTs.ints {G : DH} : ∀ ns : List Int, DTs G (ns.map PyData.int) (ns.map D.int)
  | [] => rfl
  | n :: ns => ⟨_, _, rfl, rfl, DTs.ints ns⟩
theorem plain_ints : ∀ ns : List Int, PyData.plainAll (ns.map PyData.int) = true
  | [] => rfl
  | n :: ns => by
    show (PyData.plain (.int n) && PyData.plainAll (ns.map PyData.int)) = true
    rw [plain_ints ns]; rfl
theorem eqv_nil (ps : List PyData) : PyData.eqv (.list ps) (.list []) = ps.isEmpty := by
  cases ps with
  | nil => simp [PyData.eqv, PyData.eqvAll]
  | cons p ps => simp [PyData.eqv, PyData.eqvAll]
theorem x_neE {ps : List PyData} {w' : Bool} (h : G.ob a = some (.lst w ds)) (hp : G.ob p = some (.lst w' [])) (hd : DTs G ps ds) (pl : PyData.plainAll ps = true) (q : Q (.bl (!ds.isEmpty)) G) : dNe (.ref a) (.ref p) G Q := by
  refine .inr (.inl ⟨.list ps, .list [], ⟨a, ds, w, rfl, h, hd⟩, ⟨p, [], w', rfl, hp, rfl⟩, by simp only [PyData.plain]; exact pl, rfl, ?_, ?_⟩)
  · have : (PyData.list []).depth ≤ 64 := by decide
    omega
  · rw [eqv_nil]
    have : ps.isEmpty = ds.isEmpty := by
      have := hd.length
      cases ps <;> cases ds <;> simp_all
    rw [this]; exact q
end
theorem DH.put_put {G : DH} {a : Addr} {o o' : DO} : (G.put a o).put a o' = G.put a o' := by
  unfold DH.put
  simp
  funext b
  by_cases h : b = a
  · simp [h]
  · simp [h]
theorem DH.put_comm {G : DH} {a b : Addr} {o o' : DO} (h : a ≠ b) : (G.put a o).put b o' = (G.put b o').put a o := by
  unfold DH.put
  simp
  funext c
  by_cases h1 : c = a
  · by_cases h2 : c = b
    · exact absurd (h1.symm.trans h2) h
    · simp [h1, h2, h]
  · by_cases h2 : c = b
    · subst h2
      simp [h1]
    · simp [h1, h2]
/-! ### the stream, closed and open -/
structure Stm.ok (S : Stm) (n : Int) : Prop where
  h1 : 0 ≤ S.s1
  h3 : 0 ≤ S.s3 ∧ S.s3 < 2147483629
  h2 : 0 ≤ S.s2 ∧ S.s2 ≤ n
def Stm.lst (S : Stm) : DO := .lst true [.ref S.l, .int S.s1, .int S.s2, .int S.s3]
def Stm.ints (S : Stm) : DO := .lst true (S.cs.map D.int)
def opn (G : DH) (S : Stm) : DH := ⟨none, fun b => if b = S.a then some S.lst else if b = S.l then some S.ints else G.ob b⟩
theorem opn_a {G : DH} {S : Stm} : (opn G S).ob S.a = some S.lst := by unfold opn; simp
theorem opn_l {G : DH} {S : Stm} (h : S.a ≠ S.l) : (opn G S).ob S.l = some S.ints := by unfold opn; simp [h.symm]
theorem opn_ne {G : DH} {S : Stm} {b : Addr} (h : b ≠ S.a) (h' : b ≠ S.l) : (opn G S).ob b = G.ob b := by unfold opn; simp [h, h']
theorem RH.opn {H : Hp} {G : DH} {S : Stm} (r : RH H G) (e : G.st = some S) : RH H (opn G S) := by
  obtain ⟨h1, h2, h3, h4, h5⟩ := r.st S e
  refine ⟨fun a o q => ?_, fun S' z => (nomatch z)⟩
  by_cases ha : a = S.a
  · subst ha
    rw [opn_a] at q
    cases q
    exact RO.lstT h4 (RVs.cons (d := .ref S.l) (v := .ref S.l) rfl (RVs.cons (d := .int S.s1) (v := .int S.s1) rfl (RVs.cons (d := .int S.s2) (v := .int S.s2) rfl (RVs.cons (d := .int S.s3) (v := .int S.s3) rfl RVs.nil))))
  · by_cases hl : a = S.l
    · subst hl
      rw [opn_l h1] at q
      cases q
      exact RO.lstT h5 (RVs.of_int S.cs)
    · rw [opn_ne ha hl] at q
      exact r.ob a o q
theorem RH.cls {H : Hp} {G G' : DH} {S : Stm} (r : RH H G') (h1 : S.a ≠ S.l) (ha : G'.ob S.a = some S.lst) (hl : G'.ob S.l = some S.ints) (h2 : G.ob S.a = none) (h3 : G.ob S.l = none) (sub : ∀ a o, G.ob a = some o → G'.ob a = some o) : RH H { G with st := some S } := by
  refine ⟨fun a o e => r.ob a o (sub a o e), fun S' e => ?_⟩
  cases e
  obtain ⟨vs, q1, q2⟩ := r.atL ha
  obtain ⟨us, q3, q4⟩ := r.atL hl
  obtain ⟨v1, r1, e1, t1, v2, r2, e2, t2, v3, r3, e3, t3, v4, r4, e4, t4, e5⟩ := q2
  have e5' : r4 = [] := e5
  subst e5'; subst e4; subst e3; subst e2; subst e1
  have f1 : v1 = .ref S.l := t1
  have f2 : v2 = .int S.s1 := t2
  have f3 : v3 = .int S.s2 := t3
  have f4 : v4 = .int S.s3 := t4
  subst f1; subst f2; subst f3; subst f4
  have f5 := q4.map_int
  subst f5
  exact ⟨h1, h2, h3, q1, q3⟩
def spDraw : DSp := fun ds G Q _ => ∃ (S : Stm) (many n : Int), G.st = some S ∧ S.ok n ∧ n < 1099511627776 ∧ ds = [.ref S.a, .int many] ∧ 1 ≤ many ∧ many < 1073741824 ∧
  ∀ (d : Int) (S' : Stm), 0 ≤ d → d < many → S'.a = S.a → S'.l = S.l → S'.ok (n + 1) → Q (.int d) { G with st := some S' }
/-- what the body does, the stream open -/
def DrawOpen (w : WS) (N : List Str) : Prop := ∀ (S : Stm) (many n : Int) (G : DH) (R : DK), S.a ≠ S.l → G.ob S.a = some S.lst → G.ob S.l = some S.ints → S.ok n → n < 1099511627776 → 1 ≤ many → many < 1073741824 →
  (∀ (d : Int) (S' : Stm) (G' : DH), 0 ≤ d → d < many → S'.a = S.a → S'.l = S.l → S'.ok (n + 1) → G'.ob S.a = some S'.lst → G'.ob S.l = some S'.ints → (∀ b o, b ≠ S.a → b ≠ S.l → G.ob b = some o → G'.ob b = some o) → R (.int d) G') →
  w { nx := fun _ G' => R .non G', rt := R } (startD N [.ref S.a, .int many]) G
theorem ok_draw {P : Program} {w : World} {K : PySem.W.Frag} {mg : Str → Option Value} {base : Heap} {k : Nat} {f : Addr} {fd : FuncData} {ps : List Str} {wb : WS} {N : List Str} (F : FnOk P w K mg base CX0 k f fd ps (SPV (wSp 2 N wb))) (h : DrawOpen wb N) : FnOk P w K mg base CX0 k f fd ps (SPV spDraw) := by
  refine F.imp fun vs H Q E ⟨ds, G, Q1, E1, r, rh, ⟨S, many, n, e, ok, hn, ed, m1, m2, q⟩, p, px⟩ => ?_
  subst ed
  obtain ⟨h1, h2, h3, _, _⟩ := rh.st S e
  refine ⟨_, opn G S, fun v G' => ∃ (d : Int) (S' : Stm), v = .int d ∧ 0 ≤ d ∧ d < many ∧ S'.a = S.a ∧ S'.l = S.l ∧ S'.ok (n + 1) ∧ G'.ob S.a = some S'.lst ∧ G'.ob S.l = some S'.ints ∧ ∀ b o, b ≠ S.a → b ≠ S.l → (opn G S).ob b = some o → G'.ob b = some o, E1, r, rh.opn e, ⟨rfl, ?_⟩, ?_, px⟩
  · refine h S many n _ _ h1 opn_a (opn_l h1) ok hn m1 m2 fun d S' G' d1 d2 a1 a2 ok' g1 g2 g3 => ⟨G', Sub.refl _, d, S', rfl, d1, d2, a1, a2, ok', g1, g2, g3⟩
  · rintro v G' H' x ⟨d, S', ev, d1, d2, a1, a2, ok', g1, g2, g3⟩ rh' t rv
    subst ev
    refine p _ _ _ _ (q d S' d1 d2 a1 a2 ok') (rh'.cls (by rw [a1, a2]; exact h1) (by rw [a1]; exact g1) (by rw [a2]; exact g2) (by rw [a1]; exact h2) (by rw [a2]; exact h3) fun b o hb => ?_) t rv
    have n1 : b ≠ S.a := fun z => by subst z; rw [h2] at hb; cases hb
    have n2 : b ≠ S.l := fun z => by subst z; rw [h3] at hb; cases hb
    exact g3 b o n1 n2 (by rw [opn_ne n1 n2]; exact hb)
end Q7

namespace Q7
open PySem PySem.Spec PyProof.Rows L2

def top (i : Nat) : Stmt := PySem.Challenge.pw_handcounts_k87_whole_joined_and_crossed.main.body.getD i (.Pass ⟨0, 0, 0, 0⟩)

section
variable {P : Program} {w : World} {K : PySem.W.Frag} {mg : Str → Option Value} {base : Heap} {f : Addr} {cdv : Value} {A : Around} {outer : List Env} {s : Shared} {H : Hp} {E : XK} {B : Hp}

def N_is_list : List Str := ["thing"]
theorem sc_is_list : FnScope N_is_list ["thing"] (defScope (top 2)) := ⟨rfl, rfl, rfl, by decide +kernel, rfl, by decide +kernel, by decide +kernel⟩
def w_is_list (K : PySem.W.Frag) : WS := (wRet (wCB (isD K) (wCons (wVar 0) (wCons (wTup (wCons (wC (.ty "list")) (wCons (wC (.ty "tuple")) wNil))) wNil))))
def sp_is_list (K : PySem.W.Frag) : DSp := wSp 1 N_is_list (w_is_list K)
theorem dv_is_list (b : Bl mg)  (hr : Room 0 (A.deeper (envOfC "is_list" (defScope (top 2)) s.heap.objs.size f cdv))) : PSs (cx P w K mg base N_is_list "is_list" (top 2) f cdv A outer s H E) (defBody (top 2)) (SV B (w_is_list K)) :=
  (ss_one (sv_ret (ev_cb cr_isi rfl b.isinstance boot_isinstance (av_cons (ev_var 0) (av_cons (ev_tup (av_cons (ev_tyn rfl b.list boot_list) (av_cons (ev_tyn rfl b.tuple boot_tuple) av_nil))) av_nil)))))
theorem ok_is_list {fd : FuncData} (b : Bl mg)  (F : FunD K "is_list" "is_list" (defArgs (top 2)) (defBody (top 2)) (defScope (top 2)) [] [] f fd) : FnOk P w K mg base CX0 1 f fd ["thing"] (SPV (sp_is_list K)) :=
  fnOk_fg (k := 0) F sc_is_list (fun _ _ _ _ h => h.1) (fun cdv A outer s H E hr => dv_is_list (cdv := cdv) (A := A) (outer := outer) (s := s) (H := H) (E := E) b  hr) fun _ _ _ _ h => h.2
def N_is_whole : List Str := ["thing"]
theorem sc_is_whole : FnScope N_is_whole ["thing"] (defScope (top 3)) := ⟨rfl, rfl, rfl, by decide +kernel, rfl, by decide +kernel, by decide +kernel⟩
def w_is_whole (K : PySem.W.Frag) : WS := (wRet (wAndV (wCB (isD K) (wCons (wVar 0) (wCons (wC (.ty "int")) wNil))) (wNotV (wCB (isD K) (wCons (wVar 0) (wCons (wC (.ty "bool")) wNil))))))
def sp_is_whole (K : PySem.W.Frag) : DSp := wSp 1 N_is_whole (w_is_whole K)
theorem dv_is_whole (b : Bl mg)  (hr : Room 0 (A.deeper (envOfC "is_whole" (defScope (top 3)) s.heap.objs.size f cdv))) : PSs (cx P w K mg base N_is_whole "is_whole" (top 3) f cdv A outer s H E) (defBody (top 3)) (SV B (w_is_whole K)) :=
  (ss_one (sv_ret (ev_and (ev_cb cr_isi rfl b.isinstance boot_isinstance (av_cons (ev_var 0) (av_cons (ev_tyn rfl b.int boot_int) av_nil))) (ev_one (ev_not (ev_cb cr_isi rfl b.isinstance boot_isinstance (av_cons (ev_var 0) (av_cons (ev_tyn rfl b.bool boot_bool) av_nil))))))))
theorem ok_is_whole {fd : FuncData} (b : Bl mg)  (F : FunD K "is_whole" "is_whole" (defArgs (top 3)) (defBody (top 3)) (defScope (top 3)) [] [] f fd) : FnOk P w K mg base CX0 1 f fd ["thing"] (SPV (sp_is_whole K)) :=
  fnOk_fg (k := 0) F sc_is_whole (fun _ _ _ _ h => h.1) (fun cdv A outer s H E hr => dv_is_whole (cdv := cdv) (A := A) (outer := outer) (s := s) (H := H) (E := E) b  hr) fun _ _ _ _ h => h.2
def N_is_number : List Str := ["thing"]
theorem sc_is_number : FnScope N_is_number ["thing"] (defScope (top 4)) := ⟨rfl, rfl, rfl, by decide +kernel, rfl, by decide +kernel, by decide +kernel⟩
def w_is_number (K : PySem.W.Frag) : WS := (wRet (wAndV (wCall (sp_is_whole K) DX0 (wCons (wVar 0) wNil)) (wOp dGe (wVar 0) (wC (.int 0)))))
def sp_is_number (K : PySem.W.Frag) : DSp := wSp 1 N_is_number (w_is_number K)
theorem dv_is_number (b : Bl mg) (F_is_whole : Fn P w K mg base "is_whole" (top 3) ["thing"] 1 (sp_is_whole K)) (hr : Room 1 (A.deeper (envOfC "is_number" (defScope (top 4)) s.heap.objs.size f cdv))) : PSs (cx P w K mg base N_is_number "is_number" (top 4) f cdv A outer s H E) (defBody (top 4)) (SV B (w_is_number K)) :=
  (ss_one (sv_ret (ev_and (ev_fn F_is_whole hr rfl (av_cons (ev_var 0) av_nil)) (ev_one (ev_cmp ov_ge (ev_var 0) ev_int)))))
theorem ok_is_number {fd : FuncData} (b : Bl mg) (F_is_whole : Fn P w K mg base "is_whole" (top 3) ["thing"] 1 (sp_is_whole K)) (F : FunD K "is_number" "is_number" (defArgs (top 4)) (defBody (top 4)) (defScope (top 4)) [] [] f fd) : FnOk P w K mg base CX0 2 f fd ["thing"] (SPV (sp_is_number K)) :=
  fnOk_fg (k := 1) F sc_is_number (fun _ _ _ _ h => h.1) (fun cdv A outer s H E hr => dv_is_number (cdv := cdv) (A := A) (outer := outer) (s := s) (H := H) (E := E) b F_is_whole hr) fun _ _ _ _ h => h.2
def N_is_row : List Str := ["thing", "many"]
theorem sc_is_row : FnScope N_is_row ["thing", "many"] (defScope (top 5)) := ⟨rfl, rfl, rfl, by decide +kernel, rfl, by decide +kernel, by decide +kernel⟩
def w_is_row (K : PySem.W.Frag) : WS := (wRet (wAndV (wCall (sp_is_list K) DX0 (wCons (wVar 0) wNil)) (wOp dEq (wCB lenD (wCons (wVar 0) wNil)) (wVar 1))))
def sp_is_row (K : PySem.W.Frag) : DSp := wSp 2 N_is_row (w_is_row K)
theorem dv_is_row (b : Bl mg) (F_is_list : Fn P w K mg base "is_list" (top 2) ["thing"] 1 (sp_is_list K)) (hr : Room 1 (A.deeper (envOfC "is_row" (defScope (top 5)) s.heap.objs.size f cdv))) : PSs (cx P w K mg base N_is_row "is_row" (top 5) f cdv A outer s H E) (defBody (top 5)) (SV B (w_is_row K)) :=
  (ss_one (sv_ret (ev_and (ev_fn F_is_list hr rfl (av_cons (ev_var 0) av_nil)) (ev_one (ev_cmp (ov_eq (rm66 hr)) (ev_cb cr_len rfl b.len boot_len (av_cons (ev_var 0) av_nil)) (ev_var 1))))))
theorem ok_is_row {fd : FuncData} (b : Bl mg) (F_is_list : Fn P w K mg base "is_list" (top 2) ["thing"] 1 (sp_is_list K)) (F : FunD K "is_row" "is_row" (defArgs (top 5)) (defBody (top 5)) (defScope (top 5)) [] [] f fd) : FnOk P w K mg base CX0 2 f fd ["thing", "many"] (SPV (sp_is_row K)) :=
  fnOk_fg (k := 1) F sc_is_row (fun _ _ _ _ h => h.1) (fun cdv A outer s H E hr => dv_is_row (cdv := cdv) (A := A) (outer := outer) (s := s) (H := H) (E := E) b F_is_list hr) fun _ _ _ _ h => h.2
def N_is_name : List Str := ["thing", "sign"]
theorem sc_is_name : FnScope N_is_name ["thing"] (defScope (top 6)) := ⟨rfl, rfl, rfl, by decide +kernel, rfl, by decide +kernel, by decide +kernel⟩
def w_is_name (K : PySem.W.Frag) : WS := (wRet (wAndV (wCB (isD K) (wCons (wVar 0) (wCons (wC (.ty "str")) wNil))) (wAndV (wChain dLtA dLtA (wC (.int 0)) (wCB lenD (wCons (wVar 0) wNil)) (wC (.int 9))) (wCB allD (wCons (wLC (wiE (wVar 0)) (.nm 1) (fun _ G Q => Q true G) (wOp dIn (wVar 1) (wC (.str "abcdefghijklmnopqrstuvwxyz"))) [1]) wNil)))))
def sp_is_name (K : PySem.W.Frag) : DSp := wSp 1 N_is_name (w_is_name K)
theorem dv_is_name (b : Bl mg) (g_LETTERS : ∃ t, mg "LETTERS" = some (.str "abcdefghijklmnopqrstuvwxyz" t)) (hr : Room 0 (A.deeper (envOfC "is_name" (defScope (top 6)) s.heap.objs.size f cdv))) : PSs (cx P w K mg base N_is_name "is_name" (top 6) f cdv A outer s H E) (defBody (top 6)) (SV B (w_is_name K)) :=
  (ss_one (sv_ret (ev_and (ev_cb cr_isi rfl b.isinstance boot_isinstance (av_cons (ev_var 0) (av_cons (ev_tyn rfl b.str boot_str) av_nil))) (ev_and (ev_chain (ov_ltA (rm66 hr)) (ov_ltA (rm66 hr)) ev_int (ev_cb cr_len rfl b.len boot_len (av_cons (ev_var 0) av_nil)) ev_int) (ev_one (ev_cb (cr_allD rfl) rfl b.all boot_all (av_cons (ev_lc rfl sc_is_name.nd (iv_any (ev_var 0)) (own := [("sign", 1)]) (⟨rfl, by decide +kernel, by decide +kernel, by decide +kernel, by decide +kernel⟩ : BlkOk N_is_name (defScope (top 6)) _ [("sign", 1)]) (fun _ _ _ _ _ => (tg_nm 1 sc_is_name.nd)) (fun _ _ _ _ _ => tv_yes) (fun _ _ _ _ _ => (ev_cmp (ov_inA (rm66 hr)) (ev_var 1) (ev_gstr rfl g_LETTERS.choose_spec))) (by decide)) av_nil)))))))
theorem ok_is_name {fd : FuncData} (b : Bl mg) (g_LETTERS : ∃ t, mg "LETTERS" = some (.str "abcdefghijklmnopqrstuvwxyz" t)) (F : FunD K "is_name" "is_name" (defArgs (top 6)) (defBody (top 6)) (defScope (top 6)) [] [] f fd) : FnOk P w K mg base CX0 1 f fd ["thing"] (SPV (sp_is_name K)) :=
  fnOk_fg (k := 0) F sc_is_name (fun _ _ _ _ h => h.1) (fun cdv A outer s H E hr => dv_is_name (cdv := cdv) (A := A) (outer := outer) (s := s) (H := H) (E := E) b g_LETTERS hr) fun _ _ _ _ h => h.2
def N_is_rising : List Str := ["things", "one", "other"]
theorem sc_is_rising : FnScope N_is_rising ["things"] (defScope (top 7)) := ⟨rfl, rfl, rfl, by decide +kernel, rfl, by decide +kernel, by decide +kernel⟩
def w_is_rising (K : PySem.W.Frag) : WS := (wRet (wCB allD (wCons (wLC (wiZip (wCons (wVar 0) (wCons (wSl (wVar 0) (wPart (wC (.int 1))) wNoPart) wNil))) (.tp [(.nm 1), (.nm 2)]) (fun _ G Q => Q true G) (wOp dLtA (wVar 1) (wVar 2)) [1, 2]) wNil)))
def sp_is_rising (K : PySem.W.Frag) : DSp := wSp 1 N_is_rising (w_is_rising K)
theorem dv_is_rising (b : Bl mg)  (hr : Room 0 (A.deeper (envOfC "is_rising" (defScope (top 7)) s.heap.objs.size f cdv))) : PSs (cx P w K mg base N_is_rising "is_rising" (top 7) f cdv A outer s H E) (defBody (top 7)) (SV B (w_is_rising K)) :=
  (ss_one (sv_ret (ev_cb (cr_allD rfl) rfl b.all boot_all (av_cons (ev_lc rfl sc_is_rising.nd (iv_zip rfl b.zip (av_cons (ev_var 0) (av_cons (ev_sl (ev_var 0) (ov_some ev_int) ov_none) av_nil))) (own := [("one", 1), ("other", 2)]) (⟨rfl, by decide +kernel, by decide +kernel, by decide +kernel, by decide +kernel⟩ : BlkOk N_is_rising (defScope (top 7)) _ [("one", 1), ("other", 2)]) (fun _ _ _ _ _ => (tg_tp rfl (tgs_cons (tg_nm 1 sc_is_rising.nd) (tgs_cons (tg_nm 2 sc_is_rising.nd) tgs_nil)))) (fun _ _ _ _ _ => tv_yes) (fun _ _ _ _ _ => (ev_cmp (ov_ltA (rm66 hr)) (ev_var 1) (ev_var 2))) (by decide)) av_nil))))
theorem ok_is_rising {fd : FuncData} (b : Bl mg)  (F : FunD K "is_rising" "is_rising" (defArgs (top 7)) (defBody (top 7)) (defScope (top 7)) [] [] f fd) : FnOk P w K mg base CX0 1 f fd ["things"] (SPV (sp_is_rising K)) :=
  fnOk_fg (k := 0) F sc_is_rising (fun _ _ _ _ h => h.1) (fun cdv A outer s H E hr => dv_is_rising (cdv := cdv) (A := A) (outer := outer) (s := s) (H := H) (E := E) b  hr) fun _ _ _ _ h => h.2
def N_first_bad_row : List Str := ["rows", "known", "index", "row"]
theorem sc_first_bad_row : FnScope N_first_bad_row ["rows"] (defScope (top 15)) := ⟨rfl, rfl, rfl, by decide +kernel, rfl, by decide +kernel, by decide +kernel⟩
def w_first_bad_row (K : PySem.W.Frag) : WS := (wSeq (wAsg (wLk wEmp) (.nm 1))
    (wSeq (wIfS (wNot (wB (wCall (sp_is_list K) DX0 (wCons (wVar 0) wNil)))) (wRet (wC (.int 0))) wNext)
    (wSeq (wFor (wiEnumA (wCons (wVar 0) wNil)) (.tp [(.nm 2), (.nm 3)]) (wSeq (wIfS (wOr (wNot (wB (wCall (sp_is_row K) DX0 (wCons (wVar 3) (wCons (wC (.int 2)) wNil))))) (wOr (wNot (wB (wCall (sp_is_name K) DX0 (wCons (wOp ixD (wVar 3) (wC (.int 0))) wNil)))) (wOr (wNot (wB (wCall (sp_is_number K) DX0 (wCons (wOp ixD (wVar 3) (wC (.int 1))) wNil)))) (wB (wOp dIn (wOp ixD (wVar 3) (wC (.int 0))) (wVar 1)))))) (wRet (wVar 2)) wNext)
    (wSetIx (wVar 1) (wOp ixD (wVar 3) (wC (.int 0))) (wC (.bl true)))))
    (wRet (wC .non)))))
def sp_first_bad_row (K : PySem.W.Frag) : DSp := wSp 1 N_first_bad_row (w_first_bad_row K)
theorem dv_first_bad_row (b : Bl mg) (F_is_list : Fn P w K mg base "is_list" (top 2) ["thing"] 1 (sp_is_list K)) (F_is_row : Fn P w K mg base "is_row" (top 5) ["thing", "many"] 2 (sp_is_row K)) (F_is_name : Fn P w K mg base "is_name" (top 6) ["thing"] 1 (sp_is_name K)) (F_is_number : Fn P w K mg base "is_number" (top 4) ["thing"] 2 (sp_is_number K)) (hr : Room 2 (A.deeper (envOfC "first_bad_row" (defScope (top 15)) s.heap.objs.size f cdv))) : PSs (cx P w K mg base N_first_bad_row "first_bad_row" (top 15) f cdv A outer s H E) (defBody (top 15)) (SV B (w_first_bad_row K)) :=
  (ss_cons (sv_set 1 sc_first_bad_row.nd (ev_lk ev_emp))
    (ss_cons (sv_if (tv_not (tv_val (ev_fn F_is_list hr rfl (av_cons (ev_var 0) av_nil)))) (ss_one (sv_ret ev_int)) ss_nil)
    (ss_cons (sv_for PassesOwn.never rfl (iv_enumA rfl b.enumerate (av_cons (ev_var 0) av_nil)) (tg_tp rfl (tgs_cons (tg_nm 2 sc_first_bad_row.nd) (tgs_cons (tg_nm 3 sc_first_bad_row.nd) tgs_nil))) (ss_cons (sv_if (L2.PW.pt (wv_or (tv_not (tv_val (ev_fn F_is_row hr rfl (av_cons (ev_var 3) (av_cons ev_int av_nil))))) (wv_or (tv_not (tv_val (ev_fn F_is_name hr rfl (av_cons (ev_ix (rm1 hr) (ev_var 3) ev_int) av_nil)))) (wv_or (tv_not (tv_val (ev_fn F_is_number hr rfl (av_cons (ev_ix (rm1 hr) (ev_var 3) ev_int) av_nil)))) (wv_one_or (tv_cmp (ov_inA (rm66 hr)) (ev_ix (rm1 hr) (ev_var 3) ev_int) (ev_var 1))))))) (ss_one (sv_ret (ev_var 2))) ss_nil)
    (ss_one (sv_setIx (rm1 hr) (ev_var 1) (ev_ix (rm1 hr) (ev_var 3) ev_int) ev_bl))))
    (ss_one (sv_ret ev_non)))))
theorem ok_first_bad_row {fd : FuncData} (b : Bl mg) (F_is_list : Fn P w K mg base "is_list" (top 2) ["thing"] 1 (sp_is_list K)) (F_is_row : Fn P w K mg base "is_row" (top 5) ["thing", "many"] 2 (sp_is_row K)) (F_is_name : Fn P w K mg base "is_name" (top 6) ["thing"] 1 (sp_is_name K)) (F_is_number : Fn P w K mg base "is_number" (top 4) ["thing"] 2 (sp_is_number K)) (F : FunD K "first_bad_row" "first_bad_row" (defArgs (top 15)) (defBody (top 15)) (defScope (top 15)) [] [] f fd) : FnOk P w K mg base CX0 3 f fd ["rows"] (SPV (sp_first_bad_row K)) :=
  fnOk_fg (k := 2) F sc_first_bad_row (fun _ _ _ _ h => h.1) (fun cdv A outer s H E hr => dv_first_bad_row (cdv := cdv) (A := A) (outer := outer) (s := s) (H := H) (E := E) b F_is_list F_is_row F_is_name F_is_number hr) fun _ _ _ _ h => h.2
def N_m_Party_init : List Str := ["self", "rows", "wrong", "wants", "guest", "number"]
theorem sc_m_Party_init : FnScope N_m_Party_init ["self", "rows"] (defScope (inClass (top 16) 0)) := ⟨rfl, rfl, rfl, by decide +kernel, rfl, by decide +kernel, by decide +kernel⟩
def w_m_Party_init (K : PySem.W.Frag) : WS := (wSeq (wAsg (wCall (sp_first_bad_row K) DX0 (wCons (wVar 1) wNil)) (.nm 2))
    (wSeq (wIfS (wB (wOp dNotN (wVar 2) (wC .non))) wNever wNext)
    (wSeq (wAsg (wLk (wDC (wiE (wVar 1)) (.tp [(.nm 4), (.nm 5)]) (fun _ G Q => Q true G) (wVar 4) (wVar 5) [4, 5])) (.nm 3))
    (wSetFld (He.ga K "Party") "own_wants" (wVar 0) (wLk (wDC (wiE (wCB sortD (wCons (wVar 3) wNil))) (.nm 4) (fun _ G Q => Q true G) (wVar 4) (wOp ixD (wVar 3) (wVar 4)) [4]))))))
def sp_m_Party_init (K : PySem.W.Frag) : DSp := wSp 2 N_m_Party_init (w_m_Party_init K)
theorem dv_m_Party_init (b : Bl mg) (F_first_bad_row : Fn P w K mg base "first_bad_row" (top 15) ["rows"] 3 (sp_first_bad_row K)) (c_Party : Cls K (He.ga K "Party")) (n_Party_own_wants : NoAttr K (He.ga K "Party") "own_wants") (hr : Room 3 (A.deeper (envOfC "Party.__init__" (defScope (inClass (top 16) 0)) s.heap.objs.size f cdv))) : PSs (cx P w K mg base N_m_Party_init "Party.__init__" (inClass (top 16) 0) f cdv A outer s H E) (defBody (inClass (top 16) 0)) (SV B (w_m_Party_init K)) :=
  (ss_cons (sv_set 2 sc_m_Party_init.nd (ev_fn F_first_bad_row hr rfl (av_cons (ev_var 1) av_nil)))
    (ss_cons (sv_if (tv_cmp ov_notN (ev_var 2) ev_non) (ss_one sv_never) ss_nil)
    (ss_cons (sv_set 3 sc_m_Party_init.nd (ev_lk (ev_dc rfl sc_m_Party_init.nd (iv_any (ev_var 1)) (own := [("guest", 4), ("number", 5)]) (⟨rfl, by decide +kernel, by decide +kernel, by decide +kernel, by decide +kernel⟩ : BlkOk N_m_Party_init (defScope (inClass (top 16) 0)) _ [("guest", 4), ("number", 5)]) (fun _ _ _ _ _ => (tg_tp rfl (tgs_cons (tg_nm 4 sc_m_Party_init.nd) (tgs_cons (tg_nm 5 sc_m_Party_init.nd) tgs_nil)))) (fun _ _ _ _ _ => tv_yes) (fun _ _ _ _ _ => (ev_var 4)) (fun _ _ _ _ _ => (ev_var 5)) (by decide))))
    (ss_one (sv_fld c_Party n_Party_own_wants (ev_var 0) (ev_lk (ev_dc rfl sc_m_Party_init.nd (iv_any (ev_cb (cr_sortD (rm64 hr) rfl) rfl b.sorted boot_sorted (av_cons (ev_var 3) av_nil))) (own := [("guest", 4)]) (⟨rfl, by decide +kernel, by decide +kernel, by decide +kernel, by decide +kernel⟩ : BlkOk N_m_Party_init (defScope (inClass (top 16) 0)) _ [("guest", 4)]) (fun _ _ _ _ _ => (tg_nm 4 sc_m_Party_init.nd)) (fun _ _ _ _ _ => tv_yes) (fun _ _ _ _ _ => (ev_var 4)) (fun _ _ _ _ _ => (ev_ix (rm1 hr) (ev_var 3) (ev_var 4))) (by decide))))))))
theorem ok_m_Party_init {fd : FuncData} (b : Bl mg) (F_first_bad_row : Fn P w K mg base "first_bad_row" (top 15) ["rows"] 3 (sp_first_bad_row K)) (c_Party : Cls K (He.ga K "Party")) (n_Party_own_wants : NoAttr K (He.ga K "Party") "own_wants") (F : FunD K "__init__" "Party.__init__" (defArgs (inClass (top 16) 0)) (defBody (inClass (top 16) 0)) (defScope (inClass (top 16) 0)) [] [] f fd) : FnOk P w K mg base CX0 4 f fd ["self", "rows"] (SPV (sp_m_Party_init K)) :=
  fnOk_fg (k := 3) F sc_m_Party_init (fun _ _ _ _ h => h.1) (fun cdv A outer s H E hr => dv_m_Party_init (cdv := cdv) (A := A) (outer := outer) (s := s) (H := H) (E := E) b F_first_bad_row c_Party n_Party_own_wants hr) fun _ _ _ _ h => h.2
def N_m_Party_guests : List Str := ["self"]
theorem sc_m_Party_guests : FnScope N_m_Party_guests ["self"] (defScope (inClass (top 16) 1)) := ⟨rfl, rfl, rfl, by decide +kernel, rfl, by decide +kernel, by decide +kernel⟩
def w_m_Party_guests (K : PySem.W.Frag) : WS := (wRet (wCB listD (wCons (wFld (He.ga K "Party") "own_wants" (wVar 0)) wNil)))
def sp_m_Party_guests (K : PySem.W.Frag) : DSp := wSp 1 N_m_Party_guests (w_m_Party_guests K)
theorem dv_m_Party_guests (b : Bl mg) (c_Party : Cls K (He.ga K "Party")) (n_Party_own_wants : NoAttr K (He.ga K "Party") "own_wants") (hr : Room 0 (A.deeper (envOfC "Party.guests" (defScope (inClass (top 16) 1)) s.heap.objs.size f cdv))) : PSs (cx P w K mg base N_m_Party_guests "Party.guests" (inClass (top 16) 1) f cdv A outer s H E) (defBody (inClass (top 16) 1)) (SV B (w_m_Party_guests K)) :=
  (ss_one (sv_ret (ev_cty (cr_list rfl) rfl b.list boot_list (av_cons (ev_fld c_Party n_Party_own_wants (ev_var 0)) av_nil))))
theorem ok_m_Party_guests {fd : FuncData} (b : Bl mg) (c_Party : Cls K (He.ga K "Party")) (n_Party_own_wants : NoAttr K (He.ga K "Party") "own_wants") (F : FunD K "guests" "Party.guests" (defArgs (inClass (top 16) 1)) (defBody (inClass (top 16) 1)) (defScope (inClass (top 16) 1)) [] [] f fd) : FnOk P w K mg base CX0 1 f fd ["self"] (SPV (sp_m_Party_guests K)) :=
  fnOk_fg (k := 0) F sc_m_Party_guests (fun _ _ _ _ h => h.1) (fun cdv A outer s H E hr => dv_m_Party_guests (cdv := cdv) (A := A) (outer := outer) (s := s) (H := H) (E := E) b c_Party n_Party_own_wants hr) fun _ _ _ _ h => h.2
def N_m_Party_wants : List Str := ["self"]
theorem sc_m_Party_wants : FnScope N_m_Party_wants ["self"] (defScope (inClass (top 16) 2)) := ⟨rfl, rfl, rfl, by decide +kernel, rfl, by decide +kernel, by decide +kernel⟩
def w_m_Party_wants (K : PySem.W.Frag) : WS := (wRet (wLk (wCB dictD (wCons (wFld (He.ga K "Party") "own_wants" (wVar 0)) wNil))))
def sp_m_Party_wants (K : PySem.W.Frag) : DSp := wSp 1 N_m_Party_wants (w_m_Party_wants K)
theorem dv_m_Party_wants (b : Bl mg) (c_Party : Cls K (He.ga K "Party")) (n_Party_own_wants : NoAttr K (He.ga K "Party") "own_wants") (hr : Room 0 (A.deeper (envOfC "Party.wants" (defScope (inClass (top 16) 2)) s.heap.objs.size f cdv))) : PSs (cx P w K mg base N_m_Party_wants "Party.wants" (inClass (top 16) 2) f cdv A outer s H E) (defBody (inClass (top 16) 2)) (SV B (w_m_Party_wants K)) :=
  (ss_one (sv_ret (ev_lk (ev_cty (cr_dict rfl) rfl b.dict boot_dict (av_cons (ev_fld c_Party n_Party_own_wants (ev_var 0)) av_nil)))))
theorem ok_m_Party_wants {fd : FuncData} (b : Bl mg) (c_Party : Cls K (He.ga K "Party")) (n_Party_own_wants : NoAttr K (He.ga K "Party") "own_wants") (F : FunD K "wants" "Party.wants" (defArgs (inClass (top 16) 2)) (defBody (inClass (top 16) 2)) (defScope (inClass (top 16) 2)) [] [] f fd) : FnOk P w K mg base CX0 1 f fd ["self"] (SPV (sp_m_Party_wants K)) :=
  fnOk_fg (k := 0) F sc_m_Party_wants (fun _ _ _ _ h => h.1) (fun cdv A outer s H E hr => dv_m_Party_wants (cdv := cdv) (A := A) (outer := outer) (s := s) (H := H) (E := E) b c_Party n_Party_own_wants hr) fun _ _ _ _ h => h.2
def N_is_guest : List Str := ["party", "thing"]
theorem sc_is_guest : FnScope N_is_guest ["party", "thing"] (defScope (top 18)) := ⟨rfl, rfl, rfl, by decide +kernel, rfl, by decide +kernel, by decide +kernel⟩
def w_is_guest (K : PySem.W.Frag) : WS := (wRet (wAndV (wCB (isD K) (wCons (wVar 1) (wCons (wC (.ty "str")) wNil))) (wOp dIn (wVar 1) (wFld (He.ga K "Party") "own_wants" (wVar 0)))))
def sp_is_guest (K : PySem.W.Frag) : DSp := wSp 2 N_is_guest (w_is_guest K)
theorem dv_is_guest (b : Bl mg) (c_Party : Cls K (He.ga K "Party")) (n_Party_own_wants : NoAttr K (He.ga K "Party") "own_wants") (hr : Room 0 (A.deeper (envOfC "is_guest" (defScope (top 18)) s.heap.objs.size f cdv))) : PSs (cx P w K mg base N_is_guest "is_guest" (top 18) f cdv A outer s H E) (defBody (top 18)) (SV B (w_is_guest K)) :=
  (ss_one (sv_ret (ev_and (ev_cb cr_isi rfl b.isinstance boot_isinstance (av_cons (ev_var 1) (av_cons (ev_tyn rfl b.str boot_str) av_nil))) (ev_one (ev_cmp (ov_inA (rm66 hr)) (ev_var 1) (ev_fld c_Party n_Party_own_wants (ev_var 0)))))))
theorem ok_is_guest {fd : FuncData} (b : Bl mg) (c_Party : Cls K (He.ga K "Party")) (n_Party_own_wants : NoAttr K (He.ga K "Party") "own_wants") (F : FunD K "is_guest" "is_guest" (defArgs (top 18)) (defBody (top 18)) (defScope (top 18)) [] [] f fd) : FnOk P w K mg base CX0 1 f fd ["party", "thing"] (SPV (sp_is_guest K)) :=
  fnOk_fg (k := 0) F sc_is_guest (fun _ _ _ _ h => h.1) (fun cdv A outer s H E hr => dv_is_guest (cdv := cdv) (A := A) (outer := outer) (s := s) (H := H) (E := E) b c_Party n_Party_own_wants hr) fun _ _ _ _ h => h.2
def N_check_guest : List Str := ["party", "guest"]
theorem sc_check_guest : FnScope N_check_guest ["party", "guest"] (defScope (top 19)) := ⟨rfl, rfl, rfl, by decide +kernel, rfl, by decide +kernel, by decide +kernel⟩
def w_check_guest (K : PySem.W.Frag) : WS := (wIfS (wNot (wB (wCall (sp_is_guest K) DX0 (wCons (wVar 0) (wCons (wVar 1) wNil))))) wNever wNext)
def sp_check_guest (K : PySem.W.Frag) : DSp := wSp 2 N_check_guest (w_check_guest K)
theorem dv_check_guest (b : Bl mg) (F_is_guest : Fn P w K mg base "is_guest" (top 18) ["party", "thing"] 1 (sp_is_guest K)) (hr : Room 1 (A.deeper (envOfC "check_guest" (defScope (top 19)) s.heap.objs.size f cdv))) : PSs (cx P w K mg base N_check_guest "check_guest" (top 19) f cdv A outer s H E) (defBody (top 19)) (SV B (w_check_guest K)) :=
  (ss_one (sv_if (tv_not (tv_val (ev_fn F_is_guest hr rfl (av_cons (ev_var 0) (av_cons (ev_var 1) av_nil))))) (ss_one sv_never) ss_nil))
theorem ok_check_guest {fd : FuncData} (b : Bl mg) (F_is_guest : Fn P w K mg base "is_guest" (top 18) ["party", "thing"] 1 (sp_is_guest K)) (F : FunD K "check_guest" "check_guest" (defArgs (top 19)) (defBody (top 19)) (defScope (top 19)) [] [] f fd) : FnOk P w K mg base CX0 2 f fd ["party", "guest"] (SPV (sp_check_guest K)) :=
  fnOk_fg (k := 1) F sc_check_guest (fun _ _ _ _ h => h.1) (fun cdv A outer s H E hr => dv_check_guest (cdv := cdv) (A := A) (outer := outer) (s := s) (H := H) (E := E) b F_is_guest hr) fun _ _ _ _ h => h.2
def N_m_Party_want : List Str := ["self", "guest"]
theorem sc_m_Party_want : FnScope N_m_Party_want ["self", "guest"] (defScope (inClass (top 16) 3)) := ⟨rfl, rfl, rfl, by decide +kernel, rfl, by decide +kernel, by decide +kernel⟩
def w_m_Party_want (K : PySem.W.Frag) : WS := (wSeq (wExpr (wCall (sp_check_guest K) DX0 (wCons (wVar 0) (wCons (wVar 1) wNil))))
    (wRet (wOp ixD (wFld (He.ga K "Party") "own_wants" (wVar 0)) (wVar 1))))
def sp_m_Party_want (K : PySem.W.Frag) : DSp := wSp 2 N_m_Party_want (w_m_Party_want K)
theorem dv_m_Party_want (b : Bl mg) (F_check_guest : Fn P w K mg base "check_guest" (top 19) ["party", "guest"] 2 (sp_check_guest K)) (c_Party : Cls K (He.ga K "Party")) (n_Party_own_wants : NoAttr K (He.ga K "Party") "own_wants") (hr : Room 2 (A.deeper (envOfC "Party.want" (defScope (inClass (top 16) 3)) s.heap.objs.size f cdv))) : PSs (cx P w K mg base N_m_Party_want "Party.want" (inClass (top 16) 3) f cdv A outer s H E) (defBody (inClass (top 16) 3)) (SV B (w_m_Party_want K)) :=
  (ss_cons (sv_expr (ev_fn F_check_guest hr rfl (av_cons (ev_var 0) (av_cons (ev_var 1) av_nil))))
    (ss_one (sv_ret (ev_ix (rm1 hr) (ev_fld c_Party n_Party_own_wants (ev_var 0)) (ev_var 1)))))
theorem ok_m_Party_want {fd : FuncData} (b : Bl mg) (F_check_guest : Fn P w K mg base "check_guest" (top 19) ["party", "guest"] 2 (sp_check_guest K)) (c_Party : Cls K (He.ga K "Party")) (n_Party_own_wants : NoAttr K (He.ga K "Party") "own_wants") (F : FunD K "want" "Party.want" (defArgs (inClass (top 16) 3)) (defBody (inClass (top 16) 3)) (defScope (inClass (top 16) 3)) [] [] f fd) : FnOk P w K mg base CX0 3 f fd ["self", "guest"] (SPV (sp_m_Party_want K)) :=
  fnOk_fg (k := 2) F sc_m_Party_want (fun _ _ _ _ h => h.1) (fun cdv A outer s H E hr => dv_m_Party_want (cdv := cdv) (A := A) (outer := outer) (s := s) (H := H) (E := E) b F_check_guest c_Party n_Party_own_wants hr) fun _ _ _ _ h => h.2
def N_m_Party_eq : List Str := ["self", "other"]
theorem sc_m_Party_eq : FnScope N_m_Party_eq ["self", "other"] (defScope (inClass (top 16) 4)) := ⟨rfl, rfl, rfl, by decide +kernel, rfl, by decide +kernel, by decide +kernel⟩
def w_m_Party_eq (K : PySem.W.Frag) : WS := (wRet (wAndV (wCB (isD K) (wCons (wVar 1) (wCons (wC (.ref (He.ga K "Party"))) wNil))) (wOp dEq (wFld (He.ga K "Party") "own_wants" (wVar 0)) (wFld (He.ga K "Party") "own_wants" (wVar 1)))))
def sp_m_Party_eq (K : PySem.W.Frag) : DSp := wSp 2 N_m_Party_eq (w_m_Party_eq K)
theorem dv_m_Party_eq (b : Bl mg) (g_Party : mg "Party" = some (.ref (He.ga K "Party"))) (c_Party : Cls K (He.ga K "Party")) (n_Party_own_wants : NoAttr K (He.ga K "Party") "own_wants") (hr : Room 0 (A.deeper (envOfC "Party.__eq__" (defScope (inClass (top 16) 4)) s.heap.objs.size f cdv))) : PSs (cx P w K mg base N_m_Party_eq "Party.__eq__" (inClass (top 16) 4) f cdv A outer s H E) (defBody (inClass (top 16) 4)) (SV B (w_m_Party_eq K)) :=
  (ss_one (sv_ret (ev_and (ev_cb cr_isi rfl b.isinstance boot_isinstance (av_cons (ev_var 1) (av_cons (ev_own rfl g_Party) av_nil))) (ev_one (ev_cmp (ov_eq (rm66 hr)) (ev_fld c_Party n_Party_own_wants (ev_var 0)) (ev_fld c_Party n_Party_own_wants (ev_var 1)))))))
theorem ok_m_Party_eq {fd : FuncData} (b : Bl mg) (g_Party : mg "Party" = some (.ref (He.ga K "Party"))) (c_Party : Cls K (He.ga K "Party")) (n_Party_own_wants : NoAttr K (He.ga K "Party") "own_wants") (F : FunD K "__eq__" "Party.__eq__" (defArgs (inClass (top 16) 4)) (defBody (inClass (top 16) 4)) (defScope (inClass (top 16) 4)) [] [] f fd) : FnOk P w K mg base CX0 1 f fd ["self", "other"] (SPV (sp_m_Party_eq K)) :=
  fnOk_fg (k := 0) F sc_m_Party_eq (fun _ _ _ _ h => h.1) (fun cdv A outer s H E hr => dv_m_Party_eq (cdv := cdv) (A := A) (outer := outer) (s := s) (H := H) (E := E) b g_Party c_Party n_Party_own_wants hr) fun _ _ _ _ h => h.2
def N_check_party : List Str := ["party"]
theorem sc_check_party : FnScope N_check_party ["party"] (defScope (top 17)) := ⟨rfl, rfl, rfl, by decide +kernel, rfl, by decide +kernel, by decide +kernel⟩
def w_check_party (K : PySem.W.Frag) : WS := (wIfS (wNot (wB (wCB (isD K) (wCons (wVar 0) (wCons (wC (.ref (He.ga K "Party"))) wNil))))) wNever wNext)
def sp_check_party (K : PySem.W.Frag) : DSp := wSp 1 N_check_party (w_check_party K)
theorem dv_check_party (b : Bl mg) (g_Party : mg "Party" = some (.ref (He.ga K "Party"))) (hr : Room 0 (A.deeper (envOfC "check_party" (defScope (top 17)) s.heap.objs.size f cdv))) : PSs (cx P w K mg base N_check_party "check_party" (top 17) f cdv A outer s H E) (defBody (top 17)) (SV B (w_check_party K)) :=
  (ss_one (sv_if (tv_not (tv_val (ev_cb cr_isi rfl b.isinstance boot_isinstance (av_cons (ev_var 0) (av_cons (ev_own rfl g_Party) av_nil))))) (ss_one sv_never) ss_nil))
theorem ok_check_party {fd : FuncData} (b : Bl mg) (g_Party : mg "Party" = some (.ref (He.ga K "Party"))) (F : FunD K "check_party" "check_party" (defArgs (top 17)) (defBody (top 17)) (defScope (top 17)) [] [] f fd) : FnOk P w K mg base CX0 1 f fd ["party"] (SPV (sp_check_party K)) :=
  fnOk_fg (k := 0) F sc_check_party (fun _ _ _ _ h => h.1) (fun cdv A outer s H E hr => dv_check_party (cdv := cdv) (A := A) (outer := outer) (s := s) (H := H) (E := E) b g_Party hr) fun _ _ _ _ h => h.2
def N_is_hand : List Str := ["party", "thing", "guest"]
theorem sc_is_hand : FnScope N_is_hand ["party", "thing"] (defScope (top 20)) := ⟨rfl, rfl, rfl, by decide +kernel, rfl, by decide +kernel, by decide +kernel⟩
def w_is_hand (K : PySem.W.Frag) : WS := (wRet (wAndV (wCall (sp_is_row K) DX0 (wCons (wVar 1) (wCons (wC (.int 2)) wNil))) (wAndV (wCB allD (wCons (wLC (wiE (wVar 1)) (.nm 2) (fun _ G Q => Q true G) (wCall (sp_is_guest K) DX0 (wCons (wVar 0) (wCons (wVar 2) wNil))) [2]) wNil)) (wOp dLtA (wOp ixD (wVar 1) (wC (.int 0))) (wOp ixD (wVar 1) (wC (.int 1)))))))
def sp_is_hand (K : PySem.W.Frag) : DSp := wSp 2 N_is_hand (w_is_hand K)
theorem dv_is_hand (b : Bl mg) (F_is_row : Fn P w K mg base "is_row" (top 5) ["thing", "many"] 2 (sp_is_row K)) (F_is_guest : Fn P w K mg base "is_guest" (top 18) ["party", "thing"] 1 (sp_is_guest K)) (hr : Room 2 (A.deeper (envOfC "is_hand" (defScope (top 20)) s.heap.objs.size f cdv))) : PSs (cx P w K mg base N_is_hand "is_hand" (top 20) f cdv A outer s H E) (defBody (top 20)) (SV B (w_is_hand K)) :=
  (ss_one (sv_ret (ev_and (ev_fn F_is_row hr rfl (av_cons (ev_var 1) (av_cons ev_int av_nil))) (ev_and (ev_cb (cr_allD rfl) rfl b.all boot_all (av_cons (ev_lc rfl sc_is_hand.nd (iv_any (ev_var 1)) (own := [("guest", 2)]) (⟨rfl, by decide +kernel, by decide +kernel, by decide +kernel, by decide +kernel⟩ : BlkOk N_is_hand (defScope (top 20)) _ [("guest", 2)]) (fun _ _ _ _ _ => (tg_nm 2 sc_is_hand.nd)) (fun _ _ _ _ _ => tv_yes) (fun _ _ _ _ _ => (ev_fn F_is_guest hr rfl (av_cons (ev_var 0) (av_cons (ev_var 2) av_nil)))) (by decide)) av_nil)) (ev_one (ev_cmp (ov_ltA (rm66 hr)) (ev_ix (rm1 hr) (ev_var 1) ev_int) (ev_ix (rm1 hr) (ev_var 1) ev_int)))))))
theorem ok_is_hand {fd : FuncData} (b : Bl mg) (F_is_row : Fn P w K mg base "is_row" (top 5) ["thing", "many"] 2 (sp_is_row K)) (F_is_guest : Fn P w K mg base "is_guest" (top 18) ["party", "thing"] 1 (sp_is_guest K)) (F : FunD K "is_hand" "is_hand" (defArgs (top 20)) (defBody (top 20)) (defScope (top 20)) [] [] f fd) : FnOk P w K mg base CX0 3 f fd ["party", "thing"] (SPV (sp_is_hand K)) :=
  fnOk_fg (k := 2) F sc_is_hand (fun _ _ _ _ h => h.1) (fun cdv A outer s H E hr => dv_is_hand (cdv := cdv) (A := A) (outer := outer) (s := s) (H := H) (E := E) b F_is_row F_is_guest hr) fun _ _ _ _ h => h.2
def N_is_web_of : List Str := ["party", "thing", "hand"]
theorem sc_is_web_of : FnScope N_is_web_of ["party", "thing"] (defScope (top 21)) := ⟨rfl, rfl, rfl, by decide +kernel, rfl, by decide +kernel, by decide +kernel⟩
def w_is_web_of (K : PySem.W.Frag) : WS := (wSeq (wIfS (wOr (wNot (wB (wCall (sp_is_list K) DX0 (wCons (wVar 1) wNil)))) (wNot (wB (wCB allD (wCons (wLC (wiE (wVar 1)) (.nm 2) (fun _ G Q => Q true G) (wCall (sp_is_hand K) DX0 (wCons (wVar 0) (wCons (wVar 2) wNil))) [2]) wNil))))) (wRet (wC (.bl false))) wNext)
    (wRet (wCall (sp_is_rising K) DX0 (wCons (wLC (wiE (wVar 1)) (.nm 2) (fun _ G Q => Q true G) (wCB tupD (wCons (wVar 2) wNil)) [2]) wNil))))
def sp_is_web_of (K : PySem.W.Frag) : DSp := wSp 2 N_is_web_of (w_is_web_of K)
theorem dv_is_web_of (b : Bl mg) (F_is_list : Fn P w K mg base "is_list" (top 2) ["thing"] 1 (sp_is_list K)) (F_is_hand : Fn P w K mg base "is_hand" (top 20) ["party", "thing"] 3 (sp_is_hand K)) (F_is_rising : Fn P w K mg base "is_rising" (top 7) ["things"] 1 (sp_is_rising K)) (hr : Room 3 (A.deeper (envOfC "is_web_of" (defScope (top 21)) s.heap.objs.size f cdv))) : PSs (cx P w K mg base N_is_web_of "is_web_of" (top 21) f cdv A outer s H E) (defBody (top 21)) (SV B (w_is_web_of K)) :=
  (ss_cons (sv_if (L2.PW.pt (wv_or (tv_not (tv_val (ev_fn F_is_list hr rfl (av_cons (ev_var 1) av_nil)))) (wv_one_or (tv_not (tv_val (ev_cb (cr_allD rfl) rfl b.all boot_all (av_cons (ev_lc rfl sc_is_web_of.nd (iv_any (ev_var 1)) (own := [("hand", 2)]) (⟨rfl, by decide +kernel, by decide +kernel, by decide +kernel, by decide +kernel⟩ : BlkOk N_is_web_of (defScope (top 21)) _ [("hand", 2)]) (fun _ _ _ _ _ => (tg_nm 2 sc_is_web_of.nd)) (fun _ _ _ _ _ => tv_yes) (fun _ _ _ _ _ => (ev_fn F_is_hand hr rfl (av_cons (ev_var 0) (av_cons (ev_var 2) av_nil)))) (by decide)) av_nil))))))) (ss_one (sv_ret ev_bl)) ss_nil)
    (ss_one (sv_ret (ev_fn F_is_rising hr rfl (av_cons (ev_lc rfl sc_is_web_of.nd (iv_any (ev_var 1)) (own := [("hand", 2)]) (⟨rfl, by decide +kernel, by decide +kernel, by decide +kernel, by decide +kernel⟩ : BlkOk N_is_web_of (defScope (top 21)) _ [("hand", 2)]) (fun _ _ _ _ _ => (tg_nm 2 sc_is_web_of.nd)) (fun _ _ _ _ _ => tv_yes) (fun _ _ _ _ _ => (ev_cty cr_tuple rfl b.tuple boot_tuple (av_cons (ev_var 2) av_nil))) (by decide)) av_nil)))))
theorem ok_is_web_of {fd : FuncData} (b : Bl mg) (F_is_list : Fn P w K mg base "is_list" (top 2) ["thing"] 1 (sp_is_list K)) (F_is_hand : Fn P w K mg base "is_hand" (top 20) ["party", "thing"] 3 (sp_is_hand K)) (F_is_rising : Fn P w K mg base "is_rising" (top 7) ["things"] 1 (sp_is_rising K)) (F : FunD K "is_web_of" "is_web_of" (defArgs (top 21)) (defBody (top 21)) (defScope (top 21)) [] [] f fd) : FnOk P w K mg base CX0 4 f fd ["party", "thing"] (SPV (sp_is_web_of K)) :=
  fnOk_fg (k := 3) F sc_is_web_of (fun _ _ _ _ h => h.1) (fun cdv A outer s H E hr => dv_is_web_of (cdv := cdv) (A := A) (outer := outer) (s := s) (H := H) (E := E) b F_is_list F_is_hand F_is_rising hr) fun _ _ _ _ h => h.2
def N_check_web : List Str := ["party", "web"]
theorem sc_check_web : FnScope N_check_web ["party", "web"] (defScope (top 22)) := ⟨rfl, rfl, rfl, by decide +kernel, rfl, by decide +kernel, by decide +kernel⟩
def w_check_web (K : PySem.W.Frag) : WS := (wIfS (wNot (wB (wCall (sp_is_web_of K) DX0 (wCons (wVar 0) (wCons (wVar 1) wNil))))) wNever wNext)
def sp_check_web (K : PySem.W.Frag) : DSp := wSp 2 N_check_web (w_check_web K)
theorem dv_check_web (b : Bl mg) (F_is_web_of : Fn P w K mg base "is_web_of" (top 21) ["party", "thing"] 4 (sp_is_web_of K)) (hr : Room 4 (A.deeper (envOfC "check_web" (defScope (top 22)) s.heap.objs.size f cdv))) : PSs (cx P w K mg base N_check_web "check_web" (top 22) f cdv A outer s H E) (defBody (top 22)) (SV B (w_check_web K)) :=
  (ss_one (sv_if (tv_not (tv_val (ev_fn F_is_web_of hr rfl (av_cons (ev_var 0) (av_cons (ev_var 1) av_nil))))) (ss_one sv_never) ss_nil))
theorem ok_check_web {fd : FuncData} (b : Bl mg) (F_is_web_of : Fn P w K mg base "is_web_of" (top 21) ["party", "thing"] 4 (sp_is_web_of K)) (F : FunD K "check_web" "check_web" (defArgs (top 22)) (defBody (top 22)) (defScope (top 22)) [] [] f fd) : FnOk P w K mg base CX0 5 f fd ["party", "web"] (SPV (sp_check_web K)) :=
  fnOk_fg (k := 4) F sc_check_web (fun _ _ _ _ h => h.1) (fun cdv A outer s H E hr => dv_check_web (cdv := cdv) (A := A) (outer := outer) (s := s) (H := H) (E := E) b F_is_web_of hr) fun _ _ _ _ h => h.2
def N_shaken_of : List Str := ["party", "web", "found", "one", "other", "guest"]
theorem sc_shaken_of : FnScope N_shaken_of ["party", "web"] (defScope (top 23)) := ⟨rfl, rfl, rfl, by decide +kernel, rfl, by decide +kernel, by decide +kernel⟩
def w_shaken_of (K : PySem.W.Frag) : WS := (wSeq (wLkS (wAsg (wDC (wiE (wLk (wFld (He.ga K "Party") "own_wants" (wVar 0)))) (.nm 5) (fun _ G Q => Q true G) (wVar 5) (wC (.int 0)) [5]) (.nm 2)))
    (wSeq (wFor (wiE (wVar 1)) (.tp [(.nm 3), (.nm 4)]) (wSeq (wSetIx (wVar 2) (wVar 3) (wOp dAdd (wOp ixD (wVar 2) (wVar 3)) (wC (.int 1))))
    (wSetIx (wVar 2) (wVar 4) (wOp dAdd (wOp ixD (wVar 2) (wVar 4)) (wC (.int 1))))))
    (wRet (wVar 2))))
def sp_shaken_of (K : PySem.W.Frag) : DSp := wSp 2 N_shaken_of (w_shaken_of K)
theorem dv_shaken_of (b : Bl mg) (c_Party : Cls K (He.ga K "Party")) (n_Party_own_wants : NoAttr K (He.ga K "Party") "own_wants") (hr : Room 0 (A.deeper (envOfC "shaken_of" (defScope (top 23)) s.heap.objs.size f cdv))) : PSs (cx P w K mg base N_shaken_of "shaken_of" (top 23) f cdv A outer s H E) (defBody (top 23)) (SV B (w_shaken_of K)) :=
  (ss_cons (sv_lk (sv_setDc 2 rfl sc_shaken_of.nd (iv_any (ev_lk (ev_fld c_Party n_Party_own_wants (ev_var 0)))) (own := [("guest", 5)]) (⟨rfl, by decide +kernel, by decide +kernel, by decide +kernel, by decide +kernel⟩ : BlkOk N_shaken_of (defScope (top 23)) _ [("guest", 5)]) (fun _ _ _ _ _ => (tg_nm 5 sc_shaken_of.nd)) (fun _ _ _ _ _ => tv_yes) (fun _ _ _ _ _ => (ev_var 5)) (fun _ _ _ _ _ => ev_int) (by decide)))
    (ss_cons (sv_for PassesOwn.never rfl (iv_any (ev_var 1)) (tg_tp rfl (tgs_cons (tg_nm 3 sc_shaken_of.nd) (tgs_cons (tg_nm 4 sc_shaken_of.nd) tgs_nil))) (ss_cons (sv_setIx (rm1 hr) (ev_var 2) (ev_var 3) (ev_op ov_add (ev_ix (rm1 hr) (ev_var 2) (ev_var 3)) ev_int))
    (ss_one (sv_setIx (rm1 hr) (ev_var 2) (ev_var 4) (ev_op ov_add (ev_ix (rm1 hr) (ev_var 2) (ev_var 4)) ev_int)))))
    (ss_one (sv_ret (ev_var 2)))))
theorem ok_shaken_of {fd : FuncData} (b : Bl mg) (c_Party : Cls K (He.ga K "Party")) (n_Party_own_wants : NoAttr K (He.ga K "Party") "own_wants") (F : FunD K "shaken_of" "shaken_of" (defArgs (top 23)) (defBody (top 23)) (defScope (top 23)) [] [] f fd) : FnOk P w K mg base CX0 1 f fd ["party", "web"] (SPV (sp_shaken_of K)) :=
  fnOk_fg (k := 0) F sc_shaken_of (fun _ _ _ _ h => h.1) (fun cdv A outer s H E hr => dv_shaken_of (cdv := cdv) (A := A) (outer := outer) (s := s) (H := H) (E := E) b c_Party n_Party_own_wants hr) fun _ _ _ _ h => h.2
def N_is_picture : List Str := ["party", "thing"]
theorem sc_is_picture : FnScope N_is_picture ["party", "thing"] (defScope (top 24)) := ⟨rfl, rfl, rfl, by decide +kernel, rfl, by decide +kernel, by decide +kernel⟩
def w_is_picture (K : PySem.W.Frag) : WS := (wSeq (wExpr (wCall (sp_check_party K) DX0 (wCons (wVar 0) wNil)))
    (wRet (wAndV (wCall (sp_is_web_of K) DX0 (wCons (wVar 0) (wCons (wVar 1) wNil))) (wOp dEq (wCall (sp_shaken_of K) DX0 (wCons (wVar 0) (wCons (wVar 1) wNil))) (wFld (He.ga K "Party") "own_wants" (wVar 0))))))
def sp_is_picture (K : PySem.W.Frag) : DSp := wSp 2 N_is_picture (w_is_picture K)
theorem dv_is_picture (b : Bl mg) (F_check_party : Fn P w K mg base "check_party" (top 17) ["party"] 1 (sp_check_party K)) (F_is_web_of : Fn P w K mg base "is_web_of" (top 21) ["party", "thing"] 4 (sp_is_web_of K)) (F_shaken_of : Fn P w K mg base "shaken_of" (top 23) ["party", "web"] 1 (sp_shaken_of K)) (c_Party : Cls K (He.ga K "Party")) (n_Party_own_wants : NoAttr K (He.ga K "Party") "own_wants") (hr : Room 4 (A.deeper (envOfC "is_picture" (defScope (top 24)) s.heap.objs.size f cdv))) : PSs (cx P w K mg base N_is_picture "is_picture" (top 24) f cdv A outer s H E) (defBody (top 24)) (SV B (w_is_picture K)) :=
  (ss_cons (sv_expr (ev_fn F_check_party hr rfl (av_cons (ev_var 0) av_nil)))
    (ss_one (sv_ret (ev_and (ev_fn F_is_web_of hr rfl (av_cons (ev_var 0) (av_cons (ev_var 1) av_nil))) (ev_one (ev_cmp (ov_eq (rm66 hr)) (ev_fn F_shaken_of hr rfl (av_cons (ev_var 0) (av_cons (ev_var 1) av_nil))) (ev_fld c_Party n_Party_own_wants (ev_var 0))))))))
theorem ok_is_picture {fd : FuncData} (b : Bl mg) (F_check_party : Fn P w K mg base "check_party" (top 17) ["party"] 1 (sp_check_party K)) (F_is_web_of : Fn P w K mg base "is_web_of" (top 21) ["party", "thing"] 4 (sp_is_web_of K)) (F_shaken_of : Fn P w K mg base "shaken_of" (top 23) ["party", "web"] 1 (sp_shaken_of K)) (c_Party : Cls K (He.ga K "Party")) (n_Party_own_wants : NoAttr K (He.ga K "Party") "own_wants") (F : FunD K "is_picture" "is_picture" (defArgs (top 24)) (defBody (top 24)) (defScope (top 24)) [] [] f fd) : FnOk P w K mg base CX0 5 f fd ["party", "thing"] (SPV (sp_is_picture K)) :=
  fnOk_fg (k := 4) F sc_is_picture (fun _ _ _ _ h => h.1) (fun cdv A outer s H E hr => dv_is_picture (cdv := cdv) (A := A) (outer := outer) (s := s) (H := H) (E := E) b F_check_party F_is_web_of F_shaken_of c_Party n_Party_own_wants hr) fun _ _ _ _ h => h.2
def N_in_row : List Str := ["wants", "_", "guest", "number"]
theorem sc_in_row : FnScope N_in_row ["wants"] (defScope (top 25)) := ⟨rfl, rfl, rfl, by decide +kernel, rfl, by decide +kernel, by decide +kernel⟩
def w_in_row (K : PySem.W.Frag) : WS := (wRet (wLC (wiE (wCB sortD (wCons (wLC (wiItems (wLk (wVar 0))) (.tp [(.nm 2), (.nm 3)]) (fun _ G Q => Q true G) (wTup (wCons (wUn dNeg (wVar 3)) (wCons (wVar 2) wNil))) [2, 3]) wNil))) (.tp [(.nm 1), (.nm 2)]) (fun _ G Q => Q true G) (wVar 2) [1, 2]))
def sp_in_row (K : PySem.W.Frag) : DSp := wSp 1 N_in_row (w_in_row K)
theorem dv_in_row (b : Bl mg)  (hr : Room 0 (A.deeper (envOfC "in_row" (defScope (top 25)) s.heap.objs.size f cdv))) : PSs (cx P w K mg base N_in_row "in_row" (top 25) f cdv A outer s H E) (defBody (top 25)) (SV B (w_in_row K)) :=
  (ss_one (sv_ret (ev_lc rfl sc_in_row.nd (iv_any (ev_cb (cr_sortD (rm64 hr) rfl) rfl b.sorted boot_sorted (av_cons (ev_lc rfl sc_in_row.nd (iv_items (ev_lk (ev_var 0))) (own := [("guest", 2), ("number", 3)]) (⟨rfl, by decide +kernel, by decide +kernel, by decide +kernel, by decide +kernel⟩ : BlkOk N_in_row (defScope (top 25)) _ [("guest", 2), ("number", 3)]) (fun _ _ _ _ _ => (tg_tp rfl (tgs_cons (tg_nm 2 sc_in_row.nd) (tgs_cons (tg_nm 3 sc_in_row.nd) tgs_nil)))) (fun _ _ _ _ _ => tv_yes) (fun _ _ _ _ _ => (ev_tup (av_cons (ev_un uv_neg (ev_var 3)) (av_cons (ev_var 2) av_nil)))) (by decide)) av_nil))) (own := [("_", 1), ("guest", 2)]) (⟨rfl, by decide +kernel, by decide +kernel, by decide +kernel, by decide +kernel⟩ : BlkOk N_in_row (defScope (top 25)) _ [("_", 1), ("guest", 2)]) (fun _ _ _ _ _ => (tg_tp rfl (tgs_cons (tg_nm 1 sc_in_row.nd) (tgs_cons (tg_nm 2 sc_in_row.nd) tgs_nil)))) (fun _ _ _ _ _ => tv_yes) (fun _ _ _ _ _ => (ev_var 2)) (by decide))))
theorem ok_in_row {fd : FuncData} (b : Bl mg)  (F : FunD K "in_row" "in_row" (defArgs (top 25)) (defBody (top 25)) (defScope (top 25)) [] [] f fd) : FnOk P w K mg base CX0 1 f fd ["wants"] (SPV (sp_in_row K)) :=
  fnOk_fg (k := 0) F sc_in_row (fun _ _ _ _ h => h.1) (fun cdv A outer s H E hr => dv_in_row (cdv := cdv) (A := A) (outer := outer) (s := s) (H := H) (E := E) b  hr) fun _ _ _ _ h => h.2
def N_room_for : List Str := ["party", "rich", "poor", "others", "guest"]
theorem sc_room_for : FnScope N_room_for ["party", "rich", "poor"] (defScope (top 30)) := ⟨rfl, rfl, rfl, by decide +kernel, rfl, by decide +kernel, by decide +kernel⟩
def w_room_for (K : PySem.W.Frag) : WS := (wSeq (wAsg (wOp dSub (wOp dSub (wCB lenD (wCons (wFld (He.ga K "Party") "own_wants" (wVar 0)) wNil)) (wCB lenD (wCons (wVar 1) wNil))) (wCB lenD (wCons (wVar 2) wNil))) (.nm 3))
    (wRet (wOp dAdd (wOp dAdd (wOp dMul (wCB lenD (wCons (wVar 1) wNil)) (wOp dSub (wCB lenD (wCons (wVar 1) wNil)) (wC (.int 1)))) (wOp dMul (wCB lenD (wCons (wVar 1) wNil)) (wVar 3))) (wCB sumD (wCons (wLC (wiE (wVar 2)) (.nm 4) (fun _ G Q => Q true G) (wOp ixD (wFld (He.ga K "Party") "own_wants" (wVar 0)) (wVar 4)) [4]) wNil)))))
def sp_room_for (K : PySem.W.Frag) : DSp := wSp 3 N_room_for (w_room_for K)
theorem dv_room_for (b : Bl mg) (c_Party : Cls K (He.ga K "Party")) (n_Party_own_wants : NoAttr K (He.ga K "Party") "own_wants") (hr : Room 0 (A.deeper (envOfC "room_for" (defScope (top 30)) s.heap.objs.size f cdv))) : PSs (cx P w K mg base N_room_for "room_for" (top 30) f cdv A outer s H E) (defBody (top 30)) (SV B (w_room_for K)) :=
  (ss_cons (sv_set 3 sc_room_for.nd (ev_op ov_sub (ev_op ov_sub (ev_cb cr_len rfl b.len boot_len (av_cons (ev_fld c_Party n_Party_own_wants (ev_var 0)) av_nil)) (ev_cb cr_len rfl b.len boot_len (av_cons (ev_var 1) av_nil))) (ev_cb cr_len rfl b.len boot_len (av_cons (ev_var 2) av_nil))))
    (ss_one (sv_ret (ev_op ov_add (ev_op ov_add (ev_op ov_mul (ev_cb cr_len rfl b.len boot_len (av_cons (ev_var 1) av_nil)) (ev_op ov_sub (ev_cb cr_len rfl b.len boot_len (av_cons (ev_var 1) av_nil)) ev_int)) (ev_op ov_mul (ev_cb cr_len rfl b.len boot_len (av_cons (ev_var 1) av_nil)) (ev_var 3))) (ev_cb (cr_sumD rfl) rfl b.sum boot_sum (av_cons (ev_lc rfl sc_room_for.nd (iv_any (ev_var 2)) (own := [("guest", 4)]) (⟨rfl, by decide +kernel, by decide +kernel, by decide +kernel, by decide +kernel⟩ : BlkOk N_room_for (defScope (top 30)) _ [("guest", 4)]) (fun _ _ _ _ _ => (tg_nm 4 sc_room_for.nd)) (fun _ _ _ _ _ => tv_yes) (fun _ _ _ _ _ => (ev_ix (rm1 hr) (ev_fld c_Party n_Party_own_wants (ev_var 0)) (ev_var 4))) (by decide)) av_nil))))))
theorem ok_room_for {fd : FuncData} (b : Bl mg) (c_Party : Cls K (He.ga K "Party")) (n_Party_own_wants : NoAttr K (He.ga K "Party") "own_wants") (F : FunD K "room_for" "room_for" (defArgs (top 30)) (defBody (top 30)) (defScope (top 30)) [] [] f fd) : FnOk P w K mg base CX0 1 f fd ["party", "rich", "poor"] (SPV (sp_room_for K)) :=
  fnOk_fg (k := 0) F sc_room_for (fun _ _ _ _ h => h.1) (fun cdv A outer s H E hr => dv_room_for (cdv := cdv) (A := A) (outer := outer) (s := s) (H := H) (E := E) b c_Party n_Party_own_wants hr) fun _ _ _ _ h => h.2
def N_lack_of : List Str := ["party", "rich", "poor", "guest"]
theorem sc_lack_of : FnScope N_lack_of ["party", "rich", "poor"] (defScope (top 31)) := ⟨rfl, rfl, rfl, by decide +kernel, rfl, by decide +kernel, by decide +kernel⟩
def w_lack_of (K : PySem.W.Frag) : WS := (wRet (wOp dSub (wCB sumD (wCons (wLC (wiE (wVar 1)) (.nm 3) (fun _ G Q => Q true G) (wOp ixD (wFld (He.ga K "Party") "own_wants" (wVar 0)) (wVar 3)) [3]) wNil)) (wCall (sp_room_for K) DX0 (wCons (wVar 0) (wCons (wVar 1) (wCons (wVar 2) wNil))))))
def sp_lack_of (K : PySem.W.Frag) : DSp := wSp 3 N_lack_of (w_lack_of K)
theorem dv_lack_of (b : Bl mg) (c_Party : Cls K (He.ga K "Party")) (n_Party_own_wants : NoAttr K (He.ga K "Party") "own_wants") (F_room_for : Fn P w K mg base "room_for" (top 30) ["party", "rich", "poor"] 1 (sp_room_for K)) (hr : Room 1 (A.deeper (envOfC "lack_of" (defScope (top 31)) s.heap.objs.size f cdv))) : PSs (cx P w K mg base N_lack_of "lack_of" (top 31) f cdv A outer s H E) (defBody (top 31)) (SV B (w_lack_of K)) :=
  (ss_one (sv_ret (ev_op ov_sub (ev_cb (cr_sumD rfl) rfl b.sum boot_sum (av_cons (ev_lc rfl sc_lack_of.nd (iv_any (ev_var 1)) (own := [("guest", 3)]) (⟨rfl, by decide +kernel, by decide +kernel, by decide +kernel, by decide +kernel⟩ : BlkOk N_lack_of (defScope (top 31)) _ [("guest", 3)]) (fun _ _ _ _ _ => (tg_nm 3 sc_lack_of.nd)) (fun _ _ _ _ _ => tv_yes) (fun _ _ _ _ _ => (ev_ix (rm1 hr) (ev_fld c_Party n_Party_own_wants (ev_var 0)) (ev_var 3))) (by decide)) av_nil)) (ev_fn F_room_for hr rfl (av_cons (ev_var 0) (av_cons (ev_var 1) (av_cons (ev_var 2) av_nil)))))))
theorem ok_lack_of {fd : FuncData} (b : Bl mg) (c_Party : Cls K (He.ga K "Party")) (n_Party_own_wants : NoAttr K (He.ga K "Party") "own_wants") (F_room_for : Fn P w K mg base "room_for" (top 30) ["party", "rich", "poor"] 1 (sp_room_for K)) (F : FunD K "lack_of" "lack_of" (defArgs (top 31)) (defBody (top 31)) (defScope (top 31)) [] [] f fd) : FnOk P w K mg base CX0 2 f fd ["party", "rich", "poor"] (SPV (sp_lack_of K)) :=
  fnOk_fg (k := 1) F sc_lack_of (fun _ _ _ _ h => h.1) (fun cdv A outer s H E hr => dv_lack_of (cdv := cdv) (A := A) (outer := outer) (s := s) (H := H) (E := E) b c_Party n_Party_own_wants F_room_for hr) fun _ _ _ _ h => h.2
def N_taken_by : List Str := ["wants", "guest", "others", "mates", "hands", "left", "other", "mate", "number"]
theorem sc_taken_by : FnScope N_taken_by ["wants", "guest"] (defScope (top 32)) := ⟨rfl, rfl, rfl, by decide +kernel, rfl, by decide +kernel, by decide +kernel⟩
def w_taken_by (K : PySem.W.Frag) : WS := (wSeq (wAsg (wLC (wiE (wCall (sp_in_row K) DX0 (wCons (wVar 0) wNil))) (.nm 6) (wAnd (wB (wOp dNe (wVar 6) (wVar 1))) (wB (wOp dGt (wOp ixD (wVar 0) (wVar 6)) (wC (.int 0))))) (wVar 6) [6]) (.nm 2))
    (wSeq (wIfS (wB (wOp dLtA (wCB lenD (wCons (wVar 2) wNil)) (wOp ixD (wVar 0) (wVar 1)))) (wRet (wC .non)) wNext)
    (wSeq (wAsg (wSl (wVar 2) wNoPart (wPart (wOp ixD (wVar 0) (wVar 1)))) (.nm 3))
    (wSeq (wAsg (wLC (wiE (wVar 3)) (.nm 7) (fun _ G Q => Q true G) (wTup (wCons (wCB minD2 (wCons (wVar 1) (wCons (wVar 7) wNil))) (wCons (wCB maxD2 (wCons (wVar 1) (wCons (wVar 7) wNil))) wNil))) [7]) (.nm 4))
    (wSeq (wLkS (wAsg (wDC (wiItems (wLk (wVar 0))) (.tp [(.nm 6), (.nm 8)]) (wB (wOp dNe (wVar 6) (wVar 1))) (wVar 6) (wIf (wB (wOp dIn (wVar 6) (wVar 3))) (wOp dSub (wVar 8) (wC (.int 1))) (wVar 8)) [6, 8]) (.nm 5)))
    (wRet (wTup (wCons (wVar 4) (wCons (wVar 5) wNil)))))))))
def sp_taken_by (K : PySem.W.Frag) : DSp := wSp 2 N_taken_by (w_taken_by K)
theorem dv_taken_by (b : Bl mg) (F_in_row : Fn P w K mg base "in_row" (top 25) ["wants"] 1 (sp_in_row K)) (hr : Room 1 (A.deeper (envOfC "taken_by" (defScope (top 32)) s.heap.objs.size f cdv))) : PSs (cx P w K mg base N_taken_by "taken_by" (top 32) f cdv A outer s H E) (defBody (top 32)) (SV B (w_taken_by K)) :=
  (ss_cons (sv_setLc 2 rfl sc_taken_by.nd (iv_any (ev_fn F_in_row hr rfl (av_cons (ev_var 0) av_nil))) (own := [("other", 6)]) (⟨rfl, by decide +kernel, by decide +kernel, by decide +kernel, by decide +kernel⟩ : BlkOk N_taken_by (defScope (top 32)) _ [("other", 6)]) (fun _ _ _ _ _ => (tg_nm 6 sc_taken_by.nd)) (fun _ _ _ _ _ => (tv_one (L2.PW.pt (wv_and (tv_cmp (ov_ne (rm66 hr)) (ev_var 6) (ev_var 1)) (wv_one_and (tv_cmp ov_gt (ev_ix (rm1 hr) (ev_var 0) (ev_var 6)) ev_int)))))) (fun _ _ _ _ _ => (ev_var 6)) (by decide))
    (ss_cons (sv_if (tv_cmp (ov_ltA (rm66 hr)) (ev_cb cr_len rfl b.len boot_len (av_cons (ev_var 2) av_nil)) (ev_ix (rm1 hr) (ev_var 0) (ev_var 1))) (ss_one (sv_ret ev_non)) ss_nil)
    (ss_cons (sv_set 3 sc_taken_by.nd (ev_sl (ev_var 2) ov_none (ov_some (ev_ix (rm1 hr) (ev_var 0) (ev_var 1)))))
    (ss_cons (sv_setLc 4 rfl sc_taken_by.nd (iv_any (ev_var 3)) (own := [("mate", 7)]) (⟨rfl, by decide +kernel, by decide +kernel, by decide +kernel, by decide +kernel⟩ : BlkOk N_taken_by (defScope (top 32)) _ [("mate", 7)]) (fun _ _ _ _ _ => (tg_nm 7 sc_taken_by.nd)) (fun _ _ _ _ _ => tv_yes) (fun _ _ _ _ _ => (ev_tup (av_cons (ev_cb (cr_min2 rfl) rfl b.min boot_min (av_cons (ev_var 1) (av_cons (ev_var 7) av_nil))) (av_cons (ev_cb (cr_max2 rfl) rfl b.max boot_max (av_cons (ev_var 1) (av_cons (ev_var 7) av_nil))) av_nil)))) (by decide))
    (ss_cons (sv_lk (sv_setDc 5 rfl sc_taken_by.nd (iv_items (ev_lk (ev_var 0))) (own := [("other", 6), ("number", 8)]) (⟨rfl, by decide +kernel, by decide +kernel, by decide +kernel, by decide +kernel⟩ : BlkOk N_taken_by (defScope (top 32)) _ [("other", 6), ("number", 8)]) (fun _ _ _ _ _ => (tg_tp rfl (tgs_cons (tg_nm 6 sc_taken_by.nd) (tgs_cons (tg_nm 8 sc_taken_by.nd) tgs_nil)))) (fun _ _ _ _ _ => (tv_one (tv_cmp (ov_ne (rm66 hr)) (ev_var 6) (ev_var 1)))) (fun _ _ _ _ _ => (ev_var 6)) (fun _ _ _ _ _ => (ev_if (tv_cmp (ov_inA (rm66 hr)) (ev_var 6) (ev_var 3)) (ev_op ov_sub (ev_var 8) ev_int) (ev_var 8))) (by decide)))
    (ss_one (sv_ret (ev_tup (av_cons (ev_var 4) (av_cons (ev_var 5) av_nil))))))))))
theorem ok_taken_by {fd : FuncData} (b : Bl mg) (F_in_row : Fn P w K mg base "in_row" (top 25) ["wants"] 1 (sp_in_row K)) (F : FunD K "taken_by" "taken_by" (defArgs (top 32)) (defBody (top 32)) (defScope (top 32)) [] [] f fd) : FnOk P w K mg base CX0 2 f fd ["wants", "guest"] (SPV (sp_taken_by K)) :=
  fnOk_fg (k := 1) F sc_taken_by (fun _ _ _ _ h => h.1) (fun cdv A outer s H E hr => dv_taken_by (cdv := cdv) (A := A) (outer := outer) (s := s) (H := H) (E := E) b F_in_row hr) fun _ _ _ _ h => h.2
def N_drawn_by : List Str := ["party", "order", "wants", "web", "guest", "told"]
theorem sc_drawn_by : FnScope N_drawn_by ["party", "order"] (defScope (top 33)) := ⟨rfl, rfl, rfl, by decide +kernel, rfl, by decide +kernel, by decide +kernel⟩
def w_drawn_by (K : PySem.W.Frag) : WS := (wSeq (wAsg (wTup (wCons (wLk (wCB dictD (wCons (wFld (He.ga K "Party") "own_wants" (wVar 0)) wNil))) (wCons (wLst wNil) wNil))) (.tp [.nm 2, .nm 3]))
    (wSeq (wFor (wiE (wVar 1)) (.nm 4) (wSeq (wAsg (wCall (sp_taken_by K) DX0 (wCons (wVar 2) (wCons (wVar 4) wNil))) (.nm 5))
    (wSeq (wIfS (wB (wOp dIsN (wVar 5) (wC .non))) (wRet (wC .non)) wNext)
    (wSeq (wExpr (wBM "list" extD (wVar 3) (wCons (wOp ixD (wVar 5) (wC (.int 0))) wNil)))
    (wAsg (wOp ixD (wVar 5) (wC (.int 1))) (.nm 2))))))
    (wRet (wCB sortD (wCons (wVar 3) wNil)))))
def sp_drawn_by (K : PySem.W.Frag) : DSp := wSp 2 N_drawn_by (w_drawn_by K)
theorem dv_drawn_by (b : Bl mg) (c_Party : Cls K (He.ga K "Party")) (n_Party_own_wants : NoAttr K (He.ga K "Party") "own_wants") (F_taken_by : Fn P w K mg base "taken_by" (top 32) ["wants", "guest"] 2 (sp_taken_by K)) (hr : Room 2 (A.deeper (envOfC "drawn_by" (defScope (top 33)) s.heap.objs.size f cdv))) : PSs (cx P w K mg base N_drawn_by "drawn_by" (top 33) f cdv A outer s H E) (defBody (top 33)) (SV B (w_drawn_by K)) :=
  (ss_cons (sv_par rfl sc_drawn_by.nd (av_cons (ev_lk (ev_cty (cr_dict rfl) rfl b.dict boot_dict (av_cons (ev_fld c_Party n_Party_own_wants (ev_var 0)) av_nil))) (av_cons (ev_lst av_nil) av_nil)))
    (ss_cons (sv_for PassesOwn.never rfl (iv_any (ev_var 1)) (tg_nm 4 sc_drawn_by.nd) (ss_cons (sv_set 5 sc_drawn_by.nd (ev_fn F_taken_by hr rfl (av_cons (ev_var 2) (av_cons (ev_var 4) av_nil))))
    (ss_cons (sv_if (tv_cmp ov_isN (ev_var 5) ev_non) (ss_one (sv_ret ev_non)) ss_nil)
    (ss_cons (sv_expr (ev_bm F.plainAttrs_list F.slot_list_extend F.type_list_extend md_extend (ev_var 3) (av_cons (ev_ix (rm1 hr) (ev_var 5) ev_int) av_nil)))
    (ss_one (sv_set 2 sc_drawn_by.nd (ev_ix (rm1 hr) (ev_var 5) ev_int)))))))
    (ss_one (sv_ret (ev_cb (cr_sortD (rm64 hr) rfl) rfl b.sorted boot_sorted (av_cons (ev_var 3) av_nil))))))
theorem ok_drawn_by {fd : FuncData} (b : Bl mg) (c_Party : Cls K (He.ga K "Party")) (n_Party_own_wants : NoAttr K (He.ga K "Party") "own_wants") (F_taken_by : Fn P w K mg base "taken_by" (top 32) ["wants", "guest"] 2 (sp_taken_by K)) (F : FunD K "drawn_by" "drawn_by" (defArgs (top 33)) (defBody (top 33)) (defScope (top 33)) [] [] f fd) : FnOk P w K mg base CX0 3 f fd ["party", "order"] (SPV (sp_drawn_by K)) :=
  fnOk_fg (k := 2) F sc_drawn_by (fun _ _ _ _ h => h.1) (fun cdv A outer s H E hr => dv_drawn_by (cdv := cdv) (A := A) (outer := outer) (s := s) (H := H) (E := E) b c_Party n_Party_own_wants F_taken_by hr) fun _ _ _ _ h => h.2
def N_bar_of : List Str := ["party", "row", "many", "rich", "poor", "guest"]
theorem sc_bar_of : FnScope N_bar_of ["party"] (defScope (top 34)) := ⟨rfl, rfl, rfl, by decide +kernel, rfl, by decide +kernel, by decide +kernel⟩
def w_bar_of (K : PySem.W.Frag) : WS := (wSeq (wAsg (wCall (sp_in_row K) DX0 (wCons (wFld (He.ga K "Party") "own_wants" (wVar 0)) wNil)) (.nm 1))
    (wSeq (wFor (wiRng2 (wCons (wC (.int 1)) (wCons (wOp dAdd (wCB lenD (wCons (wVar 1) wNil)) (wC (.int 1))) wNil))) (.nm 2) (wSeq (wAsg (wSl (wVar 1) wNoPart (wPart (wVar 2))) (.nm 3))
    (wSeq (wAsg (wLC (wiE (wSl (wVar 1) (wPart (wVar 2)) wNoPart)) (.nm 5) (wB (wOp dLtA (wOp ixD (wFld (He.ga K "Party") "own_wants" (wVar 0)) (wVar 5)) (wVar 2))) (wVar 5) [5]) (.nm 4))
    (wIfS (wB (wOp dGt (wCall (sp_lack_of K) DX0 (wCons (wVar 0) (wCons (wVar 3) (wCons (wVar 4) wNil)))) (wC (.int 0)))) (wRet (wTup (wCons (wCB sortD (wCons (wVar 3) wNil)) (wCons (wCB sortD (wCons (wVar 4) wNil)) wNil)))) wNext))))
    (wRet (wC .non))))
def sp_bar_of (K : PySem.W.Frag) : DSp := wSp 1 N_bar_of (w_bar_of K)
theorem dv_bar_of (b : Bl mg) (F_in_row : Fn P w K mg base "in_row" (top 25) ["wants"] 1 (sp_in_row K)) (c_Party : Cls K (He.ga K "Party")) (n_Party_own_wants : NoAttr K (He.ga K "Party") "own_wants") (F_lack_of : Fn P w K mg base "lack_of" (top 31) ["party", "rich", "poor"] 2 (sp_lack_of K)) (hr : Room 2 (A.deeper (envOfC "bar_of" (defScope (top 34)) s.heap.objs.size f cdv))) : PSs (cx P w K mg base N_bar_of "bar_of" (top 34) f cdv A outer s H E) (defBody (top 34)) (SV B (w_bar_of K)) :=
  (ss_cons (sv_set 1 sc_bar_of.nd (ev_fn F_in_row hr rfl (av_cons (ev_fld c_Party n_Party_own_wants (ev_var 0)) av_nil)))
    (ss_cons (sv_for PassesOwn.never rfl (iv_rng2 rfl b.range (av_cons ev_int (av_cons (ev_op ov_add (ev_cb cr_len rfl b.len boot_len (av_cons (ev_var 1) av_nil)) ev_int) av_nil))) (tg_nm 2 sc_bar_of.nd) (ss_cons (sv_set 3 sc_bar_of.nd (ev_sl (ev_var 1) ov_none (ov_some (ev_var 2))))
    (ss_cons (sv_setLc 4 rfl sc_bar_of.nd (iv_any (ev_sl (ev_var 1) (ov_some (ev_var 2)) ov_none)) (own := [("guest", 5)]) (⟨rfl, by decide +kernel, by decide +kernel, by decide +kernel, by decide +kernel⟩ : BlkOk N_bar_of (defScope (top 34)) _ [("guest", 5)]) (fun _ _ _ _ _ => (tg_nm 5 sc_bar_of.nd)) (fun _ _ _ _ _ => (tv_one (tv_cmp (ov_ltA (rm66 hr)) (ev_ix (rm1 hr) (ev_fld c_Party n_Party_own_wants (ev_var 0)) (ev_var 5)) (ev_var 2)))) (fun _ _ _ _ _ => (ev_var 5)) (by decide))
    (ss_one (sv_if (tv_cmp ov_gt (ev_fn F_lack_of hr rfl (av_cons (ev_var 0) (av_cons (ev_var 3) (av_cons (ev_var 4) av_nil)))) ev_int) (ss_one (sv_ret (ev_tup (av_cons (ev_cb (cr_sortD (rm64 hr) rfl) rfl b.sorted boot_sorted (av_cons (ev_var 3) av_nil)) (av_cons (ev_cb (cr_sortD (rm64 hr) rfl) rfl b.sorted boot_sorted (av_cons (ev_var 4) av_nil)) av_nil))))) ss_nil)))))
    (ss_one (sv_ret ev_non))))
theorem ok_bar_of {fd : FuncData} (b : Bl mg) (F_in_row : Fn P w K mg base "in_row" (top 25) ["wants"] 1 (sp_in_row K)) (c_Party : Cls K (He.ga K "Party")) (n_Party_own_wants : NoAttr K (He.ga K "Party") "own_wants") (F_lack_of : Fn P w K mg base "lack_of" (top 31) ["party", "rich", "poor"] 2 (sp_lack_of K)) (F : FunD K "bar_of" "bar_of" (defArgs (top 34)) (defBody (top 34)) (defScope (top 34)) [] [] f fd) : FnOk P w K mg base CX0 3 f fd ["party"] (SPV (sp_bar_of K)) :=
  fnOk_fg (k := 2) F sc_bar_of (fun _ _ _ _ h => h.1) (fun cdv A outer s H E hr => dv_bar_of (cdv := cdv) (A := A) (outer := outer) (s := s) (H := H) (E := E) b F_in_row c_Party n_Party_own_wants F_lack_of hr) fun _ _ _ _ h => h.2
def N_told_of : List Str := ["party", "bar"]
theorem sc_told_of : FnScope N_told_of ["party"] (defScope (top 35)) := ⟨rfl, rfl, rfl, by decide +kernel, rfl, by decide +kernel, by decide +kernel⟩
def w_told_of (K : PySem.W.Frag) : WS := (wSeq (wIfS (wB (wOp dEq (wOp dMod (wSumVals (wFld (He.ga K "Party") "own_wants" (wVar 0))) (wC (.int 2))) (wC (.int 1)))) (wRet (wTup (wCons (wC (.str "odd")) wNil))) wNext)
    (wSeq (wAsg (wCall (sp_bar_of K) DX0 (wCons (wVar 0) wNil)) (.nm 1))
    (wSeq (wIfS (wB (wOp dNotN (wVar 1) (wC .non))) (wRet (wTup (wCons (wC (.str "bar")) (wCons (wVar 1) wNil)))) wNext)
    (wRet (wTup (wCons (wC (.str "picture")) (wCons (wCall (sp_drawn_by K) DX0 (wCons (wVar 0) (wCons (wCall (sp_in_row K) DX0 (wCons (wFld (He.ga K "Party") "own_wants" (wVar 0)) wNil)) wNil))) wNil)))))))
def sp_told_of (K : PySem.W.Frag) : DSp := wSp 1 N_told_of (w_told_of K)
theorem dv_told_of (b : Bl mg) (c_Party : Cls K (He.ga K "Party")) (n_Party_own_wants : NoAttr K (He.ga K "Party") "own_wants") (F_bar_of : Fn P w K mg base "bar_of" (top 34) ["party"] 3 (sp_bar_of K)) (F_drawn_by : Fn P w K mg base "drawn_by" (top 33) ["party", "order"] 3 (sp_drawn_by K)) (F_in_row : Fn P w K mg base "in_row" (top 25) ["wants"] 1 (sp_in_row K)) (hr : Room 3 (A.deeper (envOfC "told_of" (defScope (top 35)) s.heap.objs.size f cdv))) : PSs (cx P w K mg base N_told_of "told_of" (top 35) f cdv A outer s H E) (defBody (top 35)) (SV B (w_told_of K)) :=
  (ss_cons (sv_if (tv_cmp (ov_eq (rm66 hr)) (ev_op ov_mod (ev_sumVals rfl rfl b.sum (ev_fld c_Party n_Party_own_wants (ev_var 0))) ev_int) ev_int) (ss_one (sv_ret (ev_tup (av_cons ev_str av_nil)))) ss_nil)
    (ss_cons (sv_set 1 sc_told_of.nd (ev_fn F_bar_of hr rfl (av_cons (ev_var 0) av_nil)))
    (ss_cons (sv_if (tv_cmp ov_notN (ev_var 1) ev_non) (ss_one (sv_ret (ev_tup (av_cons ev_str (av_cons (ev_var 1) av_nil))))) ss_nil)
    (ss_one (sv_ret (ev_tup (av_cons ev_str (av_cons (ev_fn F_drawn_by hr rfl (av_cons (ev_var 0) (av_cons (ev_fn F_in_row hr rfl (av_cons (ev_fld c_Party n_Party_own_wants (ev_var 0)) av_nil)) av_nil))) av_nil))))))))
theorem ok_told_of {fd : FuncData} (b : Bl mg) (c_Party : Cls K (He.ga K "Party")) (n_Party_own_wants : NoAttr K (He.ga K "Party") "own_wants") (F_bar_of : Fn P w K mg base "bar_of" (top 34) ["party"] 3 (sp_bar_of K)) (F_drawn_by : Fn P w K mg base "drawn_by" (top 33) ["party", "order"] 3 (sp_drawn_by K)) (F_in_row : Fn P w K mg base "in_row" (top 25) ["wants"] 1 (sp_in_row K)) (F : FunD K "told_of" "told_of" (defArgs (top 35)) (defBody (top 35)) (defScope (top 35)) [] [] f fd) : FnOk P w K mg base CX0 4 f fd ["party"] (SPV (sp_told_of K)) :=
  fnOk_fg (k := 3) F sc_told_of (fun _ _ _ _ h => h.1) (fun cdv A outer s H E hr => dv_told_of (cdv := cdv) (A := A) (outer := outer) (s := s) (H := H) (E := E) b c_Party n_Party_own_wants F_bar_of F_drawn_by F_in_row hr) fun _ _ _ _ h => h.2
def N_can_be_drawn : List Str := ["party"]
theorem sc_can_be_drawn : FnScope N_can_be_drawn ["party"] (defScope (top 36)) := ⟨rfl, rfl, rfl, by decide +kernel, rfl, by decide +kernel, by decide +kernel⟩
def w_can_be_drawn (K : PySem.W.Frag) : WS := (wSeq (wExpr (wCall (sp_check_party K) DX0 (wCons (wVar 0) wNil)))
    (wRet (wOp dEq (wOp ixD (wCall (sp_told_of K) DX0 (wCons (wVar 0) wNil)) (wC (.int 0))) (wC (.str "picture")))))
def sp_can_be_drawn (K : PySem.W.Frag) : DSp := wSp 1 N_can_be_drawn (w_can_be_drawn K)
theorem dv_can_be_drawn (b : Bl mg) (F_check_party : Fn P w K mg base "check_party" (top 17) ["party"] 1 (sp_check_party K)) (F_told_of : Fn P w K mg base "told_of" (top 35) ["party"] 4 (sp_told_of K)) (hr : Room 4 (A.deeper (envOfC "can_be_drawn" (defScope (top 36)) s.heap.objs.size f cdv))) : PSs (cx P w K mg base N_can_be_drawn "can_be_drawn" (top 36) f cdv A outer s H E) (defBody (top 36)) (SV B (w_can_be_drawn K)) :=
  (ss_cons (sv_expr (ev_fn F_check_party hr rfl (av_cons (ev_var 0) av_nil)))
    (ss_one (sv_ret (ev_cmp (ov_eq (rm66 hr)) (ev_ix (rm1 hr) (ev_fn F_told_of hr rfl (av_cons (ev_var 0) av_nil)) ev_int) ev_str))))
theorem ok_can_be_drawn {fd : FuncData} (b : Bl mg) (F_check_party : Fn P w K mg base "check_party" (top 17) ["party"] 1 (sp_check_party K)) (F_told_of : Fn P w K mg base "told_of" (top 35) ["party"] 4 (sp_told_of K)) (F : FunD K "can_be_drawn" "can_be_drawn" (defArgs (top 36)) (defBody (top 36)) (defScope (top 36)) [] [] f fd) : FnOk P w K mg base CX0 5 f fd ["party"] (SPV (sp_can_be_drawn K)) :=
  fnOk_fg (k := 4) F sc_can_be_drawn (fun _ _ _ _ h => h.1) (fun cdv A outer s H E hr => dv_can_be_drawn (cdv := cdv) (A := A) (outer := outer) (s := s) (H := H) (E := E) b F_check_party F_told_of hr) fun _ _ _ _ h => h.2
def N_hand_of : List Str := ["one", "other"]
theorem sc_hand_of : FnScope N_hand_of ["one", "other"] (defScope (top 38)) := ⟨rfl, rfl, rfl, by decide +kernel, rfl, by decide +kernel, by decide +kernel⟩
def w_hand_of (K : PySem.W.Frag) : WS := (wRet (wTup (wCons (wCB minD2 (wCons (wVar 0) (wCons (wVar 1) wNil))) (wCons (wCB maxD2 (wCons (wVar 0) (wCons (wVar 1) wNil))) wNil))))
def sp_hand_of (K : PySem.W.Frag) : DSp := wSp 2 N_hand_of (w_hand_of K)
theorem dv_hand_of (b : Bl mg)  (hr : Room 0 (A.deeper (envOfC "hand_of" (defScope (top 38)) s.heap.objs.size f cdv))) : PSs (cx P w K mg base N_hand_of "hand_of" (top 38) f cdv A outer s H E) (defBody (top 38)) (SV B (w_hand_of K)) :=
  (ss_one (sv_ret (ev_tup (av_cons (ev_cb (cr_min2 rfl) rfl b.min boot_min (av_cons (ev_var 0) (av_cons (ev_var 1) av_nil))) (av_cons (ev_cb (cr_max2 rfl) rfl b.max boot_max (av_cons (ev_var 0) (av_cons (ev_var 1) av_nil))) av_nil)))))
theorem ok_hand_of {fd : FuncData} (b : Bl mg)  (F : FunD K "hand_of" "hand_of" (defArgs (top 38)) (defBody (top 38)) (defScope (top 38)) [] [] f fd) : FnOk P w K mg base CX0 1 f fd ["one", "other"] (SPV (sp_hand_of K)) :=
  fnOk_fg (k := 0) F sc_hand_of (fun _ _ _ _ h => h.1) (fun cdv A outer s H E hr => dv_hand_of (cdv := cdv) (A := A) (outer := outer) (s := s) (H := H) (E := E) b  hr) fun _ _ _ _ h => h.2
def N_check_least : List Str := ["party", "guest", "number"]
theorem sc_check_least : FnScope N_check_least ["party"] (defScope (top 40)) := ⟨rfl, rfl, rfl, by decide +kernel, rfl, by decide +kernel, by decide +kernel⟩
def w_check_least (K : PySem.W.Frag) : WS := (wSeq (wExpr (wCall (sp_check_party K) DX0 (wCons (wVar 0) wNil)))
    (wFor (wiItems (wLk (wFld (He.ga K "Party") "own_wants" (wVar 0)))) (.tp [(.nm 1), (.nm 2)]) (wIfS (wB (wOp dGe (wVar 2) (wCB lenD (wCons (wFld (He.ga K "Party") "own_wants" (wVar 0)) wNil)))) wNever wNext)))
def sp_check_least (K : PySem.W.Frag) : DSp := wSp 1 N_check_least (w_check_least K)
theorem dv_check_least (b : Bl mg) (F_check_party : Fn P w K mg base "check_party" (top 17) ["party"] 1 (sp_check_party K)) (c_Party : Cls K (He.ga K "Party")) (n_Party_own_wants : NoAttr K (He.ga K "Party") "own_wants") (hr : Room 1 (A.deeper (envOfC "check_least" (defScope (top 40)) s.heap.objs.size f cdv))) : PSs (cx P w K mg base N_check_least "check_least" (top 40) f cdv A outer s H E) (defBody (top 40)) (SV B (w_check_least K)) :=
  (ss_cons (sv_expr (ev_fn F_check_party hr rfl (av_cons (ev_var 0) av_nil)))
    (ss_one (sv_for PassesOwn.never rfl (iv_items (ev_lk (ev_fld c_Party n_Party_own_wants (ev_var 0)))) (tg_tp rfl (tgs_cons (tg_nm 1 sc_check_least.nd) (tgs_cons (tg_nm 2 sc_check_least.nd) tgs_nil))) (ss_one (sv_if (tv_cmp ov_ge (ev_var 2) (ev_cb cr_len rfl b.len boot_len (av_cons (ev_fld c_Party n_Party_own_wants (ev_var 0)) av_nil))) (ss_one sv_never) ss_nil)))))
theorem ok_check_least {fd : FuncData} (b : Bl mg) (F_check_party : Fn P w K mg base "check_party" (top 17) ["party"] 1 (sp_check_party K)) (c_Party : Cls K (He.ga K "Party")) (n_Party_own_wants : NoAttr K (He.ga K "Party") "own_wants") (F : FunD K "check_least" "check_least" (defArgs (top 40)) (defBody (top 40)) (defScope (top 40)) [] [] f fd) : FnOk P w K mg base CX0 2 f fd ["party"] (SPV (sp_check_least K)) :=
  fnOk_fg (k := 1) F sc_check_least (fun _ _ _ _ h => h.1) (fun cdv A outer s H E hr => dv_check_least (cdv := cdv) (A := A) (outer := outer) (s := s) (H := H) (E := E) b F_check_party c_Party n_Party_own_wants hr) fun _ _ _ _ h => h.2
def N_other_party : List Str := ["party", "others", "guest", "number"]
theorem sc_other_party : FnScope N_other_party ["party"] (defScope (top 41)) := ⟨rfl, rfl, rfl, by decide +kernel, rfl, by decide +kernel, by decide +kernel⟩
def w_other_party (K : PySem.W.Frag) : WS := (wSeq (wExpr (wCall (sp_check_least K) DX0 (wCons (wVar 0) wNil)))
    (wSeq (wAsg (wOp dSub (wCB lenD (wCons (wFld (He.ga K "Party") "own_wants" (wVar 0)) wNil)) (wC (.int 1))) (.nm 1))
    (wRet (wMake (He.ga K "Party") (sp_m_Party_init K) (wCons (wLC (wiItems (wLk (wFld (He.ga K "Party") "own_wants" (wVar 0)))) (.tp [(.nm 2), (.nm 3)]) (fun _ G Q => Q true G) (wTup (wCons (wVar 2) (wCons (wOp dSub (wVar 1) (wVar 3)) wNil))) [2, 3]) wNil)))))
def sp_other_party (K : PySem.W.Frag) : DSp := wSp 1 N_other_party (w_other_party K)
theorem dv_other_party (b : Bl mg) (F_check_least : Fn P w K mg base "check_least" (top 40) ["party"] 2 (sp_check_least K)) (c_Party : Cls K (He.ga K "Party")) (n_Party_own_wants : NoAttr K (He.ga K "Party") "own_wants") (F_m_Party_init : Mkr P w K mg base "Party" (He.ga K "Party") ["self", "rows"] 4 (sp_m_Party_init K)) (hr : Room 5 (A.deeper (envOfC "other_party" (defScope (top 41)) s.heap.objs.size f cdv))) : PSs (cx P w K mg base N_other_party "other_party" (top 41) f cdv A outer s H E) (defBody (top 41)) (SV B (w_other_party K)) :=
  (ss_cons (sv_expr (ev_fn F_check_least hr rfl (av_cons (ev_var 0) av_nil)))
    (ss_cons (sv_set 1 sc_other_party.nd (ev_op ov_sub (ev_cb cr_len rfl b.len boot_len (av_cons (ev_fld c_Party n_Party_own_wants (ev_var 0)) av_nil)) ev_int))
    (ss_one (sv_ret (ev_mk F_m_Party_init hr rfl (av_cons (ev_lc rfl sc_other_party.nd (iv_items (ev_lk (ev_fld c_Party n_Party_own_wants (ev_var 0)))) (own := [("guest", 2), ("number", 3)]) (⟨rfl, by decide +kernel, by decide +kernel, by decide +kernel, by decide +kernel⟩ : BlkOk N_other_party (defScope (top 41)) _ [("guest", 2), ("number", 3)]) (fun _ _ _ _ _ => (tg_tp rfl (tgs_cons (tg_nm 2 sc_other_party.nd) (tgs_cons (tg_nm 3 sc_other_party.nd) tgs_nil)))) (fun _ _ _ _ _ => tv_yes) (fun _ _ _ _ _ => (ev_tup (av_cons (ev_var 2) (av_cons (ev_op ov_sub (ev_var 1) (ev_var 3)) av_nil)))) (by decide)) av_nil))))))
theorem ok_other_party {fd : FuncData} (b : Bl mg) (F_check_least : Fn P w K mg base "check_least" (top 40) ["party"] 2 (sp_check_least K)) (c_Party : Cls K (He.ga K "Party")) (n_Party_own_wants : NoAttr K (He.ga K "Party") "own_wants") (F_m_Party_init : Mkr P w K mg base "Party" (He.ga K "Party") ["self", "rows"] 4 (sp_m_Party_init K)) (F : FunD K "other_party" "other_party" (defArgs (top 41)) (defBody (top 41)) (defScope (top 41)) [] [] f fd) : FnOk P w K mg base CX0 6 f fd ["party"] (SPV (sp_other_party K)) :=
  fnOk_fg (k := 5) F sc_other_party (fun _ _ _ _ h => h.1) (fun cdv A outer s H E hr => dv_other_party (cdv := cdv) (A := A) (outer := outer) (s := s) (H := H) (E := E) b F_check_least c_Party n_Party_own_wants F_m_Party_init hr) fun _ _ _ _ h => h.2
def N_check_apart : List Str := ["party", "other", "both", "guest"]
theorem sc_check_apart : FnScope N_check_apart ["party", "other"] (defScope (top 42)) := ⟨rfl, rfl, rfl, by decide +kernel, rfl, by decide +kernel, by decide +kernel⟩
def w_check_apart (K : PySem.W.Frag) : WS := (wSeq (wExpr (wCall (sp_check_party K) DX0 (wCons (wVar 0) wNil)))
    (wSeq (wExpr (wCall (sp_check_party K) DX0 (wCons (wVar 1) wNil)))
    (wSeq (wAsg (wLC (wiE (wLk (wFld (He.ga K "Party") "own_wants" (wVar 0)))) (.nm 3) (wB (wOp dIn (wVar 3) (wFld (He.ga K "Party") "own_wants" (wVar 1)))) (wVar 3) [3]) (.nm 2))
    (wIfS (wB (wOp dNe (wVar 2) (wLst wNil))) wNever wNext))))
def sp_check_apart (K : PySem.W.Frag) : DSp := wSp 2 N_check_apart (w_check_apart K)
theorem dv_check_apart (b : Bl mg) (F_check_party : Fn P w K mg base "check_party" (top 17) ["party"] 1 (sp_check_party K)) (c_Party : Cls K (He.ga K "Party")) (n_Party_own_wants : NoAttr K (He.ga K "Party") "own_wants") (hr : Room 1 (A.deeper (envOfC "check_apart" (defScope (top 42)) s.heap.objs.size f cdv))) : PSs (cx P w K mg base N_check_apart "check_apart" (top 42) f cdv A outer s H E) (defBody (top 42)) (SV B (w_check_apart K)) :=
  (ss_cons (sv_expr (ev_fn F_check_party hr rfl (av_cons (ev_var 0) av_nil)))
    (ss_cons (sv_expr (ev_fn F_check_party hr rfl (av_cons (ev_var 1) av_nil)))
    (ss_cons (sv_setLc 2 rfl sc_check_apart.nd (iv_any (ev_lk (ev_fld c_Party n_Party_own_wants (ev_var 0)))) (own := [("guest", 3)]) (⟨rfl, by decide +kernel, by decide +kernel, by decide +kernel, by decide +kernel⟩ : BlkOk N_check_apart (defScope (top 42)) _ [("guest", 3)]) (fun _ _ _ _ _ => (tg_nm 3 sc_check_apart.nd)) (fun _ _ _ _ _ => (tv_one (tv_cmp (ov_inA (rm66 hr)) (ev_var 3) (ev_fld c_Party n_Party_own_wants (ev_var 1))))) (fun _ _ _ _ _ => (ev_var 3)) (by decide))
    (ss_one (sv_if (tv_cmp (ov_ne (rm66 hr)) (ev_var 2) (ev_lst av_nil)) (ss_one sv_never) ss_nil)))))
theorem ok_check_apart {fd : FuncData} (b : Bl mg) (F_check_party : Fn P w K mg base "check_party" (top 17) ["party"] 1 (sp_check_party K)) (c_Party : Cls K (He.ga K "Party")) (n_Party_own_wants : NoAttr K (He.ga K "Party") "own_wants") (F : FunD K "check_apart" "check_apart" (defArgs (top 42)) (defBody (top 42)) (defScope (top 42)) [] [] f fd) : FnOk P w K mg base CX0 2 f fd ["party", "other"] (SPV (sp_check_apart K)) :=
  fnOk_fg (k := 1) F sc_check_apart (fun _ _ _ _ h => h.1) (fun cdv A outer s H E hr => dv_check_apart (cdv := cdv) (A := A) (outer := outer) (s := s) (H := H) (E := E) b F_check_party c_Party n_Party_own_wants hr) fun _ _ _ _ h => h.2
def N_joined : List Str := ["party", "other"]
theorem sc_joined : FnScope N_joined ["party", "other"] (defScope (top 43)) := ⟨rfl, rfl, rfl, by decide +kernel, rfl, by decide +kernel, by decide +kernel⟩
def w_joined (K : PySem.W.Frag) : WS := (wSeq (wExpr (wCall (sp_check_apart K) DX0 (wCons (wVar 0) (wCons (wVar 1) wNil))))
    (wRet (wMake (He.ga K "Party") (sp_m_Party_init K) (wCons (wLst (wStarItems (wFld (He.ga K "Party") "own_wants" (wVar 0)) (wStarItems (wFld (He.ga K "Party") "own_wants" (wVar 1)) wNil))) wNil))))
def sp_joined (K : PySem.W.Frag) : DSp := wSp 2 N_joined (w_joined K)
theorem dv_joined (b : Bl mg) (F_check_apart : Fn P w K mg base "check_apart" (top 42) ["party", "other"] 2 (sp_check_apart K)) (F_m_Party_init : Mkr P w K mg base "Party" (He.ga K "Party") ["self", "rows"] 4 (sp_m_Party_init K)) (c_Party : Cls K (He.ga K "Party")) (n_Party_own_wants : NoAttr K (He.ga K "Party") "own_wants") (hr : Room 5 (A.deeper (envOfC "joined" (defScope (top 43)) s.heap.objs.size f cdv))) : PSs (cx P w K mg base N_joined "joined" (top 43) f cdv A outer s H E) (defBody (top 43)) (SV B (w_joined K)) :=
  (ss_cons (sv_expr (ev_fn F_check_apart hr rfl (av_cons (ev_var 0) (av_cons (ev_var 1) av_nil))))
    (ss_one (sv_ret (ev_mk F_m_Party_init hr rfl (av_cons (ev_lst (av_starItems rfl (ev_fld c_Party n_Party_own_wants (ev_var 0)) (av_starItems rfl (ev_fld c_Party n_Party_own_wants (ev_var 1)) av_nil))) av_nil)))))
theorem ok_joined {fd : FuncData} (b : Bl mg) (F_check_apart : Fn P w K mg base "check_apart" (top 42) ["party", "other"] 2 (sp_check_apart K)) (F_m_Party_init : Mkr P w K mg base "Party" (He.ga K "Party") ["self", "rows"] 4 (sp_m_Party_init K)) (c_Party : Cls K (He.ga K "Party")) (n_Party_own_wants : NoAttr K (He.ga K "Party") "own_wants") (F : FunD K "joined" "joined" (defArgs (top 43)) (defBody (top 43)) (defScope (top 43)) [] [] f fd) : FnOk P w K mg base CX0 6 f fd ["party", "other"] (SPV (sp_joined K)) :=
  fnOk_fg (k := 5) F sc_joined (fun _ _ _ _ h => h.1) (fun cdv A outer s H E hr => dv_joined (cdv := cdv) (A := A) (outer := outer) (s := s) (H := H) (E := E) b F_check_apart F_m_Party_init c_Party n_Party_own_wants hr) fun _ _ _ _ h => h.2
def N_crossed : List Str := ["party", "other", "rows", "guest", "number"]
theorem sc_crossed : FnScope N_crossed ["party", "other"] (defScope (top 44)) := ⟨rfl, rfl, rfl, by decide +kernel, rfl, by decide +kernel, by decide +kernel⟩
def w_crossed (K : PySem.W.Frag) : WS := (wSeq (wExpr (wCall (sp_check_apart K) DX0 (wCons (wVar 0) (wCons (wVar 1) wNil))))
    (wSeq (wAsg (wLC (wiItems (wLk (wFld (He.ga K "Party") "own_wants" (wVar 0)))) (.tp [(.nm 3), (.nm 4)]) (fun _ G Q => Q true G) (wTup (wCons (wVar 3) (wCons (wOp dAdd (wVar 4) (wCB lenD (wCons (wFld (He.ga K "Party") "own_wants" (wVar 1)) wNil))) wNil))) [3, 4]) (.nm 2))
    (wRet (wMake (He.ga K "Party") (sp_m_Party_init K) (wCons (wOp dAdd (wVar 2) (wLC (wiItems (wLk (wFld (He.ga K "Party") "own_wants" (wVar 1)))) (.tp [(.nm 3), (.nm 4)]) (fun _ G Q => Q true G) (wTup (wCons (wVar 3) (wCons (wOp dAdd (wVar 4) (wCB lenD (wCons (wFld (He.ga K "Party") "own_wants" (wVar 0)) wNil))) wNil))) [3, 4])) wNil)))))
def sp_crossed (K : PySem.W.Frag) : DSp := wSp 2 N_crossed (w_crossed K)
theorem dv_crossed (b : Bl mg) (F_check_apart : Fn P w K mg base "check_apart" (top 42) ["party", "other"] 2 (sp_check_apart K)) (c_Party : Cls K (He.ga K "Party")) (n_Party_own_wants : NoAttr K (He.ga K "Party") "own_wants") (F_m_Party_init : Mkr P w K mg base "Party" (He.ga K "Party") ["self", "rows"] 4 (sp_m_Party_init K)) (hr : Room 5 (A.deeper (envOfC "crossed" (defScope (top 44)) s.heap.objs.size f cdv))) : PSs (cx P w K mg base N_crossed "crossed" (top 44) f cdv A outer s H E) (defBody (top 44)) (SV B (w_crossed K)) :=
  (ss_cons (sv_expr (ev_fn F_check_apart hr rfl (av_cons (ev_var 0) (av_cons (ev_var 1) av_nil))))
    (ss_cons (sv_setLc 2 rfl sc_crossed.nd (iv_items (ev_lk (ev_fld c_Party n_Party_own_wants (ev_var 0)))) (own := [("guest", 3), ("number", 4)]) (⟨rfl, by decide +kernel, by decide +kernel, by decide +kernel, by decide +kernel⟩ : BlkOk N_crossed (defScope (top 44)) _ [("guest", 3), ("number", 4)]) (fun _ _ _ _ _ => (tg_tp rfl (tgs_cons (tg_nm 3 sc_crossed.nd) (tgs_cons (tg_nm 4 sc_crossed.nd) tgs_nil)))) (fun _ _ _ _ _ => tv_yes) (fun _ _ _ _ _ => (ev_tup (av_cons (ev_var 3) (av_cons (ev_op ov_add (ev_var 4) (ev_cb cr_len rfl b.len boot_len (av_cons (ev_fld c_Party n_Party_own_wants (ev_var 1)) av_nil))) av_nil)))) (by decide))
    (ss_one (sv_ret (ev_mk F_m_Party_init hr rfl (av_cons (ev_op ov_add (ev_var 2) (ev_lc rfl sc_crossed.nd (iv_items (ev_lk (ev_fld c_Party n_Party_own_wants (ev_var 1)))) (own := [("guest", 3), ("number", 4)]) (⟨rfl, by decide +kernel, by decide +kernel, by decide +kernel, by decide +kernel⟩ : BlkOk N_crossed (defScope (top 44)) _ [("guest", 3), ("number", 4)]) (fun _ _ _ _ _ => (tg_tp rfl (tgs_cons (tg_nm 3 sc_crossed.nd) (tgs_cons (tg_nm 4 sc_crossed.nd) tgs_nil)))) (fun _ _ _ _ _ => tv_yes) (fun _ _ _ _ _ => (ev_tup (av_cons (ev_var 3) (av_cons (ev_op ov_add (ev_var 4) (ev_cb cr_len rfl b.len boot_len (av_cons (ev_fld c_Party n_Party_own_wants (ev_var 0)) av_nil))) av_nil)))) (by decide))) av_nil))))))
theorem ok_crossed {fd : FuncData} (b : Bl mg) (F_check_apart : Fn P w K mg base "check_apart" (top 42) ["party", "other"] 2 (sp_check_apart K)) (c_Party : Cls K (He.ga K "Party")) (n_Party_own_wants : NoAttr K (He.ga K "Party") "own_wants") (F_m_Party_init : Mkr P w K mg base "Party" (He.ga K "Party") ["self", "rows"] 4 (sp_m_Party_init K)) (F : FunD K "crossed" "crossed" (defArgs (top 44)) (defBody (top 44)) (defScope (top 44)) [] [] f fd) : FnOk P w K mg base CX0 6 f fd ["party", "other"] (SPV (sp_crossed K)) :=
  fnOk_fg (k := 5) F sc_crossed (fun _ _ _ _ h => h.1) (fun cdv A outer s H E hr => dv_crossed (cdv := cdv) (A := A) (outer := outer) (s := s) (H := H) (E := E) b F_check_apart c_Party n_Party_own_wants F_m_Party_init hr) fun _ _ _ _ h => h.2
def N_check_webs : List Str := ["party", "other", "web", "second"]
theorem sc_check_webs : FnScope N_check_webs ["party", "other", "web", "second"] (defScope (top 45)) := ⟨rfl, rfl, rfl, by decide +kernel, rfl, by decide +kernel, by decide +kernel⟩
def w_check_webs (K : PySem.W.Frag) : WS := (wSeq (wExpr (wCall (sp_check_apart K) DX0 (wCons (wVar 0) (wCons (wVar 1) wNil))))
    (wSeq (wExpr (wCall (sp_check_web K) DX0 (wCons (wVar 0) (wCons (wVar 2) wNil))))
    (wExpr (wCall (sp_check_web K) DX0 (wCons (wVar 1) (wCons (wVar 3) wNil))))))
def sp_check_webs (K : PySem.W.Frag) : DSp := wSp 4 N_check_webs (w_check_webs K)
theorem dv_check_webs (b : Bl mg) (F_check_apart : Fn P w K mg base "check_apart" (top 42) ["party", "other"] 2 (sp_check_apart K)) (F_check_web : Fn P w K mg base "check_web" (top 22) ["party", "web"] 5 (sp_check_web K)) (hr : Room 5 (A.deeper (envOfC "check_webs" (defScope (top 45)) s.heap.objs.size f cdv))) : PSs (cx P w K mg base N_check_webs "check_webs" (top 45) f cdv A outer s H E) (defBody (top 45)) (SV B (w_check_webs K)) :=
  (ss_cons (sv_expr (ev_fn F_check_apart hr rfl (av_cons (ev_var 0) (av_cons (ev_var 1) av_nil))))
    (ss_cons (sv_expr (ev_fn F_check_web hr rfl (av_cons (ev_var 0) (av_cons (ev_var 2) av_nil))))
    (ss_one (sv_expr (ev_fn F_check_web hr rfl (av_cons (ev_var 1) (av_cons (ev_var 3) av_nil)))))))
theorem ok_check_webs {fd : FuncData} (b : Bl mg) (F_check_apart : Fn P w K mg base "check_apart" (top 42) ["party", "other"] 2 (sp_check_apart K)) (F_check_web : Fn P w K mg base "check_web" (top 22) ["party", "web"] 5 (sp_check_web K)) (F : FunD K "check_webs" "check_webs" (defArgs (top 45)) (defBody (top 45)) (defScope (top 45)) [] [] f fd) : FnOk P w K mg base CX0 6 f fd ["party", "other", "web", "second"] (SPV (sp_check_webs K)) :=
  fnOk_fg (k := 5) F sc_check_webs (fun _ _ _ _ h => h.1) (fun cdv A outer s H E hr => dv_check_webs (cdv := cdv) (A := A) (outer := outer) (s := s) (H := H) (E := E) b F_check_apart F_check_web hr) fun _ _ _ _ h => h.2
def N_webs_joined : List Str := ["party", "other", "web", "second", "hand"]
theorem sc_webs_joined : FnScope N_webs_joined ["party", "other", "web", "second"] (defScope (top 46)) := ⟨rfl, rfl, rfl, by decide +kernel, rfl, by decide +kernel, by decide +kernel⟩
def w_webs_joined (K : PySem.W.Frag) : WS := (wSeq (wExpr (wCall (sp_check_webs K) DX0 (wCons (wVar 0) (wCons (wVar 1) (wCons (wVar 2) (wCons (wVar 3) wNil))))))
    (wRet (wCB sortD (wCons (wLC (wiE (wLst (wStar (wVar 2) (wStar (wVar 3) wNil)))) (.nm 4) (fun _ G Q => Q true G) (wCB tupD (wCons (wVar 4) wNil)) [4]) wNil))))
def sp_webs_joined (K : PySem.W.Frag) : DSp := wSp 4 N_webs_joined (w_webs_joined K)
theorem dv_webs_joined (b : Bl mg) (F_check_webs : Fn P w K mg base "check_webs" (top 45) ["party", "other", "web", "second"] 6 (sp_check_webs K)) (hr : Room 6 (A.deeper (envOfC "webs_joined" (defScope (top 46)) s.heap.objs.size f cdv))) : PSs (cx P w K mg base N_webs_joined "webs_joined" (top 46) f cdv A outer s H E) (defBody (top 46)) (SV B (w_webs_joined K)) :=
  (ss_cons (sv_expr (ev_fn F_check_webs hr rfl (av_cons (ev_var 0) (av_cons (ev_var 1) (av_cons (ev_var 2) (av_cons (ev_var 3) av_nil))))))
    (ss_one (sv_ret (ev_cb (cr_sortD (rm64 hr) rfl) rfl b.sorted boot_sorted (av_cons (ev_lc rfl sc_webs_joined.nd (iv_any (ev_lst (av_star (ev_var 2) (av_star (ev_var 3) av_nil)))) (own := [("hand", 4)]) (⟨rfl, by decide +kernel, by decide +kernel, by decide +kernel, by decide +kernel⟩ : BlkOk N_webs_joined (defScope (top 46)) _ [("hand", 4)]) (fun _ _ _ _ _ => (tg_nm 4 sc_webs_joined.nd)) (fun _ _ _ _ _ => tv_yes) (fun _ _ _ _ _ => (ev_cty cr_tuple rfl b.tuple boot_tuple (av_cons (ev_var 4) av_nil))) (by decide)) av_nil)))))
theorem ok_webs_joined {fd : FuncData} (b : Bl mg) (F_check_webs : Fn P w K mg base "check_webs" (top 45) ["party", "other", "web", "second"] 6 (sp_check_webs K)) (F : FunD K "webs_joined" "webs_joined" (defArgs (top 46)) (defBody (top 46)) (defScope (top 46)) [] [] f fd) : FnOk P w K mg base CX0 7 f fd ["party", "other", "web", "second"] (SPV (sp_webs_joined K)) :=
  fnOk_fg (k := 6) F sc_webs_joined (fun _ _ _ _ h => h.1) (fun cdv A outer s H E hr => dv_webs_joined (cdv := cdv) (A := A) (outer := outer) (s := s) (H := H) (E := E) b F_check_webs hr) fun _ _ _ _ h => h.2
def N_webs_crossed : List Str := ["party", "other", "web", "second", "across", "one", "two", "hand"]
theorem sc_webs_crossed : FnScope N_webs_crossed ["party", "other", "web", "second"] (defScope (top 47)) := ⟨rfl, rfl, rfl, by decide +kernel, rfl, by decide +kernel, by decide +kernel⟩
def w_webs_crossed (K : PySem.W.Frag) : WS := (wSeq (wExpr (wCall (sp_check_webs K) DX0 (wCons (wVar 0) (wCons (wVar 1) (wCons (wVar 2) (wCons (wVar 3) wNil))))))
    (wSeq (wAsg (wLC2 (wiE (wLk (wFld (He.ga K "Party") "own_wants" (wVar 0)))) (.nm 5) (fun _ G Q => Q true G) (wiE (wLk (wFld (He.ga K "Party") "own_wants" (wVar 1)))) (.nm 6) (fun _ G Q => Q true G) (wCall (sp_hand_of K) DX0 (wCons (wVar 5) (wCons (wVar 6) wNil))) [5, 6] [6]) (.nm 4))
    (wRet (wCB sortD (wCons (wOp dAdd (wLC (wiE (wLst (wStar (wVar 2) (wStar (wVar 3) wNil)))) (.nm 7) (fun _ G Q => Q true G) (wCB tupD (wCons (wVar 7) wNil)) [7]) (wVar 4)) wNil)))))
def sp_webs_crossed (K : PySem.W.Frag) : DSp := wSp 4 N_webs_crossed (w_webs_crossed K)
theorem dv_webs_crossed (b : Bl mg) (F_check_webs : Fn P w K mg base "check_webs" (top 45) ["party", "other", "web", "second"] 6 (sp_check_webs K)) (c_Party : Cls K (He.ga K "Party")) (n_Party_own_wants : NoAttr K (He.ga K "Party") "own_wants") (F_hand_of : Fn P w K mg base "hand_of" (top 38) ["one", "other"] 1 (sp_hand_of K)) (hr : Room 6 (A.deeper (envOfC "webs_crossed" (defScope (top 47)) s.heap.objs.size f cdv))) : PSs (cx P w K mg base N_webs_crossed "webs_crossed" (top 47) f cdv A outer s H E) (defBody (top 47)) (SV B (w_webs_crossed K)) :=
  (ss_cons (sv_expr (ev_fn F_check_webs hr rfl (av_cons (ev_var 0) (av_cons (ev_var 1) (av_cons (ev_var 2) (av_cons (ev_var 3) av_nil))))))
    (ss_cons (sv_setLc2 4 rfl sc_webs_crossed.nd (iv_any (ev_lk (ev_fld c_Party n_Party_own_wants (ev_var 0)))) (own := [("one", 5), ("two", 6)]) (⟨rfl, by decide +kernel, by decide +kernel, by decide +kernel, by decide +kernel⟩ : BlkOk N_webs_crossed (defScope (top 47)) _ [("one", 5), ("two", 6)]) (fun _ _ _ _ _ => (tg_nm 5 sc_webs_crossed.nd)) (fun _ _ _ _ _ => tv_yes) (fun _ _ _ _ _ => (iv_any (ev_lk (ev_fld c_Party n_Party_own_wants (ev_var 1))))) (fun _ _ _ _ _ => (tg_nm 6 sc_webs_crossed.nd)) (fun _ _ _ _ _ => tv_yes) (fun _ _ _ _ _ => (ev_fn F_hand_of hr rfl (av_cons (ev_var 5) (av_cons (ev_var 6) av_nil)))) (by decide) (vs1 := [6]) (by decide) (by decide))
    (ss_one (sv_ret (ev_cb (cr_sortD (rm64 hr) rfl) rfl b.sorted boot_sorted (av_cons (ev_op ov_add (ev_lc rfl sc_webs_crossed.nd (iv_any (ev_lst (av_star (ev_var 2) (av_star (ev_var 3) av_nil)))) (own := [("hand", 7)]) (⟨rfl, by decide +kernel, by decide +kernel, by decide +kernel, by decide +kernel⟩ : BlkOk N_webs_crossed (defScope (top 47)) _ [("hand", 7)]) (fun _ _ _ _ _ => (tg_nm 7 sc_webs_crossed.nd)) (fun _ _ _ _ _ => tv_yes) (fun _ _ _ _ _ => (ev_cty cr_tuple rfl b.tuple boot_tuple (av_cons (ev_var 7) av_nil))) (by decide)) (ev_var 4)) av_nil))))))
theorem ok_webs_crossed {fd : FuncData} (b : Bl mg) (F_check_webs : Fn P w K mg base "check_webs" (top 45) ["party", "other", "web", "second"] 6 (sp_check_webs K)) (c_Party : Cls K (He.ga K "Party")) (n_Party_own_wants : NoAttr K (He.ga K "Party") "own_wants") (F_hand_of : Fn P w K mg base "hand_of" (top 38) ["one", "other"] 1 (sp_hand_of K)) (F : FunD K "webs_crossed" "webs_crossed" (defArgs (top 47)) (defBody (top 47)) (defScope (top 47)) [] [] f fd) : FnOk P w K mg base CX0 7 f fd ["party", "other", "web", "second"] (SPV (sp_webs_crossed K)) :=
  fnOk_fg (k := 6) F sc_webs_crossed (fun _ _ _ _ h => h.1) (fun cdv A outer s H E hr => dv_webs_crossed (cdv := cdv) (A := A) (outer := outer) (s := s) (H := H) (E := E) b F_check_webs c_Party n_Party_own_wants F_hand_of hr) fun _ _ _ _ h => h.2
def N__law_draw : List Str := ["stream", "many", "cell", "digit", "mixed"]
theorem sc__law_draw : FnScope N__law_draw ["stream", "many"] (defScope (top 50)) := ⟨rfl, rfl, rfl, by decide +kernel, rfl, by decide +kernel, by decide +kernel⟩
def w__law_draw (K : PySem.W.Frag) : WS := (wSeq (wSetIx (wVar 0) (wC (.int 2)) (wOp dAdd (wOp ixD (wVar 0) (wC (.int 2))) (wC (.int 1))))
    (wSeq (wWhile (wAnd (wB (wOp dEq (wOp ixD (wVar 0) (wC (.int 1))) (wC (.int 0)))) (wB (wOp dNe (wOp ixD (wVar 0) (wC (.int 0))) (wLst wNil)))) (wSeq (wAsg (wCB absD (wCons (wBM "list" popD (wOp ixD (wVar 0) (wC (.int 0))) (wCons (wC (.int 0)) wNil)) wNil)) (.nm 2))
    (wSeq (wSetIx (wVar 0) (wC (.int 3)) (wOp dMod (wCB intD (wCons (wOp dAdd (wOp dAdd (wOp dMul (wOp ixD (wVar 0) (wC (.int 3))) (wC (.int 6151))) (wVar 2)) (wC (.int 7))) wNil)) (wC (.int 2147483629))))
    (wSetIx (wVar 0) (wC (.int 1)) (wIf (wB (wOp dGe (wVar 2) (wOp dPow (wC (.int 10)) (wC (.int 18))))) (wVar 2) (wC (.int 0)))))))
    (wSeq (wIfS (wB (wOp dGt (wOp ixD (wVar 0) (wC (.int 1))) (wC (.int 0)))) (wSeq (wAsg (wOp dMod (wCB intD (wCons (wOp ixD (wVar 0) (wC (.int 1))) wNil)) (wVar 1)) (.nm 3))
    (wSeq (wSetIx (wVar 0) (wC (.int 1)) (wOp dDiv (wOp ixD (wVar 0) (wC (.int 1))) (wVar 1)))
    (wRet (wVar 3)))) wNext)
    (wSeq (wAsg (wOp dMod (wCB intD (wCons (wOp dPow (wOp dAdd (wOp dAdd (wOp ixD (wVar 0) (wC (.int 3))) (wOp dMul (wC (.int 8191)) (wOp ixD (wVar 0) (wC (.int 2))))) (wC (.int 50021))) (wC (.int 5))) wNil)) (wC (.int 2147483587))) (.nm 4))
    (wRet (wOp dMod (wOp dMod (wCB intD (wCons (wOp dPow (wOp dAdd (wOp dAdd (wOp dMul (wVar 4) (wC (.int 40009))) (wOp dMul (wC (.int 20011)) (wOp ixD (wVar 0) (wC (.int 2))))) (wC (.int 31))) (wC (.int 3))) wNil)) (wC (.int 1000000009))) (wVar 1)))))))
def sp0__law_draw (K : PySem.W.Frag) : DSp := wSp 2 N__law_draw (w__law_draw K)
theorem dv__law_draw (b : Bl mg)  (hr : Room 0 (A.deeper (envOfC "_law_draw" (defScope (top 50)) s.heap.objs.size f cdv))) : PSs (cx P w K mg base N__law_draw "_law_draw" (top 50) f cdv A outer s H E) (defBody (top 50)) (SV B (w__law_draw K)) :=
  (ss_cons (sv_setIx (rm1 hr) (ev_var 0) ev_int (ev_op ov_add (ev_ix (rm1 hr) (ev_var 0) ev_int) ev_int))
    (ss_cons (sv_while PassesOwn.never (L2.PW.pt (wv_and (tv_cmp (ov_eq (rm66 hr)) (ev_ix (rm1 hr) (ev_var 0) ev_int) ev_int) (wv_one_and (tv_cmp (ov_ne (rm66 hr)) (ev_ix (rm1 hr) (ev_var 0) ev_int) (ev_lst av_nil))))) (ss_cons (sv_set 2 sc__law_draw.nd (ev_cb cr_abs rfl b.abs boot_abs (av_cons (ev_bm F.plainAttrs_list F.slot_list_pop F.type_list_pop md_pop (ev_ix (rm1 hr) (ev_var 0) ev_int) (av_cons ev_int av_nil)) av_nil)))
    (ss_cons (sv_setIx (rm1 hr) (ev_var 0) ev_int (ev_op ov_mod (ev_cty cr_int rfl b.int boot_int (av_cons (ev_op ov_add (ev_op ov_add (ev_op ov_mul (ev_ix (rm1 hr) (ev_var 0) ev_int) ev_int) (ev_var 2)) ev_int) av_nil)) ev_int))
    (ss_one (sv_setIx (rm1 hr) (ev_var 0) ev_int (ev_if (tv_cmp ov_ge (ev_var 2) (ev_op ov_pow ev_int ev_int)) (ev_var 2) ev_int))))))
    (ss_cons (sv_if (tv_cmp ov_gt (ev_ix (rm1 hr) (ev_var 0) ev_int) ev_int) (ss_cons (sv_set 3 sc__law_draw.nd (ev_op ov_mod (ev_cty cr_int rfl b.int boot_int (av_cons (ev_ix (rm1 hr) (ev_var 0) ev_int) av_nil)) (ev_var 1)))
    (ss_cons (sv_setIx (rm1 hr) (ev_var 0) ev_int (ev_op ov_div (ev_ix (rm1 hr) (ev_var 0) ev_int) (ev_var 1)))
    (ss_one (sv_ret (ev_var 3))))) ss_nil)
    (ss_cons (sv_set 4 sc__law_draw.nd (ev_op ov_mod (ev_cty cr_int rfl b.int boot_int (av_cons (ev_op ov_pow (ev_op ov_add (ev_op ov_add (ev_ix (rm1 hr) (ev_var 0) ev_int) (ev_op ov_mul ev_int (ev_ix (rm1 hr) (ev_var 0) ev_int))) ev_int) ev_int) av_nil)) ev_int))
    (ss_one (sv_ret (ev_op ov_mod (ev_op ov_mod (ev_cty cr_int rfl b.int boot_int (av_cons (ev_op ov_pow (ev_op ov_add (ev_op ov_add (ev_op ov_mul (ev_var 4) ev_int) (ev_op ov_mul ev_int (ev_ix (rm1 hr) (ev_var 0) ev_int))) ev_int) ev_int) av_nil)) ev_int) (ev_var 1))))))))
theorem ok0__law_draw {fd : FuncData} (b : Bl mg)  (F : FunD K "_law_draw" "_law_draw" (defArgs (top 50)) (defBody (top 50)) (defScope (top 50)) [] [] f fd) : FnOk P w K mg base CX0 1 f fd ["stream", "many"] (SPV (sp0__law_draw K)) :=
  fnOk_fg (k := 0) F sc__law_draw (fun _ _ _ _ h => h.1) (fun cdv A outer s H E hr => dv__law_draw (cdv := cdv) (A := A) (outer := outer) (s := s) (H := H) (E := E) b  hr) fun _ _ _ _ h => h.2
theorem atI_0 {α : Type} {a : α} {l : List α} : atI (a :: l) 0 = some a := by
  unfold atI ixN
  simp
theorem t_draw_fin {K : PySem.W.Frag} : DrawOpen (w__law_draw K) N__law_draw := by
  intro S many n G R hal ga gl ok hn m1 m2 q
  unfold w__law_draw
  dsimp only [wSeq, wSetIx, wOp, wC, wB, wIfS, wAsg, wCB, wCons, wNil, wRet, wRetN, wAnd, wOr, wNot, wAndV, wOrV, wNotV, wIf, wTup, wLst, wBM, wNext, wExpr, wUn, wChain, wCall, wSl, wPart, wNoPart, wNever, wLkS, wStar, wStarItems, wListItems, wSumVals, wFld, wSetFld, wMake, wMeth, wCallK, wDisp, wEmp, wPairs, wLk, wBreak, wCont, asg, asgs]
  -- stream[2] = stream[2] + 1
  refine x_var (d := .ref S.a) rfl (x_ixL ga (i := 2) (v := .int S.s2) rfl (x_addI (x_var (d := .ref S.a) rfl (x_setL ga (m := 2) rfl ?_))))
  -- the loop
  refine ⟨fun δ1 G1 => ∃ S1 : Stm, (∃ c, δ1 = [some (.ref S.a), some (.int many), c, none, none]) ∧ S1.a = S.a ∧ S1.l = S.l ∧ S1.ok (n + 1) ∧ G1.ob S.a = some S1.lst ∧ G1.ob S.l = some S1.ints ∧ ∀ b o, b ≠ S.a → b ≠ S.l → G.ob b = some o → G1.ob b = some o, fun δ1 G1 => match G1.ob S.l with
    | some (.lst _ ds) => ds.length
    | _ => 0, ⟨{ S with s2 := S.s2 + 1 }, ⟨none, rfl⟩, rfl, rfl, ⟨ok.h1, ok.h3, ?_⟩, DH.put_same, by rw [DH.put_ne hal.symm]; exact gl, fun b o n1 n2 e => by rw [DH.put_ne n1]; exact e⟩, ?_⟩
  · have := ok.h2
    show 0 ≤ S.s2 + 1 ∧ S.s2 + 1 ≤ n + 1
    omega
  rintro δ1 G1 ⟨S1, ⟨c, rfl⟩, a1, a2, ok1, g1, g2, g3⟩
  dsimp only [wSeq, wSetIx, wOp, wC, wB, wIfS, wAsg, wCB, wCons, wNil, wRet, wRetN, wAnd, wOr, wNot, wAndV, wOrV, wNotV, wIf, wTup, wLst, wBM, wNext, wExpr, wUn, wChain, wCall, wSl, wPart, wNoPart, wNever, wLkS, wStar, wStarItems, wListItems, wSumVals, wFld, wSetFld, wMake, wMeth, wCallK, wDisp, wEmp, wPairs, wLk, wBreak, wCont, asg, asgs]
  refine x_var (d := .ref S.a) rfl (x_ixL g1 (i := 1) (v := .int S1.s1) rfl (x_eqI ⟨_, rfl, ?_⟩))
  -- what stands behind the loop
  have after : ∀ (δ2 : DEnv) (G2 : DH) (S2 : Stm), (∃ c, δ2 = [some (.ref S.a), some (.int many), c, none, none]) → S2.a = S.a → S2.l = S.l → S2.ok (n + 1) → G2.ob S.a = some S2.lst → G2.ob S.l = some S2.ints → (∀ b o, b ≠ S.a → b ≠ S.l → G.ob b = some o → G2.ob b = some o) →
      (wSeq (wIfS (wB (wOp dGt (wOp ixD (wVar 0) (wC (.int 1))) (wC (.int 0)))) (wSeq (wAsg (wOp dMod (wCB intD (wCons (wOp ixD (wVar 0) (wC (.int 1))) wNil)) (wVar 1)) (.nm 3))
    (wSeq (wSetIx (wVar 0) (wC (.int 1)) (wOp dDiv (wOp ixD (wVar 0) (wC (.int 1))) (wVar 1)))
    (wRet (wVar 3)))) wNext)
    (wSeq (wAsg (wOp dMod (wCB intD (wCons (wOp dPow (wOp dAdd (wOp dAdd (wOp ixD (wVar 0) (wC (.int 3))) (wOp dMul (wC (.int 8191)) (wOp ixD (wVar 0) (wC (.int 2))))) (wC (.int 50021))) (wC (.int 5))) wNil)) (wC (.int 2147483587))) (.nm 4))
    (wRet (wOp dMod (wOp dMod (wCB intD (wCons (wOp dPow (wOp dAdd (wOp dAdd (wOp dMul (wVar 4) (wC (.int 40009))) (wOp dMul (wC (.int 20011)) (wOp ixD (wVar 0) (wC (.int 2))))) (wC (.int 31))) (wC (.int 3))) wNil)) (wC (.int 1000000009))) (wVar 1))))) { nx := fun _ G' => R .non G', rt := R } δ2 G2 := by
    dsimp only [wSeq, wSetIx, wOp, wC, wB, wIfS, wAsg, wCB, wCons, wNil, wRet, wRetN, wAnd, wOr, wNot, wAndV, wOrV, wNotV, wIf, wTup, wLst, wBM, wNext, wExpr, wUn, wChain, wCall, wSl, wPart, wNoPart, wNever, wLkS, wStar, wStarItems, wListItems, wSumVals, wFld, wSetFld, wMake, wMeth, wCallK, wDisp, wEmp, wPairs, wLk, wBreak, wCont, asg, asgs]
    rintro δ2 G2 S2 ⟨c2, rfl⟩ b1 b2 ok2 k1 k2 k3
    have hh3 := ok2.h3
    have hh2 := ok2.h2
    refine x_var (d := .ref S.a) rfl (x_ixL k1 (i := 1) (v := .int S2.s1) rfl (x_gtI ⟨_, rfl, ?_⟩))
    by_cases hp : 0 < S2.s1
    · rw [if_pos (decide_eq_true hp)]
      refine x_var (d := .ref S.a) rfl (x_ixL k1 (i := 1) (v := .int S2.s1) rfl (x_int (x_var (d := .int many) rfl (x_modI (by omega) ⟨_, rfl, ?_⟩))))
      refine x_var (d := .ref S.a) rfl (x_ixL k1 (i := 1) (v := .int S2.s1) rfl (x_var (d := .int many) rfl (x_divI (by omega) m2 (x_var (d := .ref S.a) rfl (x_setL k1 (m := 1) rfl ?_)))))
      refine x_var (d := .int (S2.s1 % many)) rfl ?_
      refine q _ { S2 with s1 := S2.s1 / many } _ (Int.emod_nonneg _ (by omega)) (Int.emod_lt_of_pos _ (by omega)) b1 b2 ⟨Int.ediv_nonneg ok2.h1 (by omega), ok2.h3, ok2.h2⟩ ?_ ?_ ?_
      · rw [DH.put_same]; rfl
      · rw [DH.put_ne hal.symm]; exact k2
      · exact fun b o n1 n2 e => by rw [DH.put_ne n1]; exact k3 b o n1 n2 e
    · rw [if_neg (by simpa using hp)]
      refine x_var (d := .ref S.a) rfl (x_ixL k1 (i := 3) (v := .int S2.s3) rfl (x_var (d := .ref S.a) rfl (x_ixL k1 (i := 2) (v := .int S2.s2) rfl (x_mulI (.inl ⟨by decide, by decide⟩) (x_addI (x_addI (x_powI ⟨by decide, by decide, ?_⟩ (x_int (x_modI (by decide) ⟨_, rfl, ?_⟩)))))))))
      · omega
      generalize hm : (S2.s3 + 8191 * S2.s2 + 50021) ^ (5 : Int).toNat % 2147483587 = mixed
      have hmx : 0 ≤ mixed ∧ mixed < 2147483587 := by
        rw [← hm]
        exact ⟨Int.emod_nonneg _ (by decide), Int.emod_lt_of_pos _ (by decide)⟩
      refine x_var (d := .int mixed) rfl (x_mulI (.inr ⟨by decide, by decide⟩) (x_var (d := .ref S.a) rfl (x_ixL k1 (i := 2) (v := .int S2.s2) rfl (x_mulI (.inl ⟨by decide, by decide⟩) (x_addI (x_addI (x_powI ⟨by decide, by decide, ?_⟩ (x_int (x_modI (by decide) (x_var (d := .int many) rfl (x_modI (by omega) ?_))))))))))) 
      · omega
      exact q _ S2 G2 (Int.emod_nonneg _ (by omega)) (Int.emod_lt_of_pos _ (by omega)) b1 b2 ok2 k1 k2 k3
  by_cases h0 : S1.s1 = 0
  · rw [if_pos (decide_eq_true h0)]
    refine x_var (d := .ref S.a) rfl (x_ixL g1 (i := 0) (v := .ref S1.l) rfl ⟨by decide, fun p hp => ?_⟩)
    have hpl : p ≠ S.l := fun z => by rw [z, g2] at hp; cases hp
    have hpa : p ≠ S.a := fun z => by rw [z, g1] at hp; cases hp
    have g1' : (G1.put p (.lst true [])).ob S.a = some S1.lst := by rw [DH.put_ne hpa.symm]; exact g1
    have g2' : (G1.put p (.lst true [])).ob S.l = some S1.ints := by rw [DH.put_ne hpl.symm]; exact g2
    have g3' : ∀ b o, b ≠ S.a → b ≠ S.l → G.ob b = some o → (G1.put p (.lst true [])).ob b = some o := fun b o n1 n2 e => by
      have := g3 b o n1 n2 e
      rw [DH.put_ne]
      · exact this
      · intro z; subst z; rw [hp] at this; cases this
    refine x_neE (w' := true) (ps := S1.cs.map .int) (by rw [a2]; exact g2') DH.put_same (DTs.ints _) (plain_ints _) ⟨_, rfl, ?_⟩
    cases hc : S1.cs with
    | nil =>
      rw [if_neg (by simp)]
      exact after _ _ S1 ⟨c, rfl⟩ a1 a2 ok1 g1' g2' g3'
    | cons x xs =>
      rw [if_pos (by simp)]
      have g2c : (G1.put p (.lst true [])).ob S1.l = some (.lst true (D.int x :: xs.map D.int)) := by
        rw [a2, g2']; unfold Stm.ints; rw [hc]; rfl
      refine x_var (d := .ref S.a) rfl (x_ixL g1' (i := 0) (v := .ref S1.l) rfl ⟨.inl ⟨rfl, _, _, rfl, ⟨_, g2c⟩⟩, .inr ⟨_, _, 0, 0, .int x, rfl, rfl, g2c, by decide, by decide, by unfold seqIndex?; simp, rfl, ?_⟩⟩)
      rw [a2]
      refine x_abs ⟨_, rfl, ?_⟩
      generalize hx : (if x < 0 then -x else x) = cell
      have hcell : 0 ≤ cell := by rw [← hx]; split <;> omega
      have k1 : ((G1.put p (.lst true [])).put S.l (.lst true (List.eraseIdx (D.int x :: xs.map D.int) 0))).ob S.a = some S1.lst := by rw [DH.put_ne hal]; exact g1'
      refine x_var (d := .ref S.a) rfl (x_ixL k1 (i := 3) (v := .int S1.s3) rfl (x_mulI (.inr ⟨by decide, by decide⟩) (x_var (d := .int cell) rfl (x_addI (x_addI (x_int (x_modI (by decide) (x_var (d := .ref S.a) rfl (x_setL k1 (m := 3) rfl ?_)))))))))
      generalize hm : (S1.s3 * 6151 + cell + 7) % 2147483629 = s3'
      have hs3 : 0 ≤ s3' ∧ s3' < 2147483629 := by
        rw [← hm]
        exact ⟨Int.emod_nonneg _ (by decide), Int.emod_lt_of_pos _ (by decide)⟩
      refine x_var (d := .int cell) rfl (x_powI ⟨by decide, by decide, by decide⟩ (x_geI ⟨_, rfl, ?_⟩))
      have fin : ∀ s1' : Int, 0 ≤ s1' → wOp (fun x y G Q => setD x y (.int s1') G fun G4 => Q .non G4) (wVar 0) (wC (.int 1)) [some (.ref S.a), some (.int many), some (.int cell), none, none] (((G1.put p (.lst true [])).put S.l (.lst true (List.eraseIdx (D.int x :: xs.map D.int) 0))).put S.a (.lst true ([.ref S1.l, .int S1.s1, .int S1.s2, .int S1.s3].set 3 (.int s3')))) (fun _ G4 => (∃ S1 : Stm, (∃ c, [some (D.ref S.a), some (.int many), some (.int cell), none, none] = [some (.ref S.a), some (.int many), c, none, none]) ∧ S1.a = S.a ∧ S1.l = S.l ∧ S1.ok (n + 1) ∧ G4.ob S.a = some S1.lst ∧ G4.ob S.l = some S1.ints ∧ ∀ b o, b ≠ S.a → b ≠ S.l → G.ob b = some o → G4.ob b = some o) ∧ (match G4.ob S.l with
          | some (.lst _ ds) => ds.length
          | _ => 0) < match G1.ob S.l with
          | some (.lst _ ds) => ds.length
          | _ => 0) := by
        intro s1' hs1
        dsimp only [wSeq, wSetIx, wOp, wC, wB, wIfS, wAsg, wCB, wCons, wNil, wRet, wRetN, wAnd, wOr, wNot, wAndV, wOrV, wNotV, wIf, wTup, wLst, wBM, wNext, wExpr, wUn, wChain, wCall, wSl, wPart, wNoPart, wNever, wLkS, wStar, wStarItems, wListItems, wSumVals, wFld, wSetFld, wMake, wMeth, wCallK, wDisp, wEmp, wPairs, wLk, wBreak, wCont, asg, asgs]
        refine x_var (d := .ref S.a) rfl (x_setL DH.put_same (m := 1) rfl ⟨⟨⟨S1.a, S1.l, xs, s1', S1.s2, s3'⟩, ⟨_, rfl⟩, a1, a2, ⟨hs1, hs3, ok1.h2⟩, ?_, ?_, ?_⟩, ?_⟩)
        · rw [DH.put_same]; rfl
        · rw [DH.put_ne hal.symm, DH.put_ne hal.symm, DH.put_same]; rfl
        · intro b o n1 n2 e
          rw [DH.put_ne n1, DH.put_ne n1, DH.put_ne n2]
          exact g3' b o n1 n2 e
        · rw [DH.put_ne hal.symm, DH.put_ne hal.symm, DH.put_same, g2]
          unfold Stm.ints
          rw [hc]
          simp
      by_cases hge : (10 : Int) ^ (18 : Int).toNat ≤ cell
      · rw [if_pos (decide_eq_true hge)]
        refine x_var (d := .int cell) rfl (fin cell hcell)
      · rw [if_neg (by simpa using hge)]
        exact fin 0 (by decide)
  · rw [if_neg (by simpa using h0)]
    rw [if_neg Bool.false_ne_true]
    exact after _ _ S1 ⟨c, rfl⟩ a1 a2 ok1 g1 g2 g3
def sp__law_draw (K : PySem.W.Frag) : DSp := spDraw
theorem ok__law_draw {fd : FuncData} (b : Bl mg) (F : FunD K "_law_draw" "_law_draw" (defArgs (top 50)) (defBody (top 50)) (defScope (top 50)) [] [] f fd) : FnOk P w K mg base CX0 1 f fd ["stream", "many"] (SPV (sp__law_draw K)) := ok_draw (ok0__law_draw b F) t_draw_fin
def N__law_pick : List Str := ["stream", "things"]
theorem sc__law_pick : FnScope N__law_pick ["stream", "things"] (defScope (top 51)) := ⟨rfl, rfl, rfl, by decide +kernel, rfl, by decide +kernel, by decide +kernel⟩
def w__law_pick (K : PySem.W.Frag) : WS := (wRet (wOp ixD (wVar 1) (wCall (sp__law_draw K) DX0 (wCons (wVar 0) (wCons (wCB lenD (wCons (wVar 1) wNil)) wNil)))))
def sp__law_pick (K : PySem.W.Frag) : DSp := wSp 2 N__law_pick (w__law_pick K)
theorem dv__law_pick (b : Bl mg) (F__law_draw : Fn P w K mg base "_law_draw" (top 50) ["stream", "many"] 1 (sp__law_draw K)) (hr : Room 1 (A.deeper (envOfC "_law_pick" (defScope (top 51)) s.heap.objs.size f cdv))) : PSs (cx P w K mg base N__law_pick "_law_pick" (top 51) f cdv A outer s H E) (defBody (top 51)) (SV B (w__law_pick K)) :=
  (ss_one (sv_ret (ev_ix (rm1 hr) (ev_var 1) (ev_fn F__law_draw hr rfl (av_cons (ev_var 0) (av_cons (ev_cb cr_len rfl b.len boot_len (av_cons (ev_var 1) av_nil)) av_nil))))))
theorem ok__law_pick {fd : FuncData} (b : Bl mg) (F__law_draw : Fn P w K mg base "_law_draw" (top 50) ["stream", "many"] 1 (sp__law_draw K)) (F : FunD K "_law_pick" "_law_pick" (defArgs (top 51)) (defBody (top 51)) (defScope (top 51)) [] [] f fd) : FnOk P w K mg base CX0 2 f fd ["stream", "things"] (SPV (sp__law_pick K)) :=
  fnOk_fg (k := 1) F sc__law_pick (fun _ _ _ _ h => h.1) (fun cdv A outer s H E hr => dv__law_pick (cdv := cdv) (A := A) (outer := outer) (s := s) (H := H) (E := E) b F__law_draw hr) fun _ _ _ _ h => h.2
def N__law_mixed : List Str := ["stream", "things", "left", "found", "k"]
theorem sc__law_mixed : FnScope N__law_mixed ["stream", "things"] (defScope (top 52)) := ⟨rfl, rfl, rfl, by decide +kernel, rfl, by decide +kernel, by decide +kernel⟩
def w__law_mixed (K : PySem.W.Frag) : WS := (wSeq (wAsg (wTup (wCons (wCB listD (wCons (wVar 1) wNil)) (wCons (wLst wNil) wNil))) (.tp [.nm 2, .nm 3]))
    (wSeq (wFor (wiRng1 (wCons (wCB lenD (wCons (wVar 2) wNil)) wNil)) (.nm 4) (wExpr (wBM "list" appD (wVar 3) (wCons (wBM "list" popD (wVar 2) (wCons (wCall (sp__law_draw K) DX0 (wCons (wVar 0) (wCons (wCB lenD (wCons (wVar 2) wNil)) wNil))) wNil)) wNil))))
    (wRet (wVar 3))))
def sp__law_mixed (K : PySem.W.Frag) : DSp := wSp 2 N__law_mixed (w__law_mixed K)
theorem dv__law_mixed (b : Bl mg) (F__law_draw : Fn P w K mg base "_law_draw" (top 50) ["stream", "many"] 1 (sp__law_draw K)) (hr : Room 1 (A.deeper (envOfC "_law_mixed" (defScope (top 52)) s.heap.objs.size f cdv))) : PSs (cx P w K mg base N__law_mixed "_law_mixed" (top 52) f cdv A outer s H E) (defBody (top 52)) (SV B (w__law_mixed K)) :=
  (ss_cons (sv_par rfl sc__law_mixed.nd (av_cons (ev_cty (cr_list rfl) rfl b.list boot_list (av_cons (ev_var 1) av_nil)) (av_cons (ev_lst av_nil) av_nil)))
    (ss_cons (sv_for PassesOwn.never rfl (iv_rng1 rfl b.range (av_cons (ev_cb cr_len rfl b.len boot_len (av_cons (ev_var 2) av_nil)) av_nil)) (tg_nm 4 sc__law_mixed.nd) (ss_one (sv_expr (ev_bm F.plainAttrs_list F.slot_list_append F.type_list_append md_append (ev_var 3) (av_cons (ev_bm F.plainAttrs_list F.slot_list_pop F.type_list_pop md_pop (ev_var 2) (av_cons (ev_fn F__law_draw hr rfl (av_cons (ev_var 0) (av_cons (ev_cb cr_len rfl b.len boot_len (av_cons (ev_var 2) av_nil)) av_nil))) av_nil)) av_nil)))))
    (ss_one (sv_ret (ev_var 3)))))
theorem ok__law_mixed {fd : FuncData} (b : Bl mg) (F__law_draw : Fn P w K mg base "_law_draw" (top 50) ["stream", "many"] 1 (sp__law_draw K)) (F : FunD K "_law_mixed" "_law_mixed" (defArgs (top 52)) (defBody (top 52)) (defScope (top 52)) [] [] f fd) : FnOk P w K mg base CX0 2 f fd ["stream", "things"] (SPV (sp__law_mixed K)) :=
  fnOk_fg (k := 1) F sc__law_mixed (fun _ _ _ _ h => h.1) (fun cdv A outer s H E hr => dv__law_mixed (cdv := cdv) (A := A) (outer := outer) (s := s) (H := H) (E := E) b F__law_draw hr) fun _ _ _ _ h => h.2
def N__law_same : List Str := ["found", "due", "mine", "theirs"]
theorem sc__law_same : FnScope N__law_same ["found", "due"] (defScope (top 53)) := ⟨rfl, rfl, rfl, by decide +kernel, rfl, by decide +kernel, by decide +kernel⟩
def w__law_same (K : PySem.W.Frag) (self : DSp) : WS := (wSeq (wIfS (wB (wCB (isD K) (wCons (wVar 1) (wCons (wTup (wCons (wC (.ty "list")) (wCons (wC (.ty "tuple")) wNil))) wNil)))) (wSeq (wIfS (wOr (wB (wOp dNe (wCB (isD K) (wCons (wVar 0) (wCons (wC (.ty "list")) wNil))) (wCB (isD K) (wCons (wVar 1) (wCons (wC (.ty "list")) wNil))))) (wB (wOp dNe (wCB (isD K) (wCons (wVar 0) (wCons (wC (.ty "tuple")) wNil))) (wCB (isD K) (wCons (wVar 1) (wCons (wC (.ty "tuple")) wNil)))))) (wRet (wC (.bl false))) wNext)
    (wRet (wAndV (wOp dEq (wCB lenD (wCons (wVar 0) wNil)) (wCB lenD (wCons (wVar 1) wNil))) (wCB allD (wCons (wLC (wiZip (wCons (wVar 0) (wCons (wVar 1) wNil))) (.tp [(.nm 2), (.nm 3)]) (fun _ G Q => Q true G) (wCall self DX0 (wCons (wVar 2) (wCons (wVar 3) wNil))) [2, 3]) wNil))))) wNext)
    (wSeq (wIfS (wB (wCB (isD K) (wCons (wVar 1) (wCons (wC (.ty "dict")) wNil)))) (wRet (wAndV (wCB (isD K) (wCons (wVar 0) (wCons (wC (.ty "dict")) wNil))) (wCall self DX0 (wCons (wListItems (wVar 0)) (wCons (wListItems (wVar 1)) wNil))))) wNext)
    (wSeq (wIfS (wOr (wB (wCB (isD K) (wCons (wVar 1) (wCons (wC (.ty "bool")) wNil)))) (wB (wCB (isD K) (wCons (wVar 0) (wCons (wC (.ty "bool")) wNil))))) (wRet (wAndV (wCB (isD K) (wCons (wVar 1) (wCons (wC (.ty "bool")) wNil))) (wAndV (wCB (isD K) (wCons (wVar 0) (wCons (wC (.ty "bool")) wNil))) (wOp dEq (wVar 0) (wVar 1))))) wNext)
    (wSeq (wIfS (wOr (wB (wOp dIsN (wVar 1) (wC .non))) (wB (wOp dIsN (wVar 0) (wC .non)))) (wRet (wAndV (wOp dIsN (wVar 1) (wC .non)) (wOp dIsN (wVar 0) (wC .non)))) wNext)
    (wSeq (wIfS (wOr (wB (wOp dNe (wCB (isD K) (wCons (wVar 1) (wCons (wC (.ty "int")) wNil))) (wCB (isD K) (wCons (wVar 0) (wCons (wC (.ty "int")) wNil))))) (wB (wOp dNe (wCB (isD K) (wCons (wVar 1) (wCons (wC (.ty "str")) wNil))) (wCB (isD K) (wCons (wVar 0) (wCons (wC (.ty "str")) wNil)))))) (wRet (wC (.bl false))) wNext)
    (wRet (wAndV (wNotV (wCB (isD K) (wCons (wVar 0) (wCons (wTup (wCons (wC (.ty "list")) (wCons (wC (.ty "tuple")) (wCons (wC (.ty "dict")) wNil)))) wNil)))) (wOp dEq (wVar 0) (wVar 1)))))))))
def sp__law_same (K : PySem.W.Frag) : Nat → DSp
  | 0 => fun _ _ _ _ => False
  | n + 1 => wSp 2 N__law_same (w__law_same K (sp__law_same K n))
theorem dv__law_same (n : Nat) (self : DSp) (b : Bl mg) (F__law_same : Fn P w K mg base "_law_same" (top 53) ["found", "due"] (1 + n) self) (hr : Room (1 + n) (A.deeper (envOfC "_law_same" (defScope (top 53)) s.heap.objs.size f cdv))) : PSs (cx P w K mg base N__law_same "_law_same" (top 53) f cdv A outer s H E) (defBody (top 53)) (SV B (w__law_same K self)) :=
  (ss_cons (sv_if (tv_val (ev_cb cr_isi rfl b.isinstance boot_isinstance (av_cons (ev_var 1) (av_cons (ev_tup (av_cons (ev_tyn rfl b.list boot_list) (av_cons (ev_tyn rfl b.tuple boot_tuple) av_nil))) av_nil)))) (ss_cons (sv_if (L2.PW.pt (wv_or (tv_cmp (ov_ne (rm66 hr)) (ev_cb cr_isi rfl b.isinstance boot_isinstance (av_cons (ev_var 0) (av_cons (ev_tyn rfl b.list boot_list) av_nil))) (ev_cb cr_isi rfl b.isinstance boot_isinstance (av_cons (ev_var 1) (av_cons (ev_tyn rfl b.list boot_list) av_nil)))) (wv_one_or (tv_cmp (ov_ne (rm66 hr)) (ev_cb cr_isi rfl b.isinstance boot_isinstance (av_cons (ev_var 0) (av_cons (ev_tyn rfl b.tuple boot_tuple) av_nil))) (ev_cb cr_isi rfl b.isinstance boot_isinstance (av_cons (ev_var 1) (av_cons (ev_tyn rfl b.tuple boot_tuple) av_nil))))))) (ss_one (sv_ret ev_bl)) ss_nil)
    (ss_one (sv_ret (ev_and (ev_cmp (ov_eq (rm66 hr)) (ev_cb cr_len rfl b.len boot_len (av_cons (ev_var 0) av_nil)) (ev_cb cr_len rfl b.len boot_len (av_cons (ev_var 1) av_nil))) (ev_one (ev_cb (cr_allD rfl) rfl b.all boot_all (av_cons (ev_lc rfl sc__law_same.nd (iv_zip rfl b.zip (av_cons (ev_var 0) (av_cons (ev_var 1) av_nil))) (own := [("mine", 2), ("theirs", 3)]) (⟨rfl, by decide +kernel, by decide +kernel, by decide +kernel, by decide +kernel⟩ : BlkOk N__law_same (defScope (top 53)) _ [("mine", 2), ("theirs", 3)]) (fun _ _ _ _ _ => (tg_tp rfl (tgs_cons (tg_nm 2 sc__law_same.nd) (tgs_cons (tg_nm 3 sc__law_same.nd) tgs_nil)))) (fun _ _ _ _ _ => tv_yes) (fun _ _ _ _ _ => (ev_fn F__law_same hr rfl (av_cons (ev_var 2) (av_cons (ev_var 3) av_nil)) (hkj := by omega))) (by decide)) av_nil))))))) ss_nil)
    (ss_cons (sv_if (tv_val (ev_cb cr_isi rfl b.isinstance boot_isinstance (av_cons (ev_var 1) (av_cons (ev_tyn rfl b.dict boot_dict) av_nil)))) (ss_one (sv_ret (ev_and (ev_cb cr_isi rfl b.isinstance boot_isinstance (av_cons (ev_var 0) (av_cons (ev_tyn rfl b.dict boot_dict) av_nil))) (ev_one (ev_fn F__law_same hr rfl (av_cons (ev_listItems rfl (ev_var 0) rfl b.list) (av_cons (ev_listItems rfl (ev_var 1) rfl b.list) av_nil)) (hkj := by omega)))))) ss_nil)
    (ss_cons (sv_if (L2.PW.pt (wv_or (tv_val (ev_cb cr_isi rfl b.isinstance boot_isinstance (av_cons (ev_var 1) (av_cons (ev_tyn rfl b.bool boot_bool) av_nil)))) (wv_one_or (tv_val (ev_cb cr_isi rfl b.isinstance boot_isinstance (av_cons (ev_var 0) (av_cons (ev_tyn rfl b.bool boot_bool) av_nil))))))) (ss_one (sv_ret (ev_and (ev_cb cr_isi rfl b.isinstance boot_isinstance (av_cons (ev_var 1) (av_cons (ev_tyn rfl b.bool boot_bool) av_nil))) (ev_and (ev_cb cr_isi rfl b.isinstance boot_isinstance (av_cons (ev_var 0) (av_cons (ev_tyn rfl b.bool boot_bool) av_nil))) (ev_one (ev_cmp (ov_eq (rm66 hr)) (ev_var 0) (ev_var 1))))))) ss_nil)
    (ss_cons (sv_if (L2.PW.pt (wv_or (tv_cmp ov_isN (ev_var 1) ev_non) (wv_one_or (tv_cmp ov_isN (ev_var 0) ev_non)))) (ss_one (sv_ret (ev_and (ev_cmp ov_isN (ev_var 1) ev_non) (ev_one (ev_cmp ov_isN (ev_var 0) ev_non))))) ss_nil)
    (ss_cons (sv_if (L2.PW.pt (wv_or (tv_cmp (ov_ne (rm66 hr)) (ev_cb cr_isi rfl b.isinstance boot_isinstance (av_cons (ev_var 1) (av_cons (ev_tyn rfl b.int boot_int) av_nil))) (ev_cb cr_isi rfl b.isinstance boot_isinstance (av_cons (ev_var 0) (av_cons (ev_tyn rfl b.int boot_int) av_nil)))) (wv_one_or (tv_cmp (ov_ne (rm66 hr)) (ev_cb cr_isi rfl b.isinstance boot_isinstance (av_cons (ev_var 1) (av_cons (ev_tyn rfl b.str boot_str) av_nil))) (ev_cb cr_isi rfl b.isinstance boot_isinstance (av_cons (ev_var 0) (av_cons (ev_tyn rfl b.str boot_str) av_nil))))))) (ss_one (sv_ret ev_bl)) ss_nil)
    (ss_one (sv_ret (ev_and (ev_not (ev_cb cr_isi rfl b.isinstance boot_isinstance (av_cons (ev_var 0) (av_cons (ev_tup (av_cons (ev_tyn rfl b.list boot_list) (av_cons (ev_tyn rfl b.tuple boot_tuple) (av_cons (ev_tyn rfl b.dict boot_dict) av_nil)))) av_nil)))) (ev_one (ev_cmp (ov_eq (rm66 hr)) (ev_var 0) (ev_var 1)))))))))))
theorem ok__law_same {fd : FuncData} (b : Bl mg)  (hm : mg "_law_same" = some (.ref f)) (F : FunD K "_law_same" "_law_same" (defArgs (top 53)) (defBody (top 53)) (defScope (top 53)) [] [] f fd) (hb : Binds K fd ["found", "due"] []) : ∀ n : Nat, FnOk P w K mg base CX0 (1 + n) f fd ["found", "due"] (SPV (sp__law_same K n))
  | 0 => (fnOk_fg (k := 0) (wb := wNever) F sc__law_same (fun _ _ _ _ h => False.elim h) (fun _ _ _ _ _ _ _ => ss_never) fun _ _ _ _ h => False.elim h : FnOk P w K mg base CX0 (0 + 1) f fd ["found", "due"] (SPV fun _ _ _ _ => False))
  | n + 1 => by
    have ih := ok__law_same b  hm F hb n
    exact fnOk_fg F sc__law_same (fun _ _ _ _ h => h.1) (fun cdv A outer s H E hr => dv__law_same (cdv := cdv) (A := A) (outer := outer) (s := s) (H := H) (E := E) n _ b ⟨⟨f, fd, hm, F, hb, ih⟩⟩ hr) fun _ _ _ _ h => h.2
def N__law_loose : List Str := ["stream", "thing", "some", "one"]
theorem sc__law_loose : FnScope N__law_loose ["stream", "thing"] (defScope (top 54)) := ⟨rfl, rfl, rfl, by decide +kernel, rfl, by decide +kernel, by decide +kernel⟩
def w__law_loose (K : PySem.W.Frag) (self : DSp) : WS := (wSeq (wIfS (wB (wCB (isD K) (wCons (wVar 1) (wCons (wTup (wCons (wC (.ty "list")) (wCons (wC (.ty "tuple")) wNil))) wNil)))) (wSeq (wAsg (wLC (wiE (wVar 1)) (.nm 3) (fun _ G Q => Q true G) (wCall self DX0 (wCons (wVar 0) (wCons (wVar 3) wNil))) [3]) (.nm 2))
    (wRet (wIf (wB (wOp dEq (wCall (sp__law_draw K) DX0 (wCons (wVar 0) (wCons (wC (.int 2)) wNil))) (wC (.int 0)))) (wVar 2) (wCB tupD (wCons (wVar 2) wNil))))) wNext)
    (wRet (wVar 1)))
def sp__law_loose (K : PySem.W.Frag) : Nat → DSp
  | 0 => fun _ _ _ _ => False
  | n + 1 => wSp 2 N__law_loose (w__law_loose K (sp__law_loose K n))
theorem dv__law_loose (n : Nat) (self : DSp) (b : Bl mg) (F__law_loose : Fn P w K mg base "_law_loose" (top 54) ["stream", "thing"] (2 + n) self) (F__law_draw : Fn P w K mg base "_law_draw" (top 50) ["stream", "many"] 1 (sp__law_draw K)) (hr : Room (2 + n) (A.deeper (envOfC "_law_loose" (defScope (top 54)) s.heap.objs.size f cdv))) : PSs (cx P w K mg base N__law_loose "_law_loose" (top 54) f cdv A outer s H E) (defBody (top 54)) (SV B (w__law_loose K self)) :=
  (ss_cons (sv_if (tv_val (ev_cb cr_isi rfl b.isinstance boot_isinstance (av_cons (ev_var 1) (av_cons (ev_tup (av_cons (ev_tyn rfl b.list boot_list) (av_cons (ev_tyn rfl b.tuple boot_tuple) av_nil))) av_nil)))) (ss_cons (sv_setLc 2 rfl sc__law_loose.nd (iv_any (ev_var 1)) (own := [("one", 3)]) (⟨rfl, by decide +kernel, by decide +kernel, by decide +kernel, by decide +kernel⟩ : BlkOk N__law_loose (defScope (top 54)) _ [("one", 3)]) (fun _ _ _ _ _ => (tg_nm 3 sc__law_loose.nd)) (fun _ _ _ _ _ => tv_yes) (fun _ _ _ _ _ => (ev_fn F__law_loose hr rfl (av_cons (ev_var 0) (av_cons (ev_var 3) av_nil)) (hkj := by omega))) (by decide))
    (ss_one (sv_ret (ev_if (tv_cmp (ov_eq (rm66 hr)) (ev_fn F__law_draw hr rfl (av_cons (ev_var 0) (av_cons ev_int av_nil)) (hkj := by omega)) ev_int) (ev_var 2) (ev_cty cr_tuple rfl b.tuple boot_tuple (av_cons (ev_var 2) av_nil)))))) ss_nil)
    (ss_one (sv_ret (ev_var 1))))
theorem ok__law_loose {fd : FuncData} (b : Bl mg) (F__law_draw : Fn P w K mg base "_law_draw" (top 50) ["stream", "many"] 1 (sp__law_draw K)) (hm : mg "_law_loose" = some (.ref f)) (F : FunD K "_law_loose" "_law_loose" (defArgs (top 54)) (defBody (top 54)) (defScope (top 54)) [] [] f fd) (hb : Binds K fd ["stream", "thing"] []) : ∀ n : Nat, FnOk P w K mg base CX0 (2 + n) f fd ["stream", "thing"] (SPV (sp__law_loose K n))
  | 0 => (fnOk_fg (k := 1) (wb := wNever) F sc__law_loose (fun _ _ _ _ h => False.elim h) (fun _ _ _ _ _ _ _ => ss_never) fun _ _ _ _ h => False.elim h : FnOk P w K mg base CX0 (1 + 1) f fd ["stream", "thing"] (SPV fun _ _ _ _ => False))
  | n + 1 => by
    have ih := ok__law_loose b F__law_draw hm F hb n
    exact fnOk_fg F sc__law_loose (fun _ _ _ _ h => h.1) (fun cdv A outer s H E hr => dv__law_loose (cdv := cdv) (A := A) (outer := outer) (s := s) (H := H) (E := E) n _ b ⟨⟨f, fd, hm, F, hb, ih⟩⟩ F__law_draw hr) fun _ _ _ _ h => h.2
def N__law_copied : List Str := ["thing", "some", "one", "key"]
theorem sc__law_copied : FnScope N__law_copied ["thing"] (defScope (top 55)) := ⟨rfl, rfl, rfl, by decide +kernel, rfl, by decide +kernel, by decide +kernel⟩
def w__law_copied (K : PySem.W.Frag) (self : DSp) : WS := (wSeq (wIfS (wB (wCB (isD K) (wCons (wVar 0) (wCons (wTup (wCons (wC (.ty "list")) (wCons (wC (.ty "tuple")) wNil))) wNil)))) (wSeq (wAsg (wLC (wiE (wVar 0)) (.nm 2) (fun _ G Q => Q true G) (wCall self DX0 (wCons (wVar 2) wNil)) [2]) (.nm 1))
    (wRet (wIf (wB (wCB (isD K) (wCons (wVar 0) (wCons (wC (.ty "list")) wNil)))) (wVar 1) (wCB tupD (wCons (wVar 1) wNil))))) wNext)
    (wSeq (wIfS (wB (wCB (isD K) (wCons (wVar 0) (wCons (wC (.ty "dict")) wNil)))) (wRet (wLk (wCB dictD (wCons (wLC (wiE (wVar 0)) (.nm 3) (fun _ G Q => Q true G) (wTup (wCons (wVar 3) (wCons (wCall self DX0 (wCons (wOp ixD (wVar 0) (wVar 3)) wNil)) wNil))) [3]) wNil)))) wNext)
    (wRet (wVar 0))))
def sp__law_copied (K : PySem.W.Frag) : Nat → DSp
  | 0 => fun _ _ _ _ => False
  | n + 1 => wSp 1 N__law_copied (w__law_copied K (sp__law_copied K n))
theorem dv__law_copied (n : Nat) (self : DSp) (b : Bl mg) (F__law_copied : Fn P w K mg base "_law_copied" (top 55) ["thing"] (1 + n) self) (hr : Room (1 + n) (A.deeper (envOfC "_law_copied" (defScope (top 55)) s.heap.objs.size f cdv))) : PSs (cx P w K mg base N__law_copied "_law_copied" (top 55) f cdv A outer s H E) (defBody (top 55)) (SV B (w__law_copied K self)) :=
  (ss_cons (sv_if (tv_val (ev_cb cr_isi rfl b.isinstance boot_isinstance (av_cons (ev_var 0) (av_cons (ev_tup (av_cons (ev_tyn rfl b.list boot_list) (av_cons (ev_tyn rfl b.tuple boot_tuple) av_nil))) av_nil)))) (ss_cons (sv_setLc 1 rfl sc__law_copied.nd (iv_any (ev_var 0)) (own := [("one", 2)]) (⟨rfl, by decide +kernel, by decide +kernel, by decide +kernel, by decide +kernel⟩ : BlkOk N__law_copied (defScope (top 55)) _ [("one", 2)]) (fun _ _ _ _ _ => (tg_nm 2 sc__law_copied.nd)) (fun _ _ _ _ _ => tv_yes) (fun _ _ _ _ _ => (ev_fn F__law_copied hr rfl (av_cons (ev_var 2) av_nil) (hkj := by omega))) (by decide))
    (ss_one (sv_ret (ev_if (tv_val (ev_cb cr_isi rfl b.isinstance boot_isinstance (av_cons (ev_var 0) (av_cons (ev_tyn rfl b.list boot_list) av_nil)))) (ev_var 1) (ev_cty cr_tuple rfl b.tuple boot_tuple (av_cons (ev_var 1) av_nil)))))) ss_nil)
    (ss_cons (sv_if (tv_val (ev_cb cr_isi rfl b.isinstance boot_isinstance (av_cons (ev_var 0) (av_cons (ev_tyn rfl b.dict boot_dict) av_nil)))) (ss_one (sv_ret (ev_lk (ev_cty (cr_dict rfl) rfl b.dict boot_dict (av_cons (ev_lc rfl sc__law_copied.nd (iv_any (ev_var 0)) (own := [("key", 3)]) (⟨rfl, by decide +kernel, by decide +kernel, by decide +kernel, by decide +kernel⟩ : BlkOk N__law_copied (defScope (top 55)) _ [("key", 3)]) (fun _ _ _ _ _ => (tg_nm 3 sc__law_copied.nd)) (fun _ _ _ _ _ => tv_yes) (fun _ _ _ _ _ => (ev_tup (av_cons (ev_var 3) (av_cons (ev_fn F__law_copied hr rfl (av_cons (ev_ix (rm1 hr) (ev_var 0) (ev_var 3)) av_nil) (hkj := by omega)) av_nil)))) (by decide)) av_nil))))) ss_nil)
    (ss_one (sv_ret (ev_var 0)))))
theorem ok__law_copied {fd : FuncData} (b : Bl mg)  (hm : mg "_law_copied" = some (.ref f)) (F : FunD K "_law_copied" "_law_copied" (defArgs (top 55)) (defBody (top 55)) (defScope (top 55)) [] [] f fd) (hb : Binds K fd ["thing"] []) : ∀ n : Nat, FnOk P w K mg base CX0 (1 + n) f fd ["thing"] (SPV (sp__law_copied K n))
  | 0 => (fnOk_fg (k := 0) (wb := wNever) F sc__law_copied (fun _ _ _ _ h => False.elim h) (fun _ _ _ _ _ _ _ => ss_never) fun _ _ _ _ h => False.elim h : FnOk P w K mg base CX0 (0 + 1) f fd ["thing"] (SPV fun _ _ _ _ => False))
  | n + 1 => by
    have ih := ok__law_copied b  hm F hb n
    exact fnOk_fg F sc__law_copied (fun _ _ _ _ h => h.1) (fun cdv A outer s H E hr => dv__law_copied (cdv := cdv) (A := A) (outer := outer) (s := s) (H := H) (E := E) n _ b ⟨⟨f, fd, hm, F, hb, ih⟩⟩ hr) fun _ _ _ _ h => h.2
def N__law_spoilt : List Str := ["thing", "key", "part"]
theorem sc__law_spoilt : FnScope N__law_spoilt ["thing"] (defScope (top 56)) := ⟨rfl, rfl, rfl, by decide +kernel, rfl, by decide +kernel, by decide +kernel⟩
def w__law_spoilt (K : PySem.W.Frag) (self : DSp) : WS := (wSeq (wIfS (wB (wCB (isD K) (wCons (wVar 0) (wCons (wC (.ty "dict")) wNil)))) (wSeq (wFor (wiE (wCB listD (wCons (wVar 0) wNil))) (.nm 1) (wExpr (wCall self DX0 (wCons (wOp ixD (wVar 0) (wVar 1)) wNil))))
    (wSetIx (wVar 0) (wC (.str "late")) (wC (.int 1)))) wNext)
    (wSeq (wIfS (wB (wCB (isD K) (wCons (wVar 0) (wCons (wTup (wCons (wC (.ty "list")) (wCons (wC (.ty "tuple")) wNil))) wNil)))) (wFor (wiE (wVar 0)) (.nm 2) (wExpr (wCall self DX0 (wCons (wVar 2) wNil)))) wNext)
    (wIfS (wB (wCB (isD K) (wCons (wVar 0) (wCons (wC (.ty "list")) wNil)))) (wExpr (wBM "list" appD (wVar 0) (wCons (wC (.str "late")) wNil))) wNext)))
def sp__law_spoilt (K : PySem.W.Frag) : Nat → DSp
  | 0 => fun _ _ _ _ => False
  | n + 1 => wSp 1 N__law_spoilt (w__law_spoilt K (sp__law_spoilt K n))
theorem dv__law_spoilt (n : Nat) (self : DSp) (b : Bl mg) (F__law_spoilt : Fn P w K mg base "_law_spoilt" (top 56) ["thing"] (1 + n) self) (hr : Room (1 + n) (A.deeper (envOfC "_law_spoilt" (defScope (top 56)) s.heap.objs.size f cdv))) : PSs (cx P w K mg base N__law_spoilt "_law_spoilt" (top 56) f cdv A outer s H E) (defBody (top 56)) (SV B (w__law_spoilt K self)) :=
  (ss_cons (sv_if (tv_val (ev_cb cr_isi rfl b.isinstance boot_isinstance (av_cons (ev_var 0) (av_cons (ev_tyn rfl b.dict boot_dict) av_nil)))) (ss_cons (sv_for PassesOwn.never rfl (iv_any (ev_cty (cr_list rfl) rfl b.list boot_list (av_cons (ev_var 0) av_nil))) (tg_nm 1 sc__law_spoilt.nd) (ss_one (sv_expr (ev_fn F__law_spoilt hr rfl (av_cons (ev_ix (rm1 hr) (ev_var 0) (ev_var 1)) av_nil) (hkj := by omega)))))
    (ss_one (sv_setIx (rm1 hr) (ev_var 0) ev_str ev_int))) ss_nil)
    (ss_cons (sv_if (tv_val (ev_cb cr_isi rfl b.isinstance boot_isinstance (av_cons (ev_var 0) (av_cons (ev_tup (av_cons (ev_tyn rfl b.list boot_list) (av_cons (ev_tyn rfl b.tuple boot_tuple) av_nil))) av_nil)))) (ss_one (sv_for PassesOwn.never rfl (iv_any (ev_var 0)) (tg_nm 2 sc__law_spoilt.nd) (ss_one (sv_expr (ev_fn F__law_spoilt hr rfl (av_cons (ev_var 2) av_nil) (hkj := by omega)))))) ss_nil)
    (ss_one (sv_if (tv_val (ev_cb cr_isi rfl b.isinstance boot_isinstance (av_cons (ev_var 0) (av_cons (ev_tyn rfl b.list boot_list) av_nil)))) (ss_one (sv_expr (ev_bm F.plainAttrs_list F.slot_list_append F.type_list_append md_append (ev_var 0) (av_cons ev_str av_nil)))) ss_nil))))
theorem ok__law_spoilt {fd : FuncData} (b : Bl mg)  (hm : mg "_law_spoilt" = some (.ref f)) (F : FunD K "_law_spoilt" "_law_spoilt" (defArgs (top 56)) (defBody (top 56)) (defScope (top 56)) [] [] f fd) (hb : Binds K fd ["thing"] []) : ∀ n : Nat, FnOk P w K mg base CX0 (1 + n) f fd ["thing"] (SPV (sp__law_spoilt K n))
  | 0 => (fnOk_fg (k := 0) (wb := wNever) F sc__law_spoilt (fun _ _ _ _ h => False.elim h) (fun _ _ _ _ _ _ _ => ss_never) fun _ _ _ _ h => False.elim h : FnOk P w K mg base CX0 (0 + 1) f fd ["thing"] (SPV fun _ _ _ _ => False))
  | n + 1 => by
    have ih := ok__law_spoilt b  hm F hb n
    exact fnOk_fg F sc__law_spoilt (fun _ _ _ _ h => h.1) (fun cdv A outer s H E hr => dv__law_spoilt (cdv := cdv) (A := A) (outer := outer) (s := s) (H := H) (E := E) n _ b ⟨⟨f, fd, hm, F, hb, ih⟩⟩ hr) fun _ _ _ _ h => h.2
def N__law_names : List Str := ["stream", "many", "found", "signs", "k", "name", "at", "one"]
theorem sc__law_names : FnScope N__law_names ["stream", "many"] (defScope (top 57)) := ⟨rfl, rfl, rfl, by decide +kernel, rfl, by decide +kernel, by decide +kernel⟩
def w__law_names (K : PySem.W.Frag) : WS := (wSeq (wAsg (wTup (wCons (wLst wNil) (wCons (wC (.str "abcdefghijklmnopqrstuvwxyz")) wNil))) (.tp [(.nm 2), (.nm 3)]))
    (wSeq (wFor (wiRng1 (wCons (wVar 1) wNil)) (.nm 4) (wSeq (wAsg (wBM "str" joinD (wC (.str "")) (wCons (wLC (wiRng1 (wCons (wOp dAdd (wC (.int 1)) (wCall (sp__law_draw K) DX0 (wCons (wVar 0) (wCons (wCall (sp__law_pick K) DX0 (wCons (wVar 0) (wCons (wLst (wCons (wC (.int 1)) (wCons (wC (.int 1)) (wCons (wC (.int 3)) wNil)))) wNil))) wNil)))) wNil)) (.nm 7) (fun _ G Q => Q true G) (wCall (sp__law_pick K) DX0 (wCons (wVar 0) (wCons (wVar 3) wNil))) [7]) wNil)) (.nm 5))
    (wSeq (wFor (wiRng1 (wCons (wOp dAdd (wCB lenD (wCons (wVar 2) wNil)) (wC (.int 1))) wNil)) (.nm 6) (wIfS (wB (wOp dIn (wVar 5) (wVar 2))) (wAsg (wOp dAdd (wOp dAdd (wSl (wVar 5) wNoPart (wPart (wC (.int 3)))) (wOp ixD (wVar 3) (wOp dDiv (wVar 6) (wC (.int 26))))) (wOp ixD (wVar 3) (wOp dMod (wVar 6) (wC (.int 26))))) (.nm 5)) wNext))
    (wExpr (wBM "list" appD (wVar 2) (wCons (wVar 5) wNil))))))
    (wRet (wVar 2))))
def sp__law_names (K : PySem.W.Frag) : DSp := wSp 2 N__law_names (w__law_names K)
theorem dv__law_names (b : Bl mg) (F__law_draw : Fn P w K mg base "_law_draw" (top 50) ["stream", "many"] 1 (sp__law_draw K)) (F__law_pick : Fn P w K mg base "_law_pick" (top 51) ["stream", "things"] 2 (sp__law_pick K)) (hr : Room 2 (A.deeper (envOfC "_law_names" (defScope (top 57)) s.heap.objs.size f cdv))) : PSs (cx P w K mg base N__law_names "_law_names" (top 57) f cdv A outer s H E) (defBody (top 57)) (SV B (w__law_names K)) :=
  (ss_cons (sv_asg (ev_tup (av_cons (ev_lst av_nil) (av_cons ev_str av_nil))) (tg_tp rfl (tgs_cons (tg_nm 2 sc__law_names.nd) (tgs_cons (tg_nm 3 sc__law_names.nd) tgs_nil))))
    (ss_cons (sv_for PassesOwn.never rfl (iv_rng1 rfl b.range (av_cons (ev_var 1) av_nil)) (tg_nm 4 sc__law_names.nd) (ss_cons (sv_set 5 sc__law_names.nd (ev_bm F.plainAttrs_str F.slot_str_join F.type_str_join md_join ev_str (av_cons (ev_lc rfl sc__law_names.nd (iv_rng1 rfl b.range (av_cons (ev_op ov_add ev_int (ev_fn F__law_draw hr rfl (av_cons (ev_var 0) (av_cons (ev_fn F__law_pick hr rfl (av_cons (ev_var 0) (av_cons (ev_lst (av_cons ev_int (av_cons ev_int (av_cons ev_int av_nil)))) av_nil))) av_nil)))) av_nil)) (own := [("one", 7)]) (⟨rfl, by decide +kernel, by decide +kernel, by decide +kernel, by decide +kernel⟩ : BlkOk N__law_names (defScope (top 57)) _ [("one", 7)]) (fun _ _ _ _ _ => (tg_nm 7 sc__law_names.nd)) (fun _ _ _ _ _ => tv_yes) (fun _ _ _ _ _ => (ev_fn F__law_pick hr rfl (av_cons (ev_var 0) (av_cons (ev_var 3) av_nil)))) (by decide)) av_nil)))
    (ss_cons (sv_for PassesOwn.never rfl (iv_rng1 rfl b.range (av_cons (ev_op ov_add (ev_cb cr_len rfl b.len boot_len (av_cons (ev_var 2) av_nil)) ev_int) av_nil)) (tg_nm 6 sc__law_names.nd) (ss_one (sv_if (tv_cmp (ov_inA (rm66 hr)) (ev_var 5) (ev_var 2)) (ss_one (sv_set 5 sc__law_names.nd (ev_op ov_add (ev_op ov_add (ev_sl (ev_var 5) ov_none (ov_some ev_int)) (ev_ix (rm1 hr) (ev_var 3) (ev_op ov_div (ev_var 6) ev_int))) (ev_ix (rm1 hr) (ev_var 3) (ev_op ov_mod (ev_var 6) ev_int))))) ss_nil)))
    (ss_one (sv_expr (ev_bm F.plainAttrs_list F.slot_list_append F.type_list_append md_append (ev_var 2) (av_cons (ev_var 5) av_nil)))))))
    (ss_one (sv_ret (ev_var 2)))))
theorem ok__law_names {fd : FuncData} (b : Bl mg) (F__law_draw : Fn P w K mg base "_law_draw" (top 50) ["stream", "many"] 1 (sp__law_draw K)) (F__law_pick : Fn P w K mg base "_law_pick" (top 51) ["stream", "things"] 2 (sp__law_pick K)) (F : FunD K "_law_names" "_law_names" (defArgs (top 57)) (defBody (top 57)) (defScope (top 57)) [] [] f fd) : FnOk P w K mg base CX0 3 f fd ["stream", "many"] (SPV (sp__law_names K)) :=
  fnOk_fg (k := 2) F sc__law_names (fun _ _ _ _ h => h.1) (fun cdv A outer s H E hr => dv__law_names (cdv := cdv) (A := A) (outer := outer) (s := s) (H := H) (E := E) b F__law_draw F__law_pick hr) fun _ _ _ _ h => h.2
def N__law_hands : List Str := ["wants", "guests", "found", "at", "other"]
theorem sc__law_hands : FnScope N__law_hands ["wants"] (defScope (top 58)) := ⟨rfl, rfl, rfl, by decide +kernel, rfl, by decide +kernel, by decide +kernel⟩
def w__law_hands (K : PySem.W.Frag) : WS := (wSeq (wAsg (wCB sortD (wCons (wVar 0) wNil)) (.nm 1))
    (wSeq (wAsg (wLst wNil) (.nm 2))
    (wSeq (wFor (wiRng1 (wCons (wCB lenD (wCons (wVar 1) wNil)) wNil)) (.nm 3) (wExpr (wBM "list" extD (wVar 2) (wCons (wLC (wiE (wSl (wVar 1) (wPart (wOp dAdd (wVar 3) (wC (.int 1)))) wNoPart)) (.nm 4) (fun _ G Q => Q true G) (wTup (wCons (wOp ixD (wVar 1) (wVar 3)) (wCons (wVar 4) wNil))) [4]) wNil))))
    (wRet (wVar 2)))))
def sp__law_hands (K : PySem.W.Frag) : DSp := wSp 1 N__law_hands (w__law_hands K)
theorem dv__law_hands (b : Bl mg)  (hr : Room 0 (A.deeper (envOfC "_law_hands" (defScope (top 58)) s.heap.objs.size f cdv))) : PSs (cx P w K mg base N__law_hands "_law_hands" (top 58) f cdv A outer s H E) (defBody (top 58)) (SV B (w__law_hands K)) :=
  (ss_cons (sv_set 1 sc__law_hands.nd (ev_cb (cr_sortD (rm64 hr) rfl) rfl b.sorted boot_sorted (av_cons (ev_var 0) av_nil)))
    (ss_cons (sv_set 2 sc__law_hands.nd (ev_lst av_nil))
    (ss_cons (sv_for PassesOwn.never rfl (iv_rng1 rfl b.range (av_cons (ev_cb cr_len rfl b.len boot_len (av_cons (ev_var 1) av_nil)) av_nil)) (tg_nm 3 sc__law_hands.nd) (ss_one (sv_expr (ev_bm F.plainAttrs_list F.slot_list_extend F.type_list_extend md_extend (ev_var 2) (av_cons (ev_lc rfl sc__law_hands.nd (iv_any (ev_sl (ev_var 1) (ov_some (ev_op ov_add (ev_var 3) ev_int)) ov_none)) (own := [("other", 4)]) (⟨rfl, by decide +kernel, by decide +kernel, by decide +kernel, by decide +kernel⟩ : BlkOk N__law_hands (defScope (top 58)) _ [("other", 4)]) (fun _ _ _ _ _ => (tg_nm 4 sc__law_hands.nd)) (fun _ _ _ _ _ => tv_yes) (fun _ _ _ _ _ => (ev_tup (av_cons (ev_ix (rm1 hr) (ev_var 1) (ev_var 3)) (av_cons (ev_var 4) av_nil)))) (by decide)) av_nil)))))
    (ss_one (sv_ret (ev_var 2))))))
theorem ok__law_hands {fd : FuncData} (b : Bl mg)  (F : FunD K "_law_hands" "_law_hands" (defArgs (top 58)) (defBody (top 58)) (defScope (top 58)) [] [] f fd) : FnOk P w K mg base CX0 1 f fd ["wants"] (SPV (sp__law_hands K)) :=
  fnOk_fg (k := 0) F sc__law_hands (fun _ _ _ _ h => h.1) (fun cdv A outer s H E hr => dv__law_hands (cdv := cdv) (A := A) (outer := outer) (s := s) (H := H) (E := E) b  hr) fun _ _ _ _ h => h.2
def N__law_shaken : List Str := ["wants", "web", "found", "one", "other", "guest"]
theorem sc__law_shaken : FnScope N__law_shaken ["wants", "web"] (defScope (top 59)) := ⟨rfl, rfl, rfl, by decide +kernel, rfl, by decide +kernel, by decide +kernel⟩
def w__law_shaken (K : PySem.W.Frag) : WS := (wSeq (wAsg (wLk (wCB dictD (wCons (wLC (wiE (wCB sortD (wCons (wVar 0) wNil))) (.nm 5) (fun _ G Q => Q true G) (wTup (wCons (wVar 5) (wCons (wC (.int 0)) wNil))) [5]) wNil))) (.nm 2))
    (wSeq (wFor (wiE (wVar 1)) (.tp [(.nm 3), (.nm 4)]) (wSeq (wSetIx (wVar 2) (wVar 3) (wOp dAdd (wOp ixD (wVar 2) (wVar 3)) (wC (.int 1))))
    (wSetIx (wVar 2) (wVar 4) (wOp dAdd (wOp ixD (wVar 2) (wVar 4)) (wC (.int 1))))))
    (wRet (wVar 2))))
def sp__law_shaken (K : PySem.W.Frag) : DSp := wSp 2 N__law_shaken (w__law_shaken K)
theorem dv__law_shaken (b : Bl mg)  (hr : Room 0 (A.deeper (envOfC "_law_shaken" (defScope (top 59)) s.heap.objs.size f cdv))) : PSs (cx P w K mg base N__law_shaken "_law_shaken" (top 59) f cdv A outer s H E) (defBody (top 59)) (SV B (w__law_shaken K)) :=
  (ss_cons (sv_set 2 sc__law_shaken.nd (ev_lk (ev_cty (cr_dict rfl) rfl b.dict boot_dict (av_cons (ev_lc rfl sc__law_shaken.nd (iv_any (ev_cb (cr_sortD (rm64 hr) rfl) rfl b.sorted boot_sorted (av_cons (ev_var 0) av_nil))) (own := [("guest", 5)]) (⟨rfl, by decide +kernel, by decide +kernel, by decide +kernel, by decide +kernel⟩ : BlkOk N__law_shaken (defScope (top 59)) _ [("guest", 5)]) (fun _ _ _ _ _ => (tg_nm 5 sc__law_shaken.nd)) (fun _ _ _ _ _ => tv_yes) (fun _ _ _ _ _ => (ev_tup (av_cons (ev_var 5) (av_cons ev_int av_nil)))) (by decide)) av_nil))))
    (ss_cons (sv_for PassesOwn.never rfl (iv_any (ev_var 1)) (tg_tp rfl (tgs_cons (tg_nm 3 sc__law_shaken.nd) (tgs_cons (tg_nm 4 sc__law_shaken.nd) tgs_nil))) (ss_cons (sv_setIx (rm1 hr) (ev_var 2) (ev_var 3) (ev_op ov_add (ev_ix (rm1 hr) (ev_var 2) (ev_var 3)) ev_int))
    (ss_one (sv_setIx (rm1 hr) (ev_var 2) (ev_var 4) (ev_op ov_add (ev_ix (rm1 hr) (ev_var 2) (ev_var 4)) ev_int)))))
    (ss_one (sv_ret (ev_var 2)))))
theorem ok__law_shaken {fd : FuncData} (b : Bl mg)  (F : FunD K "_law_shaken" "_law_shaken" (defArgs (top 59)) (defBody (top 59)) (defScope (top 59)) [] [] f fd) : FnOk P w K mg base CX0 1 f fd ["wants", "web"] (SPV (sp__law_shaken K)) :=
  fnOk_fg (k := 0) F sc__law_shaken (fun _ _ _ _ h => h.1) (fun cdv A outer s H E hr => dv__law_shaken (cdv := cdv) (A := A) (outer := outer) (s := s) (H := H) (E := E) b  hr) fun _ _ _ _ h => h.2
def N__law_web : List Str := ["stream", "names", "odds", "found", "hand", "name"]
theorem sc__law_web : FnScope N__law_web ["stream", "names", "odds"] (defScope (top 60)) := ⟨rfl, rfl, rfl, by decide +kernel, rfl, by decide +kernel, by decide +kernel⟩
def w__law_web (K : PySem.W.Frag) : WS := (wSeq (wAsg (wLst wNil) (.nm 3))
    (wSeq (wFor (wiE (wCall (sp__law_hands K) DX0 (wCons (wLk (wCB dictD (wCons (wLC (wiE (wVar 1)) (.nm 5) (fun _ G Q => Q true G) (wTup (wCons (wVar 5) (wCons (wC (.int 0)) wNil))) [5]) wNil))) wNil))) (.nm 4) (wIfS (wB (wOp dLtA (wCall (sp__law_draw K) DX0 (wCons (wVar 0) (wCons (wC (.int 10)) wNil))) (wVar 2))) (wExpr (wBM "list" appD (wVar 3) (wCons (wVar 4) wNil))) wNext))
    (wRet (wVar 3))))
def sp__law_web (K : PySem.W.Frag) : DSp := wSp 3 N__law_web (w__law_web K)
theorem dv__law_web (b : Bl mg) (F__law_hands : Fn P w K mg base "_law_hands" (top 58) ["wants"] 1 (sp__law_hands K)) (F__law_draw : Fn P w K mg base "_law_draw" (top 50) ["stream", "many"] 1 (sp__law_draw K)) (hr : Room 1 (A.deeper (envOfC "_law_web" (defScope (top 60)) s.heap.objs.size f cdv))) : PSs (cx P w K mg base N__law_web "_law_web" (top 60) f cdv A outer s H E) (defBody (top 60)) (SV B (w__law_web K)) :=
  (ss_cons (sv_set 3 sc__law_web.nd (ev_lst av_nil))
    (ss_cons (sv_for PassesOwn.never rfl (iv_any (ev_fn F__law_hands hr rfl (av_cons (ev_lk (ev_cty (cr_dict rfl) rfl b.dict boot_dict (av_cons (ev_lc rfl sc__law_web.nd (iv_any (ev_var 1)) (own := [("name", 5)]) (⟨rfl, by decide +kernel, by decide +kernel, by decide +kernel, by decide +kernel⟩ : BlkOk N__law_web (defScope (top 60)) _ [("name", 5)]) (fun _ _ _ _ _ => (tg_nm 5 sc__law_web.nd)) (fun _ _ _ _ _ => tv_yes) (fun _ _ _ _ _ => (ev_tup (av_cons (ev_var 5) (av_cons ev_int av_nil)))) (by decide)) av_nil))) av_nil))) (tg_nm 4 sc__law_web.nd) (ss_one (sv_if (tv_cmp (ov_ltA (rm66 hr)) (ev_fn F__law_draw hr rfl (av_cons (ev_var 0) (av_cons ev_int av_nil))) (ev_var 2)) (ss_one (sv_expr (ev_bm F.plainAttrs_list F.slot_list_append F.type_list_append md_append (ev_var 3) (av_cons (ev_var 4) av_nil)))) ss_nil)))
    (ss_one (sv_ret (ev_var 3)))))
theorem ok__law_web {fd : FuncData} (b : Bl mg) (F__law_hands : Fn P w K mg base "_law_hands" (top 58) ["wants"] 1 (sp__law_hands K)) (F__law_draw : Fn P w K mg base "_law_draw" (top 50) ["stream", "many"] 1 (sp__law_draw K)) (F : FunD K "_law_web" "_law_web" (defArgs (top 60)) (defBody (top 60)) (defScope (top 60)) [] [] f fd) : FnOk P w K mg base CX0 2 f fd ["stream", "names", "odds"] (SPV (sp__law_web K)) :=
  fnOk_fg (k := 1) F sc__law_web (fun _ _ _ _ h => h.1) (fun cdv A outer s H E hr => dv__law_web (cdv := cdv) (A := A) (outer := outer) (s := s) (H := H) (E := E) b F__law_hands F__law_draw hr) fun _ _ _ _ h => h.2
def N__law_party : List Str := ["stream", "guests", "names", "way", "zero", "wants", "turn", "name", "wide"]
theorem sc__law_party : FnScope N__law_party ["stream", "guests"] (defScope (top 61)) := ⟨rfl, rfl, rfl, by decide +kernel, rfl, by decide +kernel, by decide +kernel⟩
def w__law_party (K : PySem.W.Frag) : WS := (wSeq (wAsg (wTup (wCons (wCB sortD (wCons (wCall (sp__law_names K) DX0 (wCons (wVar 0) (wCons (wCall (sp__law_draw K) DX0 (wCons (wVar 0) (wCons (wOp dAdd (wVar 1) (wC (.int 1))) wNil))) wNil))) wNil)) (wCons (wCall (sp__law_draw K) DX0 (wCons (wVar 0) (wCons (wC (.int 5)) wNil))) wNil))) (.tp [.nm 2, .nm 3]))
    (wSeq (wAsg (wLk (wCB dictD (wCons (wLC (wiE (wVar 2)) (.nm 7) (fun _ G Q => Q true G) (wTup (wCons (wVar 7) (wCons (wC (.int 0)) wNil))) [7]) wNil))) (.nm 4))
    (wSeq (wAsg (wCall (sp__law_shaken K) DX0 (wCons (wVar 4) (wCons (wCall (sp__law_web K) DX0 (wCons (wVar 0) (wCons (wVar 2) (wCons (wCall (sp__law_pick K) DX0 (wCons (wVar 0) (wCons (wLst (wCons (wC (.int 1)) (wCons (wC (.int 3)) (wCons (wC (.int 5)) (wCons (wC (.int 8)) (wCons (wC (.int 10)) wNil)))))) wNil))) wNil)))) wNil))) (.nm 5))
    (wSeq (wIfS (wAnd (wB (wOp dEq (wVar 3) (wC (.int 3)))) (wB (wOp dNe (wVar 2) (wLst wNil)))) (wFor (wiRng1 (wCons (wOp dAdd (wC (.int 1)) (wCall (sp__law_draw K) DX0 (wCons (wVar 0) (wCons (wC (.int 3)) wNil)))) wNil)) (.nm 6) (wSeq (wAsg (wCall (sp__law_pick K) DX0 (wCons (wVar 0) (wCons (wVar 2) wNil))) (.nm 7))
    (wSetIx (wVar 5) (wVar 7) (wCB maxD2 (wCons (wOp dAdd (wOp ixD (wVar 5) (wVar 7)) (wCall (sp__law_pick K) DX0 (wCons (wVar 0) (wCons (wLst (wCons (wC (.int 1)) (wCons (wC (.int 1)) (wCons (wUn dNeg (wC (.int 1))) (wCons (wC (.int 2)) wNil))))) wNil)))) (wCons (wC (.int 0)) wNil)))))) wNext)
    (wSeq (wIfS (wB (wOp dEq (wVar 3) (wC (.int 4)))) (wSeq (wAsg (wCall (sp__law_pick K) DX0 (wCons (wVar 0) (wCons (wLst (wCons (wC (.int 2)) (wCons (wC (.int 4)) (wCons (wOp dAdd (wCB lenD (wCons (wVar 2) wNil)) (wC (.int 1))) wNil)))) wNil))) (.nm 8))
    (wAsg (wLk (wCB dictD (wCons (wLC (wiE (wVar 2)) (.nm 7) (fun _ G Q => Q true G) (wTup (wCons (wVar 7) (wCons (wCall (sp__law_draw K) DX0 (wCons (wVar 0) (wCons (wVar 8) wNil))) wNil))) [7]) wNil))) (.nm 5))) wNext)
    (wRet (wVar 5)))))))
def sp__law_party (K : PySem.W.Frag) : DSp := wSp 2 N__law_party (w__law_party K)
theorem dv__law_party (b : Bl mg) (F__law_draw : Fn P w K mg base "_law_draw" (top 50) ["stream", "many"] 1 (sp__law_draw K)) (F__law_names : Fn P w K mg base "_law_names" (top 57) ["stream", "many"] 3 (sp__law_names K)) (F__law_shaken : Fn P w K mg base "_law_shaken" (top 59) ["wants", "web"] 1 (sp__law_shaken K)) (F__law_web : Fn P w K mg base "_law_web" (top 60) ["stream", "names", "odds"] 2 (sp__law_web K)) (F__law_pick : Fn P w K mg base "_law_pick" (top 51) ["stream", "things"] 2 (sp__law_pick K)) (hr : Room 3 (A.deeper (envOfC "_law_party" (defScope (top 61)) s.heap.objs.size f cdv))) : PSs (cx P w K mg base N__law_party "_law_party" (top 61) f cdv A outer s H E) (defBody (top 61)) (SV B (w__law_party K)) :=
  (ss_cons (sv_par rfl sc__law_party.nd (av_cons (ev_cb (cr_sortD (rm64 hr) rfl) rfl b.sorted boot_sorted (av_cons (ev_fn F__law_names hr rfl (av_cons (ev_var 0) (av_cons (ev_fn F__law_draw hr rfl (av_cons (ev_var 0) (av_cons (ev_op ov_add (ev_var 1) ev_int) av_nil))) av_nil))) av_nil)) (av_cons (ev_fn F__law_draw hr rfl (av_cons (ev_var 0) (av_cons ev_int av_nil))) av_nil)))
    (ss_cons (sv_set 4 sc__law_party.nd (ev_lk (ev_cty (cr_dict rfl) rfl b.dict boot_dict (av_cons (ev_lc rfl sc__law_party.nd (iv_any (ev_var 2)) (own := [("name", 7)]) (⟨rfl, by decide +kernel, by decide +kernel, by decide +kernel, by decide +kernel⟩ : BlkOk N__law_party (defScope (top 61)) _ [("name", 7)]) (fun _ _ _ _ _ => (tg_nm 7 sc__law_party.nd)) (fun _ _ _ _ _ => tv_yes) (fun _ _ _ _ _ => (ev_tup (av_cons (ev_var 7) (av_cons ev_int av_nil)))) (by decide)) av_nil))))
    (ss_cons (sv_set 5 sc__law_party.nd (ev_fn F__law_shaken hr rfl (av_cons (ev_var 4) (av_cons (ev_fn F__law_web hr rfl (av_cons (ev_var 0) (av_cons (ev_var 2) (av_cons (ev_fn F__law_pick hr rfl (av_cons (ev_var 0) (av_cons (ev_lst (av_cons ev_int (av_cons ev_int (av_cons ev_int (av_cons ev_int (av_cons ev_int av_nil)))))) av_nil))) av_nil)))) av_nil))))
    (ss_cons (sv_if (L2.PW.pt (wv_and (tv_cmp (ov_eq (rm66 hr)) (ev_var 3) ev_int) (wv_one_and (tv_cmp (ov_ne (rm66 hr)) (ev_var 2) (ev_lst av_nil))))) (ss_one (sv_for PassesOwn.never rfl (iv_rng1 rfl b.range (av_cons (ev_op ov_add ev_int (ev_fn F__law_draw hr rfl (av_cons (ev_var 0) (av_cons ev_int av_nil)))) av_nil)) (tg_nm 6 sc__law_party.nd) (ss_cons (sv_set 7 sc__law_party.nd (ev_fn F__law_pick hr rfl (av_cons (ev_var 0) (av_cons (ev_var 2) av_nil))))
    (ss_one (sv_setIx (rm1 hr) (ev_var 5) (ev_var 7) (ev_cb (cr_max2 rfl) rfl b.max boot_max (av_cons (ev_op ov_add (ev_ix (rm1 hr) (ev_var 5) (ev_var 7)) (ev_fn F__law_pick hr rfl (av_cons (ev_var 0) (av_cons (ev_lst (av_cons ev_int (av_cons ev_int (av_cons (ev_un uv_neg ev_int) (av_cons ev_int av_nil))))) av_nil)))) (av_cons ev_int av_nil)))))))) ss_nil)
    (ss_cons (sv_if (tv_cmp (ov_eq (rm66 hr)) (ev_var 3) ev_int) (ss_cons (sv_set 8 sc__law_party.nd (ev_fn F__law_pick hr rfl (av_cons (ev_var 0) (av_cons (ev_lst (av_cons ev_int (av_cons ev_int (av_cons (ev_op ov_add (ev_cb cr_len rfl b.len boot_len (av_cons (ev_var 2) av_nil)) ev_int) av_nil)))) av_nil))))
    (ss_one (sv_set 5 sc__law_party.nd (ev_lk (ev_cty (cr_dict rfl) rfl b.dict boot_dict (av_cons (ev_lc rfl sc__law_party.nd (iv_any (ev_var 2)) (own := [("name", 7)]) (⟨rfl, by decide +kernel, by decide +kernel, by decide +kernel, by decide +kernel⟩ : BlkOk N__law_party (defScope (top 61)) _ [("name", 7)]) (fun _ _ _ _ _ => (tg_nm 7 sc__law_party.nd)) (fun _ _ _ _ _ => tv_yes) (fun _ _ _ _ _ => (ev_tup (av_cons (ev_var 7) (av_cons (ev_fn F__law_draw hr rfl (av_cons (ev_var 0) (av_cons (ev_var 8) av_nil))) av_nil)))) (by decide)) av_nil)))))) ss_nil)
    (ss_one (sv_ret (ev_var 5))))))))
theorem ok__law_party {fd : FuncData} (b : Bl mg) (F__law_draw : Fn P w K mg base "_law_draw" (top 50) ["stream", "many"] 1 (sp__law_draw K)) (F__law_names : Fn P w K mg base "_law_names" (top 57) ["stream", "many"] 3 (sp__law_names K)) (F__law_shaken : Fn P w K mg base "_law_shaken" (top 59) ["wants", "web"] 1 (sp__law_shaken K)) (F__law_web : Fn P w K mg base "_law_web" (top 60) ["stream", "names", "odds"] 2 (sp__law_web K)) (F__law_pick : Fn P w K mg base "_law_pick" (top 51) ["stream", "things"] 2 (sp__law_pick K)) (F : FunD K "_law_party" "_law_party" (defArgs (top 61)) (defBody (top 61)) (defScope (top 61)) [] [] f fd) : FnOk P w K mg base CX0 4 f fd ["stream", "guests"] (SPV (sp__law_party K)) :=
  fnOk_fg (k := 3) F sc__law_party (fun _ _ _ _ h => h.1) (fun cdv A outer s H E hr => dv__law_party (cdv := cdv) (A := A) (outer := outer) (s := s) (H := H) (E := E) b F__law_draw F__law_names F__law_shaken F__law_web F__law_pick hr) fun _ _ _ _ h => h.2
def N__law_made : List Str := ["stream", "wants", "rows", "guest"]
theorem sc__law_made : FnScope N__law_made ["stream", "wants"] (defScope (top 62)) := ⟨rfl, rfl, rfl, by decide +kernel, rfl, by decide +kernel, by decide +kernel⟩
def w__law_made (K : PySem.W.Frag) : WS := (wSeq (wAsg (wLC (wiE (wCall (sp__law_mixed K) DX0 (wCons (wVar 0) (wCons (wCB sortD (wCons (wVar 1) wNil)) wNil)))) (.nm 3) (fun _ G Q => Q true G) (wCall (sp__law_loose K 6) DX0 (wCons (wVar 0) (wCons (wTup (wCons (wVar 3) (wCons (wOp ixD (wVar 1) (wVar 3)) wNil))) wNil))) [3]) (.nm 2))
    (wRet (wMake (He.ga K "Party") (sp_m_Party_init K) (wCons (wCall (sp__law_loose K 6) DX0 (wCons (wVar 0) (wCons (wVar 2) wNil))) wNil))))
def sp__law_made (K : PySem.W.Frag) : DSp := wSp 2 N__law_made (w__law_made K)
theorem dv__law_made (b : Bl mg) (F__law_mixed : Fn P w K mg base "_law_mixed" (top 52) ["stream", "things"] 2 (sp__law_mixed K)) (F__law_loose : Fn P w K mg base "_law_loose" (top 54) ["stream", "thing"] 8 (sp__law_loose K 6)) (F_m_Party_init : Mkr P w K mg base "Party" (He.ga K "Party") ["self", "rows"] 4 (sp_m_Party_init K)) (hr : Room 8 (A.deeper (envOfC "_law_made" (defScope (top 62)) s.heap.objs.size f cdv))) : PSs (cx P w K mg base N__law_made "_law_made" (top 62) f cdv A outer s H E) (defBody (top 62)) (SV B (w__law_made K)) :=
  (ss_cons (sv_setLc 2 rfl sc__law_made.nd (iv_any (ev_fn F__law_mixed hr rfl (av_cons (ev_var 0) (av_cons (ev_cb (cr_sortD (rm64 hr) rfl) rfl b.sorted boot_sorted (av_cons (ev_var 1) av_nil)) av_nil)))) (own := [("guest", 3)]) (⟨rfl, by decide +kernel, by decide +kernel, by decide +kernel, by decide +kernel⟩ : BlkOk N__law_made (defScope (top 62)) _ [("guest", 3)]) (fun _ _ _ _ _ => (tg_nm 3 sc__law_made.nd)) (fun _ _ _ _ _ => tv_yes) (fun _ _ _ _ _ => (ev_fn F__law_loose hr rfl (av_cons (ev_var 0) (av_cons (ev_tup (av_cons (ev_var 3) (av_cons (ev_ix (rm1 hr) (ev_var 1) (ev_var 3)) av_nil))) av_nil)))) (by decide))
    (ss_one (sv_ret (ev_mk F_m_Party_init hr rfl (av_cons (ev_fn F__law_loose hr rfl (av_cons (ev_var 0) (av_cons (ev_var 2) av_nil))) av_nil)))))
theorem ok__law_made {fd : FuncData} (b : Bl mg) (F__law_mixed : Fn P w K mg base "_law_mixed" (top 52) ["stream", "things"] 2 (sp__law_mixed K)) (F__law_loose : Fn P w K mg base "_law_loose" (top 54) ["stream", "thing"] 8 (sp__law_loose K 6)) (F_m_Party_init : Mkr P w K mg base "Party" (He.ga K "Party") ["self", "rows"] 4 (sp_m_Party_init K)) (F : FunD K "_law_made" "_law_made" (defArgs (top 62)) (defBody (top 62)) (defScope (top 62)) [] [] f fd) : FnOk P w K mg base CX0 9 f fd ["stream", "wants"] (SPV (sp__law_made K)) :=
  fnOk_fg (k := 8) F sc__law_made (fun _ _ _ _ h => h.1) (fun cdv A outer s H E hr => dv__law_made (cdv := cdv) (A := A) (outer := outer) (s := s) (H := H) (E := E) b F__law_mixed F__law_loose F_m_Party_init hr) fun _ _ _ _ h => h.2
def N__law_sorted : List Str := ["wants", "guest"]
theorem sc__law_sorted : FnScope N__law_sorted ["wants"] (defScope (top 63)) := ⟨rfl, rfl, rfl, by decide +kernel, rfl, by decide +kernel, by decide +kernel⟩
def w__law_sorted (K : PySem.W.Frag) : WS := (wRet (wLk (wCB dictD (wCons (wLC (wiE (wCB sortD (wCons (wVar 0) wNil))) (.nm 1) (fun _ G Q => Q true G) (wTup (wCons (wVar 1) (wCons (wOp ixD (wVar 0) (wVar 1)) wNil))) [1]) wNil))))
def sp__law_sorted (K : PySem.W.Frag) : DSp := wSp 1 N__law_sorted (w__law_sorted K)
theorem dv__law_sorted (b : Bl mg)  (hr : Room 0 (A.deeper (envOfC "_law_sorted" (defScope (top 63)) s.heap.objs.size f cdv))) : PSs (cx P w K mg base N__law_sorted "_law_sorted" (top 63) f cdv A outer s H E) (defBody (top 63)) (SV B (w__law_sorted K)) :=
  (ss_one (sv_ret (ev_lk (ev_cty (cr_dict rfl) rfl b.dict boot_dict (av_cons (ev_lc rfl sc__law_sorted.nd (iv_any (ev_cb (cr_sortD (rm64 hr) rfl) rfl b.sorted boot_sorted (av_cons (ev_var 0) av_nil))) (own := [("guest", 1)]) (⟨rfl, by decide +kernel, by decide +kernel, by decide +kernel, by decide +kernel⟩ : BlkOk N__law_sorted (defScope (top 63)) _ [("guest", 1)]) (fun _ _ _ _ _ => (tg_nm 1 sc__law_sorted.nd)) (fun _ _ _ _ _ => tv_yes) (fun _ _ _ _ _ => (ev_tup (av_cons (ev_var 1) (av_cons (ev_ix (rm1 hr) (ev_var 0) (ev_var 1)) av_nil)))) (by decide)) av_nil)))))
theorem ok__law_sorted {fd : FuncData} (b : Bl mg)  (F : FunD K "_law_sorted" "_law_sorted" (defArgs (top 63)) (defBody (top 63)) (defScope (top 63)) [] [] f fd) : FnOk P w K mg base CX0 1 f fd ["wants"] (SPV (sp__law_sorted K)) :=
  fnOk_fg (k := 0) F sc__law_sorted (fun _ _ _ _ h => h.1) (fun cdv A outer s H E hr => dv__law_sorted (cdv := cdv) (A := A) (outer := outer) (s := s) (H := H) (E := E) b  hr) fun _ _ _ _ h => h.2
def N__law_two : List Str := ["stream", "guests", "one", "far", "guest"]
theorem sc__law_two : FnScope N__law_two ["stream", "guests"] (defScope (top 64)) := ⟨rfl, rfl, rfl, by decide +kernel, rfl, by decide +kernel, by decide +kernel⟩
def w__law_two (K : PySem.W.Frag) : WS := (wSeq (wAsg (wTup (wCons (wCall (sp__law_party K) DX0 (wCons (wVar 0) (wCons (wVar 1) wNil))) (wCons (wCall (sp__law_party K) DX0 (wCons (wVar 0) (wCons (wVar 1) wNil))) wNil))) (.tp [(.nm 2), (.nm 3)]))
    (wRet (wTup (wCons (wVar 2) (wCons (wLk (wCB dictD (wCons (wLC (wiE (wCB sortD (wCons (wVar 3) wNil))) (.nm 4) (fun _ G Q => Q true G) (wTup (wCons (wOp dAdd (wVar 4) (wC (.str "zzz"))) (wCons (wOp ixD (wVar 3) (wVar 4)) wNil))) [4]) wNil))) wNil)))))
def sp__law_two (K : PySem.W.Frag) : DSp := wSp 2 N__law_two (w__law_two K)
theorem dv__law_two (b : Bl mg) (F__law_party : Fn P w K mg base "_law_party" (top 61) ["stream", "guests"] 4 (sp__law_party K)) (hr : Room 4 (A.deeper (envOfC "_law_two" (defScope (top 64)) s.heap.objs.size f cdv))) : PSs (cx P w K mg base N__law_two "_law_two" (top 64) f cdv A outer s H E) (defBody (top 64)) (SV B (w__law_two K)) :=
  (ss_cons (sv_asg (ev_tup (av_cons (ev_fn F__law_party hr rfl (av_cons (ev_var 0) (av_cons (ev_var 1) av_nil))) (av_cons (ev_fn F__law_party hr rfl (av_cons (ev_var 0) (av_cons (ev_var 1) av_nil))) av_nil))) (tg_tp rfl (tgs_cons (tg_nm 2 sc__law_two.nd) (tgs_cons (tg_nm 3 sc__law_two.nd) tgs_nil))))
    (ss_one (sv_ret (ev_tup (av_cons (ev_var 2) (av_cons (ev_lk (ev_cty (cr_dict rfl) rfl b.dict boot_dict (av_cons (ev_lc rfl sc__law_two.nd (iv_any (ev_cb (cr_sortD (rm64 hr) rfl) rfl b.sorted boot_sorted (av_cons (ev_var 3) av_nil))) (own := [("guest", 4)]) (⟨rfl, by decide +kernel, by decide +kernel, by decide +kernel, by decide +kernel⟩ : BlkOk N__law_two (defScope (top 64)) _ [("guest", 4)]) (fun _ _ _ _ _ => (tg_nm 4 sc__law_two.nd)) (fun _ _ _ _ _ => tv_yes) (fun _ _ _ _ _ => (ev_tup (av_cons (ev_op ov_add (ev_var 4) ev_str) (av_cons (ev_ix (rm1 hr) (ev_var 3) (ev_var 4)) av_nil)))) (by decide)) av_nil))) av_nil))))))
theorem ok__law_two {fd : FuncData} (b : Bl mg) (F__law_party : Fn P w K mg base "_law_party" (top 61) ["stream", "guests"] 4 (sp__law_party K)) (F : FunD K "_law_two" "_law_two" (defArgs (top 64)) (defBody (top 64)) (defScope (top 64)) [] [] f fd) : FnOk P w K mg base CX0 5 f fd ["stream", "guests"] (SPV (sp__law_two K)) :=
  fnOk_fg (k := 4) F sc__law_two (fun _ _ _ _ h => h.1) (fun cdv A outer s H E hr => dv__law_two (cdv := cdv) (A := A) (outer := outer) (s := s) (H := H) (E := E) b F__law_party hr) fun _ _ _ _ h => h.2
def N_law : List Str := ["script", "stream", "turn", "one", "other", "mine", "theirs", "kept", "due", "rows", "far", "found", "is_drawn", "again", "web", "second", "across", "guest", "dues", "handed", "was", "parties", "there", "some", "number", "mate", "part"]
theorem sc_law : FnScope N_law ["script"] (defScope (top 65)) := ⟨rfl, rfl, rfl, by decide +kernel, rfl, by decide +kernel, by decide +kernel⟩
def w_law_38 (K : PySem.W.Frag) : WS := (wRet (wCall (sp__law_same K 6) DX0 (wCons (wVar 11) (wCons (wLst (wCons (wLk (wDisp [((wC (.str "a")), (wC (.int 1))), ((wC (.str "b")), (wC (.int 1))), ((wC (.str "c")), (wC (.int 0)))])) (wCons (wLk (wDisp [((wC (.str "a")), (wC (.int 2))), ((wC (.str "b")), (wC (.int 2))), ((wC (.str "c")), (wC (.int 2)))])) (wCons (wLst (wCons (wTup (wCons (wC (.str "a")) (wCons (wC (.str "b")) wNil))) (wCons (wTup (wCons (wC (.str "a")) (wCons (wC (.str "c")) wNil))) (wCons (wTup (wCons (wC (.str "b")) (wCons (wC (.str "c")) wNil))) wNil)))) wNil)))) wNil))))
def w_law_37 (K : PySem.W.Frag) : WS := (wAsg (wLst (wCons (wMeth (He.ga K "Party") "wants" (sp_m_Party_wants K) (wCall (sp_joined K) DX0 (wCons (wVar 3) (wCons (wVar 4) wNil))) wNil) (wCons (wMeth (He.ga K "Party") "wants" (sp_m_Party_wants K) (wCall (sp_crossed K) DX0 (wCons (wVar 3) (wCons (wVar 4) wNil))) wNil) (wCons (wCall (sp_webs_crossed K) DX0 (wCons (wVar 3) (wCons (wVar 4) (wCons (wLst (wCons (wTup (wCons (wC (.str "a")) (wCons (wC (.str "b")) wNil))) wNil)) (wCons (wLst wNil) wNil))))) wNil)))) (.nm 11))
def w_law_36 (K : PySem.W.Frag) : WS := (wAsg (wTup (wCons (wMake (He.ga K "Party") (sp_m_Party_init K) (wCons (wLst (wCons (wTup (wCons (wC (.str "a")) (wCons (wC (.int 1)) wNil))) (wCons (wTup (wCons (wC (.str "b")) (wCons (wC (.int 1)) wNil))) wNil))) wNil)) (wCons (wMake (He.ga K "Party") (sp_m_Party_init K) (wCons (wLst (wCons (wTup (wCons (wC (.str "c")) (wCons (wC (.int 0)) wNil))) wNil)) wNil)) wNil))) (.tp [(.nm 3), (.nm 4)]))
def w_law_35 (K : PySem.W.Frag) : WS := (wRet (wC (.bl false)))
def w_law_34 (K : PySem.W.Frag) : WS := (wIfS (wB (wOp dNe (wCB reprD (wCons (wLst (wCons (wVar 3) (wCons (wVar 4) wNil))) wNil)) (wVar 7))) (w_law_35 K) wNext)
def w_law_33 (K : PySem.W.Frag) : WS := (wRet (wC (.bl false)))
def w_law_32 (K : PySem.W.Frag) : WS := (wIfS (wNot (wB (wCall (sp__law_same K 6) DX0 (wCons (wVar 22) (wCons (wLst (wCons (wC (.bl true)) (wCons (wC (.bl true)) wNil))) wNil))))) (w_law_33 K) wNext)
def w_law_31 (K : PySem.W.Frag) : WS := (wAsg (wLst (wCons (wCall (sp_is_picture K) DX0 (wCons (wCall (sp_joined K) DX0 (wCons (wOp ixD (wVar 21) (wC (.int 0))) (wCons (wOp ixD (wVar 21) (wC (.int 1))) wNil))) (wCons (wOp ixD (wVar 18) (wC (.int 0))) wNil))) (wCons (wCall (sp_is_picture K) DX0 (wCons (wCall (sp_crossed K) DX0 (wCons (wOp ixD (wVar 21) (wC (.int 0))) (wCons (wOp ixD (wVar 21) (wC (.int 1))) wNil))) (wCons (wOp ixD (wVar 18) (wC (.int 1))) wNil))) wNil))) (.nm 22))
def w_law_30 (K : PySem.W.Frag) : WS := (wAsg (wLC (wiE (wTup (wCons (wTup (wCons (wVar 3) (wCons (wVar 14) wNil))) (wCons (wTup (wCons (wVar 4) (wCons (wVar 15) wNil))) wNil)))) (.tp [(.nm 23), (.nm 26)]) (fun _ G Q => Q true G) (wCall (sp__law_made K) DX0 (wCons (wVar 1) (wCons (wCall (sp__law_shaken K) DX0 (wCons (wVar 23) (wCons (wVar 26) wNil))) wNil))) [23, 26]) (.nm 21))
def w_law_29 (K : PySem.W.Frag) : WS := (wExpr (wCall (sp__law_spoilt K 6) DX0 (wCons (wVar 11) wNil)))
def w_law_28 (K : PySem.W.Frag) : WS := (wRet (wC (.bl false)))
def w_law_27 (K : PySem.W.Frag) : WS := (wIfS (wOr (wNot (wB (wCall (sp__law_same K 6) DX0 (wCons (wVar 11) (wCons (wOp dAdd (wVar 18) (wVar 18)) wNil))))) (wB (wOp dNe (wCB reprD (wCons (wVar 19) wNil)) (wVar 20)))) (w_law_28 K) wNext)
def w_law_26 (K : PySem.W.Frag) : WS := (wExpr (wBM "list" appD (wVar 11) (wCons (wCallK (sp_webs_crossed K) 0 4 [3, 2, 1, 0] wNil (wCons (wCall (sp__law_copied K 6) DX0 (wCons (wVar 15) wNil)) (wCons (wCall (sp__law_copied K 6) DX0 (wCons (wVar 14) wNil)) (wCons (wVar 6) (wCons (wVar 5) wNil))))) wNil)))
def w_law_25 (K : PySem.W.Frag) : WS := (wExpr (wBM "list" appD (wVar 11) (wCons (wCallK (sp_webs_joined K) 0 4 [3, 2, 1, 0] wNil (wCons (wCall (sp__law_copied K 6) DX0 (wCons (wVar 15) wNil)) (wCons (wCall (sp__law_copied K 6) DX0 (wCons (wVar 14) wNil)) (wCons (wVar 6) (wCons (wVar 5) wNil))))) wNil)))
def w_law_24 (K : PySem.W.Frag) : WS := (wAsg (wTup (wCons (wCB reprD (wCons (wVar 19) wNil)) (wCons (wLst (wCons (wCall (sp_webs_joined K) DX0 (wCons (wVar 5) (wCons (wVar 6) (wCons (wOp ixD (wVar 19) (wC (.int 0))) (wCons (wOp ixD (wVar 19) (wC (.int 1))) wNil))))) (wCons (wCall (sp_webs_crossed K) DX0 (wCons (wVar 5) (wCons (wVar 6) (wCons (wOp ixD (wVar 19) (wC (.int 0))) (wCons (wOp ixD (wVar 19) (wC (.int 1))) wNil))))) wNil))) wNil))) (.tp [.nm 20, .nm 11]))
def w_law_23 (K : PySem.W.Frag) : WS := (wAsg (wTup (wCons (wLst (wCons (wCB sortD (wCons (wOp dAdd (wVar 14) (wVar 15)) wNil)) (wCons (wCB sortD (wCons (wOp dAdd (wOp dAdd (wVar 14) (wVar 15)) (wVar 16)) wNil)) wNil))) (wCons (wLst (wCons (wCall (sp__law_loose K 6) DX0 (wCons (wVar 1) (wCons (wVar 14) wNil))) (wCons (wCall (sp__law_loose K 6) DX0 (wCons (wVar 1) (wCons (wVar 15) wNil))) wNil))) wNil))) (.tp [.nm 18, .nm 19]))
def w_law_22 (K : PySem.W.Frag) : WS := (wExpr (wBM "list" extD (wVar 16) (wCons (wLC (wiE (wLk (wVar 4))) (.nm 25) (fun _ G Q => Q true G) (wTup (wCons (wCB minD2 (wCons (wVar 17) (wCons (wVar 25) wNil))) (wCons (wCB maxD2 (wCons (wVar 17) (wCons (wVar 25) wNil))) wNil))) [25]) wNil)))
def w_law_21 (K : PySem.W.Frag) : WS := (wFor (wiE (wLk (wVar 3))) (.nm 17) (w_law_22 K))
def w_law_20 (K : PySem.W.Frag) : WS := (wAsg (wLst wNil) (.nm 16))
def w_law_19 (K : PySem.W.Frag) : WS := (wAsg (wTup (wCons (wCall (sp__law_web K) DX0 (wCons (wVar 1) (wCons (wCB sortD (wCons (wVar 3) wNil)) (wCons (wC (.int 5)) wNil)))) (wCons (wCall (sp__law_web K) DX0 (wCons (wVar 1) (wCons (wCB sortD (wCons (wVar 4) wNil)) (wCons (wC (.int 5)) wNil)))) wNil))) (.tp [.nm 14, .nm 15]))
def w_law_18 (K : PySem.W.Frag) : WS := (wFor (wiRng1 (wCons (wC (.int 3)) wNil)) (.nm 13) (wSeq (w_law_19 K)
    (wSeq (w_law_20 K)
    (wSeq (w_law_21 K)
    (wSeq (w_law_23 K)
    (wSeq (w_law_24 K)
    (wSeq (w_law_25 K)
    (wSeq (w_law_26 K)
    (wSeq (w_law_27 K)
    (wSeq (w_law_29 K)
    (wSeq (w_law_30 K)
    (wSeq (w_law_31 K)
    (w_law_32 K)))))))))))))
def w_law_17 (K : PySem.W.Frag) : WS := (wRet (wC (.bl false)))
def w_law_16 (K : PySem.W.Frag) : WS := (wIfS (wAnd (wB (wOp dNe (wVar 3) (wLk wEmp))) (wAnd (wB (wOp dNe (wVar 4) (wLk wEmp))) (wNot (wB (wOp (dOwn (He.ga K "Party") (sp_m_Party_eq K)) (wCall (sp_other_party K) DX0 (wCons (wCall (sp_joined K) DX0 (wCons (wCall (sp_other_party K) DX0 (wCons (wVar 5) wNil)) (wCons (wCall (sp_other_party K) DX0 (wCons (wVar 6) wNil)) wNil))) wNil)) (wCall (sp_crossed K) DX0 (wCons (wVar 5) (wCons (wVar 6) wNil)))))))) (w_law_17 K) wNext)
def w_law_15 (K : PySem.W.Frag) : WS := (wIfS (wAnd (wB (wCB allD (wCons (wLC (wiVals (wLk (wVar 3))) (.nm 24) (fun _ G Q => Q true G) (wOp dLtA (wVar 24) (wCB lenD (wCons (wVar 3) wNil))) [24]) wNil))) (wB (wCB allD (wCons (wLC (wiVals (wLk (wVar 4))) (.nm 24) (fun _ G Q => Q true G) (wOp dLtA (wVar 24) (wCB lenD (wCons (wVar 4) wNil))) [24]) wNil)))) (w_law_16 K) wNext)
def w_law_14 (K : PySem.W.Frag) : WS := (wRet (wC (.bl false)))
def w_law_13 (K : PySem.W.Frag) : WS := (wIfS (wAnd (wB (wCB allD (wCons (wVar 12) wNil))) (wNot (wB (wCall (sp__law_same K 6) DX0 (wCons (wLst (wCons (wCall (sp_can_be_drawn K) DX0 (wCons (wCall (sp_joined K) DX0 (wCons (wVar 5) (wCons (wVar 6) wNil))) wNil)) (wCons (wCall (sp_can_be_drawn K) DX0 (wCons (wCall (sp_crossed K) DX0 (wCons (wVar 5) (wCons (wVar 6) wNil))) wNil)) wNil))) (wCons (wLst (wCons (wC (.bl true)) (wCons (wC (.bl true)) wNil))) wNil)))))) (w_law_14 K) wNext)
def w_law_12 (K : PySem.W.Frag) : WS := (wAsg (wLst (wCons (wCall (sp_can_be_drawn K) DX0 (wCons (wVar 5) wNil)) (wCons (wCall (sp_can_be_drawn K) DX0 (wCons (wVar 6) wNil)) wNil))) (.nm 12))
def w_law_11 (K : PySem.W.Frag) : WS := (wRet (wC (.bl false)))
def w_law_10 (K : PySem.W.Frag) : WS := (wIfS (wNot (wB (wCall (sp__law_same K 6) DX0 (wCons (wVar 11) (wCons (wOp dAdd (wOp dMul (wLst (wCons (wVar 8) wNil)) (wC (.int 3))) (wOp dMul (wLst (wCons (wVar 10) wNil)) (wC (.int 3)))) wNil))))) (w_law_11 K) wNext)
def w_law_9 (K : PySem.W.Frag) : WS := (wExpr (wBM "list" extD (wVar 11) (wCons (wLst (wCons (wMeth (He.ga K "Party") "wants" (sp_m_Party_wants K) (wCall (sp_crossed K) DX0 (wCons (wVar 5) (wCons (wVar 6) wNil))) wNil) (wCons (wMeth (He.ga K "Party") "wants" (sp_m_Party_wants K) (wCallK (sp_crossed K) 0 2 [1, 0] wNil (wCons (wVar 6) (wCons (wVar 5) wNil))) wNil) (wCons (wMeth (He.ga K "Party") "wants" (sp_m_Party_wants K) (wCall (sp_crossed K) DX0 (wCons (wVar 6) (wCons (wVar 5) wNil))) wNil) wNil)))) wNil)))
def w_law_8 (K : PySem.W.Frag) : WS := (wAsg (wLst (wCons (wMeth (He.ga K "Party") "wants" (sp_m_Party_wants K) (wCall (sp_joined K) DX0 (wCons (wVar 5) (wCons (wVar 6) wNil))) wNil) (wCons (wMeth (He.ga K "Party") "wants" (sp_m_Party_wants K) (wCallK (sp_joined K) 0 2 [1, 0] wNil (wCons (wVar 6) (wCons (wVar 5) wNil))) wNil) (wCons (wMeth (He.ga K "Party") "wants" (sp_m_Party_wants K) (wCall (sp_joined K) DX0 (wCons (wVar 6) (wCons (wVar 5) wNil))) wNil) wNil)))) (.nm 11))
def w_law_7 (K : PySem.W.Frag) : WS := (wAsg (wCall (sp__law_sorted K) DX0 (wCons (wLk (wCB dictD (wCons (wVar 9) wNil))) wNil)) (.nm 10))
def w_law_6 (K : PySem.W.Frag) : WS := (wAsg (wOp dAdd (wLC (wiItems (wLk (wVar 3))) (.tp [(.nm 17), (.nm 24)]) (fun _ G Q => Q true G) (wTup (wCons (wVar 17) (wCons (wOp dAdd (wVar 24) (wCB lenD (wCons (wVar 4) wNil))) wNil))) [17, 24]) (wLC (wiItems (wLk (wVar 4))) (.tp [(.nm 17), (.nm 24)]) (fun _ G Q => Q true G) (wTup (wCons (wVar 17) (wCons (wOp dAdd (wVar 24) (wCB lenD (wCons (wVar 3) wNil))) wNil))) [17, 24])) (.nm 9))
def w_law_5 (K : PySem.W.Frag) : WS := (wAsg (wCall (sp__law_sorted K) DX0 (wCons (wLk (wCB dictD (wCons (wOp dAdd (wListItems (wVar 3)) (wListItems (wVar 4))) wNil))) wNil)) (.nm 8))
def w_law_4 (K : PySem.W.Frag) : WS := (wAsg (wTup (wCons (wCall (sp__law_made K) DX0 (wCons (wVar 1) (wCons (wVar 3) wNil))) (wCons (wCall (sp__law_made K) DX0 (wCons (wVar 1) (wCons (wVar 4) wNil))) (wCons (wCB reprD (wCons (wLst (wCons (wVar 3) (wCons (wVar 4) wNil))) wNil)) wNil)))) (.tp [.nm 5, .nm 6, .nm 7]))
def w_law_3 (K : PySem.W.Frag) : WS := (wAsg (wLC (wiE (wTup (wCons (wVar 3) (wCons (wVar 4) wNil)))) (.nm 23) (fun _ G Q => Q true G) (wCall (sp__law_shaken K) DX0 (wCons (wVar 23) (wCons (wCall (sp__law_web K) DX0 (wCons (wVar 1) (wCons (wCB sortD (wCons (wVar 23) wNil)) (wCons (wC (.int 5)) wNil)))) wNil))) [23]) (.tp [(.nm 3), (.nm 4)]))
def w_law_2 (K : PySem.W.Frag) : WS := (wIfS (wB (wOp dEq (wOp dMod (wVar 2) (wC (.int 2))) (wC (.int 0)))) (w_law_3 K) wNext)
def w_law_1 (K : PySem.W.Frag) : WS := (wAsg (wCall (sp__law_two K) DX0 (wCons (wVar 1) (wCons (wCall (sp__law_pick K) DX0 (wCons (wVar 1) (wCons (wLst (wCons (wC (.int 2)) (wCons (wC (.int 4)) (wCons (wC (.int 6)) wNil)))) wNil))) wNil))) (.tp [(.nm 3), (.nm 4)]))
def w_law_0 (K : PySem.W.Frag) : WS := (wFor (wiRng1 (wCons (wC (.int 8)) wNil)) (.nm 2) (wSeq (w_law_1 K)
    (wSeq (w_law_2 K)
    (wSeq (w_law_4 K)
    (wSeq (w_law_5 K)
    (wSeq (w_law_6 K)
    (wSeq (w_law_7 K)
    (wSeq (w_law_8 K)
    (wSeq (w_law_9 K)
    (wSeq (w_law_10 K)
    (wSeq (w_law_12 K)
    (wSeq (w_law_13 K)
    (wSeq (w_law_15 K)
    (wSeq (w_law_18 K)
    (w_law_34 K)))))))))))))))
def w_law (K : PySem.W.Frag) : WS := (wSeq (w_law_0 K)
    (wSeq (w_law_36 K)
    (wSeq (w_law_37 K)
    (w_law_38 K))))
theorem dv_law (b : Bl mg) (F__law_two : Fn P w K mg base "_law_two" (top 64) ["stream", "guests"] 5 (sp__law_two K)) (F__law_pick : Fn P w K mg base "_law_pick" (top 51) ["stream", "things"] 2 (sp__law_pick K)) (F__law_shaken : Fn P w K mg base "_law_shaken" (top 59) ["wants", "web"] 1 (sp__law_shaken K)) (F__law_web : Fn P w K mg base "_law_web" (top 60) ["stream", "names", "odds"] 2 (sp__law_web K)) (F__law_made : Fn P w K mg base "_law_made" (top 62) ["stream", "wants"] 9 (sp__law_made K)) (F__law_sorted : Fn P w K mg base "_law_sorted" (top 63) ["wants"] 1 (sp__law_sorted K)) (c_Party : Cls K (He.ga K "Party")) (F_m_Party_wants : Mt P w K mg base (He.ga K "Party") "wants" "Party.wants" (inClass (top 16) 2) ["self"] 1 (sp_m_Party_wants K)) (F_joined : Fn P w K mg base "joined" (top 43) ["party", "other"] 6 (sp_joined K)) (F_crossed : Fn P w K mg base "crossed" (top 44) ["party", "other"] 6 (sp_crossed K)) (F__law_same : Fn P w K mg base "_law_same" (top 53) ["found", "due"] 7 (sp__law_same K 6)) (F_can_be_drawn : Fn P w K mg base "can_be_drawn" (top 36) ["party"] 5 (sp_can_be_drawn K)) (F_m_Party_eq : OwnM P w K mg base (He.ga K "Party") "__eq__" ["self", "other"] 1 (sp_m_Party_eq K)) (nf_Party : PySem.W.notFirst K (He.ga K "Party") (.ref (He.ga K "Party")) = true) (F_other_party : Fn P w K mg base "other_party" (top 41) ["party"] 6 (sp_other_party K)) (F__law_loose : Fn P w K mg base "_law_loose" (top 54) ["stream", "thing"] 8 (sp__law_loose K 6)) (F_webs_crossed : Fn P w K mg base "webs_crossed" (top 47) ["party", "other", "web", "second"] 7 (sp_webs_crossed K)) (F_webs_joined : Fn P w K mg base "webs_joined" (top 46) ["party", "other", "web", "second"] 7 (sp_webs_joined K)) (F__law_copied : Fn P w K mg base "_law_copied" (top 55) ["thing"] 7 (sp__law_copied K 6)) (F__law_spoilt : Fn P w K mg base "_law_spoilt" (top 56) ["thing"] 7 (sp__law_spoilt K 6)) (F_is_picture : Fn P w K mg base "is_picture" (top 24) ["party", "thing"] 5 (sp_is_picture K)) (F_m_Party_init : Mkr P w K mg base "Party" (He.ga K "Party") ["self", "rows"] 4 (sp_m_Party_init K)) (hG : A.guards = some []) (hr : Room 9 (A.deeper (envOfC "law" (defScope (top 65)) s.heap.objs.size f cdv))) : PSs (cx P w K mg base N_law "law" (top 65) f cdv A outer s H E) ((defBody (top 65)).drop 1) (SV B (w_law K)) :=
  (ss_cons (sv_for PassesOwn.never rfl (iv_rng1 rfl b.range (av_cons ev_int av_nil)) (tg_nm 2 sc_law.nd) (ss_cons (sv_asg (ev_fn F__law_two hr rfl (av_cons (ev_var 1) (av_cons (ev_fn F__law_pick hr rfl (av_cons (ev_var 1) (av_cons (ev_lst (av_cons ev_int (av_cons ev_int (av_cons ev_int av_nil)))) av_nil))) av_nil))) (tg_tp rfl (tgs_cons (tg_nm 3 sc_law.nd) (tgs_cons (tg_nm 4 sc_law.nd) tgs_nil))))
    (ss_cons (sv_if (tv_cmp (ov_eq (rm66 hr)) (ev_op ov_mod (ev_var 2) ev_int) ev_int) (ss_one (sv_asg (ev_lc rfl sc_law.nd (iv_any (ev_tup (av_cons (ev_var 3) (av_cons (ev_var 4) av_nil)))) (own := [("some", 23)]) (⟨rfl, by decide +kernel, by decide +kernel, by decide +kernel, by decide +kernel⟩ : BlkOk N_law (defScope (top 65)) _ [("some", 23)]) (fun _ _ _ _ _ => (tg_nm 23 sc_law.nd)) (fun _ _ _ _ _ => tv_yes) (fun _ _ _ _ _ => (ev_fn F__law_shaken hr rfl (av_cons (ev_var 23) (av_cons (ev_fn F__law_web hr rfl (av_cons (ev_var 1) (av_cons (ev_cb (cr_sortD (rm64 hr) rfl) rfl b.sorted boot_sorted (av_cons (ev_var 23) av_nil)) (av_cons ev_int av_nil)))) av_nil)))) (by decide)) (tg_tp rfl (tgs_cons (tg_nm 3 sc_law.nd) (tgs_cons (tg_nm 4 sc_law.nd) tgs_nil))))) ss_nil)
    (ss_cons (sv_par3 rfl sc_law.nd (av_cons (ev_fn F__law_made hr rfl (av_cons (ev_var 1) (av_cons (ev_var 3) av_nil))) (av_cons (ev_fn F__law_made hr rfl (av_cons (ev_var 1) (av_cons (ev_var 4) av_nil))) (av_cons (ev_cb (cr_repr hG (rm64 hr)) rfl b.repr boot_repr (av_cons (ev_lst (av_cons (ev_var 3) (av_cons (ev_var 4) av_nil))) av_nil)) av_nil))))
    (ss_cons (sv_set 8 sc_law.nd (ev_fn F__law_sorted hr rfl (av_cons (ev_lk (ev_cty (cr_dict rfl) rfl b.dict boot_dict (av_cons (ev_op ov_add (ev_listItems rfl (ev_var 3) rfl b.list) (ev_listItems rfl (ev_var 4) rfl b.list)) av_nil))) av_nil)))
    (ss_cons (sv_set 9 sc_law.nd (ev_op ov_add (ev_lc rfl sc_law.nd (iv_items (ev_lk (ev_var 3))) (own := [("guest", 17), ("number", 24)]) (⟨rfl, by decide +kernel, by decide +kernel, by decide +kernel, by decide +kernel⟩ : BlkOk N_law (defScope (top 65)) _ [("guest", 17), ("number", 24)]) (fun _ _ _ _ _ => (tg_tp rfl (tgs_cons (tg_nm 17 sc_law.nd) (tgs_cons (tg_nm 24 sc_law.nd) tgs_nil)))) (fun _ _ _ _ _ => tv_yes) (fun _ _ _ _ _ => (ev_tup (av_cons (ev_var 17) (av_cons (ev_op ov_add (ev_var 24) (ev_cb cr_len rfl b.len boot_len (av_cons (ev_var 4) av_nil))) av_nil)))) (by decide)) (ev_lc rfl sc_law.nd (iv_items (ev_lk (ev_var 4))) (own := [("guest", 17), ("number", 24)]) (⟨rfl, by decide +kernel, by decide +kernel, by decide +kernel, by decide +kernel⟩ : BlkOk N_law (defScope (top 65)) _ [("guest", 17), ("number", 24)]) (fun _ _ _ _ _ => (tg_tp rfl (tgs_cons (tg_nm 17 sc_law.nd) (tgs_cons (tg_nm 24 sc_law.nd) tgs_nil)))) (fun _ _ _ _ _ => tv_yes) (fun _ _ _ _ _ => (ev_tup (av_cons (ev_var 17) (av_cons (ev_op ov_add (ev_var 24) (ev_cb cr_len rfl b.len boot_len (av_cons (ev_var 3) av_nil))) av_nil)))) (by decide))))
    (ss_cons (sv_set 10 sc_law.nd (ev_fn F__law_sorted hr rfl (av_cons (ev_lk (ev_cty (cr_dict rfl) rfl b.dict boot_dict (av_cons (ev_var 9) av_nil))) av_nil)))
    (ss_cons (sv_set 11 sc_law.nd (ev_lst (av_cons (ev_mt0 F_m_Party_wants c_Party hr (ev_fn F_joined hr rfl (av_cons (ev_var 5) (av_cons (ev_var 6) av_nil)))) (av_cons (ev_mt0 F_m_Party_wants c_Party hr (ev_fnK0 (ks := ["other", "party"]) (ix := [1, 0]) F_joined hr rfl (kv_cons (ev_var 6) (kv_cons (ev_var 5) kv_nil)) (fun _ _ _ _ _ _ us vs h1 h2 => match us, h1, vs, h2 with | [], _, [_, _], _ => rfl))) (av_cons (ev_mt0 F_m_Party_wants c_Party hr (ev_fn F_joined hr rfl (av_cons (ev_var 6) (av_cons (ev_var 5) av_nil)))) av_nil)))))
    (ss_cons (sv_expr (ev_bm F.plainAttrs_list F.slot_list_extend F.type_list_extend md_extend (ev_var 11) (av_cons (ev_lst (av_cons (ev_mt0 F_m_Party_wants c_Party hr (ev_fn F_crossed hr rfl (av_cons (ev_var 5) (av_cons (ev_var 6) av_nil)))) (av_cons (ev_mt0 F_m_Party_wants c_Party hr (ev_fnK0 (ks := ["other", "party"]) (ix := [1, 0]) F_crossed hr rfl (kv_cons (ev_var 6) (kv_cons (ev_var 5) kv_nil)) (fun _ _ _ _ _ _ us vs h1 h2 => match us, h1, vs, h2 with | [], _, [_, _], _ => rfl))) (av_cons (ev_mt0 F_m_Party_wants c_Party hr (ev_fn F_crossed hr rfl (av_cons (ev_var 6) (av_cons (ev_var 5) av_nil)))) av_nil)))) av_nil)))
    (ss_cons (sv_if (tv_not (tv_val (ev_fn F__law_same hr rfl (av_cons (ev_var 11) (av_cons (ev_op ov_add (ev_op ov_mul (ev_lst (av_cons (ev_var 8) av_nil)) ev_int) (ev_op ov_mul (ev_lst (av_cons (ev_var 10) av_nil)) ev_int)) av_nil))))) (ss_one (sv_ret ev_bl)) ss_nil)
    (ss_cons (sv_set 12 sc_law.nd (ev_lst (av_cons (ev_fn F_can_be_drawn hr rfl (av_cons (ev_var 5) av_nil)) (av_cons (ev_fn F_can_be_drawn hr rfl (av_cons (ev_var 6) av_nil)) av_nil))))
    (ss_cons (sv_if (L2.PW.pt (wv_and (tv_val (ev_cb (cr_allD rfl) rfl b.all boot_all (av_cons (ev_var 12) av_nil))) (wv_one_and (tv_not (tv_val (ev_fn F__law_same hr rfl (av_cons (ev_lst (av_cons (ev_fn F_can_be_drawn hr rfl (av_cons (ev_fn F_joined hr rfl (av_cons (ev_var 5) (av_cons (ev_var 6) av_nil))) av_nil)) (av_cons (ev_fn F_can_be_drawn hr rfl (av_cons (ev_fn F_crossed hr rfl (av_cons (ev_var 5) (av_cons (ev_var 6) av_nil))) av_nil)) av_nil))) (av_cons (ev_lst (av_cons ev_bl (av_cons ev_bl av_nil))) av_nil)))))))) (ss_one (sv_ret ev_bl)) ss_nil)
    (ss_cons (sv_if (L2.PW.pt (wv_and (tv_val (ev_cb (cr_allD rfl) rfl b.all boot_all (av_cons (ev_lc rfl sc_law.nd (iv_vals (ev_lk (ev_var 3))) (own := [("number", 24)]) (⟨rfl, by decide +kernel, by decide +kernel, by decide +kernel, by decide +kernel⟩ : BlkOk N_law (defScope (top 65)) _ [("number", 24)]) (fun _ _ _ _ _ => (tg_nm 24 sc_law.nd)) (fun _ _ _ _ _ => tv_yes) (fun _ _ _ _ _ => (ev_cmp (ov_ltA (rm66 hr)) (ev_var 24) (ev_cb cr_len rfl b.len boot_len (av_cons (ev_var 3) av_nil)))) (by decide)) av_nil))) (wv_one_and (tv_val (ev_cb (cr_allD rfl) rfl b.all boot_all (av_cons (ev_lc rfl sc_law.nd (iv_vals (ev_lk (ev_var 4))) (own := [("number", 24)]) (⟨rfl, by decide +kernel, by decide +kernel, by decide +kernel, by decide +kernel⟩ : BlkOk N_law (defScope (top 65)) _ [("number", 24)]) (fun _ _ _ _ _ => (tg_nm 24 sc_law.nd)) (fun _ _ _ _ _ => tv_yes) (fun _ _ _ _ _ => (ev_cmp (ov_ltA (rm66 hr)) (ev_var 24) (ev_cb cr_len rfl b.len boot_len (av_cons (ev_var 4) av_nil)))) (by decide)) av_nil)))))) (ss_one (sv_if (L2.PW.pt (wv_and (tv_cmp (ov_ne (rm66 hr)) (ev_var 3) (ev_lk ev_emp)) (wv_and (tv_cmp (ov_ne (rm66 hr)) (ev_var 4) (ev_lk ev_emp)) (wv_one_and (tv_not (tv_cmp (ov_own .Eq (fun _ _ => rfl) rfl F_m_Party_eq nf_Party hr) (ev_fn F_other_party hr rfl (av_cons (ev_fn F_joined hr rfl (av_cons (ev_fn F_other_party hr rfl (av_cons (ev_var 5) av_nil)) (av_cons (ev_fn F_other_party hr rfl (av_cons (ev_var 6) av_nil)) av_nil))) av_nil)) (ev_fn F_crossed hr rfl (av_cons (ev_var 5) (av_cons (ev_var 6) av_nil))))))))) (ss_one (sv_ret ev_bl)) ss_nil)) ss_nil)
    (ss_cons (sv_for PassesOwn.never rfl (iv_rng1 rfl b.range (av_cons ev_int av_nil)) (tg_nm 13 sc_law.nd) (ss_cons (sv_par rfl sc_law.nd (av_cons (ev_fn F__law_web hr rfl (av_cons (ev_var 1) (av_cons (ev_cb (cr_sortD (rm64 hr) rfl) rfl b.sorted boot_sorted (av_cons (ev_var 3) av_nil)) (av_cons ev_int av_nil)))) (av_cons (ev_fn F__law_web hr rfl (av_cons (ev_var 1) (av_cons (ev_cb (cr_sortD (rm64 hr) rfl) rfl b.sorted boot_sorted (av_cons (ev_var 4) av_nil)) (av_cons ev_int av_nil)))) av_nil)))
    (ss_cons (sv_set 16 sc_law.nd (ev_lst av_nil))
    (ss_cons (sv_for PassesOwn.never rfl (iv_any (ev_lk (ev_var 3))) (tg_nm 17 sc_law.nd) (ss_one (sv_expr (ev_bm F.plainAttrs_list F.slot_list_extend F.type_list_extend md_extend (ev_var 16) (av_cons (ev_lc rfl sc_law.nd (iv_any (ev_lk (ev_var 4))) (own := [("mate", 25)]) (⟨rfl, by decide +kernel, by decide +kernel, by decide +kernel, by decide +kernel⟩ : BlkOk N_law (defScope (top 65)) _ [("mate", 25)]) (fun _ _ _ _ _ => (tg_nm 25 sc_law.nd)) (fun _ _ _ _ _ => tv_yes) (fun _ _ _ _ _ => (ev_tup (av_cons (ev_cb (cr_min2 rfl) rfl b.min boot_min (av_cons (ev_var 17) (av_cons (ev_var 25) av_nil))) (av_cons (ev_cb (cr_max2 rfl) rfl b.max boot_max (av_cons (ev_var 17) (av_cons (ev_var 25) av_nil))) av_nil)))) (by decide)) av_nil)))))
    (ss_cons (sv_par rfl sc_law.nd (av_cons (ev_lst (av_cons (ev_cb (cr_sortD (rm64 hr) rfl) rfl b.sorted boot_sorted (av_cons (ev_op ov_add (ev_var 14) (ev_var 15)) av_nil)) (av_cons (ev_cb (cr_sortD (rm64 hr) rfl) rfl b.sorted boot_sorted (av_cons (ev_op ov_add (ev_op ov_add (ev_var 14) (ev_var 15)) (ev_var 16)) av_nil)) av_nil))) (av_cons (ev_lst (av_cons (ev_fn F__law_loose hr rfl (av_cons (ev_var 1) (av_cons (ev_var 14) av_nil))) (av_cons (ev_fn F__law_loose hr rfl (av_cons (ev_var 1) (av_cons (ev_var 15) av_nil))) av_nil))) av_nil)))
    (ss_cons (sv_par rfl sc_law.nd (av_cons (ev_cb (cr_repr hG (rm64 hr)) rfl b.repr boot_repr (av_cons (ev_var 19) av_nil)) (av_cons (ev_lst (av_cons (ev_fn F_webs_joined hr rfl (av_cons (ev_var 5) (av_cons (ev_var 6) (av_cons (ev_ix (rm1 hr) (ev_var 19) ev_int) (av_cons (ev_ix (rm1 hr) (ev_var 19) ev_int) av_nil))))) (av_cons (ev_fn F_webs_crossed hr rfl (av_cons (ev_var 5) (av_cons (ev_var 6) (av_cons (ev_ix (rm1 hr) (ev_var 19) ev_int) (av_cons (ev_ix (rm1 hr) (ev_var 19) ev_int) av_nil))))) av_nil))) av_nil)))
    (ss_cons (sv_expr (ev_bm F.plainAttrs_list F.slot_list_append F.type_list_append md_append (ev_var 11) (av_cons (ev_fnK0 (ks := ["second", "web", "other", "party"]) (ix := [3, 2, 1, 0]) F_webs_joined hr rfl (kv_cons (ev_fn F__law_copied hr rfl (av_cons (ev_var 15) av_nil)) (kv_cons (ev_fn F__law_copied hr rfl (av_cons (ev_var 14) av_nil)) (kv_cons (ev_var 6) (kv_cons (ev_var 5) kv_nil)))) (fun _ _ _ _ _ _ us vs h1 h2 => match us, h1, vs, h2 with | [], _, [_, _, _, _], _ => rfl)) av_nil)))
    (ss_cons (sv_expr (ev_bm F.plainAttrs_list F.slot_list_append F.type_list_append md_append (ev_var 11) (av_cons (ev_fnK0 (ks := ["second", "web", "other", "party"]) (ix := [3, 2, 1, 0]) F_webs_crossed hr rfl (kv_cons (ev_fn F__law_copied hr rfl (av_cons (ev_var 15) av_nil)) (kv_cons (ev_fn F__law_copied hr rfl (av_cons (ev_var 14) av_nil)) (kv_cons (ev_var 6) (kv_cons (ev_var 5) kv_nil)))) (fun _ _ _ _ _ _ us vs h1 h2 => match us, h1, vs, h2 with | [], _, [_, _, _, _], _ => rfl)) av_nil)))
    (ss_cons (sv_if (L2.PW.pt (wv_or (tv_not (tv_val (ev_fn F__law_same hr rfl (av_cons (ev_var 11) (av_cons (ev_op ov_add (ev_var 18) (ev_var 18)) av_nil))))) (wv_one_or (tv_cmp (ov_ne (rm66 hr)) (ev_cb (cr_repr hG (rm64 hr)) rfl b.repr boot_repr (av_cons (ev_var 19) av_nil)) (ev_var 20))))) (ss_one (sv_ret ev_bl)) ss_nil)
    (ss_cons (sv_expr (ev_fn F__law_spoilt hr rfl (av_cons (ev_var 11) av_nil)))
    (ss_cons (sv_setLc 21 rfl sc_law.nd (iv_any (ev_tup (av_cons (ev_tup (av_cons (ev_var 3) (av_cons (ev_var 14) av_nil))) (av_cons (ev_tup (av_cons (ev_var 4) (av_cons (ev_var 15) av_nil))) av_nil)))) (own := [("some", 23), ("part", 26)]) (⟨rfl, by decide +kernel, by decide +kernel, by decide +kernel, by decide +kernel⟩ : BlkOk N_law (defScope (top 65)) _ [("some", 23), ("part", 26)]) (fun _ _ _ _ _ => (tg_tp rfl (tgs_cons (tg_nm 23 sc_law.nd) (tgs_cons (tg_nm 26 sc_law.nd) tgs_nil)))) (fun _ _ _ _ _ => tv_yes) (fun _ _ _ _ _ => (ev_fn F__law_made hr rfl (av_cons (ev_var 1) (av_cons (ev_fn F__law_shaken hr rfl (av_cons (ev_var 23) (av_cons (ev_var 26) av_nil))) av_nil)))) (by decide))
    (ss_cons (sv_set 22 sc_law.nd (ev_lst (av_cons (ev_fn F_is_picture hr rfl (av_cons (ev_fn F_joined hr rfl (av_cons (ev_ix (rm1 hr) (ev_var 21) ev_int) (av_cons (ev_ix (rm1 hr) (ev_var 21) ev_int) av_nil))) (av_cons (ev_ix (rm1 hr) (ev_var 18) ev_int) av_nil))) (av_cons (ev_fn F_is_picture hr rfl (av_cons (ev_fn F_crossed hr rfl (av_cons (ev_ix (rm1 hr) (ev_var 21) ev_int) (av_cons (ev_ix (rm1 hr) (ev_var 21) ev_int) av_nil))) (av_cons (ev_ix (rm1 hr) (ev_var 18) ev_int) av_nil))) av_nil))))
    (ss_one (sv_if (tv_not (tv_val (ev_fn F__law_same hr rfl (av_cons (ev_var 22) (av_cons (ev_lst (av_cons ev_bl (av_cons ev_bl av_nil))) av_nil))))) (ss_one (sv_ret ev_bl)) ss_nil))))))))))))))
    (ss_one (sv_if (tv_cmp (ov_ne (rm66 hr)) (ev_cb (cr_repr hG (rm64 hr)) rfl b.repr boot_repr (av_cons (ev_lst (av_cons (ev_var 3) (av_cons (ev_var 4) av_nil))) av_nil)) (ev_var 7)) (ss_one (sv_ret ev_bl)) ss_nil))))))))))))))))
    (ss_cons (sv_asg (ev_tup (av_cons (ev_mk F_m_Party_init hr rfl (av_cons (ev_lst (av_cons (ev_tup (av_cons ev_str (av_cons ev_int av_nil))) (av_cons (ev_tup (av_cons ev_str (av_cons ev_int av_nil))) av_nil))) av_nil)) (av_cons (ev_mk F_m_Party_init hr rfl (av_cons (ev_lst (av_cons (ev_tup (av_cons ev_str (av_cons ev_int av_nil))) av_nil)) av_nil)) av_nil))) (tg_tp rfl (tgs_cons (tg_nm 3 sc_law.nd) (tgs_cons (tg_nm 4 sc_law.nd) tgs_nil))))
    (ss_cons (sv_set 11 sc_law.nd (ev_lst (av_cons (ev_mt0 F_m_Party_wants c_Party hr (ev_fn F_joined hr rfl (av_cons (ev_var 3) (av_cons (ev_var 4) av_nil)))) (av_cons (ev_mt0 F_m_Party_wants c_Party hr (ev_fn F_crossed hr rfl (av_cons (ev_var 3) (av_cons (ev_var 4) av_nil)))) (av_cons (ev_fn F_webs_crossed hr rfl (av_cons (ev_var 3) (av_cons (ev_var 4) (av_cons (ev_lst (av_cons (ev_tup (av_cons ev_str (av_cons ev_str av_nil))) av_nil)) (av_cons (ev_lst av_nil) av_nil))))) av_nil)))))
    (ss_one (sv_ret (ev_fn F__law_same hr rfl (av_cons (ev_var 11) (av_cons (ev_lst (av_cons (ev_lk (ev_disp (dp_cons ev_str ev_int (dp_cons ev_str ev_int (dp_cons ev_str ev_int dp_nil))))) (av_cons (ev_lk (ev_disp (dp_cons ev_str ev_int (dp_cons ev_str ev_int (dp_cons ev_str ev_int dp_nil))))) (av_cons (ev_lst (av_cons (ev_tup (av_cons ev_str (av_cons ev_str av_nil))) (av_cons (ev_tup (av_cons ev_str (av_cons ev_str av_nil))) (av_cons (ev_tup (av_cons ev_str (av_cons ev_str av_nil))) av_nil)))) av_nil)))) av_nil))))))))
theorem sc__law_stream : FnScope ["script"] ["script"] (defScope (top 49)) := ⟨rfl, rfl, rfl, by decide +kernel, rfl, by decide +kernel, by decide +kernel⟩
theorem ok__law_stream {fd : FuncData} (b : Bl mg) (F : FunD K "_law_stream" "_law_stream" (defArgs (top 49)) (defBody (top 49)) (defScope (top 49)) [] [] f fd) : FnOk P w K mg base CX0 1 f fd ["script"] (spStream K) := by
  refine F.ok (k := 0) sc__law_stream (fun vs H Q E h => ?_) (fun cdv A outer s H vs Q E hr h => ⟨_, ((pss_one (ps_ret (pe_lst (pa_cons (pe_callTy call_list_of rfl b.list boot_list (pa_cons (pe_var (i := 0) rfl (Or.inl rfl)) pa_nil)) (pa_cons pe_int (pa_cons pe_int (pa_cons pe_int pa_nil))))))) : PSs (cx P w K mg base ["script"] "_law_stream" (top 49) f cdv A outer s H E) (defBody (top 49)) _).nox, stream_pure h _ rfl⟩)
  obtain ⟨a, ns, e, _⟩ := h
  rw [e]; rfl
theorem ok_law {fd fdS : FuncData} {fS : Addr} (b : Bl mg) (S_stream : FnOk P w K mg base CX0 1 fS fdS ["script"] (spStream K)) (M_stream : mg "_law_stream" = some (.ref fS)) (B_stream : Binds K fdS ["script"] []) (k_stream : PySem.W.keepIn K (.ref fS) = true) (F__law_two : Fn P w K mg base "_law_two" (top 64) ["stream", "guests"] 5 (sp__law_two K)) (F__law_pick : Fn P w K mg base "_law_pick" (top 51) ["stream", "things"] 2 (sp__law_pick K)) (F__law_shaken : Fn P w K mg base "_law_shaken" (top 59) ["wants", "web"] 1 (sp__law_shaken K)) (F__law_web : Fn P w K mg base "_law_web" (top 60) ["stream", "names", "odds"] 2 (sp__law_web K)) (F__law_made : Fn P w K mg base "_law_made" (top 62) ["stream", "wants"] 9 (sp__law_made K)) (F__law_sorted : Fn P w K mg base "_law_sorted" (top 63) ["wants"] 1 (sp__law_sorted K)) (c_Party : Cls K (He.ga K "Party")) (F_m_Party_wants : Mt P w K mg base (He.ga K "Party") "wants" "Party.wants" (inClass (top 16) 2) ["self"] 1 (sp_m_Party_wants K)) (F_joined : Fn P w K mg base "joined" (top 43) ["party", "other"] 6 (sp_joined K)) (F_crossed : Fn P w K mg base "crossed" (top 44) ["party", "other"] 6 (sp_crossed K)) (F__law_same : Fn P w K mg base "_law_same" (top 53) ["found", "due"] 7 (sp__law_same K 6)) (F_can_be_drawn : Fn P w K mg base "can_be_drawn" (top 36) ["party"] 5 (sp_can_be_drawn K)) (F_m_Party_eq : OwnM P w K mg base (He.ga K "Party") "__eq__" ["self", "other"] 1 (sp_m_Party_eq K)) (nf_Party : PySem.W.notFirst K (He.ga K "Party") (.ref (He.ga K "Party")) = true) (F_other_party : Fn P w K mg base "other_party" (top 41) ["party"] 6 (sp_other_party K)) (F__law_loose : Fn P w K mg base "_law_loose" (top 54) ["stream", "thing"] 8 (sp__law_loose K 6)) (F_webs_crossed : Fn P w K mg base "webs_crossed" (top 47) ["party", "other", "web", "second"] 7 (sp_webs_crossed K)) (F_webs_joined : Fn P w K mg base "webs_joined" (top 46) ["party", "other", "web", "second"] 7 (sp_webs_joined K)) (F__law_copied : Fn P w K mg base "_law_copied" (top 55) ["thing"] 7 (sp__law_copied K 6)) (F__law_spoilt : Fn P w K mg base "_law_spoilt" (top 56) ["thing"] 7 (sp__law_spoilt K 6)) (F_is_picture : Fn P w K mg base "is_picture" (top 24) ["party", "thing"] 5 (sp_is_picture K)) (F_m_Party_init : Mkr P w K mg base "Party" (He.ga K "Party") ["self", "rows"] 4 (sp_m_Party_init K)) (F : FunD K "law" "law" (defArgs (top 65)) (defBody (top 65)) (defScope (top 65)) [] [] f fd) (pure : LawPure N_law (w_law K)) : FnOkG P w K mg base CX0 10 f fd ["script"] (spLaw K) := by
  obtain ⟨oc, od, dV, kV, doc, pm, an, cdv, ct, osl, rfl, lk, hcd, _, _⟩ := F.ex
  refine fn_ofG (k := 9) lk hcd sc_law (fun vs H Q E h => ?_) (fun A outer s H vs Q E hG hr h => ⟨_, (pss_cons (ps_set (i := 1) sc_law.nd rfl (by first | exact Or.inl rfl | exact Or.inr rfl) (pe_call (E := E0) S_stream (hr.mono (by decide)) rfl M_stream k_stream B_stream .nil pass0 (pa_cons (pe_var (i := 0) rfl (Or.inl rfl)) pa_nil))) (dv_law (cdv := cdv) (A := A) (outer := outer) (s := s) (H := H) (E := E) (B := fun _ => none) b F__law_two F__law_pick F__law_shaken F__law_web F__law_made F__law_sorted c_Party F_m_Party_wants F_joined F_crossed F__law_same F_can_be_drawn F_m_Party_eq nf_Party F_other_party F__law_loose F_webs_crossed F_webs_joined F__law_copied F__law_spoilt F_is_picture F_m_Party_init (hG := hG) hr) : PSs (cx P w K mg base N_law "law" (top 65) f cdv A outer s H E) (defBody (top 65)) _).nox, law_pure h pure (by decide)⟩)
  obtain ⟨a, ns, e, _⟩ := h
  rw [e]; rfl

end
end Q7
namespace Q7
open PySem PySem.Spec PyProof.Rows L2
def fns0 : List He.DefD := [⟨("is_list", none), "is_list", "is_list", defArgs (top 2), defBody (top 2), defScope (top 2), [], []⟩, ⟨("is_whole", none), "is_whole", "is_whole", defArgs (top 3), defBody (top 3), defScope (top 3), [], []⟩, ⟨("is_number", none), "is_number", "is_number", defArgs (top 4), defBody (top 4), defScope (top 4), [], []⟩, ⟨("is_row", none), "is_row", "is_row", defArgs (top 5), defBody (top 5), defScope (top 5), [], []⟩, ⟨("is_name", none), "is_name", "is_name", defArgs (top 6), defBody (top 6), defScope (top 6), [], []⟩, ⟨("is_rising", none), "is_rising", "is_rising", defArgs (top 7), defBody (top 7), defScope (top 7), [], []⟩, ⟨("first_bad_row", none), "first_bad_row", "first_bad_row", defArgs (top 15), defBody (top 15), defScope (top 15), [], []⟩, ⟨("Party", some "__init__"), "__init__", "Party.__init__", defArgs (inClass (top 16) 0), defBody (inClass (top 16) 0), defScope (inClass (top 16) 0), [], []⟩, ⟨("Party", some "guests"), "guests", "Party.guests", defArgs (inClass (top 16) 1), defBody (inClass (top 16) 1), defScope (inClass (top 16) 1), [], []⟩, ⟨("Party", some "wants"), "wants", "Party.wants", defArgs (inClass (top 16) 2), defBody (inClass (top 16) 2), defScope (inClass (top 16) 2), [], []⟩, ⟨("Party", some "want"), "want", "Party.want", defArgs (inClass (top 16) 3), defBody (inClass (top 16) 3), defScope (inClass (top 16) 3), [], []⟩, ⟨("Party", some "__eq__"), "__eq__", "Party.__eq__", defArgs (inClass (top 16) 4), defBody (inClass (top 16) 4), defScope (inClass (top 16) 4), [], []⟩, ⟨("check_party", none), "check_party", "check_party", defArgs (top 17), defBody (top 17), defScope (top 17), [], []⟩, ⟨("is_guest", none), "is_guest", "is_guest", defArgs (top 18), defBody (top 18), defScope (top 18), [], []⟩, ⟨("check_guest", none), "check_guest", "check_guest", defArgs (top 19), defBody (top 19), defScope (top 19), [], []⟩, ⟨("is_hand", none), "is_hand", "is_hand", defArgs (top 20), defBody (top 20), defScope (top 20), [], []⟩, ⟨("is_web_of", none), "is_web_of", "is_web_of", defArgs (top 21), defBody (top 21), defScope (top 21), [], []⟩, ⟨("check_web", none), "check_web", "check_web", defArgs (top 22), defBody (top 22), defScope (top 22), [], []⟩, ⟨("shaken_of", none), "shaken_of", "shaken_of", defArgs (top 23), defBody (top 23), defScope (top 23), [], []⟩, ⟨("is_picture", none), "is_picture", "is_picture", defArgs (top 24), defBody (top 24), defScope (top 24), [], []⟩, ⟨("in_row", none), "in_row", "in_row", defArgs (top 25), defBody (top 25), defScope (top 25), [], []⟩, ⟨("room_for", none), "room_for", "room_for", defArgs (top 30), defBody (top 30), defScope (top 30), [], []⟩, ⟨("lack_of", none), "lack_of", "lack_of", defArgs (top 31), defBody (top 31), defScope (top 31), [], []⟩, ⟨("taken_by", none), "taken_by", "taken_by", defArgs (top 32), defBody (top 32), defScope (top 32), [], []⟩, ⟨("drawn_by", none), "drawn_by", "drawn_by", defArgs (top 33), defBody (top 33), defScope (top 33), [], []⟩, ⟨("bar_of", none), "bar_of", "bar_of", defArgs (top 34), defBody (top 34), defScope (top 34), [], []⟩, ⟨("told_of", none), "told_of", "told_of", defArgs (top 35), defBody (top 35), defScope (top 35), [], []⟩, ⟨("can_be_drawn", none), "can_be_drawn", "can_be_drawn", defArgs (top 36), defBody (top 36), defScope (top 36), [], []⟩, ⟨("hand_of", none), "hand_of", "hand_of", defArgs (top 38), defBody (top 38), defScope (top 38), [], []⟩, ⟨("check_least", none), "check_least", "check_least", defArgs (top 40), defBody (top 40), defScope (top 40), [], []⟩]
def fns1 : List He.DefD := [⟨("other_party", none), "other_party", "other_party", defArgs (top 41), defBody (top 41), defScope (top 41), [], []⟩, ⟨("check_apart", none), "check_apart", "check_apart", defArgs (top 42), defBody (top 42), defScope (top 42), [], []⟩, ⟨("joined", none), "joined", "joined", defArgs (top 43), defBody (top 43), defScope (top 43), [], []⟩, ⟨("crossed", none), "crossed", "crossed", defArgs (top 44), defBody (top 44), defScope (top 44), [], []⟩, ⟨("check_webs", none), "check_webs", "check_webs", defArgs (top 45), defBody (top 45), defScope (top 45), [], []⟩, ⟨("webs_joined", none), "webs_joined", "webs_joined", defArgs (top 46), defBody (top 46), defScope (top 46), [], []⟩, ⟨("webs_crossed", none), "webs_crossed", "webs_crossed", defArgs (top 47), defBody (top 47), defScope (top 47), [], []⟩, ⟨("_law_stream", none), "_law_stream", "_law_stream", defArgs (top 49), defBody (top 49), defScope (top 49), [], []⟩, ⟨("_law_draw", none), "_law_draw", "_law_draw", defArgs (top 50), defBody (top 50), defScope (top 50), [], []⟩, ⟨("_law_pick", none), "_law_pick", "_law_pick", defArgs (top 51), defBody (top 51), defScope (top 51), [], []⟩, ⟨("_law_mixed", none), "_law_mixed", "_law_mixed", defArgs (top 52), defBody (top 52), defScope (top 52), [], []⟩, ⟨("_law_same", none), "_law_same", "_law_same", defArgs (top 53), defBody (top 53), defScope (top 53), [], []⟩, ⟨("_law_loose", none), "_law_loose", "_law_loose", defArgs (top 54), defBody (top 54), defScope (top 54), [], []⟩, ⟨("_law_copied", none), "_law_copied", "_law_copied", defArgs (top 55), defBody (top 55), defScope (top 55), [], []⟩, ⟨("_law_spoilt", none), "_law_spoilt", "_law_spoilt", defArgs (top 56), defBody (top 56), defScope (top 56), [], []⟩, ⟨("_law_names", none), "_law_names", "_law_names", defArgs (top 57), defBody (top 57), defScope (top 57), [], []⟩, ⟨("_law_hands", none), "_law_hands", "_law_hands", defArgs (top 58), defBody (top 58), defScope (top 58), [], []⟩, ⟨("_law_shaken", none), "_law_shaken", "_law_shaken", defArgs (top 59), defBody (top 59), defScope (top 59), [], []⟩, ⟨("_law_web", none), "_law_web", "_law_web", defArgs (top 60), defBody (top 60), defScope (top 60), [], []⟩, ⟨("_law_party", none), "_law_party", "_law_party", defArgs (top 61), defBody (top 61), defScope (top 61), [], []⟩, ⟨("_law_made", none), "_law_made", "_law_made", defArgs (top 62), defBody (top 62), defScope (top 62), [], []⟩, ⟨("_law_sorted", none), "_law_sorted", "_law_sorted", defArgs (top 63), defBody (top 63), defScope (top 63), [], []⟩, ⟨("_law_two", none), "_law_two", "_law_two", defArgs (top 64), defBody (top 64), defScope (top 64), [], []⟩, ⟨("law", none), "law", "law", defArgs (top 65), defBody (top 65), defScope (top 65), [], []⟩]
def fns : List He.DefD := fns0 ++ fns1
def fas0 : List He.Fa := [.str "LETTERS" "abcdefghijklmnopqrstuvwxyz", .glo "is_list", .glo "is_whole", .glo "is_number", .glo "is_row", .glo "is_name", .glo "is_rising", .glo "HandError", .glo "BadRows", .glo "BadParty", .glo "BadGuest", .glo "BadWeb", .glo "first_bad_row", .glo "Party", .cls "Party", .mkr "Party", .meth "Party" "guests", .meth "Party" "wants", .meth "Party" "want", .meth "Party" "__eq__", .noat "Party" "own_wants", .glo "check_party", .glo "is_guest", .glo "check_guest", .glo "is_hand", .glo "is_web_of", .glo "check_web", .glo "shaken_of", .glo "is_picture", .glo "in_row"]
def fas1 : List He.Fa := [.glo "Common", .glo "TooMuch", .glo "room_for", .glo "lack_of", .glo "taken_by", .glo "drawn_by", .glo "bar_of", .glo "told_of", .glo "can_be_drawn", .glo "hand_of", .glo "check_least", .glo "other_party", .glo "check_apart", .glo "joined", .glo "crossed", .glo "check_webs", .glo "webs_joined", .glo "webs_crossed", .glo "_law_stream", .glo "_law_draw", .glo "_law_pick", .glo "_law_mixed", .glo "_law_same", .glo "_law_loose", .glo "_law_copied", .glo "_law_spoilt", .glo "_law_names", .glo "_law_hands", .glo "_law_shaken", .glo "_law_web"]
def fas2 : List He.Fa := [.glo "_law_party", .glo "_law_made", .glo "_law_sorted", .glo "_law_two", .glo "law", .free "abs", .free "all", .free "any", .free "bool", .free "dict", .free "enumerate", .free "int", .free "isinstance", .free "len", .free "list", .free "max", .free "min", .free "range", .free "repr", .free "sorted", .free "str", .free "sum", .free "tuple", .free "zip"]
def fas : List He.Fa := fas0 ++ fas1 ++ fas2
def loos0 : List PySem.Str := ["LETTERS", "is_list", "is_whole", "is_number", "is_row", "is_name", "is_rising", "HandError", "BadRows", "BadParty", "BadGuest", "BadWeb", "first_bad_row", "Party", "check_party", "is_guest", "check_guest", "is_hand", "is_web_of", "check_web", "shaken_of", "is_picture", "in_row", "Common", "TooMuch", "room_for", "lack_of", "taken_by", "drawn_by", "bar_of"]
def loos1 : List PySem.Str := ["told_of", "can_be_drawn", "hand_of", "check_least", "other_party", "check_apart", "joined", "crossed", "check_webs", "webs_joined", "webs_crossed", "_law_stream", "_law_draw", "_law_pick", "_law_mixed", "_law_same", "_law_loose", "_law_copied", "_law_spoilt", "_law_names", "_law_hands", "_law_shaken", "_law_web", "_law_party", "_law_made", "_law_sorted", "_law_two"]
def loos : List PySem.Str := loos0 ++ loos1
def exK (K : PySem.W.Frag) : Bool := decide (PySem.W.findIn K (.ref (He.ga K "Party")) "__class__" = some (some (.builtin "object.__class__"))) && (decide (PySem.W.specialIn K (.builtin "object.__class__") "__get__" = some (some (.builtin "getset_descriptor.__get__"))) && (decide (PySem.W.takesIn K (.builtin "object.__class__") = some true) && (decide (PySem.W.mroIn K (He.ga K "Party") (.type "object") = some true) && PySem.W.notFirst K (He.ga K "Party") (.ref (He.ga K "Party")))))
abbrev R : PySem.W.OpenRow := PySem.W.OpenLaw.row PySem.Challenge.rw_handcounts_k87_whole_joined_and_crossed
abbrev hk : PySem.W.Hook := He.hookX 5 fas fns [] [] exK
def ob (s : PySem.W.SharedT) : He.AlX := He.obsX 5 fas fns [] [] exK (HandSHeadRun.getT s)
theorem ob_eq (s : PySem.W.SharedT) : ob s = hk.obs s.abs := He.obsX_eq (HandSHeadRun.getT_eq s)
theorem run (w : World) : HandSHeadRun.RunEq R (PySem.W.view R.prog [65]) hk ob 4000 loos w := by
  intro os
  kernel_rfl
/-- what is known of the classes -/
structure KF (K : PySem.W.Frag) : Prop where
  c : Cls K (He.ga K "Party")
  i : CIsi K (He.ga K "Party")
theorem ex_ok {K : PySem.W.Frag} (m : exK K = true) : CIsi K (He.ga K "Party") ∧ PySem.W.notFirst K (He.ga K "Party") (.ref (He.ga K "Party")) = true := by
  obtain ⟨m1, m⟩ := He.ba m
  obtain ⟨m2, m⟩ := He.ba m
  obtain ⟨m3, m⟩ := He.ba m
  obtain ⟨m4, m5⟩ := He.ba m
  exact ⟨⟨of_decide_eq_true m1, of_decide_eq_true m2, of_decide_eq_true m3, of_decide_eq_true m4⟩, m5⟩
end Q7

namespace Q7
open PySem PySem.Spec PyProof.Rows L2
theorem wSp_mk {ar : Nat} {N : List Str} {w : WS} {ds : List D} {G : DH} {Q : DK} {E : DX} (h1 : ds.length = ar) (h2 : w { nx := fun _ G' => fg Q .non G', rt := fg Q } (startD N ds) G) : wSp ar N w ds G Q E := ⟨h1, h2⟩
theorem fgI {G0 G : DH} {Q : DK} {v : D} (s : Sub G0 G) (q : Q v G0) : fg Q v G := ⟨G0, s, q⟩
theorem fg0 {G : DH} {Q : DK} {v : D} (q : Q v G) : fg Q v G := ⟨G, Sub.refl G, q⟩
theorem itT {a b : Prop} (h : a) : if (true = true) then a else b := by rw [if_pos rfl]; exact h
theorem itF {a b : Prop} (h : b) : if (false = true) then a else b := by rw [if_neg Bool.false_ne_true]; exact h
/-! ### basics -/
def tyNs : List String := ["NoneType", "bool", "int", "str", "tuple", "list", "dict"]
theorem TyN.mem {x : D} {G : DH} {T : String} (h : TyN x G T) : T ∈ tyNs := by
  cases x with
  | non => have e : T = _ := h; subst e; decide
  | bl b => have e : T = _ := h; subst e; decide
  | int i => have e : T = _ := h; subst e; decide
  | str z => have e : T = _ := h; subst e; decide
  | ty n => exact h.elim
  | tup ds => have e : T = _ := h; subst e; decide
  | ref a =>
    have h : (match G.ob a with
      | some (.lst _ _) => T = "list"
      | some (.dct _ _) => T = "dict"
      | _ => False) := h
    cases hg : G.ob a with
    | none => rw [hg] at h; exact h.elim
    | some o =>
      rw [hg] at h
      cases o with
      | lst w ds => have e : T = _ := h; subst e; decide
      | dct w kvs => have e : T = _ := h; subst e; decide
      | ins C fs => exact h.elim
theorem kit_lt : ∀ T ∈ tyNs, kitAnyB T ["list", "tuple"] = some (T == "list" || T == "tuple") := by decide +kernel
theorem kit_ltd : ∀ T ∈ tyNs, kitAnyB T ["list", "tuple", "dict"] = some (T == "list" || T == "tuple" || T == "dict") := by decide +kernel
theorem kit_one : ∀ T ∈ tyNs, ∀ T' ∈ tyNs, kitB T T' = some (T == T' || (T == "bool" && T' == "int")) := by decide +kernel
section
variable {K : PySem.W.Frag} {G : DH} {Q : DK} {E : DX} {x y : D} {T : String} {ds es : List D} {z : Str}
theorem x_isi {T' : String} (h : TyN x G T) (h' : T' ∈ tyNs) (q : Q (.bl (T == T' || (T == "bool" && T' == "int"))) G) : isD K [x, .ty T'] G Q := isD_ty h (kit_one T h.mem T' h') q
theorem x_isLT (h : TyN x G T) (q : Q (.bl (T == "list" || T == "tuple")) G) : isD K [x, .tup [.ty "list", .ty "tuple"]] G Q := isD_tys (Ts := ["list", "tuple"]) h (kit_lt T h.mem) q
theorem t_is_list (h : TyN x G T) (q : Q (.bl (T == "list" || T == "tuple")) G) : sp_is_list K [x] G Q E := by
  refine wSp_mk rfl ?_
  unfold w_is_list
  dsimp only [wSeq, wSetIx, wOp, wC, wB, wIfS, wAsg, wCB, wCons, wNil, wRet, wRetN, wAnd, wOr, wNot, wAndV, wOrV, wNotV, wIf, wTup, wLst, wBM, wNext, wExpr, wUn, wChain, wCall, wSl, wPart, wNoPart, wNever, wLkS, wStar, wStarItems, wListItems, wSumVals, wFld, wSetFld, wMake, wMeth, wCallK, wDisp, wEmp, wPairs, wLk, wBreak, wCont, asg, asgs]
  refine x_var rfl ⟨by decide, x_isLT h (fg0 q)⟩
theorem t_is_whole {i : Int} (q : Q (.bl true) G) : sp_is_whole K [.int i] G Q E := by
  refine wSp_mk rfl ?_
  unfold w_is_whole
  dsimp only [wSeq, wSetIx, wOp, wC, wB, wIfS, wAsg, wCB, wCons, wNil, wRet, wRetN, wAnd, wOr, wNot, wAndV, wOrV, wNotV, wIf, wTup, wLst, wBM, wNext, wExpr, wUn, wChain, wCall, wSl, wPart, wNoPart, wNever, wLkS, wStar, wStarItems, wListItems, wSumVals, wFld, wSetFld, wMake, wMeth, wCallK, wDisp, wEmp, wPairs, wLk, wBreak, wCont, asg, asgs]
  refine x_var rfl (x_isi (T := "int") rfl (by decide) ⟨true, rfl, itT ?_⟩)
  exact x_var rfl (x_isi (T := "int") rfl (by decide) ⟨false, rfl, fg0 q⟩)
theorem t_is_number {i : Int} (q : Q (.bl (decide (0 ≤ i))) G) : sp_is_number K [.int i] G Q E := by
  refine wSp_mk rfl ?_
  unfold w_is_number
  dsimp only [wSeq, wSetIx, wOp, wC, wB, wIfS, wAsg, wCB, wCons, wNil, wRet, wRetN, wAnd, wOr, wNot, wAndV, wOrV, wNotV, wIf, wTup, wLst, wBM, wNext, wExpr, wUn, wChain, wCall, wSl, wPart, wNoPart, wNever, wLkS, wStar, wStarItems, wListItems, wSumVals, wFld, wSetFld, wMake, wMeth, wCallK, wDisp, wEmp, wPairs, wLk, wBreak, wCont, asg, asgs]
  refine x_var rfl (t_is_whole ⟨true, rfl, itT ?_⟩)
  exact x_var rfl (x_geI (fg0 q))
/-- a list or a tuple -/
def SeqD (x : D) (ds : List D) (G : DH) : Prop := (∃ a w, x = .ref a ∧ G.ob a = some (.lst w ds)) ∨ x = .tup ds
theorem SeqD.sub {G G' : DH} (s : Sub G G') (h : SeqD x ds G) : SeqD x ds G' := by
  rcases h with ⟨a, w, e, h⟩ | e
  · exact .inl ⟨a, w, e, s.ob a _ h⟩
  · exact .inr e
theorem SeqD.ty (h : SeqD x ds G) : ∃ T, TyN x G T ∧ (T == "list" || T == "tuple") = true := by
  rcases h with ⟨a, w, e, h⟩ | e
  · subst e
    refine ⟨"list", ?_, rfl⟩
    unfold TyN
    simp [h]
  · subst e
    exact ⟨"tuple", rfl, rfl⟩
theorem SeqD.len (h : SeqD x ds G) (q : Q (.int ds.length) G) : lenD [x] G Q := by
  rcases h with ⟨a, w, e, h⟩ | e
  · subst e; exact x_lenL h q
  · subst e; exact x_lenT q
theorem SeqD.ix {i : Int} {v : D} (h : SeqD x ds G) (e : atI ds i = some v) (q : Q v G) : ixD x (.int i) G Q := by
  rcases h with ⟨a, w, ex, h⟩ | ex
  · subst ex; exact x_ixL h e q
  · subst ex; exact x_ixT e q
theorem SeqD.tup (h : SeqD x ds G) (q : Q (.tup ds) G) : tupD [x] G Q := by
  rcases h with ⟨a, w, ex, h⟩ | ex
  · exact ⟨ds, .inl ⟨a, by rw [ex], w, h⟩, q⟩
  · exact ⟨ds, .inr (by rw [ex]), q⟩
theorem SeqD.list (h : SeqD x ds G) (q : ∀ p, G.ob p = none → Q (.ref p) (G.put p (.lst true ds))) : listD [x] G Q := by
  rcases h with ⟨a, w, ex, h⟩ | ex
  · exact .inl ⟨ds, .inl ⟨a, by rw [ex], w, h⟩, q⟩
  · exact .inl ⟨ds, .inr (by rw [ex]), q⟩
theorem SeqD.unp (h : SeqD x ds G) : Q7.unp G x = some ds := by
  rcases h with ⟨a, w, ex, h⟩ | ex
  · subst ex
    show (match G.ob a with
      | some (.lst _ ds) => some ds
      | _ => none) = some ds
    rw [h]
  · subst ex; rfl
theorem SeqD.walk {R : (DH → Prop) → List D → DH → Prop} {G0 : DH} (h : SeqD x ds G0) (s : Sub G0 G) (q : ∀ S : DH → Prop, (∀ G', Sub G0 G' → S G') → R S ds G) : WalkD x G R := by
  rcases h with ⟨a, w, ex, h⟩ | ex
  · exact .inl ⟨a, ds, ex, ⟨w, s.ob a _ h⟩, q _ fun G' s => ⟨w, s.ob a _ h⟩⟩
  · exact .inr (.inl ⟨ds, ex, q _ fun _ _ => trivial⟩)
def EnumAt (xs : List D) (G1 : DH) (R : (DH → Prop) → List D → DH → Prop) : Prop := (∃ a ds, xs = [.ref a] ∧ LstAt a ds G1 ∧ R (LstAt a ds) (enumD ds) G1) ∨ ∃ ds, xs = [.tup ds] ∧ R Tru (enumD ds) G1
theorem x_wiEnum {ws : WA} {δ : DEnv} {R : (DH → Prop) → List D → DH → Prop} (h : ws δ G fun xs G1 => EnumAt xs G1 R) : wiEnumA ws δ G R := h
theorem SeqD.enum {R : (DH → Prop) → List D → DH → Prop} {G0 : DH} (h : SeqD x ds G0) (s : Sub G0 G) (q : ∀ S : DH → Prop, (∀ G', Sub G0 G' → S G') → R S (enumD ds) G) : EnumAt [x] G R := by
  rcases h with ⟨a, w, ex, h⟩ | ex
  · exact .inl ⟨a, ds, by rw [ex], ⟨w, s.ob a _ h⟩, q _ fun G' s => ⟨w, s.ob a _ h⟩⟩
  · exact .inr ⟨ds, by rw [ex], q _ fun _ _ => trivial⟩
theorem t_is_row {m : Int} (h : SeqD x ds G) (q : Q (.bl (decide ((ds.length : Int) = m))) G) : sp_is_row K [x, .int m] G Q E := by
  refine wSp_mk rfl ?_
  unfold w_is_row
  dsimp only [wSeq, wSetIx, wOp, wC, wB, wIfS, wAsg, wCB, wCons, wNil, wRet, wRetN, wAnd, wOr, wNot, wAndV, wOrV, wNotV, wIf, wTup, wLst, wBM, wNext, wExpr, wUn, wChain, wCall, wSl, wPart, wNoPart, wNever, wLkS, wStar, wStarItems, wListItems, wSumVals, wFld, wSetFld, wMake, wMeth, wCallK, wDisp, wEmp, wPairs, wLk, wBreak, wCont, asg, asgs]
  obtain ⟨T, hT, e⟩ := h.ty
  refine x_var rfl (t_is_list hT ⟨_, rfl, ?_⟩)
  rw [if_pos e]
  exact x_var rfl (h.len (x_var rfl (x_eqI (fg0 q))))
/-! ### names -/
def letters : List Nat := ("abcdefghijklmnopqrstuvwxyz" : Str).cps.toList
def isNm (z : Str) : Bool := decide (0 < z.length) && (decide (z.length < 9) && z.cps.toList.all fun c => decide (c ∈ letters))
theorem lcMap {T : Tgt} {we : WE} {vs : List Nat} {δ : DEnv} {G1 : DH} {S : DH → Prop} {items : List D} {Q : DK} (f : D → D) (hS : ∀ G', Sub G1 G' → S G') (hl : items.length ≤ sizeLine)
    (step : ∀ (i : Nat) (x : D) (G' : DH) (Y : DK), items[i]? = some x → Sub G1 G' → (∀ G3, Sub G' G3 → Y (f x) G3) → ∃ δ2, asg G' T x (wipeD δ vs) = some δ2 ∧ we δ2 G' Y)
    (fin : ∀ p G', G1.ob p = none → Sub (G1.put p (.lst true (items.map f))) G' → Q (.ref p) G') : LcBody T (fun _ G Q => Q true G) we vs δ Q S items G1 := by
  refine lcI (fun x => some (f x)) hS hl (fun i x G' N Y hx s hn hy => ?_) (fun p G' hp s => fin p G' hp (by rw [← List.filterMap_eq_map]; exact s))
  obtain ⟨δ2, e, h⟩ := step i x G' Y hx s fun G3 s3 => hy (f x) G3 s3 rfl
  exact ⟨δ2, e, itT h⟩
theorem x_lc {wi : WI} {T : Tgt} {wt : WT} {we : WE} {vs : List Nat} {δ : DEnv} (h : wi δ G fun S items G1 => LcBody T wt we vs δ Q S items G1) : wLC wi T wt we vs δ G Q := h
theorem x_dc {wi : WI} {T : Tgt} {wt : WT} {wk wv : WE} {vs : List Nat} {δ : DEnv} (h : wi δ G fun S items G1 => DcBody T wt wk wv vs δ Q S items G1) : wDC wi T wt wk wv vs δ G Q := h
theorem x_wiE {w : WE} {δ : DEnv} {R : (DH → Prop) → List D → DH → Prop} (h : w δ G fun x G1 => WalkD x G1 R) : wiE w δ G R := h
theorem dIn_sign {c : Nat} (q : Q (.bl (decide (c ∈ z.cps.toList))) G) : dIn (.str ⟨#[c]⟩) (.str z) G Q := .inl (.inl ⟨c, z, rfl, rfl, by rw [Bool.false_xor]; exact q⟩)
theorem sizeBig {n : Nat} (h : n ≤ 1000000) : n ≤ sizeLine := by rw [sizeLine_eq]; omega
theorem t_is_name (hz : z.length ≤ 1000000) (q : Q (.bl (isNm z)) G) : sp_is_name K [.str z] G Q E := by
  refine wSp_mk rfl ?_
  unfold w_is_name
  dsimp only [wSeq, wSetIx, wOp, wC, wB, wIfS, wAsg, wCB, wCons, wNil, wRet, wRetN, wAnd, wOr, wNot, wAndV, wOrV, wNotV, wIf, wTup, wLst, wBM, wNext, wExpr, wUn, wChain, wCall, wSl, wPart, wNoPart, wNever, wLkS, wStar, wStarItems, wListItems, wSumVals, wFld, wSetFld, wMake, wMeth, wCallK, wDisp, wEmp, wPairs, wLk, wBreak, wCont, asg, asgs]
  refine x_var rfl (x_isi (T := "str") rfl (by decide) ⟨true, rfl, itT ?_⟩)
  refine x_var rfl (x_lenS (sizeBig hz) (x_ltI ⟨_, rfl, ?_⟩))
  by_cases h0 : 0 < z.length
  · have h0' : (0 : Int) < (z.length : Nat) := by omega
    rw [if_pos (decide_eq_true h0')]
    refine x_ltI ⟨_, rfl, ?_⟩
    by_cases h9 : z.length < 9
    · have h9' : ((z.length : Nat) : Int) < 9 := by omega
      rw [if_pos (decide_eq_true h9')]
      refine x_lc (x_wiE (x_var rfl (Or.inr (Or.inr (Or.inl ⟨z, rfl, ?_⟩)))))
      refine lcMap (fun x => match x with
        | .str w => .bl (decide (w.cps.getD 0 0 ∈ letters))
        | _ => .non) (fun _ _ => trivial) (by unfold sgn; rw [List.length_map]; exact sizeBig hz) (fun i x G' Y hx s hy => ?_) (fun p G' hp s => ?_)
      · unfold sgn at hx
        rw [List.getElem?_map] at hx
        obtain ⟨c, _, e⟩ := Option.map_eq_some_iff.mp hx
        subst e
        exact ⟨_, rfl, x_var rfl (dIn_sign (hy G' (Sub.refl G')))⟩
      · refine ⟨p, z.cps.toList.map fun c => decide (c ∈ letters), rfl, ⟨true, ?_⟩, ?_⟩
        · rw [s.ob p _ DH.put_same]
          unfold sgn
          rw [List.map_map, List.map_map]
          rfl
        · refine fgI (((Sub.refl G).new hp).trans s) ?_
          have e : isNm z = List.all (z.cps.toList.map fun c => decide (c ∈ letters)) id := by
            unfold isNm
            rw [decide_eq_true h0, decide_eq_true h9, Bool.true_and, Bool.true_and, List.all_map]
            rfl
          rw [← e]; exact q
    · have h9' : ¬ ((z.length : Nat) : Int) < 9 := by omega
      rw [if_neg (by simpa using h9')]
      refine fg0 ?_
      have e : isNm z = false := by
        unfold isNm
        rw [decide_eq_false h9]; simp
      rw [e] at q
      simpa [h9'] using q
  · have h0' : ¬ (0 : Int) < (z.length : Nat) := by omega
    rw [if_neg (by simpa using h0')]
    refine ⟨false, rfl, itF (fg0 ?_)⟩
    have e : isNm z = false := by
      unfold isNm
      rw [decide_eq_false h0]; simp
    rw [e] at q
    exact q
end
end Q7

namespace Q7
open PySem PySem.Spec PyProof.Rows L2
/-! ### rows -/
section
variable {K : PySem.W.Frag} {G G' : DH} {Q : DK} {E : DX} {x y : D} {ds es : List D}
theorem unp_sub (s : Sub G G') {x : D} {ds : List D} (h : unp G x = some ds) : unp G' x = some ds := by
  cases x with
  | tup es => exact h
  | ref a =>
    obtain ⟨w, hg⟩ := unp_ref h
    show (match G'.ob a with
      | some (.lst _ ds) => some ds
      | _ => none) = some ds
    rw [s.ob a _ hg]
  | non => cases h
  | bl _ => cases h
  | int _ => cases h
  | str _ => cases h
  | ty _ => cases h
theorem seq_unp (h : unp G x = some ds) : SeqD x ds G := by
  cases x with
  | tup es => exact .inr (by rw [Option.some.inj (show some es = some ds from h)])
  | ref a =>
    obtain ⟨w, hg⟩ := unp_ref h
    exact .inl ⟨a, w, rfl, hg⟩
  | non => cases h
  | bl _ => cases h
  | int _ => cases h
  | str _ => cases h
  | ty _ => cases h
def rowOf (G : DH) (d : D) : Option (Str × Int) := match unp G d with
  | some [.str g, .int v] => some (g, v)
  | _ => none
theorem rowOf_unp {d : D} {p : Str × Int} (h : rowOf G d = some p) : unp G d = some [.str p.1, .int p.2] := by
  unfold rowOf at h
  split at h
  · rename_i g v e
    cases h
    exact e
  · cases h
theorem rowOf_of {d : D} {p : Str × Int} (h : unp G d = some [.str p.1, .int p.2]) : rowOf G d = some p := by
  unfold rowOf
  rw [h]
theorem rowOf_sub (s : Sub G G') {d : D} {p : Str × Int} (h : rowOf G d = some p) : rowOf G' d = some p := rowOf_of (unp_sub s (rowOf_unp h))
def RowsD (ds : List D) (ws : List (Str × Int)) (G : DH) : Prop := ds.map (rowOf G) = ws.map some
theorem RowsD.length {ws : List (Str × Int)} (h : RowsD ds ws G) : ds.length = ws.length := by
  have := congrArg List.length h
  rwa [List.length_map, List.length_map] at this
theorem RowsD.at {ws : List (Str × Int)} (h : RowsD ds ws G) {i : Nat} {d : D} (e : ds[i]? = some d) : ∃ p, ws[i]? = some p ∧ rowOf G d = some p := by
  have := congrArg (·[i]?) h
  simp only [List.getElem?_map, e, Option.map_some] at this
  cases hw : ws[i]? with
  | none => rw [hw] at this; cases this
  | some p =>
    rw [hw] at this
    exact ⟨p, rfl, Option.some.inj this⟩
theorem RowsD.sub {ws : List (Str × Int)} (s : Sub G G') (h : RowsD ds ws G) : RowsD ds ws G' := by
  apply List.ext_getElem?
  intro i
  rw [List.getElem?_map, List.getElem?_map]
  cases e : ds[i]? with
  | none =>
    have hl := h.length
    rw [List.getElem?_eq_none (by rw [← hl]; exact List.getElem?_eq_none_iff.mp e)]
    rfl
  | some d =>
    obtain ⟨p, hp, hr⟩ := h.at e
    rw [hp]
    show some (rowOf G' d) = some (some p)
    rw [rowOf_sub s hr]
theorem asg2 {i j : Nat} {a b : D} {δ : DEnv} (h : unp G x = some [a, b]) : asg G (.tp [.nm i, .nm j]) x δ = some ((δ.set i (some a)).set j (some b)) := by
  unfold asg
  rw [h]
  rfl
theorem putA_new {κ β : Type} [DecidableEq κ] {kvs : List (κ × β)} {k : κ} {v : β} (h : k ∉ kvs.map (·.1)) : putA kvs k v = kvs ++ [(k, v)] := by
  unfold putA
  rw [if_neg]
  intro z
  obtain ⟨p, hp, e⟩ := List.any_eq_true.mp z
  exact h (List.mem_map.mpr ⟨p, hp, of_decide_eq_true e⟩)
theorem foldA_app {κ β : Type} [DecidableEq κ] : ∀ (xs acc : List (κ × β)), ((acc ++ xs).map (·.1)).Nodup → xs.foldl (fun acc kv => putA acc kv.1 kv.2) acc = acc ++ xs
  | [], acc, _ => by simp
  | x :: xs, acc, h => by
    have h1 : x.1 ∉ acc.map (·.1) := by
      intro z
      rw [List.map_append, List.map_cons] at h
      have := (List.nodup_append.mp h).2.2 x.1 z x.1 (List.mem_cons_self)
      exact this rfl
    rw [List.foldl_cons, putA_new h1]
    have h2 : (((acc ++ [(x.1, x.2)]) ++ xs).map (·.1)).Nodup := by
      rw [List.append_assoc]; exact h
    rw [foldA_app xs _ h2, List.append_assoc]
    rfl
theorem foldA_nodup {κ β : Type} [DecidableEq κ] {xs : List (κ × β)} (h : (xs.map (·.1)).Nodup) : xs.foldl (fun acc kv => putA acc kv.1 kv.2) [] = xs := by
  have := foldA_app xs [] (by simpa using h)
  simpa using this
theorem valA_some {κ β : Type} [DecidableEq κ] {kvs : List (κ × β)} {k : κ} : (valA kvs k).isSome = decide (k ∈ kvs.map (·.1)) := by
  unfold valA
  rw [Option.isSome_map, Bool.eq_iff_iff, List.find?_isSome]
  simp only [List.mem_map, decide_eq_true_eq]
theorem valA_none {κ β : Type} [DecidableEq κ] {kvs : List (κ × β)} {k : κ} (h : k ∉ kvs.map (·.1)) : valA kvs k = none := by
  have e := valA_some (kvs := kvs) (k := k)
  rw [decide_eq_false h] at e
  cases q : valA kvs k with
  | none => rfl
  | some v => rw [q] at e; cases e
theorem valA_mem {κ β : Type} [DecidableEq κ] : ∀ {kvs : List (κ × β)} {k : κ} {v : β}, (kvs.map (·.1)).Nodup → (k, v) ∈ kvs → valA kvs k = some v
  | [], _, _, _, h => by cases h
  | p :: kvs, k, v, nd, h => by
    have nd' := List.nodup_cons.mp nd
    unfold valA
    rw [List.find?_cons]
    rcases List.mem_cons.mp h with e | h
    · subst e
      simp
    · have hk : p.1 ≠ k := fun z => nd'.1 (List.mem_map.mpr ⟨_, h, z.symm⟩)
      have := valA_mem nd'.2 h
      unfold valA at this
      simp [hk, this]
abbrev W := List (Str × Int)
def wd (ws : W) : List (Key × D) := ws.map fun p => (Sum.inr p.1, D.int p.2)
theorem wd_keys (ws : W) : (wd ws).map (·.1) = ws.map fun p => Sum.inr p.1 := by unfold wd; rw [List.map_map]; rfl
theorem wd_nodup {ws : W} (h : (ws.map (·.1)).Nodup) : ((wd ws).map (·.1)).Nodup := by
  rw [wd_keys]
  have e : (ws.map fun p => (Sum.inr p.1 : Key)) = (ws.map (·.1)).map Sum.inr := by rw [List.map_map]; rfl
  rw [e]
  exact List.Pairwise.map _ (fun a b h z => h (by cases z; rfl)) h
theorem wd_val {ws : W} (h : (ws.map (·.1)).Nodup) {g : Str} {n : Int} (m : (g, n) ∈ ws) : valA (wd ws) (Sum.inr g) = some (.int n) := valA_mem (wd_nodup h) (List.mem_map.mpr ⟨_, m, rfl⟩)
structure WOk (ws : W) : Prop where
  nm : ∀ p ∈ ws, isNm p.1 = true
  nn : ∀ p ∈ ws, 0 ≤ p.2
  nd : (ws.map (·.1)).Nodup
  few : ws.length ≤ 60
theorem isNm_len {z : Str} (h : isNm z = true) : z.length ≤ 1000000 := by
  unfold isNm at h
  rw [Bool.and_eq_true, Bool.and_eq_true] at h
  have := of_decide_eq_true h.2.1
  omega
theorem x_for {wi : WI} {T : Tgt} {body : WS} {δ : DEnv} {EE : DEnds} (h : wi δ G fun S items G1 => ∃ I : Nat → DEnv → DH → Prop, I 0 δ G1 ∧ (∀ i δ' G', I i δ' G' → S G') ∧
  (∀ (i : Nat) (x : D) δ' G', items[i]? = some x → I i δ' G' → ∃ δ2, asg G' T x δ' = some δ2 ∧ body { nx := I (i + 1), ct := I (i + 1), bk := EE.nx, rt := EE.rt } δ2 G') ∧ (∀ δ' G', I items.length δ' G' → EE.nx δ' G')) : wFor wi T body EE δ G := h
theorem enumD_at {i : Nat} {d : D} (h : (enumD ds)[i]? = some d) : ∃ e, ds[i]? = some e ∧ d = .tup [.int i, e] := by
  unfold enumD at h
  rw [List.getElem?_map] at h
  obtain ⟨j, hj, e⟩ := Option.map_eq_some_iff.mp h
  have hlt : i < ds.length := by
    have := (List.getElem?_eq_some_iff.mp hj).1
    rwa [List.length_range] at this
  rw [List.getElem?_range hlt] at hj
  cases hj
  refine ⟨ds[i], List.getElem?_eq_getElem hlt, ?_⟩
  rw [← e]
  simp [hlt]
theorem enumD_len : (enumD ds).length = ds.length := by unfold enumD; simp
theorem t_first_bad_row {rows : D} {ws : W} (h : SeqD rows ds G) (hr : RowsD ds ws G) (ok : WOk ws) (q : Q .non G) : sp_first_bad_row K [rows] G Q E := by
  refine wSp_mk rfl ?_
  unfold w_first_bad_row
  dsimp only [wSeq, wSetIx, wOp, wC, wB, wIfS, wAsg, wCB, wCons, wNil, wRet, wRetN, wAnd, wOr, wNot, wAndV, wOrV, wNotV, wIf, wTup, wLst, wBM, wNext, wExpr, wUn, wChain, wCall, wSl, wPart, wNoPart, wNever, wLkS, wStar, wStarItems, wListItems, wSumVals, wFld, wSetFld, wMake, wMeth, wCallK, wDisp, wEmp, wPairs, wLk, wBreak, wCont, asg, asgs]
  intro kd hkd
  refine Or.inl ?_
  refine ⟨_, rfl, ?_⟩
  have h' : SeqD rows ds (G.put kd (.dct true [])) := h.sub ((Sub.refl G).new hkd)
  obtain ⟨T, hT, eT⟩ := h'.ty
  refine x_var rfl (t_is_list hT ⟨_, rfl, ?_⟩)
  rw [eT]
  refine itF ?_
  have h0 : Sub G (G.put kd (.dct true [])) := (Sub.refl G).new hkd
  refine x_for (x_wiEnum ?_)
  dsimp only [wSeq, wSetIx, wOp, wC, wB, wIfS, wAsg, wCB, wCons, wNil, wRet, wRetN, wAnd, wOr, wNot, wAndV, wOrV, wNotV, wIf, wTup, wLst, wBM, wNext, wExpr, wUn, wChain, wCall, wSl, wPart, wNoPart, wNever, wLkS, wStar, wStarItems, wListItems, wSumVals, wFld, wSetFld, wMake, wMeth, wCallK, wDisp, wEmp, wPairs, wLk, wBreak, wCont, asg, asgs]
  refine x_var rfl (h.enum h0 fun S hS => ?_)
  refine ⟨fun i δ' G' => ∃ kvs a b, δ' = [some rows, some (.ref kd), a, b] ∧ Sub (G.put kd (.dct true kvs)) G' ∧ kvs.map (·.1) = (ws.take i).map fun p => Sum.inr p.1, ⟨[], none, none, rfl, Sub.refl _, rfl⟩, ?_, ?_, ?_⟩
  · rintro i δ' G' ⟨kvs, a, b, _, s, _⟩
    exact hS G' (((Sub.refl G).new hkd).trans s)
  · rintro i x δ' G' hx ⟨kvs, a, b, rfl, s, hk⟩
    obtain ⟨row, hrow, rfl⟩ := enumD_at hx
    refine ⟨_, rfl, ?_⟩
    obtain ⟨p, hp, hpr⟩ := hr.at hrow
    have sG : Sub G G' := ((Sub.refl G).new hkd).trans s
    have hs : SeqD row [.str p.1, .int p.2] G' := seq_unp (unp_sub sG (rowOf_unp hpr))
    have hpm : p ∈ ws := List.mem_of_getElem? hp
    dsimp only [wSeq, wSetIx, wOp, wC, wB, wIfS, wAsg, wCB, wCons, wNil, wRet, wRetN, wAnd, wOr, wNot, wAndV, wOrV, wNotV, wIf, wTup, wLst, wBM, wNext, wExpr, wUn, wChain, wCall, wSl, wPart, wNoPart, wNever, wLkS, wStar, wStarItems, wListItems, wSumVals, wFld, wSetFld, wMake, wMeth, wCallK, wDisp, wEmp, wPairs, wLk, wBreak, wCont, asg, asgs]
    refine x_var rfl (t_is_row hs ⟨_, rfl, ?_⟩)
    refine itF ?_
    refine x_var rfl (hs.ix (i := 0) (v := .str p.1) rfl (t_is_name (isNm_len (ok.nm p hpm)) ⟨_, rfl, ?_⟩))
    rw [ok.nm p hpm]
    refine itF ?_
    refine x_var rfl (hs.ix (i := 1) (v := .int p.2) rfl (t_is_number ⟨_, rfl, ?_⟩))
    rw [decide_eq_true (ok.nn p hpm)]
    refine itF ?_
    refine x_var rfl (hs.ix (i := 0) (v := .str p.1) rfl (x_var rfl (Or.inl (Or.inr (Or.inr ⟨kd, true, kvs, Sum.inr p.1, rfl, s.ob _ _ DH.put_same, rfl, _, rfl, ?_⟩)))))
    have hlt : i < ws.length := (List.getElem?_eq_some_iff.mp hp).1
    have hnk : (Sum.inr p.1 : Key) ∉ kvs.map (·.1) := by
      rw [hk]
      intro h2
      obtain ⟨q', hq', e⟩ := List.mem_map.mp h2
      have e' : q'.1 = p.1 := Sum.inr.inj e
      obtain ⟨j, hj, ej⟩ := List.getElem_of_mem hq'
      rw [List.length_take] at hj
      rw [List.getElem_take] at ej
      have hp' : ws[i] = p := (List.getElem?_eq_some_iff.mp hp).2
      have := (List.pairwise_iff_getElem.mp ok.nd) j i (by rw [List.length_map]; omega) (by rw [List.length_map]; exact hlt) (by omega)
      rw [List.getElem_map, List.getElem_map, hp', ej] at this
      exact this e'
    have hnot := valA_none hnk
    rw [hnot]
    refine itF ?_
    refine x_var rfl (x_var rfl (hs.ix (i := 0) (v := .str p.1) rfl (x_setD (key := Sum.inr p.1) (s.ob _ _ DH.put_same) ?_ ?_)))
    · have h1 := congrArg List.length hk
      rw [List.length_map, List.length_map, List.length_take] at h1
      have := ok.few
      rw [sizeLine_eq]; omega
    · refine ⟨_, _, _, rfl, s.again, ?_⟩
      rw [putA_new hnk, List.map_append, hk, List.take_add_one, hp, List.map_append]
      rfl
  · rintro δ' G' ⟨kvs, a, b, rfl, s, hk⟩
    exact fgI ((((Sub.refl G).new hkd)).trans s) q
end
end Q7

namespace Q7
open PySem PySem.Spec PyProof.Rows L2
/-! ### comprehensions by index -/
section
variable {G1 : DH} {S : DH → Prop} {items : List D} {Q : DK} {T : Tgt} {we wk wv : WE} {vs : List Nat} {δ : DEnv}
theorem lcX (L : List D) (hS : ∀ G', Sub G1 G' → S G') (hl : items.length = L.length) (hz : L.length ≤ 1000000)
    (step : ∀ (i : Nat) (x y : D) (G' : DH) (Y : DK), items[i]? = some x → L[i]? = some y → Sub G1 G' → (∀ G3, Sub G' G3 → Y y G3) → ∃ δ2, asg G' T x (wipeD δ vs) = some δ2 ∧ we δ2 G' Y)
    (fin : ∀ p G', G1.ob p = none → Sub (G1.put p (.lst true L)) G' → Q (.ref p) G') : LcBody T (fun _ G Q => Q true G) we vs δ Q S items G1 := by
  intro p hp
  have s1 : ∀ ds, Sub G1 (G1.put p (.lst true ds)) := fun ds => (Sub.refl G1).new hp
  refine ⟨fun i G' => Sub (G1.put p (.lst true (L.take i))) G', by show Sub _ _; rw [List.take_zero]; exact Sub.refl _, fun i G' h => hS G' ((s1 _).trans h), fun i x G' hx h => ?_, fun G' h => fin p G' hp (by have h' : Sub _ _ := h; rw [hl, List.take_length] at h'; exact h')⟩
  have hlt : i < items.length := (List.getElem?_eq_some_iff.mp hx).1
  have hy : L[i]? = some (L[i]'(by omega)) := List.getElem?_eq_getElem (by omega)
  obtain ⟨δ2, e2, h2⟩ := step i x _ G' (fun y G3 => ∃ acc, G3.ob p = some (.lst true acc) ∧ acc.length < sizeLine ∧ Sub (G1.put p (.lst true (L.take (i + 1)))) (G3.put p (.lst true (acc ++ [y])))) hx hy ((s1 _).trans h) fun G3 s3 => by
    refine ⟨_, s3.ob _ _ (h.ob _ _ DH.put_same), ?_, ?_⟩
    · rw [List.length_take]
      have := sizeBig hz
      omega
    · show Sub (G1.put p (.lst true (L.take (i + 1)))) _
      rw [List.take_add_one, hy]
      exact (h.trans s3).again
  exact ⟨δ2, e2, itT h2⟩
theorem dcX (L : List (Key × D)) (hS : ∀ G', Sub G1 G' → S G') (hl : items.length = L.length) (hz : L.length ≤ 1000000) (nd : (L.map (·.1)).Nodup)
    (step : ∀ (i : Nat) (x : D) (k : Key) (z : D) (G' : DH) (Y : D → D → DH → Prop), items[i]? = some x → L[i]? = some (k, z) → Sub G1 G' → (∀ G3, Sub G' G3 → Y (kD k) z G3) → ∃ δ2, asg G' T x (wipeD δ vs) = some δ2 ∧ wk δ2 G' fun y G3 => wv δ2 G3 fun z G4 => Y y z G4)
    (fin : ∀ p G', G1.ob p = none → Sub (G1.put p (.dct true L)) G' → Q (.ref p) G') : DcBody T (fun _ G Q => Q true G) wk wv vs δ Q S items G1 := by
  intro p hp
  have s1 : ∀ ds, Sub G1 (G1.put p (.dct true ds)) := fun ds => (Sub.refl G1).new hp
  refine ⟨fun i G' => Sub (G1.put p (.dct true (L.take i))) G', by show Sub _ _; rw [List.take_zero]; exact Sub.refl _, fun i G' h => hS G' ((s1 _).trans h), fun i x G' hx h => ?_, fun G' h => fin p G' hp (by have h' : Sub _ _ := h; rw [hl, List.take_length] at h'; exact h')⟩
  have hlt : i < items.length := (List.getElem?_eq_some_iff.mp hx).1
  have hy : L[i]? = some (L[i]'(by omega)) := List.getElem?_eq_getElem (by omega)
  obtain ⟨δ2, e2, h2⟩ := step i x (L[i]'(by omega)).1 (L[i]'(by omega)).2 G' (fun y z G4 => ∃ k acc, y = kD k ∧ G4.ob p = some (.dct true acc) ∧ acc.length < sizeLine ∧ Sub (G1.put p (.dct true (L.take (i + 1)))) (G4.put p (.dct true (putA acc k z)))) hx hy ((s1 _).trans h) fun G3 s3 => by
    refine ⟨_, _, rfl, s3.ob _ _ (h.ob _ _ DH.put_same), ?_, ?_⟩
    · rw [List.length_take]
      have := sizeBig hz
      omega
    · show Sub (G1.put p (.dct true (L.take (i + 1)))) _
      have hnot : (L[i]'(by omega)).1 ∉ (L.take i).map (·.1) := by
        intro z
        obtain ⟨q, hq, e⟩ := List.mem_map.mp z
        obtain ⟨j, hj, ej⟩ := List.getElem_of_mem hq
        rw [List.length_take] at hj
        rw [List.getElem_take] at ej
        have := (List.pairwise_iff_getElem.mp nd) j i (by rw [List.length_map]; omega) (by rw [List.length_map]; omega) (by omega)
        rw [List.getElem_map, List.getElem_map, ej] at this
        exact this e
      rw [putA_new hnot, List.take_add_one, hy]
      exact (h.trans s3).again
  exact ⟨δ2, e2, itT h2⟩
end
/-! ### sorted wants -/
def srtW (ws : W) : W := ws.mergeSort (fun p q => leS p.1 q.1)
theorem srtW_perm (ws : W) : (srtW ws).Perm ws := List.mergeSort_perm _ _
theorem srtW_keys (ws : W) : (srtW ws).map (·.1) = srtS (ws.map (·.1)) := by
  unfold srtW srtS
  exact List.map_mergeSort fun _ _ _ _ => rfl
theorem srtW_nodup {ws : W} (h : (ws.map (·.1)).Nodup) : ((srtW ws).map (·.1)).Nodup := by
  have := (srtW_perm ws).map (·.1)
  exact this.nodup_iff.mpr h
theorem WOk.srt {ws : W} (h : WOk ws) : WOk (srtW ws) := ⟨fun p hp => h.nm p ((srtW_perm ws).mem_iff.mp hp), fun p hp => h.nn p ((srtW_perm ws).mem_iff.mp hp), srtW_nodup h.nd, by rw [(srtW_perm ws).length_eq]; exact h.few⟩
structure PartyAt (K : PySem.W.Frag) (G : DH) (a d : Addr) (ws : W) : Prop where
  p : G.ob a = some (.ins (He.ga K "Party") [("own_wants", .ref d)])
  w : G.ob d = some (.dct false (wd ws))
theorem PartyAt.sub {K : PySem.W.Frag} {G G' : DH} {a d : Addr} {ws : W} (s : Sub G G') (h : PartyAt K G a d ws) : PartyAt K G' a d ws := ⟨s.ob _ _ h.p, s.ob _ _ h.w⟩
section
variable {K : PySem.W.Frag} {G : DH} {Q : DK} {E : DX} {a d : Addr} {ds : List D} {ws : W}
theorem wd_len (ws : W) : (wd ws).length = ws.length := by unfold wd; rw [List.length_map]
theorem wd_at {ws : W} {i : Nat} {k : Key} {z : D} (h : (wd ws)[i]? = some (k, z)) : ∃ p, ws[i]? = some p ∧ k = Sum.inr p.1 ∧ z = .int p.2 := by
  unfold wd at h
  rw [List.getElem?_map] at h
  obtain ⟨p, hp, e⟩ := Option.map_eq_some_iff.mp h
  cases e
  exact ⟨p, hp, rfl, rfl⟩
theorem wd_some {ws : W} {z : Str} : (valA (wd ws) (Sum.inr z)).isSome = decide (z ∈ ws.map (·.1)) := by
  unfold valA wd
  rw [Option.isSome_map, Bool.eq_iff_iff, List.find?_isSome, decide_eq_true_eq]
  constructor
  · rintro ⟨p, hp, e⟩
    obtain ⟨q, hq, e2⟩ := List.mem_map.mp hp
    subst e2
    have e3 := of_decide_eq_true e
    exact List.mem_map.mpr ⟨q, hq, Sum.inr.inj e3⟩
  · intro h
    obtain ⟨q, hq, e2⟩ := List.mem_map.mp h
    exact ⟨_, List.mem_map.mpr ⟨q, hq, rfl⟩, decide_eq_true (by show Sum.inr q.1 = Sum.inr z; rw [e2])⟩
theorem sort_dict {w : Bool} {kvs : List (Key × D)} {ks : List Str} (h : G.ob a = some (.dct w kvs)) (hk : kvs.map (·.1) = ks.map Sum.inr) (hl : ks.length < 64) (q : ∀ p, G.ob p = none → Q (.ref p) (G.put p (.lst true ((srtS ks).map .str)))) : sortD [.ref a] G Q := .inr ⟨a, w, kvs, ks, rfl, h, hk, hl, q⟩
theorem t_init {rows : D} (ha : G.ob a = some (.ins (He.ga K "Party") [])) (h : SeqD rows ds G) (hr : RowsD ds ws G) (ok : WOk ws)
    (q : ∀ d, G.ob d = none → Q .non ((G.put d (.dct false (wd (srtW ws)))).put a (.ins (He.ga K "Party") [("own_wants", .ref d)]))) : sp_m_Party_init K [.ref a, rows] G Q E := by
  refine wSp_mk rfl ?_
  unfold w_m_Party_init
  dsimp only [wSeq, wSetIx, wOp, wC, wB, wIfS, wAsg, wCB, wCons, wNil, wRet, wRetN, wAnd, wOr, wNot, wAndV, wOrV, wNotV, wIf, wTup, wLst, wBM, wNext, wExpr, wUn, wChain, wCall, wSl, wPart, wNoPart, wNever, wLkS, wStar, wStarItems, wListItems, wSumVals, wFld, wSetFld, wMake, wMeth, wCallK, wDisp, wEmp, wPairs, wLk, wBreak, wCont, asg, asgs]
  refine x_var rfl (t_first_bad_row h hr ok ⟨_, rfl, ?_⟩)
  refine x_var rfl (x_notN ⟨_, rfl, itF ?_⟩)
  refine x_dc (x_wiE (x_var rfl (h.walk (Sub.refl G) fun S hS => ?_)))
  refine dcX (wd ws) hS (by rw [wd_len]; exact hr.length) (by rw [wd_len]; have := ok.few; omega) (wd_nodup ok.nd) (fun i x k z G' Y hx hL s hy => ?_) (fun wdp G1 hp s1 => ?_)
  · obtain ⟨p, hp, ek, ez⟩ := wd_at hL
    obtain ⟨p', hp', hpr⟩ := hr.at hx
    rw [hp] at hp'
    cases hp'
    subst ek; subst ez
    refine ⟨_, asg2 (unp_sub s (rowOf_unp hpr)), ?_⟩
    exact x_var rfl (x_var rfl (hy G' (Sub.refl G')))
  refine Or.inl ⟨_, rfl, ?_⟩
  have sG : Sub G G1 := ((Sub.refl G).new hp).trans s1
  have hw1 : G1.ob wdp = some (.dct true (wd ws)) := s1.ob _ _ DH.put_same
  have hfew := ok.few
  refine x_dc (x_wiE ?_)
  dsimp only [wSeq, wSetIx, wOp, wC, wB, wIfS, wAsg, wCB, wCons, wNil, wRet, wRetN, wAnd, wOr, wNot, wAndV, wOrV, wNotV, wIf, wTup, wLst, wBM, wNext, wExpr, wUn, wChain, wCall, wSl, wPart, wNoPart, wNever, wLkS, wStar, wStarItems, wListItems, wSumVals, wFld, wSetFld, wMake, wMeth, wCallK, wDisp, wEmp, wPairs, wLk, wBreak, wCont, asg, asgs]
  refine x_var rfl (sort_dict (ks := ws.map (·.1)) hw1 (by rw [wd_keys, List.map_map]; rfl) (by rw [List.length_map]; omega) fun lp hlp => ?_)
  refine Or.inl ⟨lp, _, rfl, ⟨true, DH.put_same⟩, ?_⟩
  have s2 : Sub G1 (G1.put lp (.lst true ((srtS (ws.map (·.1))).map .str))) := (Sub.refl G1).new hlp
  refine dcX (wd (srtW ws)) (fun G' s => ⟨true, s.ob _ _ DH.put_same⟩) (by rw [wd_len, List.length_map, ← srtW_keys, List.length_map]) (by rw [wd_len, (srtW_perm ws).length_eq]; omega) (wd_nodup (srtW_nodup ok.nd)) (fun i x k z G' Y hx hL s hy => ?_) (fun dp G2 hp2 s3 => ?_)
  · obtain ⟨p, hp', ek, ez⟩ := wd_at hL
    subst ek; subst ez
    rw [List.getElem?_map, ← srtW_keys, List.getElem?_map, hp'] at hx
    have ex : x = .str p.1 := (Option.some.inj hx).symm
    subst ex
    refine ⟨_, rfl, ?_⟩
    refine x_var rfl (x_var rfl (x_var rfl (x_ixD (key := Sum.inr p.1) ((s2.trans s).ob _ _ hw1) (wd_val ok.nd ?_) (hy G' (Sub.refl G')))))
    exact (srtW_perm ws).mem_iff.mp (List.mem_of_getElem? hp')
  refine Or.inr ⟨dp, _, rfl, s3.ob _ _ DH.put_same, ?_⟩
  have hGd : G.ob dp = none := sG.none (s2.none hp2)
  have hda : dp ≠ a := fun z => by subst z; rw [ha] at hGd; cases hGd
  have sA : Sub G G2 := (sG.trans s2).trans (((Sub.refl _).new hp2).trans s3)
  refine x_var rfl ⟨a, [], rfl, ?_, by decide, ?_⟩
  · rw [DH.put_ne hda.symm]
    exact sA.ob _ _ ha
  · refine fgI (Sub.put ?_ a _) (q dp hGd)
    exact Sub.put sA dp _
theorem t_wants (h : PartyAt K G a d ws) (q : ∀ p, G.ob p = none → ∀ w : Bool, Q (.ref p) (G.put p (.dct w (wd ws)))) : sp_m_Party_wants K [.ref a] G Q E := by
  refine wSp_mk rfl ?_
  unfold w_m_Party_wants
  dsimp only [wSeq, wSetIx, wOp, wC, wB, wIfS, wAsg, wCB, wCons, wNil, wRet, wRetN, wAnd, wOr, wNot, wAndV, wOrV, wNotV, wIf, wTup, wLst, wBM, wNext, wExpr, wUn, wChain, wCall, wSl, wPart, wNoPart, wNever, wLkS, wStar, wStarItems, wListItems, wSumVals, wFld, wSetFld, wMake, wMeth, wCallK, wDisp, wEmp, wPairs, wLk, wBreak, wCont, asg, asgs]
  refine x_var rfl ⟨a, _, .ref d, rfl, h.p, rfl, Or.inr ⟨d, _, _, rfl, h.w, fun p hp => Or.inl (fg0 (q p hp true))⟩⟩
theorem t_check_party (kf : KF K) (h : PartyAt K G a d ws) (q : Q .non G) : sp_check_party K [.ref a] G Q E := by
  refine wSp_mk rfl ?_
  unfold w_check_party
  dsimp only [wSeq, wSetIx, wOp, wC, wB, wIfS, wAsg, wCB, wCons, wNil, wRet, wRetN, wAnd, wOr, wNot, wAndV, wOrV, wNotV, wIf, wTup, wLst, wBM, wNext, wExpr, wUn, wChain, wCall, wSl, wPart, wNoPart, wNever, wLkS, wStar, wStarItems, wListItems, wSumVals, wFld, wSetFld, wMake, wMeth, wCallK, wDisp, wEmp, wPairs, wLk, wBreak, wCont, asg, asgs]
  refine x_var rfl (isD_own kf.c kf.i h.p ?_)
  exact ⟨_, rfl, itF (fg0 q)⟩
theorem t_is_guest {z : Str} (h : PartyAt K G a d ws) (q : Q (.bl (decide (z ∈ ws.map (·.1)))) G) : sp_is_guest K [.ref a, .str z] G Q E := by
  refine wSp_mk rfl ?_
  unfold w_is_guest
  dsimp only [wSeq, wSetIx, wOp, wC, wB, wIfS, wAsg, wCB, wCons, wNil, wRet, wRetN, wAnd, wOr, wNot, wAndV, wOrV, wNotV, wIf, wTup, wLst, wBM, wNext, wExpr, wUn, wChain, wCall, wSl, wPart, wNoPart, wNever, wLkS, wStar, wStarItems, wListItems, wSumVals, wFld, wSetFld, wMake, wMeth, wCallK, wDisp, wEmp, wPairs, wLk, wBreak, wCont, asg, asgs]
  refine x_var rfl (x_isi (T := "str") rfl (by decide) ⟨true, rfl, itT ?_⟩)
  refine x_var rfl (x_var rfl ⟨a, _, .ref d, rfl, h.p, rfl, Or.inl (Or.inr (Or.inr ⟨d, _, _, Sum.inr z, rfl, h.w, rfl, fg0 ?_⟩))⟩)
  rw [Bool.false_xor, wd_some]
  exact q
end
end Q7

namespace Q7
open PySem PySem.Spec PyProof.Rows L2
/-! ### hands, webs -/
abbrev Hand := Str × Str
def ltH (p q : Hand) : Bool := if p.1 = q.1 then strLt p.2 q.2 else strLt p.1 q.1
def hD (h : Hand) : D := .tup [.str h.1, .str h.2]
def handOf (G : DH) (d : D) : Option Hand := match unp G d with
  | some [.str a, .str b] => some (a, b)
  | _ => none
theorem handOf_unp {G : DH} {d : D} {p : Hand} (h : handOf G d = some p) : unp G d = some [.str p.1, .str p.2] := by
  unfold handOf at h
  split at h
  · rename_i g v e
    cases h
    exact e
  · cases h
theorem handOf_of {G : DH} {d : D} {p : Hand} (h : unp G d = some [.str p.1, .str p.2]) : handOf G d = some p := by
  unfold handOf
  rw [h]
theorem handOf_sub {G G' : DH} (s : Sub G G') {d : D} {p : Hand} (h : handOf G d = some p) : handOf G' d = some p := handOf_of (unp_sub s (handOf_unp h))
def HandsD (ds : List D) (hs : List Hand) (G : DH) : Prop := ds.map (handOf G) = hs.map some
theorem HandsD.length {ds : List D} {hs : List Hand} {G : DH} (h : HandsD ds hs G) : ds.length = hs.length := by
  have := congrArg List.length h
  rwa [List.length_map, List.length_map] at this
theorem HandsD.at {ds : List D} {hs : List Hand} {G : DH} (h : HandsD ds hs G) {i : Nat} {d : D} (e : ds[i]? = some d) : ∃ p, hs[i]? = some p ∧ handOf G d = some p := by
  have := congrArg (·[i]?) h
  simp only [List.getElem?_map, e, Option.map_some] at this
  cases hw : hs[i]? with
  | none => rw [hw] at this; cases this
  | some p =>
    rw [hw] at this
    exact ⟨p, rfl, Option.some.inj this⟩
theorem HandsD.sub {ds : List D} {hs : List Hand} {G G' : DH} (s : Sub G G') (h : HandsD ds hs G) : HandsD ds hs G' := by
  apply List.ext_getElem?
  intro i
  rw [List.getElem?_map, List.getElem?_map]
  cases e : ds[i]? with
  | none =>
    have hl := h.length
    rw [List.getElem?_eq_none (by rw [← hl]; exact List.getElem?_eq_none_iff.mp e)]
    rfl
  | some d =>
    obtain ⟨p, hp, hr⟩ := h.at e
    rw [hp]
    show some (handOf G' d) = some (some p)
    rw [handOf_sub s hr]
theorem HandsD.tups {hs : List Hand} {G : DH} : HandsD (hs.map hD) hs G := by
  unfold HandsD
  rw [List.map_map]
  rfl
open PySem.W in
theorem dataLt_hh (p q : Hand) : dataLt (.tuple [.str p.1, .str p.2]) (.tuple [.str q.1, .str q.2]) = ltH p q := by
  rw [dataLt_pair (by simp [alike]) (by simp [alike]), dataLt_str, dataLt_str]
  have e : ∀ a b : Str, PyData.eqv (.str a) (.str b) = decide (a = b) := fun a b => by
    simp only [PyData.eqv]
    exact (Bool.beq_eq_decide_eq a b) 
  rw [e, e]
  unfold ltH strLt
  by_cases h1 : p.1 = q.1
  · rw [if_pos (decide_eq_true h1), if_pos h1]
    by_cases h2 : p.2 = q.2
    · rw [if_pos (decide_eq_true h2), h2]
      exact (decide_eq_false (List.lt_irrefl _)).symm
    · rw [if_neg (by simpa using h2)]
  · rw [if_neg (by simpa using h1), if_neg h1]
open PySem.W in
theorem x_ltH {G : DH} {Q : DK} {p q : Hand} (h : Q (.bl (ltH p q)) G) : dLtA (hD p) (hD q) G Q := by
  refine .inr ⟨.tuple [.str p.1, .str p.2], .tuple [.str q.1, .str q.2], DT.of (hD p) rfl, DT.of (hD q) rfl, by simp [alike, alikeAll], fun z => (nomatch z), ?_, ?_⟩
  · have : (PyData.tuple [.str p.1, .str p.2]).depth ≤ 64 := by simp [PyData.depth, PyData.depthAll]
    omega
  · rw [dataLt_hh]; exact h
theorem cut_from {β : Type} (xs : List β) (k : Nat) : cutA xs (some (k : Int)) none = xs.drop k := by
  unfold cutA
  rw [HT.sIx_nat, HT.sIx_none]
  have e : xs.drop (min k xs.length) = xs.drop k := by
    by_cases h : k ≤ xs.length
    · rw [Nat.min_eq_left h]
    · rw [Nat.min_eq_right (by omega), List.drop_length, List.drop_eq_nil_of_le (by omega)]
  rw [e]
  exact List.take_of_length_le (by rw [List.length_drop]; omega)
theorem cut_to {β : Type} (xs : List β) (k : Nat) : cutA xs none (some (k : Int)) = xs.take k := by
  unfold cutA
  rw [HT.sIx_nat, HT.sIx_none, List.drop_zero, Nat.sub_zero]
  by_cases h : k ≤ xs.length
  · rw [Nat.min_eq_left h]
  · rw [Nat.min_eq_right (by omega), List.take_length, List.take_of_length_le (by omega)]
def adjH : List Hand → Bool
  | p :: q :: r => ltH p q && adjH (q :: r)
  | _ => true
theorem adjH_of {hs : List Hand} (h : hs.Pairwise (fun p q => ltH p q = true)) : adjH hs = true := by
  induction hs with
  | nil => rfl
  | cons p r ih =>
    cases r with
    | nil => rfl
    | cons q r =>
      obtain ⟨h1, h2⟩ := List.pairwise_cons.mp h
      show (ltH p q && adjH (q :: r)) = true
      rw [h1 q List.mem_cons_self, ih h2]; rfl
theorem adjH_zip : ∀ hs : List Hand, ((hs.zip (hs.drop 1)).map fun p => ltH p.1 p.2).all id = adjH hs
  | [] => rfl
  | [_] => rfl
  | p :: q :: r => by
    have ih := adjH_zip (q :: r)
    show (ltH p q && (((q :: r).zip ((q :: r).drop 1)).map fun p => ltH p.1 p.2).all id) = (ltH p q && adjH (q :: r))
    rw [ih]
section
variable {K : PySem.W.Frag} {G : DH} {Q : DK} {E : DX} {a d : Addr} {ds : List D} {ws : W} {x : D}
theorem x_wiZip {wsA : WA} {δ : DEnv} {R : (DH → Prop) → List D → DH → Prop} (h : wsA δ G fun xs G1 => (∃ a b ds es, xs = [.ref a, .ref b] ∧ LstAt a ds G1 ∧ LstAt b es G1 ∧ R (fun G => LstAt a ds G ∧ LstAt b es G) (zipD ds es) G1) ∨ ∃ ds es, xs = [.tup ds, .tup es] ∧ R Tru (zipD ds es) G1) : wiZip wsA δ G R := h
theorem t_is_rising {w : Bool} {hs : List Hand} (h : G.ob a = some (.lst w (hs.map hD))) (hl : hs.length ≤ 100000) (q : Q (.bl (adjH hs)) G) : sp_is_rising K [.ref a] G Q E := by
  refine wSp_mk rfl ?_
  unfold w_is_rising
  dsimp only [wSeq, wSetIx, wOp, wC, wB, wIfS, wAsg, wCB, wCons, wNil, wRet, wRetN, wAnd, wOr, wNot, wAndV, wOrV, wNotV, wIf, wTup, wLst, wBM, wNext, wExpr, wUn, wChain, wCall, wSl, wPart, wNoPart, wNever, wLkS, wStar, wStarItems, wListItems, wSumVals, wFld, wSetFld, wMake, wMeth, wCallK, wDisp, wEmp, wPairs, wLk, wBreak, wCont, asg, asgs]
  refine x_lc (x_wiZip ?_)
  dsimp only [wSeq, wSetIx, wOp, wC, wB, wIfS, wAsg, wCB, wCons, wNil, wRet, wRetN, wAnd, wOr, wNot, wAndV, wOrV, wNotV, wIf, wTup, wLst, wBM, wNext, wExpr, wUn, wChain, wCall, wSl, wPart, wNoPart, wNever, wLkS, wStar, wStarItems, wListItems, wSumVals, wFld, wSetFld, wMake, wMeth, wCallK, wDisp, wEmp, wPairs, wLk, wBreak, wCont, asg, asgs]
  refine x_var rfl (x_var rfl ⟨1, rfl, Or.inl ⟨a, _, rfl, ⟨w, h⟩, fun p hp => ?_⟩⟩)
  have hcut : cutA (hs.map hD) (some 1) none = (hs.drop 1).map hD := by
    rw [List.map_drop]
    exact cut_from _ 1
  rw [hcut]
  have s0 : Sub G (G.put p (.lst true ((hs.drop 1).map hD))) := (Sub.refl G).new hp
  refine Or.inl ⟨a, p, _, _, rfl, ⟨w, s0.ob _ _ h⟩, ⟨true, DH.put_same⟩, ?_⟩
  refine lcX ((hs.zip (hs.drop 1)).map fun p => .bl (ltH p.1 p.2)) (fun G' s => ⟨⟨w, s.ob _ _ (s0.ob _ _ h)⟩, ⟨true, s.ob _ _ DH.put_same⟩⟩) ?_ ?_ (fun i x y G' Y hx hy s hY => ?_) (fun lp G1 hlp s1 => ?_)
  · unfold zipD; simp
  · simp; omega
  · unfold zipD at hx
    rw [List.getElem?_map] at hx hy
    obtain ⟨pr, hpr, e⟩ := Option.map_eq_some_iff.mp hy
    subst e
    obtain ⟨px, hpx, e⟩ := Option.map_eq_some_iff.mp hx
    subst e
    rw [List.zip_map, List.getElem?_map, hpr] at hpx
    cases hpx
    refine ⟨_, rfl, ?_⟩
    exact x_var rfl (x_var rfl (x_ltH (hY G' (Sub.refl G'))))
  · refine ⟨lp, (hs.zip (hs.drop 1)).map fun p => ltH p.1 p.2, rfl, ⟨true, ?_⟩, ?_⟩
    · rw [s1.ob _ _ DH.put_same, List.map_map]; rfl
    · rw [adjH_zip]
      exact fgI ((s0.trans ((Sub.refl _).new hlp)).trans s1) q
theorem t_is_hand {p : Hand} (h : PartyAt K G a d ws) (hx : handOf G x = some p) (h1 : p.1 ∈ ws.map (·.1)) (h2 : p.2 ∈ ws.map (·.1)) (q : Q (.bl (strLt p.1 p.2)) G) : sp_is_hand K [.ref a, x] G Q E := by
  refine wSp_mk rfl ?_
  unfold w_is_hand
  dsimp only [wSeq, wSetIx, wOp, wC, wB, wIfS, wAsg, wCB, wCons, wNil, wRet, wRetN, wAnd, wOr, wNot, wAndV, wOrV, wNotV, wIf, wTup, wLst, wBM, wNext, wExpr, wUn, wChain, wCall, wSl, wPart, wNoPart, wNever, wLkS, wStar, wStarItems, wListItems, wSumVals, wFld, wSetFld, wMake, wMeth, wCallK, wDisp, wEmp, wPairs, wLk, wBreak, wCont, asg, asgs]
  have hs := seq_unp (handOf_unp hx)
  refine x_var rfl (t_is_row hs ⟨true, by simp, itT ?_⟩)
  refine x_lc (x_wiE (x_var rfl (hs.walk (Sub.refl G) fun S hS => ?_)))
  refine lcX [.bl true, .bl true] hS rfl (by decide) (fun i x y G' Y hx hy s hY => ?_) (fun lp G1 hlp s1 => ?_)
  · match i, hx, hy with
    | 0, hx, hy =>
      have e1 : x = .str p.1 := (Option.some.inj hx).symm
      have e2 : y = .bl true := (Option.some.inj hy).symm
      subst e1; subst e2
      refine ⟨_, rfl, ?_⟩
      dsimp only [wSeq, wSetIx, wOp, wC, wB, wIfS, wAsg, wCB, wCons, wNil, wRet, wRetN, wAnd, wOr, wNot, wAndV, wOrV, wNotV, wIf, wTup, wLst, wBM, wNext, wExpr, wUn, wChain, wCall, wSl, wPart, wNoPart, wNever, wLkS, wStar, wStarItems, wListItems, wSumVals, wFld, wSetFld, wMake, wMeth, wCallK, wDisp, wEmp, wPairs, wLk, wBreak, wCont, asg, asgs]
      refine x_var rfl (x_var rfl (t_is_guest (h.sub s) ?_))
      rw [decide_eq_true h1]
      exact hY G' (Sub.refl G')
    | 1, hx, hy =>
      have e1 : x = .str p.2 := (Option.some.inj hx).symm
      have e2 : y = .bl true := (Option.some.inj hy).symm
      subst e1; subst e2
      refine ⟨_, rfl, ?_⟩
      dsimp only [wSeq, wSetIx, wOp, wC, wB, wIfS, wAsg, wCB, wCons, wNil, wRet, wRetN, wAnd, wOr, wNot, wAndV, wOrV, wNotV, wIf, wTup, wLst, wBM, wNext, wExpr, wUn, wChain, wCall, wSl, wPart, wNoPart, wNever, wLkS, wStar, wStarItems, wListItems, wSumVals, wFld, wSetFld, wMake, wMeth, wCallK, wDisp, wEmp, wPairs, wLk, wBreak, wCont, asg, asgs]
      refine x_var rfl (x_var rfl (t_is_guest (h.sub s) ?_))
      rw [decide_eq_true h2]
      exact hY G' (Sub.refl G')
    | i + 2, hx, hy => simp at hx
  · have sG : Sub G G1 := ((Sub.refl G).new hlp).trans s1
    refine ⟨lp, [true, true], rfl, ⟨true, s1.ob _ _ DH.put_same⟩, true, rfl, itT ?_⟩
    have hs1 := hs.sub sG
    refine x_var rfl (hs1.ix (i := 0) (v := .str p.1) rfl (x_var rfl (hs1.ix (i := 1) (v := .str p.2) rfl (x_ltS (fgI sG q)))))
structure WebOk (ks : List Str) (hs : List Hand) : Prop where
  i : ∀ h ∈ hs, h.1 ∈ ks ∧ h.2 ∈ ks ∧ strLt h.1 h.2 = true
  r : hs.Pairwise (fun p q => ltH p q = true)
  few : hs.length ≤ 10000
theorem t_is_web_of {hs : List Hand} (h : PartyAt K G a d ws) (hx : SeqD x ds G) (hd : HandsD ds hs G) (ok : WebOk (ws.map (·.1)) hs) (q : Q (.bl true) G) : sp_is_web_of K [.ref a, x] G Q E := by
  refine wSp_mk rfl ?_
  unfold w_is_web_of
  dsimp only [wSeq, wSetIx, wOp, wC, wB, wIfS, wAsg, wCB, wCons, wNil, wRet, wRetN, wAnd, wOr, wNot, wAndV, wOrV, wNotV, wIf, wTup, wLst, wBM, wNext, wExpr, wUn, wChain, wCall, wSl, wPart, wNoPart, wNever, wLkS, wStar, wStarItems, wListItems, wSumVals, wFld, wSetFld, wMake, wMeth, wCallK, wDisp, wEmp, wPairs, wLk, wBreak, wCont, asg, asgs]
  obtain ⟨T, hT, eT⟩ := hx.ty
  have hlen := hd.length
  have hfew := ok.few
  refine x_var rfl (t_is_list hT ⟨_, rfl, ?_⟩)
  rw [eT]
  refine itF ?_
  refine x_lc (x_wiE (x_var rfl (hx.walk (Sub.refl G) fun S hS => ?_)))
  refine lcX (hs.map fun _ => .bl true) hS (by rw [List.length_map]; exact hlen) (by rw [List.length_map]; omega) (fun i x y G' Y hx hy s hY => ?_) (fun lp G1 hlp s1 => ?_)
  · obtain ⟨p, hp, hpr⟩ := hd.at hx
    rw [List.getElem?_map, hp] at hy
    have e2 : y = .bl true := (Option.some.inj hy).symm
    subst e2
    obtain ⟨k1, k2, k3⟩ := ok.i p (List.mem_of_getElem? hp)
    refine ⟨_, rfl, ?_⟩
    dsimp only [wSeq, wSetIx, wOp, wC, wB, wIfS, wAsg, wCB, wCons, wNil, wRet, wRetN, wAnd, wOr, wNot, wAndV, wOrV, wNotV, wIf, wTup, wLst, wBM, wNext, wExpr, wUn, wChain, wCall, wSl, wPart, wNoPart, wNever, wLkS, wStar, wStarItems, wListItems, wSumVals, wFld, wSetFld, wMake, wMeth, wCallK, wDisp, wEmp, wPairs, wLk, wBreak, wCont, asg, asgs]
    refine x_var rfl (x_var rfl (t_is_hand (h.sub s) (handOf_sub s hpr) k1 k2 ?_))
    rw [k3]
    exact hY G' (Sub.refl G')
  · have sG : Sub G G1 := ((Sub.refl G).new hlp).trans s1
    refine ⟨lp, hs.map fun _ => true, rfl, ⟨true, ?_⟩, ?_⟩
    · rw [s1.ob _ _ DH.put_same, List.map_map]; rfl
    have eall : List.all (hs.map fun _ => true) id = true := by simp
    rw [eall]
    refine ⟨true, rfl, ?_⟩
    refine itF ?_
    refine x_lc (x_wiE (x_var rfl ((hx.sub sG).walk (Sub.refl G1) fun S hS => ?_)))
    refine lcX (hs.map hD) hS (by rw [List.length_map]; exact hlen) (by rw [List.length_map]; omega) (fun i x y G' Y hx hy s hY => ?_) (fun lp2 G2 hlp2 s2 => ?_)
    · obtain ⟨p, hp, hpr⟩ := hd.at hx
      rw [List.getElem?_map, hp] at hy
      have e2 : y = hD p := (Option.some.inj hy).symm
      subst e2
      refine ⟨_, rfl, ?_⟩
      dsimp only [wSeq, wSetIx, wOp, wC, wB, wIfS, wAsg, wCB, wCons, wNil, wRet, wRetN, wAnd, wOr, wNot, wAndV, wOrV, wNotV, wIf, wTup, wLst, wBM, wNext, wExpr, wUn, wChain, wCall, wSl, wPart, wNoPart, wNever, wLkS, wStar, wStarItems, wListItems, wSumVals, wFld, wSetFld, wMake, wMeth, wCallK, wDisp, wEmp, wPairs, wLk, wBreak, wCont, asg, asgs]
      exact x_var rfl ((seq_unp (handOf_unp (handOf_sub (sG.trans s) hpr))).tup (hY G' (Sub.refl G')))
    · refine t_is_rising (s2.ob _ _ DH.put_same) (by omega) ?_
      rw [adjH_of ok.r]
      exact fgI ((sG.trans ((Sub.refl _).new hlp2)).trans s2) q
theorem t_check_web {hs : List Hand} (h : PartyAt K G a d ws) (hx : SeqD x ds G) (hd : HandsD ds hs G) (ok : WebOk (ws.map (·.1)) hs) (q : Q .non G) : sp_check_web K [.ref a, x] G Q E := by
  refine wSp_mk rfl ?_
  unfold w_check_web
  dsimp only [wSeq, wSetIx, wOp, wC, wB, wIfS, wAsg, wCB, wCons, wNil, wRet, wRetN, wAnd, wOr, wNot, wAndV, wOrV, wNotV, wIf, wTup, wLst, wBM, wNext, wExpr, wUn, wChain, wCall, wSl, wPart, wNoPart, wNever, wLkS, wStar, wStarItems, wListItems, wSumVals, wFld, wSetFld, wMake, wMeth, wCallK, wDisp, wEmp, wPairs, wLk, wBreak, wCont, asg, asgs]
  refine x_var rfl (x_var rfl (t_is_web_of h hx hd ok ⟨true, rfl, itF (fg0 q)⟩))
end
end Q7

namespace Q7
open PySem PySem.Spec PyProof.Rows L2
/-! ### counts -/
def fd (ks : List Str) (F : Str → Int) : W := ks.map fun g => (g, F g)
theorem fd_keys (ks : List Str) (F : Str → Int) : (fd ks F).map (·.1) = ks := by
  unfold fd
  rw [List.map_map]
  exact List.map_id _
theorem fd_len (ks : List Str) (F : Str → Int) : (fd ks F).length = ks.length := by unfold fd; rw [List.length_map]
theorem fd_congr {ks : List Str} {F F' : Str → Int} (h : ∀ g ∈ ks, F g = F' g) : fd ks F = fd ks F' := List.map_congr_left fun g hg => by rw [h g hg]
theorem put_fd {ks : List Str} {F : Str → Int} {k : Str} {v : Int} (hk : k ∈ ks) : putA (wd (fd ks F)) (Sum.inr k) (.int v) = wd (fd ks fun g => if g = k then v else F g) := by
  unfold putA
  rw [if_pos]
  · unfold wd fd
    rw [List.map_map, List.map_map, List.map_map]
    apply List.map_congr_left
    intro g _
    by_cases h : g = k
    · simp [h]
    · have h' : ¬ (Sum.inr g : Key) = Sum.inr k := fun z => h (Sum.inr.inj z)
      simp [h, h']
  · refine List.any_eq_true.mpr ⟨(Sum.inr k, .int (F k)), ?_, decide_eq_true rfl⟩
    unfold wd fd
    rw [List.map_map]
    exact List.mem_map.mpr ⟨k, hk, rfl⟩
theorem val_fd {F : Str → Int} {k : Str} : ∀ {ks : List Str}, k ∈ ks → valA (wd (fd ks F)) (Sum.inr k) = some (.int (F k))
  | [], h => by cases h
  | g :: ks, h => by
    by_cases e : g = k
    · subst e
      simp [valA, wd, fd]
    · have ih := val_fd (F := F) (ks := ks) (k := k) (by
        rcases List.mem_cons.mp h with z | z
        · exact absurd z.symm e
        · exact z)
      have e' : ¬ (Sum.inr g : Key) = Sum.inr k := fun z => e (Sum.inr.inj z)
      unfold valA at ih ⊢
      show Option.map _ (List.find? _ ((Sum.inr g, D.int (F g)) :: wd (fd ks F))) = _
      rw [List.find?_cons]
      simp only [e', decide_false]
      exact ih
def cnt (hs : List Hand) (g : Str) : Int := (hs.countP (fun h => h.1 == g) : Nat) + (hs.countP (fun h => h.2 == g) : Nat)
theorem cnt_nil (g : Str) : cnt [] g = 0 := rfl
theorem cnt_snoc (hs : List Hand) (h : Hand) (g : Str) : cnt (hs ++ [h]) g = cnt hs g + (if g = h.1 then 1 else 0) + (if g = h.2 then 1 else 0) := by
  unfold cnt
  rw [List.countP_append, List.countP_append]
  have e1 : List.countP (fun h => h.1 == g) [h] = if g = h.1 then 1 else 0 := by
    by_cases e : g = h.1
    · subst e; simp
    · have : ¬ h.1 = g := fun z => e z.symm
      simp [e, this]
  have e2 : List.countP (fun h => h.2 == g) [h] = if g = h.2 then 1 else 0 := by
    by_cases e : g = h.2
    · subst e; simp
    · have : ¬ h.2 = g := fun z => e z.symm
      simp [e, this]
  rw [e1, e2]
  split <;> split <;> omega
theorem cnt_app (hs is : List Hand) (g : Str) : cnt (hs ++ is) g = cnt hs g + cnt is g := by
  unfold cnt
  rw [List.countP_append, List.countP_append]
  omega
theorem cnt_perm {hs is : List Hand} (h : hs.Perm is) (g : Str) : cnt hs g = cnt is g := by
  unfold cnt
  rw [h.countP_eq, h.countP_eq]
theorem cnt_nn (hs : List Hand) (g : Str) : 0 ≤ cnt hs g := by unfold cnt; omega
section
variable {K : PySem.W.Frag} {G : DH} {Q : DK} {E : DX} {a d : Addr} {ds : List D} {ws : W} {x : D}
/-- the two counts of a hand -/
theorem two_counts {p : Addr} {ks : List Str} {F : Str → Int} {h : Hand} {G1 G' : DH} (s : Sub (G1.put p (.dct true (wd (fd ks F)))) G') :
    Sub (G1.put p (.dct true (wd (fd ks fun g => F g + (if g = h.1 then 1 else 0) + (if g = h.2 then 1 else 0))))) ((G'.put p (.dct true (wd (fd ks fun g => if g = h.1 then F h.1 + 1 else F g)))).put p (.dct true (wd (fd ks fun g => if g = h.2 then (if h.2 = h.1 then F h.1 + 1 else F h.2) + 1 else if g = h.1 then F h.1 + 1 else F g)))) := by
  have e : (fd ks fun g => if g = h.2 then (if h.2 = h.1 then F h.1 + 1 else F h.2) + 1 else if g = h.1 then F h.1 + 1 else F g) = fd ks fun g => F g + (if g = h.1 then 1 else 0) + (if g = h.2 then 1 else 0) := by
    apply fd_congr
    intro g _
    by_cases e1 : g = h.1
    · by_cases e2 : g = h.2
      · have e3 : h.2 = h.1 := e2.symm.trans e1
        simp [e1, e3]
      · have e3 : ¬ h.1 = h.2 := fun z => e2 (e1.trans z)
        simp [e1, e3]
    · by_cases e2 : g = h.2
      · have e3 : ¬ h.2 = h.1 := fun z => e1 (e2.trans z)
        simp [e2, e3]
      · simp [e1, e2]
  rw [e, DH.put_put]
  exact s.again
theorem cnt_take {hs : List Hand} {i : Nat} {h : Hand} (e : hs[i]? = some h) : cnt (hs.take (i + 1)) = fun g => cnt (hs.take i) g + (if g = h.1 then 1 else 0) + (if g = h.2 then 1 else 0) := by
  have e1 : hs.take (i + 1) = hs.take i ++ [h] := by rw [List.take_add_one, e]; rfl
  rw [e1]
  exact funext fun g => cnt_snoc _ _ g
theorem t_shaken_of {hs : List Hand} (h : PartyAt K G a d ws) (hx : SeqD x ds G) (hd : HandsD ds hs G) (hi : ∀ p ∈ hs, p.1 ∈ ws.map (·.1) ∧ p.2 ∈ ws.map (·.1)) (nd : (ws.map (·.1)).Nodup) (hl : ws.length < 100000)
    (q : ∀ p, G.ob p = none → Q (.ref p) (G.put p (.dct true (wd (fd (ws.map (·.1)) (cnt hs)))))) : sp_shaken_of K [.ref a, x] G Q E := by
  refine wSp_mk rfl ?_
  unfold w_shaken_of
  dsimp only [wSeq, wSetIx, wOp, wC, wB, wIfS, wAsg, wCB, wCons, wNil, wRet, wRetN, wAnd, wOr, wNot, wAndV, wOrV, wNotV, wIf, wTup, wLst, wBM, wNext, wExpr, wUn, wChain, wCall, wSl, wPart, wNoPart, wNever, wLkS, wStar, wStarItems, wListItems, wSumVals, wFld, wSetFld, wMake, wMeth, wCallK, wDisp, wEmp, wPairs, wLk, wBreak, wCont, asg, asgs]
  refine x_dc (x_wiE ?_)
  dsimp only [wSeq, wSetIx, wOp, wC, wB, wIfS, wAsg, wCB, wCons, wNil, wRet, wRetN, wAnd, wOr, wNot, wAndV, wOrV, wNotV, wIf, wTup, wLst, wBM, wNext, wExpr, wUn, wChain, wCall, wSl, wPart, wNoPart, wNever, wLkS, wStar, wStarItems, wListItems, wSumVals, wFld, wSetFld, wMake, wMeth, wCallK, wDisp, wEmp, wPairs, wLk, wBreak, wCont, asg, asgs]
  refine x_var rfl ⟨a, _, .ref d, rfl, h.p, rfl, Or.inl (Or.inr (Or.inr (Or.inr ⟨d, _, rfl, h.w, ?_⟩)))⟩
  refine dcX (wd (fd (ws.map (·.1)) fun _ => 0)) (fun G' s => s.ob _ _ h.w) (by rw [wd_len, fd_len, List.length_map, List.length_map, wd_len]) (by rw [wd_len, fd_len, List.length_map]; omega) (wd_nodup (by rw [fd_keys]; exact nd)) (fun i x k z G' Y hx hL s hy => ?_) (fun p G1 hp s1 => ?_)
  · obtain ⟨p, hp, ek, ez⟩ := wd_at hL
    subst ek; subst ez
    unfold fd at hp
    rw [List.getElem?_map, List.getElem?_map] at hp
    unfold wd at hx
    rw [List.map_map, List.getElem?_map] at hx
    cases hw : ws[i]? with
    | none => rw [hw] at hx; cases hx
    | some pw =>
      rw [hw] at hx hp
      have e1 : x = .str pw.1 := (Option.some.inj hx).symm
      have e2 : p = (pw.1, 0) := (Option.some.inj hp).symm
      subst e1; subst e2
      exact ⟨_, rfl, x_var rfl (hy G' (Sub.refl G'))⟩
  refine ⟨_, rfl, Or.inl ?_⟩
  have s0 : Sub G G1 := ((Sub.refl G).new hp).trans s1
  refine x_for (x_wiE ?_)
  refine x_var rfl (hx.walk s0 fun S hS => ?_)
  refine ⟨fun i δ' G' => ∃ b c, δ' = [some (.ref a), some x, some (.ref p), b, c, none] ∧ Sub (G.put p (.dct true (wd (fd (ws.map (·.1)) (cnt (hs.take i)))))) G', ⟨none, none, rfl, s1⟩, ?_, ?_, ?_⟩
  · rintro i δ' G' ⟨b, c, _, s⟩
    exact hS G' (((Sub.refl G).new hp).trans s)
  · rintro i y δ' G' hy ⟨b, c, rfl, s⟩
    obtain ⟨pr, hpr, hh⟩ := hd.at hy
    have sG : Sub G G' := ((Sub.refl G).new hp).trans s
    obtain ⟨m1, m2⟩ := hi pr (List.mem_of_getElem? hpr)
    refine ⟨_, asg2 (unp_sub sG (handOf_unp hh)), ?_⟩
    dsimp only [wSeq, wSetIx, wOp, wC, wB, wIfS, wAsg, wCB, wCons, wNil, wRet, wRetN, wAnd, wOr, wNot, wAndV, wOrV, wNotV, wIf, wTup, wLst, wBM, wNext, wExpr, wUn, wChain, wCall, wSl, wPart, wNoPart, wNever, wLkS, wStar, wStarItems, wListItems, wSumVals, wFld, wSetFld, wMake, wMeth, wCallK, wDisp, wEmp, wPairs, wLk, wBreak, wCont, asg, asgs]
    have hz : (100000 : Nat) < sizeLine := by rw [sizeLine_eq]; decide
    refine x_var rfl (x_var rfl (x_ixD (key := Sum.inr pr.1) (s.ob _ _ DH.put_same) (val_fd m1) (x_addI (x_var rfl (x_var rfl (x_setD (key := Sum.inr pr.1) (s.ob _ _ DH.put_same) (by rw [wd_len, fd_len, List.length_map]; omega) ?_))))))
    rw [put_fd m1]
    refine x_var rfl (x_var rfl (x_ixD (key := Sum.inr pr.2) DH.put_same (val_fd m2) (x_addI (x_var rfl (x_var rfl (x_setD (key := Sum.inr pr.2) DH.put_same (by rw [wd_len, fd_len, List.length_map]; omega) ?_))))))
    rw [put_fd m2]
    refine ⟨_, _, rfl, ?_⟩
    rw [cnt_take hpr]
    exact two_counts s
  · rintro δ' G' ⟨b, c, rfl, s⟩
    refine x_var rfl (fgI s ?_)
    rw [hd.length, List.take_length]
    exact q p hp
end
end Q7

namespace Q7
open PySem PySem.Spec PyProof.Rows L2
/-! ### pictures, the row -/
def pw (ws : W) : List (Key × PyData) := ws.map fun p => (Sum.inr p.1, PyData.int p.2)
theorem DTv.wd {G : DH} : ∀ ws : W, DTv G (pw ws) (wd ws)
  | [] => rfl
  | p :: ws => ⟨_, _, rfl, rfl, DTv.wd ws⟩
theorem pw_plain (ws : W) : ∀ p ∈ (pw ws).map (·.2), p.plain = true ∧ p.depth ≤ 60 := by
  intro p hp
  unfold pw at hp
  rw [List.map_map] at hp
  obtain ⟨q, _, e⟩ := List.mem_map.mp hp
  subst e
  exact ⟨rfl, by show PyData.depth (.int q.2) ≤ 60; simp [PyData.depth]⟩
theorem pw_keys (ws : W) : (pw ws).map (·.1) = ws.map fun p => Sum.inr p.1 := by unfold pw; rw [List.map_map]; rfl
theorem eqv_int (i : Int) : PyData.eqv (.int i) (.int i) = true := by simp [PyData.eqv]
theorem hitsP_in {ws : W} (nd : (ws.map (·.1)).Nodup) : ∀ r : W, (∀ p ∈ r, p ∈ ws) → hitsP (pw r) (pw ws) = true
  | [], _ => rfl
  | p :: r, h => by
    have hm : ((Sum.inr p.1 : Key), PyData.int p.2) ∈ pw ws := List.mem_map.mpr ⟨p, h p List.mem_cons_self, rfl⟩
    have hn : ((pw ws).map (·.1)).Nodup := by
      rw [pw_keys]
      have e : (ws.map fun p => (Sum.inr p.1 : Key)) = (ws.map (·.1)).map Sum.inr := by rw [List.map_map]; rfl
      rw [e]
      exact List.Pairwise.map _ (fun a b h z => h (by cases z; rfl)) nd
    have e := valA_mem hn hm
    show (match valA (pw ws) (Sum.inr p.1) with
      | none => false
      | some y => PyData.eqv (.int p.2) y && hitsP (pw r) (pw ws)) = true
    rw [e]
    show (PyData.eqv (.int p.2) (.int p.2) && hitsP (pw r) (pw ws)) = true
    rw [eqv_int, hitsP_in nd r fun q hq => h q (List.mem_cons_of_mem _ hq)]
    rfl
theorem eqK_of {ws ws' : W} (nd : (ws'.map (·.1)).Nodup) (hp : ws.Perm ws') : eqK (pw ws) (pw ws') = true := by
  unfold eqK
  have hl : (pw ws).length = (pw ws').length := by unfold pw; rw [List.length_map, List.length_map, hp.length_eq]
  rw [hl, hitsP_in nd ws fun p h => hp.mem_iff.mp h]
  simp
theorem x_eqW {G : DH} {Q : DK} {a b : Addr} {v w : Bool} {ws ws' : W} (h : G.ob a = some (.dct v (wd ws))) (h' : G.ob b = some (.dct w (wd ws'))) (nd : (ws'.map (·.1)).Nodup) (hp : ws.Perm ws') (q : Q (.bl true) G) : dEq (.ref a) (.ref b) G Q :=
  .inr (.inr ⟨a, v, wd ws, b, w, wd ws', pw ws, pw ws', rfl, rfl, h, h', DTv.wd ws, DTv.wd ws', pw_plain ws, pw_plain ws', by rw [eqK_of nd hp, Bool.false_xor]; exact q⟩)
theorem fd_self {ws : W} {F : Str → Int} (h : ∀ p ∈ ws, F p.1 = p.2) : fd (ws.map (·.1)) F = ws := by
  unfold fd
  rw [List.map_map]
  have : ∀ p ∈ ws, ((fun g => (g, F g)) ∘ fun x : Str × Int => x.1) p = id p := fun p hp => by
    show (p.1, F p.1) = p
    rw [h p hp]
  rw [List.map_congr_left this, List.map_id]
/-- richest first, then by name -/
def leR (p q : Str × Int) : Bool := if p.2 = q.2 then leS p.1 q.1 else decide (q.2 < p.2)
def rowW (ws : W) : List Str := (ws.mergeSort leR).map (·.1)
open PySem.W in
theorem leD_row (p q : Str × Int) : leD (.tup [.int (-p.2), .str p.1]) (.tup [.int (-q.2), .str q.1]) = leR p q := by
  show (!dataLt (.tuple [.int (-q.2), .str q.1]) (.tuple [.int (-p.2), .str p.1])) = leR p q
  rw [dataLt_pair (by simp [alike]) (by simp [alike]), dataLt_int, dataLt_str]
  have e : ∀ a b : Str, PyData.eqv (.str a) (.str b) = decide (a = b) := fun a b => by
    simp only [PyData.eqv]
    exact (Bool.beq_eq_decide_eq a b)
  have e2 : ∀ a b : Int, PyData.eqv (.int a) (.int b) = decide (a = b) := fun a b => by
    simp only [PyData.eqv]
    exact (Bool.beq_eq_decide_eq a b)
  rw [e, e2]
  unfold leR leS strLt
  by_cases h1 : p.2 = q.2
  · have h1' : -q.2 = -p.2 := by omega
    rw [if_pos (decide_eq_true h1'), if_pos h1]
    by_cases h2 : q.1 = p.1
    · rw [if_pos (decide_eq_true h2), h2]
      simp
    · rw [if_neg (by simpa using h2)]
  · have h1' : ¬ -q.2 = -p.2 := by omega
    rw [if_neg (by simpa using h1'), if_neg h1]
    by_cases h2 : q.2 < p.2
    · have : ¬ -q.2 < -p.2 := by omega
      simp [h2]
      omega
    · have : -q.2 < -p.2 := by omega
      simp [h2, this]
section
variable {K : PySem.W.Frag} {G : DH} {Q : DK} {E : DX} {a d : Addr} {ds : List D} {ws : W} {x : D}
theorem t_is_picture {hs : List Hand} (kf : KF K) (h : PartyAt K G a d ws) (hx : SeqD x ds G) (hd : HandsD ds hs G) (ok : WebOk (ws.map (·.1)) hs) (nd : (ws.map (·.1)).Nodup) (hl : ws.length < 100000) (hc : ∀ p ∈ ws, cnt hs p.1 = p.2) (q : Q (.bl true) G) : sp_is_picture K [.ref a, x] G Q E := by
  refine wSp_mk rfl ?_
  unfold w_is_picture
  dsimp only [wSeq, wSetIx, wOp, wC, wB, wIfS, wAsg, wCB, wCons, wNil, wRet, wRetN, wAnd, wOr, wNot, wAndV, wOrV, wNotV, wIf, wTup, wLst, wBM, wNext, wExpr, wUn, wChain, wCall, wSl, wPart, wNoPart, wNever, wLkS, wStar, wStarItems, wListItems, wSumVals, wFld, wSetFld, wMake, wMeth, wCallK, wDisp, wEmp, wPairs, wLk, wBreak, wCont, asg, asgs]
  refine x_var rfl (t_check_party kf h ?_)
  refine x_var rfl (x_var rfl (t_is_web_of h hx hd ok ⟨true, rfl, itT ?_⟩))
  refine x_var rfl (x_var rfl (t_shaken_of h hx hd (fun p hp => ⟨(ok.i p hp).1, (ok.i p hp).2.1⟩) nd hl fun p hp => ?_))
  have s := (Sub.refl G).new (o := .dct true (wd (fd (ws.map (·.1)) (cnt hs)))) hp
  refine x_var rfl ⟨a, _, .ref d, rfl, s.ob _ _ h.p, rfl, ?_⟩
  refine x_eqW DH.put_same (s.ob _ _ h.w) nd ?_ (fgI s q)
  rw [fd_self hc]
theorem items_at {i : Nat} {x : D} (h : ((wd ws).map fun p => D.tup [kD p.1, p.2])[i]? = some x) : ∃ p, ws[i]? = some p ∧ x = .tup [.str p.1, .int p.2] := by
  unfold wd at h
  rw [List.map_map, List.getElem?_map] at h
  obtain ⟨p, hp, e⟩ := Option.map_eq_some_iff.mp h
  exact ⟨p, hp, e.symm⟩
theorem x_wiItems {w : WE} {δ : DEnv} {R : (DH → Prop) → List D → DH → Prop} (h : w δ G fun x G1 => ∃ a kvs, x = .ref a ∧ FrzAt a kvs G1 ∧ R (FrzAt a kvs) (kvs.map fun p => .tup [kD p.1, p.2]) G1) : wiItems w δ G R := h
theorem x_wiVals {w : WE} {δ : DEnv} {R : (DH → Prop) → List D → DH → Prop} (h : w δ G fun x G1 => ∃ a kvs, x = .ref a ∧ FrzAt a kvs G1 ∧ R (FrzAt a kvs) (kvs.map (·.2)) G1) : wiVals w δ G R := h
def rD (p : Str × Int) : D := .tup [.int (-p.2), .str p.1]
open PySem.W in
theorem sort_row {l : Addr} (h : G.ob l = some (.lst true (ws.map rD))) (q : ∀ p, G.ob p = none → Q (.ref p) (G.put p (.lst true ((ws.mergeSort leR).map rD)))) : sortD [.ref l] G Q := by
  have hok : okPs (ws.map rD) = true := by
    rw [okPs_all, List.all_map]
    exact List.all_eq_true.mpr fun p _ => rfl
  refine Or.inl ⟨l, ws.map rD, toPs (ws.map rD), rfl, ⟨true, h⟩, DTs.of _ hok, ?_, ?_, ?_, fun p hp => ?_⟩
  · rw [toPs_map, List.map_map]
    exact AllAlike.of (enc := toP ∘ rD) fun b b' => by simp [rD, toP, toPs, alike, alikeAll]
  · rw [toPs_map, List.map_map]
    exact Sortable.tuples (enc := toP ∘ rD) fun b => ⟨_, _, rfl⟩
  · intro p hp
    rw [toPs_map, List.map_map] at hp
    obtain ⟨b, _, e⟩ := List.mem_map.mp hp
    subst e
    show PyData.depth (.tuple [.int (-b.2), .str b.1]) ≤ 62
    simp [PyData.depth, PyData.depthAll]
  · have e : srtD (toPs (ws.map rD)) (ws.map rD) = (ws.mergeSort leR).map rD := by
      rw [srtD_of, List.map_mergeSort (r := leR) (s := leD) (f := rD)]
      intro a _ b _
      exact (leD_row a b).symm
    rw [e]
    exact q p hp
theorem t_in_row (h : G.ob d = some (.dct false (wd ws))) (hl : ws.length ≤ 100000) (q : ∀ p, G.ob p = none → Q (.ref p) (G.put p (.lst true ((rowW ws).map .str)))) : sp_in_row K [.ref d] G Q E := by
  refine wSp_mk rfl ?_
  unfold w_in_row
  dsimp only [wSeq, wSetIx, wOp, wC, wB, wIfS, wAsg, wCB, wCons, wNil, wRet, wRetN, wAnd, wOr, wNot, wAndV, wOrV, wNotV, wIf, wTup, wLst, wBM, wNext, wExpr, wUn, wChain, wCall, wSl, wPart, wNoPart, wNever, wLkS, wStar, wStarItems, wListItems, wSumVals, wFld, wSetFld, wMake, wMeth, wCallK, wDisp, wEmp, wPairs, wLk, wBreak, wCont, asg, asgs]
  refine x_lc (x_wiE ?_)
  dsimp only [wSeq, wSetIx, wOp, wC, wB, wIfS, wAsg, wCB, wCons, wNil, wRet, wRetN, wAnd, wOr, wNot, wAndV, wOrV, wNotV, wIf, wTup, wLst, wBM, wNext, wExpr, wUn, wChain, wCall, wSl, wPart, wNoPart, wNever, wLkS, wStar, wStarItems, wListItems, wSumVals, wFld, wSetFld, wMake, wMeth, wCallK, wDisp, wEmp, wPairs, wLk, wBreak, wCont, asg, asgs]
  refine x_lc (x_wiItems ?_)
  dsimp only [wSeq, wSetIx, wOp, wC, wB, wIfS, wAsg, wCB, wCons, wNil, wRet, wRetN, wAnd, wOr, wNot, wAndV, wOrV, wNotV, wIf, wTup, wLst, wBM, wNext, wExpr, wUn, wChain, wCall, wSl, wPart, wNoPart, wNever, wLkS, wStar, wStarItems, wListItems, wSumVals, wFld, wSetFld, wMake, wMeth, wCallK, wDisp, wEmp, wPairs, wLk, wBreak, wCont, asg, asgs]
  refine x_var rfl (Or.inl ⟨d, _, rfl, h, ?_⟩)
  refine lcX (ws.map rD) (fun G' s => s.ob _ _ h) (by rw [List.length_map, List.length_map, wd_len]) (by rw [List.length_map]; omega) (fun i x y G' Y hx hy s hY => ?_) (fun l1 G1 hl1 s1 => ?_)
  · obtain ⟨p, hp, e⟩ := items_at hx
    subst e
    rw [List.getElem?_map, hp] at hy
    have e2 : y = rD p := (Option.some.inj hy).symm
    subst e2
    refine ⟨_, asg2 rfl, ?_⟩
    dsimp only [wSeq, wSetIx, wOp, wC, wB, wIfS, wAsg, wCB, wCons, wNil, wRet, wRetN, wAnd, wOr, wNot, wAndV, wOrV, wNotV, wIf, wTup, wLst, wBM, wNext, wExpr, wUn, wChain, wCall, wSl, wPart, wNoPart, wNever, wLkS, wStar, wStarItems, wListItems, wSumVals, wFld, wSetFld, wMake, wMeth, wCallK, wDisp, wEmp, wPairs, wLk, wBreak, wCont, asg, asgs]
    exact x_var rfl (x_negI (x_var rfl ⟨by show 2 ≤ sizeLine; decide, hY G' (Sub.refl G')⟩))
  · refine sort_row (s1.ob _ _ DH.put_same) fun l2 hl2 => ?_
    have s2 := (Sub.refl G1).new (o := .lst true ((ws.mergeSort leR).map rD)) hl2
    refine Or.inl ⟨l2, _, rfl, ⟨true, DH.put_same⟩, ?_⟩
    have hll : (ws.mergeSort leR).length = ws.length := (List.mergeSort_perm _ _).length_eq
    refine lcX ((rowW ws).map .str) (fun G' s => ⟨true, s.ob _ _ DH.put_same⟩) (by unfold rowW; rw [List.length_map, List.length_map, List.length_map]) (by unfold rowW; rw [List.length_map, List.length_map, hll]; omega) (fun i x y G' Y hx hy s hY => ?_) (fun l3 G3 hl3 s3 => ?_)
    · rw [List.getElem?_map] at hx
      obtain ⟨p, hp, e⟩ := Option.map_eq_some_iff.mp hx
      subst e
      unfold rowW at hy
      rw [List.getElem?_map, List.getElem?_map, hp] at hy
      have e2 : y = .str p.1 := (Option.some.inj hy).symm
      subst e2
      exact ⟨_, asg2 rfl, x_var rfl (hY G' (Sub.refl G'))⟩
    · have hg : G.ob l3 = none := ((((Sub.refl G).new hl1).trans s1).trans s2).none hl3
      refine fgI ?_ (q l3 hg)
      exact (((((Sub.refl G).new hl1).trans s1).trans s2).put l3 _).trans s3
end
end Q7

namespace Q7
open PySem PySem.Spec PyProof.Rows L2
/-! ### room, lack, bars -/
def val (ws : W) (g : Str) : Int := (valA ws g).getD 0
theorem wd_find (ws : W) (g : Str) : valA (wd ws) (Sum.inr g) = (valA ws g).map D.int := by
  unfold valA wd
  rw [List.find?_map, Option.map_map, Option.map_map]
  have e : ((fun kv : Key × D => decide (kv.1 = Sum.inr g)) ∘ fun p : Str × Int => ((Sum.inr p.1 : Key), D.int p.2)) = fun p => decide (p.1 = g) := by
    funext p
    apply decide_eq_decide.mpr
    exact ⟨fun h => Sum.inr.inj h, fun h => by show Sum.inr p.1 = Sum.inr g; rw [h]⟩
  rw [e]
  rfl
theorem wd_val2 {ws : W} {g : Str} (h : g ∈ ws.map (·.1)) : valA (wd ws) (Sum.inr g) = some (.int (val ws g)) := by
  rw [wd_find]
  have h1 := valA_some (kvs := ws) (k := g)
  rw [decide_eq_true h] at h1
  unfold val
  cases e : valA ws g with
  | none => rw [e] at h1; cases h1
  | some v => rfl
theorem val_mem {ws : W} (nd : (ws.map (·.1)).Nodup) {p : Str × Int} (h : p ∈ ws) : val ws p.1 = p.2 := by
  unfold val
  rw [valA_mem nd (k := p.1) (v := p.2) h]
  rfl
theorem val_nn {ws : W} (h : ∀ p ∈ ws, 0 ≤ p.2) (g : Str) : 0 ≤ val ws g := by
  unfold val valA
  cases e : ws.find? fun kv => decide (kv.1 = g) with
  | none => exact Int.le_refl _
  | some p => exact h p (List.mem_of_find?_eq_some e)
def roomW (ws : W) (rich poor : List Str) : Int := (rich.length : Int) * ((rich.length : Int) - 1) + (rich.length : Int) * ((ws.length : Int) - rich.length - poor.length) + (poor.map (val ws)).sum
def lackW (ws : W) (rich poor : List Str) : Int := (rich.map (val ws)).sum - roomW ws rich poor
def poorW (ws : W) (m : Nat) : List Str := ((rowW ws).drop m).filter fun g => decide (val ws g < m)
def barAt (ws : W) (m : Nat) : Option (List Str × List Str) := if 0 < lackW ws ((rowW ws).take m) (poorW ws m) then some (srtS ((rowW ws).take m), srtS (poorW ws m)) else none
def barFrom (ws : W) : Nat → Nat → Option (List Str × List Str)
  | 0, _ => none
  | k + 1, m => match barAt ws m with
    | some b => some b
    | none => barFrom ws k (m + 1)
def barW (ws : W) : Option (List Str × List Str) := barFrom ws ws.length 1
theorem rowW_perm (ws : W) : (rowW ws).Perm (ws.map (·.1)) := (List.mergeSort_perm ws leR).map _
theorem rowW_len (ws : W) : (rowW ws).length = ws.length := by rw [(rowW_perm ws).length_eq, List.length_map]
section
variable {K : PySem.W.Frag} {G : DH} {Q : DK} {E : DX} {a b d l r : Addr} {ds : List D} {ws : W} {x : D} {xs ys : List Str}
open PySem.W in
theorem leD_str (x y : Str) : leD (.str x) (.str y) = leS x y := by
  show (!dataLt (.str y) (.str x)) = leS x y
  rw [dataLt_str]
  rfl
open PySem.W in
theorem sort_strs {w : Bool} (h : G.ob l = some (.lst w (xs.map .str))) (q : ∀ p, G.ob p = none → Q (.ref p) (G.put p (.lst true ((srtS xs).map .str)))) : sortD [.ref l] G Q := by
  have hok : okPs (xs.map D.str) = true := by
    rw [okPs_all, List.all_map]
    exact List.all_eq_true.mpr fun p _ => rfl
  refine Or.inl ⟨l, xs.map D.str, toPs (xs.map D.str), rfl, ⟨w, h⟩, DTs.of _ hok, ?_, ?_, ?_, fun p hp => ?_⟩
  · rw [toPs_map, List.map_map]
    exact AllAlike.of (enc := toP ∘ D.str) fun b b' => by simp [toP, alike]
  · rw [toPs_map, List.map_map]
    exact Sortable.others (enc := toP ∘ D.str) fun b => ⟨fun z => (nomatch z), fun _ z => (nomatch z)⟩
  · intro p hp
    rw [toPs_map, List.map_map] at hp
    obtain ⟨b, _, e⟩ := List.mem_map.mp hp
    subst e
    show PyData.depth (.str b) ≤ 62
    simp [PyData.depth]
  · have e : srtD (toPs (xs.map D.str)) (xs.map D.str) = (srtS xs).map D.str := by
      rw [srtD_of]
      unfold srtS
      rw [List.map_mergeSort (r := leS) (s := leD) (f := D.str)]
      intro a _ b _
      exact (leD_str a b).symm
    rw [e]
    exact q p hp
def leH (p q : Hand) : Bool := !ltH q p
def srtH (hs : List Hand) : List Hand := hs.mergeSort leH
open PySem.W in
theorem leD_hand (p q : Hand) : leD (hD p) (hD q) = leH p q := by
  show (!dataLt (.tuple [.str q.1, .str q.2]) (.tuple [.str p.1, .str p.2])) = leH p q
  rw [dataLt_hh]
  rfl
open PySem.W in
theorem sort_hands {w : Bool} {hs : List Hand} (h : G.ob l = some (.lst w (hs.map hD))) (q : ∀ p, G.ob p = none → Q (.ref p) (G.put p (.lst true ((srtH hs).map hD)))) : sortD [.ref l] G Q := by
  have hok : okPs (hs.map hD) = true := by
    rw [okPs_all, List.all_map]
    exact List.all_eq_true.mpr fun p _ => rfl
  refine Or.inl ⟨l, hs.map hD, toPs (hs.map hD), rfl, ⟨w, h⟩, DTs.of _ hok, ?_, ?_, ?_, fun p hp => ?_⟩
  · rw [toPs_map, List.map_map]
    exact AllAlike.of (enc := toP ∘ hD) fun b b' => by simp [hD, toP, toPs, alike, alikeAll]
  · rw [toPs_map, List.map_map]
    exact Sortable.tuples (enc := toP ∘ hD) fun b => ⟨_, _, rfl⟩
  · intro p hp
    rw [toPs_map, List.map_map] at hp
    obtain ⟨b, _, e⟩ := List.mem_map.mp hp
    subst e
    show PyData.depth (.tuple [.str b.1, .str b.2]) ≤ 62
    simp [PyData.depth, PyData.depthAll]
  · have e : srtD (toPs (hs.map hD)) (hs.map hD) = (srtH hs).map hD := by
      rw [srtD_of]
      unfold srtH
      rw [List.map_mergeSort (r := leH) (s := leD) (f := hD)]
      intro a _ b _
      exact (leD_hand a b).symm
    rw [e]
    exact q p hp
/-- the wants of some guests -/
theorem vals_lc {vs : List Nat} {δ : DEnv} {n : Nat} {G1 : DH} (h : PartyAt K G a d ws) (hl : G1.ob l = some (.lst true (xs.map .str))) (s0 : Sub G G1) (hx : ∀ g ∈ xs, g ∈ ws.map (·.1)) (hz : xs.length ≤ 100000)
    (h0 : ∀ g : Str, ((wipeD δ vs).set n (some (D.str g)))[0]? = some (some (.ref a))) (hn : ∀ g : Str, ((wipeD δ vs).set n (some (D.str g)))[n]? = some (some (.str g))) (q : ∀ p G2, G1.ob p = none → Sub (G1.put p (.lst true ((xs.map (val ws)).map .int))) G2 → Q (.ref p) G2) :
    LcBody (.nm n) (fun _ G Q => Q true G) (fun δ G Q => ∃ d, δ[0]? = some (some d) ∧ ∃ a fs v, d = D.ref a ∧ G.ob a = some (DO.ins (He.ga K "Party") fs) ∧ fs.lookup ("own_wants" : Str) = some v ∧ ∃ d, δ[n]? = some (some d) ∧ ixD v d G Q) vs δ Q (LstAt l (xs.map .str)) (xs.map .str) G1 := by
  refine lcX ((xs.map (val ws)).map .int) (fun G' s => ⟨true, s.ob _ _ hl⟩) (by rw [List.length_map, List.length_map, List.length_map]) (by rw [List.length_map, List.length_map]; omega) (fun i x y G' Y hx' hy s hY => ?_) q
  rw [List.getElem?_map] at hx'
  obtain ⟨g, hg, e⟩ := Option.map_eq_some_iff.mp hx'
  subst e
  rw [List.getElem?_map, List.getElem?_map, hg] at hy
  have e2 : y = .int (val ws g) := (Option.some.inj hy).symm
  subst e2
  have hp := h.sub (s0.trans s)
  refine ⟨_, rfl, .ref a, h0 g, a, _, .ref d, rfl, hp.p, rfl, .str g, hn g, ?_⟩
  exact x_ixD (key := Sum.inr g) hp.w (wd_val2 (hx g (List.mem_of_getElem? hg))) (hY G' (Sub.refl G'))
theorem t_room_for (h : PartyAt K G a d ws) (hr : G.ob r = some (.lst true (xs.map .str))) (hl : G.ob l = some (.lst true (ys.map .str))) (hx : ∀ g ∈ ys, g ∈ ws.map (·.1)) (h1 : xs.length ≤ 100000) (h2 : ys.length ≤ 100000) (q : Q (.int (roomW ws xs ys)) G) : sp_room_for K [.ref a, .ref r, .ref l] G Q E := by
  refine wSp_mk rfl ?_
  unfold w_room_for
  dsimp only [wSeq, wSetIx, wOp, wC, wB, wIfS, wAsg, wCB, wCons, wNil, wRet, wRetN, wAnd, wOr, wNot, wAndV, wOrV, wNotV, wIf, wTup, wLst, wBM, wNext, wExpr, wUn, wChain, wCall, wSl, wPart, wNoPart, wNever, wLkS, wStar, wStarItems, wListItems, wSumVals, wFld, wSetFld, wMake, wMeth, wCallK, wDisp, wEmp, wPairs, wLk, wBreak, wCont, asg, asgs]
  refine x_var rfl ⟨a, _, .ref d, rfl, h.p, rfl, ?_⟩
  refine x_lenD h.w (x_var rfl (x_lenL hr (x_subI (x_var rfl (x_lenL hl (x_subI ⟨_, rfl, ?_⟩))))))
  have c1 : CMul ((xs.length : Nat) : Int) ((xs.length : Nat) - 1) := .inl ⟨by omega, by omega⟩
  refine x_var rfl (x_lenL hr (x_var rfl (x_lenL hr (x_subI ?_))))
  rw [List.length_map, List.length_map, wd_len]
  refine x_mulI c1 (x_var rfl (x_lenL hr (x_var rfl (x_mulI (.inl ⟨by rw [List.length_map]; omega, by rw [List.length_map]; omega⟩) (x_addI ?_)))))
  rw [List.length_map]
  refine x_lc (x_wiE (x_var rfl (Or.inl ⟨l, _, rfl, ⟨true, hl⟩, ?_⟩)))
  refine vals_lc (K := K) h hl (Sub.refl G) hx h2 ?_ ?_ fun p G2 hp s => ?_
  · exact fun _ => rfl
  · exact fun _ => rfl
  refine ⟨p, ys.map (val ws), rfl, ⟨true, s.ob _ _ DH.put_same⟩, x_addI (fgI (((Sub.refl G).new hp).trans s) ?_)⟩
  exact q
theorem t_lack_of (h : PartyAt K G a d ws) (hr : G.ob r = some (.lst true (xs.map .str))) (hl : G.ob l = some (.lst true (ys.map .str))) (hx : ∀ g ∈ xs, g ∈ ws.map (·.1)) (hy : ∀ g ∈ ys, g ∈ ws.map (·.1)) (h1 : xs.length ≤ 100000) (h2 : ys.length ≤ 100000) (q : Q (.int (lackW ws xs ys)) G) : sp_lack_of K [.ref a, .ref r, .ref l] G Q E := by
  refine wSp_mk rfl ?_
  unfold w_lack_of
  dsimp only [wSeq, wSetIx, wOp, wC, wB, wIfS, wAsg, wCB, wCons, wNil, wRet, wRetN, wAnd, wOr, wNot, wAndV, wOrV, wNotV, wIf, wTup, wLst, wBM, wNext, wExpr, wUn, wChain, wCall, wSl, wPart, wNoPart, wNever, wLkS, wStar, wStarItems, wListItems, wSumVals, wFld, wSetFld, wMake, wMeth, wCallK, wDisp, wEmp, wPairs, wLk, wBreak, wCont, asg, asgs]
  refine x_lc (x_wiE (x_var rfl (Or.inl ⟨r, _, rfl, ⟨true, hr⟩, ?_⟩)))
  refine vals_lc (K := K) h hr (Sub.refl G) hx h1 ?_ ?_ fun p G2 hp s => ?_
  · exact fun _ => rfl
  · exact fun _ => rfl
  have s' := ((Sub.refl G).new hp).trans s
  refine ⟨p, xs.map (val ws), rfl, ⟨true, s.ob _ _ DH.put_same⟩, ?_⟩
  refine x_var rfl (x_var rfl (x_var rfl (t_room_for (h.sub s') (s'.ob _ _ hr) (s'.ob _ _ hl) hy h1 h2 (x_subI (fgI s' q)))))
end
end Q7

namespace Q7
open PySem PySem.Spec PyProof.Rows L2
/-! ### filtered comprehensions, bars -/
section
variable {G1 : DH} {S : DH → Prop} {items : List D} {Q : DK} {T : Tgt} {wt : WT} {we wk wv : WE} {vs : List Nat} {δ : DEnv}
theorem lcF {α : Type} (xs : List α) (enc out : α → D) (keep : α → Bool) (hi : items = xs.map enc) (hS : ∀ G', Sub G1 G' → S G') (hl : xs.length ≤ 1000000)
    (step : ∀ (i : Nat) (a : α) (G' : DH) (N : DH → Prop) (Y : DK), xs[i]? = some a → Sub G1 G' → (∀ G2, Sub G' G2 → keep a = false → N G2) → (∀ G3, Sub G' G3 → keep a = true → Y (out a) G3) → ∃ δ2, asg G' T (enc a) (wipeD δ vs) = some δ2 ∧ wt δ2 G' fun b G2 => if b = true then we δ2 G2 Y else N G2)
    (fin : ∀ p G', G1.ob p = none → Sub (G1.put p (.lst true ((xs.filter keep).map out))) G' → Q (.ref p) G') : LcBody T wt we vs δ Q S items G1 := by
  intro p hp
  subst hi
  have s1 : ∀ ds, Sub G1 (G1.put p (.lst true ds)) := fun ds => (Sub.refl G1).new hp
  refine ⟨fun i G' => Sub (G1.put p (.lst true (((xs.take i).filter keep).map out))) G', by show Sub _ _; rw [List.take_zero]; exact Sub.refl _, fun i G' h => hS G' ((s1 _).trans h), fun i x G' hx h => ?_, fun G' h => fin p G' hp (by have h' : Sub _ _ := h; rw [List.length_map, List.take_length] at h'; exact h')⟩
  rw [List.getElem?_map] at hx
  obtain ⟨a, ha, e⟩ := Option.map_eq_some_iff.mp hx
  subst e
  have htk : xs.take (i + 1) = xs.take i ++ [a] := by rw [List.take_add_one, ha]; rfl
  refine step i a G' _ _ ha ((s1 _).trans h) (fun G2 s2 h3 => ?_) (fun G3 s3 h4 => ?_)
  · show Sub _ _
    rw [htk, List.filter_append]
    have e1 : List.filter keep [a] = [] := by simp [h3]
    rw [e1, List.append_nil]
    exact h.trans s2
  · refine ⟨_, s3.ob _ _ (h.ob _ _ DH.put_same), ?_, ?_⟩
    · have := List.length_filter_le keep (xs.take i)
      rw [List.length_take] at this
      rw [List.length_map]
      have := sizeBig hl
      have hlt : i < xs.length := (List.getElem?_eq_some_iff.mp ha).1
      omega
    · show Sub _ _
      rw [htk, List.filter_append, List.map_append]
      have e1 : List.filter keep [a] = [a] := by simp [h4]
      rw [e1]
      exact (h.trans s3).again
theorem dcF {α : Type} (xs : List α) (enc : α → D) (key : α → Key) (out : α → D) (keep : α → Bool) (hi : items = xs.map enc) (hS : ∀ G', Sub G1 G' → S G') (hl : xs.length ≤ 1000000) (nd : (xs.map key).Nodup)
    (step : ∀ (i : Nat) (a : α) (G' : DH) (N : DH → Prop) (Y : D → D → DH → Prop), xs[i]? = some a → Sub G1 G' → (∀ G2, Sub G' G2 → keep a = false → N G2) → (∀ G3, Sub G' G3 → keep a = true → Y (kD (key a)) (out a) G3) → ∃ δ2, asg G' T (enc a) (wipeD δ vs) = some δ2 ∧ wt δ2 G' fun b G2 => if b = true then wk δ2 G2 fun y G3 => wv δ2 G3 fun z G4 => Y y z G4 else N G2)
    (fin : ∀ p G', G1.ob p = none → Sub (G1.put p (.dct true ((xs.filter keep).map fun a => (key a, out a)))) G' → Q (.ref p) G') : DcBody T wt wk wv vs δ Q S items G1 := by
  intro p hp
  subst hi
  have s1 : ∀ ds, Sub G1 (G1.put p (.dct true ds)) := fun ds => (Sub.refl G1).new hp
  refine ⟨fun i G' => Sub (G1.put p (.dct true (((xs.take i).filter keep).map fun a => (key a, out a)))) G', by show Sub _ _; rw [List.take_zero]; exact Sub.refl _, fun i G' h => hS G' ((s1 _).trans h), fun i x G' hx h => ?_, fun G' h => fin p G' hp (by have h' : Sub _ _ := h; rw [List.length_map, List.take_length] at h'; exact h')⟩
  rw [List.getElem?_map] at hx
  obtain ⟨a, ha, e⟩ := Option.map_eq_some_iff.mp hx
  subst e
  have htk : xs.take (i + 1) = xs.take i ++ [a] := by rw [List.take_add_one, ha]; rfl
  have hlt : i < xs.length := (List.getElem?_eq_some_iff.mp ha).1
  refine step i a G' _ _ ha ((s1 _).trans h) (fun G2 s2 h3 => ?_) (fun G3 s3 h4 => ?_)
  · show Sub _ _
    rw [htk, List.filter_append]
    have e1 : List.filter keep [a] = [] := by simp [h3]
    rw [e1, List.append_nil]
    exact h.trans s2
  · refine ⟨key a, _, rfl, s3.ob _ _ (h.ob _ _ DH.put_same), ?_, ?_⟩
    · have := List.length_filter_le keep (xs.take i)
      rw [List.length_take] at this
      rw [List.length_map]
      have := sizeBig hl
      omega
    · show Sub _ _
      have hnot : key a ∉ (((xs.take i).filter keep).map fun a => (key a, out a)).map (·.1) := by
        intro z
        rw [List.map_map] at z
        obtain ⟨q, hq, e⟩ := List.mem_map.mp z
        have hq' := (List.mem_filter.mp hq).1
        obtain ⟨j, hj, ej⟩ := List.getElem_of_mem hq'
        rw [List.length_take] at hj
        rw [List.getElem_take] at ej
        have h5 := (List.pairwise_iff_getElem.mp nd) j i (by rw [List.length_map]; omega) (by rw [List.length_map]; omega) (by omega)
        rw [List.getElem_map, List.getElem_map, ej, (List.getElem?_eq_some_iff.mp ha).2] at h5
        exact h5 e
      rw [putA_new hnot, htk, List.filter_append, List.map_append]
      have e1 : List.filter keep [a] = [a] := by simp [h4]
      rw [e1]
      exact (h.trans s3).again
end
theorem rngD_at {lo : Int} {n i : Nat} {x : D} (h : (rngD lo n)[i]? = some x) : x = .int (lo + i) ∧ i < n := by
  unfold rngD at h
  rw [List.getElem?_map] at h
  obtain ⟨j, hj, e⟩ := Option.map_eq_some_iff.mp h
  have hlt : i < n := by
    have := (List.getElem?_eq_some_iff.mp hj).1
    rwa [List.length_range] at this
  rw [List.getElem?_range hlt] at hj
  cases hj
  exact ⟨e.symm, hlt⟩
theorem rngD_len {lo : Int} {n : Nat} : (rngD lo n).length = n := by unfold rngD; simp
def Rng1 (xs : List D) (G1 : DH) (R : (DH → Prop) → List D → DH → Prop) : Prop := ∃ j : Int, xs = [.int j] ∧ -(2 ^ 62) ≤ j ∧ j < 2 ^ 62 ∧ R Tru (rngD 0 j.toNat) G1
def Rng2 (xs : List D) (G1 : DH) (R : (DH → Prop) → List D → DH → Prop) : Prop := ∃ i j : Int, xs = [.int i, .int j] ∧ (-(2 ^ 62) ≤ i ∧ i < 2 ^ 62 ∧ -(2 ^ 62) ≤ j ∧ j < 2 ^ 62) ∧ R Tru (rngD i (j - i).toNat) G1
theorem x_wiR1 {ws : WA} {δ : DEnv} {G : DH} {R : (DH → Prop) → List D → DH → Prop} (h : ws δ G fun xs G1 => Rng1 xs G1 R) : wiRng1 ws δ G R := h
theorem x_wiR2 {ws : WA} {δ : DEnv} {G : DH} {R : (DH → Prop) → List D → DH → Prop} (h : ws δ G fun xs G1 => Rng2 xs G1 R) : wiRng2 ws δ G R := h
theorem x_r1 {G : DH} {R : (DH → Prop) → List D → DH → Prop} (n : Nat) (hn : n ≤ 1000000) (h : R Tru (rngD 0 n) G) : Rng1 [.int (n : Nat)] G R := ⟨n, rfl, by omega, by omega, by rw [Int.toNat_natCast]; exact h⟩
theorem x_r2 {G : DH} {R : (DH → Prop) → List D → DH → Prop} {lo hi : Int} (k n : Nat) (hl : lo = k) (hh : hi = k + n) (hk : k ≤ 1000000) (hn : n ≤ 1000000) (h : R Tru (rngD k n) G) : Rng2 [.int lo, .int hi] G R := by
  subst hl; subst hh
  refine ⟨_, _, rfl, ⟨by omega, by omega, by omega, by omega⟩, ?_⟩
  have e : (((k : Nat) : Int) + (n : Nat) - (k : Nat)).toNat = n := by omega
  rw [e]; exact h
theorem barFrom_succ (ws : W) (k m : Nat) : barFrom ws (k + 1) m = (match barAt ws m with
    | some b => some b
    | none => barFrom ws k (m + 1)) := rfl
section
variable {K : PySem.W.Frag} {G : DH} {Q : DK} {E : DX} {a b d l r : Addr} {ds : List D} {ws : W} {x : D} {xs ys : List Str}
theorem row_mem {ws : W} {g : Str} (h : g ∈ rowW ws) : g ∈ ws.map (·.1) := (rowW_perm ws).mem_iff.mp h
theorem poor_mem {ws : W} {m : Nat} {g : Str} (h : g ∈ poorW ws m) : g ∈ ws.map (·.1) := row_mem (List.mem_of_mem_drop (List.mem_filter.mp h).1)
theorem t_bar_of (h : PartyAt K G a d ws) (hl : ws.length ≤ 60) (q0 : barW ws = none → Q .non G) (q1 : ∀ r p, barW ws = some (r, p) → ∀ a b, G.ob a = none → (G.put a (.lst true (r.map .str))).ob b = none → Q (.tup [.ref a, .ref b]) ((G.put a (.lst true (r.map .str))).put b (.lst true (p.map .str)))) : sp_bar_of K [.ref a] G Q E := by
  refine wSp_mk rfl ?_
  unfold w_bar_of
  dsimp only [wSeq, wSetIx, wOp, wC, wB, wIfS, wAsg, wCB, wCons, wNil, wRet, wRetN, wAnd, wOr, wNot, wAndV, wOrV, wNotV, wIf, wTup, wLst, wBM, wNext, wExpr, wUn, wChain, wCall, wSl, wPart, wNoPart, wNever, wLkS, wStar, wStarItems, wListItems, wSumVals, wFld, wSetFld, wMake, wMeth, wCallK, wDisp, wEmp, wPairs, wLk, wBreak, wCont, asg, asgs]
  refine x_var rfl ⟨a, _, .ref d, rfl, h.p, rfl, ?_⟩
  refine t_in_row h.w (by omega) fun l hlp => ?_
  have s0 := (Sub.refl G).new (o := .lst true ((rowW ws).map .str)) hlp
  have hrl := rowW_len ws
  refine ⟨_, rfl, ?_⟩
  refine x_for (x_wiR2 ?_)
  dsimp only [wSeq, wSetIx, wOp, wC, wB, wIfS, wAsg, wCB, wCons, wNil, wRet, wRetN, wAnd, wOr, wNot, wAndV, wOrV, wNotV, wIf, wTup, wLst, wBM, wNext, wExpr, wUn, wChain, wCall, wSl, wPart, wNoPart, wNever, wLkS, wStar, wStarItems, wListItems, wSumVals, wFld, wSetFld, wMake, wMeth, wCallK, wDisp, wEmp, wPairs, wLk, wBreak, wCont, asg, asgs]
  refine x_var rfl (x_lenL DH.put_same (x_addI (x_r2 1 ws.length rfl (by rw [List.length_map, hrl]; omega) (by omega) (by omega) ?_)))
  refine ⟨fun i δ' G' => ∃ b c e, δ' = [some (.ref a), some (.ref l), b, c, e, none] ∧ Sub (G.put l (.lst true ((rowW ws).map .str))) G' ∧ barFrom ws (ws.length - i) (i + 1) = barW ws, ⟨none, none, none, rfl, Sub.refl _, rfl⟩, fun _ _ _ _ => trivial, ?_, ?_⟩
  · rintro i x δ' G' hx ⟨b, c, e, rfl, s, hb⟩
    obtain ⟨ex, hi⟩ := rngD_at hx
    have ex' : x = .int ((i + 1 : Nat) : Int) := by rw [ex]; congr 1; omega
    subst ex'
    refine ⟨_, rfl, ?_⟩
    dsimp only [wSeq, wSetIx, wOp, wC, wB, wIfS, wAsg, wCB, wCons, wNil, wRet, wRetN, wAnd, wOr, wNot, wAndV, wOrV, wNotV, wIf, wTup, wLst, wBM, wNext, wExpr, wUn, wChain, wCall, wSl, wPart, wNoPart, wNever, wLkS, wStar, wStarItems, wListItems, wSumVals, wFld, wSetFld, wMake, wMeth, wCallK, wDisp, wEmp, wPairs, wLk, wBreak, wCont, asg, asgs]
    have hrow : G'.ob l = some (.lst true ((rowW ws).map .str)) := s.ob _ _ DH.put_same
    refine x_var rfl (x_var rfl ⟨_, rfl, Or.inl ⟨l, _, rfl, ⟨true, hrow⟩, fun p1 hp1 => ?_⟩⟩)
    rw [cut_to, ← List.map_take]
    have s1 : Sub G' _ := (Sub.refl G').new (o := .lst true (((rowW ws).take (i + 1)).map .str)) hp1
    refine ⟨_, rfl, ?_⟩
    refine x_lc (x_wiE ?_)
    dsimp only [wSeq, wSetIx, wOp, wC, wB, wIfS, wAsg, wCB, wCons, wNil, wRet, wRetN, wAnd, wOr, wNot, wAndV, wOrV, wNotV, wIf, wTup, wLst, wBM, wNext, wExpr, wUn, wChain, wCall, wSl, wPart, wNoPart, wNever, wLkS, wStar, wStarItems, wListItems, wSumVals, wFld, wSetFld, wMake, wMeth, wCallK, wDisp, wEmp, wPairs, wLk, wBreak, wCont, asg, asgs]
    refine x_var rfl (x_var rfl ⟨_, rfl, Or.inl ⟨l, _, rfl, ⟨true, s1.ob _ _ hrow⟩, fun p2 hp2 => ?_⟩⟩)
    rw [cut_from, ← List.map_drop]
    have s2 := (Sub.refl _).new (o := .lst true (((rowW ws).drop (i + 1)).map .str)) hp2
    refine Or.inl ⟨p2, _, rfl, ⟨true, DH.put_same⟩, ?_⟩
    have hdl : ((rowW ws).drop (i + 1)).length ≤ 60 := by rw [List.length_drop]; omega
    refine lcF ((rowW ws).drop (i + 1)) .str .str (fun g => decide (val ws g < ((i + 1 : Nat) : Int))) rfl (fun G' s => ⟨true, s.ob _ _ DH.put_same⟩) (by omega) (fun j g G3 N Y hg s3 hN hY => ?_) (fun p3 G3 hp3 s3 => ?_)
    · refine ⟨_, rfl, ?_⟩
      dsimp only [wSeq, wSetIx, wOp, wC, wB, wIfS, wAsg, wCB, wCons, wNil, wRet, wRetN, wAnd, wOr, wNot, wAndV, wOrV, wNotV, wIf, wTup, wLst, wBM, wNext, wExpr, wUn, wChain, wCall, wSl, wPart, wNoPart, wNever, wLkS, wStar, wStarItems, wListItems, wSumVals, wFld, wSetFld, wMake, wMeth, wCallK, wDisp, wEmp, wPairs, wLk, wBreak, wCont, asg, asgs]
      have sA : Sub G G3 := (((s0.trans s).trans s1).trans s2).trans s3
      have hA := h.sub sA
      refine x_var rfl ⟨a, _, .ref d, rfl, hA.p, rfl, ?_⟩
      refine x_var rfl (x_ixD (key := Sum.inr g) hA.w (wd_val2 (row_mem (List.mem_of_mem_drop (List.mem_of_getElem? hg)))) (x_var rfl (x_ltI ⟨_, rfl, ?_⟩)))
      by_cases hv : val ws g < ((i + 1 : Nat) : Int)
      · rw [if_pos (decide_eq_true hv)]
        exact x_var rfl (hY G3 (Sub.refl G3) (decide_eq_true hv))
      · rw [if_neg (by simpa using hv)]
        exact hN G3 (Sub.refl G3) (decide_eq_false hv)
    · have e3 : ((rowW ws).drop (i + 1)).filter (fun g => decide (val ws g < ((i + 1 : Nat) : Int))) = poorW ws (i + 1) := rfl
      rw [e3] at s3
      have s4 := ((Sub.refl _).new (o := .lst true ((poorW ws (i + 1)).map .str)) hp3).trans s3
      have sA : Sub G G3 := (((s0.trans s).trans s1).trans s2).trans s4
      have hA := h.sub sA
      have hl3 : (poorW ws (i + 1)).length ≤ 60 := by
        have h5 := List.length_filter_le (fun g => decide (val ws g < ((i + 1 : Nat) : Int))) ((rowW ws).drop (i + 1))
        rw [e3] at h5
        omega
      have hr3 : G3.ob p1 = some (.lst true (((rowW ws).take (i + 1)).map .str)) := (s2.trans s4).ob _ _ DH.put_same
      have hq3 : G3.ob p3 = some (.lst true ((poorW ws (i + 1)).map .str)) := s3.ob _ _ DH.put_same
      refine ⟨_, rfl, ?_⟩
      refine x_var rfl (x_var rfl (x_var rfl (t_lack_of hA hr3 hq3 (fun g hg => row_mem (List.mem_of_mem_take hg)) (fun g hg => poor_mem hg) (by rw [List.length_take]; omega) (by omega) (x_gtI ⟨_, rfl, ?_⟩))))
      have en : ws.length - i = (ws.length - (i + 1)) + 1 := by omega
      rw [en, barFrom_succ] at hb
      by_cases hk : 0 < lackW ws ((rowW ws).take (i + 1)) (poorW ws (i + 1))
      · rw [if_pos (decide_eq_true hk)]
        have eb : barAt ws (i + 1) = some (srtS ((rowW ws).take (i + 1)), srtS (poorW ws (i + 1))) := if_pos hk
        rw [eb] at hb
        refine x_var rfl (sort_strs hr3 fun a1 ha1 => ?_)
        have s5 := (Sub.refl G3).new (o := .lst true ((srtS ((rowW ws).take (i + 1))).map .str)) ha1
        refine x_var rfl (sort_strs (s5.ob _ _ hq3) fun a2 ha2 => ⟨by show 2 ≤ sizeLine; decide, ?_⟩)
        refine fgI ((sA.put a1 _).put a2 _) (q1 _ _ hb.symm a1 a2 (sA.none ha1) ((sA.put a1 _).none ha2))
      · rw [if_neg (by simpa using hk)]
        have eb : barAt ws (i + 1) = none := if_neg hk
        rw [eb] at hb
        exact ⟨_, _, _, rfl, ((s.trans s1).trans s2).trans s4, hb⟩
  · rintro δ' G' ⟨b, c, e, rfl, s, hb⟩
    rw [rngD_len, Nat.sub_self] at hb
    exact fgI (s0.trans s) (q0 hb.symm)
end
end Q7

namespace Q7
open PySem PySem.Spec PyProof.Rows L2
/-! ### taken, drawn, told -/
theorem plain_strs : ∀ zs : List Str, PyData.plainAll (zs.map PyData.str) = true
  | [] => rfl
  | z :: zs => by
    show (PyData.plain (.str z) && PyData.plainAll (zs.map PyData.str)) = true
    rw [plain_strs zs]
    rfl
theorem any_str (z : Str) (zs : List Str) : ((zs.map PyData.str).any fun w => PyData.eqv w (.str z)) = decide (z ∈ zs) := by
  rw [List.any_map, Bool.eq_iff_iff, List.any_eq_true, decide_eq_true_eq]
  constructor
  · rintro ⟨w, hw, e⟩
    have e' : (w == z) = true := by simpa [PyData.eqv] using e
    rwa [← eq_of_beq e']
  · intro h
    exact ⟨z, h, by simp [PyData.eqv]⟩
theorem toPs_str (zs : List Str) : toPs (zs.map D.str) = zs.map PyData.str := by
  rw [toPs_map, List.map_map]; rfl
theorem ok_strs (zs : List Str) : okPs (zs.map D.str) = true := by
  rw [okPs_all, List.all_map]
  exact List.all_eq_true.mpr fun p _ => rfl
theorem x_inL {G : DH} {Q : DK} {a : Addr} {w : Bool} {z : Str} {zs : List Str} (h : G.ob a = some (.lst w (zs.map .str))) (q : Q (.bl (decide (z ∈ zs))) G) : dIn (.str z) (.ref a) G Q := by
  refine .inr ⟨.str z, zs.map .str, DT.of (.str z) rfl, .inl ⟨a, _, rfl, ⟨w, h⟩, by rw [← toPs_str]; exact DTs.of _ (ok_strs zs)⟩, plain_strs zs, rfl, by simp [PyData.depth], ?_⟩
  rw [any_str, Bool.false_xor]
  exact q
def mnS (a b : Str) : Str := if strLt b a = true then b else a
def mxS (a b : Str) : Str := if strLt a b = true then b else a
def hnd (a b : Str) : Hand := (mnS a b, mxS a b)
def othW (ws : W) (g : Str) : List Str := (rowW ws).filter fun o => !decide (o = g) && decide (0 < val ws o)
def leftW (ws : W) (g : Str) (ms : List Str) : W := (ws.filter fun p => !decide (p.1 = g)).map fun p => (p.1, if p.1 ∈ ms then p.2 - 1 else p.2)
def takeW (ws : W) (g : Str) : Option (List Hand × W) :=
  if ((othW ws g).length : Int) < val ws g then none else some (((othW ws g).take (val ws g).toNat).map (hnd g), leftW ws g ((othW ws g).take (val ws g).toNat))
def drawW : W → List Str → List Hand → Option (List Hand)
  | _, [], acc => some acc
  | ws, g :: gs, acc => match takeW ws g with
    | none => none
    | some (h, l) => drawW l gs (acc ++ h)
theorem leftW_keys (ws : W) (g : Str) (ms : List Str) : (leftW ws g ms).map (·.1) = (ws.map (·.1)).filter fun o => !decide (o = g) := by
  unfold leftW
  rw [List.map_map, List.filter_map]
  rfl
theorem leftW_nodup {ws : W} {g : Str} {ms : List Str} (h : (ws.map (·.1)).Nodup) : ((leftW ws g ms).map (·.1)).Nodup := by
  rw [leftW_keys]
  exact h.filter _
theorem leftW_len (ws : W) (g : Str) (ms : List Str) : (leftW ws g ms).length ≤ ws.length := by
  unfold leftW
  rw [List.length_map]
  exact List.length_filter_le _ _
theorem leftW_nn {ws : W} {g : Str} {ms : List Str} (nd : (ws.map (·.1)).Nodup) (nn : ∀ p ∈ ws, 0 ≤ p.2) (hm : ∀ m ∈ ms, 0 < val ws m) : ∀ p ∈ leftW ws g ms, 0 ≤ p.2 := by
  intro p hp
  obtain ⟨q, hq, e⟩ := List.mem_map.mp hp
  subst e
  have hq' := (List.mem_filter.mp hq).1
  have h1 := nn q hq'
  show 0 ≤ (if q.1 ∈ ms then q.2 - 1 else q.2)
  split
  · rename_i hm'
    have := hm q.1 hm'
    rw [val_mem nd hq'] at this
    omega
  · exact h1
theorem othW_pos {ws : W} {g o : Str} (h : o ∈ othW ws g) : 0 < val ws o := by
  have := (List.mem_filter.mp h).2
  rw [Bool.and_eq_true] at this
  exact of_decide_eq_true this.2
theorem othW_len (ws : W) (g : Str) : (othW ws g).length ≤ ws.length := by
  have := List.length_filter_le (fun o => !decide (o = g) && decide (0 < val ws o)) (rowW ws)
  rw [rowW_len] at this
  exact this
section
variable {K : PySem.W.Frag} {G : DH} {Q : DK} {E : DX} {a b d l r : Addr} {ds : List D} {ws : W} {x : D} {xs ys : List Str} {g : Str}
theorem x_minS {s t : Str} (q : Q (.str (mnS s t)) G) : minD2 [.str s, .str t] G Q := .inr ⟨s, t, rfl, q⟩
theorem x_maxS {s t : Str} (q : Q (.str (mxS s t)) G) : maxD2 [.str s, .str t] G Q := .inr ⟨s, t, rfl, q⟩
theorem t_taken_by (h : G.ob d = some (.dct false (wd ws))) (hg : g ∈ ws.map (·.1)) (nd : (ws.map (·.1)).Nodup) (nn : ∀ p ∈ ws, 0 ≤ p.2) (hl : ws.length ≤ 60) (q0 : takeW ws g = none → Q .non G)
    (q1 : ∀ hs l, takeW ws g = some (hs, l) → ∀ a b, G.ob a = none → (G.put a (.lst true (hs.map hD))).ob b = none → Q (.tup [.ref a, .ref b]) ((G.put a (.lst true (hs.map hD))).put b (.dct false (wd l)))) : sp_taken_by K [.ref d, .str g] G Q E := by
  refine wSp_mk rfl ?_
  unfold w_taken_by
  dsimp only [wSeq, wSetIx, wOp, wC, wB, wIfS, wAsg, wCB, wCons, wNil, wRet, wRetN, wAnd, wOr, wNot, wAndV, wOrV, wNotV, wIf, wTup, wLst, wBM, wNext, wExpr, wUn, wChain, wCall, wSl, wPart, wNoPart, wNever, wLkS, wStar, wStarItems, wListItems, wSumVals, wFld, wSetFld, wMake, wMeth, wCallK, wDisp, wEmp, wPairs, wLk, wBreak, wCont, asg, asgs]
  have hrl := rowW_len ws
  have hol := othW_len ws g
  have hv0 := val_nn nn g
  refine x_lc (x_wiE ?_)
  dsimp only [wSeq, wSetIx, wOp, wC, wB, wIfS, wAsg, wCB, wCons, wNil, wRet, wRetN, wAnd, wOr, wNot, wAndV, wOrV, wNotV, wIf, wTup, wLst, wBM, wNext, wExpr, wUn, wChain, wCall, wSl, wPart, wNoPart, wNever, wLkS, wStar, wStarItems, wListItems, wSumVals, wFld, wSetFld, wMake, wMeth, wCallK, wDisp, wEmp, wPairs, wLk, wBreak, wCont, asg, asgs]
  refine x_var rfl (t_in_row h (by omega) fun l hlp => ?_)
  have s0 := (Sub.refl G).new (o := .lst true ((rowW ws).map .str)) hlp
  refine Or.inl ⟨l, _, rfl, ⟨true, DH.put_same⟩, ?_⟩
  refine lcF (rowW ws) .str .str (fun o => !decide (o = g) && decide (0 < val ws o)) rfl (fun G' s => ⟨true, s.ob _ _ DH.put_same⟩) (by omega) (fun i o G' N Y ho s hN hY => ?_) (fun p1 G1 hp1 s1 => ?_)
  · refine ⟨_, rfl, ?_⟩
    dsimp only [wSeq, wSetIx, wOp, wC, wB, wIfS, wAsg, wCB, wCons, wNil, wRet, wRetN, wAnd, wOr, wNot, wAndV, wOrV, wNotV, wIf, wTup, wLst, wBM, wNext, wExpr, wUn, wChain, wCall, wSl, wPart, wNoPart, wNever, wLkS, wStar, wStarItems, wListItems, wSumVals, wFld, wSetFld, wMake, wMeth, wCallK, wDisp, wEmp, wPairs, wLk, wBreak, wCont, asg, asgs]
    have hd' := (s0.trans s).ob _ _ h
    refine x_var rfl (x_var rfl (x_neS ⟨_, rfl, ?_⟩))
    by_cases e : o = g
    · have e1 : (!decide (o = g)) = false := by rw [decide_eq_true e]; rfl
      rw [e1, if_neg Bool.false_ne_true, if_neg Bool.false_ne_true]
      exact hN G' (Sub.refl G') (by rw [e1]; rfl)
    · have e1 : (!decide (o = g)) = true := by rw [decide_eq_false e]; rfl
      rw [e1, if_pos rfl]
      refine x_var rfl (x_var rfl (x_ixD (key := Sum.inr o) hd' (wd_val2 (row_mem (List.mem_of_getElem? ho))) (x_gtI ⟨_, rfl, ?_⟩)))
      by_cases e2 : 0 < val ws o
      · rw [if_pos (decide_eq_true e2)]
        exact x_var rfl (hY G' (Sub.refl G') (by rw [e1, decide_eq_true e2]; rfl))
      · rw [if_neg (by simpa using e2)]
        exact hN G' (Sub.refl G') (by rw [e1, decide_eq_false e2]; rfl)
  · have e1 : (rowW ws).filter (fun o => !decide (o = g) && decide (0 < val ws o)) = othW ws g := rfl
    rw [e1] at s1
    have sA := s0.trans (((Sub.refl _).new (o := .lst true ((othW ws g).map .str)) hp1).trans s1)
    have ho : G1.ob p1 = some (.lst true ((othW ws g).map .str)) := s1.ob _ _ DH.put_same
    have hd1 := sA.ob _ _ h
    refine ⟨_, rfl, ?_⟩
    refine x_var rfl (x_lenL ho (x_var rfl (x_var rfl (x_ixD (key := Sum.inr g) hd1 (wd_val2 hg) (x_ltI ⟨_, rfl, ?_⟩)))))
    rw [List.length_map]
    by_cases hc : ((othW ws g).length : Int) < val ws g
    · rw [if_pos (decide_eq_true hc)]
      exact fgI sA (q0 (if_pos hc))
    · rw [if_neg (by simpa using hc)]
      have hv : val ws g = (((val ws g).toNat : Nat) : Int) := by omega
      have ht : takeW ws g = some (((othW ws g).take (val ws g).toNat).map (hnd g), leftW ws g ((othW ws g).take (val ws g).toNat)) := if_neg hc
      refine x_var rfl (x_var rfl (x_var rfl (x_ixD (key := Sum.inr g) hd1 (wd_val2 hg) ⟨_, rfl, Or.inl ⟨p1, _, rfl, ⟨true, ho⟩, fun p2 hp2 => ?_⟩⟩)))
      rw [hv, cut_to, ← List.map_take]
      generalize hms : (othW ws g).take (val ws g).toNat = ms at ht
      have hml : ms.length ≤ 60 := by rw [← hms, List.length_take]; omega
      have s2 := (Sub.refl G1).new (o := .lst true (ms.map .str)) hp2
      refine ⟨_, rfl, ?_⟩
      refine x_lc (x_wiE ?_)
      refine x_var rfl (Or.inl ⟨p2, _, rfl, ⟨true, DH.put_same⟩, ?_⟩)
      refine lcX ((ms.map (hnd g)).map hD) (fun G' s => ⟨true, s.ob _ _ DH.put_same⟩) (by rw [List.length_map, List.length_map, List.length_map]) (by rw [List.length_map, List.length_map]; omega) (fun i x y G' Y hx hy s hY => ?_) (fun p3 G3 hp3 s3 => ?_)
      · rw [List.getElem?_map] at hx
        obtain ⟨m, hm, e⟩ := Option.map_eq_some_iff.mp hx
        subst e
        rw [List.getElem?_map, List.getElem?_map, hm] at hy
        have e2 : y = hD (hnd g m) := (Option.some.inj hy).symm
        subst e2
        refine ⟨_, rfl, ?_⟩
        dsimp only [wSeq, wSetIx, wOp, wC, wB, wIfS, wAsg, wCB, wCons, wNil, wRet, wRetN, wAnd, wOr, wNot, wAndV, wOrV, wNotV, wIf, wTup, wLst, wBM, wNext, wExpr, wUn, wChain, wCall, wSl, wPart, wNoPart, wNever, wLkS, wStar, wStarItems, wListItems, wSumVals, wFld, wSetFld, wMake, wMeth, wCallK, wDisp, wEmp, wPairs, wLk, wBreak, wCont, asg, asgs]
        exact x_var rfl (x_var rfl (x_minS (x_var rfl (x_var rfl (x_maxS ⟨by show 2 ≤ sizeLine; decide, hY G' (Sub.refl G')⟩)))))
      · have s3' := ((Sub.refl _).new (o := .lst true ((ms.map (hnd g)).map hD)) hp3).trans s3
        have sB := (sA.trans s2).trans s3'
        have hd3 := sB.ob _ _ h
        have hm3 : G3.ob p2 = some (.lst true (ms.map .str)) := s3'.ob _ _ DH.put_same
        refine ⟨_, rfl, ?_⟩
        refine x_dc (x_wiItems ?_)
        dsimp only [wSeq, wSetIx, wOp, wC, wB, wIfS, wAsg, wCB, wCons, wNil, wRet, wRetN, wAnd, wOr, wNot, wAndV, wOrV, wNotV, wIf, wTup, wLst, wBM, wNext, wExpr, wUn, wChain, wCall, wSl, wPart, wNoPart, wNever, wLkS, wStar, wStarItems, wListItems, wSumVals, wFld, wSetFld, wMake, wMeth, wCallK, wDisp, wEmp, wPairs, wLk, wBreak, wCont, asg, asgs]
        refine x_var rfl (Or.inl ⟨d, _, rfl, hd3, ?_⟩)
        refine dcF ws (fun p => .tup [.str p.1, .int p.2]) (fun p => Sum.inr p.1) (fun p => .int (if p.1 ∈ ms then p.2 - 1 else p.2)) (fun p => !decide (p.1 = g)) (by unfold wd; rw [List.map_map]; rfl) (fun G' s => s.ob _ _ hd3) (by omega) (by rw [← wd_keys]; exact wd_nodup nd) (fun i p G' N Y hp s hN hY => ?_) (fun p4 G4 hp4 s4 => ?_)
        · refine ⟨_, asg2 rfl, ?_⟩
          dsimp only [wSeq, wSetIx, wOp, wC, wB, wIfS, wAsg, wCB, wCons, wNil, wRet, wRetN, wAnd, wOr, wNot, wAndV, wOrV, wNotV, wIf, wTup, wLst, wBM, wNext, wExpr, wUn, wChain, wCall, wSl, wPart, wNoPart, wNever, wLkS, wStar, wStarItems, wListItems, wSumVals, wFld, wSetFld, wMake, wMeth, wCallK, wDisp, wEmp, wPairs, wLk, wBreak, wCont, asg, asgs]
          refine x_var rfl (x_var rfl (x_neS ⟨_, rfl, ?_⟩))
          by_cases e : p.1 = g
          · have e1 : (!decide (p.1 = g)) = false := by rw [decide_eq_true e]; rfl
            rw [e1, if_neg Bool.false_ne_true]
            exact hN G' (Sub.refl G') e1
          · have e1 : (!decide (p.1 = g)) = true := by rw [decide_eq_false e]; rfl
            rw [e1, if_pos rfl]
            refine x_var rfl ?_
            refine x_var rfl (x_var rfl (x_inL (s.ob _ _ hm3) ⟨_, rfl, ?_⟩))
            have hY' := hY G' (Sub.refl G') e1
            by_cases e2 : p.1 ∈ ms
            · rw [if_pos (decide_eq_true e2)]
              rw [if_pos e2] at hY'
              exact x_var rfl (x_subI hY')
            · rw [if_neg (by simpa using e2)]
              rw [if_neg e2] at hY'
              exact x_var rfl hY'
        · refine ⟨_, rfl, Or.inr ⟨p4, _, s4.ob _ _ DH.put_same, ?_⟩⟩
          have e4 : (ws.filter fun p => !decide (p.1 = g)).map (fun p => ((Sum.inr p.1 : Key), D.int (if p.1 ∈ ms then p.2 - 1 else p.2))) = wd (leftW ws g ms) := by
            unfold wd leftW
            rw [List.map_map]; rfl
          rw [e4]
          dsimp only [wSeq, wSetIx, wOp, wC, wB, wIfS, wAsg, wCB, wCons, wNil, wRet, wRetN, wAnd, wOr, wNot, wAndV, wOrV, wNotV, wIf, wTup, wLst, wBM, wNext, wExpr, wUn, wChain, wCall, wSl, wPart, wNoPart, wNever, wLkS, wStar, wStarItems, wListItems, wSumVals, wFld, wSetFld, wMake, wMeth, wCallK, wDisp, wEmp, wPairs, wLk, wBreak, wCont, asg, asgs]
          refine x_var rfl (x_var rfl ?_)
          refine ⟨by show 2 ≤ sizeLine; decide, ?_⟩
          refine fgI ?_ (q1 _ _ ht p3 p4 ((sA.trans s2).none hp3) ?_)
          · refine ((?_ : Sub _ _).put p4 _)
            have s5 : Sub G3 G4 := ((Sub.refl G3).new hp4).trans s4
            exact (((sA.trans s2).put p3 _).trans s3).trans s5
          · exact (((sA.trans s2).put p3 _).trans s3).none hp4
end
end Q7

namespace Q7
open PySem PySem.Spec PyProof.Rows L2
/-! ### drawn, told -/
structure TakeF (ws : W) (g : Str) (hs : List Hand) (l : W) : Prop where
  few : hs.length ≤ ws.length
  nd : (l.map (·.1)).Nodup
  nn : ∀ p ∈ l, 0 ≤ p.2
  len : l.length ≤ ws.length
  keys : l.map (·.1) = (ws.map (·.1)).filter fun o => !decide (o = g)
theorem takeW_facts {ws : W} {g : Str} {hs : List Hand} {l : W} (nd : (ws.map (·.1)).Nodup) (nn : ∀ p ∈ ws, 0 ≤ p.2) (h : takeW ws g = some (hs, l)) : TakeF ws g hs l := by
  unfold takeW at h
  split at h
  · cases h
  · cases h
    refine ⟨?_, leftW_nodup nd, leftW_nn nd nn fun m hm => othW_pos (List.mem_of_mem_take hm), leftW_len _ _ _, leftW_keys _ _ _⟩
    rw [List.length_map, List.length_take]
    have := othW_len ws g
    omega
section
variable {K : PySem.W.Frag} {G : DH} {Q : DK} {E : DX} {a b d l r : Addr} {ds : List D} {ws : W} {x : D} {xs ys : List Str} {g : Str}
theorem x_ext {a b : Addr} {ds es : List D} (h : G.ob a = some (.lst true ds)) (h' : G.ob b = some (.lst true es)) (hl : ds.length + es.length ≤ 1000000) (q : Q .non (G.put a (.lst true (ds ++ es)))) : extD (.ref a) [.ref b] G Q := ⟨a, b, ds, es, rfl, rfl, h, h', sizeBig hl, q⟩
theorem x_app {a : Addr} {ds : List D} {y : D} (h : G.ob a = some (.lst true ds)) (hl : ds.length < 1000000) (q : Q .non (G.put a (.lst true (ds ++ [y])))) : appD (.ref a) [y] G Q := ⟨a, ds, y, rfl, rfl, h, by have := sizeBig (Nat.le_refl 1000000); omega, q⟩
theorem t_drawn_by {xs : List Str} (h : PartyAt K G a d ws) (hx : G.ob l = some (.lst true (xs.map .str))) (hi : ∀ g ∈ xs, g ∈ ws.map (·.1)) (xd : xs.Nodup) (hxl : xs.length ≤ 60) (nd : (ws.map (·.1)).Nodup) (nn : ∀ p ∈ ws, 0 ≤ p.2) (hl : ws.length ≤ 60) (q0 : drawW ws xs [] = none → Q .non G)
    (q1 : ∀ hs, drawW ws xs [] = some hs → ∀ p, G.ob p = none → Q (.ref p) (G.put p (.lst true ((srtH hs).map hD)))) : sp_drawn_by K [.ref a, .ref l] G Q E := by
  refine wSp_mk rfl ?_
  unfold w_drawn_by
  dsimp only [wSeq, wSetIx, wOp, wC, wB, wIfS, wAsg, wCB, wCons, wNil, wRet, wRetN, wAnd, wOr, wNot, wAndV, wOrV, wNotV, wIf, wTup, wLst, wBM, wNext, wExpr, wUn, wChain, wCall, wSl, wPart, wNoPart, wNever, wLkS, wStar, wStarItems, wListItems, wSumVals, wFld, wSetFld, wMake, wMeth, wCallK, wDisp, wEmp, wPairs, wLk, wBreak, wCont, asg, asgs]
  refine x_var rfl ⟨a, _, .ref d, rfl, h.p, rfl, Or.inr ⟨d, _, _, rfl, h.w, fun p0 hp0 => Or.inr ⟨p0, _, rfl, DH.put_same, ?_⟩⟩⟩
  rw [DH.put_put]
  have s0 := (Sub.refl G).new (o := .dct false (wd ws)) hp0
  refine ⟨by show 0 ≤ sizeLine; omega, fun pw hpw => ⟨by show 2 ≤ sizeLine; decide, ?_⟩⟩
  have hGw : G.ob pw = none := s0.none hpw
  refine ⟨_, rfl, ?_⟩
  refine x_for (x_wiE ?_)
  have s1 : Sub G ((G.put p0 (.dct false (wd ws))).put pw (.lst true [])) := s0.trans ((Sub.refl _).new hpw)
  refine x_var rfl (Or.inl ⟨l, _, rfl, ⟨true, s1.ob _ _ hx⟩, ?_⟩)
  refine ⟨fun i δ' G' => ∃ dw wi acc c e, δ' = [some (.ref a), some (.ref l), some (.ref dw), some (.ref pw), c, e] ∧ Sub (G.put pw (.lst true (acc.map hD))) G' ∧ G'.ob dw = some (.dct false (wd wi)) ∧ (wi.map (·.1)).Nodup ∧ (∀ p ∈ wi, 0 ≤ p.2) ∧ wi.length ≤ 60 ∧ (∀ g ∈ xs.drop i, g ∈ wi.map (·.1)) ∧ acc.length ≤ 60 * i ∧ drawW wi (xs.drop i) acc = drawW ws xs [], ?_, ?_, ?_, ?_⟩
  · have hne : p0 ≠ pw := fun z => by
      subst z
      rw [DH.put_same] at hpw
      cases hpw
    exact ⟨p0, ws, [], none, none, rfl, s0.put pw _, by rw [DH.put_ne hne]; exact DH.put_same, nd, nn, hl, hi, Nat.zero_le _, rfl⟩
  · rintro i δ' G' ⟨dw, wi, acc, c, e, _, s, _⟩
    exact ⟨true, (((Sub.refl G).new hGw).trans s).ob _ _ hx⟩
  · rintro i x δ' G' hx' ⟨dw, wi, acc, c, e, rfl, s, hdw, ndi, nni, hli, hki, hai, hdr⟩
    rw [List.getElem?_map] at hx'
    obtain ⟨g, hg, ex⟩ := Option.map_eq_some_iff.mp hx'
    subst ex
    have hlt : i < xs.length := (List.getElem?_eq_some_iff.mp hg).1
    have hgv : xs[i] = g := (List.getElem?_eq_some_iff.mp hg).2
    have hdrop : xs.drop i = g :: xs.drop (i + 1) := by rw [List.drop_eq_getElem_cons hlt, hgv]
    have sG : Sub G G' := ((Sub.refl G).new hGw).trans s
    refine ⟨_, rfl, ?_⟩
    dsimp only [wSeq, wSetIx, wOp, wC, wB, wIfS, wAsg, wCB, wCons, wNil, wRet, wRetN, wAnd, wOr, wNot, wAndV, wOrV, wNotV, wIf, wTup, wLst, wBM, wNext, wExpr, wUn, wChain, wCall, wSl, wPart, wNoPart, wNever, wLkS, wStar, wStarItems, wListItems, wSumVals, wFld, wSetFld, wMake, wMeth, wCallK, wDisp, wEmp, wPairs, wLk, wBreak, wCont, asg, asgs]
    rw [hdrop] at hdr hki
    have hdr' : (match takeW wi g with
      | none => none
      | some (h, l) => drawW l (xs.drop (i + 1)) (acc ++ h)) = drawW ws xs [] := hdr
    refine x_var rfl (x_var rfl (t_taken_by hdw (hki g List.mem_cons_self) ndi nni hli (fun e0 => ?_) (fun hs l' e1 p1 p2 hp1 hp2 => ?_)))
    · rw [e0] at hdr'
      refine ⟨_, rfl, ?_⟩
      refine x_var rfl (x_isN ⟨_, rfl, itT ?_⟩)
      exact fgI sG (q0 hdr'.symm)
    · rw [e1] at hdr'
      have tf := takeW_facts ndi nni e1
      refine ⟨_, rfl, ?_⟩
      refine x_var rfl (x_isN ⟨_, rfl, itF ?_⟩)
      have s2 := (Sub.refl G').new (o := .lst true (hs.map hD)) hp1
      have s3 := s2.trans ((Sub.refl _).new (o := .dct false (wd l')) hp2)
      have hw' : G'.ob pw = some (.lst true (acc.map hD)) := s.ob _ _ DH.put_same
      have hw3 := s3.ob _ _ hw'
      have h12 : p1 ≠ p2 := fun z => by subst z; rw [DH.put_same] at hp2; cases hp2
      have h1w : p2 ≠ pw := fun z => by
        subst z
        have := s2.ob _ _ hw'
        rw [hp2] at this
        cases this
      refine x_var rfl ⟨Or.inl ⟨rfl, pw, _, rfl, ⟨true, hw3⟩⟩, ?_⟩
      refine x_var rfl (x_ixT (i := 0) (v := .ref p1) rfl (x_ext hw3 (by rw [DH.put_ne h12]; exact DH.put_same) ?_ ?_))
      · have := tf.few
        rw [List.length_map, List.length_map]
        omega
      · refine x_var rfl (x_ixT (i := 1) (v := .ref p2) rfl ?_)
        refine ⟨_, rfl, ?_⟩
        refine ⟨p2, l', acc ++ hs, _, _, rfl, ?_, ?_, tf.nd, tf.nn, by have := tf.len; omega, ?_, ?_, hdr'⟩
        · rw [List.map_append]
          exact (s.trans s3).again
        · rw [DH.put_ne h1w]; exact DH.put_same
        · intro o ho
          rw [tf.keys]
          refine List.mem_filter.mpr ⟨hki o (List.mem_cons_of_mem _ ho), ?_⟩
          have : o ≠ g := by
            intro z
            subst z
            have h5 := xd
            rw [← List.take_append_drop i xs, hdrop] at h5
            exact (List.nodup_cons.mp (List.nodup_append.mp h5).2.1).1 ho
          rw [decide_eq_false this]; rfl
        · have := tf.few
          rw [List.length_append]
          omega
  · rintro δ' G' ⟨dw, wi, acc, c, e, rfl, s, hdw, ndi, nni, hli, hki, hai, hdr⟩
    rw [List.length_map, List.drop_length] at hdr
    dsimp only [wSeq, wSetIx, wOp, wC, wB, wIfS, wAsg, wCB, wCons, wNil, wRet, wRetN, wAnd, wOr, wNot, wAndV, wOrV, wNotV, wIf, wTup, wLst, wBM, wNext, wExpr, wUn, wChain, wCall, wSl, wPart, wNoPart, wNever, wLkS, wStar, wStarItems, wListItems, wSumVals, wFld, wSetFld, wMake, wMeth, wCallK, wDisp, wEmp, wPairs, wLk, wBreak, wCont, asg, asgs]
    refine x_var rfl (sort_hands (s.ob _ _ DH.put_same) fun p hp => ?_)
    exact fgI ((((Sub.refl G).new hGw).trans s).put p _) (q1 acc hdr.symm p ((((Sub.refl G).new hGw).trans s).none hp))
def sumW (ws : W) : Int := (ws.map (·.2)).sum
theorem rowW_nodup {ws : W} (nd : (ws.map (·.1)).Nodup) : (rowW ws).Nodup := (rowW_perm ws).nodup_iff.mpr nd
theorem t_told_of (h : PartyAt K G a d ws) (nd : (ws.map (·.1)).Nodup) (nn : ∀ p ∈ ws, 0 ≤ p.2) (hl : ws.length ≤ 60)
    (qo : sumW ws % 2 = 1 → Q (.tup [.str "odd"]) G)
    (qb : sumW ws % 2 ≠ 1 → ∀ r p, barW ws = some (r, p) → ∀ a b, G.ob a = none → (G.put a (.lst true (r.map .str))).ob b = none → Q (.tup [.str "bar", .tup [.ref a, .ref b]]) ((G.put a (.lst true (r.map .str))).put b (.lst true (p.map .str))))
    (qn : sumW ws % 2 ≠ 1 → barW ws = none → drawW ws (rowW ws) [] = none → Q (.tup [.str "picture", .non]) G)
    (qp : sumW ws % 2 ≠ 1 → barW ws = none → ∀ hs, drawW ws (rowW ws) [] = some hs → ∀ p, G.ob p = none → Q (.tup [.str "picture", .ref p]) (G.put p (.lst true ((srtH hs).map hD)))) : sp_told_of K [.ref a] G Q E := by
  refine wSp_mk rfl ?_
  unfold w_told_of
  dsimp only [wSeq, wSetIx, wOp, wC, wB, wIfS, wAsg, wCB, wCons, wNil, wRet, wRetN, wAnd, wOr, wNot, wAndV, wOrV, wNotV, wIf, wTup, wLst, wBM, wNext, wExpr, wUn, wChain, wCall, wSl, wPart, wNoPart, wNever, wLkS, wStar, wStarItems, wListItems, wSumVals, wFld, wSetFld, wMake, wMeth, wCallK, wDisp, wEmp, wPairs, wLk, wBreak, wCont, asg, asgs]
  refine x_var rfl ⟨a, _, .ref d, rfl, h.p, rfl, d, _, _, ws.map (·.2), rfl, h.w, by unfold wd; rw [List.map_map, List.map_map]; rfl, ?_⟩
  refine x_modI (by decide) (x_eqI ⟨_, rfl, ?_⟩)
  by_cases ho : sumW ws % 2 = 1
  · have ho1 : (ws.map (·.2)).sum % 2 = 1 := ho
    rw [if_pos (decide_eq_true ho1)]
    exact ⟨by show 1 ≤ sizeLine; decide, fg0 (qo ho)⟩
  · have ho' : ¬ (decide ((ws.map (·.2)).sum % 2 = 1)) = true := by rw [decide_eq_true_eq]; exact ho
    rw [if_neg ho']
    refine x_var rfl (t_bar_of h hl (fun e => ?_) (fun r p e a1 a2 h1 h2 => ?_))
    · refine ⟨_, rfl, ?_⟩
      refine x_var rfl (x_notN ⟨_, rfl, itF ?_⟩)
      refine x_var rfl (x_var rfl ⟨a, _, .ref d, rfl, h.p, rfl, ?_⟩)
      refine t_in_row h.w (by omega) fun lr hlr => ?_
      have s := (Sub.refl G).new (o := .lst true ((rowW ws).map .str)) hlr
      refine t_drawn_by (h.sub s) DH.put_same (fun g hg => row_mem hg) (rowW_nodup nd) (by rw [rowW_len]; exact hl) nd nn hl (fun e0 => ⟨by show 2 ≤ sizeLine; decide, fgI s (qn ho e e0)⟩) fun hs e1 p hp => ⟨by show 2 ≤ sizeLine; decide, fgI (s.put p _) (qp ho e hs e1 p (s.none hp))⟩
    · refine ⟨_, rfl, ?_⟩
      refine x_var rfl (x_notN ⟨_, rfl, itT ?_⟩)
      refine x_var rfl ⟨by show 2 ≤ sizeLine; decide, fg0 (qb ho r p e a1 a2 h1 h2)⟩
def blW (ws : W) : Bool := decide (sumW ws % 2 ≠ 1) && (barW ws).isNone
theorem t_can_be_drawn (kf : KF K) (h : PartyAt K G a d ws) (nd : (ws.map (·.1)).Nodup) (nn : ∀ p ∈ ws, 0 ≤ p.2) (hl : ws.length ≤ 60) (q : Q (.bl (blW ws)) G) : sp_can_be_drawn K [.ref a] G Q E := by
  refine wSp_mk rfl ?_
  unfold w_can_be_drawn
  dsimp only [wSeq, wSetIx, wOp, wC, wB, wIfS, wAsg, wCB, wCons, wNil, wRet, wRetN, wAnd, wOr, wNot, wAndV, wOrV, wNotV, wIf, wTup, wLst, wBM, wNext, wExpr, wUn, wChain, wCall, wSl, wPart, wNoPart, wNever, wLkS, wStar, wStarItems, wListItems, wSumVals, wFld, wSetFld, wMake, wMeth, wCallK, wDisp, wEmp, wPairs, wLk, wBreak, wCont, asg, asgs]
  refine x_var rfl (t_check_party kf h ?_)
  refine x_var rfl (t_told_of h nd nn hl (fun ho => ?_) (fun ho r p e a1 a2 h1 h2 => ?_) (fun ho e e0 => ?_) fun ho e hs e1 p hp => ?_)
  · refine x_ixT (i := 0) (v := .str "odd") rfl (x_eqS (fg0 ?_))
    have e : blW ws = false := by unfold blW; simp [ho]
    rw [e] at q; exact q
  · refine x_ixT (i := 0) (v := .str "bar") rfl (x_eqS (fgI (((Sub.refl G).new h1).trans ((Sub.refl _).new h2)) ?_))
    have e : blW ws = false := by unfold blW; simp [e]
    rw [e] at q; exact q
  · refine x_ixT (i := 0) (v := .str "picture") rfl (x_eqS (fg0 ?_))
    have e : blW ws = true := by unfold blW; simp [e, ho]
    rw [e] at q; exact q
  · refine x_ixT (i := 0) (v := .str "picture") rfl (x_eqS (fgI ((Sub.refl G).new hp) ?_))
    have e : blW ws = true := by unfold blW; simp [e, ho]
    rw [e] at q; exact q
end
end Q7

namespace Q7
open PySem PySem.Spec PyProof.Rows L2
/-! ### one party and another -/
section
variable {K : PySem.W.Frag} {G : DH} {Q : DK} {E : DX} {a b d d' l r : Addr} {ds es : List D} {ws ws' : W} {x y : D} {xs ys : List Str} {g : Str} {hs hs' : List Hand}
theorem x_make {rows : D} (h : SeqD rows ds G) (hr : RowsD ds ws G) (ok : WOk ws) (q : ∀ a d G', G.ob a = none → Sub G G' → PartyAt K G' a d (srtW ws) → Q (.ref a) G') : ∀ x, G.ob x = none → sp_m_Party_init K [.ref x, rows] (G.put x (.ins (He.ga K "Party") [])) (fun v G2 => v = .non ∧ Q (.ref x) G2) DX0 := by
  intro x hx
  have s := (Sub.refl G).new (o := .ins (He.ga K "Party") []) hx
  refine t_init DH.put_same (h.sub s) (hr.sub s) ok fun d hd => ⟨rfl, ?_⟩
  have hdx : d ≠ x := fun z => by subst z; rw [DH.put_same] at hd; cases hd
  exact q x d _ hx ((((Sub.refl G).over hx).over (s.none hd)).over hx) ⟨DH.put_same, by rw [DH.put_ne hdx]; exact DH.put_same⟩
theorem rows_items : ∀ ws : W, RowsD (itemsD (wd ws)) ws G := fun ws => by
  unfold RowsD itemsD wd
  rw [List.map_map, List.map_map]
  rfl
theorem RowsD.app (h : RowsD ds ws G) (h' : RowsD es ws' G) : RowsD (ds ++ es) (ws ++ ws') G := by
  unfold RowsD at *
  rw [List.map_append, List.map_append, h, h']
theorem HandsD.app (h : HandsD ds hs G) (h' : HandsD es hs' G) : HandsD (ds ++ es) (hs ++ hs') G := by
  unfold HandsD at *
  rw [List.map_append, List.map_append, h, h']
theorem t_eq (kf : KF K) (h : PartyAt K G a d ws) (h' : PartyAt K G b d' ws') (nd : (ws'.map (·.1)).Nodup) (hp : ws.Perm ws') (q : Q (.bl true) G) : sp_m_Party_eq K [.ref a, .ref b] G Q E := by
  refine wSp_mk rfl ?_
  unfold w_m_Party_eq
  dsimp only [wSeq, wSetIx, wOp, wC, wB, wIfS, wAsg, wCB, wCons, wNil, wRet, wRetN, wAnd, wOr, wNot, wAndV, wOrV, wNotV, wIf, wTup, wLst, wBM, wNext, wExpr, wUn, wChain, wCall, wSl, wPart, wNoPart, wNever, wLkS, wStar, wStarItems, wListItems, wSumVals, wFld, wSetFld, wMake, wMeth, wCallK, wDisp, wEmp, wPairs, wLk, wBreak, wCont, asg, asgs]
  refine x_var rfl (isD_own kf.c kf.i h'.p ⟨true, rfl, itT ?_⟩)
  refine x_var rfl ⟨a, _, .ref d, rfl, h.p, rfl, x_var rfl ⟨b, _, .ref d', rfl, h'.p, rfl, ?_⟩⟩
  exact x_eqW h.w h'.w nd hp (fg0 q)
theorem t_hand_of {s t : Str} (q : Q (hD (hnd s t)) G) : sp_hand_of K [.str s, .str t] G Q E := by
  refine wSp_mk rfl ?_
  unfold w_hand_of
  dsimp only [wSeq, wSetIx, wOp, wC, wB, wIfS, wAsg, wCB, wCons, wNil, wRet, wRetN, wAnd, wOr, wNot, wAndV, wOrV, wNotV, wIf, wTup, wLst, wBM, wNext, wExpr, wUn, wChain, wCall, wSl, wPart, wNoPart, wNever, wLkS, wStar, wStarItems, wListItems, wSumVals, wFld, wSetFld, wMake, wMeth, wCallK, wDisp, wEmp, wPairs, wLk, wBreak, wCont, asg, asgs]
  exact x_var rfl (x_var rfl (x_minS (x_var rfl (x_var rfl (x_maxS ⟨by show 2 ≤ sizeLine; decide, fg0 q⟩)))))
theorem wd_items (ws : W) : ((wd ws).map fun p => D.tup [kD p.1, p.2]) = ws.map fun p => .tup [.str p.1, .int p.2] := by
  unfold wd; rw [List.map_map]; rfl
theorem wd_ks (ws : W) : ((wd ws).map fun p => kD p.1) = ws.map fun p => .str p.1 := by
  unfold wd; rw [List.map_map]; rfl
theorem t_check_least (kf : KF K) (h : PartyAt K G a d ws) (hv : ∀ p ∈ ws, p.2 < ws.length) (q : Q .non G) : sp_check_least K [.ref a] G Q E := by
  refine wSp_mk rfl ?_
  unfold w_check_least
  dsimp only [wSeq, wSetIx, wOp, wC, wB, wIfS, wAsg, wCB, wCons, wNil, wRet, wRetN, wAnd, wOr, wNot, wAndV, wOrV, wNotV, wIf, wTup, wLst, wBM, wNext, wExpr, wUn, wChain, wCall, wSl, wPart, wNoPart, wNever, wLkS, wStar, wStarItems, wListItems, wSumVals, wFld, wSetFld, wMake, wMeth, wCallK, wDisp, wEmp, wPairs, wLk, wBreak, wCont, asg, asgs]
  refine x_var rfl (t_check_party kf h ?_)
  refine x_for (x_wiItems ?_)
  dsimp only [wSeq, wSetIx, wOp, wC, wB, wIfS, wAsg, wCB, wCons, wNil, wRet, wRetN, wAnd, wOr, wNot, wAndV, wOrV, wNotV, wIf, wTup, wLst, wBM, wNext, wExpr, wUn, wChain, wCall, wSl, wPart, wNoPart, wNever, wLkS, wStar, wStarItems, wListItems, wSumVals, wFld, wSetFld, wMake, wMeth, wCallK, wDisp, wEmp, wPairs, wLk, wBreak, wCont, asg, asgs]
  refine x_var rfl ⟨a, _, .ref d, rfl, h.p, rfl, Or.inl ⟨d, _, rfl, h.w, ?_⟩⟩
  rw [wd_items]
  refine ⟨fun i δ' G' => ∃ b c, δ' = [some (.ref a), b, c] ∧ Sub G G', ⟨none, none, rfl, Sub.refl G⟩, ?_, ?_, ?_⟩
  · rintro i δ' G' ⟨b, c, _, s⟩
    exact s.ob _ _ h.w
  · rintro i x δ' G' hx ⟨b, c, rfl, s⟩
    rw [List.getElem?_map] at hx
    obtain ⟨p, hp, e⟩ := Option.map_eq_some_iff.mp hx
    subst e
    have h1 := h.sub s
    refine ⟨_, rfl, ?_⟩
    dsimp only [wSeq, wSetIx, wOp, wC, wB, wIfS, wAsg, wCB, wCons, wNil, wRet, wRetN, wAnd, wOr, wNot, wAndV, wOrV, wNotV, wIf, wTup, wLst, wBM, wNext, wExpr, wUn, wChain, wCall, wSl, wPart, wNoPart, wNever, wLkS, wStar, wStarItems, wListItems, wSumVals, wFld, wSetFld, wMake, wMeth, wCallK, wDisp, wEmp, wPairs, wLk, wBreak, wCont, asg, asgs]
    refine x_var rfl (x_var rfl ⟨a, _, .ref d, rfl, h1.p, rfl, x_lenD h1.w (x_geI ⟨_, rfl, ?_⟩)⟩)
    have := hv p (List.mem_of_getElem? hp)
    rw [wd_len, if_neg (by rw [decide_eq_true_eq]; omega)]
    exact ⟨_, _, rfl, s⟩
  · rintro δ' G' ⟨b, c, rfl, s⟩
    exact fgI s q
def otW (ws : W) : W := ws.map fun p => (p.1, ws.length - 1 - p.2)
theorem t_other_party (kf : KF K) (h : PartyAt K G a d ws) (ok : WOk ws) (hv : ∀ p ∈ ws, p.2 < ws.length) (q : ∀ a d G', G.ob a = none → Sub G G' → PartyAt K G' a d (srtW (otW ws)) → Q (.ref a) G') : sp_other_party K [.ref a] G Q E := by
  refine wSp_mk rfl ?_
  unfold w_other_party
  dsimp only [wSeq, wSetIx, wOp, wC, wB, wIfS, wAsg, wCB, wCons, wNil, wRet, wRetN, wAnd, wOr, wNot, wAndV, wOrV, wNotV, wIf, wTup, wLst, wBM, wNext, wExpr, wUn, wChain, wCall, wSl, wPart, wNoPart, wNever, wLkS, wStar, wStarItems, wListItems, wSumVals, wFld, wSetFld, wMake, wMeth, wCallK, wDisp, wEmp, wPairs, wLk, wBreak, wCont, asg, asgs]
  have hfew := ok.few
  refine x_var rfl (t_check_least kf h hv ?_)
  refine x_var rfl ⟨a, _, .ref d, rfl, h.p, rfl, x_lenD h.w (x_subI ⟨_, rfl, ?_⟩)⟩
  refine x_lc (x_wiItems ?_)
  dsimp only [wSeq, wSetIx, wOp, wC, wB, wIfS, wAsg, wCB, wCons, wNil, wRet, wRetN, wAnd, wOr, wNot, wAndV, wOrV, wNotV, wIf, wTup, wLst, wBM, wNext, wExpr, wUn, wChain, wCall, wSl, wPart, wNoPart, wNever, wLkS, wStar, wStarItems, wListItems, wSumVals, wFld, wSetFld, wMake, wMeth, wCallK, wDisp, wEmp, wPairs, wLk, wBreak, wCont, asg, asgs]
  refine x_var rfl ⟨a, _, .ref d, rfl, h.p, rfl, Or.inl ⟨d, _, rfl, h.w, ?_⟩⟩
  rw [wd_items]
  refine lcX (itemsD (wd (otW ws))) (fun G' s => s.ob _ _ h.w) (by unfold itemsD otW; rw [List.length_map, List.length_map, wd_len, List.length_map]) (by unfold itemsD otW; rw [List.length_map, wd_len, List.length_map]; omega) (fun i x y G' Y hx hy s hY => ?_) (fun p G1 hp s1 => ?_)
  · rw [List.getElem?_map] at hx
    obtain ⟨p, hp, e⟩ := Option.map_eq_some_iff.mp hx
    subst e
    have ey : y = .tup [.str p.1, .int (ws.length - 1 - p.2)] := by
      unfold itemsD wd otW at hy
      rw [List.map_map, List.map_map, List.getElem?_map, hp] at hy
      exact (Option.some.inj hy).symm
    subst ey
    refine ⟨_, asg2 rfl, ?_⟩
    dsimp only [wSeq, wSetIx, wOp, wC, wB, wIfS, wAsg, wCB, wCons, wNil, wRet, wRetN, wAnd, wOr, wNot, wAndV, wOrV, wNotV, wIf, wTup, wLst, wBM, wNext, wExpr, wUn, wChain, wCall, wSl, wPart, wNoPart, wNever, wLkS, wStar, wStarItems, wListItems, wSumVals, wFld, wSetFld, wMake, wMeth, wCallK, wDisp, wEmp, wPairs, wLk, wBreak, wCont, asg, asgs]
    refine x_var rfl (x_var rfl (x_var rfl (x_subI ⟨by show 2 ≤ sizeLine; decide, ?_⟩)))
    rw [wd_len]
    exact hY G' (Sub.refl G')
  · have s2 := ((Sub.refl G).new (o := .lst true (itemsD (wd (otW ws)))) hp).trans s1
    refine x_make (.inl ⟨p, true, rfl, s1.ob _ _ DH.put_same⟩) (rows_items (otW ws)) ?_ fun a' d' G' ha s pa => fgI (Sub.refl G') (q a' d' G' (s2.none ha) (s2.trans s) pa)
    refine ⟨fun p hp => ?_, fun p hp => ?_, ?_, ?_⟩
    · obtain ⟨z, hz, e⟩ := List.mem_map.mp hp
      subst e
      exact ok.nm z hz
    · obtain ⟨z, hz, e⟩ := List.mem_map.mp hp
      subst e
      have := hv z hz
      show 0 ≤ (ws.length : Int) - 1 - z.2
      omega
    · unfold otW; rw [List.map_map]; exact ok.nd
    · unfold otW; rw [List.length_map]; exact ok.few
def Apart (ws ws' : W) : Prop := ∀ g ∈ ws.map (·.1), g ∉ ws'.map (·.1)
theorem t_check_apart (kf : KF K) (h : PartyAt K G a d ws) (h' : PartyAt K G b d' ws') (ap : Apart ws ws') (hl : ws.length ≤ 60) (q : Q .non G) : sp_check_apart K [.ref a, .ref b] G Q E := by
  refine wSp_mk rfl ?_
  unfold w_check_apart
  dsimp only [wSeq, wSetIx, wOp, wC, wB, wIfS, wAsg, wCB, wCons, wNil, wRet, wRetN, wAnd, wOr, wNot, wAndV, wOrV, wNotV, wIf, wTup, wLst, wBM, wNext, wExpr, wUn, wChain, wCall, wSl, wPart, wNoPart, wNever, wLkS, wStar, wStarItems, wListItems, wSumVals, wFld, wSetFld, wMake, wMeth, wCallK, wDisp, wEmp, wPairs, wLk, wBreak, wCont, asg, asgs]
  refine x_var rfl (t_check_party kf h (x_var rfl (t_check_party kf h' ?_)))
  refine x_lc (x_wiE ?_)
  dsimp only [wSeq, wSetIx, wOp, wC, wB, wIfS, wAsg, wCB, wCons, wNil, wRet, wRetN, wAnd, wOr, wNot, wAndV, wOrV, wNotV, wIf, wTup, wLst, wBM, wNext, wExpr, wUn, wChain, wCall, wSl, wPart, wNoPart, wNever, wLkS, wStar, wStarItems, wListItems, wSumVals, wFld, wSetFld, wMake, wMeth, wCallK, wDisp, wEmp, wPairs, wLk, wBreak, wCont, asg, asgs]
  refine x_var rfl ⟨a, _, .ref d, rfl, h.p, rfl, Or.inl (Or.inr (Or.inr (Or.inr ⟨d, _, rfl, h.w, ?_⟩)))⟩
  rw [wd_ks]
  refine lcF ws (fun p => .str p.1) (fun p => .str p.1) (fun _ => false) rfl (fun G' s => s.ob _ _ h.w) (by omega) (fun i p G' N Y hp s hN hY => ?_) (fun p G1 hp s1 => ?_)
  · refine ⟨_, rfl, ?_⟩
    dsimp only [wSeq, wSetIx, wOp, wC, wB, wIfS, wAsg, wCB, wCons, wNil, wRet, wRetN, wAnd, wOr, wNot, wAndV, wOrV, wNotV, wIf, wTup, wLst, wBM, wNext, wExpr, wUn, wChain, wCall, wSl, wPart, wNoPart, wNever, wLkS, wStar, wStarItems, wListItems, wSumVals, wFld, wSetFld, wMake, wMeth, wCallK, wDisp, wEmp, wPairs, wLk, wBreak, wCont, asg, asgs]
    have h2 := h'.sub s
    refine x_var rfl (x_var rfl ⟨b, _, .ref d', rfl, h2.p, rfl, Or.inl (Or.inr (Or.inr ⟨d', _, _, Sum.inr p.1, rfl, h2.w, rfl, _, rfl, ?_⟩))⟩)
    have hn := ap p.1 (List.mem_map.mpr ⟨p, List.mem_of_getElem? hp, rfl⟩)
    rw [Bool.false_xor, wd_some, decide_eq_false hn, if_neg Bool.false_ne_true]
    exact hN G' (Sub.refl G') rfl
  · have e : (ws.filter fun _ => false) = [] := by simp
    rw [e] at s1
    have s2 := ((Sub.refl G).new hp).trans s1
    refine ⟨_, rfl, ?_⟩
    refine x_var rfl ⟨by show 0 ≤ sizeLine; omega, fun p2 hp2 => ?_⟩
    have s3 := (Sub.refl G1).new (o := .lst true []) hp2
    have hz : (G1.put p2 (.lst true [])).ob p = some (.lst true []) := s3.ob _ _ (s1.ob _ _ DH.put_same)
    refine x_neE (ps := []) hz DH.put_same rfl rfl ⟨_, rfl, itF ?_⟩
    exact fgI (s2.trans s3) q
theorem WOk.app (h : WOk ws) (h' : WOk ws') (ap : Apart ws ws') (hl : ws.length + ws'.length ≤ 60) : WOk (ws ++ ws') := by
  refine ⟨fun p hp => ?_, fun p hp => ?_, ?_, by rw [List.length_append]; exact hl⟩
  · rcases List.mem_append.mp hp with z | z
    · exact h.nm p z
    · exact h'.nm p z
  · rcases List.mem_append.mp hp with z | z
    · exact h.nn p z
    · exact h'.nn p z
  · rw [List.map_append]
    exact List.nodup_append.mpr ⟨h.nd, h'.nd, fun a ha b hb e => ap a ha (e ▸ hb)⟩
theorem t_joined (kf : KF K) (h : PartyAt K G a d ws) (h' : PartyAt K G b d' ws') (ok : WOk ws) (ok' : WOk ws') (ap : Apart ws ws') (hl : ws.length + ws'.length ≤ 60) (q : ∀ a d G', G.ob a = none → Sub G G' → PartyAt K G' a d (srtW (ws ++ ws')) → Q (.ref a) G') : sp_joined K [.ref a, .ref b] G Q E := by
  refine wSp_mk rfl ?_
  unfold w_joined
  dsimp only [wSeq, wSetIx, wOp, wC, wB, wIfS, wAsg, wCB, wCons, wNil, wRet, wRetN, wAnd, wOr, wNot, wAndV, wOrV, wNotV, wIf, wTup, wLst, wBM, wNext, wExpr, wUn, wChain, wCall, wSl, wPart, wNoPart, wNever, wLkS, wStar, wStarItems, wListItems, wSumVals, wFld, wSetFld, wMake, wMeth, wCallK, wDisp, wEmp, wPairs, wLk, wBreak, wCont, asg, asgs]
  refine x_var rfl (x_var rfl (t_check_apart kf h h' ap (by omega) ?_))
  refine x_var rfl ⟨a, _, .ref d, rfl, h.p, rfl, d, _, _, rfl, h.w, ?_⟩
  refine x_var rfl ⟨b, _, .ref d', rfl, h'.p, rfl, d', _, _, rfl, h'.w, ?_⟩
  rw [List.append_nil]
  refine ⟨?_, fun p hp => ?_⟩
  · unfold itemsD
    rw [List.length_append, List.length_map, List.length_map, wd_len, wd_len]
    have := sizeBig (Nat.le_refl 1000000)
    omega
  have s := (Sub.refl G).new (o := .lst true (itemsD (wd ws) ++ itemsD (wd ws'))) hp
  exact x_make (.inl ⟨p, true, rfl, DH.put_same⟩) ((rows_items ws).app (rows_items ws')) (ok.app ok' ap hl) fun a' d' G' ha s' pa => fgI (Sub.refl G') (q a' d' G' (s.none ha) (s.trans s') pa)
def upW (n : Nat) (ws : W) : W := ws.map fun p => (p.1, p.2 + n)
def crW (ws ws' : W) : W := upW ws'.length ws ++ upW ws.length ws'
theorem upW_keys (n : Nat) (ws : W) : (upW n ws).map (·.1) = ws.map (·.1) := by unfold upW; rw [List.map_map]; rfl
theorem upW_len (n : Nat) (ws : W) : (upW n ws).length = ws.length := by unfold upW; rw [List.length_map]
theorem WOk.up {n : Nat} (h : WOk ws) : WOk (upW n ws) := by
  refine ⟨fun p hp => ?_, fun p hp => ?_, by rw [upW_keys]; exact h.nd, by rw [upW_len]; exact h.few⟩
  · obtain ⟨z, hz, e⟩ := List.mem_map.mp hp
    subst e
    exact h.nm z hz
  · obtain ⟨z, hz, e⟩ := List.mem_map.mp hp
    subst e
    have := h.nn z hz
    show 0 ≤ z.2 + (n : Int)
    omega
theorem crW_ok (ok : WOk ws) (ok' : WOk ws') (ap : Apart ws ws') (hl : ws.length + ws'.length ≤ 60) : WOk (crW ws ws') := by
  refine ok.up.app ok'.up ?_ (by rw [upW_len, upW_len]; exact hl)
  unfold Apart
  rw [upW_keys, upW_keys]
  exact ap
theorem up_lc {vs : List Nat} {δ : DEnv} {i j : Nat} {n : Nat} {G1 : DH} (h : G1.ob d = some (.dct false (wd ws))) (hl : ws.length ≤ 60) {we : WE}
    (step : ∀ (p : Str × Int) (G' : DH) (Y : DK), Sub G1 G' → Y (.tup [.str p.1, .int (p.2 + n)]) G' → we (((wipeD δ vs).set i (some (.str p.1))).set j (some (.int p.2))) G' Y)
    (q : ∀ p G2, G1.ob p = none → Sub (G1.put p (.lst true (itemsD (wd (upW n ws))))) G2 → Q (.ref p) G2) :
    LcBody (.tp [.nm i, .nm j]) (fun _ G Q => Q true G) we vs δ Q (FrzAt d (wd ws)) ((wd ws).map fun p => .tup [kD p.1, p.2]) G1 := by
  rw [wd_items]
  refine lcX (itemsD (wd (upW n ws))) (fun G' s => s.ob _ _ h) (by unfold itemsD; rw [List.length_map, List.length_map, wd_len, upW_len]) (by unfold itemsD; rw [List.length_map, wd_len, upW_len]; omega) (fun i x y G' Y hx hy s hY => ?_) q
  rw [List.getElem?_map] at hx
  obtain ⟨p, hp, e⟩ := Option.map_eq_some_iff.mp hx
  subst e
  have ey : y = .tup [.str p.1, .int (p.2 + n)] := by
    unfold itemsD wd upW at hy
    rw [List.map_map, List.map_map, List.getElem?_map, hp] at hy
    exact (Option.some.inj hy).symm
  subst ey
  exact ⟨_, asg2 rfl, step p G' Y s (hY G' (Sub.refl G'))⟩
theorem t_crossed (kf : KF K) (h : PartyAt K G a d ws) (h' : PartyAt K G b d' ws') (ok : WOk ws) (ok' : WOk ws') (ap : Apart ws ws') (hl : ws.length + ws'.length ≤ 60) (q : ∀ a d G', G.ob a = none → Sub G G' → PartyAt K G' a d (srtW (crW ws ws')) → Q (.ref a) G') : sp_crossed K [.ref a, .ref b] G Q E := by
  refine wSp_mk rfl ?_
  unfold w_crossed
  dsimp only [wSeq, wSetIx, wOp, wC, wB, wIfS, wAsg, wCB, wCons, wNil, wRet, wRetN, wAnd, wOr, wNot, wAndV, wOrV, wNotV, wIf, wTup, wLst, wBM, wNext, wExpr, wUn, wChain, wCall, wSl, wPart, wNoPart, wNever, wLkS, wStar, wStarItems, wListItems, wSumVals, wFld, wSetFld, wMake, wMeth, wCallK, wDisp, wEmp, wPairs, wLk, wBreak, wCont, asg, asgs]
  refine x_var rfl (x_var rfl (t_check_apart kf h h' ap (by omega) ?_))
  refine x_lc (x_wiItems ?_)
  dsimp only [wSeq, wSetIx, wOp, wC, wB, wIfS, wAsg, wCB, wCons, wNil, wRet, wRetN, wAnd, wOr, wNot, wAndV, wOrV, wNotV, wIf, wTup, wLst, wBM, wNext, wExpr, wUn, wChain, wCall, wSl, wPart, wNoPart, wNever, wLkS, wStar, wStarItems, wListItems, wSumVals, wFld, wSetFld, wMake, wMeth, wCallK, wDisp, wEmp, wPairs, wLk, wBreak, wCont, asg, asgs]
  refine x_var rfl ⟨a, _, .ref d, rfl, h.p, rfl, Or.inl ⟨d, _, rfl, h.w, ?_⟩⟩
  refine up_lc (n := ws'.length) h.w (by omega) (fun p G' Y s hY => ?_) (fun p1 G1 hp1 s1 => ?_)
  · have h2 := h'.sub s
    dsimp only [wSeq, wSetIx, wOp, wC, wB, wIfS, wAsg, wCB, wCons, wNil, wRet, wRetN, wAnd, wOr, wNot, wAndV, wOrV, wNotV, wIf, wTup, wLst, wBM, wNext, wExpr, wUn, wChain, wCall, wSl, wPart, wNoPart, wNever, wLkS, wStar, wStarItems, wListItems, wSumVals, wFld, wSetFld, wMake, wMeth, wCallK, wDisp, wEmp, wPairs, wLk, wBreak, wCont, asg, asgs]
    refine x_var rfl (x_var rfl (x_var rfl ?_))
    refine ⟨b, _, .ref d', rfl, h2.p, rfl, x_lenD h2.w (x_addI ⟨by show 2 ≤ sizeLine; decide, ?_⟩)⟩
    rw [wd_len]; exact hY
  have s2 := ((Sub.refl G).new hp1).trans s1
  have hA := h.sub s2
  have hB := h'.sub s2
  refine ⟨_, rfl, ?_⟩
  refine x_var rfl ?_
  refine x_lc (x_wiItems ?_)
  dsimp only [wSeq, wSetIx, wOp, wC, wB, wIfS, wAsg, wCB, wCons, wNil, wRet, wRetN, wAnd, wOr, wNot, wAndV, wOrV, wNotV, wIf, wTup, wLst, wBM, wNext, wExpr, wUn, wChain, wCall, wSl, wPart, wNoPart, wNever, wLkS, wStar, wStarItems, wListItems, wSumVals, wFld, wSetFld, wMake, wMeth, wCallK, wDisp, wEmp, wPairs, wLk, wBreak, wCont, asg, asgs]
  refine x_var rfl ⟨b, _, .ref d', rfl, hB.p, rfl, Or.inl ⟨d', _, rfl, hB.w, ?_⟩⟩
  refine up_lc (n := ws.length) hB.w (by omega) (fun p G' Y s hY => ?_) (fun p2 G2 hp2 s3 => ?_)
  · have h2 := hA.sub s
    dsimp only [wSeq, wSetIx, wOp, wC, wB, wIfS, wAsg, wCB, wCons, wNil, wRet, wRetN, wAnd, wOr, wNot, wAndV, wOrV, wNotV, wIf, wTup, wLst, wBM, wNext, wExpr, wUn, wChain, wCall, wSl, wPart, wNoPart, wNever, wLkS, wStar, wStarItems, wListItems, wSumVals, wFld, wSetFld, wMake, wMeth, wCallK, wDisp, wEmp, wPairs, wLk, wBreak, wCont, asg, asgs]
    refine x_var rfl (x_var rfl (x_var rfl ?_))
    refine ⟨a, _, .ref d, rfl, h2.p, rfl, x_lenD h2.w (x_addI ⟨by show 2 ≤ sizeLine; decide, ?_⟩)⟩
    rw [wd_len]; exact hY
  have s4 := ((Sub.refl G1).new hp2).trans s3
  have e1 : G2.ob p1 = some (.lst true (itemsD (wd (upW ws'.length ws)))) := s4.ob _ _ (s1.ob _ _ DH.put_same)
  have e2 : G2.ob p2 = some (.lst true (itemsD (wd (upW ws.length ws')))) := s3.ob _ _ DH.put_same
  refine x_addL e1 e2 ?_ fun p hp => ?_
  · unfold itemsD
    rw [List.length_map, List.length_map, wd_len, wd_len, upW_len, upW_len]
    have := sizeBig (Nat.le_refl 1000000)
    omega
  have s5 := (Sub.refl G2).new (o := .lst true (itemsD (wd (upW ws'.length ws)) ++ itemsD (wd (upW ws.length ws')))) hp
  have sA := (s2.trans s4).trans s5
  exact x_make (.inl ⟨p, true, rfl, DH.put_same⟩) ((rows_items _).app (rows_items _)) (crW_ok ok ok' ap hl) fun a' d' G' ha s' pa => fgI (Sub.refl G') (q a' d' G' (sA.none ha) (sA.trans s') pa)
end
end Q7

namespace Q7
open PySem PySem.Spec PyProof.Rows L2
/-! ### webs of two parties -/
def Lc2Body (T : Tgt) (wt : WT) (wi1 : WI) (T1 : Tgt) (wt1 : WT) (we : WE) (vs vs1 : List Nat) (δ : DEnv) (Q : DK) (S : DH → Prop) (items : List D) (G1 : DH) : Prop :=
  ∀ p, G1.ob p = none → ∃ I : Nat → DH → Prop, I 0 (G1.put p (.lst true [])) ∧ (∀ i G', I i G' → S G') ∧
  (∀ i x G', items[i]? = some x → I i G' → ∃ δ2, asg G' T x (wipeD δ vs) = some δ2 ∧ wt δ2 G' fun b G2 => if b = true then
    wi1 δ2 G2 fun S1 items1 G3 => ∃ J : Nat → DH → Prop, J 0 G3 ∧ (∀ j G', J j G' → S1 G') ∧
      (∀ j y G', items1[j]? = some y → J j G' → ∃ δ3, asg G' T1 y (wipeD δ2 vs1) = some δ3 ∧ wt1 δ3 G' fun c G4 => if c = true then we δ3 G4 fun z G5 => ∃ acc, G5.ob p = some (.lst true acc) ∧ acc.length < sizeLine ∧ J (j + 1) (G5.put p (.lst true (acc ++ [z]))) else J (j + 1) G4) ∧
      (∀ G', J items1.length G' → I (i + 1) G') else I (i + 1) G2) ∧
  (∀ G', I items.length G' → Q (.ref p) G')
theorem x_lc2 {wi : WI} {T T1 : Tgt} {wt wt1 : WT} {wi1 : WI} {we : WE} {vs vs1 : List Nat} {δ : DEnv} {G : DH} {Q : DK} (h : wi δ G fun S items G1 => Lc2Body T wt wi1 T1 wt1 we vs vs1 δ Q S items G1) : wLC2 wi T wt wi1 T1 wt1 we vs vs1 δ G Q := h
/-- the inner pass -/
def InBody (p : Addr) (T1 : Tgt) (we : WE) (vs1 : List Nat) (δ2 : DEnv) (N : DH → Prop) (S1 : DH → Prop) (items1 : List D) (G3 : DH) : Prop :=
  ∃ J : Nat → DH → Prop, J 0 G3 ∧ (∀ j G', J j G' → S1 G') ∧
      (∀ j y G', items1[j]? = some y → J j G' → ∃ δ3, asg G' T1 y (wipeD δ2 vs1) = some δ3 ∧ (fun (_ : DEnv) G (Q : Bool → DH → Prop) => Q true G) δ3 G' fun c G4 => if c = true then we δ3 G4 fun z G5 => ∃ acc, G5.ob p = some (.lst true acc) ∧ acc.length < sizeLine ∧ J (j + 1) (G5.put p (.lst true (acc ++ [z]))) else J (j + 1) G4) ∧
      (∀ G', J items1.length G' → N G')
section
variable {G1 : DH} {S : DH → Prop} {items : List D} {Q : DK} {T T1 : Tgt} {we : WE} {wi1 : WI} {vs vs1 : List Nat} {δ : DEnv}
theorem inX {p : Addr} {δ2 : DEnv} {N S1 : DH → Prop} {items1 : List D} {G3 : DH} {base : List D} (L : List D) (hG : G1.ob p = none) (s0 : Sub (G1.put p (.lst true base)) G3) (hS : ∀ G', Sub G1 G' → S1 G') (hl : items1.length = L.length) (hz : base.length + L.length ≤ 1000000)
    (step : ∀ (j : Nat) (y z : D) (G' : DH) (Y : DK), items1[j]? = some y → L[j]? = some z → Sub G1 G' → (∀ G3, Sub G' G3 → Y z G3) → ∃ δ3, asg G' T1 y (wipeD δ2 vs1) = some δ3 ∧ we δ3 G' Y)
    (fin : ∀ G', Sub (G1.put p (.lst true (base ++ L))) G' → N G') : InBody p T1 we vs1 δ2 N S1 items1 G3 := by
  have s1 : ∀ ds, Sub G1 (G1.put p (.lst true ds)) := fun ds => (Sub.refl G1).new hG
  refine ⟨fun j G' => Sub (G1.put p (.lst true (base ++ L.take j))) G', by show Sub _ _; rw [List.take_zero, List.append_nil]; exact s0, fun j G' h => hS G' ((s1 _).trans h), fun j y G' hy h => ?_, fun G' h => fin G' (by have h' : Sub _ _ := h; rw [hl, List.take_length] at h'; exact h')⟩
  have hlt : j < items1.length := (List.getElem?_eq_some_iff.mp hy).1
  have hL : L[j]? = some (L[j]'(by omega)) := List.getElem?_eq_getElem (by omega)
  obtain ⟨δ3, e3, h3⟩ := step j y _ G' (fun z G5 => ∃ acc, G5.ob p = some (.lst true acc) ∧ acc.length < sizeLine ∧ Sub (G1.put p (.lst true (base ++ L.take (j + 1)))) (G5.put p (.lst true (acc ++ [z])))) hy hL ((s1 _).trans h) fun G5 s5 => by
    refine ⟨_, s5.ob _ _ (h.ob _ _ DH.put_same), ?_, ?_⟩
    · rw [List.length_append, List.length_take]
      have := sizeBig hz
      omega
    · show Sub (G1.put p (.lst true (base ++ L.take (j + 1)))) _
      rw [List.take_add_one, hL, ← List.append_assoc]
      exact (h.trans s5).again
  exact ⟨δ3, e3, itT h3⟩
theorem lcX2 {α : Type} (xs : List α) (enc : α → D) (F : α → List D) (M : Nat) (hF : ∀ a, (F a).length ≤ M) (hM : xs.length * M ≤ 1000000) (hi : items = xs.map enc) (hS : ∀ G', Sub G1 G' → S G')
    (step : ∀ (i : Nat) (a : α) (p : Addr) (base : List D) (G' : DH) (N : DH → Prop), xs[i]? = some a → G1.ob p = none → Sub (G1.put p (.lst true base)) G' → base.length + (F a).length ≤ 1000000 → (∀ G2, Sub (G1.put p (.lst true (base ++ F a))) G2 → N G2) → ∃ δ2, asg G' T (enc a) (wipeD δ vs) = some δ2 ∧ wi1 δ2 G' fun S1 items1 G3 => InBody p T1 we vs1 δ2 N S1 items1 G3)
    (fin : ∀ p G', G1.ob p = none → Sub (G1.put p (.lst true (xs.flatMap F))) G' → Q (.ref p) G') : Lc2Body T (fun _ G Q => Q true G) wi1 T1 (fun _ G Q => Q true G) we vs vs1 δ Q S items G1 := by
  intro p hp
  subst hi
  have s1 : ∀ ds, Sub G1 (G1.put p (.lst true ds)) := fun ds => (Sub.refl G1).new hp
  have hlen : ∀ ys : List α, (ys.flatMap F).length ≤ ys.length * M := by
    intro ys
    induction ys with
    | nil => simp
    | cons y ys ih =>
      rw [List.flatMap_cons, List.length_append, List.length_cons, Nat.add_mul, Nat.one_mul]
      have := hF y
      omega
  refine ⟨fun i G' => Sub (G1.put p (.lst true ((xs.take i).flatMap F))) G', by show Sub _ _; rw [List.take_zero]; exact Sub.refl _, fun i G' h => hS G' ((s1 _).trans h), fun i x G' hx h => ?_, fun G' h => fin p G' hp (by have h' : Sub _ _ := h; rw [List.length_map, List.take_length] at h'; exact h')⟩
  rw [List.getElem?_map] at hx
  obtain ⟨a, ha, e⟩ := Option.map_eq_some_iff.mp hx
  subst e
  have htk : xs.take (i + 1) = xs.take i ++ [a] := by rw [List.take_add_one, ha]; rfl
  have hlt : i < xs.length := (List.getElem?_eq_some_iff.mp ha).1
  have h2 := hlen (xs.take (i + 1))
  rw [htk, List.flatMap_append, List.length_append] at h2
  have e1 : List.flatMap F [a] = F a := by simp
  rw [e1, ← htk] at h2
  have h3 : (xs.take (i + 1)).length * M ≤ xs.length * M := Nat.mul_le_mul_right _ (by rw [List.length_take]; omega)
  obtain ⟨δ2, e2, h4⟩ := step i a p ((xs.take i).flatMap F) G' (fun G2 => Sub (G1.put p (.lst true ((xs.take (i + 1)).flatMap F))) G2) ha hp h (by omega) fun G2 h5 => by
    show Sub _ _
    rw [htk, List.flatMap_append, e1]
    exact h5
  exact ⟨δ2, e2, itT h4⟩
end
section
variable {K : PySem.W.Frag} {G : DH} {Q : DK} {E : DX} {a b d d' l r : Addr} {ds es : List D} {ws ws' : W} {x y : D} {hs hs' : List Hand}
theorem t_check_webs (kf : KF K) (h : PartyAt K G a d ws) (h' : PartyAt K G b d' ws') (ap : Apart ws ws') (hl : ws.length ≤ 60) (hx : SeqD x ds G) (hd : HandsD ds hs G) (ok : WebOk (ws.map (·.1)) hs) (hy : SeqD y es G) (hd' : HandsD es hs' G) (ok' : WebOk (ws'.map (·.1)) hs') (q : Q .non G) : sp_check_webs K [.ref a, .ref b, x, y] G Q E := by
  refine wSp_mk rfl ?_
  unfold w_check_webs
  dsimp only [wSeq, wSetIx, wOp, wC, wB, wIfS, wAsg, wCB, wCons, wNil, wRet, wRetN, wAnd, wOr, wNot, wAndV, wOrV, wNotV, wIf, wTup, wLst, wBM, wNext, wExpr, wUn, wChain, wCall, wSl, wPart, wNoPart, wNever, wLkS, wStar, wStarItems, wListItems, wSumVals, wFld, wSetFld, wMake, wMeth, wCallK, wDisp, wEmp, wPairs, wLk, wBreak, wCont, asg, asgs]
  refine x_var rfl (x_var rfl (t_check_apart kf h h' ap hl ?_))
  refine x_var rfl (x_var rfl (t_check_web h hx hd ok ?_))
  exact x_var rfl (x_var rfl (t_check_web h' hy hd' ok' (fg0 q)))
theorem SeqD.star (h : SeqD x ds G) : (∃ a, x = .ref a ∧ LstAt a ds G) ∨ x = .tup ds := by
  rcases h with ⟨a, w, e, h⟩ | e
  · exact .inl ⟨a, e, w, h⟩
  · exact .inr e
/-- the hands of two webs, by value -/
theorem hands_lc {vs : List Nat} {δ : DEnv} {n : Nat} {we : WE} (hh : HandsD ds hs G) (hl : G.ob l = some (.lst true ds)) (hz : hs.length ≤ 100000)
    (step : ∀ (d : D) (G' : DH) (Y : DK), tupD [d] G' Y → we ((wipeD δ vs).set n (some d)) G' Y)
    (q : ∀ p G2, G.ob p = none → Sub (G.put p (.lst true (hs.map hD))) G2 → Q (.ref p) G2) : LcBody (.nm n) (fun _ G Q => Q true G) we vs δ Q (LstAt l ds) ds G := by
  refine lcX (hs.map hD) (fun G' s => ⟨true, s.ob _ _ hl⟩) (by rw [List.length_map]; exact hh.length) (by rw [List.length_map]; omega) (fun i x y G' Y hx hy s hY => ?_) q
  obtain ⟨p, hp, hpr⟩ := hh.at hx
  rw [List.getElem?_map, hp] at hy
  have e2 : y = hD p := (Option.some.inj hy).symm
  subst e2
  exact ⟨_, rfl, step x G' Y ((seq_unp (handOf_unp (handOf_sub s hpr))).tup (hY G' (Sub.refl G')))⟩
theorem t_webs_joined (kf : KF K) (h : PartyAt K G a d ws) (h' : PartyAt K G b d' ws') (ap : Apart ws ws') (hl : ws.length ≤ 60) (hx : SeqD x ds G) (hd : HandsD ds hs G) (ok : WebOk (ws.map (·.1)) hs) (hy : SeqD y es G) (hd' : HandsD es hs' G) (ok' : WebOk (ws'.map (·.1)) hs')
    (q : ∀ p, G.ob p = none → Q (.ref p) (G.put p (.lst true ((srtH (hs ++ hs')).map hD)))) : sp_webs_joined K [.ref a, .ref b, x, y] G Q E := by
  refine wSp_mk rfl ?_
  unfold w_webs_joined
  dsimp only [wSeq, wSetIx, wOp, wC, wB, wIfS, wAsg, wCB, wCons, wNil, wRet, wRetN, wAnd, wOr, wNot, wAndV, wOrV, wNotV, wIf, wTup, wLst, wBM, wNext, wExpr, wUn, wChain, wCall, wSl, wPart, wNoPart, wNever, wLkS, wStar, wStarItems, wListItems, wSumVals, wFld, wSetFld, wMake, wMeth, wCallK, wDisp, wEmp, wPairs, wLk, wBreak, wCont, asg, asgs]
  have f1 := ok.few
  have f2 := ok'.few
  refine x_var rfl (x_var rfl (x_var rfl (x_var rfl (t_check_webs kf h h' ap hl hx hd ok hy hd' ok' ?_))))
  refine x_lc (x_wiE ?_)
  dsimp only [wSeq, wSetIx, wOp, wC, wB, wIfS, wAsg, wCB, wCons, wNil, wRet, wRetN, wAnd, wOr, wNot, wAndV, wOrV, wNotV, wIf, wTup, wLst, wBM, wNext, wExpr, wUn, wChain, wCall, wSl, wPart, wNoPart, wNever, wLkS, wStar, wStarItems, wListItems, wSumVals, wFld, wSetFld, wMake, wMeth, wCallK, wDisp, wEmp, wPairs, wLk, wBreak, wCont, asg, asgs]
  refine x_var rfl ⟨ds, hx.star, x_var rfl ⟨es, hy.star, ?_⟩⟩
  rw [List.append_nil]
  refine ⟨?_, fun p hp => ?_⟩
  · rw [List.length_append, hd.length, hd'.length]
    have := sizeBig (Nat.le_refl 1000000)
    omega
  have s := (Sub.refl G).new (o := .lst true (ds ++ es)) hp
  refine Or.inl ⟨p, _, rfl, ⟨true, DH.put_same⟩, ?_⟩
  refine hands_lc ((hd.app hd').sub s) DH.put_same (by rw [List.length_append]; omega) (fun z G' Y hz => ?_) (fun p2 G2 hp2 s2 => ?_)
  · dsimp only [wSeq, wSetIx, wOp, wC, wB, wIfS, wAsg, wCB, wCons, wNil, wRet, wRetN, wAnd, wOr, wNot, wAndV, wOrV, wNotV, wIf, wTup, wLst, wBM, wNext, wExpr, wUn, wChain, wCall, wSl, wPart, wNoPart, wNever, wLkS, wStar, wStarItems, wListItems, wSumVals, wFld, wSetFld, wMake, wMeth, wCallK, wDisp, wEmp, wPairs, wLk, wBreak, wCont, asg, asgs]
    exact x_var rfl hz
  · have s3 := s.trans (((Sub.refl _).new hp2).trans s2)
    refine sort_hands (s2.ob _ _ DH.put_same) fun p3 hp3 => ?_
    exact fgI (s3.put p3 _) (q p3 (s3.none hp3))
def acrW (ws ws' : W) : List Hand := ws.flatMap fun p => ws'.map fun q => hnd p.1 q.1
theorem t_webs_crossed (kf : KF K) (h : PartyAt K G a d ws) (h' : PartyAt K G b d' ws') (ap : Apart ws ws') (hl : ws.length ≤ 60) (hl' : ws'.length ≤ 60) (hx : SeqD x ds G) (hd : HandsD ds hs G) (ok : WebOk (ws.map (·.1)) hs) (hy : SeqD y es G) (hd' : HandsD es hs' G) (ok' : WebOk (ws'.map (·.1)) hs')
    (q : ∀ p, G.ob p = none → Q (.ref p) (G.put p (.lst true ((srtH (hs ++ hs' ++ acrW ws ws')).map hD)))) : sp_webs_crossed K [.ref a, .ref b, x, y] G Q E := by
  refine wSp_mk rfl ?_
  unfold w_webs_crossed
  dsimp only [wSeq, wSetIx, wOp, wC, wB, wIfS, wAsg, wCB, wCons, wNil, wRet, wRetN, wAnd, wOr, wNot, wAndV, wOrV, wNotV, wIf, wTup, wLst, wBM, wNext, wExpr, wUn, wChain, wCall, wSl, wPart, wNoPart, wNever, wLkS, wStar, wStarItems, wListItems, wSumVals, wFld, wSetFld, wMake, wMeth, wCallK, wDisp, wEmp, wPairs, wLk, wBreak, wCont, asg, asgs]
  have f1 := ok.few
  have f2 := ok'.few
  have hM : ws.length * 60 ≤ 3600 := by omega
  refine x_var rfl (x_var rfl (x_var rfl (x_var rfl (t_check_webs kf h h' ap hl hx hd ok hy hd' ok' ?_))))
  refine x_lc2 (x_wiE ?_)
  dsimp only [wSeq, wSetIx, wOp, wC, wB, wIfS, wAsg, wCB, wCons, wNil, wRet, wRetN, wAnd, wOr, wNot, wAndV, wOrV, wNotV, wIf, wTup, wLst, wBM, wNext, wExpr, wUn, wChain, wCall, wSl, wPart, wNoPart, wNever, wLkS, wStar, wStarItems, wListItems, wSumVals, wFld, wSetFld, wMake, wMeth, wCallK, wDisp, wEmp, wPairs, wLk, wBreak, wCont, asg, asgs]
  refine x_var rfl ⟨a, _, .ref d, rfl, h.p, rfl, Or.inl (Or.inr (Or.inr (Or.inr ⟨d, _, rfl, h.w, ?_⟩)))⟩
  rw [wd_ks]
  refine lcX2 ws (fun p => .str p.1) (fun p => (ws'.map fun q => hnd p.1 q.1).map hD) 60 (fun p => by rw [List.length_map, List.length_map]; exact hl') (by omega) rfl (fun G' s => s.ob _ _ h.w) (fun i p pp base G' N hp hpp s hb hN => ?_) (fun pp G1 hpp s1 => ?_)
  · refine ⟨_, rfl, ?_⟩
    have sG : Sub G G' := ((Sub.refl G).new hpp).trans s
    have h2 := h'.sub sG
    refine x_wiE ?_
    dsimp only [wSeq, wSetIx, wOp, wC, wB, wIfS, wAsg, wCB, wCons, wNil, wRet, wRetN, wAnd, wOr, wNot, wAndV, wOrV, wNotV, wIf, wTup, wLst, wBM, wNext, wExpr, wUn, wChain, wCall, wSl, wPart, wNoPart, wNever, wLkS, wStar, wStarItems, wListItems, wSumVals, wFld, wSetFld, wMake, wMeth, wCallK, wDisp, wEmp, wPairs, wLk, wBreak, wCont, asg, asgs]
    refine x_var rfl ⟨b, _, .ref d', rfl, h2.p, rfl, Or.inl (Or.inr (Or.inr (Or.inr ⟨d', _, rfl, h2.w, ?_⟩)))⟩
    rw [wd_ks]
    refine inX ((ws'.map fun q => hnd p.1 q.1).map hD) hpp s (fun G' s => s.ob _ _ h'.w) (by rw [List.length_map, List.length_map, List.length_map]) hb (fun j y z G3 Y hy hz s3 hY => ?_) hN
    rw [List.getElem?_map] at hy
    obtain ⟨q, hq, e⟩ := Option.map_eq_some_iff.mp hy
    subst e
    rw [List.getElem?_map, List.getElem?_map, hq] at hz
    have ez : z = hD (hnd p.1 q.1) := (Option.some.inj hz).symm
    subst ez
    refine ⟨_, rfl, ?_⟩
    dsimp only [wSeq, wSetIx, wOp, wC, wB, wIfS, wAsg, wCB, wCons, wNil, wRet, wRetN, wAnd, wOr, wNot, wAndV, wOrV, wNotV, wIf, wTup, wLst, wBM, wNext, wExpr, wUn, wChain, wCall, wSl, wPart, wNoPart, wNever, wLkS, wStar, wStarItems, wListItems, wSumVals, wFld, wSetFld, wMake, wMeth, wCallK, wDisp, wEmp, wPairs, wLk, wBreak, wCont, asg, asgs]
    exact x_var rfl (x_var rfl (t_hand_of (hY G3 (Sub.refl G3))))
  · have e1 : (ws.flatMap fun p => (ws'.map fun q => hnd p.1 q.1).map hD) = (acrW ws ws').map hD := by
      unfold acrW
      rw [List.map_flatMap]
    rw [e1] at s1
    have s2 := ((Sub.refl G).new hpp).trans s1
    refine ⟨_, rfl, ?_⟩
    refine x_lc (x_wiE ?_)
    dsimp only [wSeq, wSetIx, wOp, wC, wB, wIfS, wAsg, wCB, wCons, wNil, wRet, wRetN, wAnd, wOr, wNot, wAndV, wOrV, wNotV, wIf, wTup, wLst, wBM, wNext, wExpr, wUn, wChain, wCall, wSl, wPart, wNoPart, wNever, wLkS, wStar, wStarItems, wListItems, wSumVals, wFld, wSetFld, wMake, wMeth, wCallK, wDisp, wEmp, wPairs, wLk, wBreak, wCont, asg, asgs]
    have hx1 := hx.sub s2
    have hy1 := hy.sub s2
    refine x_var rfl ⟨ds, hx1.star, x_var rfl ⟨es, hy1.star, ?_⟩⟩
    rw [List.append_nil]
    refine ⟨?_, fun p hp => ?_⟩
    · rw [List.length_append, hd.length, hd'.length]
      have := sizeBig (Nat.le_refl 1000000)
      omega
    have s := (Sub.refl G1).new (o := .lst true (ds ++ es)) hp
    refine Or.inl ⟨p, _, rfl, ⟨true, DH.put_same⟩, ?_⟩
    refine hands_lc (((hd.app hd').sub s2).sub s) DH.put_same (by rw [List.length_append]; omega) (fun z G' Y hz => ?_) (fun p2 G2 hp2 s4 => ?_)
    · dsimp only [wSeq, wSetIx, wOp, wC, wB, wIfS, wAsg, wCB, wCons, wNil, wRet, wRetN, wAnd, wOr, wNot, wAndV, wOrV, wNotV, wIf, wTup, wLst, wBM, wNext, wExpr, wUn, wChain, wCall, wSl, wPart, wNoPart, wNever, wLkS, wStar, wStarItems, wListItems, wSumVals, wFld, wSetFld, wMake, wMeth, wCallK, wDisp, wEmp, wPairs, wLk, wBreak, wCont, asg, asgs]
      exact x_var rfl hz
    · have s5 := s.trans (((Sub.refl _).new hp2).trans s4)
      refine x_var rfl (x_addL (s4.ob _ _ DH.put_same) (s5.ob _ _ (s1.ob _ _ DH.put_same)) ?_ fun p3 hp3 => ?_)
      · have hz : (acrW ws ws').length ≤ 3600 := by
          have : ∀ us : W, (acrW us ws').length ≤ us.length * 60 := by
            intro us
            induction us with
            | nil => simp [acrW]
            | cons u us ih =>
              have e : acrW (u :: us) ws' = (ws'.map fun q => hnd u.1 q.1) ++ acrW us ws' := rfl
              rw [e, List.length_append, List.length_map, List.length_cons]
              omega
          have := this ws
          omega
        rw [List.length_map, List.length_map, List.length_append]
        have := sizeBig (Nat.le_refl 1000000)
        omega
      rw [← List.map_append]
      have s6 := (s2.trans s5).trans ((Sub.refl G2).new (o := .lst true ((hs ++ hs' ++ acrW ws ws').map hD)) hp3)
      refine sort_hands DH.put_same fun p4 hp4 => ?_
      exact fgI (s6.put p4 _) (q p4 (s6.none hp4))
end
end Q7

namespace Q7
open PySem PySem.Spec PyProof.Rows L2
/-! ### the stream moves on -/
def fr (G : DH) : DH := { G with st := none }
def SA (G : DH) (a : Addr) (n : Int) : Prop := ∃ S, G.st = some S ∧ S.a = a ∧ S.ok n
theorem SA.mono {G : DH} {a : Addr} {n m : Int} (h : SA G a n) (hm : n ≤ m) : SA G a m := by
  obtain ⟨S, e, ea, ok⟩ := h
  exact ⟨S, e, ea, ok.h1, ok.h3, ok.h2.1, by have := ok.h2.2; omega⟩
theorem SA.put {G : DH} {a : Addr} {n : Int} (h : SA G a n) (p : Addr) (o : DO) : SA (G.put p o) a n := h
theorem SA.sub {G G' : DH} {a : Addr} {n : Int} (h : SA G a n) (s : Sub G G') : SA G' a n := by
  obtain ⟨S, e, ea, ok⟩ := h
  exact ⟨S, s.st S e, ea, ok⟩
theorem Sub.fr {G G' : DH} (s : Sub G G') : Sub (fr G) G' := ⟨s.ob, fun _ e => nomatch e⟩
theorem Sub.frt {G G' G2 : DH} (s : Sub (Q7.fr G) G') (s' : Sub (Q7.fr G') G2) : Sub (Q7.fr G) G2 := ⟨fun a o e => s'.ob a o (s.ob a o e), fun _ e => nomatch e⟩
theorem Sub.frs {G G' : DH} (s : ∀ a o, G.ob a = some o → G'.ob a = some o) : Sub (Q7.fr G) G' := ⟨s, fun _ e => nomatch e⟩
theorem Sub.frr (G : DH) : Sub (Q7.fr G) G := ⟨fun _ _ e => e, fun _ e => nomatch e⟩
theorem fr_put {G : DH} {p : Addr} {o : DO} : (fr G).put p o = fr (G.put p o) := rfl
/-- what is new -/
def diff (G' G : DH) : DH := ⟨none, fun a => if (G.ob a).isSome then none else G'.ob a⟩
theorem diff_sub (G' G : DH) : Sub (diff G' G) G' := ⟨fun a o e => by
  unfold diff at e
  dsimp only at e
  split at e
  · cases e
  · exact e, fun _ e => nomatch e⟩
theorem diff_mono {G G' G2 : DH} (s : Sub (fr G') G2) : Sub (diff G' G) (diff G2 G) := ⟨fun a o e => by
  unfold diff at e ⊢
  dsimp only at e ⊢
  split at e
  · cases e
  · rename_i h
    rw [if_neg h]
    exact s.ob a o e, fun _ e => nomatch e⟩
theorem diff_base {G G0 G' : DH} (s : Sub (fr G0) G) : Sub (diff G' G) (diff G' G0) := ⟨fun a o e => by
  unfold diff at e ⊢
  dsimp only at e ⊢
  split at e
  · cases e
  · rename_i h
    rw [if_neg]
    · exact e
    · intro z
      obtain ⟨o', ho⟩ := Option.isSome_iff_exists.mp z
      rw [s.ob a o' ho] at h
      exact h rfl, fun _ e => nomatch e⟩
theorem diff_new {G G' : DH} {a : Addr} {o : DO} (h : G.ob a = none) (h' : G'.ob a = some o) : (diff G' G).ob a = some o := by
  unfold diff
  dsimp only
  rw [h]
  exact h'
/-- without one address -/
def rm (G : DH) (p : Addr) : DH := ⟨none, fun a => if a = p then none else G.ob a⟩
theorem rm_sub (G : DH) (p : Addr) : Sub (rm G p) G := ⟨fun a o e => by
  unfold rm at e
  dsimp only at e
  split at e
  · cases e
  · exact e, fun _ e => nomatch e⟩
theorem rm_mono {G G' : DH} (s : Sub (fr G) G') (p : Addr) : Sub (rm G p) (rm G' p) := ⟨fun a o e => by
  unfold rm at e ⊢
  dsimp only at e ⊢
  split at e
  · cases e
  · rename_i h
    rw [if_neg h]
    exact s.ob a o e, fun _ e => nomatch e⟩
theorem rm_put (G : DH) (p : Addr) (o : DO) : rm (G.put p o) p = rm G p := by
  unfold rm
  congr 1
  funext a
  split
  · rfl
  · rename_i h
    exact DH.put_ne h
theorem diff_rm {G G' : DH} {p : Addr} {o : DO} (h : G.ob p = some o) : Sub (diff G' G) (rm G' p) := ⟨fun a u e => by
  unfold diff at e
  unfold rm
  dsimp only at e ⊢
  split at e
  · cases e
  · rename_i h2
    rw [if_neg]
    · exact e
    · intro z
      subst z
      rw [h] at h2
      exact h2 rfl, fun _ e => nomatch e⟩
theorem rm_diff {G G' : DH} {p : Addr} (h : G.ob p = none) : diff (rm G' p) G = rm (diff G' G) p := by
  unfold rm diff
  congr 1
  funext a
  dsimp only
  split <;> split <;> first | rfl | simp_all
theorem erase_perm {α : Type} {w : α} : ∀ {ls : List α} {j : Nat}, ls[j]? = some w → ([w] ++ ls.eraseIdx j).Perm ls
  | [], _, h => by simp at h
  | x :: ls, 0, h => by
    have e : x = w := Option.some.inj h
    subst e
    exact List.Perm.refl _
  | x :: ls, j + 1, h => by
    have ih := erase_perm (ls := ls) (j := j) (by simpa using h)
    show (w :: x :: ls.eraseIdx j).Perm (x :: ls)
    exact (List.Perm.swap x w _).trans (ih.cons x)
abbrev big : Int := 1099511627776
section
variable {K : PySem.W.Frag} {G : DH} {Q : DK} {E : DX} {a b d l r : Addr} {ds : List D} {ws : W} {x : D} {n : Int}
theorem t_draw {m : Int} (h : SA G a n) (hn : n < big) (h1 : 1 ≤ m) (h2 : m < 1073741824) (q : ∀ (i : Nat) G', (i : Int) < m → Sub (fr G) G' → SA G' a (n + 1) → (∀ b, G'.ob b = G.ob b) → Q (.int i) G') : sp__law_draw K [.ref a, .int m] G Q E := by
  obtain ⟨S, e, ea, ok⟩ := h
  refine ⟨S, m, n, e, ok, hn, by rw [ea], h1, h2, fun d S' d1 d2 a1 a2 ok' => ?_⟩
  have hd : d = ((d.toNat : Nat) : Int) := by omega
  rw [hd]
  exact q d.toNat _ (by omega) (Sub.frs fun _ _ e => e) ⟨S', rfl, a1.trans ea, ok'⟩ fun _ => rfl
theorem t_pickL {w : Bool} (h : SA G a n) (hn : n < big) (hb : G.ob b = some (.lst w ds)) (h0 : 0 < ds.length) (hl : ds.length ≤ 1000000) (q : ∀ v G', v ∈ ds → Sub (fr G) G' → SA G' a (n + 1) → (∀ b, G'.ob b = G.ob b) → Q v G') : sp__law_pick K [.ref a, .ref b] G Q E := by
  refine wSp_mk rfl ?_
  unfold w__law_pick
  dsimp only [wSeq, wSetIx, wOp, wC, wB, wIfS, wAsg, wCB, wCons, wNil, wRet, wRetN, wAnd, wOr, wNot, wAndV, wOrV, wNotV, wIf, wTup, wLst, wBM, wNext, wExpr, wUn, wChain, wCall, wSl, wPart, wNoPart, wNever, wLkS, wStar, wStarItems, wListItems, wSumVals, wFld, wSetFld, wMake, wMeth, wCallK, wDisp, wEmp, wPairs, wLk, wBreak, wCont, asg, asgs]
  refine x_var rfl (x_var rfl (x_var rfl (x_lenL hb (t_draw h hn (by omega) (by omega) fun i G' hi s sa hb' => ?_))))
  have hlt : i < ds.length := by omega
  exact x_ixL (by rw [hb']; exact hb) (atI_nat (List.getElem?_eq_getElem hlt)) (fg0 (q _ G' (List.getElem_mem hlt) s sa hb'))
theorem t_pickS {z : Str} (h : SA G a n) (hn : n < big) (h0 : 0 < z.length) (hl : z.length ≤ 1000000) (q : ∀ c G', c ∈ z.cps.toList → Sub (fr G) G' → SA G' a (n + 1) → (∀ b, G'.ob b = G.ob b) → Q (.str ⟨#[c]⟩) G') : sp__law_pick K [.ref a, .str z] G Q E := by
  refine wSp_mk rfl ?_
  unfold w__law_pick
  dsimp only [wSeq, wSetIx, wOp, wC, wB, wIfS, wAsg, wCB, wCons, wNil, wRet, wRetN, wAnd, wOr, wNot, wAndV, wOrV, wNotV, wIf, wTup, wLst, wBM, wNext, wExpr, wUn, wChain, wCall, wSl, wPart, wNoPart, wNever, wLkS, wStar, wStarItems, wListItems, wSumVals, wFld, wSetFld, wMake, wMeth, wCallK, wDisp, wEmp, wPairs, wLk, wBreak, wCont, asg, asgs]
  refine x_var rfl (x_var rfl (x_var rfl (x_lenS (sizeBig hl) (t_draw h hn (by omega) (by omega) fun i G' hi s sa hb' => ?_))))
  have hlt : i < z.cps.toList.length := by
    have : z.cps.toList.length = z.length := rfl
    omega
  exact x_ixS (sizeBig hl) (atI_nat (List.getElem?_eq_getElem hlt)) (fg0 (q _ G' (List.getElem_mem hlt) s sa hb'))
theorem Sub.again2 {X G' : DH} {p q : Addr} {o1 o2 u1 u2 : DO} (h : p ≠ q) (s : Sub ((X.put p o1).put q o2) G') : Sub ((X.put p u1).put q u2) ((G'.put p u1).put q u2) := by
  rw [DH.put_comm h] at s
  have s2 : Sub ((X.put q o2).put p u1) (G'.put p u1) := s.again
  rw [← DH.put_comm h] at s2
  exact s2.again
theorem t_mixed {xs : List D} (h : SA G a n) (hn : n + 100000 < big) (hx : SeqD x xs G) (hl : xs.length ≤ 100000)
    (q : ∀ p ys G', ys.Perm xs → G.ob p = none → Sub ((fr G).put p (.lst true ys)) G' → SA G' a (n + 100000) → Q (.ref p) G') : sp__law_mixed K [.ref a, x] G Q E := by
  refine wSp_mk rfl ?_
  unfold w__law_mixed
  dsimp only [wSeq, wSetIx, wOp, wC, wB, wIfS, wAsg, wCB, wCons, wNil, wRet, wRetN, wAnd, wOr, wNot, wAndV, wOrV, wNotV, wIf, wTup, wLst, wBM, wNext, wExpr, wUn, wChain, wCall, wSl, wPart, wNoPart, wNever, wLkS, wStar, wStarItems, wListItems, wSumVals, wFld, wSetFld, wMake, wMeth, wCallK, wDisp, wEmp, wPairs, wLk, wBreak, wCont, asg, asgs]
  refine x_var rfl (hx.list fun pl hpl => ?_)
  refine ⟨by show 0 ≤ sizeLine; omega, fun pf hpf => ⟨by show 2 ≤ sizeLine; decide, ?_⟩⟩
  refine ⟨_, rfl, ?_⟩
  have hne : pl ≠ pf := fun z => by subst z; rw [DH.put_same] at hpf; cases hpf
  have hf : G.ob pf = none := by rw [DH.put_ne hne.symm] at hpf; exact hpf
  refine x_for (x_wiR1 ?_)
  dsimp only [wSeq, wSetIx, wOp, wC, wB, wIfS, wAsg, wCB, wCons, wNil, wRet, wRetN, wAnd, wOr, wNot, wAndV, wOrV, wNotV, wIf, wTup, wLst, wBM, wNext, wExpr, wUn, wChain, wCall, wSl, wPart, wNoPart, wNever, wLkS, wStar, wStarItems, wListItems, wSumVals, wFld, wSetFld, wMake, wMeth, wCallK, wDisp, wEmp, wPairs, wLk, wBreak, wCont, asg, asgs]
  refine x_var rfl (x_lenL (by rw [DH.put_ne hne]; exact DH.put_same) (x_r1 xs.length (by omega) ?_))
  refine ⟨fun i δ' G' => ∃ c ls fs, δ' = [some (.ref a), some x, some (.ref pl), some (.ref pf), c] ∧ Sub (((fr G).put pl (.lst true ls)).put pf (.lst true fs)) G' ∧ SA G' a (n + i) ∧ ls.length + i = xs.length ∧ (fs ++ ls).Perm xs, ⟨none, xs, [], rfl, Sub.frr ((G.put pl (.lst true xs)).put pf (.lst true [])), by rw [Int.natCast_zero, Int.add_zero]; exact h, rfl, List.Perm.refl _⟩, fun _ _ _ _ => trivial, ?_, ?_⟩
  · rintro i y δ' G' hy ⟨c, ls, fs, rfl, s, sa, hi, hp⟩
    obtain ⟨ey, hlt⟩ := rngD_at hy
    subst ey
    refine ⟨_, rfl, ?_⟩
    dsimp only [wSeq, wSetIx, wOp, wC, wB, wIfS, wAsg, wCB, wCons, wNil, wRet, wRetN, wAnd, wOr, wNot, wAndV, wOrV, wNotV, wIf, wTup, wLst, wBM, wNext, wExpr, wUn, wChain, wCall, wSl, wPart, wNoPart, wNever, wLkS, wStar, wStarItems, wListItems, wSumVals, wFld, wSetFld, wMake, wMeth, wCallK, wDisp, wEmp, wPairs, wLk, wBreak, wCont, asg, asgs]
    have el : G'.ob pl = some (.lst true ls) := s.ob _ _ (by rw [DH.put_ne hne]; exact DH.put_same)
    have ef : G'.ob pf = some (.lst true fs) := s.ob _ _ DH.put_same
    refine x_var rfl ⟨Or.inl ⟨rfl, pf, _, rfl, ⟨true, ef⟩⟩, ?_⟩
    refine x_var rfl ⟨Or.inl ⟨rfl, pl, _, rfl, ⟨true, el⟩⟩, ?_⟩
    refine x_var rfl (x_var rfl (x_lenL el (t_draw sa (by omega) (by omega) (by omega) fun j G2 hj s2 sa2 hb2 => ?_)))
    have hjl : j < ls.length := by omega
    obtain ⟨w, hw⟩ : ∃ w, ls[j]? = some w := ⟨_, List.getElem?_eq_getElem hjl⟩
    refine Or.inr ⟨pl, ls, j, j, w, rfl, rfl, by rw [hb2]; exact el, by omega, by omega, (ixN_seq (i := (j : Nat)) (j := j) (by unfold ixN; rw [if_pos (by omega), if_pos (by omega), Int.toNat_natCast])).1, hw, ?_⟩
    refine x_app (by rw [DH.put_ne hne.symm, hb2]; exact ef) ?_ ?_
    · have := hp.length_eq
      rw [List.length_append] at this
      omega
    · refine ⟨_, ls.eraseIdx j, fs ++ [w], rfl, Sub.again2 hne (?_ : Sub (((fr G).put pl (.lst true ls)).put pf (.lst true fs)) G2), by rw [Int.natCast_add, ← Int.add_assoc]; exact sa2, ?_, ?_⟩
      · exact ⟨fun b o e => by rw [hb2]; exact s.ob b o e, fun _ e => nomatch e⟩
      · rw [List.length_eraseIdx_of_lt hjl]; omega
      · refine List.Perm.trans ?_ hp
        rw [List.append_assoc]
        refine List.Perm.append_left fs ?_
        exact erase_perm hw
  · rintro δ' G' ⟨c, ls, fs, rfl, s, sa, hi, hp⟩
    rw [rngD_len] at hi
    have e0 : ls = [] := List.eq_nil_of_length_eq_zero (by omega)
    subst e0
    rw [List.append_nil] at hp
    rw [rngD_len] at sa
    refine x_var rfl (fg0 (q pf fs G' hp hf ?_ (sa.mono (by omega))))
    refine Sub.trans (Sub.put ?_ pf _) s
    exact (Sub.refl (fr G)).new hpl
end
end Q7

namespace Q7
open PySem PySem.Spec PyProof.Rows L2
/-! ### hands, webs, dictionaries of the law -/
theorem mergeA_nodup {κ β : Type} [DecidableEq κ] {xs : List (κ × β)} (h : (xs.map (·.1)).Nodup) : mergeA [] xs = xs := foldA_nodup h
section
variable {K : PySem.W.Frag} {G : DH} {Q : DK} {E : DX} {a b d l r : Addr} {ds : List D} {ws : W} {x : D} {n : Int}
/-- dict([(k, v), ...]) -/
theorem x_dictL {w : Bool} (h : G.ob l = some (.lst w (itemsD (wd ws)))) (nd : (ws.map (·.1)).Nodup) (q : ∀ p, G.ob p = none → Q (.ref p) (G.put p (.dct true (wd ws)))) : dictD [.ref l] G Q := by
  refine Or.inl ⟨l, wd ws, rfl, ⟨w, h⟩, fun p hp => ?_⟩
  rw [mergeA_nodup (wd_nodup nd)]
  exact q p hp
theorem ks_map (ws : W) : (wd ws).map (·.1) = (ws.map (·.1)).map Sum.inr := by rw [wd_keys, List.map_map]; rfl
/-- all pairs of a row -/
def prsAt (gs : List Str) (i : Nat) : List Hand := (gs.drop (i + 1)).map fun o => (gs.getD i "", o)
def prs (gs : List Str) : List Hand := (List.range gs.length).flatMap (prsAt gs)
theorem prsAt_len (gs : List Str) (i : Nat) : (prsAt gs i).length ≤ gs.length := by
  unfold prsAt
  rw [List.length_map, List.length_drop]
  omega
theorem fm_len {α β : Type} {F : α → List β} {M : Nat} : ∀ ys : List α, (∀ y ∈ ys, (F y).length ≤ M) → (ys.flatMap F).length ≤ ys.length * M
  | [], _ => by simp
  | y :: ys, h => by
    have ih := fm_len ys fun z hz => h z (List.mem_cons_of_mem _ hz)
    have := h y List.mem_cons_self
    rw [List.flatMap_cons, List.length_append, List.length_cons, Nat.add_mul, Nat.one_mul]
    omega
theorem prs_len {gs : List Str} (h : gs.length ≤ 60) : (prs gs).length ≤ 3600 := by
  have h1 := fm_len (F := prsAt gs) (M := 60) (List.range gs.length) fun i _ => Nat.le_trans (prsAt_len gs i) h
  rw [List.length_range] at h1
  unfold prs
  omega
theorem t_hands {w : Bool} (h : G.ob d = some (.dct w (wd ws))) (hl : ws.length ≤ 60) (q : ∀ p, G.ob p = none → Q (.ref p) (G.put p (.lst true ((prs (srtS (ws.map (·.1)))).map hD)))) : sp__law_hands K [.ref d] G Q E := by
  refine wSp_mk rfl ?_
  unfold w__law_hands
  dsimp only [wSeq, wSetIx, wOp, wC, wB, wIfS, wAsg, wCB, wCons, wNil, wRet, wRetN, wAnd, wOr, wNot, wAndV, wOrV, wNotV, wIf, wTup, wLst, wBM, wNext, wExpr, wUn, wChain, wCall, wSl, wPart, wNoPart, wNever, wLkS, wStar, wStarItems, wListItems, wSumVals, wFld, wSetFld, wMake, wMeth, wCallK, wDisp, wEmp, wPairs, wLk, wBreak, wCont, asg, asgs]
  refine x_var rfl (sort_dict h (ks_map ws) (by rw [List.length_map]; omega) fun lg hlg => ?_)
  generalize hgs : srtS (ws.map (·.1)) = gs at q ⊢
  have hgl : gs.length = ws.length := by rw [← hgs, (srtS_perm _).length_eq, List.length_map]
  have s0 := (Sub.refl G).new (o := .lst true (gs.map .str)) hlg
  refine ⟨_, rfl, ?_⟩
  refine ⟨by show 0 ≤ sizeLine; omega, fun pf hpf => ⟨_, rfl, ?_⟩⟩
  have s1 := s0.trans ((Sub.refl _).new (o := .lst true []) hpf)
  have hne : lg ≠ pf := fun z => by subst z; rw [DH.put_same] at hpf; cases hpf
  have hf : G.ob pf = none := s0.none hpf
  refine x_for (x_wiR1 ?_)
  dsimp only [wSeq, wSetIx, wOp, wC, wB, wIfS, wAsg, wCB, wCons, wNil, wRet, wRetN, wAnd, wOr, wNot, wAndV, wOrV, wNotV, wIf, wTup, wLst, wBM, wNext, wExpr, wUn, wChain, wCall, wSl, wPart, wNoPart, wNever, wLkS, wStar, wStarItems, wListItems, wSumVals, wFld, wSetFld, wMake, wMeth, wCallK, wDisp, wEmp, wPairs, wLk, wBreak, wCont, asg, asgs]
  refine x_var rfl (x_lenL (by rw [DH.put_ne hne]; exact DH.put_same) ?_)
  rw [List.length_map]
  refine x_r1 gs.length (by omega) ?_
  refine ⟨fun i δ' G' => ∃ c, δ' = [some (.ref d), some (.ref lg), some (.ref pf), c, none] ∧ Sub ((G.put lg (.lst true (gs.map .str))).put pf (.lst true (((List.range i).flatMap (prsAt gs)).map hD))) G', ⟨none, rfl, Sub.refl _⟩, fun _ _ _ _ => trivial, ?_, ?_⟩
  · rintro i y δ' G' hy ⟨c, rfl, s⟩
    obtain ⟨ey, hlt⟩ := rngD_at hy
    rw [Int.zero_add] at ey
    subst ey
    refine ⟨_, rfl, ?_⟩
    dsimp only [wSeq, wSetIx, wOp, wC, wB, wIfS, wAsg, wCB, wCons, wNil, wRet, wRetN, wAnd, wOr, wNot, wAndV, wOrV, wNotV, wIf, wTup, wLst, wBM, wNext, wExpr, wUn, wChain, wCall, wSl, wPart, wNoPart, wNever, wLkS, wStar, wStarItems, wListItems, wSumVals, wFld, wSetFld, wMake, wMeth, wCallK, wDisp, wEmp, wPairs, wLk, wBreak, wCont, asg, asgs]
    have eg : G'.ob lg = some (.lst true (gs.map .str)) := s.ob _ _ (by rw [DH.put_ne hne]; exact DH.put_same)
    have ef : G'.ob pf = some (.lst true (((List.range i).flatMap (prsAt gs)).map hD)) := s.ob _ _ DH.put_same
    refine x_var rfl ⟨Or.inl ⟨rfl, pf, _, rfl, ⟨true, ef⟩⟩, ?_⟩
    refine x_lc (x_wiE ?_)
    dsimp only [wSeq, wSetIx, wOp, wC, wB, wIfS, wAsg, wCB, wCons, wNil, wRet, wRetN, wAnd, wOr, wNot, wAndV, wOrV, wNotV, wIf, wTup, wLst, wBM, wNext, wExpr, wUn, wChain, wCall, wSl, wPart, wNoPart, wNever, wLkS, wStar, wStarItems, wListItems, wSumVals, wFld, wSetFld, wMake, wMeth, wCallK, wDisp, wEmp, wPairs, wLk, wBreak, wCont, asg, asgs]
    refine x_var rfl (x_var rfl (x_addI ⟨_, rfl, Or.inl ⟨lg, _, rfl, ⟨true, eg⟩, fun p1 hp1 => ?_⟩⟩))
    have ei : ((i : Int) + 1) = ((i + 1 : Nat) : Int) := by omega
    rw [ei, cut_from, ← List.map_drop]
    have s2 := (Sub.refl G').new (o := .lst true ((gs.drop (i + 1)).map .str)) hp1
    refine Or.inl ⟨p1, _, rfl, ⟨true, DH.put_same⟩, ?_⟩
    refine lcX ((prsAt gs i).map hD) (fun G' s => ⟨true, s.ob _ _ DH.put_same⟩) (by unfold prsAt; rw [List.length_map, List.length_map, List.length_map]) (by have := prsAt_len gs i; rw [List.length_map]; omega) (fun j x y G3 Y hx hy s3 hY => ?_) (fun p2 G3 hp2 s3 => ?_)
    · rw [List.getElem?_map] at hx
      obtain ⟨o, ho, e⟩ := Option.map_eq_some_iff.mp hx
      subst e
      unfold prsAt at hy
      rw [List.getElem?_map, List.getElem?_map, ho] at hy
      have ey : y = hD (gs.getD i "", o) := (Option.some.inj hy).symm
      subst ey
      refine ⟨_, rfl, ?_⟩
      dsimp only [wSeq, wSetIx, wOp, wC, wB, wIfS, wAsg, wCB, wCons, wNil, wRet, wRetN, wAnd, wOr, wNot, wAndV, wOrV, wNotV, wIf, wTup, wLst, wBM, wNext, wExpr, wUn, wChain, wCall, wSl, wPart, wNoPart, wNever, wLkS, wStar, wStarItems, wListItems, wSumVals, wFld, wSetFld, wMake, wMeth, wCallK, wDisp, wEmp, wPairs, wLk, wBreak, wCont, asg, asgs]
      refine x_var rfl (x_var rfl (x_ixL (v := .str (gs.getD i "")) ((s2.trans s3).ob _ _ eg) (atI_nat ?_) (x_var rfl ⟨by show 2 ≤ sizeLine; decide, hY G3 (Sub.refl G3)⟩)))
      rw [List.getElem?_map, List.getElem?_eq_getElem hlt, List.getD_eq_getElem?_getD, List.getElem?_eq_getElem hlt]
      rfl
    · have s4 := s2.trans (((Sub.refl _).new (o := .lst true ((prsAt gs i).map hD)) hp2).trans s3)
      have h1 := fm_len (F := prsAt gs) (M := 60) (List.range i) fun i _ => Nat.le_trans (prsAt_len gs i) (by omega)
      have h2 := prsAt_len gs i
      rw [List.length_range] at h1
      refine x_ext (s4.ob _ _ ef) (s3.ob _ _ DH.put_same) (by rw [List.length_map, List.length_map]; omega) ?_
      refine ⟨_, rfl, ?_⟩
      have e1 : (List.range (i + 1)).flatMap (prsAt gs) = (List.range i).flatMap (prsAt gs) ++ prsAt gs i := by
        rw [List.range_succ, List.flatMap_append]
        simp
      rw [e1, List.map_append]
      exact (s.trans s4).again
  · rintro δ' G' ⟨c, rfl, s⟩
    rw [rngD_len] at s
    refine x_var rfl (fgI (Sub.trans (Sub.put s0 pf _) s) ?_)
    exact q pf hf
end
/-- what the pairs are -/
theorem prs_mem {gs : List Str} {h : Hand} (m : h ∈ prs gs) : ∃ i j, ∃ (hi : i < gs.length) (hj : j < gs.length), i < j ∧ h = (gs[i], gs[j]) := by
  obtain ⟨i, hi, m2⟩ := List.mem_flatMap.mp m
  rw [List.mem_range] at hi
  obtain ⟨o, ho, e⟩ := List.mem_map.mp m2
  obtain ⟨j, hj, ej⟩ := List.getElem_of_mem ho
  rw [List.length_drop] at hj
  rw [List.getElem_drop] at ej
  refine ⟨i, i + 1 + j, hi, by omega, by omega, ?_⟩
  rw [← e, ej]
  simp [hi]
theorem strLt_of {gs : List Str} (h : gs.Pairwise fun x y => strLt x y = true) {i j : Nat} (hi : i < gs.length) (hj : j < gs.length) (hij : i < j) : strLt gs[i] gs[j] = true := List.pairwise_iff_getElem.mp h i j hi hj hij
theorem srt_lt {ks : List Str} (nd : ks.Nodup) : (srtS ks).Pairwise fun x y => strLt x y = true := by
  have h1 := srtS_pw ks
  have h2 : (srtS ks).Nodup := (srtS_perm ks).nodup_iff.mpr nd
  refine List.Pairwise.imp₂ (fun x y hle hne => ?_) h1 h2
  cases e : strLt x y with
  | true => rfl
  | false =>
    refine absurd (leS_anti hle ?_) hne
    unfold leS
    rw [e]; rfl
theorem ltH_fst {p q : Hand} (h : strLt p.1 q.1 = true) : ltH p q = true := by
  unfold ltH
  split
  · rename_i e
    rw [e] at h
    unfold strLt at h
    have := of_decide_eq_true h
    exact absurd this (List.lt_irrefl _)
  · exact h
theorem ltH_snd {x y z : Str} (h : strLt y z = true) : ltH (x, y) (x, z) = true := by
  unfold ltH
  rw [if_pos rfl]; exact h
theorem prs_pw {gs : List Str} (h : gs.Pairwise fun x y => strLt x y = true) : (prs gs).Pairwise fun p q => ltH p q = true := by
  unfold prs
  rw [List.pairwise_flatMap]
  constructor
  · intro i hi
    rw [List.mem_range] at hi
    unfold prsAt
    rw [List.pairwise_map]
    exact (List.Pairwise.sublist (List.drop_sublist (i + 1) gs) h).imp fun hh => ltH_snd hh
  · refine List.pairwise_lt_range.imp_of_mem ?_
    intro i j hi hj hij p hp q hq
    rw [List.mem_range] at hi hj
    obtain ⟨o, _, e⟩ := List.mem_map.mp hp
    obtain ⟨o2, _, e2⟩ := List.mem_map.mp hq
    subst e; subst e2
    refine ltH_fst ?_
    simp only [List.getD_eq_getElem?_getD, List.getElem?_eq_getElem hi, List.getElem?_eq_getElem hj, Option.getD_some]
    exact strLt_of h hi hj hij
theorem web_ok {ks : List Str} {hs : List Hand} (nd : ks.Nodup) (hl : ks.length ≤ 60) (h : hs.Sublist (prs (srtS ks))) : WebOk ks hs := by
  have hp := srt_lt nd
  refine ⟨fun p hpm => ?_, List.Pairwise.sublist h (prs_pw hp), ?_⟩
  · obtain ⟨i, j, hi, hj, hij, e⟩ := prs_mem (h.subset hpm)
    subst e
    exact ⟨(srtS_perm ks).mem_iff.mp (List.getElem_mem hi), (srtS_perm ks).mem_iff.mp (List.getElem_mem hj), strLt_of hp hi hj hij⟩
  · have h1 := h.length_le
    have h2 := prs_len (gs := srtS ks) (by rw [(srtS_perm ks).length_eq]; exact hl)
    omega
end Q7

namespace Q7
open PySem PySem.Spec PyProof.Rows L2
/-! ### shaken, web, sorted of the law -/
theorem fd_mem {ks : List Str} {F : Str → Int} {p : Str × Int} (h : p ∈ fd ks F) : p.1 ∈ ks ∧ p.2 = F p.1 := by
  obtain ⟨g, hg, e⟩ := List.mem_map.mp h
  subst e
  exact ⟨hg, rfl⟩
section
variable {K : PySem.W.Frag} {G : DH} {Q : DK} {E : DX} {a b d l r : Addr} {ds : List D} {ws : W} {x : D} {n : Int} {hs : List Hand}
theorem t_law_shaken {w : Bool} (h : G.ob d = some (.dct w (wd ws))) (hx : SeqD x ds G) (hd : HandsD ds hs G) (hi : ∀ p ∈ hs, p.1 ∈ ws.map (·.1) ∧ p.2 ∈ ws.map (·.1)) (nd : (ws.map (·.1)).Nodup) (hl : ws.length ≤ 60)
    (q : ∀ p, G.ob p = none → Q (.ref p) (G.put p (.dct true (wd (fd (srtS (ws.map (·.1))) (cnt hs)))))) : sp__law_shaken K [.ref d, x] G Q E := by
  refine wSp_mk rfl ?_
  unfold w__law_shaken
  dsimp only [wSeq, wSetIx, wOp, wC, wB, wIfS, wAsg, wCB, wCons, wNil, wRet, wRetN, wAnd, wOr, wNot, wAndV, wOrV, wNotV, wIf, wTup, wLst, wBM, wNext, wExpr, wUn, wChain, wCall, wSl, wPart, wNoPart, wNever, wLkS, wStar, wStarItems, wListItems, wSumVals, wFld, wSetFld, wMake, wMeth, wCallK, wDisp, wEmp, wPairs, wLk, wBreak, wCont, asg, asgs]
  refine x_lc (x_wiE ?_)
  dsimp only [wSeq, wSetIx, wOp, wC, wB, wIfS, wAsg, wCB, wCons, wNil, wRet, wRetN, wAnd, wOr, wNot, wAndV, wOrV, wNotV, wIf, wTup, wLst, wBM, wNext, wExpr, wUn, wChain, wCall, wSl, wPart, wNoPart, wNever, wLkS, wStar, wStarItems, wListItems, wSumVals, wFld, wSetFld, wMake, wMeth, wCallK, wDisp, wEmp, wPairs, wLk, wBreak, wCont, asg, asgs]
  refine x_var rfl (sort_dict h (ks_map ws) (by rw [List.length_map]; omega) fun lg hlg => ?_)
  have hm : ∀ g, g ∈ ws.map (·.1) → g ∈ srtS (ws.map (·.1)) := fun g hg => (srtS_perm _).mem_iff.mpr hg
  have ndk : (srtS (ws.map (·.1))).Nodup := (srtS_perm _).nodup_iff.mpr nd
  have hgl : (srtS (ws.map (·.1))).length = ws.length := by rw [(srtS_perm _).length_eq, List.length_map]
  generalize srtS (ws.map (·.1)) = ks at q hm ndk hgl ⊢
  have s0 := (Sub.refl G).new (o := .lst true (ks.map .str)) hlg
  refine Or.inl ⟨lg, _, rfl, ⟨true, DH.put_same⟩, ?_⟩
  refine lcX (itemsD (wd (fd ks fun _ => 0))) (fun G' s => ⟨true, s.ob _ _ DH.put_same⟩) (by unfold itemsD; rw [List.length_map, List.length_map, wd_len, fd_len]) (by unfold itemsD; rw [List.length_map, wd_len, fd_len]; omega) (fun i x y G' Y hx hy s hY => ?_) (fun p1 G1 hp1 s1 => ?_)
  · rw [List.getElem?_map] at hx
    obtain ⟨g, hg, e⟩ := Option.map_eq_some_iff.mp hx
    subst e
    have ey : y = .tup [.str g, .int 0] := by
      unfold itemsD wd fd at hy
      rw [List.map_map, List.map_map, List.getElem?_map, hg] at hy
      exact (Option.some.inj hy).symm
    subst ey
    refine ⟨_, rfl, ?_⟩
    dsimp only [wSeq, wSetIx, wOp, wC, wB, wIfS, wAsg, wCB, wCons, wNil, wRet, wRetN, wAnd, wOr, wNot, wAndV, wOrV, wNotV, wIf, wTup, wLst, wBM, wNext, wExpr, wUn, wChain, wCall, wSl, wPart, wNoPart, wNever, wLkS, wStar, wStarItems, wListItems, wSumVals, wFld, wSetFld, wMake, wMeth, wCallK, wDisp, wEmp, wPairs, wLk, wBreak, wCont, asg, asgs]
    exact x_var rfl ⟨by show 2 ≤ sizeLine; decide, hY G' (Sub.refl G')⟩
  have s2 := s0.trans (((Sub.refl _).new (o := .lst true (itemsD (wd (fd ks fun _ => 0)))) hp1).trans s1)
  refine x_dictL (s1.ob _ _ DH.put_same) (by rw [fd_keys]; exact ndk) fun pd hpd => Or.inl ⟨_, rfl, ?_⟩
  have hg : G.ob pd = none := s2.none hpd
  refine x_for (x_wiE ?_)
  have s3 : Sub G (G1.put pd (.dct true (wd (fd ks fun _ => 0)))) := s2.trans ((Sub.refl _).new hpd)
  refine x_var rfl (hx.walk s3 fun S hS => ?_)
  refine ⟨fun i δ' G' => ∃ b c, δ' = [some (.ref d), some x, some (.ref pd), b, c, none] ∧ Sub (G.put pd (.dct true (wd (fd ks (cnt (hs.take i)))))) G', ⟨none, none, rfl, Sub.put s2 pd _⟩, ?_, ?_, ?_⟩
  · rintro i δ' G' ⟨b, c, _, s⟩
    exact hS G' (((Sub.refl G).new hg).trans s)
  · rintro i y δ' G' hy ⟨b, c, rfl, s⟩
    obtain ⟨pr, hpr, hh⟩ := hd.at hy
    have sG : Sub G G' := ((Sub.refl G).new hg).trans s
    obtain ⟨m1, m2⟩ := hi pr (List.mem_of_getElem? hpr)
    have m1 := hm _ m1
    have m2 := hm _ m2
    refine ⟨_, asg2 (unp_sub sG (handOf_unp hh)), ?_⟩
    dsimp only [wSeq, wSetIx, wOp, wC, wB, wIfS, wAsg, wCB, wCons, wNil, wRet, wRetN, wAnd, wOr, wNot, wAndV, wOrV, wNotV, wIf, wTup, wLst, wBM, wNext, wExpr, wUn, wChain, wCall, wSl, wPart, wNoPart, wNever, wLkS, wStar, wStarItems, wListItems, wSumVals, wFld, wSetFld, wMake, wMeth, wCallK, wDisp, wEmp, wPairs, wLk, wBreak, wCont, asg, asgs]
    have hz : (100000 : Nat) < sizeLine := by rw [sizeLine_eq]; decide
    refine x_var rfl (x_var rfl (x_ixD (key := Sum.inr pr.1) (s.ob _ _ DH.put_same) (val_fd m1) (x_addI (x_var rfl (x_var rfl (x_setD (key := Sum.inr pr.1) (s.ob _ _ DH.put_same) (by rw [wd_len, fd_len]; omega) ?_))))))
    rw [put_fd m1]
    refine x_var rfl (x_var rfl (x_ixD (key := Sum.inr pr.2) DH.put_same (val_fd m2) (x_addI (x_var rfl (x_var rfl (x_setD (key := Sum.inr pr.2) DH.put_same (by rw [wd_len, fd_len]; omega) ?_))))))
    rw [put_fd m2]
    refine ⟨_, _, rfl, ?_⟩
    rw [cnt_take hpr]
    exact two_counts s
  · rintro δ' G' ⟨b, c, rfl, s⟩
    refine x_var rfl (fgI s ?_)
    rw [hd.length, List.take_length]
    exact q pd hg
theorem t_law_sorted {w : Bool} (h : G.ob d = some (.dct w (wd ws))) (nd : (ws.map (·.1)).Nodup) (hl : ws.length ≤ 60) (q : ∀ p, G.ob p = none → Q (.ref p) (G.put p (.dct true (wd (srtW ws))))) : sp__law_sorted K [.ref d] G Q E := by
  refine wSp_mk rfl ?_
  unfold w__law_sorted
  dsimp only [wSeq, wSetIx, wOp, wC, wB, wIfS, wAsg, wCB, wCons, wNil, wRet, wRetN, wAnd, wOr, wNot, wAndV, wOrV, wNotV, wIf, wTup, wLst, wBM, wNext, wExpr, wUn, wChain, wCall, wSl, wPart, wNoPart, wNever, wLkS, wStar, wStarItems, wListItems, wSumVals, wFld, wSetFld, wMake, wMeth, wCallK, wDisp, wEmp, wPairs, wLk, wBreak, wCont, asg, asgs]
  refine x_lc (x_wiE ?_)
  dsimp only [wSeq, wSetIx, wOp, wC, wB, wIfS, wAsg, wCB, wCons, wNil, wRet, wRetN, wAnd, wOr, wNot, wAndV, wOrV, wNotV, wIf, wTup, wLst, wBM, wNext, wExpr, wUn, wChain, wCall, wSl, wPart, wNoPart, wNever, wLkS, wStar, wStarItems, wListItems, wSumVals, wFld, wSetFld, wMake, wMeth, wCallK, wDisp, wEmp, wPairs, wLk, wBreak, wCont, asg, asgs]
  refine x_var rfl (sort_dict h (ks_map ws) (by rw [List.length_map]; omega) fun lg hlg => ?_)
  have s0 := (Sub.refl G).new (o := .lst true ((srtS (ws.map (·.1))).map .str)) hlg
  have hsl : (srtW ws).length = ws.length := (srtW_perm ws).length_eq
  refine Or.inl ⟨lg, _, rfl, ⟨true, DH.put_same⟩, ?_⟩
  refine lcX (itemsD (wd (srtW ws))) (fun G' s => ⟨true, s.ob _ _ DH.put_same⟩) (by unfold itemsD; rw [← srtW_keys, List.length_map, List.length_map, List.length_map, wd_len]) (by unfold itemsD; rw [List.length_map, wd_len]; omega) (fun i x y G' Y hx hy s hY => ?_) (fun p1 G1 hp1 s1 => ?_)
  · rw [← srtW_keys, List.getElem?_map, List.getElem?_map, Option.map_map] at hx
    obtain ⟨g, hg, e⟩ := Option.map_eq_some_iff.mp hx
    subst e
    have ey : y = .tup [.str g.1, .int g.2] := by
      unfold itemsD wd at hy
      rw [List.map_map, List.getElem?_map, hg] at hy
      exact (Option.some.inj hy).symm
    subst ey
    refine ⟨_, rfl, ?_⟩
    dsimp only [wSeq, wSetIx, wOp, wC, wB, wIfS, wAsg, wCB, wCons, wNil, wRet, wRetN, wAnd, wOr, wNot, wAndV, wOrV, wNotV, wIf, wTup, wLst, wBM, wNext, wExpr, wUn, wChain, wCall, wSl, wPart, wNoPart, wNever, wLkS, wStar, wStarItems, wListItems, wSumVals, wFld, wSetFld, wMake, wMeth, wCallK, wDisp, wEmp, wPairs, wLk, wBreak, wCont, asg, asgs]
    refine x_var rfl (x_var rfl (x_var rfl (x_ixD (key := Sum.inr g.1) ((s0.trans s).ob _ _ h) (wd_val nd ?_) ⟨by show 2 ≤ sizeLine; decide, hY G' (Sub.refl G')⟩)))
    exact (srtW_perm ws).mem_iff.mp (List.mem_of_getElem? hg)
  have s2 := s0.trans (((Sub.refl _).new (o := .lst true (itemsD (wd (srtW ws)))) hp1).trans s1)
  exact x_dictL (s1.ob _ _ DH.put_same) (srtW_nodup nd) fun pd hpd => Or.inl (fgI (s2.put pd _) (q pd (s2.none hpd)))
/-- dict([(name, 0) for name in names]) -/
theorem zero_lc {vs : List Nat} {δ : DEnv} {m : Nat} {we : WE} {ks : List Str} (h : G.ob l = some (.lst true (ks.map .str))) (hl : ks.length ≤ 60)
    (step : ∀ (g : Str) (G' : DH) (Y : DK), Y (.tup [.str g, .int 0]) G' → we ((wipeD δ vs).set m (some (.str g))) G' Y)
    (q : ∀ p G2, G.ob p = none → Sub (G.put p (.lst true (itemsD (wd (fd ks fun _ => 0))))) G2 → Q (.ref p) G2) : LcBody (.nm m) (fun _ G Q => Q true G) we vs δ Q (LstAt l (ks.map .str)) (ks.map .str) G := by
  refine lcX (itemsD (wd (fd ks fun _ => 0))) (fun G' s => ⟨true, s.ob _ _ h⟩) (by unfold itemsD; rw [List.length_map, List.length_map, wd_len, fd_len]) (by unfold itemsD; rw [List.length_map, wd_len, fd_len]; omega) (fun i x y G' Y hx hy s hY => ?_) q
  rw [List.getElem?_map] at hx
  obtain ⟨g, hg, e⟩ := Option.map_eq_some_iff.mp hx
  subst e
  have ey : y = .tup [.str g, .int 0] := by
    unfold itemsD wd fd at hy
    rw [List.map_map, List.map_map, List.getElem?_map, hg] at hy
    exact (Option.some.inj hy).symm
  subst ey
  exact ⟨_, rfl, step g G' Y (hY G' (Sub.refl G'))⟩
theorem t_law_web {ks : List Str} {odds : Int} (h : SA G a n) (hn : n + 10000 < big) (hx : G.ob l = some (.lst true (ks.map .str))) (nd : ks.Nodup) (hl : ks.length ≤ 60)
    (q : ∀ p (hs : List Hand) G', hs.Sublist (prs (srtS ks)) → G.ob p = none → Sub ((fr G).put p (.lst true (hs.map hD))) G' → SA G' a (n + 10000) → Q (.ref p) G') : sp__law_web K [.ref a, .ref l, .int odds] G Q E := by
  refine wSp_mk rfl ?_
  unfold w__law_web
  dsimp only [wSeq, wSetIx, wOp, wC, wB, wIfS, wAsg, wCB, wCons, wNil, wRet, wRetN, wAnd, wOr, wNot, wAndV, wOrV, wNotV, wIf, wTup, wLst, wBM, wNext, wExpr, wUn, wChain, wCall, wSl, wPart, wNoPart, wNever, wLkS, wStar, wStarItems, wListItems, wSumVals, wFld, wSetFld, wMake, wMeth, wCallK, wDisp, wEmp, wPairs, wLk, wBreak, wCont, asg, asgs]
  refine ⟨by show 0 ≤ sizeLine; omega, fun pf hpf => ⟨_, rfl, ?_⟩⟩
  have s0 := (Sub.refl G).new (o := .lst true []) hpf
  refine x_for (x_wiE ?_)
  dsimp only [wSeq, wSetIx, wOp, wC, wB, wIfS, wAsg, wCB, wCons, wNil, wRet, wRetN, wAnd, wOr, wNot, wAndV, wOrV, wNotV, wIf, wTup, wLst, wBM, wNext, wExpr, wUn, wChain, wCall, wSl, wPart, wNoPart, wNever, wLkS, wStar, wStarItems, wListItems, wSumVals, wFld, wSetFld, wMake, wMeth, wCallK, wDisp, wEmp, wPairs, wLk, wBreak, wCont, asg, asgs]
  refine x_lc (x_wiE ?_)
  refine x_var rfl (Or.inl ⟨l, _, rfl, ⟨true, s0.ob _ _ hx⟩, ?_⟩)
  refine zero_lc (s0.ob _ _ hx) hl (fun g G' Y hY => ?_) (fun p1 G1 hp1 s1 => ?_)
  · dsimp only [wSeq, wSetIx, wOp, wC, wB, wIfS, wAsg, wCB, wCons, wNil, wRet, wRetN, wAnd, wOr, wNot, wAndV, wOrV, wNotV, wIf, wTup, wLst, wBM, wNext, wExpr, wUn, wChain, wCall, wSl, wPart, wNoPart, wNever, wLkS, wStar, wStarItems, wListItems, wSumVals, wFld, wSetFld, wMake, wMeth, wCallK, wDisp, wEmp, wPairs, wLk, wBreak, wCont, asg, asgs]
    exact x_var rfl ⟨by show 2 ≤ sizeLine; decide, hY⟩
  have s2 := ((Sub.refl _).new hp1).trans s1
  refine x_dictL (s1.ob _ _ DH.put_same) (by rw [fd_keys]; exact nd) fun pd hpd => Or.inl ?_
  have s3 := (Sub.refl G1).new (o := .dct true (wd (fd ks fun _ => 0))) hpd
  refine t_hands DH.put_same (by rw [fd_len]; exact hl) fun ph hph => ?_
  rw [fd_keys]
  have hpl := prs_len (gs := srtS ks) (by rw [(srtS_perm ks).length_eq]; exact hl)
  generalize prs (srtS ks) = rs at q hpl ⊢
  have s4 := (s2.trans s3).trans ((Sub.refl _).new (o := .lst true (rs.map hD)) hph)
  have eh : ((G1.put pd (.dct true (wd (fd ks fun _ => 0)))).put ph (.lst true (rs.map hD))).ob ph = some (.lst true (rs.map hD)) := DH.put_same
  have hne : ph ≠ pf := fun z => by
    subst z
    have h1 := (s2.trans s3).ob _ _ (DH.put_same (G := G) (a := ph) (o := .lst true []))
    rw [hph] at h1; cases h1
  generalize (G1.put pd (.dct true (wd (fd ks fun _ => 0)))).put ph (.lst true (rs.map hD)) = G2 at s4 eh ⊢
  have hfg : G.ob ph = none := (s0.trans (s2.trans s3)).none hph
  have s5 : Sub ((G.put ph (.lst true (rs.map hD))).put pf (.lst true [])) G2 := ⟨fun b o e => by
    by_cases hb : b = pf
    · subst hb
      rw [DH.put_same] at e
      cases e
      exact s4.ob _ _ DH.put_same
    · rw [DH.put_ne hb] at e
      by_cases hb2 : b = ph
      · subst hb2
        rw [DH.put_same] at e
        cases e
        exact eh
      · rw [DH.put_ne hb2] at e
        exact s4.ob _ _ (s0.ob _ _ e), fun S e => s4.st S e⟩
  have s6 : Sub (((fr G).put ph (.lst true (rs.map hD))).put pf (.lst true (([] : List Hand).map hD))) G2 := Sub.fr s5
  refine Or.inl ⟨ph, _, rfl, ⟨true, eh⟩, ?_⟩
  refine ⟨fun i δ' G' => ∃ c, ∃ hs : List Hand, δ' = [some (.ref a), some (.ref l), some (.int odds), some (.ref pf), c, none] ∧ Sub (((fr G).put ph (.lst true (rs.map hD))).put pf (.lst true (hs.map hD))) G' ∧ hs.Sublist (rs.take i) ∧ SA G' a (n + i), ⟨none, [], rfl, s6, List.Sublist.refl _, by rw [Int.natCast_zero, Int.add_zero]; exact SA.sub (G := (G.put ph (.lst true (rs.map hD))).put pf (.lst true [])) h s5⟩, ?_, ?_, ?_⟩
  · rintro i δ' G' ⟨c, hs, _, s, _⟩
    exact ⟨true, s.ob _ _ (by rw [DH.put_ne hne]; exact DH.put_same)⟩
  · rintro i y δ' G' hy ⟨c, hs, rfl, s, hsub, sa⟩
    rw [List.getElem?_map] at hy
    obtain ⟨p, hp, e⟩ := Option.map_eq_some_iff.mp hy
    subst e
    have hlt : i < rs.length := (List.getElem?_eq_some_iff.mp hp).1
    have htk : rs.take (i + 1) = rs.take i ++ [p] := by rw [List.take_add_one, hp]; rfl
    refine ⟨_, rfl, ?_⟩
    dsimp only [wSeq, wSetIx, wOp, wC, wB, wIfS, wAsg, wCB, wCons, wNil, wRet, wRetN, wAnd, wOr, wNot, wAndV, wOrV, wNotV, wIf, wTup, wLst, wBM, wNext, wExpr, wUn, wChain, wCall, wSl, wPart, wNoPart, wNever, wLkS, wStar, wStarItems, wListItems, wSumVals, wFld, wSetFld, wMake, wMeth, wCallK, wDisp, wEmp, wPairs, wLk, wBreak, wCont, asg, asgs]
    refine x_var rfl (t_draw sa (by omega) (by decide) (by decide) fun j G3 hj s3 sa3 hb3 => x_var rfl (x_ltI ⟨_, rfl, ?_⟩))
    have s6 : Sub (((fr G).put ph (.lst true (rs.map hD))).put pf (.lst true (hs.map hD))) G3 := ⟨fun b o e => by rw [hb3]; exact s.ob b o e, fun _ e => nomatch e⟩
    have sa4 : SA G3 a (n + ((i + 1 : Nat) : Int)) := by rw [Int.natCast_add, ← Int.add_assoc]; exact sa3
    by_cases hc : (j : Int) < odds
    · rw [if_pos (decide_eq_true hc)]
      have ef : G3.ob pf = some (.lst true (hs.map hD)) := s6.ob _ _ DH.put_same
      refine x_var rfl ⟨Or.inl ⟨rfl, pf, _, rfl, ⟨true, ef⟩⟩, x_var rfl (x_app ef ?_ ?_)⟩
      · have := hsub.length_le
        rw [List.length_take] at this
        rw [List.length_map]
        omega
      · refine ⟨_, hs ++ [p], rfl, ?_, ?_, sa4⟩
        · rw [List.map_append]
          exact s6.again
        · rw [htk]
          exact hsub.append (List.Sublist.refl _)
    · rw [if_neg (by simpa using hc)]
      refine ⟨_, hs, rfl, s6, ?_, sa4⟩
      rw [htk]
      exact hsub.trans (List.sublist_append_left _ _)
  · rintro δ' G' ⟨c, hs, rfl, s, hsub, sa⟩
    rw [List.length_map] at hsub sa
    rw [List.take_length] at hsub
    refine x_var rfl (fg0 (q pf hs G' hsub hpf (Sub.trans (Sub.put ?_ pf _) s) (sa.mono (by omega))))
    exact (Sub.refl (fr G)).new hfg
end
end Q7

namespace Q7
open PySem PySem.Spec PyProof.Rows L2
/-! ### comprehensions that draw -/
section
variable {G1 : DH} {S : DH → Prop} {items : List D} {Q : DK} {T : Tgt} {we : WE} {vs : List Nat} {δ : DEnv} {a : Addr} {n : Int}
theorem lcS (c : Nat) (P : Nat → D → DH → Prop) (mono : ∀ i y G G', Sub (fr G) G' → P i y G → P i y G') (h : SA G1 a n) (hS : ∀ G', Sub (fr G1) G' → S G') (hl : items.length ≤ 100000)
    (step : ∀ (i : Nat) (x : D) (G' : DH) (Y : DK), items[i]? = some x → Sub (fr G1) G' → SA G' a (n + c * i) → (∀ y G3, Sub (fr G') G3 → SA G3 a (n + c * (i + 1 : Nat)) → P i y (diff G3 G') → Y y G3) → ∃ δ2, asg G' T x (wipeD δ vs) = some δ2 ∧ we δ2 G' Y)
    (fin : ∀ p L G', G1.ob p = none → L.length = items.length → (∀ i y, L[i]? = some y → P i y (rm (diff G' G1) p)) → Sub ((fr G1).put p (.lst true L)) G' → SA G' a (n + c * items.length) → Q (.ref p) G') : LcBody T (fun _ G Q => Q true G) we vs δ Q S items G1 := by
  intro p hp
  refine ⟨fun i G' => ∃ L : List D, L.length = i ∧ (∀ j y, L[j]? = some y → P j y (rm (diff G' G1) p)) ∧ Sub ((fr G1).put p (.lst true L)) G' ∧ SA G' a (n + c * i), ⟨[], rfl, fun j y e => by simp at e, Sub.frr (G1.put p (.lst true [])), by rw [Int.natCast_zero, Int.mul_zero, Int.add_zero]; exact h⟩, ?_, ?_, ?_⟩
  · rintro i G' ⟨L, _, _, s, _⟩
    exact hS G' (((Sub.refl (fr G1)).new hp).trans s)
  · rintro i x G' hx ⟨L, hL, hP, s, sa⟩
    have s1 : Sub (fr G1) G' := ((Sub.refl (fr G1)).new hp).trans s
    have hlt : i < items.length := (List.getElem?_eq_some_iff.mp hx).1
    have ep : G'.ob p = some (.lst true L) := s.ob _ _ DH.put_same
    obtain ⟨δ2, e2, h2⟩ := step i x G' (fun y G3 => ∃ acc, G3.ob p = some (.lst true acc) ∧ acc.length < sizeLine ∧ ∃ L : List D, L.length = i + 1 ∧ (∀ j z, L[j]? = some z → P j z (rm (diff (G3.put p (.lst true (acc ++ [y]))) G1) p)) ∧ Sub ((fr G1).put p (.lst true L)) (G3.put p (.lst true (acc ++ [y]))) ∧ SA (G3.put p (.lst true (acc ++ [y]))) a (n + c * (i + 1 : Nat))) hx s1 sa fun y G3 s3 sa3 hy => by
      refine ⟨L, s3.ob _ _ ep, ?_, L ++ [y], by rw [List.length_append, hL]; rfl, ?_, (show Sub ((fr G1).put p (.lst true L)) G3 from Sub.frt (G := G1.put p (.lst true L)) s s3).again, sa3⟩
      · have := sizeBig (n := 100000) (by decide)
        omega
      · intro j z hz
        have e3 : diff (G3.put p (.lst true (L ++ [y]))) G1 = (diff G3 G1).put p (.lst true (L ++ [y])) := by
          unfold diff DH.put
          congr 1
          funext b
          dsimp only
          by_cases hb : b = p
          · subst hb
            rw [hp]
            simp
          · simp [hb]
        rw [e3, rm_put]
        by_cases hj : j < i
        · rw [List.getElem?_append_left (by omega)] at hz
          refine mono j z _ _ ?_ (hP j z hz)
          exact (rm_mono (Sub.fr (diff_mono (G := G1) s3)) p).fr
        · have ej : j = i := by
            have := (List.getElem?_eq_some_iff.mp hz).1
            rw [List.length_append] at this
            simp at this
            omega
          subst ej
          rw [List.getElem?_append_right (by omega), hL, Nat.sub_self] at hz
          have ez : y = z := Option.some.inj hz
          subst ez
          refine mono _ _ _ _ ?_ hy
          refine Sub.frs fun b o e => ?_
          unfold diff at e
          unfold rm diff
          dsimp only at e ⊢
          split at e
          · cases e
          · rename_i hb
            have hbp : b ≠ p := fun z => by subst z; rw [ep] at hb; exact hb rfl
            rw [if_neg hbp, if_neg]
            · exact e
            · intro z
              obtain ⟨o', ho⟩ := Option.isSome_iff_exists.mp z
              rw [s1.ob b o' ho] at hb
              exact hb rfl
    exact ⟨δ2, e2, itT h2⟩
  · rintro G' ⟨L, hL, hP, s, sa⟩
    exact fin p L G' hp hL hP s sa
end
/-! ### names -/
theorem letters_eq : letters = List.range' 97 26 := by decide +kernel
theorem letters_nd : letters.Nodup := by rw [letters_eq]; decide
theorem letters_len : letters.length = 26 := by rw [letters_eq]; decide
structure NmP (z : Str) : Prop where
  pos : 0 < z.cps.toList.length
  le : z.cps.toList.length ≤ 5
  al : ∀ c ∈ z.cps.toList, c ∈ letters
  za : 3 < z.cps.toList.length → ∃ p c, z.cps.toList = p ++ [97, c]
theorem NmP.nm {z : Str} (h : NmP z) : isNm z = true := by
  have e : z.length = z.cps.toList.length := rfl
  have h1 := h.pos
  have h2 := h.le
  unfold isNm
  rw [e, decide_eq_true h1, decide_eq_true (by omega : z.cps.toList.length < 9), Bool.true_and, Bool.true_and]
  exact List.all_eq_true.mpr fun c hc => decide_eq_true (h.al c hc)
def zzz : Str := "zzz"
theorem zzz_eq : zzz.cps.toList = [122, 122, 122] := by decide +kernel
theorem app_cps (s t : Str) : (s ++ t).cps.toList = s.cps.toList ++ t.cps.toList := by
  show (s.cps ++ t.cps).toList = _
  rw [Array.toList_append]
theorem NmP.nm3 {z : Str} (h : NmP z) : isNm (z ++ zzz) = true := by
  have e : (z ++ zzz).length = z.cps.toList.length + 3 := by
    show (z ++ zzz).cps.toList.length = _
    rw [app_cps, zzz_eq, List.length_append]; rfl
  have h1 := h.pos
  have h2 := h.le
  unfold isNm
  rw [e, decide_eq_true (by omega : 0 < z.cps.toList.length + 3), decide_eq_true (by omega : z.cps.toList.length + 3 < 9), Bool.true_and, Bool.true_and]
  refine List.all_eq_true.mpr fun c hc => decide_eq_true ?_
  rw [app_cps, zzz_eq] at hc
  rcases List.mem_append.mp hc with z1 | z1
  · exact h.al c z1
  · rw [letters_eq]
    have : c = 122 := by simpa using z1
    subst this
    decide
theorem NmP.apart {y z : Str} (h : NmP y) (h' : NmP z) : y ≠ z ++ zzz := by
  intro e
  have e1 : y.cps.toList = z.cps.toList ++ [122, 122, 122] := by rw [e, app_cps, zzz_eq]
  have h1 := h'.pos
  obtain ⟨p, c, e2⟩ := h.za (by rw [e1, List.length_append]; show 3 < z.cps.toList.length + 3; omega)
  have e3 : z.cps.toList ++ [122, 122, 122] = (z.cps.toList ++ [122]) ++ [122, 122] := by simp
  rw [e1, e3] at e2
  have := (List.append_inj' e2 rfl).2
  cases this
theorem zzz_inj {y z : Str} (h : y ++ zzz = z ++ zzz) : y = z := by
  refine str_ext ?_
  have e := congrArg (fun s : Str => s.cps.toList) h
  have e : (y ++ zzz).cps.toList = (z ++ zzz).cps.toList := e
  rw [app_cps, app_cps] at e
  exact (List.append_inj' e rfl).1
def cand (o : List Nat) : Nat → List Nat
  | 0 => o
  | k + 1 => (cand o k).take 3 ++ [97, letters.getD k 0]
theorem cand_len {o : List Nat} (h : o.length ≤ 3) : ∀ k, o.length ≤ (cand o k).length
  | 0 => Nat.le_refl _
  | k + 1 => by
    have := cand_len h k
    show o.length ≤ ((cand o k).take 3 ++ [97, letters.getD k 0]).length
    rw [List.length_append, List.length_take]
    show o.length ≤ min 3 (cand o k).length + 2
    omega
theorem cand_ne {o : List Nat} (h : o.length ≤ 3) {j k : Nat} (hjk : j < k) (hk : k ≤ 26) : cand o j ≠ cand o k := by
  intro e
  obtain ⟨k, rfl⟩ : ∃ m, k = m + 1 := ⟨k - 1, by omega⟩
  cases j with
  | zero =>
    have := congrArg List.length e
    have h1 := cand_len h k
    have e2 : (cand o (k + 1)).length = min 3 (cand o k).length + 2 := by
      show ((cand o k).take 3 ++ [97, letters.getD k 0]).length = _
      rw [List.length_append, List.length_take]; rfl
    have e3 : (cand o 0).length = o.length := rfl
    omega
  | succ j =>
    have e2 : (cand o j).take 3 ++ [97, letters.getD j 0] = (cand o k).take 3 ++ [97, letters.getD k 0] := e
    have e3 := (List.append_inj' e2 rfl).2
    have e4 : letters.getD j 0 = letters.getD k 0 := by
      have := List.cons.inj e3
      exact (List.cons.inj this.2).1
    have hl := letters_len
    rw [List.getD_eq_getElem?_getD, List.getD_eq_getElem?_getD, List.getElem?_eq_getElem (by omega), List.getElem?_eq_getElem (by omega)] at e4
    have h5 := (List.pairwise_iff_getElem.mp letters_nd) j k (by omega) (by omega) (by omega)
    exact h5 e4
theorem nodup_len {α : Type} [DecidableEq α] : ∀ {xs ys : List α}, xs.Nodup → (∀ x ∈ xs, x ∈ ys) → xs.length ≤ ys.length
  | [], _, _, _ => Nat.zero_le _
  | x :: xs, ys, nd, h => by
    obtain ⟨h1, h2⟩ := List.nodup_cons.mp nd
    have hx := h x List.mem_cons_self
    have ih := nodup_len (xs := xs) (ys := ys.erase x) h2 fun y hy => (List.mem_erase_of_ne (fun e => by subst e; exact h1 hy)).mpr (h y (List.mem_cons_of_mem _ hy))
    rw [List.length_erase_of_mem hx] at ih
    have : 0 < ys.length := List.length_pos_of_mem hx
    rw [List.length_cons]
    omega
theorem cand_out {o : List Nat} (h : o.length ≤ 3) {fs : List Str} (hf : fs.length ≤ 25) (hi : ∀ i, i ≤ fs.length → (⟨(cand o i).toArray⟩ : Str) ∈ fs) : False := by
  have := nodup_len (xs := (List.range (fs.length + 1)).map fun i => (⟨(cand o i).toArray⟩ : Str)) (ys := fs) ?_ ?_
  · rw [List.length_map, List.length_range] at this
    omega
  · unfold List.Nodup
    rw [List.pairwise_map]
    refine List.pairwise_lt_range.imp_of_mem ?_
    intro i j hi' hj hij e
    rw [List.mem_range] at hj
    refine cand_ne h hij (by omega) ?_
    have := congrArg (fun s : Str => s.cps.toList) e
    simpa using this
  · intro x hx
    obtain ⟨i, hi', e⟩ := List.mem_map.mp hx
    rw [List.mem_range] at hi'
    subst e
    exact hi i (by omega)
theorem cut3 (z : Str) : (cutS z none (some 3)).cps.toList = z.cps.toList.take 3 := by
  unfold cutS
  have e : (some 3 : Option Int) = some ((3 : Nat) : Int) := rfl
  rw [e, HT.sIx_nat, HT.sIx_none, List.drop_zero, Nat.sub_zero]
  show ((z.cps.toList.take (min 3 z.length)).toArray).toList = _
  have e2 : z.length = z.cps.toList.length := rfl
  rw [List.toList_toArray, e2]
  by_cases h : 3 ≤ z.cps.toList.length
  · rw [Nat.min_eq_left h]
  · rw [Nat.min_eq_right (by omega), List.take_length, List.take_of_length_le (by omega)]
open PySem in
theorem join_cps : ∀ ys : List Str, (Str.join "" ys).cps.toList = ys.flatMap fun y => y.cps.toList
  | [] => rfl
  | [x] => by simp [Str.join]
  | x :: y :: r => by
    have ih := join_cps (y :: r)
    have e : Str.join "" (x :: y :: r) = x ++ "" ++ Str.join "" (y :: r) := rfl
    have e0 : (("" : Str)).cps.toList = [] := by decide +kernel
    rw [e, app_cps, app_cps, ih, e0, List.append_nil]
    simp
end Q7

namespace Q7
open PySem PySem.Spec PyProof.Rows L2
/-! ### names drawn -/
theorem x_cut3 {G : DH} {Q : DK} {z : Str} (h : z.length ≤ 1000000) (q : Q (.str (cutS z none (some 3))) G) : slD (.str z) none (some 3) G Q := .inr (.inl ⟨z, rfl, sizeBig h, q⟩)
theorem NmP.of3 {cs : List Nat} (h0 : 0 < cs.length) (h3 : cs.length ≤ 3) (h : ∀ c ∈ cs, c ∈ letters) : NmP ⟨cs.toArray⟩ := by
  have e : (⟨cs.toArray⟩ : Str).cps.toList = cs := by simp
  exact ⟨by rw [e]; exact h0, by rw [e]; omega, by rw [e]; exact h, by rw [e]; intro z; omega⟩
theorem NmP.next {z w : Str} {c : Nat} (h : NmP z) (hc : c ∈ letters) (e : w.cps.toList = z.cps.toList.take 3 ++ [97, c]) : NmP w := by
  have h1 := h.pos
  have hl : w.cps.toList.length = min 3 z.cps.toList.length + 2 := by rw [e, List.length_append, List.length_take]; rfl
  refine ⟨by omega, by omega, ?_, fun _ => ⟨_, c, e⟩⟩
  intro d hd
  rw [e] at hd
  rcases List.mem_append.mp hd with z1 | z1
  · exact h.al d (List.mem_of_mem_take z1)
  · rcases List.mem_cons.mp z1 with z2 | z2
    · subst z2
      rw [letters_eq]; decide
    · have : d = c := by simpa using z2
      subst this
      exact hc
abbrev letS : Str := "abcdefghijklmnopqrstuvwxyz"
theorem join_one : ∀ cs : List Nat, (Txt.join "" (cs.map fun c => (⟨#[c]⟩ : Str))).cps.toList = cs := by
  intro cs
  rw [TL.join_eq, join_cps, List.flatMap_map]
  induction cs with
  | nil => rfl
  | cons c cs ih =>
    rw [List.flatMap_cons, ih]
    rfl
section
variable {K : PySem.W.Frag} {G : DH} {Q : DK} {E : DX} {a b d l r : Addr} {ds : List D} {ws : W} {x : D} {n : Int}
theorem letS_at {k : Nat} (h : k < 26) : atI letS.cps.toList (k : Int) = some (letters.getD k 0) := by
  have e : letS.cps.toList = letters := rfl
  rw [e]
  refine atI_nat ?_
  rw [List.getD_eq_getElem?_getD, List.getElem?_eq_getElem (by rw [letters_len]; exact h)]
  rfl
theorem t_law_names {m : Nat} (h : SA G a n) (hn : n + 1000 < big) (hm : m ≤ 20)
    (q : ∀ p (fs : List Str) G', fs.length = m → fs.Nodup → (∀ z ∈ fs, NmP z) → G.ob p = none → Sub ((fr G).put p (.lst true (fs.map .str))) G' → SA G' a (n + 1000) → Q (.ref p) G') : sp__law_names K [.ref a, .int m] G Q E := by
  refine wSp_mk rfl ?_
  unfold w__law_names
  dsimp only [wSeq, wSetIx, wOp, wC, wB, wIfS, wAsg, wCB, wCons, wNil, wRet, wRetN, wAnd, wOr, wNot, wAndV, wOrV, wNotV, wIf, wTup, wLst, wBM, wNext, wExpr, wUn, wChain, wCall, wSl, wPart, wNoPart, wNever, wLkS, wStar, wStarItems, wListItems, wSumVals, wFld, wSetFld, wMake, wMeth, wCallK, wDisp, wEmp, wPairs, wLk, wBreak, wCont, asg, asgs]
  refine ⟨by show 0 ≤ sizeLine; omega, fun pf hpf => ⟨by show 2 ≤ sizeLine; decide, ?_⟩⟩
  refine ⟨_, rfl, ?_⟩
  refine x_for (x_wiR1 ?_)
  dsimp only [wSeq, wSetIx, wOp, wC, wB, wIfS, wAsg, wCB, wCons, wNil, wRet, wRetN, wAnd, wOr, wNot, wAndV, wOrV, wNotV, wIf, wTup, wLst, wBM, wNext, wExpr, wUn, wChain, wCall, wSl, wPart, wNoPart, wNever, wLkS, wStar, wStarItems, wListItems, wSumVals, wFld, wSetFld, wMake, wMeth, wCallK, wDisp, wEmp, wPairs, wLk, wBreak, wCont, asg, asgs]
  refine x_var rfl (x_r1 m (by omega) ?_)
  refine ⟨fun k δ' G' => ∃ c e f, ∃ fs : List Str, δ' = [some (.ref a), some (.int m), some (.ref pf), some (.str letS), c, e, f, none] ∧ fs.length = k ∧ fs.Nodup ∧ (∀ z ∈ fs, NmP z) ∧ Sub ((fr G).put pf (.lst true (fs.map .str))) G' ∧ SA G' a (n + 10 * k), ⟨none, none, none, [], rfl, rfl, List.nodup_nil, (fun _ z => nomatch z), Sub.frr (G.put pf (.lst true [])), by rw [Int.natCast_zero, Int.mul_zero, Int.add_zero]; exact h⟩, fun _ _ _ _ => trivial, ?_, ?_⟩
  · rintro k y δ' G' hy ⟨c, e, f, fs, rfl, hfl, hfn, hfp, s, sa⟩
    obtain ⟨ey, hlt⟩ := rngD_at hy
    rw [Int.zero_add] at ey
    subst ey
    refine ⟨_, rfl, ?_⟩
    dsimp only [wSeq, wSetIx, wOp, wC, wB, wIfS, wAsg, wCB, wCons, wNil, wRet, wRetN, wAnd, wOr, wNot, wAndV, wOrV, wNotV, wIf, wTup, wLst, wBM, wNext, wExpr, wUn, wChain, wCall, wSl, wPart, wNoPart, wNever, wLkS, wStar, wStarItems, wListItems, wSumVals, wFld, wSetFld, wMake, wMeth, wCallK, wDisp, wEmp, wPairs, wLk, wBreak, wCont, asg, asgs]
    refine ⟨Or.inr (Or.inr ⟨rfl, _, rfl⟩), ?_⟩
    refine x_lc (x_wiR1 ?_)
    dsimp only [wSeq, wSetIx, wOp, wC, wB, wIfS, wAsg, wCB, wCons, wNil, wRet, wRetN, wAnd, wOr, wNot, wAndV, wOrV, wNotV, wIf, wTup, wLst, wBM, wNext, wExpr, wUn, wChain, wCall, wSl, wPart, wNoPart, wNever, wLkS, wStar, wStarItems, wListItems, wSumVals, wFld, wSetFld, wMake, wMeth, wCallK, wDisp, wEmp, wPairs, wLk, wBreak, wCont, asg, asgs]
    refine x_var rfl (x_var rfl ⟨by show 3 ≤ sizeLine; decide, fun p1 hp1 => ?_⟩)
    have sa0 : SA (G'.put p1 (.lst true [.int 1, .int 1, .int 3])) a (n + 10 * k) := sa
    refine t_pickL sa0 (by omega) DH.put_same (by decide) (by decide) fun v G2 hv s2 sa2 _ => ?_
    have sG2 : Sub (fr G') G2 := Sub.frt (Sub.fr ((Sub.refl G').new hp1)) s2
    obtain ⟨vm, hvm, hv1, hv3⟩ : ∃ vm : Int, v = .int vm ∧ 1 ≤ vm ∧ vm ≤ 3 := by
      rcases List.mem_cons.mp hv with e | hv
      · exact ⟨1, e, by decide, by decide⟩
      rcases List.mem_cons.mp hv with e | hv
      · exact ⟨1, e, by decide, by decide⟩
      rcases List.mem_cons.mp hv with e | hv
      · exact ⟨3, e, by decide, by decide⟩
      · cases hv
    subst hvm
    refine t_draw sa2 (by omega) hv1 (by omega) fun j G3 hj s3 sa3 _ => x_addI ?_
    have ej : (1 : Int) + (j : Nat) = ((1 + j : Nat) : Int) := by omega
    rw [ej]
    refine x_r1 (1 + j) (by omega) ?_
    have sG3 : Sub (fr G') G3 := Sub.frt sG2 s3
    refine lcS 1 (fun _ y _ => ∃ c, y = .str ⟨#[c]⟩ ∧ c ∈ letters) (fun _ _ _ _ _ z => z) sa3 (fun _ _ => trivial) (by rw [rngD_len]; omega) (fun i x G4 Y hx s4 sa4 hY => ?_) (fun p2 L G4 hp2 hL hP s4 sa4 => ?_)
    · obtain ⟨_, hi⟩ := rngD_at hx
      refine ⟨_, rfl, ?_⟩
      dsimp only [wSeq, wSetIx, wOp, wC, wB, wIfS, wAsg, wCB, wCons, wNil, wRet, wRetN, wAnd, wOr, wNot, wAndV, wOrV, wNotV, wIf, wTup, wLst, wBM, wNext, wExpr, wUn, wChain, wCall, wSl, wPart, wNoPart, wNever, wLkS, wStar, wStarItems, wListItems, wSumVals, wFld, wSetFld, wMake, wMeth, wCallK, wDisp, wEmp, wPairs, wLk, wBreak, wCont, asg, asgs]
      refine x_var rfl (x_var rfl (t_pickS sa4 (by omega) (by decide +kernel) (by decide +kernel) fun c G5 hc s5 sa5 _ => hY _ G5 s5 (sa5.mono (by omega)) ⟨c, rfl, hc⟩))
    · rw [rngD_len] at hL sa4
      obtain ⟨cs, hcs, hcl⟩ : ∃ cs : List Nat, L = cs.map (fun c => D.str ⟨#[c]⟩) ∧ ∀ c ∈ cs, c ∈ letters := by
        clear hL s4
        induction L with
        | nil => exact ⟨[], rfl, fun _ z => nomatch z⟩
        | cons y L ih =>
          obtain ⟨cs, e1, e2⟩ := ih fun i y hy => hP (i + 1) y (by simpa using hy)
          obtain ⟨c, e3, e4⟩ := hP 0 y rfl
          refine ⟨c :: cs, by rw [e1, e3]; rfl, fun d hd => ?_⟩
          rcases List.mem_cons.mp hd with z | z
          · rw [z]; exact e4
          · exact e2 d z
      have hcsl : cs.length = 1 + j := by rw [← hL, hcs, List.length_map]
      have e4 : G4.ob p2 = some (.lst true ((cs.map fun c => (⟨#[c]⟩ : Str)).map .str)) := by
        rw [s4.ob _ _ DH.put_same, hcs, List.map_map]; rfl
      have sG4 : Sub (fr G') G4 := Sub.frt sG3 (Sub.trans ((Sub.refl (fr G3)).new hp2) s4)
      refine ⟨"", p2, cs.map fun c => ⟨#[c]⟩, rfl, rfl, ⟨true, e4⟩, ?_, ?_⟩
      · rw [List.map_map, List.length_map]
        have e5 : ((fun x : Str => x.length) ∘ fun c => (⟨#[c]⟩ : Str)) = fun _ => 1 := rfl
        rw [e5, List.map_const', List.sum_replicate_nat]
        have e6 : ("" : Str).length = 0 := by decide +kernel
        rw [e6]
        omega
      refine ⟨_, rfl, ?_⟩
      have hcs3 : cs.length ≤ 3 := by omega
      have hcsp : 0 < cs.length := by omega
      have enm : Txt.join "" (cs.map fun c => (⟨#[c]⟩ : Str)) = ⟨(cand cs 0).toArray⟩ := str_ext (by rw [join_one]; simp [cand])
      have hnm0 : NmP (Txt.join "" (cs.map fun c => (⟨#[c]⟩ : Str))) := by rw [enm]; exact NmP.of3 hcsp hcs3 hcl
      generalize Txt.join "" (cs.map fun c => (⟨#[c]⟩ : Str)) = nm0 at enm hnm0 ⊢
      have sF : Sub ((fr G).put pf (.lst true (fs.map .str))) G4 := Sub.frt (G := G.put pf (.lst true (fs.map .str))) s sG4
      refine x_for (x_wiR1 ?_)
      dsimp only [wSeq, wSetIx, wOp, wC, wB, wIfS, wAsg, wCB, wCons, wNil, wRet, wRetN, wAnd, wOr, wNot, wAndV, wOrV, wNotV, wIf, wTup, wLst, wBM, wNext, wExpr, wUn, wChain, wCall, wSl, wPart, wNoPart, wNever, wLkS, wStar, wStarItems, wListItems, wSumVals, wFld, wSetFld, wMake, wMeth, wCallK, wDisp, wEmp, wPairs, wLk, wBreak, wCont, asg, asgs]
      refine x_var rfl (x_lenL (sF.ob _ _ DH.put_same) (x_addI ?_))
      have ef : (((fs.map D.str).length : Nat) : Int) + 1 = ((fs.length + 1 : Nat) : Int) := by rw [List.length_map]; omega
      rw [ef]
      refine x_r1 (fs.length + 1) (by omega) ?_
      refine ⟨fun i δ' G5 => ∃ f, ∃ nm : Str, δ' = [some (.ref a), some (.int m), some (.ref pf), some (.str letS), some (.int k), some (.str nm), f, none] ∧ Sub ((fr G).put pf (.lst true (fs.map .str))) G5 ∧ SA G5 a (n + 10 * k + 10) ∧ NmP nm ∧ ((nm = ⟨(cand cs i).toArray⟩ ∧ ∀ i' < i, (⟨(cand cs i').toArray⟩ : Str) ∈ fs) ∨ nm ∉ fs), ⟨f, nm0, rfl, sF, sa4.mono (by omega), hnm0, .inl ⟨enm, fun i' z => by omega⟩⟩, fun _ _ _ _ => trivial, ?_, ?_⟩
      · rintro i y δ' G5 hy ⟨f, nm, rfl, s5, sa5, hnm, hd⟩
        obtain ⟨ey, hilt⟩ := rngD_at hy
        rw [Int.zero_add] at ey
        subst ey
        refine ⟨_, rfl, ?_⟩
        dsimp only [wSeq, wSetIx, wOp, wC, wB, wIfS, wAsg, wCB, wCons, wNil, wRet, wRetN, wAnd, wOr, wNot, wAndV, wOrV, wNotV, wIf, wTup, wLst, wBM, wNext, wExpr, wUn, wChain, wCall, wSl, wPart, wNoPart, wNever, wLkS, wStar, wStarItems, wListItems, wSumVals, wFld, wSetFld, wMake, wMeth, wCallK, wDisp, wEmp, wPairs, wLk, wBreak, wCont, asg, asgs]
        refine x_var rfl (x_var rfl (x_inL (s5.ob _ _ DH.put_same) ⟨_, rfl, ?_⟩))
        by_cases hin : nm ∈ fs
        · rw [if_pos (decide_eq_true hin)]
          rcases hd with ⟨enm', hall⟩ | hd
          · have hle := hnm.le
            have hlen : nm.length ≤ 1000000 := by
              have : nm.length = nm.cps.toList.length := rfl
              omega
            have hc3 : (cutS nm none (some 3)).length ≤ 5 := by
              have : (cutS nm none (some 3)).length = (cutS nm none (some 3)).cps.toList.length := rfl
              rw [this, cut3, List.length_take]
              omega
            refine x_var rfl ⟨3, rfl, x_cut3 hlen ?_⟩
            refine x_var rfl (x_var rfl (x_divI (by decide) (by decide) (x_ixS (c := 97) (sizeBig (by decide +kernel)) ?_ (x_addS ?_ ?_))))
            · have e0 : ((i : Int) / 26) = ((0 : Nat) : Int) := by omega
              rw [e0, letS_at (by decide)]
              have : letters.getD 0 0 = 97 := by rw [letters_eq]; decide
              rw [this]
            · have := sizeBig (n := 6) (by decide)
              show (cutS nm none (some 3)).length + 1 ≤ sizeLine
              omega
            refine x_var rfl (x_var rfl (x_modI (by decide) (x_ixS (c := letters.getD i 0) (sizeBig (by decide +kernel)) ?_ (x_addS ?_ ?_))))
            · have e0 : ((i : Int) % 26) = ((i : Nat) : Int) := by omega
              rw [e0, letS_at (by omega)]
            · have := sizeBig (n := 7) (by decide)
              have e7 : (cutS nm none (some 3) ++ (⟨#[97]⟩ : Str)).length = (cutS nm none (some 3)).length + 1 := by
                show (cutS nm none (some 3) ++ (⟨#[97]⟩ : Str)).cps.toList.length = (cutS nm none (some 3)).cps.toList.length + 1
                rw [app_cps, List.length_append]; rfl
              show (cutS nm none (some 3) ++ (⟨#[97]⟩ : Str)).length + 1 ≤ sizeLine
              omega
            have ecps : (cutS nm none (some 3) ++ (⟨#[97]⟩ : Str) ++ (⟨#[letters.getD i 0]⟩ : Str)).cps.toList = nm.cps.toList.take 3 ++ [97, letters.getD i 0] := by
              rw [app_cps, app_cps, cut3, List.append_assoc]; rfl
            refine ⟨_, rfl, _, _, rfl, s5, sa5, hnm.next ?_ ecps, .inl ⟨str_ext ?_, ?_⟩⟩
            · rw [List.getD_eq_getElem?_getD, List.getElem?_eq_getElem (by rw [letters_len]; omega)]
              exact List.getElem_mem _
            · rw [ecps, enm']
              simp [cand]
            · intro i' hi'
              by_cases hii : i' = i
              · rw [hii, ← enm']; exact hin
              · exact hall i' (by omega)
          · exact absurd hin hd
        · rw [if_neg (by simpa using hin)]
          exact ⟨_, nm, rfl, s5, sa5, hnm, .inr hin⟩
      · rintro δ' G5 ⟨f, nm, rfl, s5, sa5, hnm, hd⟩
        rw [rngD_len] at hd
        have hnot : nm ∉ fs := by
          rcases hd with ⟨_, hall⟩ | hd
          · exact (cand_out hcs3 (fs := fs) (by omega) fun i hi => hall i (by omega)).elim
          · exact hd
        have e5 : G5.ob pf = some (.lst true (fs.map .str)) := s5.ob _ _ DH.put_same
        refine x_var rfl ⟨Or.inl ⟨rfl, pf, _, rfl, ⟨true, e5⟩⟩, x_var rfl (x_app e5 (by rw [List.length_map]; omega) ?_)⟩
        refine ⟨_, _, _, fs ++ [nm], rfl, by rw [List.length_append, hfl]; rfl, ?_, ?_, ?_, ?_⟩
        · refine List.nodup_append.mpr ⟨hfn, by simp, ?_⟩
          intro u hu v hv e
          have : v = nm := by simpa using hv
          subst this
          subst e
          exact hnot hu
        · intro z hz
          rcases List.mem_append.mp hz with z1 | z1
          · exact hfp z z1
          · have : z = nm := by simpa using z1
            rw [this]; exact hnm
        · rw [List.map_append]
          exact s5.again
        · exact SA.mono (G := G5) sa5 (by omega)
  · rintro δ' G' ⟨c, e, f, fs, rfl, hfl, hfn, hfp, s, sa⟩
    rw [rngD_len] at hfl sa
    exact x_var rfl (fg0 (q pf fs G' hfl hfn hfp hpf s (sa.mono (by omega))))
end
end Q7

namespace Q7
open PySem PySem.Spec PyProof.Rows L2
/-! ### the same -/
section
variable {K : PySem.W.Frag} {G : DH} {Q : DK} {E : DX} {x y : D} {T : String} {n : Nat}
theorem x_isLTD (h : TyN x G T) (q : Q (.bl (T == "list" || T == "tuple" || T == "dict")) G) : isD K [x, .tup [.ty "list", .ty "tuple", .ty "dict"]] G Q := isD_tys (Ts := ["list", "tuple", "dict"]) h (kit_ltd T h.mem) q
def SameN (K : PySem.W.Frag) (n : Nat) (x y : D) (G : DH) : Prop := ∀ G' (Q : DK) (E : DX), Sub G G' → Q (.bl true) G' → sp__law_same K n [x, y] G' Q E
theorem SameN.sub {G' : DH} (s : Sub G G') (h : SameN K n x y G) : SameN K n x y G' := fun G2 Q E s2 q => h G2 Q E (s.trans s2) q
theorem same_int {i : Int} : SameN K (n + 1) (.int i) (.int i) G := by
  intro G' Q E s q
  show wSp 2 N__law_same (w__law_same K (sp__law_same K n)) _ G' Q E
  refine wSp_mk rfl ?_
  unfold w__law_same
  dsimp only [wSeq, wSetIx, wOp, wC, wB, wIfS, wAsg, wCB, wCons, wNil, wRet, wRetN, wAnd, wOr, wNot, wAndV, wOrV, wNotV, wIf, wTup, wLst, wBM, wNext, wExpr, wUn, wChain, wCall, wSl, wPart, wNoPart, wNever, wLkS, wStar, wStarItems, wListItems, wSumVals, wFld, wSetFld, wMake, wMeth, wCallK, wDisp, wEmp, wPairs, wLk, wBreak, wCont, asg, asgs]
  have hT : TyN (.int i) G' "int" := rfl
  refine x_var rfl ⟨by decide, x_isLT hT ⟨_, rfl, itF ?_⟩⟩
  refine x_var rfl (x_isi hT (by decide) ⟨_, rfl, itF ?_⟩)
  refine x_var rfl (x_isi hT (by decide) ⟨_, rfl, itF ?_⟩)
  refine x_var rfl (x_isi hT (by decide) ⟨_, rfl, itF ?_⟩)
  refine x_var rfl (x_isN ⟨_, rfl, itF ?_⟩)
  refine x_var rfl (x_isN ⟨_, rfl, itF ?_⟩)
  refine x_var rfl (x_isi hT (by decide) (x_var rfl (x_isi hT (by decide) (Or.inl ⟨_, rfl, _, rfl, itF ?_⟩))))
  refine x_var rfl (x_isi hT (by decide) (x_var rfl (x_isi hT (by decide) (Or.inl ⟨_, rfl, _, rfl, itF ?_⟩))))
  refine x_var rfl ⟨by decide, x_isLTD hT ⟨_, rfl, _, rfl, itT ?_⟩⟩
  refine x_var rfl (x_var rfl (x_eqI (fg0 ?_)))
  rw [decide_eq_true rfl]; exact q
theorem same_str {z : Str} : SameN K (n + 1) (.str z) (.str z) G := by
  intro G' Q E s q
  show wSp 2 N__law_same (w__law_same K (sp__law_same K n)) _ G' Q E
  refine wSp_mk rfl ?_
  unfold w__law_same
  dsimp only [wSeq, wSetIx, wOp, wC, wB, wIfS, wAsg, wCB, wCons, wNil, wRet, wRetN, wAnd, wOr, wNot, wAndV, wOrV, wNotV, wIf, wTup, wLst, wBM, wNext, wExpr, wUn, wChain, wCall, wSl, wPart, wNoPart, wNever, wLkS, wStar, wStarItems, wListItems, wSumVals, wFld, wSetFld, wMake, wMeth, wCallK, wDisp, wEmp, wPairs, wLk, wBreak, wCont, asg, asgs]
  have hT : TyN (.str z) G' "str" := rfl
  refine x_var rfl ⟨by decide, x_isLT hT ⟨_, rfl, itF ?_⟩⟩
  refine x_var rfl (x_isi hT (by decide) ⟨_, rfl, itF ?_⟩)
  refine x_var rfl (x_isi hT (by decide) ⟨_, rfl, itF ?_⟩)
  refine x_var rfl (x_isi hT (by decide) ⟨_, rfl, itF ?_⟩)
  refine x_var rfl (x_isN ⟨_, rfl, itF ?_⟩)
  refine x_var rfl (x_isN ⟨_, rfl, itF ?_⟩)
  refine x_var rfl (x_isi hT (by decide) (x_var rfl (x_isi hT (by decide) (Or.inl ⟨_, rfl, _, rfl, itF ?_⟩))))
  refine x_var rfl (x_isi hT (by decide) (x_var rfl (x_isi hT (by decide) (Or.inl ⟨_, rfl, _, rfl, itF ?_⟩))))
  refine x_var rfl ⟨by decide, x_isLTD hT ⟨_, rfl, _, rfl, itT ?_⟩⟩
  refine x_var rfl (x_var rfl (x_eqS (fg0 ?_)))
  rw [decide_eq_true rfl]; exact q
theorem same_bl {i : Bool} : SameN K (n + 1) (.bl i) (.bl i) G := by
  intro G' Q E s q
  show wSp 2 N__law_same (w__law_same K (sp__law_same K n)) _ G' Q E
  refine wSp_mk rfl ?_
  unfold w__law_same
  dsimp only [wSeq, wSetIx, wOp, wC, wB, wIfS, wAsg, wCB, wCons, wNil, wRet, wRetN, wAnd, wOr, wNot, wAndV, wOrV, wNotV, wIf, wTup, wLst, wBM, wNext, wExpr, wUn, wChain, wCall, wSl, wPart, wNoPart, wNever, wLkS, wStar, wStarItems, wListItems, wSumVals, wFld, wSetFld, wMake, wMeth, wCallK, wDisp, wEmp, wPairs, wLk, wBreak, wCont, asg, asgs]
  have hT : TyN (.bl i) G' "bool" := rfl
  refine x_var rfl ⟨by decide, x_isLT hT ⟨_, rfl, itF ?_⟩⟩
  refine x_var rfl (x_isi hT (by decide) ⟨_, rfl, itF ?_⟩)
  refine x_var rfl (x_isi hT (by decide) ⟨_, rfl, itT ?_⟩)
  refine itT ?_
  refine x_var rfl (x_isi hT (by decide) ⟨_, rfl, itT ?_⟩)
  refine x_var rfl (x_isi hT (by decide) ⟨_, rfl, itT ?_⟩)
  refine x_var rfl (x_var rfl (Or.inl ⟨true, by cases i <;> rfl, fg0 q⟩))

theorem zip_lc {ds es : List D} {self : DSp} {vs : List Nat} {δ : DEnv} {S : DH → Prop} {i j : Nat} {we : WE} (hS : ∀ G', Sub G G' → S G') (hl : ds.length = es.length) (hz : es.length ≤ 100000)
    (step : ∀ (x y : D) (G' : DH) (Y : DK), Sub G G' → (∀ G3, Sub G' G3 → Y (.bl true) G3) → ∀ k : Nat, ds[k]? = some x → es[k]? = some y → we (((wipeD δ vs).set i (some x)).set j (some y)) G' Y)
    (q : ∀ p G2, G.ob p = none → Sub (G.put p (.lst true ((es.map fun _ => true).map .bl))) G2 → Q (.ref p) G2) : LcBody (.tp [.nm i, .nm j]) (fun _ G Q => Q true G) we vs δ Q S (zipD ds es) G := by
  have hzl : (zipD ds es).length = es.length := by
    unfold zipD
    rw [List.length_map, List.length_zip]
    omega
  refine lcX ((es.map fun _ => true).map .bl) hS (by rw [hzl, List.length_map, List.length_map]) (by rw [List.length_map, List.length_map]; omega) (fun k x y G' Y hx hy s hY => ?_) q
  unfold zipD at hx
  rw [List.getElem?_map] at hx
  obtain ⟨pr, hpr, e⟩ := Option.map_eq_some_iff.mp hx
  subst e
  obtain ⟨h1, h2⟩ := List.getElem?_zip_eq_some.mp hpr
  rw [List.getElem?_map, List.getElem?_map, h2] at hy
  have ey : y = .bl true := (Option.some.inj hy).symm
  subst ey
  exact ⟨_, asg2 rfl, step pr.1 pr.2 G' Y s hY k h1 h2⟩
theorem all_true (es : List D) : List.all (es.map fun _ => true) id = true := by simp
theorem same_lst {a b : Addr} {w w' : Bool} {ds es : List D} (h : G.ob a = some (.lst w ds)) (h' : G.ob b = some (.lst w' es)) (hl : ds.length = es.length) (hz : es.length ≤ 100000) (hp : ∀ (k : Nat) (x y : D), ds[k]? = some x → es[k]? = some y → SameN K n x y G) : SameN K (n + 1) (.ref a) (.ref b) G := by
  intro G' Q E s q
  show wSp 2 N__law_same (w__law_same K (sp__law_same K n)) _ G' Q E
  refine wSp_mk rfl ?_
  unfold w__law_same
  dsimp only [wSeq, wSetIx, wOp, wC, wB, wIfS, wAsg, wCB, wCons, wNil, wRet, wRetN, wAnd, wOr, wNot, wAndV, wOrV, wNotV, wIf, wTup, wLst, wBM, wNext, wExpr, wUn, wChain, wCall, wSl, wPart, wNoPart, wNever, wLkS, wStar, wStarItems, wListItems, wSumVals, wFld, wSetFld, wMake, wMeth, wCallK, wDisp, wEmp, wPairs, wLk, wBreak, wCont, asg, asgs]
  have ha := s.ob _ _ h
  have hb := s.ob _ _ h'
  have hT : TyN (.ref a) G' "list" := by unfold TyN; simp [ha]
  have hU : TyN (.ref b) G' "list" := by unfold TyN; simp [hb]
  refine x_var rfl ⟨by decide, x_isLT hU ⟨_, rfl, itT ?_⟩⟩
  refine x_var rfl (x_isi hT (by decide) (x_var rfl (x_isi hU (by decide) (Or.inl ⟨_, rfl, _, rfl, itF ?_⟩))))
  refine x_var rfl (x_isi hT (by decide) (x_var rfl (x_isi hU (by decide) (Or.inl ⟨_, rfl, _, rfl, itF ?_⟩))))
  refine x_var rfl (x_lenL ha (x_var rfl (x_lenL hb (x_eqI ⟨_, rfl, ?_⟩))))
  rw [if_pos (decide_eq_true (by rw [hl]))]
  refine x_lc (x_wiZip ?_)
  dsimp only [wSeq, wSetIx, wOp, wC, wB, wIfS, wAsg, wCB, wCons, wNil, wRet, wRetN, wAnd, wOr, wNot, wAndV, wOrV, wNotV, wIf, wTup, wLst, wBM, wNext, wExpr, wUn, wChain, wCall, wSl, wPart, wNoPart, wNever, wLkS, wStar, wStarItems, wListItems, wSumVals, wFld, wSetFld, wMake, wMeth, wCallK, wDisp, wEmp, wPairs, wLk, wBreak, wCont, asg, asgs]
  refine x_var rfl (x_var rfl (Or.inl ⟨a, b, ds, es, rfl, ⟨w, ha⟩, ⟨w', hb⟩, ?_⟩))
  refine zip_lc (self := sp__law_same K n) (fun G2 s2 => ⟨⟨w, s2.ob _ _ ha⟩, ⟨w', s2.ob _ _ hb⟩⟩) hl hz (fun x y G2 Y s2 hY k h1 h2 => ?_) (fun p G2 hp2 s2 => ?_)
  · dsimp only [wSeq, wSetIx, wOp, wC, wB, wIfS, wAsg, wCB, wCons, wNil, wRet, wRetN, wAnd, wOr, wNot, wAndV, wOrV, wNotV, wIf, wTup, wLst, wBM, wNext, wExpr, wUn, wChain, wCall, wSl, wPart, wNoPart, wNever, wLkS, wStar, wStarItems, wListItems, wSumVals, wFld, wSetFld, wMake, wMeth, wCallK, wDisp, wEmp, wPairs, wLk, wBreak, wCont, asg, asgs]
    exact x_var rfl (x_var rfl (hp k x y h1 h2 G2 Y _ (s.trans s2) (hY G2 (Sub.refl G2))))
  · refine ⟨p, es.map fun _ => true, rfl, ⟨true, s2.ob _ _ DH.put_same⟩, ?_⟩
    rw [all_true]
    exact fgI (((Sub.refl G').new hp2).trans s2) q
theorem same_tup {ds es : List D} (hl : ds.length = es.length) (hz : es.length ≤ 100000) (hp : ∀ (k : Nat) (x y : D), ds[k]? = some x → es[k]? = some y → SameN K n x y G) : SameN K (n + 1) (.tup ds) (.tup es) G := by
  intro G' Q E s q
  show wSp 2 N__law_same (w__law_same K (sp__law_same K n)) _ G' Q E
  refine wSp_mk rfl ?_
  unfold w__law_same
  dsimp only [wSeq, wSetIx, wOp, wC, wB, wIfS, wAsg, wCB, wCons, wNil, wRet, wRetN, wAnd, wOr, wNot, wAndV, wOrV, wNotV, wIf, wTup, wLst, wBM, wNext, wExpr, wUn, wChain, wCall, wSl, wPart, wNoPart, wNever, wLkS, wStar, wStarItems, wListItems, wSumVals, wFld, wSetFld, wMake, wMeth, wCallK, wDisp, wEmp, wPairs, wLk, wBreak, wCont, asg, asgs]
  have hT : TyN (.tup ds) G' "tuple" := rfl
  have hU : TyN (.tup es) G' "tuple" := rfl
  refine x_var rfl ⟨by decide, x_isLT hU ⟨_, rfl, itT ?_⟩⟩
  refine x_var rfl (x_isi hT (by decide) (x_var rfl (x_isi hU (by decide) (Or.inl ⟨_, rfl, _, rfl, itF ?_⟩))))
  refine x_var rfl (x_isi hT (by decide) (x_var rfl (x_isi hU (by decide) (Or.inl ⟨_, rfl, _, rfl, itF ?_⟩))))
  refine x_var rfl (x_lenT (x_var rfl (x_lenT (x_eqI ⟨_, rfl, ?_⟩))))
  rw [if_pos (decide_eq_true (by rw [hl]))]
  refine x_lc (x_wiZip ?_)
  dsimp only [wSeq, wSetIx, wOp, wC, wB, wIfS, wAsg, wCB, wCons, wNil, wRet, wRetN, wAnd, wOr, wNot, wAndV, wOrV, wNotV, wIf, wTup, wLst, wBM, wNext, wExpr, wUn, wChain, wCall, wSl, wPart, wNoPart, wNever, wLkS, wStar, wStarItems, wListItems, wSumVals, wFld, wSetFld, wMake, wMeth, wCallK, wDisp, wEmp, wPairs, wLk, wBreak, wCont, asg, asgs]
  refine x_var rfl (x_var rfl (Or.inr ⟨ds, es, rfl, ?_⟩))
  refine zip_lc (self := sp__law_same K n) (fun G2 s2 => trivial) hl hz (fun x y G2 Y s2 hY k h1 h2 => ?_) (fun p G2 hp2 s2 => ?_)
  · dsimp only [wSeq, wSetIx, wOp, wC, wB, wIfS, wAsg, wCB, wCons, wNil, wRet, wRetN, wAnd, wOr, wNot, wAndV, wOrV, wNotV, wIf, wTup, wLst, wBM, wNext, wExpr, wUn, wChain, wCall, wSl, wPart, wNoPart, wNever, wLkS, wStar, wStarItems, wListItems, wSumVals, wFld, wSetFld, wMake, wMeth, wCallK, wDisp, wEmp, wPairs, wLk, wBreak, wCont, asg, asgs]
    exact x_var rfl (x_var rfl (hp k x y h1 h2 G2 Y _ (s.trans s2) (hY G2 (Sub.refl G2))))
  · refine ⟨p, es.map fun _ => true, rfl, ⟨true, s2.ob _ _ DH.put_same⟩, ?_⟩
    rw [all_true]
    exact fgI (((Sub.refl G').new hp2).trans s2) q
theorem same_wd {a b : Addr} {w w' : Bool} {ws : W} (h : G.ob a = some (.dct w (wd ws))) (h' : G.ob b = some (.dct w' (wd ws))) (hz : ws.length ≤ 60) : SameN K (n + 4) (.ref a) (.ref b) G := by
  intro G' Q E s q
  show wSp 2 N__law_same (w__law_same K (sp__law_same K (n + 3))) _ G' Q E
  refine wSp_mk rfl ?_
  unfold w__law_same
  dsimp only [wSeq, wSetIx, wOp, wC, wB, wIfS, wAsg, wCB, wCons, wNil, wRet, wRetN, wAnd, wOr, wNot, wAndV, wOrV, wNotV, wIf, wTup, wLst, wBM, wNext, wExpr, wUn, wChain, wCall, wSl, wPart, wNoPart, wNever, wLkS, wStar, wStarItems, wListItems, wSumVals, wFld, wSetFld, wMake, wMeth, wCallK, wDisp, wEmp, wPairs, wLk, wBreak, wCont, asg, asgs]
  have ha := s.ob _ _ h
  have hb := s.ob _ _ h'
  have hT : TyN (.ref a) G' "dict" := by unfold TyN; simp [ha]
  have hU : TyN (.ref b) G' "dict" := by unfold TyN; simp [hb]
  refine x_var rfl ⟨by decide, x_isLT hU ⟨_, rfl, itF ?_⟩⟩
  refine x_var rfl (x_isi hU (by decide) ⟨_, rfl, itT ?_⟩)
  refine x_var rfl (x_isi hT (by decide) ⟨_, rfl, itT ?_⟩)
  refine x_var rfl ⟨a, _, _, rfl, ha, fun p1 hp1 => ?_⟩
  have s1 := (Sub.refl G').new (o := .lst true (itemsD (wd ws))) hp1
  refine x_var rfl ⟨b, _, _, rfl, s1.ob _ _ hb, fun p2 hp2 => ?_⟩
  have s2 := (Sub.refl _).new (o := .lst true (itemsD (wd ws))) hp2
  have hil : (itemsD (wd ws)).length = ws.length := by unfold itemsD; rw [List.length_map, wd_len]
  refine same_lst (s2.ob _ _ DH.put_same) DH.put_same rfl (by rw [hil]; omega) (fun k x y hx hy => ?_) _ _ _ (Sub.refl _) (fgI (s1.trans s2) q)
  rw [hx] at hy
  have e := Option.some.inj hy
  subst e
  unfold itemsD wd at hx
  rw [List.map_map, List.getElem?_map] at hx
  obtain ⟨p, _, e⟩ := Option.map_eq_some_iff.mp hx
  subst e
  refine same_tup rfl (by show 2 ≤ 100000; decide) (fun k x y hx hy => ?_)
  match k, hx, hy with
  | 0, hx, hy =>
    have e1 : x = .str p.1 := (Option.some.inj hx).symm
    have e2 : y = .str p.1 := (Option.some.inj hy).symm
    subst e1; subst e2
    exact same_str
  | 1, hx, hy =>
    have e1 : x = .int p.2 := (Option.some.inj hx).symm
    have e2 : y = .int p.2 := (Option.some.inj hy).symm
    subst e1; subst e2
    exact same_int
  | k + 2, hx, hy => simp at hx
end
end Q7

namespace Q7
open PySem PySem.Spec PyProof.Rows L2
/-! ### copied -/
section
variable {K : PySem.W.Frag} {G : DH} {Q : DK} {E : DX} {x y : D} {n : Nat} {l : Addr}
theorem copy_str {z : Str} (q : Q (.str z) G) : sp__law_copied K (n + 1) [.str z] G Q E := by
  show wSp 1 N__law_copied (w__law_copied K (sp__law_copied K n)) _ G Q E
  refine wSp_mk rfl ?_
  unfold w__law_copied
  dsimp only [wSeq, wSetIx, wOp, wC, wB, wIfS, wAsg, wCB, wCons, wNil, wRet, wRetN, wAnd, wOr, wNot, wAndV, wOrV, wNotV, wIf, wTup, wLst, wBM, wNext, wExpr, wUn, wChain, wCall, wSl, wPart, wNoPart, wNever, wLkS, wStar, wStarItems, wListItems, wSumVals, wFld, wSetFld, wMake, wMeth, wCallK, wDisp, wEmp, wPairs, wLk, wBreak, wCont, asg, asgs]
  have hT : TyN (.str z) G "str" := rfl
  refine x_var rfl ⟨by decide, x_isLT hT ⟨_, rfl, itF ?_⟩⟩
  refine x_var rfl (x_isi hT (by decide) ⟨_, rfl, itF ?_⟩)
  exact x_var rfl (fg0 q)
theorem copy_hand {p : Hand} (q : Q (hD p) G) : sp__law_copied K (n + 2) [hD p] G Q E := by
  show wSp 1 N__law_copied (w__law_copied K (sp__law_copied K (n + 1))) _ G Q E
  refine wSp_mk rfl ?_
  unfold w__law_copied
  dsimp only [wSeq, wSetIx, wOp, wC, wB, wIfS, wAsg, wCB, wCons, wNil, wRet, wRetN, wAnd, wOr, wNot, wAndV, wOrV, wNotV, wIf, wTup, wLst, wBM, wNext, wExpr, wUn, wChain, wCall, wSl, wPart, wNoPart, wNever, wLkS, wStar, wStarItems, wListItems, wSumVals, wFld, wSetFld, wMake, wMeth, wCallK, wDisp, wEmp, wPairs, wLk, wBreak, wCont, asg, asgs]
  have hT : TyN (hD p) G "tuple" := rfl
  refine x_var rfl ⟨by decide, x_isLT hT ⟨_, rfl, itT ?_⟩⟩
  refine x_lc (x_wiE ?_)
  refine x_var rfl (Or.inr (Or.inl ⟨_, rfl, ?_⟩))
  refine lcX [.str p.1, .str p.2] (fun _ _ => trivial) rfl (by show 2 ≤ 1000000; decide) (fun i x y G' Y hx hy s hY => ?_) (fun p1 G1 hp1 s1 => ?_)
  · refine ⟨_, rfl, ?_⟩
    dsimp only [wSeq, wSetIx, wOp, wC, wB, wIfS, wAsg, wCB, wCons, wNil, wRet, wRetN, wAnd, wOr, wNot, wAndV, wOrV, wNotV, wIf, wTup, wLst, wBM, wNext, wExpr, wUn, wChain, wCall, wSl, wPart, wNoPart, wNever, wLkS, wStar, wStarItems, wListItems, wSumVals, wFld, wSetFld, wMake, wMeth, wCallK, wDisp, wEmp, wPairs, wLk, wBreak, wCont, asg, asgs]
    match i, hx, hy with
    | 0, hx, hy =>
      have e1 : x = .str p.1 := (Option.some.inj hx).symm
      have e2 : y = .str p.1 := (Option.some.inj hy).symm
      subst e1; subst e2
      exact x_var rfl (copy_str (hY G' (Sub.refl G')))
    | 1, hx, hy =>
      have e1 : x = .str p.2 := (Option.some.inj hx).symm
      have e2 : y = .str p.2 := (Option.some.inj hy).symm
      subst e1; subst e2
      exact x_var rfl (copy_str (hY G' (Sub.refl G')))
    | k + 2, hx, hy => simp at hx
  · have hU : TyN (hD p) G1 "tuple" := rfl
    refine ⟨_, rfl, ?_⟩
    refine x_var rfl (x_isi hU (by decide) ⟨_, rfl, itF ?_⟩)
    refine x_var rfl ⟨_, .inl ⟨p1, rfl, true, s1.ob _ _ DH.put_same⟩, fgI (((Sub.refl G).new hp1).trans s1) q⟩
theorem copy_web {hs : List Hand} {w : Bool} (h : G.ob l = some (.lst w (hs.map hD))) (hz : hs.length ≤ 10000) (q : ∀ p, G.ob p = none → Q (.ref p) (G.put p (.lst true (hs.map hD)))) : sp__law_copied K (n + 3) [.ref l] G Q E := by
  show wSp 1 N__law_copied (w__law_copied K (sp__law_copied K (n + 2))) _ G Q E
  refine wSp_mk rfl ?_
  unfold w__law_copied
  dsimp only [wSeq, wSetIx, wOp, wC, wB, wIfS, wAsg, wCB, wCons, wNil, wRet, wRetN, wAnd, wOr, wNot, wAndV, wOrV, wNotV, wIf, wTup, wLst, wBM, wNext, wExpr, wUn, wChain, wCall, wSl, wPart, wNoPart, wNever, wLkS, wStar, wStarItems, wListItems, wSumVals, wFld, wSetFld, wMake, wMeth, wCallK, wDisp, wEmp, wPairs, wLk, wBreak, wCont, asg, asgs]
  have hT : TyN (.ref l) G "list" := by unfold TyN; simp [h]
  refine x_var rfl ⟨by decide, x_isLT hT ⟨_, rfl, itT ?_⟩⟩
  refine x_lc (x_wiE ?_)
  refine x_var rfl (Or.inl ⟨l, _, rfl, ⟨w, h⟩, ?_⟩)
  refine lcX (hs.map hD) (fun G' s => ⟨w, s.ob _ _ h⟩) rfl (by rw [List.length_map]; omega) (fun i x y G' Y hx hy s hY => ?_) (fun p1 G1 hp1 s1 => ?_)
  · refine ⟨_, rfl, ?_⟩
    dsimp only [wSeq, wSetIx, wOp, wC, wB, wIfS, wAsg, wCB, wCons, wNil, wRet, wRetN, wAnd, wOr, wNot, wAndV, wOrV, wNotV, wIf, wTup, wLst, wBM, wNext, wExpr, wUn, wChain, wCall, wSl, wPart, wNoPart, wNever, wLkS, wStar, wStarItems, wListItems, wSumVals, wFld, wSetFld, wMake, wMeth, wCallK, wDisp, wEmp, wPairs, wLk, wBreak, wCont, asg, asgs]
    rw [hx] at hy
    have e := Option.some.inj hy
    subst e
    rw [List.getElem?_map] at hx
    obtain ⟨p, _, e⟩ := Option.map_eq_some_iff.mp hx
    subst e
    exact x_var rfl (copy_hand (hY G' (Sub.refl G')))
  · have sA := ((Sub.refl G).new hp1).trans s1
    have hU : TyN (.ref l) G1 "list" := by unfold TyN; simp [sA.ob _ _ h]
    refine ⟨_, rfl, ?_⟩
    refine x_var rfl (x_isi hU (by decide) ⟨_, rfl, itT ?_⟩)
    exact x_var rfl (fgI s1 (q p1 hp1))
end
end Q7

namespace Q7
open PySem PySem.Spec PyProof.Rows L2
/-! ### loose -/
section
variable {K : PySem.W.Frag} {G : DH} {Q : DK} {E : DX} {x y : D} {a l : Addr} {m : Int} {n : Nat} {ds : List D}
theorem loose_leaf {T : String} (hT : TyN x G T) (h1 : (T == "list" || T == "tuple") = false) (q : Q x G) : sp__law_loose K (n + 1) [.ref a, x] G Q E := by
  show wSp 2 N__law_loose (w__law_loose K (sp__law_loose K n)) _ G Q E
  refine wSp_mk rfl ?_
  unfold w__law_loose
  dsimp only [wSeq, wSetIx, wOp, wC, wB, wIfS, wAsg, wCB, wCons, wNil, wRet, wRetN, wAnd, wOr, wNot, wAndV, wOrV, wNotV, wIf, wTup, wLst, wBM, wNext, wExpr, wUn, wChain, wCall, wSl, wPart, wNoPart, wNever, wLkS, wStar, wStarItems, wListItems, wSumVals, wFld, wSetFld, wMake, wMeth, wCallK, wDisp, wEmp, wPairs, wLk, wBreak, wCont, asg, asgs]
  refine x_var rfl ⟨by decide, x_isLT hT ⟨_, rfl, ?_⟩⟩
  rw [h1]
  exact itF (x_var rfl (fg0 q))
theorem loose_seq (c : Nat) (P : Nat → D → DH → Prop) (mono : ∀ i y G G', Sub (fr G) G' → P i y G → P i y G') (h : SA G a m) (hx : SeqD x ds G) (hl : ds.length ≤ 10000) (hm : m + c * ds.length + 1 < big)
    (step : ∀ (i : Nat) (z : D) (G' : DH) (Y : DK) (k : Int), ds[i]? = some z → Sub (fr G) G' → SA G' a k → k ≤ m + c * i → i < ds.length → (∀ y G3, Sub (fr G') G3 → SA G3 a (k + c) → P i y (diff G3 G') → Y y G3) → sp__law_loose K n [.ref a, z] G' Y DX0)
    (q : ∀ y L G', Sub (fr G) G' → SA G' a (m + c * ds.length + 1) → L.length = ds.length → (∀ i z, L[i]? = some z → P i z (diff G' G)) → SeqD y L (diff G' G) → Q y G') : sp__law_loose K (n + 1) [.ref a, x] G Q E := by
  show wSp 2 N__law_loose (w__law_loose K (sp__law_loose K n)) _ G Q E
  refine wSp_mk rfl ?_
  unfold w__law_loose
  dsimp only [wSeq, wSetIx, wOp, wC, wB, wIfS, wAsg, wCB, wCons, wNil, wRet, wRetN, wAnd, wOr, wNot, wAndV, wOrV, wNotV, wIf, wTup, wLst, wBM, wNext, wExpr, wUn, wChain, wCall, wSl, wPart, wNoPart, wNever, wLkS, wStar, wStarItems, wListItems, wSumVals, wFld, wSetFld, wMake, wMeth, wCallK, wDisp, wEmp, wPairs, wLk, wBreak, wCont, asg, asgs]
  obtain ⟨T, hT, eT⟩ := hx.ty
  refine x_var rfl ⟨by decide, x_isLT hT ⟨_, rfl, ?_⟩⟩
  rw [eT]
  refine itT ?_
  refine x_lc (x_wiE ?_)
  have hxf : SeqD x ds (fr G) := hx
  refine x_var rfl (hxf.walk (Sub.frr G) fun S hS => ?_)
  refine lcS c P mono h hS (by omega) (fun i z G' Y hz s sa hY => ?_) (fun p L G' hp hL hP s sa => ?_)
  · have hlt : i < ds.length := (List.getElem?_eq_some_iff.mp hz).1
    refine ⟨_, rfl, ?_⟩
    dsimp only [wSeq, wSetIx, wOp, wC, wB, wIfS, wAsg, wCB, wCons, wNil, wRet, wRetN, wAnd, wOr, wNot, wAndV, wOrV, wNotV, wIf, wTup, wLst, wBM, wNext, wExpr, wUn, wChain, wCall, wSl, wPart, wNoPart, wNever, wLkS, wStar, wStarItems, wListItems, wSumVals, wFld, wSetFld, wMake, wMeth, wCallK, wDisp, wEmp, wPairs, wLk, wBreak, wCont, asg, asgs]
    refine x_var rfl (x_var rfl (step i z G' Y (m + c * i) hz s sa (Int.le_refl _) hlt fun y G3 s3 sa3 hp3 => hY y G3 s3 (sa3.mono ?_) hp3))
    have e : (c : Int) * ((i + 1 : Nat) : Int) = c * i + c := by rw [Int.natCast_add, Int.mul_add]; simp
    rw [e]; omega
  · have hP' : ∀ i z, L[i]? = some z → P i z (diff G' G) := fun i z hz => mono i z _ _ (Sub.fr (rm_sub _ _)) (hP i z hz)
    refine ⟨_, rfl, ?_⟩
    refine x_var rfl (t_draw sa (by omega) (by decide) (by decide) fun j G2 hj s2 sa2 hb2 => x_eqI ⟨_, rfl, ?_⟩)
    have sG : Sub (fr G) G2 := Sub.frt (((Sub.refl (fr G)).new hp).trans s) s2
    have ep : G2.ob p = some (.lst true L) := by rw [hb2]; exact s.ob _ _ DH.put_same
    have hP2 : ∀ i z, L[i]? = some z → P i z (diff G2 G) := fun i z hz => mono i z _ _ (Sub.fr (diff_mono s2)) (hP' i z hz)
    by_cases hj0 : (j : Int) = 0
    · rw [if_pos (decide_eq_true hj0)]
      exact x_var rfl (fg0 (q (.ref p) L G2 sG sa2 hL hP2 (.inl ⟨p, true, rfl, diff_new hp ep⟩)))
    · rw [if_neg (by simpa using hj0)]
      exact x_var rfl ⟨L, .inl ⟨p, rfl, true, ep⟩, fg0 (q (.tup L) L G2 sG sa2 hL hP2 (.inr rfl))⟩
end
end Q7

namespace Q7
open PySem PySem.Spec PyProof.Rows L2
/-! ### loose rows, loose webs -/
section
variable {K : PySem.W.Frag} {G : DH} {Q : DK} {E : DX} {x y : D} {a l : Addr} {m : Int} {n : Nat} {ds : List D}
theorem unp_seq (h : SeqD x ds G) : unp G x = some ds := h.unp
theorem loose_row {p : Str × Int} (h : SA G a m) (hm : m + 1 < big) (hx : rowOf G x = some p) (q : ∀ y G', Sub (fr G) G' → SA G' a (m + 1) → rowOf (diff G' G) y = some p → Q y G') : sp__law_loose K (n + 2) [.ref a, x] G Q E := by
  refine loose_seq 0 (fun i y _ => [D.str p.1, .int p.2][i]? = some y) (fun _ _ _ _ _ z => z) h (seq_unp (rowOf_unp hx)) (by show 2 ≤ 10000; decide) (by simpa using hm) (fun i z G' Y k hz s sa hk hi hY => ?_) (fun y L G' s sa hL hP hs => ?_)
  · match i, hz with
    | 0, hz =>
      have e : z = .str p.1 := (Option.some.inj hz).symm
      subst e
      exact loose_leaf (T := "str") rfl (by decide) (hY _ G' (Sub.frr G') (sa.mono (by omega)) rfl)
    | 1, hz =>
      have e : z = .int p.2 := (Option.some.inj hz).symm
      subst e
      exact loose_leaf (T := "int") rfl (by decide) (hY _ G' (Sub.frr G') (sa.mono (by omega)) rfl)
    | k + 2, hz => simp at hz
  · refine q y G' s (sa.mono (by simp)) (rowOf_of ?_)
    rw [hs.unp]
    congr 1
    refine List.ext_getElem? fun i => ?_
    cases e : L[i]? with
    | none =>
      have : L.length ≤ i := List.getElem?_eq_none_iff.mp e
      rw [List.getElem?_eq_none (by show 2 ≤ i; rw [hL] at this; exact this)]
    | some z => rw [hP i z e]
theorem loose_hand {p : Hand} (h : SA G a m) (hm : m + 1 < big) (hx : handOf G x = some p) (q : ∀ y G', Sub (fr G) G' → SA G' a (m + 1) → handOf (diff G' G) y = some p → Q y G') : sp__law_loose K (n + 2) [.ref a, x] G Q E := by
  refine loose_seq 0 (fun i y _ => [D.str p.1, .str p.2][i]? = some y) (fun _ _ _ _ _ z => z) h (seq_unp (handOf_unp hx)) (by show 2 ≤ 10000; decide) (by simpa using hm) (fun i z G' Y k hz s sa hk hi hY => ?_) (fun y L G' s sa hL hP hs => ?_)
  · match i, hz with
    | 0, hz =>
      have e : z = .str p.1 := (Option.some.inj hz).symm
      subst e
      exact loose_leaf (T := "str") rfl (by decide) (hY _ G' (Sub.frr G') (sa.mono (by omega)) rfl)
    | 1, hz =>
      have e : z = .str p.2 := (Option.some.inj hz).symm
      subst e
      exact loose_leaf (T := "str") rfl (by decide) (hY _ G' (Sub.frr G') (sa.mono (by omega)) rfl)
    | k + 2, hz => simp at hz
  · refine q y G' s (sa.mono (by simp)) (handOf_of ?_)
    rw [hs.unp]
    congr 1
    refine List.ext_getElem? fun i => ?_
    cases e : L[i]? with
    | none =>
      have : L.length ≤ i := List.getElem?_eq_none_iff.mp e
      rw [List.getElem?_eq_none (by show 2 ≤ i; rw [hL] at this; exact this)]
    | some z => rw [hP i z e]
theorem rowOf_fr {G' : DH} (s : Sub (fr G) G') {d : D} {p : Str × Int} (h : rowOf G d = some p) : rowOf G' d = some p := rowOf_sub s h
theorem handOf_fr {G' : DH} (s : Sub (fr G) G') {d : D} {p : Hand} (h : handOf G d = some p) : handOf G' d = some p := handOf_sub s h
theorem loose_rows {ws : W} (h : SA G a m) (hm : m + 1000 < big) (hx : SeqD x ds G) (hr : RowsD ds ws G) (hl : ws.length ≤ 60) (q : ∀ y L G', Sub (fr G) G' → SA G' a (m + 1000) → SeqD y L (diff G' G) → RowsD L ws (diff G' G) → Q y G') : sp__law_loose K (n + 3) [.ref a, x] G Q E := by
  have hlen := hr.length
  refine loose_seq 1 (fun i y G => ∃ p, ws[i]? = some p ∧ rowOf G y = some p) (fun i y G G' s ⟨p, h1, h2⟩ => ⟨p, h1, rowOf_fr s h2⟩) h hx (by omega) (by omega) (fun i z G' Y k hz s sa hk hi hY => ?_) (fun y L G' s sa hL hP hs => ?_)
  · obtain ⟨p, hp, hpr⟩ := hr.at hz
    exact loose_row sa (by omega) (rowOf_fr s hpr) fun y G3 s3 sa3 h3 => hY y G3 s3 sa3 ⟨p, hp, h3⟩
  · refine q y L G' s (sa.mono (by omega)) hs ?_
    unfold RowsD
    refine List.ext_getElem? fun i => ?_
    rw [List.getElem?_map, List.getElem?_map]
    cases e : L[i]? with
    | none =>
      have : L.length ≤ i := List.getElem?_eq_none_iff.mp e
      rw [List.getElem?_eq_none (by omega)]; rfl
    | some z =>
      obtain ⟨p, h1, h2⟩ := hP i z e
      rw [h1]
      show some (rowOf (diff G' G) z) = some (some p)
      rw [h2]
theorem loose_hands {hs : List Hand} (h : SA G a m) (hm : m + 10000 < big) (hx : SeqD x ds G) (hr : HandsD ds hs G) (hl : hs.length ≤ 9000) (q : ∀ y L G', Sub (fr G) G' → SA G' a (m + 10000) → SeqD y L (diff G' G) → HandsD L hs (diff G' G) → Q y G') : sp__law_loose K (n + 3) [.ref a, x] G Q E := by
  have hlen := hr.length
  refine loose_seq 1 (fun i y G => ∃ p, hs[i]? = some p ∧ handOf G y = some p) (fun i y G G' s ⟨p, h1, h2⟩ => ⟨p, h1, handOf_fr s h2⟩) h hx (by omega) (by omega) (fun i z G' Y k hz s sa hk hi hY => ?_) (fun y L G' s sa hL hP hs2 => ?_)
  · obtain ⟨p, hp, hpr⟩ := hr.at hz
    exact loose_hand sa (by omega) (handOf_fr s hpr) fun y G3 s3 sa3 h3 => hY y G3 s3 sa3 ⟨p, hp, h3⟩
  · refine q y L G' s (sa.mono (by omega)) hs2 ?_
    unfold HandsD
    refine List.ext_getElem? fun i => ?_
    rw [List.getElem?_map, List.getElem?_map]
    cases e : L[i]? with
    | none =>
      have : L.length ≤ i := List.getElem?_eq_none_iff.mp e
      rw [List.getElem?_eq_none (by omega)]; rfl
    | some z =>
      obtain ⟨p, h1, h2⟩ := hP i z e
      rw [h1]
      show some (handOf (diff G' G) z) = some (some p)
      rw [h2]
end
end Q7

namespace Q7
open PySem PySem.Spec PyProof.Rows L2
/-! ### made -/
section
variable {K : PySem.W.Frag} {G : DH} {Q : DK} {E : DX} {a d : Addr} {m : Int} {ws : W}
theorem perm_keys {ys : List D} {ks : List Str} (h : ys.Perm (ks.map D.str)) : ∃ zs : List Str, ys = zs.map D.str ∧ zs.Perm ks := by
  have e : ys.map (fun d => match d with
    | .str z => z
    | _ => "") = (ys.map fun d => match d with
    | .str z => z
    | _ => "") := rfl
  refine ⟨ys.map fun d => match d with
    | .str z => z
    | _ => "", ?_, ?_⟩
  · rw [List.map_map]
    have : ∀ y ∈ ys, id y = (D.str ∘ fun d => match d with
      | .str z => z
      | _ => "") y := fun y hy => by
      obtain ⟨z, _, ez⟩ := List.mem_map.mp (h.mem_iff.mp hy)
      subst ez; rfl
    rw [← List.map_congr_left this, List.map_id]
  · have h2 := h.map fun d => match d with
      | .str z => z
      | _ => ("" : Str)
    rw [List.map_map] at h2
    have e2 : ((fun d => match d with
      | .str z => z
      | _ => ("" : Str)) ∘ D.str) = id := rfl
    rw [e2, List.map_id] at h2
    exact h2
theorem srtW_eq {ws ws' : W} (nd : (ws.map (·.1)).Nodup) (hp : ws'.Perm ws) : srtW ws' = srtW ws := by
  have tot : ∀ us : W, (srtW us).Pairwise fun p q => leS p.1 q.1 = true := fun us => List.pairwise_mergeSort (le := fun p q : Str × Int => leS p.1 q.1) (fun _ _ _ h h' => leS_trans h h') (fun a b => by have := leS_total a.1 b.1; simpa using this) us
  have hp2 : (srtW ws').Perm (srtW ws) := (srtW_perm ws').trans (hp.trans (srtW_perm ws).symm)
  refine hp2.eq_of_pairwise (fun p q hp hq h1 h2 => ?_) (tot ws') (tot ws)
  have hp' : p ∈ ws := (srtW_perm ws).mem_iff.mp (hp2.mem_iff.mp hp)
  have hq' : q ∈ ws := (srtW_perm ws).mem_iff.mp hq
  have e := leS_anti h1 h2
  have v1 := valA_mem (k := p.1) (v := p.2) nd hp'
  have v2 := valA_mem (k := q.1) (v := q.2) nd hq'
  rw [e, v2] at v1
  exact Prod.ext e (Option.some.inj v1).symm

theorem frn {G G' : DH} {p : Addr} {o : DO} (h : G.ob p = none) (s : Sub ((fr G).put p o) G') : Sub (fr G) G' := Sub.trans (Sub.new (Sub.refl (fr G)) h) s
theorem t_made {w : Bool} (h : SA G a m) (hm : m + 200000 < big) (hd : G.ob d = some (.dct w (wd ws))) (ok : WOk ws) (q : ∀ b e G', G.ob b = none → Sub (fr G) G' → SA G' a (m + 200000) → PartyAt K G' b e (srtW ws) → Q (.ref b) G') : sp__law_made K [.ref a, .ref d] G Q E := by
  refine wSp_mk rfl ?_
  unfold w__law_made
  dsimp only [wSeq, wSetIx, wOp, wC, wB, wIfS, wAsg, wCB, wCons, wNil, wRet, wRetN, wAnd, wOr, wNot, wAndV, wOrV, wNotV, wIf, wTup, wLst, wBM, wNext, wExpr, wUn, wChain, wCall, wSl, wPart, wNoPart, wNever, wLkS, wStar, wStarItems, wListItems, wSumVals, wFld, wSetFld, wMake, wMeth, wCallK, wDisp, wEmp, wPairs, wLk, wBreak, wCont, asg, asgs]
  have hfew := ok.few
  refine x_lc (x_wiE ?_)
  dsimp only [wSeq, wSetIx, wOp, wC, wB, wIfS, wAsg, wCB, wCons, wNil, wRet, wRetN, wAnd, wOr, wNot, wAndV, wOrV, wNotV, wIf, wTup, wLst, wBM, wNext, wExpr, wUn, wChain, wCall, wSl, wPart, wNoPart, wNever, wLkS, wStar, wStarItems, wListItems, wSumVals, wFld, wSetFld, wMake, wMeth, wCallK, wDisp, wEmp, wPairs, wLk, wBreak, wCont, asg, asgs]
  refine x_var rfl (x_var rfl (sort_dict hd (ks_map ws) (by rw [List.length_map]; omega) fun lg hlg => ?_))
  have s0 := (Sub.refl G).new (o := .lst true ((srtS (ws.map (·.1))).map .str)) hlg
  have sa0 : SA (G.put lg (.lst true ((srtS (ws.map (·.1))).map .str))) a m := h
  have hgl : (srtS (ws.map (·.1))).length = ws.length := by rw [(srtS_perm _).length_eq, List.length_map]
  refine t_mixed sa0 (by omega) (.inl ⟨lg, true, rfl, DH.put_same⟩) (by rw [List.length_map]; omega) fun pm ys G1 hp hpm s1 sa1 => ?_
  obtain ⟨zs, ez, hz⟩ := perm_keys hp
  subst ez
  have hzl : zs.length = ws.length := by rw [hz.length_eq, hgl]
  have hzm : ∀ z ∈ zs, z ∈ ws.map (·.1) := fun z hz' => (srtS_perm _).mem_iff.mp (hz.mem_iff.mp hz')
  have sG1 : Sub (fr G) G1 := Sub.frt (Sub.fr s0) (frn hpm s1)
  have hW : ∀ g ∈ zs, valA (wd ws) (Sum.inr g) = some (.int (val ws g)) := fun g hg => wd_val2 (hzm g hg)
  refine Or.inl ⟨pm, _, rfl, ⟨true, s1.ob _ _ DH.put_same⟩, ?_⟩
  refine lcS 1 (fun i y G => ∃ z, zs[i]? = some z ∧ rowOf G y = some (z, val ws z)) (fun i y G G' s ⟨p, h1, h2⟩ => ⟨p, h1, rowOf_fr s h2⟩) sa1 (fun G' s => ⟨true, s.ob _ _ (s1.ob _ _ DH.put_same)⟩) (by rw [List.length_map]; omega) (fun i x G' Y hx s sa hY => ?_) (fun p L G' hp3 hL hP s sa => ?_)
  · rw [List.getElem?_map] at hx
    obtain ⟨g, hg, e⟩ := Option.map_eq_some_iff.mp hx
    subst e
    have hlt : i < zs.length := (List.getElem?_eq_some_iff.mp hg).1
    have hd' : G'.ob d = some (.dct w (wd ws)) := s.ob _ _ (sG1.ob _ _ hd)
    refine ⟨_, rfl, ?_⟩
    dsimp only [wSeq, wSetIx, wOp, wC, wB, wIfS, wAsg, wCB, wCons, wNil, wRet, wRetN, wAnd, wOr, wNot, wAndV, wOrV, wNotV, wIf, wTup, wLst, wBM, wNext, wExpr, wUn, wChain, wCall, wSl, wPart, wNoPart, wNever, wLkS, wStar, wStarItems, wListItems, wSumVals, wFld, wSetFld, wMake, wMeth, wCallK, wDisp, wEmp, wPairs, wLk, wBreak, wCont, asg, asgs]
    refine x_var rfl (x_var rfl (x_var rfl (x_var rfl (x_ixD (key := Sum.inr g) hd' (hW g (List.mem_of_getElem? hg)) ⟨by show 2 ≤ sizeLine; decide, ?_⟩))))
    exact loose_row (n := 4) (p := (g, val ws g)) sa (by omega) rfl fun y G3 s3 sa3 h3 => hY y G3 s3 (sa3.mono (by omega)) ⟨g, hg, h3⟩
  · rw [List.length_map] at hL sa
    have sG : Sub (fr G) G' := Sub.frt sG1 (((Sub.refl (fr G1)).new hp3).trans s)
    have hrows : RowsD L (zs.map fun z => (z, val ws z)) G' := by
      unfold RowsD
      refine List.ext_getElem? fun i => ?_
      rw [List.getElem?_map, List.getElem?_map, List.getElem?_map]
      cases e : L[i]? with
      | none =>
        have : L.length ≤ i := List.getElem?_eq_none_iff.mp e
        rw [List.getElem?_eq_none (by omega)]; rfl
      | some y =>
        obtain ⟨z, h1, h2⟩ := hP i y e
        rw [h1]
        show some (rowOf G' y) = some (some (z, val ws z))
        rw [rowOf_sub ((rm_sub _ _).trans (diff_sub _ _)) h2]
    refine ⟨_, rfl, ?_⟩
    refine x_var rfl (x_var rfl (loose_rows (n := 3) sa (by omega) (.inl ⟨p, true, rfl, s.ob _ _ DH.put_same⟩) hrows (by rw [List.length_map]; omega) fun y M G2 s2 sa2 hy hM => ?_))
    have hper : (zs.map fun z => (z, val ws z)).Perm ws := by
      have h1 : (zs.map fun z => (z, val ws z)).Perm ((ws.map (·.1)).map fun z => (z, val ws z)) := (hz.trans (srtS_perm _)).map _
      have h2 : (ws.map (·.1)).map (fun z => (z, val ws z)) = ws := fd_self fun p hp => val_mem ok.nd hp
      rw [h2] at h1
      exact h1
    have ok' : WOk (zs.map fun z => (z, val ws z)) := ⟨fun p hp => ok.nm p (hper.mem_iff.mp hp), fun p hp => ok.nn p (hper.mem_iff.mp hp), (hper.map (·.1)).nodup_iff.mpr ok.nd, by rw [hper.length_eq]; exact hfew⟩
    have sG2 : Sub (fr G) G2 := Sub.frt sG s2
    refine x_make (hy.sub (diff_sub _ _)) (hM.sub (diff_sub _ _)) ok' fun b e G3 hb s3 pa => fg0 ?_
    rw [srtW_eq ok.nd hper] at pa
    exact q b e G3 (sG2.none hb) (Sub.trans sG2 s3) (SA.mono (sa2.sub s3) (by omega)) pa
end
end Q7

namespace Q7
open PySem PySem.Spec PyProof.Rows L2
/-! ### sums over lots -/
section
variable {α : Type}
def sm (f : α → Int) (l : List α) : Int := (l.map f).sum
theorem sm_nil (f : α → Int) : sm f [] = 0 := rfl
theorem sm_cons (f : α → Int) (x : α) (l : List α) : sm f (x :: l) = f x + sm f l := by unfold sm; rw [List.map_cons, List.sum_cons]
theorem sm_app (f : α → Int) : ∀ l k : List α, sm f (l ++ k) = sm f l + sm f k
  | [], k => by rw [List.nil_append, sm_nil]; omega
  | x :: l, k => by rw [List.cons_append, sm_cons, sm_cons, sm_app f l k]; omega
theorem sm_perm (f : α → Int) {l k : List α} (h : l.Perm k) : sm f l = sm f k := by
  induction h with
  | nil => rfl
  | cons x _ ih => rw [sm_cons, sm_cons, ih]
  | swap x y l => simp only [sm_cons]; omega
  | trans _ _ h1 h2 => rw [h1, h2]
theorem sm_congr {f g : α → Int} : ∀ {l : List α}, (∀ x ∈ l, f x = g x) → sm f l = sm g l
  | [], _ => rfl
  | x :: l, h => by rw [sm_cons, sm_cons, h x List.mem_cons_self, sm_congr fun y hy => h y (List.mem_cons_of_mem _ hy)]
theorem sm_le {f g : α → Int} : ∀ {l : List α}, (∀ x ∈ l, f x ≤ g x) → sm f l ≤ sm g l
  | [], _ => Int.le_refl _
  | x :: l, h => by
    rw [sm_cons, sm_cons]
    have := h x List.mem_cons_self
    have := sm_le (l := l) fun y hy => h y (List.mem_cons_of_mem _ hy)
    omega
theorem sm_add (f g : α → Int) : ∀ l : List α, sm (fun x => f x + g x) l = sm f l + sm g l
  | [] => rfl
  | x :: l => by simp only [sm_cons]; rw [sm_add f g l]; omega
theorem sm_const (c : Int) : ∀ l : List α, sm (fun _ => c) l = c * l.length
  | [] => by simp [sm_nil]
  | x :: l => by rw [sm_cons, sm_const c l, List.length_cons, Int.natCast_add, Int.mul_add]; omega
theorem sm_split (f : α → Int) (p : α → Bool) : ∀ l : List α, sm f l = sm f (l.filter p) + sm f (l.filter fun x => !p x)
  | [] => rfl
  | x :: l => by
    rw [sm_cons, sm_split f p l]
    cases e : p x <;> simp [List.filter_cons, e, sm_cons] <;> omega
theorem len_split (p : α → Bool) : ∀ l : List α, l.length = (l.filter p).length + (l.filter fun x => !p x).length
  | [] => rfl
  | x :: l => by
    rw [List.length_cons, len_split p l]
    cases e : p x <;> simp [List.filter_cons, e] <;> omega
theorem sm_filter (f : α → Int) (p : α → Bool) : ∀ l : List α, sm f (l.filter p) = sm (fun x => if p x then f x else 0) l
  | [] => rfl
  | x :: l => by
    rw [sm_cons, ← sm_filter f p l]
    cases e : p x <;> simp [List.filter_cons, e, sm_cons]
theorem sm_nn {f : α → Int} {l : List α} (h : ∀ x ∈ l, 0 ≤ f x) : 0 ≤ sm f l := by
  have := sm_le (f := fun _ => 0) (g := f) h
  rw [sm_const] at this
  omega
theorem take_le (f : α → Int) : ∀ (xs : List α) (x : α) (m : Nat), m ≤ xs.length → (x :: xs).Pairwise (fun a b => f b ≤ f a) → sm f (xs.take m) ≤ sm f ((x :: xs).take m)
  | _, _, 0, _, _ => by simp [sm_nil]
  | [], _, m + 1, h, _ => by simp at h
  | y :: ys, x, m + 1, h, hp => by
    have h1 := (List.pairwise_cons.mp hp).1 y List.mem_cons_self
    have h2 := take_le f ys y m (by simpa using h) (List.pairwise_cons.mp hp).2
    rw [List.take_succ_cons, List.take_succ_cons, sm_cons, sm_cons]
    omega
theorem top_sum (f : α → Int) (p : α → Bool) : ∀ l : List α, l.Pairwise (fun a b => f b ≤ f a) → sm f (l.filter p) ≤ sm f (l.take (l.filter p).length)
  | [], _ => by simp
  | x :: l, hp => by
    have ih := top_sum f p l (List.pairwise_cons.mp hp).2
    cases e : p x
    · rw [List.filter_cons_of_neg (by rw [e]; exact Bool.false_ne_true)]
      exact Int.le_trans ih (take_le f l x _ (List.length_filter_le _ _) hp)
    · rw [List.filter_cons_of_pos e, List.length_cons, List.take_succ_cons, sm_cons, sm_cons]
      omega
/-- the least of two -/
def cap (v : α → Int) (m : Int) (x : α) : Int := if v x < m then v x else m
theorem cap_sum (v : α → Int) (m : Int) : ∀ l : List α, sm (cap v m) l = sm v (l.filter fun x => decide (v x < m)) + m * ((l.length : Int) - (l.filter fun x => decide (v x < m)).length)
  | [] => by simp [sm_nil]
  | x :: l => by
    rw [sm_cons, cap_sum v m l]
    by_cases e : v x < m
    · rw [List.filter_cons_of_pos (by simpa using e), sm_cons, List.length_cons, List.length_cons]
      have : cap v m x = v x := by unfold cap; rw [if_pos e]
      rw [this]
      have : ((l.length + 1 : Nat) : Int) - (((List.filter (fun x => decide (v x < m)) l).length + 1 : Nat) : Int) = (l.length : Int) - (List.filter (fun x => decide (v x < m)) l).length := by omega
      rw [this]; omega
    · rw [List.filter_cons_of_neg (by simpa using e), List.length_cons]
      have : cap v m x = m := by unfold cap; rw [if_neg e]
      rw [this]
      have : ((l.length + 1 : Nat) : Int) - ((List.filter (fun x => decide (v x < m)) l).length : Int) = ((l.length : Int) - (List.filter (fun x => decide (v x < m)) l).length) + 1 := by omega
      rw [this, Int.mul_add]; omega
/-- from the heads of a row to all lots -/
theorem heads_all [DecidableEq α] (v : α → Int) (row : List α) (hs : row.Pairwise fun a b => v b ≤ v a) (nd : row.Nodup) (nn : ∀ x ∈ row, 0 ≤ v x)
    (h : ∀ m : Nat, 1 ≤ m → m ≤ row.length → sm v (row.take m) ≤ (m : Int) * ((m : Int) - 1) + sm (cap v m) (row.drop m))
    (R P : List α) (hR : R.Nodup) (hP : P.Nodup) (hRi : ∀ x ∈ R, x ∈ row ∧ x ∉ P) (hPi : ∀ x ∈ P, x ∈ row) :
    sm v R ≤ (R.length : Int) * ((R.length : Int) - 1) + (R.length : Int) * ((row.length : Int) - R.length - P.length) + sm v P := by
  have eR : R.Perm (row.filter fun x => decide (x ∈ R)) := (List.perm_ext_iff_of_nodup hR (nd.filter _)).mpr fun a => by
    rw [List.mem_filter, decide_eq_true_eq]
    exact ⟨fun h => ⟨(hRi a h).1, h⟩, fun h => h.2⟩
  have eP : P.Perm ((row.filter fun x => !decide (x ∈ R)).filter fun x => decide (x ∈ P)) := (List.perm_ext_iff_of_nodup hP ((nd.filter _).filter _)).mpr fun a => by
    rw [List.mem_filter, List.mem_filter, decide_eq_true_eq]
    refine ⟨fun h => ⟨⟨hPi a h, ?_⟩, h⟩, fun h => h.2⟩
    by_cases q : a ∈ R
    · exact absurd h (hRi a q).2
    · simp [q]
  have nP : 0 ≤ sm v P := sm_nn fun x hx => nn x (hPi x hx)
  by_cases hm : R.length = 0
  · have : R = [] := List.length_eq_zero_iff.mp hm
    subst this
    simp [sm_nil]; exact nP
  have lR := eR.length_eq
  have hle : R.length ≤ row.length := by rw [lR]; exact List.length_filter_le _ _
  have hh := h R.length (by omega) hle
  have hF : row.Pairwise fun a b => v b + cap v R.length b ≤ v a + cap v R.length a := hs.imp fun {a b} hab => by
    unfold cap
    split <;> split <;> omega
  have ht := top_sum (fun x => v x + cap v R.length x) (fun x => decide (x ∈ R)) row hF
  rw [← lR, sm_add, sm_add, ← sm_perm v eR] at ht
  have s1 := sm_split (cap v R.length) (fun x => decide (x ∈ R)) row
  have s2 : sm (cap v R.length) row = sm (cap v R.length) (row.take R.length) + sm (cap v R.length) (row.drop R.length) := by rw [← sm_app, List.take_append_drop]
  have s3 : sm (cap v R.length) (row.filter fun x => !decide (x ∈ R)) ≤ sm (fun x => if decide (x ∈ P) = true then v x else (R.length : Int)) (row.filter fun x => !decide (x ∈ R)) := sm_le fun x hx => by
    unfold cap
    split <;> split <;> omega
  have s4 := sm_split (fun x => if decide (x ∈ P) = true then v x else (R.length : Int)) (fun x => decide (x ∈ P)) (row.filter fun x => !decide (x ∈ R))
  have s5 : sm (fun x => if decide (x ∈ P) = true then v x else (R.length : Int)) ((row.filter fun x => !decide (x ∈ R)).filter fun x => decide (x ∈ P)) = sm v P := by
    rw [sm_perm v eP]
    exact sm_congr fun x hx => by rw [if_pos (List.mem_filter.mp hx).2]
  have s6 : sm (fun x => if decide (x ∈ P) = true then v x else (R.length : Int)) ((row.filter fun x => !decide (x ∈ R)).filter fun x => !decide (x ∈ P)) = (R.length : Int) * ((row.filter fun x => !decide (x ∈ R)).filter fun x => !decide (x ∈ P)).length := by
    rw [← sm_const]
    exact sm_congr fun x hx => by
      have := (List.mem_filter.mp hx).2
      rw [if_neg (by simpa using this)]
  have l1 := len_split (fun x => decide (x ∈ R)) row
  have l2 := len_split (fun x => decide (x ∈ P)) (row.filter fun x => !decide (x ∈ R))
  have l3 := eP.length_eq
  have l4 : ((((row.filter fun x => !decide (x ∈ R)).filter fun x => !decide (x ∈ P)).length : Nat) : Int) = (row.length : Int) - R.length - P.length := by omega
  rw [l4] at s6
  omega
end
end Q7

namespace Q7
open PySem PySem.Spec PyProof.Rows L2
/-! ### how long a repr may be -/
mutual
def rb : PyData → Nat
  | .none => 4
  | .bool _ => 5
  | .int i => (Str.ofString (toString i)).length
  | .str x => 10 * x.length + 2
  | .list xs => 2 + rbs xs
  | .tuple xs => 3 + rbs xs
  | .dict kvs => 2 + rbk kvs
def rbs : List PyData → Nat
  | [] => 0
  | x :: xs => rb x + 2 + rbs xs
def rbk : List (PyData × PyData) → Nat
  | [] => 0
  | (k, v) :: r => rb k + rb v + 4 + rbk r
end
mutual
def gd : PyData → Prop
  | .none => True
  | .bool _ => True
  | .int _ => True
  | .str x => ∀ c ∈ x.cps.toList, c < 16 ^ 8
  | .list xs => gds xs
  | .tuple xs => gds xs
  | .dict kvs => gdk kvs
def gds : List PyData → Prop
  | [] => True
  | x :: xs => gd x ∧ gds xs
def gdk : List (PyData × PyData) → Prop
  | [] => True
  | (k, v) :: r => gd k ∧ gd v ∧ gdk r
end
theorem listText_le (ts : List Str) : (listText ts).length ≤ 2 + piled ts := by
  cases ts with
  | nil => decide +kernel
  | cons t r =>
    have h := textFrom_length_pos r 1 (("[" : Str) ++ (if (0 : Nat) > 0 then ", " else "" : String) ++ t) (Nat.succ_pos 0)
    have e : ((("[" : Str) ++ (if (0 : Nat) > 0 then ", " else "" : String) ++ t)).length = 1 + t.length := by
      rw [strLen_append, strLen_append]; rfl
    have hX : (listText (t :: r)).length = (textFrom 0 "[" (t :: r)).length + 1 := by
      show (textFrom 0 "[" (t :: r) ++ "]").length = _
      rw [strLen_append]; rfl
    have hY : (textFrom 0 "[" (t :: r)).length = (textFrom 1 (("[" : Str) ++ (if (0 : Nat) > 0 then ", " else "" : String) ++ t) r).length := rfl
    rw [hX, hY, h, e, piled_cons]; omega
theorem join_le (ts : List Str) : (Str.join ", " ts).length ≤ piled ts := by
  by_cases h : ts = []
  · subst h; decide +kernel
  · have := join_length_add ts h
    omega
theorem tupleText_le (ts : List Str) : (tupleText ts).length ≤ 3 + piled ts := by
  unfold tupleText
  rw [strLen_append, strLen_append]
  have e1 : ((("(" : String) : Str)).length = 1 := rfl
  have e3 : (((if ts.length == 1 then ",)" else ")" : String) : Str)).length ≤ 2 := by split <;> decide
  have := join_le ts
  omega
theorem dictText_le (ts : List Str) : (dictText ts).length ≤ 2 + piled ts := by
  have e : (dictText ts).length = 1 + (Str.join ", " ts).length + 1 := by
    unfold dictText
    rw [strLen_append, strLen_append]; rfl
  have := join_le ts
  omega
mutual
theorem shown_le : ∀ p : PyData, gd p → p.shown.length ≤ rb p
  | .none, _ => by simp only [PyData.shown, rb]; decide +kernel
  | .bool b, _ => by simp only [PyData.shown, rb]; cases b <;> decide +kernel
  | .int i, _ => by simp only [PyData.shown, rb]; exact Nat.le_refl _
  | .str x, h => by simp only [PyData.shown, rb]; exact PySem.StrLaws.reprText_len x (by simpa only [gd] using h)
  | .list xs, h => by
    simp only [PyData.shown, rb]
    have := listText_le (PyData.shownAll xs)
    have := shownAll_le xs (by simpa only [gd] using h)
    omega
  | .tuple xs, h => by
    simp only [PyData.shown, rb]
    have := tupleText_le (PyData.shownAll xs)
    have := shownAll_le xs (by simpa only [gd] using h)
    omega
  | .dict kvs, h => by
    simp only [PyData.shown, rb]
    have := dictText_le (PyData.shownKv kvs)
    have := shownKv_le kvs (by simpa only [gd] using h)
    omega
theorem shownAll_le : ∀ ps : List PyData, gds ps → piled (PyData.shownAll ps) ≤ rbs ps
  | [], _ => by simp only [PyData.shownAll, rbs]; exact Nat.le_refl _
  | p :: ps, h => by
    have h' : gd p ∧ gds ps := by simpa only [gds] using h
    simp only [PyData.shownAll, rbs, piled_cons]
    have := shown_le p h'.1
    have := shownAll_le ps h'.2
    omega
theorem shownKv_le : ∀ ps : List (PyData × PyData), gdk ps → piled (PyData.shownKv ps) ≤ rbk ps
  | [], _ => by simp only [PyData.shownKv, rbk]; exact Nat.le_refl _
  | (k, v) :: ps, h => by
    have h' : gd k ∧ gd v ∧ gdk ps := by simpa only [gdk] using h
    simp only [PyData.shownKv, rbk, piled_cons, strLen_append]
    have := shown_le k h'.1
    have := shown_le v h'.2.1
    have := shownKv_le ps h'.2.2
    have e : ((": " : String) : Str).length = 2 := rfl
    omega
end
theorem rb_int {i : Int} (h : i.natAbs < 10 ^ 10) : rb (.int i) ≤ 11 := by
  simp only [rb]
  have := int_text_length_le10 (a := i) (k := 10) (by decide) h
  rw [PySem.ofString_length]
  exact this
theorem rbs_le {M : Nat} : ∀ {ps : List PyData}, (∀ p ∈ ps, rb p ≤ M) → rbs ps ≤ ps.length * (M + 2)
  | [], _ => by simp only [rbs]; omega
  | p :: ps, h => by
    have h1 := h p List.mem_cons_self
    have h2 := rbs_le (ps := ps) fun x hx => h x (List.mem_cons_of_mem _ hx)
    simp only [rbs]
    rw [List.length_cons, Nat.add_mul]
    omega
theorem rbk_le {M : Nat} : ∀ {ps : List (PyData × PyData)}, (∀ p ∈ ps, rb p.1 + rb p.2 ≤ M) → rbk ps ≤ ps.length * (M + 4)
  | [], _ => by simp only [rbk]; omega
  | (k, v) :: ps, h => by
    have h1 := h (k, v) List.mem_cons_self
    have h2 := rbk_le (ps := ps) fun x hx => h x (List.mem_cons_of_mem _ hx)
    simp only [rbk]
    rw [List.length_cons, Nat.add_mul]
    dsimp only at h1
    omega
theorem gds_of : ∀ {ps : List PyData}, (∀ p ∈ ps, gd p) → gds ps
  | [], _ => by simp only [gds]
  | p :: ps, h => by
    simp only [gds]
    exact ⟨h p List.mem_cons_self, gds_of fun x hx => h x (List.mem_cons_of_mem _ hx)⟩
theorem gdk_of : ∀ {ps : List (PyData × PyData)}, (∀ p ∈ ps, gd p.1 ∧ gd p.2) → gdk ps
  | [], _ => by simp only [gdk]
  | (k, v) :: ps, h => by
    simp only [gdk]
    have := h (k, v) List.mem_cons_self
    exact ⟨this.1, this.2, gdk_of fun x hx => h x (List.mem_cons_of_mem _ hx)⟩
theorem showableAll_of : ∀ {ps : List PyData}, (∀ p ∈ ps, p.showable = true) → PyData.showableAll ps = true
  | [], _ => by simp only [PyData.showableAll]
  | p :: ps, h => by
    simp only [PyData.showableAll, Bool.and_eq_true]
    exact ⟨h p List.mem_cons_self, showableAll_of fun x hx => h x (List.mem_cons_of_mem _ hx)⟩
theorem showableKv_of : ∀ {ps : List (PyData × PyData)}, (∀ p ∈ ps, p.1.showable = true ∧ p.2.showable = true) → PyData.showableKv ps = true
  | [], _ => by simp only [PyData.showableKv]
  | (k, v) :: ps, h => by
    simp only [PyData.showableKv, Bool.and_eq_true]
    have := h (k, v) List.mem_cons_self
    exact ⟨⟨this.1, this.2⟩, showableKv_of fun x hx => h x (List.mem_cons_of_mem _ hx)⟩
theorem showable_int {i : Int} (h : i.natAbs < 10 ^ 10) : (PyData.int i).showable = true := by
  simp only [PyData.showable, decide_eq_true_eq]
  by_cases e : i.natAbs = 0
  · rw [e]; decide
  · have : i.natAbs.log2 < 40 := (Nat.log2_lt e).mpr (by omega)
    omega
theorem depthAll_le {M : Nat} : ∀ {ps : List PyData}, (∀ p ∈ ps, p.depth ≤ M) → PyData.depthAll ps ≤ M
  | [], _ => by simp only [PyData.depthAll]; omega
  | p :: ps, h => by
    simp only [PyData.depthAll]
    have := h p List.mem_cons_self
    have := depthAll_le (ps := ps) fun x hx => h x (List.mem_cons_of_mem _ hx)
    omega
theorem depthKv_le {M : Nat} : ∀ {ps : List (PyData × PyData)}, (∀ p ∈ ps, p.1.depth ≤ M ∧ p.2.depth ≤ M) → PyData.depthKv ps ≤ M
  | [], _ => by simp only [PyData.depthKv]; omega
  | (k, v) :: ps, h => by
    simp only [PyData.depthKv]
    have h1 := h (k, v) List.mem_cons_self
    have := depthKv_le (ps := ps) fun x hx => h x (List.mem_cons_of_mem _ hx)
    dsimp only at h1
    omega
/-! ### the law's things as data -/
/-- what may be shown: small ints, short texts -/
def nameOk (z : Str) : Prop := z.length ≤ 20 ∧ ∀ c ∈ z.cps.toList, c < 16 ^ 8
theorem isNm_ok {z : Str} (h : isNm z = true) : nameOk z := by
  unfold isNm at h
  rw [Bool.and_eq_true, Bool.and_eq_true, decide_eq_true_eq, decide_eq_true_eq, List.all_eq_true] at h
  refine ⟨by omega, fun c hc => ?_⟩
  have := of_decide_eq_true (h.2.2 c hc)
  rw [letters_eq, List.mem_range'_1] at this
  omega
theorem rb_name {z : Str} (h : nameOk z) : rb (.str z) ≤ 202 := by
  simp only [rb]
  have := h.1
  omega
theorem gd_name {z : Str} (h : nameOk z) : gd (.str z) := by simp only [gd]; exact h.2
/-- numbers of a law -/
def Low (ws : W) : Prop := ∀ p ∈ ws, p.2.natAbs < 10 ^ 10
def pyW (ws : W) : PyData := .dict (ws.map fun p => (.str p.1, .int p.2))
theorem DTk.wd {G : DH} : ∀ ws : W, DTk G (ws.map fun p => (.str p.1, .int p.2)) (wd ws)
  | [] => rfl
  | p :: ws => ⟨_, _, _, rfl, rfl, rfl, DTk.wd ws⟩
theorem DT.wd {G : DH} {d : Addr} {w : Bool} {ws : W} (h : G.ob d = some (.dct w (Q7.wd ws))) : DT G (pyW ws) (.ref d) := ⟨d, w, _, rfl, h, DTk.wd ws⟩
theorem pyW_shown {ws : W} (h1 : ∀ p ∈ ws, nameOk p.1) (h2 : Low ws) (hl : ws.length ≤ 60) : gd (pyW ws) ∧ rb (pyW ws) ≤ 14000 ∧ (pyW ws).showable = true ∧ (pyW ws).depth ≤ 2 := by
  have m : ∀ q ∈ ws.map (fun p => (PyData.str p.1, PyData.int p.2)), ∃ p ∈ ws, q = (PyData.str p.1, PyData.int p.2) := fun q hq => by
    obtain ⟨p, hp, e⟩ := List.mem_map.mp hq
    exact ⟨p, hp, e.symm⟩
  unfold pyW
  refine ⟨?_, ?_, ?_, ?_⟩
  · simp only [gd]
    refine gdk_of fun q hq => ?_
    obtain ⟨p, hp, e⟩ := m q hq
    subst e
    exact ⟨gd_name (h1 p hp), by simp only [gd]⟩
  · simp only [rb]
    have := rbk_le (M := 213) (ps := ws.map fun p => (PyData.str p.1, PyData.int p.2)) fun q hq => by
      obtain ⟨p, hp, e⟩ := m q hq
      subst e
      have := rb_name (h1 p hp)
      have := rb_int (h2 p hp)
      dsimp only
      omega
    rw [List.length_map] at this
    omega
  · simp only [PyData.showable]
    refine showableKv_of fun q hq => ?_
    obtain ⟨p, hp, e⟩ := m q hq
    subst e
    exact ⟨by simp only [PyData.showable], showable_int (h2 p hp)⟩
  · simp only [PyData.depth]
    have := depthKv_le (M := 1) (ps := ws.map fun p => (PyData.str p.1, PyData.int p.2)) fun q hq => by
      obtain ⟨p, hp, e⟩ := m q hq
      subst e
      simp only [PyData.depth]
      omega
    omega
def pyH (h : Hand) : PyData := .tuple [.str h.1, .str h.2]
def pyHs (hs : List Hand) : PyData := .list (hs.map pyH)
end Q7

namespace Q7
open PySem PySem.Spec PyProof.Rows L2
/-! ### a party drawn -/
theorem cnt_le (hs : List Hand) (g : Str) : cnt hs g ≤ 2 * hs.length := by
  unfold cnt
  have := List.countP_le_length (p := fun h : Hand => h.1 == g) (l := hs)
  have := List.countP_le_length (p := fun h : Hand => h.2 == g) (l := hs)
  omega
structure WsP (ws : W) : Prop where
  nm : ∀ p ∈ ws, NmP p.1
  nd : (ws.map (·.1)).Nodup
  nn : ∀ p ∈ ws, 0 ≤ p.2
  few : ws.length ≤ 20
  lo : Low ws
theorem WsP.ok {ws : W} (h : WsP ws) : WOk ws := ⟨fun p hp => (h.nm p hp).nm, h.nn, h.nd, by have := h.few; omega⟩
theorem fd_wsp {ks : List Str} {F : Str → Int} (h : ∀ z ∈ ks, NmP z) (nd : ks.Nodup) (nn : ∀ g ∈ ks, 0 ≤ F g ∧ F g ≤ 100000) (hl : ks.length ≤ 20) : WsP (fd ks F) := by
  refine ⟨fun p hp => h _ (fd_mem hp).1, by rw [fd_keys]; exact nd, fun p hp => ?_, by rw [fd_len]; exact hl, fun p hp => ?_⟩
  · obtain ⟨h1, h2⟩ := fd_mem hp
    rw [h2]; exact (nn _ h1).1
  · obtain ⟨h1, h2⟩ := fd_mem hp
    have := nn _ h1
    rw [h2]; omega
theorem DTs.strs {G : DH} (zs : List Str) : DTs G (zs.map PyData.str) (zs.map D.str) := by rw [← toPs_str]; exact DTs.of _ (ok_strs zs)
theorem srtS_idem {ks : List Str} : srtS (srtS ks) = srtS ks := pw_uniq (fun _ _ => leS_anti) (srtS_perm _) (srtS_pw _) (srtS_pw ks)
section
variable {K : PySem.W.Frag} {G : DH} {Q : DK} {E : DX} {a d : Addr} {n : Int} {ws : W}
theorem x_maxI {i j : Int} (q : Q (.int (if j > i then j else i)) G) : maxD2 [.int i, .int j] G Q := .inl ⟨i, j, rfl, q⟩
def w_prest (K : PySem.W.Frag) : WS := (wSeq (wIfS (wB (wOp dEq (wVar 3) (wC (.int 4)))) (wSeq (wAsg (wCall (sp__law_pick K) DX0 (wCons (wVar 0) (wCons (wLst (wCons (wC (.int 2)) (wCons (wC (.int 4)) (wCons (wOp dAdd (wCB lenD (wCons (wVar 2) wNil)) (wC (.int 1))) wNil)))) wNil))) (.nm 8))
    (wAsg (wLk (wCB dictD (wCons (wLC (wiE (wVar 2)) (.nm 7) (fun _ G Q => Q true G) (wTup (wCons (wVar 7) (wCons (wCall (sp__law_draw K) DX0 (wCons (wVar 0) (wCons (wVar 8) wNil))) wNil))) [7]) wNil))) (.nm 5))) wNext)
    (wRet (wVar 5)))
theorem t_prest {m ln dw : Nat} {way : Nat} {z1 z2 z3 z4 : Option D} {ks : List Str} {F : Str → Int} {N : DEnv → DH → Prop} (h : SA G a n) (hn : n + 1000 < big) (hL : G.ob ln = some (.lst true (ks.map .str))) (hW : G.ob dw = some (.dct true (wd (fd ks F)))) (hkp : ∀ z ∈ ks, NmP z) (hkd : ks.Nodup) (hkl : ks.length ≤ 20) (hF : ∀ g ∈ ks, 0 ≤ F g ∧ F g ≤ 100000)
    (q : ∀ p ws G', WsP ws → ws.length = ks.length → (p = dw ∨ G.ob p = none) → G'.ob p = some (.dct true (wd ws)) → Sub (fr G) G' → SA G' a (n + 1000) → Q (.ref p) G') : w_prest K { nx := N, rt := fg Q } [some (.ref a), some (.int m), some (.ref ln), some (.int way), z1, some (.ref dw), z2, z3, z4] G := by
  unfold w_prest
  dsimp only [wSeq, wSetIx, wOp, wC, wB, wIfS, wAsg, wCB, wCons, wNil, wRet, wRetN, wAnd, wOr, wNot, wAndV, wOrV, wNotV, wIf, wTup, wLst, wBM, wNext, wExpr, wUn, wChain, wCall, wSl, wPart, wNoPart, wNever, wLkS, wStar, wStarItems, wListItems, wSumVals, wFld, wSetFld, wMake, wMeth, wCallK, wDisp, wEmp, wPairs, wLk, wBreak, wCont, asg, asgs]
  refine x_var rfl (x_eqI ⟨_, rfl, ?_⟩)
  by_cases hw : (way : Int) = 4
  · rw [if_pos (decide_eq_true hw)]
    refine x_var rfl (x_var rfl (x_lenL hL (x_addI ⟨by show 3 ≤ sizeLine; decide, fun pp hpp => ?_⟩)))
    rw [List.length_map]
    have sa1 : SA (G.put pp (.lst true [.int 2, .int 4, .int ((ks.length : Int) + 1)])) a n := h
    refine t_pickL sa1 (by omega) DH.put_same (by show 0 < 3; decide) (by show 3 ≤ 1000000; decide) fun v G2 hv s2 sa2 _ => ⟨_, rfl, ?_⟩
    have s02 : Sub (fr G) G2 := Sub.frt (Sub.fr ((Sub.refl G).new hpp)) s2
    obtain ⟨o, rfl, ho1, ho2⟩ : ∃ o : Int, v = .int o ∧ 1 ≤ o ∧ o ≤ 100 := by
      rcases List.mem_cons.mp hv with e | hv
      · exact ⟨_, e, by decide, by decide⟩
      rcases List.mem_cons.mp hv with e | hv
      · exact ⟨_, e, by decide, by decide⟩
      rcases List.mem_cons.mp hv with e | hv
      · exact ⟨_, e, by omega, by omega⟩
      · cases hv
    have hL2 := s02.ob _ _ hL
    refine x_lc (x_wiE ?_)
    refine x_var rfl (Or.inl ⟨ln, _, rfl, ⟨true, hL2⟩, ?_⟩)
    refine lcS 1 (fun i y _ => ∃ z, ∃ c : Nat, ks[i]? = some z ∧ y = .tup [.str z, .int c] ∧ c ≤ 100) (fun _ _ _ _ _ z => z) sa2 (fun G' s => ⟨true, s.ob _ _ hL2⟩) (by rw [List.length_map]; omega) (fun i x G' Y hx s sa hY => ?_) (fun p L G' hp hLl hP s sa => ?_)
    · rw [List.getElem?_map] at hx
      obtain ⟨g, hg, e⟩ := Option.map_eq_some_iff.mp hx
      subst e
      have hlt : i < ks.length := (List.getElem?_eq_some_iff.mp hg).1
      refine ⟨_, rfl, ?_⟩
      dsimp only [wSeq, wSetIx, wOp, wC, wB, wIfS, wAsg, wCB, wCons, wNil, wRet, wRetN, wAnd, wOr, wNot, wAndV, wOrV, wNotV, wIf, wTup, wLst, wBM, wNext, wExpr, wUn, wChain, wCall, wSl, wPart, wNoPart, wNever, wLkS, wStar, wStarItems, wListItems, wSumVals, wFld, wSetFld, wMake, wMeth, wCallK, wDisp, wEmp, wPairs, wLk, wBreak, wCont, asg, asgs]
      refine x_var rfl (x_var rfl (x_var rfl (t_draw sa (by omega) ho1 (by omega) fun c G3 hc s3 sa3 _ => ⟨by show 2 ≤ sizeLine; decide, hY _ G3 s3 (sa3.mono (by omega)) ⟨g, c, hg, rfl, by omega⟩⟩)))
    · rw [List.length_map] at hLl sa
      obtain ⟨us, hus, hul⟩ : ∃ us : W, L = itemsD (wd us) ∧ us.map (·.1) = ks ∧ ∀ p ∈ us, 0 ≤ p.2 ∧ p.2 ≤ 100 := by
        refine ⟨L.zipWith (fun y g => (g, match y with
          | .tup [_, .int c] => c
          | _ => 0)) ks, ?_, ?_, ?_⟩
        · refine List.ext_getElem? fun i => ?_
          unfold itemsD wd
          rw [List.getElem?_map, List.getElem?_map, List.getElem?_zipWith]
          cases e : L[i]? with
          | none => rfl
          | some y =>
            obtain ⟨z, c, h1, h2, _⟩ := hP i y e
            subst h2
            rw [h1]; rfl
        · refine List.ext_getElem? fun i => ?_
          rw [List.getElem?_map, List.getElem?_zipWith]
          cases e : L[i]? with
          | none =>
            have : L.length ≤ i := List.getElem?_eq_none_iff.mp e
            rw [List.getElem?_eq_none (by omega)]; rfl
          | some y =>
            obtain ⟨z, c, h1, h2, _⟩ := hP i y e
            rw [h1]; rfl
        · intro p hp'
          obtain ⟨i, hi, ei⟩ := List.getElem_of_mem hp'
          have h1 := List.getElem?_eq_getElem hi
          rw [ei, List.getElem?_zipWith] at h1
          cases e : L[i]? with
          | none => rw [e] at h1; cases h1
          | some y =>
            obtain ⟨z, c, h2, h3, h4⟩ := hP i y e
            subst h3
            rw [e, h2] at h1
            cases h1
            show 0 ≤ (c : Int) ∧ (c : Int) ≤ 100
            omega
      subst hus
      have hul1 := congrArg List.length hul.1
      rw [List.length_map] at hul1
      refine x_dictL (s.ob _ _ DH.put_same) (by rw [hul.1]; exact hkd) fun pd hpd => Or.inl ⟨_, rfl, ?_⟩
      have s3 : Sub (fr G) G' := Sub.frt s02 (frn hp s)
      refine x_var rfl (fg0 (q pd us _ ⟨fun p hp' => hkp _ (hul.1 ▸ List.mem_map.mpr ⟨p, hp', rfl⟩), by rw [hul.1]; exact hkd, fun p hp' => (hul.2 p hp').1, by omega, fun p hp' => by have := hul.2 p hp'; omega⟩ hul1 (.inr (s3.none hpd)) DH.put_same (Sub.trans s3 ((Sub.refl G').new hpd)) (SA.mono (G := G') sa (by omega))))
  · rw [if_neg (by simpa using hw)]
    exact x_var rfl (fg0 (q dw _ G (fd_wsp hkp hkd hF hkl) (fd_len _ _) (.inl rfl) hW (Sub.frr G) (h.mono (by omega))))
theorem t_law_party {m : Nat} (h : SA G a n) (hn : n + 100000 < big) (hm : m ≤ 20)
    (q : ∀ p ws G', WsP ws → ws.length ≤ m → G.ob p = none → G'.ob p = some (.dct true (wd ws)) → Sub (fr G) G' → SA G' a (n + 100000) → Q (.ref p) G') : sp__law_party K [.ref a, .int m] G Q E := by
  refine wSp_mk rfl ?_
  unfold w__law_party
  dsimp only [wSeq, wSetIx, wOp, wC, wB, wIfS, wAsg, wCB, wCons, wNil, wRet, wRetN, wAnd, wOr, wNot, wAndV, wOrV, wNotV, wIf, wTup, wLst, wBM, wNext, wExpr, wUn, wChain, wCall, wSl, wPart, wNoPart, wNever, wLkS, wStar, wStarItems, wListItems, wSumVals, wFld, wSetFld, wMake, wMeth, wCallK, wDisp, wEmp, wPairs, wLk, wBreak, wCont, asg, asgs]
  refine x_var rfl (x_var rfl (x_var rfl (x_addI (t_draw h (by omega) (by omega) (by omega) fun i G1 hi s1 sa1 _ => ?_))))
  refine t_law_names sa1 (by omega) (by omega) fun pn fs G2 hfl hfn hfp hpn s2 sa2 => ?_
  have sG2 : Sub (fr G) G2 := Sub.frt s1 (frn hpn s2)
  refine sort_strs (s2.ob _ _ DH.put_same) fun ln hln => ?_
  have hp := srtS_perm fs
  have hkp : ∀ z ∈ srtS fs, NmP z := fun z hz => hfp z (hp.mem_iff.mp hz)
  have hkd : (srtS fs).Nodup := hp.nodup_iff.mpr hfn
  have hkl : (srtS fs).length = i := by rw [hp.length_eq, hfl]
  have him : i ≤ m := by omega
  have hks : srtS (srtS fs) = srtS fs := srtS_idem
  generalize srtS fs = ks at hkp hkd hkl hks ⊢
  have sG3 : Sub (fr G) (G2.put ln (.lst true (ks.map .str))) := Sub.trans sG2 ((Sub.refl G2).new hln)
  have eL : (G2.put ln (.lst true (ks.map .str))).ob ln = some (.lst true (ks.map .str)) := DH.put_same
  have hln0 : G.ob ln = none := sG2.none hln
  have sa3 : SA (G2.put ln (.lst true (ks.map .str))) a (n + 1 + 1000) := sa2
  generalize G2.put ln (.lst true (ks.map .str)) = G3 at sG3 eL sa3 ⊢
  refine x_var rfl (t_draw sa3 (by omega) (by decide) (by decide) fun way G4 hway s4 sa4 hb4 => ⟨by show 2 ≤ sizeLine; decide, _, rfl, ?_⟩)
  have eL4 : G4.ob ln = some (.lst true (ks.map .str)) := by rw [hb4]; exact eL
  have sG4 : Sub (fr G) G4 := Sub.frt sG3 s4
  refine x_lc (x_wiE ?_)
  refine x_var rfl (Or.inl ⟨ln, _, rfl, ⟨true, eL4⟩, ?_⟩)
  refine zero_lc eL4 (by omega) (fun g G' Y hY => ?_) (fun p1 G5 hp1 s5 => ?_)
  · dsimp only [wSeq, wSetIx, wOp, wC, wB, wIfS, wAsg, wCB, wCons, wNil, wRet, wRetN, wAnd, wOr, wNot, wAndV, wOrV, wNotV, wIf, wTup, wLst, wBM, wNext, wExpr, wUn, wChain, wCall, wSl, wPart, wNoPart, wNever, wLkS, wStar, wStarItems, wListItems, wSumVals, wFld, wSetFld, wMake, wMeth, wCallK, wDisp, wEmp, wPairs, wLk, wBreak, wCont, asg, asgs]
    exact x_var rfl ⟨by show 2 ≤ sizeLine; decide, hY⟩
  have sG5 : Sub (fr G) G5 := Sub.trans sG4 (((Sub.refl _).new hp1).trans s5)
  have sa5 : SA G5 a (n + 2000) := SA.sub (SA.mono (G := G4) sa4 (by omega)) (((Sub.refl _).new hp1).trans s5)
  have eL5 : G5.ob ln = some (.lst true (ks.map .str)) := (((Sub.refl _).new hp1).trans s5).ob _ _ eL4
  refine x_dictL (s5.ob _ _ DH.put_same) (by rw [fd_keys]; exact hkd) fun dz hdz => Or.inl ⟨_, rfl, ?_⟩
  have sG6 : Sub (fr G) (G5.put dz (.dct true (wd (fd ks fun _ => 0)))) := Sub.trans sG5 ((Sub.refl _).new hdz)
  have eZ : (G5.put dz (.dct true (wd (fd ks fun _ => 0)))).ob dz = some (.dct true (wd (fd ks fun _ => 0))) := DH.put_same
  have eL6 := ((Sub.refl G5).new (o := .dct true (wd (fd ks fun _ => 0))) hdz).ob _ _ eL5
  have sa6 : SA (G5.put dz (.dct true (wd (fd ks fun _ => 0)))) a (n + 2000) := sa5
  generalize G5.put dz (.dct true (wd (fd ks fun _ => 0))) = G6 at sG6 eZ eL6 sa6 ⊢
  refine x_var rfl (x_var rfl (x_var rfl (x_var rfl ⟨by show 5 ≤ sizeLine; decide, fun pp hpp => ?_⟩)))
  have sa7 : SA (G6.put pp (.lst true [.int 1, .int 3, .int 5, .int 8, .int 10])) a (n + 2000) := sa6
  refine t_pickL sa7 (by omega) DH.put_same (by decide) (by decide) fun v G8 hv s8 sa8 _ => ?_
  have s68 : Sub (fr G6) G8 := Sub.frt (Sub.fr ((Sub.refl G6).new hpp)) s8
  have sG8 : Sub (fr G) G8 := Sub.frt sG6 s68
  obtain ⟨odds, rfl⟩ : ∃ o : Int, v = .int o := by
    have : v ∈ [1, 3, 5, 8, 10].map D.int := hv
    obtain ⟨o, _, e⟩ := List.mem_map.mp this
    exact ⟨o, e.symm⟩
  refine t_law_web sa8 (by omega) (s68.ob _ _ eL6) hkd (by omega) fun pw hs G9 hsub hpw s9 sa9 => ?_
  have s89 : Sub (fr G8) G9 := frn hpw s9
  have s69 : Sub (fr G6) G9 := Sub.frt s68 s89
  have sG9 : Sub (fr G) G9 := Sub.frt sG6 s69
  have wok := web_ok hkd (by omega) hsub
  refine t_law_shaken (s69.ob _ _ eZ) (.inl ⟨pw, true, rfl, s9.ob _ _ DH.put_same⟩) HandsD.tups (fun p hp => ?_) (by rw [fd_keys]; exact hkd) (by rw [fd_len]; omega) fun dw hdw => ⟨_, rfl, ?_⟩
  · rw [fd_keys]
    have := wok.i p hp
    exact ⟨this.1, this.2.1⟩
  rw [fd_keys, hks]
  have hdw0 : G.ob dw = none := sG9.none hdw
  have eL9 : G9.ob ln = some (.lst true (ks.map .str)) := s69.ob _ _ eL6
  have hne : ln ≠ dw := fun z => by subst z; rw [eL9] at hdw; cases hdw
  have sA : Sub ((fr G).put dw (.dct true (wd (fd ks (cnt hs))))) (G9.put dw (.dct true (wd (fd ks (cnt hs))))) := Sub.put sG9 dw _
  have eLA : (G9.put dw (.dct true (wd (fd ks (cnt hs))))).ob ln = some (.lst true (ks.map .str)) := by rw [DH.put_ne hne]; exact eL9
  have saA : SA (G9.put dw (.dct true (wd (fd ks (cnt hs))))) a (n + 13000) := SA.mono (G := G9) sa9 (by omega)
  have hsl : hs.length ≤ 3600 := by
    have h1 := hsub.length_le
    have h2 : (srtS ks).length = ks.length := (srtS_perm ks).length_eq
    have h3 := prs_len (gs := srtS ks) (by omega)
    omega
  have hF0 : ∀ g ∈ ks, 0 ≤ cnt hs g ∧ cnt hs g ≤ 10000 := fun g _ => ⟨cnt_nn hs g, by
    have := cnt_le hs g
    omega⟩
  generalize G9.put dw (.dct true (wd (fd ks (cnt hs)))) = GA at sA eLA saA ⊢
  generalize cnt hs = F at sA hF0
  have fin : ∀ (F : Str → Int) (GB : DH) (z2 z3 z4 : Option D), Sub ((fr G).put dw (.dct true (wd (fd ks F)))) GB → GB.ob ln = some (.lst true (ks.map .str)) → SA GB a (n + 14000) → (∀ g ∈ ks, 0 ≤ F g ∧ F g ≤ 100000) → w_prest K { nx := fun _ G' => fg Q .non G', rt := fg Q } [some (.ref a), some (.int m), some (.ref ln), some (.int way), some (.ref dz), some (.ref dw), z2, z3, z4] GB := fun F GB z2 z3 z4 s eL sa hF =>
    t_prest sa (by omega) eL (s.ob _ _ DH.put_same) hkp hkd (by omega) hF fun p us G' wp wl hpd hp' s' sa' => q p us G' wp (by omega) (by
      rcases hpd with e | e
      · rw [e]; exact hdw0
      · exact (frn hdw0 s).none e) hp' (Sub.frt (frn hdw0 s) s') (sa'.mono (by omega))
  refine x_var rfl (x_eqI ⟨_, rfl, ?_⟩)
  by_cases hw : (way : Int) = 3
  · rw [if_pos (decide_eq_true hw)]
    refine x_var rfl ⟨by show 0 ≤ sizeLine; omega, fun pe hpe => ?_⟩
    have sE := (Sub.refl GA).new (o := .lst true []) hpe
    refine x_neE (ps := ks.map .str) (sE.ob _ _ eLA) DH.put_same (DTs.strs ks) (plain_strs ks) ⟨_, rfl, ?_⟩
    have sAE := Sub.trans sA sE
    have eLE := sE.ob _ _ eLA
    have saE : SA (GA.put pe (.lst true [])) a (n + 13000) := saA
    generalize GA.put pe (.lst true []) = GE at sAE eLE saE ⊢
    cases hkc : ks with
    | nil =>
      rw [hkc] at fin
      subst hkc
      refine itF ?_
      exact fin F GE _ _ _ sAE eLE (saE.mono (by omega)) fun g hg => by have := hF0 g hg; omega
    | cons k0 kt =>
      rw [← hkc]
      have hne0 : (!(ks.map D.str).isEmpty) = true := by rw [hkc]; rfl
      have hkpos : 0 < ks.length := by rw [hkc]; exact Nat.succ_pos _
      rw [hne0]
      refine itT ?_
      refine x_for (x_wiR1 ?_)
      dsimp only [wSeq, wSetIx, wOp, wC, wB, wIfS, wAsg, wCB, wCons, wNil, wRet, wRetN, wAnd, wOr, wNot, wAndV, wOrV, wNotV, wIf, wTup, wLst, wBM, wNext, wExpr, wUn, wChain, wCall, wSl, wPart, wNoPart, wNever, wLkS, wStar, wStarItems, wListItems, wSumVals, wFld, wSetFld, wMake, wMeth, wCallK, wDisp, wEmp, wPairs, wLk, wBreak, wCont, asg, asgs]
      refine x_var rfl (t_draw saE (by omega) (by decide) (by decide) fun j GF hj sF saF hbF => x_addI ?_)
      have ej : (1 : Int) + (j : Nat) = ((1 + j : Nat) : Int) := by omega
      rw [ej]
      refine x_r1 (1 + j) (by omega) ?_
      have sAF : Sub ((fr G).put dw (.dct true (wd (fd ks F)))) GF := Sub.frt (G := G.put dw (.dct true (wd (fd ks F)))) sAE sF
      refine ⟨fun t δ' G' => ∃ F, ∃ z2 z3, δ' = [some (.ref a), some (.int m), some (.ref ln), some (.int way), some (.ref dz), some (.ref dw), z2, z3, none] ∧ Sub ((fr G).put dw (.dct true (wd (fd ks F)))) G' ∧ G'.ob ln = some (.lst true (ks.map .str)) ∧ SA G' a (n + 13001 + 10 * t) ∧ ∀ g ∈ ks, 0 ≤ F g ∧ F g ≤ 10000 + 2 * t, ⟨F, none, none, rfl, sAF, by rw [hbF]; exact eLE, saF.mono (by omega), fun g hg => by have := hF0 g hg; omega⟩, fun _ _ _ _ => trivial, ?_, ?_⟩
      · rintro t y δ' G' hy ⟨F, z2, z3, rfl, s, eL', sa, hF⟩
        obtain ⟨ey, hlt⟩ := rngD_at hy
        refine ⟨_, rfl, ?_⟩
        dsimp only [wSeq, wSetIx, wOp, wC, wB, wIfS, wAsg, wCB, wCons, wNil, wRet, wRetN, wAnd, wOr, wNot, wAndV, wOrV, wNotV, wIf, wTup, wLst, wBM, wNext, wExpr, wUn, wChain, wCall, wSl, wPart, wNoPart, wNever, wLkS, wStar, wStarItems, wListItems, wSumVals, wFld, wSetFld, wMake, wMeth, wCallK, wDisp, wEmp, wPairs, wLk, wBreak, wCont, asg, asgs]
        refine x_var rfl (x_var rfl (t_pickL sa (by omega) eL' (by rw [List.length_map]; exact hkpos) (by rw [List.length_map]; omega) fun v G3 hv s3 sa3 hb3 => ⟨_, rfl, ?_⟩))
        obtain ⟨g, hg, e⟩ := List.mem_map.mp hv
        subst e
        have s3' : Sub ((fr G).put dw (.dct true (wd (fd ks F)))) G3 := Sub.frt (G := G.put dw (.dct true (wd (fd ks F)))) s s3
        refine x_var rfl (x_var rfl (x_ixD (key := Sum.inr g) (s3'.ob _ _ DH.put_same) (val_fd hg) ?_))
        refine x_var rfl (x_negI ⟨by show 4 ≤ sizeLine; decide, fun pq hpq => ?_⟩)
        have sa4 : SA (G3.put pq (.lst true [.int 1, .int 1, .int (-1), .int 2])) a (n + 13001 + 10 * t + 1) := sa3
        refine t_pickL sa4 (by omega) DH.put_same (by show 0 < 4; decide) (by show 4 ≤ 1000000; decide) fun v G4 hv s4 sa5 _ => ?_
        obtain ⟨o, rfl, ho⟩ : ∃ o : Int, v = .int o ∧ o ≤ 2 := by
          have : v ∈ [1, 1, -1, 2].map D.int := hv
          obtain ⟨o, ho, e⟩ := List.mem_map.mp this
          refine ⟨o, e.symm, ?_⟩
          rcases List.mem_cons.mp ho with e | ho
          · omega
          rcases List.mem_cons.mp ho with e | ho
          · omega
          rcases List.mem_cons.mp ho with e | ho
          · omega
          rcases List.mem_cons.mp ho with e | ho
          · omega
          · cases ho
        have s34 : Sub (fr G3) G4 := Sub.frt (Sub.fr ((Sub.refl G3).new hpq)) s4
        have s4' : Sub ((fr G).put dw (.dct true (wd (fd ks F)))) G4 := Sub.frt (G := G.put dw (.dct true (wd (fd ks F)))) s3' s34
        have hz : (100000 : Nat) < sizeLine := by rw [sizeLine_eq]; decide
        refine x_addI (x_maxI (x_var rfl (x_var rfl (x_setD (key := Sum.inr g) (s4'.ob _ _ DH.put_same) (by rw [wd_len, fd_len]; omega) ?_))))
        rw [put_fd hg]
        refine ⟨_, _, _, rfl, s4'.again, ?_, SA.mono (G := G4) sa5 (by omega), ?_⟩
        · rw [DH.put_ne hne]
          exact s34.ob _ _ (show G3.ob ln = _ by rw [hb3]; exact eL')
        · intro g' hg'
          show 0 ≤ (if g' = g then _ else F g') ∧ (if g' = g then _ else F g') ≤ _
          have h1 := hF g hg
          have h2 := hF g' hg'
          rw [Int.natCast_add]
          split
          · split <;> omega
          · omega
      · rintro δ' G' ⟨F, z2, z3, rfl, s, eL', sa, hF⟩
        rw [rngD_len] at sa hF
        exact fin F G' _ _ _ s eL' (sa.mono (by omega)) fun g hg => by have := hF g hg; omega
  · rw [if_neg (by simpa using hw), if_neg Bool.false_ne_true]
    exact fin F GA _ _ _ sA eLA (saA.mono (by omega)) fun g hg => by have := hF0 g hg; omega
end
end Q7

namespace Q7
open PySem PySem.Spec PyProof.Rows L2
/-! ### what can be drawn, of two parties -/
theorem joinA {r1 r2 p1 p2 n1 n2 S1 S2 T1 T2 : Int} (h1 : 0 ≤ r1) (h2 : 0 ≤ r2) (h3 : p1 ≤ n1) (h4 : p2 ≤ n2)
    (a1 : S1 ≤ r1*(r1-1)+r1*(n1-r1-p1)+T1) (a2 : S2 ≤ r2*(r2-1)+r2*(n2-r2-p2)+T2) :
    S1+S2 ≤ (r1+r2)*(r1+r2-1) + (r1+r2)*(n1+n2-(r1+r2)-(p1+p2))+(T1+T2) := by
  have := Int.mul_nonneg h1 (show 0 ≤ n2 - p2 by omega)
  have := Int.mul_nonneg h2 (show 0 ≤ n1 - p1 by omega)
  grind
theorem crossA {r1 r2 p1 p2 n1 n2 S1 S2 T1 T2 : Int} (g1 : 0 ≤ p1) (g2 : 0 ≤ p2) (h3 : r1 ≤ n1) (h4 : r2 ≤ n2)
    (a1 : S1 ≤ r1*(r1-1)+r1*(n1-r1-p1)+T1) (a2 : S2 ≤ r2*(r2-1)+r2*(n2-r2-p2)+T2) :
    (S1 + n2 * r1)+(S2 + n1 * r2) ≤ (r1+r2)*(r1+r2-1) + (r1+r2)*(n1+n2-(r1+r2)-(p1+p2))+((T1 + n2 * p1)+(T2+n1*p2)) := by
  have := Int.mul_nonneg g2 (show 0 ≤ n1 - r1 by omega)
  have := Int.mul_nonneg g1 (show 0 ≤ n2 - r2 by omega)
  grind
theorem val_perm {ws us : W} (nd : (ws.map (·.1)).Nodup) (hp : us.Perm ws) {g : Str} (hg : g ∈ ws.map (·.1)) : val us g = val ws g := by
  obtain ⟨p, hm, e⟩ := List.mem_map.mp hg
  subst e
  rw [val_mem nd hm, val_mem ((hp.map (·.1)).nodup_iff.mpr nd) (hp.mem_iff.mpr hm)]
theorem val_inl {ws us : W} (nd : ((ws ++ us).map (·.1)).Nodup) {g : Str} (hg : g ∈ ws.map (·.1)) : val (ws ++ us) g = val ws g := by
  obtain ⟨p, hm, e⟩ := List.mem_map.mp hg
  subst e
  rw [List.map_append] at nd
  rw [val_mem (List.nodup_append.mp nd).1 hm, val_mem (by rw [List.map_append]; exact nd) (List.mem_append_left _ hm)]
theorem val_inr {ws us : W} (nd : ((ws ++ us).map (·.1)).Nodup) {g : Str} (hg : g ∈ us.map (·.1)) : val (ws ++ us) g = val us g := by
  obtain ⟨p, hm, e⟩ := List.mem_map.mp hg
  subst e
  rw [List.map_append] at nd
  rw [val_mem (List.nodup_append.mp nd).2.1 hm, val_mem (by rw [List.map_append]; exact nd) (List.mem_append_right _ hm)]
theorem val_up {ws : W} {n : Nat} (nd : (ws.map (·.1)).Nodup) {g : Str} (hg : g ∈ ws.map (·.1)) : val (upW n ws) g = val ws g + n := by
  obtain ⟨p, hm, e⟩ := List.mem_map.mp hg
  subst e
  have h := val_mem (ws := upW n ws) (p := (p.1, p.2 + n)) (by rw [upW_keys]; exact nd) (List.mem_map.mpr ⟨p, hm, rfl⟩)
  rw [val_mem nd hm]; exact h
def Fits (ws : W) : Prop := ∀ R P : List Str, R.Nodup → P.Nodup → (∀ g ∈ R, g ∈ ws.map (·.1) ∧ g ∉ P) → (∀ g ∈ P, g ∈ ws.map (·.1)) → lackW ws R P ≤ 0
theorem barFrom_none {ws : W} : ∀ k m : Nat, barFrom ws k m = none ↔ ∀ i, m ≤ i → i < m + k → lackW ws ((rowW ws).take i) (poorW ws i) ≤ 0
  | 0, m => ⟨fun _ i h1 h2 => by omega, fun _ => rfl⟩
  | k + 1, m => by
    rw [barFrom_succ]
    unfold barAt
    by_cases h : 0 < lackW ws ((rowW ws).take m) (poorW ws m)
    · rw [if_pos h]
      exact ⟨(fun z => by cases z), fun z => absurd (z m (Nat.le_refl m) (by omega)) (by omega)⟩
    · rw [if_neg h]
      show barFrom ws k (m + 1) = none ↔ _
      rw [barFrom_none k (m + 1)]
      refine ⟨fun z i h1 h2 => ?_, fun z i h1 h2 => z i (by omega) (by omega)⟩
      by_cases e : i = m
      · subst e; omega
      · exact z i (by omega) (by omega)
theorem leR_trans {a b c : Str × Int} (h : leR a b = true) (h' : leR b c = true) : leR a c = true := by
  unfold leR at h h' ⊢
  split at h
  · rename_i e
    split at h'
    · rename_i e'
      rw [if_pos (e.trans e')]; exact leS_trans h h'
    · rename_i e'
      rw [if_neg (by rw [e]; exact e'), e]; exact h'
  · rename_i e
    have h := of_decide_eq_true h
    split at h'
    · rename_i e'
      rw [if_neg (by rw [← e']; exact e)]
      exact decide_eq_true (by omega)
    · have h' := of_decide_eq_true h'
      rw [if_neg (by omega)]
      exact decide_eq_true (by omega)
theorem leR_total (a b : Str × Int) : (leR a b || leR b a) = true := by
  unfold leR
  by_cases e : a.2 = b.2
  · rw [if_pos e, if_pos e.symm]
    have := leS_total a.1 b.1
    simpa using this
  · rw [if_neg e, if_neg fun z => e z.symm]
    simp only [Bool.or_eq_true, decide_eq_true_eq]
    omega
theorem row_desc {ws : W} (nd : (ws.map (·.1)).Nodup) : (rowW ws).Pairwise fun x y => val ws y ≤ val ws x := by
  unfold rowW
  rw [List.pairwise_map]
  refine (List.pairwise_mergeSort (le := leR) (fun _ _ _ h h' => leR_trans h h') leR_total ws).imp_of_mem fun {p q} hp hq h => ?_
  have hp' := (List.mergeSort_perm ws leR).mem_iff.mp hp
  have hq' := (List.mergeSort_perm ws leR).mem_iff.mp hq
  rw [val_mem nd hp', val_mem nd hq']
  unfold leR at h
  split at h
  · omega
  · have := of_decide_eq_true h
    omega
theorem barW_none {ws : W} (nd : (ws.map (·.1)).Nodup) (nn : ∀ p ∈ ws, 0 ≤ p.2) : barW ws = none ↔ Fits ws := by
  have rnd := rowW_nodup nd
  have rl := rowW_len ws
  have rm : ∀ g, g ∈ rowW ws ↔ g ∈ ws.map (·.1) := fun g => (rowW_perm ws).mem_iff
  unfold barW
  rw [barFrom_none]
  constructor
  · intro h R P hR hP h1 h2
    have := heads_all (val ws) (rowW ws) (row_desc nd) rnd (fun g _ => val_nn nn g) (fun m m1 m2 => by
      have hm := h m m1 (by omega)
      unfold lackW roomW at hm
      rw [cap_sum]
      have e1 : ((rowW ws).take m).length = m := by rw [List.length_take]; omega
      have e2 : (((rowW ws).drop m).length : Int) = (ws.length : Int) - m := by rw [List.length_drop]; omega
      rw [e1] at hm
      rw [e2]
      have e3 : sm (val ws) ((rowW ws).take m) = (((rowW ws).take m).map (val ws)).sum := rfl
      have e4 : sm (val ws) (poorW ws m) = ((poorW ws m).map (val ws)).sum := rfl
      rw [e3]
      show _ ≤ _ + (sm (val ws) (poorW ws m) + (m : Int) * ((ws.length : Int) - m - ((poorW ws m).length : Nat)))
      rw [e4]
      omega) R P hR hP (fun x hx => ⟨(rm x).mpr (h1 x hx).1, (h1 x hx).2⟩) (fun x hx => (rm x).mpr (h2 x hx))
    rw [rl] at this
    unfold lackW roomW
    have e3 : sm (val ws) R = (R.map (val ws)).sum := rfl
    have e4 : sm (val ws) P = (P.map (val ws)).sum := rfl
    rw [e3, e4] at this
    omega
  · intro h i _ _
    have hd : (poorW ws i).Sublist ((rowW ws).drop i) := List.filter_sublist
    refine h _ _ (rnd.sublist (List.take_sublist _ _)) (rnd.sublist (hd.trans (List.drop_sublist _ _))) (fun g hg => ⟨(rm g).mp (List.mem_of_mem_take hg), fun z => ?_⟩) (fun g hg => (rm g).mp (List.mem_of_mem_drop (hd.subset hg)))
    have := rnd
    rw [← List.take_append_drop i (rowW ws)] at this
    exact (List.nodup_append.mp this).2.2 g hg g (hd.subset z) rfl
theorem lack_congr {ws us : W} {R P : List Str} (hl : us.length = ws.length) (h1 : ∀ g ∈ R, val us g = val ws g) (h2 : ∀ g ∈ P, val us g = val ws g) : lackW us R P = lackW ws R P := by
  unfold lackW roomW
  rw [List.map_congr_left h1, List.map_congr_left h2, hl]
theorem Fits.perm {ws us : W} (nd : (ws.map (·.1)).Nodup) (hp : us.Perm ws) (h : Fits ws) : Fits us := by
  have hk : ∀ g, g ∈ us.map (·.1) ↔ g ∈ ws.map (·.1) := fun g => (hp.map (·.1)).mem_iff
  intro R P hR hP h1 h2
  rw [lack_congr hp.length_eq (fun g hg => val_perm nd hp ((hk g).mp (h1 g hg).1)) fun g hg => val_perm nd hp ((hk g).mp (h2 g hg))]
  exact h R P hR hP (fun g hg => ⟨(hk g).mp (h1 g hg).1, (h1 g hg).2⟩) fun g hg => (hk g).mp (h2 g hg)
def inW (ws : W) (g : Str) : Bool := decide (g ∈ ws.map (·.1))
theorem Fits.two {ws us : W} {R P : List Str} (h : Fits ws) (h' : Fits us) (hR : R.Nodup) (hP : P.Nodup) (h1 : ∀ g ∈ R, (g ∈ ws.map (·.1) ∨ g ∈ us.map (·.1)) ∧ g ∉ P) (h2 : ∀ g ∈ P, g ∈ ws.map (·.1) ∨ g ∈ us.map (·.1)) :
    lackW ws (R.filter (inW ws)) (P.filter (inW ws)) ≤ 0 ∧ lackW us (R.filter fun g => !inW ws g) (P.filter fun g => !inW ws g) ≤ 0 := by
  have nin : ∀ g, (!inW ws g) = true → g ∉ ws.map (·.1) := fun g hg => by
    unfold inW at hg
    simpa using hg
  refine ⟨h _ _ (hR.filter _) (hP.filter _) (fun g hg => ?_) (fun g hg => ?_), h' _ _ (hR.filter _) (hP.filter _) (fun g hg => ?_) fun g hg => ?_⟩
  · obtain ⟨q1, q2⟩ := List.mem_filter.mp hg
    exact ⟨of_decide_eq_true q2, fun z => (h1 g q1).2 (List.mem_filter.mp z).1⟩
  · exact of_decide_eq_true (List.mem_filter.mp hg).2
  · obtain ⟨q1, q2⟩ := List.mem_filter.mp hg
    exact ⟨(h1 g q1).1.resolve_left (nin g q2), fun z => (h1 g q1).2 (List.mem_filter.mp z).1⟩
  · obtain ⟨q1, q2⟩ := List.mem_filter.mp hg
    exact (h2 g q1).resolve_left (nin g q2)
theorem keys_fit {ws : W} {X : List Str} (hX : X.Nodup) (h : ∀ g ∈ X, g ∈ ws.map (·.1)) : X.length ≤ ws.length := by
  have := nodup_len hX h
  rwa [List.length_map] at this
theorem Fits.join {ws us : W} (nd : ((ws ++ us).map (·.1)).Nodup) (h : Fits ws) (h' : Fits us) : Fits (ws ++ us) := by
  intro R P hR hP h1 h2
  have hm : ∀ g, g ∈ (ws ++ us).map (·.1) ↔ g ∈ ws.map (·.1) ∨ g ∈ us.map (·.1) := fun g => by rw [List.map_append, List.mem_append]
  have h1' : ∀ g ∈ R, (g ∈ ws.map (·.1) ∨ g ∈ us.map (·.1)) ∧ g ∉ P := fun g hg => ⟨(hm g).mp (h1 g hg).1, (h1 g hg).2⟩
  have h2' : ∀ g ∈ P, g ∈ ws.map (·.1) ∨ g ∈ us.map (·.1) := fun g hg => (hm g).mp (h2 g hg)
  obtain ⟨a1, a2⟩ := Fits.two h h' hR hP h1' h2'
  have nin : ∀ g, (!inW ws g) = true → g ∉ ws.map (·.1) := fun g hg => by
    unfold inW at hg
    simpa using hg
  have vl : ∀ X : List Str, sm (val (ws ++ us)) (X.filter (inW ws)) = sm (val ws) (X.filter (inW ws)) := fun X => sm_congr fun g hg => val_inl nd (of_decide_eq_true (List.mem_filter.mp hg).2)
  have vr : ∀ X : List Str, (∀ g ∈ X, g ∈ ws.map (·.1) ∨ g ∈ us.map (·.1)) → sm (val (ws ++ us)) (X.filter fun g => !inW ws g) = sm (val us) (X.filter fun g => !inW ws g) := fun X hX => sm_congr fun g hg => by
    obtain ⟨q1, q2⟩ := List.mem_filter.mp hg
    exact val_inr nd ((hX g q1).resolve_left (nin g q2))
  have k1 := keys_fit (ws := ws) (hP.filter (inW ws)) fun g hg => of_decide_eq_true (List.mem_filter.mp hg).2
  have k2 := keys_fit (ws := us) (hP.filter fun g => !inW ws g) fun g hg => by
    obtain ⟨q1, q2⟩ := List.mem_filter.mp hg
    exact (h2' g q1).resolve_left (nin g q2)
  have s1 := sm_split (val (ws ++ us)) (inW ws) R
  have s2 := sm_split (val (ws ++ us)) (inW ws) P
  rw [vl, vr _ fun g hg => (h1' g hg).1] at s1
  rw [vl, vr _ h2'] at s2
  have l1 := len_split (inW ws) R
  have l2 := len_split (inW ws) P
  unfold lackW roomW at a1 a2 ⊢
  change sm (val ws) _ - (_ + _ + sm (val ws) _) ≤ 0 at a1
  change sm (val us) _ - (_ + _ + sm (val us) _) ≤ 0 at a2
  change sm (val (ws ++ us)) _ - (_ + _ + sm (val (ws ++ us)) _) ≤ 0
  have := joinA (r1 := (R.filter (inW ws)).length) (r2 := (R.filter fun g => !inW ws g).length) (p1 := (P.filter (inW ws)).length) (p2 := (P.filter fun g => !inW ws g).length) (n1 := ws.length) (n2 := us.length) (by omega) (by omega) (by omega) (by omega) (Int.le_of_sub_nonpos (by simpa [Int.add_assoc] using a1)) (Int.le_of_sub_nonpos (by simpa [Int.add_assoc] using a2))
  rw [s1, s2, l1, l2, List.length_append]
  push_cast at this ⊢
  omega
end Q7

namespace Q7
open PySem PySem.Spec PyProof.Rows L2
theorem Fits.cross {ws us : W} (nd : ((ws ++ us).map (·.1)).Nodup) (h : Fits ws) (h' : Fits us) : Fits (crW ws us) := by
  have hk : (crW ws us).map (·.1) = ws.map (·.1) ++ us.map (·.1) := by unfold crW; rw [List.map_append, upW_keys, upW_keys]
  have nd0 : (ws.map (·.1) ++ us.map (·.1)).Nodup := by rw [← List.map_append]; exact nd
  have nd' : ((upW us.length ws ++ upW ws.length us).map (·.1)).Nodup := by
    have : (crW ws us).map (·.1) = _ := hk
    unfold crW at this
    rw [this]; exact nd0
  intro R P hR hP h1 h2
  rw [hk] at h1 h2
  have h1' : ∀ g ∈ R, (g ∈ ws.map (·.1) ∨ g ∈ us.map (·.1)) ∧ g ∉ P := fun g hg => ⟨List.mem_append.mp (h1 g hg).1, (h1 g hg).2⟩
  have h2' : ∀ g ∈ P, g ∈ ws.map (·.1) ∨ g ∈ us.map (·.1) := fun g hg => List.mem_append.mp (h2 g hg)
  obtain ⟨a1, a2⟩ := Fits.two h h' hR hP h1' h2'
  have nin : ∀ g, (!inW ws g) = true → g ∉ ws.map (·.1) := fun g hg => by
    unfold inW at hg
    simpa using hg
  have vl : ∀ X : List Str, sm (val (crW ws us)) (X.filter (inW ws)) = sm (val ws) (X.filter (inW ws)) + (us.length : Int) * (X.filter (inW ws)).length := fun X => by
    rw [← sm_const, ← sm_add]
    exact sm_congr fun g hg => by
      have q := of_decide_eq_true (List.mem_filter.mp hg).2
      unfold crW
      rw [val_inl nd' (by rw [upW_keys]; exact q), val_up (List.nodup_append.mp nd0).1 q]
  have vr : ∀ X : List Str, (∀ g ∈ X, g ∈ ws.map (·.1) ∨ g ∈ us.map (·.1)) → sm (val (crW ws us)) (X.filter fun g => !inW ws g) = sm (val us) (X.filter fun g => !inW ws g) + (ws.length : Int) * (X.filter fun g => !inW ws g).length := fun X hX => by
    rw [← sm_const, ← sm_add]
    exact sm_congr fun g hg => by
      obtain ⟨q1, q2⟩ := List.mem_filter.mp hg
      have q := (hX g q1).resolve_left (nin g q2)
      unfold crW
      rw [val_inr nd' (by rw [upW_keys]; exact q), val_up (List.nodup_append.mp nd0).2.1 q]
  have k1 := keys_fit (ws := ws) (hR.filter (inW ws)) fun g hg => of_decide_eq_true (List.mem_filter.mp hg).2
  have k2 := keys_fit (ws := us) (hR.filter fun g => !inW ws g) fun g hg => by
    obtain ⟨q1, q2⟩ := List.mem_filter.mp hg
    exact ((h1' g q1).1).resolve_left (nin g q2)
  have s1 := sm_split (val (crW ws us)) (inW ws) R
  have s2 := sm_split (val (crW ws us)) (inW ws) P
  rw [vl, vr _ fun g hg => (h1' g hg).1] at s1
  rw [vl, vr _ h2'] at s2
  have l1 := len_split (inW ws) R
  have l2 := len_split (inW ws) P
  unfold lackW roomW at a1 a2 ⊢
  change sm (val ws) _ - (_ + _ + sm (val ws) _) ≤ 0 at a1
  change sm (val us) _ - (_ + _ + sm (val us) _) ≤ 0 at a2
  change sm (val (crW ws us)) _ - (_ + _ + sm (val (crW ws us)) _) ≤ 0
  have := crossA (r1 := (R.filter (inW ws)).length) (r2 := (R.filter fun g => !inW ws g).length) (p1 := (P.filter (inW ws)).length) (p2 := (P.filter fun g => !inW ws g).length) (n1 := ws.length) (n2 := us.length) (by omega) (by omega) (by omega) (by omega) (Int.le_of_sub_nonpos a1) (Int.le_of_sub_nonpos a2)
  have hl : ((crW ws us).length : Int) = (ws.length : Int) + us.length := by unfold crW; rw [List.length_append, upW_len, upW_len]; omega
  have e1 : (R.length : Int) = ((R.filter (inW ws)).length : Int) + (R.filter fun g => !inW ws g).length := by omega
  have e2 : (P.length : Int) = ((P.filter (inW ws)).length : Int) + (P.filter fun g => !inW ws g).length := by omega
  rw [s1, s2, e1, e2, hl]
  omega
theorem sumW_perm {ws us : W} (hp : us.Perm ws) : sumW us = sumW ws := by
  show sm (fun p : Str × Int => p.2) us = sm (fun p => p.2) ws
  exact sm_perm _ hp
theorem sumW_app (ws us : W) : sumW (ws ++ us) = sumW ws + sumW us := by
  unfold sumW
  rw [List.map_append, List.sum_append]
theorem sumW_up (n : Nat) : ∀ ws : W, sumW (upW n ws) = sumW ws + n * ws.length
  | [] => by simp [sumW, upW]
  | p :: ws => by
    have ih := sumW_up n ws
    unfold sumW upW at ih ⊢
    rw [List.map_cons, List.map_cons, List.sum_cons, List.map_cons, List.sum_cons, ih, List.length_cons]
    grind
theorem blW_iff {ws : W} (ok : WOk ws) : blW ws = true ↔ sumW ws % 2 ≠ 1 ∧ Fits ws := by
  unfold blW
  rw [Bool.and_eq_true, decide_eq_true_eq, ← barW_none ok.nd ok.nn, Option.isNone_iff_eq_none]
theorem blW_perm {ws us : W} (ok : WOk ws) (ok' : WOk us) (hp : us.Perm ws) (h : blW ws = true) : blW us = true := by
  obtain ⟨h1, h2⟩ := (blW_iff ok).mp h
  exact (blW_iff ok').mpr ⟨by rw [sumW_perm hp]; exact h1, h2.perm ok.nd hp⟩
theorem blW_join {ws us : W} (ok : WOk ws) (ok' : WOk us) (ok2 : WOk (ws ++ us)) (h : blW ws = true) (h' : blW us = true) : blW (srtW (ws ++ us)) = true := by
  obtain ⟨h1, h2⟩ := (blW_iff ok).mp h
  obtain ⟨h3, h4⟩ := (blW_iff ok').mp h'
  refine blW_perm ok2 ok2.srt (srtW_perm _) ((blW_iff ok2).mpr ⟨?_, h2.join ok2.nd h4⟩)
  rw [sumW_app]; omega
theorem blW_cross {ws us : W} (ok : WOk ws) (ok' : WOk us) (ok2 : WOk (ws ++ us)) (ok3 : WOk (crW ws us)) (h : blW ws = true) (h' : blW us = true) : blW (srtW (crW ws us)) = true := by
  obtain ⟨h1, h2⟩ := (blW_iff ok).mp h
  obtain ⟨h3, h4⟩ := (blW_iff ok').mp h'
  refine blW_perm ok3 ok3.srt (srtW_perm _) ((blW_iff ok3).mpr ⟨?_, h2.cross ok2.nd h4⟩)
  unfold crW
  rw [sumW_app, sumW_up, sumW_up]
  have : (ws.length : Int) * (us.length : Int) = us.length * ws.length := Int.mul_comm _ _
  omega
end Q7

namespace Q7
open PySem PySem.Spec PyProof.Rows L2
/-! ### two parties drawn -/
def zW (us : W) : W := (srtW us).map fun p => (p.1 ++ zzz, p.2)
theorem zW_len (us : W) : (zW us).length = us.length := by unfold zW; rw [List.length_map, (srtW_perm us).length_eq]
theorem zW_ok {us : W} (h : WsP us) : WOk (zW us) := by
  have hm : ∀ p ∈ srtW us, p ∈ us := fun p hp => (srtW_perm us).mem_iff.mp hp
  refine ⟨fun p hp => ?_, fun p hp => ?_, ?_, by rw [zW_len]; have := h.few; omega⟩
  · obtain ⟨r, hr, e⟩ := List.mem_map.mp hp
    subst e
    exact (h.nm r (hm r hr)).nm3
  · obtain ⟨r, hr, e⟩ := List.mem_map.mp hp
    subst e
    exact h.nn r (hm r hr)
  · unfold zW
    rw [List.map_map]
    have e : (((fun x : Str × Int => x.1) ∘ fun p : Str × Int => (p.1 ++ zzz, p.2)) : Str × Int → Str) = (fun z : Str => z ++ zzz) ∘ fun p => p.1 := rfl
    rw [e, ← List.map_map]
    exact List.Pairwise.map _ (fun x y hxy z => hxy (zzz_inj z)) (srtW_nodup h.nd)
theorem zW_apart {ws us : W} (h : WsP ws) (h' : WsP us) : Apart ws (zW us) := by
  intro g hg hg'
  obtain ⟨p, hp, e⟩ := List.mem_map.mp hg
  obtain ⟨r, hr, e'⟩ := List.mem_map.mp hg'
  obtain ⟨t, ht, e2⟩ := List.mem_map.mp hr
  subst e2
  exact (h.nm p hp).apart (h'.nm t ((srtW_perm us).mem_iff.mp ht)) (e.trans e'.symm)
section
variable {K : PySem.W.Frag} {G : DH} {Q : DK} {E : DX} {a d : Addr} {n : Int} {ws : W}
theorem NmP.few {z : Str} (h : NmP z) : z.length ≤ 1000000 := isNm_len h.nm
theorem t_law_two {m : Nat} (h : SA G a n) (hn : n + 300000 < big) (hm : m ≤ 20)
    (q : ∀ p1 p2 ws us G', WOk ws → WOk us → Low ws → Low us → Apart ws us → ws.length ≤ m → us.length ≤ m → G'.ob p1 = some (.dct true (wd ws)) → G'.ob p2 = some (.dct true (wd us)) → Sub (fr G) G' → SA G' a (n + 300000) → Q (.tup [.ref p1, .ref p2]) G') : sp__law_two K [.ref a, .int m] G Q E := by
  refine wSp_mk rfl ?_
  unfold w__law_two
  dsimp only [wSeq, wSetIx, wOp, wC, wB, wIfS, wAsg, wCB, wCons, wNil, wRet, wRetN, wAnd, wOr, wNot, wAndV, wOrV, wNotV, wIf, wTup, wLst, wBM, wNext, wExpr, wUn, wChain, wCall, wSl, wPart, wNoPart, wNever, wLkS, wStar, wStarItems, wListItems, wSumVals, wFld, wSetFld, wMake, wMeth, wCallK, wDisp, wEmp, wPairs, wLk, wBreak, wCont, asg, asgs]
  refine x_var rfl (x_var rfl (t_law_party h (by omega) hm fun p1 ws G1 wp wl hp1 e1 s1 sa1 => ?_))
  refine x_var rfl (x_var rfl (t_law_party sa1 (by omega) hm fun p2 us G2 up ul hp2 e2 s2 sa2 => ⟨by show 2 ≤ sizeLine; decide, _, rfl, ?_⟩))
  refine x_var rfl (x_lc (x_wiE (x_var rfl (sort_dict e2 (ks_map us) (by rw [List.length_map]; omega) fun lg hlg => ?_))))
  have s3 := (Sub.refl G2).new (o := .lst true ((srtS (us.map (·.1))).map .str)) hlg
  have hsl : (srtW us).length = us.length := (srtW_perm us).length_eq
  refine Or.inl ⟨lg, _, rfl, ⟨true, DH.put_same⟩, ?_⟩
  refine lcX (itemsD (wd (zW us))) (fun G' s => ⟨true, s.ob _ _ DH.put_same⟩) (by unfold itemsD; rw [← srtW_keys, List.length_map, List.length_map, List.length_map, wd_len, zW_len, hsl]) (by unfold itemsD; rw [List.length_map, wd_len, zW_len]; omega) (fun i x y G' Y hx hy s hY => ?_) (fun p3 G3 hp3 s4 => ?_)
  · rw [← srtW_keys, List.getElem?_map, List.getElem?_map, Option.map_map] at hx
    obtain ⟨g, hg, e⟩ := Option.map_eq_some_iff.mp hx
    subst e
    have ey : y = .tup [.str (g.1 ++ zzz), .int g.2] := by
      unfold itemsD wd zW at hy
      rw [List.map_map, List.map_map, List.getElem?_map, hg] at hy
      exact (Option.some.inj hy).symm
    subst ey
    have hgm : g ∈ us := (srtW_perm us).mem_iff.mp (List.mem_of_getElem? hg)
    have hgl := (up.nm g hgm).few
    refine ⟨_, rfl, ?_⟩
    dsimp only [wSeq, wSetIx, wOp, wC, wB, wIfS, wAsg, wCB, wCons, wNil, wRet, wRetN, wAnd, wOr, wNot, wAndV, wOrV, wNotV, wIf, wTup, wLst, wBM, wNext, wExpr, wUn, wChain, wCall, wSl, wPart, wNoPart, wNever, wLkS, wStar, wStarItems, wListItems, wSumVals, wFld, wSetFld, wMake, wMeth, wCallK, wDisp, wEmp, wPairs, wLk, wBreak, wCont, asg, asgs]
    refine x_var rfl (x_addS ?_ (x_var rfl (x_var rfl (x_ixD (key := Sum.inr g.1) ((s3.trans s).ob _ _ e2) (wd_val up.nd hgm) ⟨by show 2 ≤ sizeLine; decide, hY G' (Sub.refl G')⟩))))
    have : (10000000 : Nat) < sizeLine := by rw [sizeLine_eq]; decide
    show g.1.length + zzz.length ≤ sizeLine
    have : zzz.length = 3 := by decide +kernel
    omega
  have sG3 : Sub G2 G3 := s3.trans (((Sub.refl _).new (o := .lst true (itemsD (wd (zW us)))) hp3).trans s4)
  have ok := zW_ok up
  refine x_dictL (s4.ob _ _ DH.put_same) ok.nd fun pd hpd => Or.inl ⟨by show 2 ≤ sizeLine; decide, ?_⟩
  have sG4 : Sub G2 (G3.put pd (.dct true (wd (zW us)))) := sG3.trans ((Sub.refl G3).new hpd)
  exact fg0 (q p1 pd ws (zW us) _ wp.ok ok wp.lo (fun p hp => by
    obtain ⟨r, hr, e⟩ := List.mem_map.mp hp
    subst e
    exact up.lo r ((srtW_perm us).mem_iff.mp hr)) (zW_apart wp up) wl (by rw [zW_len]; exact ul) (sG4.ob _ _ (s2.ob _ _ e1)) DH.put_same (Sub.frt s1 (Sub.trans s2 sG4)) (SA.mono (sa2.sub sG4) (by omega)))
end
end Q7

namespace Q7
open PySem PySem.Spec PyProof.Rows L2
/-! ### spoilt -/
section
variable {K : PySem.W.Frag} {G : DH} {Q : DK} {E : DX} {x y : D} {n : Nat} {l f : Addr}
theorem spoilt_leaf {T : String} (hT : TyN x G T) (h1 : (T == "list" || T == "tuple") = false) (h2 : (T == "dict") = false) (h3 : (T == "list") = false) (h4 : (T == "bool") = false) (q : Q .non G) : sp__law_spoilt K (n + 1) [x] G Q E := by
  show wSp 1 N__law_spoilt (w__law_spoilt K (sp__law_spoilt K n)) _ G Q E
  refine wSp_mk rfl ?_
  unfold w__law_spoilt
  dsimp only [wSeq, wSetIx, wOp, wC, wB, wIfS, wAsg, wCB, wCons, wNil, wRet, wRetN, wAnd, wOr, wNot, wAndV, wOrV, wNotV, wIf, wTup, wLst, wBM, wNext, wExpr, wUn, wChain, wCall, wSl, wPart, wNoPart, wNever, wLkS, wStar, wStarItems, wListItems, wSumVals, wFld, wSetFld, wMake, wMeth, wCallK, wDisp, wEmp, wPairs, wLk, wBreak, wCont, asg, asgs]
  refine x_var rfl (x_isi hT (by decide) ⟨_, rfl, ?_⟩)
  rw [h2, h4]
  refine itF ?_
  refine x_var rfl ⟨by decide, x_isLT hT ⟨_, rfl, ?_⟩⟩
  rw [h1]
  refine itF ?_
  refine x_var rfl (x_isi hT (by decide) ⟨_, rfl, ?_⟩)
  rw [h3, h4]
  refine itF ?_
  exact fg0 q
theorem spoilt_tup {ds : List D} (hd : ∀ d ∈ ds, ∀ (G' : DH) (Q : DK) (E : DX), Sub G G' → Q .non G' → sp__law_spoilt K n [d] G' Q E) (q : Q .non G) : sp__law_spoilt K (n + 1) [.tup ds] G Q E := by
  show wSp 1 N__law_spoilt (w__law_spoilt K (sp__law_spoilt K n)) _ G Q E
  refine wSp_mk rfl ?_
  unfold w__law_spoilt
  dsimp only [wSeq, wSetIx, wOp, wC, wB, wIfS, wAsg, wCB, wCons, wNil, wRet, wRetN, wAnd, wOr, wNot, wAndV, wOrV, wNotV, wIf, wTup, wLst, wBM, wNext, wExpr, wUn, wChain, wCall, wSl, wPart, wNoPart, wNever, wLkS, wStar, wStarItems, wListItems, wSumVals, wFld, wSetFld, wMake, wMeth, wCallK, wDisp, wEmp, wPairs, wLk, wBreak, wCont, asg, asgs]
  have hT : ∀ G, TyN (.tup ds) G "tuple" := fun _ => rfl
  refine x_var rfl (x_isi (hT _) (by decide) ⟨_, rfl, itF ?_⟩)
  refine x_var rfl ⟨by decide, x_isLT (hT _) ⟨_, rfl, itT ?_⟩⟩
  refine x_for (x_wiE (x_var rfl (Or.inr (Or.inl ⟨_, rfl, ?_⟩))))
  refine ⟨fun t δ' G' => ∃ z, δ' = [some (.tup ds), none, z] ∧ Sub G G', ⟨none, rfl, Sub.refl G⟩, fun _ _ _ _ => trivial, ?_, ?_⟩
  · rintro t y δ' G' hy ⟨z, rfl, s⟩
    refine ⟨_, rfl, ?_⟩
    dsimp only [wSeq, wSetIx, wOp, wC, wB, wIfS, wAsg, wCB, wCons, wNil, wRet, wRetN, wAnd, wOr, wNot, wAndV, wOrV, wNotV, wIf, wTup, wLst, wBM, wNext, wExpr, wUn, wChain, wCall, wSl, wPart, wNoPart, wNever, wLkS, wStar, wStarItems, wListItems, wSumVals, wFld, wSetFld, wMake, wMeth, wCallK, wDisp, wEmp, wPairs, wLk, wBreak, wCont, asg, asgs]
    exact x_var rfl (hd y (List.mem_of_getElem? hy) G' _ _ s ⟨_, rfl, s⟩)
  · rintro δ' G' ⟨z, rfl, s⟩
    refine x_var rfl (x_isi (hT _) (by decide) ⟨_, rfl, itF ?_⟩)
    exact fgI s q
theorem spoilt_hand {p : Hand} (q : Q .non G) : sp__law_spoilt K (n + 2) [hD p] G Q E :=
  spoilt_tup (n := n + 1) (fun d hd G' Q E s q => by
    rcases List.mem_cons.mp hd with e | hd
    · subst e; exact spoilt_leaf (T := "str") rfl rfl rfl rfl rfl q
    rcases List.mem_cons.mp hd with e | hd
    · subst e; exact spoilt_leaf (T := "str") rfl rfl rfl rfl rfl q
    · cases hd) q
/-- a list of things without lists, dicts in them -/
theorem spoilt_flat {ds : List D} (h : G.ob l = some (.lst true ds)) (hl : ds.length ≤ 100000) (hd : ∀ d ∈ ds, ∀ (G' : DH) (Q : DK) (E : DX), Sub G G' → Q .non G' → sp__law_spoilt K n [d] G' Q E) (q : Q .non (G.put l (.lst true (ds ++ [.str "late"])))) : sp__law_spoilt K (n + 1) [.ref l] G Q E := by
  show wSp 1 N__law_spoilt (w__law_spoilt K (sp__law_spoilt K n)) _ G Q E
  refine wSp_mk rfl ?_
  unfold w__law_spoilt
  dsimp only [wSeq, wSetIx, wOp, wC, wB, wIfS, wAsg, wCB, wCons, wNil, wRet, wRetN, wAnd, wOr, wNot, wAndV, wOrV, wNotV, wIf, wTup, wLst, wBM, wNext, wExpr, wUn, wChain, wCall, wSl, wPart, wNoPart, wNever, wLkS, wStar, wStarItems, wListItems, wSumVals, wFld, wSetFld, wMake, wMeth, wCallK, wDisp, wEmp, wPairs, wLk, wBreak, wCont, asg, asgs]
  have hT : ∀ G', Sub G G' → TyN (.ref l) G' "list" := fun G' s => by unfold TyN; simp [s.ob _ _ h]
  refine x_var rfl (x_isi (hT _ (Sub.refl G)) (by decide) ⟨_, rfl, itF ?_⟩)
  refine x_var rfl ⟨by decide, x_isLT (hT _ (Sub.refl G)) ⟨_, rfl, itT ?_⟩⟩
  refine x_for (x_wiE (x_var rfl (Or.inl ⟨l, ds, rfl, ⟨true, h⟩, ?_⟩)))
  refine ⟨fun t δ' G' => ∃ z, δ' = [some (.ref l), none, z] ∧ Sub G G', ⟨none, rfl, Sub.refl G⟩, ?_, ?_, ?_⟩
  · rintro t δ' G' ⟨z, rfl, s⟩
    exact ⟨true, s.ob _ _ h⟩
  · rintro t y δ' G' hy ⟨z, rfl, s⟩
    refine ⟨_, rfl, ?_⟩
    dsimp only [wSeq, wSetIx, wOp, wC, wB, wIfS, wAsg, wCB, wCons, wNil, wRet, wRetN, wAnd, wOr, wNot, wAndV, wOrV, wNotV, wIf, wTup, wLst, wBM, wNext, wExpr, wUn, wChain, wCall, wSl, wPart, wNoPart, wNever, wLkS, wStar, wStarItems, wListItems, wSumVals, wFld, wSetFld, wMake, wMeth, wCallK, wDisp, wEmp, wPairs, wLk, wBreak, wCont, asg, asgs]
    exact x_var rfl (hd y (List.mem_of_getElem? hy) G' _ _ s ⟨_, rfl, s⟩)
  · rintro δ' G' ⟨z, rfl, s⟩
    refine x_var rfl (x_isi (hT _ s) (by decide) ⟨_, rfl, itT ?_⟩)
    dsimp only [wSeq, wSetIx, wOp, wC, wB, wIfS, wAsg, wCB, wCons, wNil, wRet, wRetN, wAnd, wOr, wNot, wAndV, wOrV, wNotV, wIf, wTup, wLst, wBM, wNext, wExpr, wUn, wChain, wCall, wSl, wPart, wNoPart, wNever, wLkS, wStar, wStarItems, wListItems, wSumVals, wFld, wSetFld, wMake, wMeth, wCallK, wDisp, wEmp, wPairs, wLk, wBreak, wCont, asg, asgs]
    refine x_var rfl ⟨.inl ⟨rfl, l, ds, rfl, ⟨true, s.ob _ _ h⟩⟩, x_app (s.ob _ _ h) (by omega) ?_⟩
    exact fgI (s.put l _) q
theorem spoilt_web {hs : List Hand} (h : G.ob l = some (.lst true (hs.map hD))) (hl : hs.length ≤ 100000) (q : Q .non (G.put l (.lst true (hs.map hD ++ [.str "late"])))) : sp__law_spoilt K (n + 3) [.ref l] G Q E :=
  spoilt_flat (n := n + 2) h (by rw [List.length_map]; exact hl) (fun d hd G' Q E s q => by
    obtain ⟨p, _, e⟩ := List.mem_map.mp hd
    subst e
    exact spoilt_hand q) q
/-- a list of lists without lists, dicts in them, all made anew -/
theorem spoilt_webs {B : DH} {ps : List Addr} (sB : Sub B G) (h : G.ob f = some (.lst true (ps.map .ref))) (hf : B.ob f = none) (hl : ps.length ≤ 100000) (hp : ∀ p ∈ ps, p ≠ f ∧ B.ob p = none ∧ ∃ hs : List Hand, hs.length ≤ 100000 ∧ G.ob p = some (.lst true (hs.map hD))) (nd : ps.Nodup)
    (q : ∀ G', Sub B G' → G'.st = G.st → Q .non G') : sp__law_spoilt K (n + 4) [.ref f] G Q E := by
  show wSp 1 N__law_spoilt (w__law_spoilt K (sp__law_spoilt K (n + 3))) _ G Q E
  refine wSp_mk rfl ?_
  unfold w__law_spoilt
  dsimp only [wSeq, wSetIx, wOp, wC, wB, wIfS, wAsg, wCB, wCons, wNil, wRet, wRetN, wAnd, wOr, wNot, wAndV, wOrV, wNotV, wIf, wTup, wLst, wBM, wNext, wExpr, wUn, wChain, wCall, wSl, wPart, wNoPart, wNever, wLkS, wStar, wStarItems, wListItems, wSumVals, wFld, wSetFld, wMake, wMeth, wCallK, wDisp, wEmp, wPairs, wLk, wBreak, wCont, asg, asgs]
  have hT : ∀ G' : DH, G'.ob f = some (.lst true (ps.map .ref)) → TyN (.ref f) G' "list" := fun G' s => by unfold TyN; simp [s]
  refine x_var rfl (x_isi (hT _ h) (by decide) ⟨_, rfl, itF ?_⟩)
  refine x_var rfl ⟨by decide, x_isLT (hT _ h) ⟨_, rfl, itT ?_⟩⟩
  refine x_for (x_wiE (x_var rfl (Or.inl ⟨f, _, rfl, ⟨true, h⟩, ?_⟩)))
  refine ⟨fun t δ' G' => ∃ z, δ' = [some (.ref f), none, z] ∧ Sub B G' ∧ G'.st = G.st ∧ G'.ob f = some (.lst true (ps.map .ref)) ∧ ∀ i p, t ≤ i → ps[i]? = some p → ∃ hs : List Hand, hs.length ≤ 100000 ∧ G'.ob p = some (.lst true (hs.map hD)), ⟨none, rfl, sB, rfl, h, fun i p _ e => (hp p (List.mem_of_getElem? e)).2.2⟩, ?_, ?_, ?_⟩
  · rintro t δ' G' ⟨z, rfl, s, e, h', r⟩
    exact ⟨true, h'⟩
  · rintro t y δ' G' hy ⟨z, rfl, s, e, h', r⟩
    refine ⟨_, rfl, ?_⟩
    dsimp only [wSeq, wSetIx, wOp, wC, wB, wIfS, wAsg, wCB, wCons, wNil, wRet, wRetN, wAnd, wOr, wNot, wAndV, wOrV, wNotV, wIf, wTup, wLst, wBM, wNext, wExpr, wUn, wChain, wCall, wSl, wPart, wNoPart, wNever, wLkS, wStar, wStarItems, wListItems, wSumVals, wFld, wSetFld, wMake, wMeth, wCallK, wDisp, wEmp, wPairs, wLk, wBreak, wCont, asg, asgs]
    rw [List.getElem?_map] at hy
    obtain ⟨p, hpt, ey⟩ := Option.map_eq_some_iff.mp hy
    subst ey
    obtain ⟨p1, p2, _⟩ := hp p (List.mem_of_getElem? hpt)
    obtain ⟨hs, l1, l2⟩ := r t p (Nat.le_refl t) hpt
    refine x_var rfl (spoilt_web l2 l1 ?_)
    refine ⟨_, rfl, s.over p2, e, by rw [DH.put_ne (fun z => p1 z.symm)]; exact h', fun i p' hi hp' => ?_⟩
    obtain ⟨hs', r1, r2⟩ := r i p' (by omega) hp'
    refine ⟨hs', r1, ?_⟩
    rw [DH.put_ne]
    · exact r2
    · intro z
      subst z
      have ht := (List.getElem?_eq_some_iff.mp hpt)
      have hi' := (List.getElem?_eq_some_iff.mp hp')
      have := (List.pairwise_iff_getElem.mp nd) t i ht.1 hi'.1 (by omega)
      exact this (ht.2.trans hi'.2.symm)
  · rintro δ' G' ⟨z, rfl, s, e, h', r⟩
    refine x_var rfl (x_isi (hT _ h') (by decide) ⟨_, rfl, itT ?_⟩)
    dsimp only [wSeq, wSetIx, wOp, wC, wB, wIfS, wAsg, wCB, wCons, wNil, wRet, wRetN, wAnd, wOr, wNot, wAndV, wOrV, wNotV, wIf, wTup, wLst, wBM, wNext, wExpr, wUn, wChain, wCall, wSl, wPart, wNoPart, wNever, wLkS, wStar, wStarItems, wListItems, wSumVals, wFld, wSetFld, wMake, wMeth, wCallK, wDisp, wEmp, wPairs, wLk, wBreak, wCont, asg, asgs]
    refine x_var rfl ⟨.inl ⟨rfl, f, _, rfl, ⟨true, h'⟩⟩, x_app h' (by rw [List.length_map]; omega) ?_⟩
    exact fg0 (q _ (s.over hf) e)
end
end Q7

namespace Q7
open PySem PySem.Spec PyProof.Rows L2
/-! ### the law, row by row -/
structure Ok2 (ws us : W) : Prop where
  ok1 : WOk ws
  ok2 : WOk us
  lo1 : Low ws
  lo2 : Low us
  ap : Apart ws us
  l1 : ws.length ≤ 6
  l2 : us.length ≤ 6
theorem Ok2.swap {ws us : W} (h : Ok2 ws us) : Ok2 us ws := ⟨h.ok2, h.ok1, h.lo2, h.lo1, fun g h1 h2 => h.ap g h2 h1, h.l2, h.l1⟩
theorem Ok2.app {ws us : W} (h : Ok2 ws us) : WOk (ws ++ us) := h.ok1.app h.ok2 h.ap (by have := h.l1; have := h.l2; omega)
theorem Ok2.cr {ws us : W} (h : Ok2 ws us) : WOk (crW ws us) := crW_ok h.ok1 h.ok2 h.ap (by have := h.l1; have := h.l2; omega)
theorem srt_keys_mem {ws : W} {g : Str} : g ∈ srtS (ws.map (·.1)) ↔ g ∈ ws.map (·.1) := (srtS_perm _).mem_iff
theorem fd_ok {ws : W} {F : Str → Int} (ok : WOk ws) (hF : ∀ g, 0 ≤ F g ∧ F g ≤ 10000) : WOk (fd (srtS (ws.map (·.1))) F) ∧ Low (fd (srtS (ws.map (·.1))) F) := by
  refine ⟨⟨fun p hp => ?_, fun p hp => ?_, ?_, ?_⟩, fun p hp => ?_⟩
  · obtain ⟨r, hr, e⟩ := List.mem_map.mp (srt_keys_mem.mp (fd_mem hp).1)
    rw [← e]; exact ok.nm r hr
  · rw [(fd_mem hp).2]; exact (hF _).1
  · rw [fd_keys]; exact (srtS_perm _).nodup_iff.mpr ok.nd
  · rw [fd_len, (srtS_perm _).length_eq, List.length_map]; exact ok.few
  · have := hF p.1
    rw [(fd_mem hp).2]; omega
theorem fd_len' (ws : W) (F : Str → Int) : (fd (srtS (ws.map (·.1))) F).length = ws.length := by rw [fd_len, (srtS_perm _).length_eq, List.length_map]
theorem Ok2.fd {ws us : W} {F F' : Str → Int} (h : Ok2 ws us) (hF : ∀ g, 0 ≤ F g ∧ F g ≤ 10000) (hF' : ∀ g, 0 ≤ F' g ∧ F' g ≤ 10000) : Ok2 (Q7.fd (srtS (ws.map (·.1))) F) (Q7.fd (srtS (us.map (·.1))) F') :=
  ⟨(fd_ok h.ok1 hF).1, (fd_ok h.ok2 hF').1, (fd_ok h.ok1 hF).2, (fd_ok h.ok2 hF').2, fun g h1 h2 => by
    rw [fd_keys] at h1 h2
    exact h.ap g (srt_keys_mem.mp h1) (srt_keys_mem.mp h2), by rw [fd_len']; exact h.l1, by rw [fd_len']; exact h.l2⟩
section
variable {K : PySem.W.Frag} {G : DH} {EE : DEnds} {a o1 o2 : Addr} {n : Int} {ws us : W} {z0 z1 z2 z3 z4 z5 z6 z7 z8 z9 z10 z11 z12 z13 z14 z15 z16 z17 z18 z19 z20 z21 z22 z23 z24 z25 z26 : Option D}
theorem tl_1 (h : SA G a n) (hn : n + 400000 < big)
    (q : ∀ o1 o2 ws us G', Ok2 ws us → G'.ob o1 = some (.dct true (wd ws)) → G'.ob o2 = some (.dct true (wd us)) → Sub (fr G) G' → SA G' a (n + 400000) → EE.nx [z0, some (.ref a), z2, some (.ref o1), some (.ref o2), z5, z6, z7, z8, z9, z10, z11, z12, z13, z14, z15, z16, z17, z18, z19, z20, z21, z22, z23, z24, z25, z26] G') : w_law_1 K EE [z0, some (.ref a), z2, z3, z4, z5, z6, z7, z8, z9, z10, z11, z12, z13, z14, z15, z16, z17, z18, z19, z20, z21, z22, z23, z24, z25, z26] G := by
  unfold w_law_1; dsimp only [wSeq, wSetIx, wOp, wC, wB, wIfS, wAsg, wCB, wCons, wNil, wRet, wRetN, wAnd, wOr, wNot, wAndV, wOrV, wNotV, wIf, wTup, wLst, wBM, wNext, wExpr, wUn, wChain, wCall, wSl, wPart, wNoPart, wNever, wLkS, wStar, wStarItems, wListItems, wSumVals, wFld, wSetFld, wMake, wMeth, wCallK, wDisp, wEmp, wPairs, wLk, wBreak, wCont, asg, asgs]
  refine x_var rfl (x_var rfl ⟨by show 3 ≤ sizeLine; decide, fun pp hpp => ?_⟩)
  have sa1 : SA (G.put pp (.lst true [.int 2, .int 4, .int 6])) a n := h
  refine t_pickL sa1 (by omega) DH.put_same (by decide) (by decide) fun v G1 hv s1 sa2 _ => ?_
  have s01 : Sub (fr G) G1 := Sub.frt (Sub.fr ((Sub.refl G).new hpp)) s1
  obtain ⟨m, rfl, hm⟩ : ∃ m : Nat, v = .int m ∧ m ≤ 6 := by
    rcases List.mem_cons.mp hv with e | hv
    · exact ⟨2, e, by decide⟩
    rcases List.mem_cons.mp hv with e | hv
    · exact ⟨4, e, by decide⟩
    rcases List.mem_cons.mp hv with e | hv
    · exact ⟨6, e, by decide⟩
    · cases hv
  exact t_law_two sa2 (by omega) (by omega) fun p1 p2 ws us G' k1 k2 k3 k4 k5 k6 k7 k8 k9 s2 sa3 => ⟨_, rfl, q p1 p2 ws us G' ⟨k1, k2, k3, k4, k5, by omega, by omega⟩ k8 k9 (Sub.frt s01 s2) (sa3.mono (by omega))⟩
def sel (ws us : W) (i : Nat) : W := if i = 0 then ws else us
theorem cnt_ok {ws : W} {hs : List Hand} (ok : ws.length ≤ 60) (h : hs.Sublist (prs (srtS (ws.map (·.1))))) (g : Str) : 0 ≤ cnt hs g ∧ cnt hs g ≤ 10000 := by
  have h1 := h.length_le
  have h2 : (srtS (ws.map (·.1))).length = ws.length := by rw [(srtS_perm _).length_eq, List.length_map]
  have h3 := prs_len (gs := srtS (ws.map (·.1))) (by omega)
  have h4 := cnt_le hs g
  exact ⟨cnt_nn hs g, by omega⟩
theorem tl_2 {t : Nat} (h : SA G a n) (hn : n + 400000 < big) (ok : Ok2 ws us) (d1 : G.ob o1 = some (.dct true (wd ws))) (d2 : G.ob o2 = some (.dct true (wd us)))
    (q : ∀ o1 o2 ws us G', Ok2 ws us → G'.ob o1 = some (.dct true (wd ws)) → G'.ob o2 = some (.dct true (wd us)) → SA G' a (n + 400000) → EE.nx [z0, some (.ref a), some (.int t), some (.ref o1), some (.ref o2), z5, z6, z7, z8, z9, z10, z11, z12, z13, z14, z15, z16, z17, z18, z19, z20, z21, z22, z23, z24, z25, z26] G') : w_law_2 K EE [z0, some (.ref a), some (.int t), some (.ref o1), some (.ref o2), z5, z6, z7, z8, z9, z10, z11, z12, z13, z14, z15, z16, z17, z18, z19, z20, z21, z22, z23, z24, z25, z26] G := by
  unfold w_law_2; dsimp only [wSeq, wSetIx, wOp, wC, wB, wIfS, wAsg, wCB, wCons, wNil, wRet, wRetN, wAnd, wOr, wNot, wAndV, wOrV, wNotV, wIf, wTup, wLst, wBM, wNext, wExpr, wUn, wChain, wCall, wSl, wPart, wNoPart, wNever, wLkS, wStar, wStarItems, wListItems, wSumVals, wFld, wSetFld, wMake, wMeth, wCallK, wDisp, wEmp, wPairs, wLk, wBreak, wCont, asg, asgs]
  refine x_var rfl (x_modI (by decide) (x_eqI ⟨_, rfl, ?_⟩))
  by_cases hw : (t : Int) % 2 = 0
  · rw [if_pos (decide_eq_true hw)]
    unfold w_law_3; dsimp only [wSeq, wSetIx, wOp, wC, wB, wIfS, wAsg, wCB, wCons, wNil, wRet, wRetN, wAnd, wOr, wNot, wAndV, wOrV, wNotV, wIf, wTup, wLst, wBM, wNext, wExpr, wUn, wChain, wCall, wSl, wPart, wNoPart, wNever, wLkS, wStar, wStarItems, wListItems, wSumVals, wFld, wSetFld, wMake, wMeth, wCallK, wDisp, wEmp, wPairs, wLk, wBreak, wCont, asg, asgs]
    refine x_lc (x_wiE ?_)
    dsimp only [wSeq, wSetIx, wOp, wC, wB, wIfS, wAsg, wCB, wCons, wNil, wRet, wRetN, wAnd, wOr, wNot, wAndV, wOrV, wNotV, wIf, wTup, wLst, wBM, wNext, wExpr, wUn, wChain, wCall, wSl, wPart, wNoPart, wNever, wLkS, wStar, wStarItems, wListItems, wSumVals, wFld, wSetFld, wMake, wMeth, wCallK, wDisp, wEmp, wPairs, wLk, wBreak, wCont, asg, asgs]
    refine x_var rfl (x_var rfl ⟨by show 2 ≤ sizeLine; decide, Or.inr (Or.inl ⟨_, rfl, ?_⟩)⟩)
    refine lcS 10000 (fun i y G => ∃ p F, y = .ref p ∧ G.ob p = some (.dct true (wd (fd (srtS ((sel ws us i).map (·.1))) F))) ∧ ∀ g, 0 ≤ F g ∧ F g ≤ 10000) (fun i y G G' s ⟨p, F, h1, h2, h3⟩ => ⟨p, F, h1, s.ob _ _ h2, h3⟩) h (fun _ _ => trivial) (by show 2 ≤ 100000; decide) (fun i x G' Y hx s sa hY => ?_) (fun p L G' hp hL hP s sa => ?_)
    · obtain ⟨o, rfl, ho, hok, hi⟩ : ∃ o, x = .ref o ∧ G.ob o = some (.dct true (wd (sel ws us i))) ∧ WOk (sel ws us i) ∧ i < 2 := by
        match i, hx with
        | 0, hx => exact ⟨o1, (Option.some.inj hx).symm, d1, ok.ok1, by decide⟩
        | 1, hx => exact ⟨o2, (Option.some.inj hx).symm, d2, ok.ok2, by decide⟩
        | k + 2, hx => simp at hx
      generalize sel ws us i = vs at ho hok hY
      have hfew := hok.few
      refine ⟨_, rfl, ?_⟩
      dsimp only [wSeq, wSetIx, wOp, wC, wB, wIfS, wAsg, wCB, wCons, wNil, wRet, wRetN, wAnd, wOr, wNot, wAndV, wOrV, wNotV, wIf, wTup, wLst, wBM, wNext, wExpr, wUn, wChain, wCall, wSl, wPart, wNoPart, wNever, wLkS, wStar, wStarItems, wListItems, wSumVals, wFld, wSetFld, wMake, wMeth, wCallK, wDisp, wEmp, wPairs, wLk, wBreak, wCont, asg, asgs]
      refine x_var rfl (x_var rfl (x_var rfl (sort_dict (s.ob _ _ ho) (ks_map vs) (by rw [List.length_map]; omega) fun lg hlg => ?_)))
      have hkl : (srtS (vs.map (·.1))).length = vs.length := by rw [(srtS_perm _).length_eq, List.length_map]
      have knd : (srtS (vs.map (·.1))).Nodup := (srtS_perm _).nodup_iff.mpr hok.nd
      refine t_law_web (SA.put sa lg _) (by omega) DH.put_same knd (by omega) fun pw hs G3 hsub hpw s3 sa3 => ?_
      have wok := web_ok knd (by omega) hsub
      have s13 : Sub (fr G') G3 := Sub.frt (Sub.fr ((Sub.refl G').new hlg)) (frn hpw s3)
      rw [srtS_idem] at hsub
      refine t_law_shaken (s13.ob _ _ (s.ob _ _ ho)) (.inl ⟨pw, true, rfl, s3.ob _ _ DH.put_same⟩) HandsD.tups (fun p hp => ?_) hok.nd (by omega) fun dw hdw => ?_
      · have := wok.i p hp
        exact ⟨srt_keys_mem.mp this.1, srt_keys_mem.mp this.2.1⟩
      · have s14 := Sub.new s13 (p := dw) (o := .dct true (wd (fd (srtS (vs.map (·.1))) (cnt hs)))) hdw
        refine hY _ _ s14 (SA.mono (SA.put sa3 dw _) (by omega)) ⟨dw, cnt hs, rfl, diff_new (s13.none hdw) DH.put_same, cnt_ok (by omega) hsub⟩
    · obtain ⟨y0, y1, rfl⟩ : ∃ y0 y1, L = [y0, y1] := by
        match L, hL with
        | [y0, y1], _ => exact ⟨y0, y1, rfl⟩
      have sP : Sub (rm (diff G' G) p) G' := (rm_sub _ _).trans (diff_sub _ _)
      obtain ⟨p1, F1, rfl, e1, b1⟩ := hP 0 y0 rfl
      obtain ⟨p2, F2, rfl, e2, b2⟩ := hP 1 y1 rfl
      refine ⟨_, asg2 (SeqD.unp (.inl ⟨p, true, rfl, s.ob _ _ DH.put_same⟩)), q p1 p2 _ _ G' (ok.fd b1 b2) (sP.ob _ _ e1) (sP.ob _ _ e2) (sa.mono (by show n + _ * ((2 : Nat) : Int) ≤ _; omega))⟩
  · rw [if_neg (by simpa using hw)]
    exact q o1 o2 ws us G ok d1 d2 (h.mono (by omega))
end
end Q7

namespace Q7
open PySem PySem.Spec PyProof.Rows L2
theorem DH.put_self {G : DH} {a : Addr} {o : DO} (h : G.ob a = some o) : G.put a o = G := by
  cases G with
  | mk st ob =>
    unfold DH.put
    congr 1
    funext b
    by_cases e : b = a
    · subst e; rw [if_pos rfl]; exact h.symm
    · rw [if_neg e]
structure Kn (K : PySem.W.Frag) (w : Bool) (G : DH) (o1 o2 m1 e1 m2 e2 : Addr) (ws us : W) : Prop where
  d1 : G.ob o1 = some (.dct w (wd ws))
  d2 : G.ob o2 = some (.dct w (wd us))
  p1 : PartyAt K G m1 e1 (srtW ws)
  p2 : PartyAt K G m2 e2 (srtW us)
theorem PartyAt.fr {K : PySem.W.Frag} {G G' : DH} {a d : Addr} {ws : W} (s : Sub (Q7.fr G) G') (h : PartyAt K G a d ws) : PartyAt K G' a d ws := ⟨s.ob _ _ h.p, s.ob _ _ h.w⟩
theorem Kn.fr {K : PySem.W.Frag} {w : Bool} {G G' : DH} {o1 o2 m1 e1 m2 e2 : Addr} {ws us : W} (s : Sub (Q7.fr G) G') (h : Kn K w G o1 o2 m1 e1 m2 e2 ws us) : Kn K w G' o1 o2 m1 e1 m2 e2 ws us := ⟨s.ob _ _ h.d1, s.ob _ _ h.d2, h.p1.fr s, h.p2.fr s⟩
def kp (ws us : W) : Str := (PyData.list [pyW ws, pyW us]).shown
section
variable {K : PySem.W.Frag} {G : DH} {Q : DK} {E : DX} {EE : DEnds} {a o1 o2 m1 e1 m2 e2 : Addr} {n : Int} {w w1 w2 : Bool} {ws us : W} {z0 z1 z2 z3 z4 z5 z6 z7 z8 z9 z10 z11 z12 z13 z14 z15 z16 z17 z18 z19 z20 z21 z22 z23 z24 z25 z26 : Option D}
theorem WOk.names {ws : W} (h : WOk ws) : ∀ p ∈ ws, nameOk p.1 := fun p hp => isNm_ok (h.nm p hp)
theorem x_repr2 {l : Addr} (hl : G.ob l = some (.lst w [.ref o1, .ref o2])) (d1 : G.ob o1 = some (.dct w1 (wd ws))) (d2 : G.ob o2 = some (.dct w2 (wd us))) (ok : Ok2 ws us) (q : Q (.str (kp ws us)) G) : reprD [.ref l] G Q := by
  obtain ⟨g1, r1, s1, t1⟩ := pyW_shown ok.ok1.names ok.lo1 (by have := ok.l1; omega)
  obtain ⟨g2, r2, s2, t2⟩ := pyW_shown ok.ok2.names ok.lo2 (by have := ok.l2; omega)
  refine ⟨_, .list [pyW ws, pyW us], rfl, ⟨l, _, w, rfl, hl, ⟨_, _, rfl, DT.wd d1, ⟨_, _, rfl, DT.wd d2, rfl⟩⟩⟩, rfl, ?_, ?_, ?_, q⟩
  · simp only [PyData.showable, PyData.showableAll, s1, s2, Bool.and_self]
  · have := shown_le (.list [pyW ws, pyW us]) (by simp only [gd, gds]; exact ⟨g1, g2, trivial⟩)
    simp only [rb, rbs] at this
    have := sizeBig (Nat.le_refl 1000000)
    omega
  · simp only [PyData.depth, PyData.depthAll]
    omega
theorem tl_4 {t : Nat} (h : SA G a n) (hn : n + 400000 < big) (ok : Ok2 ws us) (d1 : G.ob o1 = some (.dct true (wd ws))) (d2 : G.ob o2 = some (.dct true (wd us)))
    (q : ∀ m1 e1 m2 e2 G', Kn K true G' o1 o2 m1 e1 m2 e2 ws us → SA G' a (n + 400000) → EE.nx [z0, some (.ref a), some (.int t), some (.ref o1), some (.ref o2), some (.ref m1), some (.ref m2), some (.str (kp ws us)), z8, z9, z10, z11, z12, z13, z14, z15, z16, z17, z18, z19, z20, z21, z22, z23, z24, z25, z26] G') : w_law_4 K EE [z0, some (.ref a), some (.int t), some (.ref o1), some (.ref o2), z5, z6, z7, z8, z9, z10, z11, z12, z13, z14, z15, z16, z17, z18, z19, z20, z21, z22, z23, z24, z25, z26] G := by
  unfold w_law_4; dsimp only [wSeq, wSetIx, wOp, wC, wB, wIfS, wAsg, wCB, wCons, wNil, wRet, wRetN, wAnd, wOr, wNot, wAndV, wOrV, wNotV, wIf, wTup, wLst, wBM, wNext, wExpr, wUn, wChain, wCall, wSl, wPart, wNoPart, wNever, wLkS, wStar, wStarItems, wListItems, wSumVals, wFld, wSetFld, wMake, wMeth, wCallK, wDisp, wEmp, wPairs, wLk, wBreak, wCont, asg, asgs]
  refine x_var rfl (x_var rfl (t_made h (by omega) d1 ok.ok1 fun m1 e1 G1 h1 s1 sa1 k1 => ?_))
  refine x_var rfl (x_var rfl (t_made sa1 (by omega) (s1.ob _ _ d2) ok.ok2 fun m2 e2 G2 h2 s2 sa2 k2 => ?_))
  refine x_var rfl (x_var rfl ⟨by show 2 ≤ sizeLine; decide, fun l hl => ?_⟩)
  have s3 : Sub (fr G) (G2.put l (.lst true [.ref o1, .ref o2])) := Sub.frt s1 (Sub.trans s2 ((Sub.refl G2).new hl))
  have s4 : Sub (fr G1) (G2.put l (.lst true [.ref o1, .ref o2])) := Sub.trans s2 ((Sub.refl G2).new hl)
  have s5 : Sub G2 (G2.put l (.lst true [.ref o1, .ref o2])) := (Sub.refl G2).new hl
  refine x_repr2 DH.put_same (s3.ob _ _ d1) (s3.ob _ _ d2) ok ⟨by show 3 ≤ sizeLine; decide, _, rfl, ?_⟩
  exact q m1 e1 m2 e2 _ ⟨s3.ob _ _ d1, s3.ob _ _ d2, k1.fr s4, k2.sub s5⟩ (SA.mono (sa2.sub s5) (by omega))
theorem items_app (ws us : W) : itemsD (wd ws) ++ itemsD (wd us) = itemsD (wd (ws ++ us)) := by unfold itemsD wd; rw [List.map_append, List.map_append]
theorem items_len (ws : W) : (itemsD (wd ws)).length = ws.length := by unfold itemsD; rw [List.length_map, wd_len]
theorem tl_5 {t : Nat} {z7 : Str} (ok : Ok2 ws us) (kn : Kn K true G o1 o2 m1 e1 m2 e2 ws us)
    (q : ∀ du G', du ≠ o1 → du ≠ o2 → G'.ob du = some (.dct true (wd (srtW (ws ++ us)))) → Sub G G' → EE.nx [z0, some (.ref a), some (.int t), some (.ref o1), some (.ref o2), some (.ref m1), some (.ref m2), some (.str z7), some (.ref du), z9, z10, z11, z12, z13, z14, z15, z16, z17, z18, z19, z20, z21, z22, z23, z24, z25, z26] G') : w_law_5 K EE [z0, some (.ref a), some (.int t), some (.ref o1), some (.ref o2), some (.ref m1), some (.ref m2), some (.str z7), z8, z9, z10, z11, z12, z13, z14, z15, z16, z17, z18, z19, z20, z21, z22, z23, z24, z25, z26] G := by
  unfold w_law_5; dsimp only [wSeq, wSetIx, wOp, wC, wB, wIfS, wAsg, wCB, wCons, wNil, wRet, wRetN, wAnd, wOr, wNot, wAndV, wOrV, wNotV, wIf, wTup, wLst, wBM, wNext, wExpr, wUn, wChain, wCall, wSl, wPart, wNoPart, wNever, wLkS, wStar, wStarItems, wListItems, wSumVals, wFld, wSetFld, wMake, wMeth, wCallK, wDisp, wEmp, wPairs, wLk, wBreak, wCont, asg, asgs]
  have h1 := ok.l1
  have h2 := ok.l2
  have hz := sizeBig (Nat.le_refl 1000000)
  refine x_var rfl ⟨o1, true, _, rfl, kn.d1, fun l1 hl1 => ?_⟩
  have s1 := (Sub.refl G).new (o := .lst true (itemsD (wd ws))) hl1
  refine x_var rfl ⟨o2, true, _, rfl, s1.ob _ _ kn.d2, fun l2 hl2 => ?_⟩
  have s2 := (Sub.refl (G.put l1 (.lst true (itemsD (wd ws))))).new (o := .lst true (itemsD (wd us))) hl2
  refine x_addL (s2.ob _ _ DH.put_same) DH.put_same (by rw [items_len, items_len]; omega) fun l3 hl3 => ?_
  rw [items_app]
  refine x_dictL DH.put_same ok.app.nd fun l4 hl4 => Or.inl ?_
  have s3 := ((s1.trans s2).new hl3 (o := .lst true (itemsD (wd (ws ++ us))))).new (o := .dct true (wd (ws ++ us))) hl4
  refine t_law_sorted DH.put_same ok.app.nd (by rw [List.length_append]; omega) fun du hdu => ⟨_, rfl, ?_⟩
  have ne : ∀ b o, G.ob b = some o → du ≠ b := fun b o hb z => by
    subst z
    rw [s3.none hdu] at hb
    cases hb
  exact q du _ (ne _ _ kn.d1) (ne _ _ kn.d2) DH.put_same (s3.new hdu)
theorem lk_frz {o : Addr} {kvs : List (Key × D)} {X : DH → Prop} {Z : Prop} (h : G.ob o = some (.dct w kvs)) (j : G.ob o = some (.dct false kvs) → X G → Z) (i : G.ob o = some (.dct true kvs) → X (G.put o (.dct false kvs)) → Z) (q : X (G.put o (.dct false kvs))) : Z := by
  cases w with
  | true => exact i h q
  | false =>
    rw [DH.put_self h] at q
    exact j h q
theorem frz_ob {b : Addr} {kvs kvs' : List (Key × D)} (h : G.ob o1 = some (.dct w kvs)) (h' : G.ob b = some (.dct w1 kvs')) : ∃ v, (G.put o1 (.dct false kvs)).ob b = some (.dct v kvs') := by
  by_cases e : b = o1
  · subst e
    rw [h] at h'
    cases h'
    exact ⟨false, DH.put_same⟩
  · exact ⟨w1, by rw [DH.put_ne e]; exact h'⟩
theorem frz_oth {b : Addr} {kvs : List (Key × D)} {o : DO} (h : G.ob o1 = some (.dct true kvs)) (h' : G.ob b = some o) (ho : ∀ kvs, o ≠ .dct true kvs) : (G.put o1 (.dct false kvs)).ob b = some o := by
  rw [DH.put_ne]
  · exact h'
  · intro z
    subst z
    rw [h] at h'
    exact ho _ (Option.some.inj h').symm
theorem frz_oth' {b : Addr} {kvs : List (Key × D)} {o : DO} (h : G.ob o1 = some (.dct w kvs)) (h' : G.ob b = some o) (ho : ∀ kvs, o = .dct w kvs → w = false) (ho' : ∀ w' kvs, o = .dct w' kvs → w' = false) : (G.put o1 (.dct false kvs)).ob b = some o := by
  by_cases e : b = o1
  · subst e
    rw [h] at h'
    have e2 := Option.some.inj h'
    rw [DH.put_same, ← e2]
    rw [ho' w kvs e2.symm]
  · rw [DH.put_ne e]; exact h'
theorem tl_6 {t : Nat} {z7 : Str} {du : Addr} (h : SA G a n) (ok : Ok2 ws us) (kn : Kn K true G o1 o2 m1 e1 m2 e2 ws us) (n1 : du ≠ o1) (n2 : du ≠ o2) (hd : G.ob du = some (.dct true (wd (srtW (ws ++ us)))))
    (q : ∀ r G', Kn K false G' o1 o2 m1 e1 m2 e2 ws us → G'.ob du = some (.dct true (wd (srtW (ws ++ us)))) → G'.ob r = some (.lst true (itemsD (wd (crW ws us)))) → SA G' a n → EE.nx [z0, some (.ref a), some (.int t), some (.ref o1), some (.ref o2), some (.ref m1), some (.ref m2), some (.str z7), some (.ref du), some (.ref r), z10, z11, z12, z13, z14, z15, z16, z17, z18, z19, z20, z21, z22, z23, z24, z25, z26] G') : w_law_6 K EE [z0, some (.ref a), some (.int t), some (.ref o1), some (.ref o2), some (.ref m1), some (.ref m2), some (.str z7), some (.ref du), z9, z10, z11, z12, z13, z14, z15, z16, z17, z18, z19, z20, z21, z22, z23, z24, z25, z26] G := by
  unfold w_law_6; dsimp only [wSeq, wSetIx, wOp, wC, wB, wIfS, wAsg, wCB, wCons, wNil, wRet, wRetN, wAnd, wOr, wNot, wAndV, wOrV, wNotV, wIf, wTup, wLst, wBM, wNext, wExpr, wUn, wChain, wCall, wSl, wPart, wNoPart, wNever, wLkS, wStar, wStarItems, wListItems, wSumVals, wFld, wSetFld, wMake, wMeth, wCallK, wDisp, wEmp, wPairs, wLk, wBreak, wCont, asg, asgs]
  have h1 := ok.l1
  have h2 := ok.l2
  have hz := sizeBig (Nat.le_refl 1000000)
  obtain ⟨v, f2⟩ := frz_ob kn.d1 kn.d2
  have np : ∀ (fs : List (Str × D)) (C : Addr) (w' : Bool) kvs, DO.ins C fs = .dct w' kvs → w' = false := fun _ _ _ _ z => nomatch z
  have nf : ∀ (k k' : List (Key × D)) (w' : Bool), DO.dct false k = .dct w' k' → w' = false := fun _ _ _ z => by cases z; rfl
  have f3 := frz_oth' kn.d1 kn.p1.p (fun _ z => nomatch z) (np _ _)
  have f4 := frz_oth' kn.d1 kn.p1.w (fun _ z => nf _ _ _ z) (fun _ _ z => nf _ _ _ z)
  have f5 := frz_oth' kn.d1 kn.p2.p (fun _ z => nomatch z) (np _ _)
  have f6 := frz_oth' kn.d1 kn.p2.w (fun _ z => nf _ _ _ z) (fun _ _ z => nf _ _ _ z)
  have f7 : (G.put o1 (.dct false (wd ws))).ob du = some (.dct true (wd (srtW (ws ++ us)))) := by rw [DH.put_ne n1]; exact hd
  have f1 : (G.put o1 (.dct false (wd ws))).ob o1 = some (.dct false (wd ws)) := DH.put_same
  have f0 : SA (G.put o1 (.dct false (wd ws))) a n := h
  refine x_lc (x_wiItems ?_)
  dsimp only [wSeq, wSetIx, wOp, wC, wB, wIfS, wAsg, wCB, wCons, wNil, wRet, wRetN, wAnd, wOr, wNot, wAndV, wOrV, wNotV, wIf, wTup, wLst, wBM, wNext, wExpr, wUn, wChain, wCall, wSl, wPart, wNoPart, wNever, wLkS, wStar, wStarItems, wListItems, wSumVals, wFld, wSetFld, wMake, wMeth, wCallK, wDisp, wEmp, wPairs, wLk, wBreak, wCont, asg, asgs]
  refine x_var rfl (lk_frz kn.d1 (fun h hs => Or.inl ⟨o1, _, rfl, h, hs⟩) (fun h hs => Or.inr ⟨o1, _, rfl, h, o1, _, rfl, DH.put_same, hs⟩) ?_)
  generalize G.put o1 (.dct false (wd ws)) = G1 at f0 f1 f2 f3 f4 f5 f6 f7 ⊢
  refine up_lc (n := us.length) f1 (by omega) (fun p G' Y s hY => ?_) (fun p1 G2 hp1 s1 => ?_)
  · dsimp only [wSeq, wSetIx, wOp, wC, wB, wIfS, wAsg, wCB, wCons, wNil, wRet, wRetN, wAnd, wOr, wNot, wAndV, wOrV, wNotV, wIf, wTup, wLst, wBM, wNext, wExpr, wUn, wChain, wCall, wSl, wPart, wNoPart, wNever, wLkS, wStar, wStarItems, wListItems, wSumVals, wFld, wSetFld, wMake, wMeth, wCallK, wDisp, wEmp, wPairs, wLk, wBreak, wCont, asg, asgs]
    refine x_var rfl (x_var rfl (x_var rfl (x_lenD (s.ob _ _ f2) (x_addI ⟨by show 2 ≤ sizeLine; decide, ?_⟩))))
    rw [wd_len]; exact hY
  have s2 : Sub G1 G2 := ((Sub.refl G1).new hp1).trans s1
  have g1 := s2.ob _ _ f1
  have g2 := s2.ob _ _ f2
  have g3 := s2.ob _ _ f3
  have g4 := s2.ob _ _ f4
  have g5 := s2.ob _ _ f5
  have g6 := s2.ob _ _ f6
  have g7 := s2.ob _ _ f7
  have g8 : G2.ob p1 = some (.lst true (itemsD (wd (upW us.length ws)))) := s1.ob _ _ DH.put_same
  have g0 : SA G2 a n := f0.sub s2
  have f1' := frz_oth' g2 g1 (fun _ z => nf _ _ _ z) (fun _ _ z => nf _ _ _ z)
  have f3' := frz_oth' g2 g3 (fun _ z => nomatch z) (np _ _)
  have f4' := frz_oth' g2 g4 (fun _ z => nf _ _ _ z) (fun _ _ z => nf _ _ _ z)
  have f5' := frz_oth' g2 g5 (fun _ z => nomatch z) (np _ _)
  have f6' := frz_oth' g2 g6 (fun _ z => nf _ _ _ z) (fun _ _ z => nf _ _ _ z)
  have f7' : (G2.put o2 (.dct false (wd us))).ob du = some (.dct true (wd (srtW (ws ++ us)))) := by rw [DH.put_ne n2]; exact g7
  have f8' := frz_oth' g2 g8 (fun _ z => nomatch z) (fun _ _ z => nomatch z)
  have f2' : (G2.put o2 (.dct false (wd us))).ob o2 = some (.dct false (wd us)) := DH.put_same
  have f0' : SA (G2.put o2 (.dct false (wd us))) a n := g0
  refine x_lc (x_wiItems ?_)
  dsimp only [wSeq, wSetIx, wOp, wC, wB, wIfS, wAsg, wCB, wCons, wNil, wRet, wRetN, wAnd, wOr, wNot, wAndV, wOrV, wNotV, wIf, wTup, wLst, wBM, wNext, wExpr, wUn, wChain, wCall, wSl, wPart, wNoPart, wNever, wLkS, wStar, wStarItems, wListItems, wSumVals, wFld, wSetFld, wMake, wMeth, wCallK, wDisp, wEmp, wPairs, wLk, wBreak, wCont, asg, asgs]
  refine x_var rfl (lk_frz g2 (fun h hs => Or.inl ⟨o2, _, rfl, h, hs⟩) (fun h hs => Or.inr ⟨o2, _, rfl, h, o2, _, rfl, DH.put_same, hs⟩) ?_)
  generalize G2.put o2 (.dct false (wd us)) = G3 at f0' f1' f2' f3' f4' f5' f6' f7' f8' ⊢
  refine up_lc (n := ws.length) f2' (by omega) (fun p G' Y s hY => ?_) (fun p2 G4 hp2 s3 => ?_)
  · dsimp only [wSeq, wSetIx, wOp, wC, wB, wIfS, wAsg, wCB, wCons, wNil, wRet, wRetN, wAnd, wOr, wNot, wAndV, wOrV, wNotV, wIf, wTup, wLst, wBM, wNext, wExpr, wUn, wChain, wCall, wSl, wPart, wNoPart, wNever, wLkS, wStar, wStarItems, wListItems, wSumVals, wFld, wSetFld, wMake, wMeth, wCallK, wDisp, wEmp, wPairs, wLk, wBreak, wCont, asg, asgs]
    refine x_var rfl (x_var rfl (x_var rfl (x_lenD (s.ob _ _ f1') (x_addI ⟨by show 2 ≤ sizeLine; decide, ?_⟩))))
    rw [wd_len]; exact hY
  have s4 : Sub G3 G4 := ((Sub.refl G3).new hp2).trans s3
  refine x_addL (s4.ob _ _ f8') (s3.ob _ _ DH.put_same) (by rw [items_len, items_len, upW_len, upW_len]; omega) fun r hr => ⟨_, rfl, ?_⟩
  rw [items_app]
  have s5 := s4.new (o := .lst true (itemsD (wd (upW us.length ws ++ upW ws.length us)))) hr
  exact q r _ ⟨s5.ob _ _ f1', s5.ob _ _ f2', ⟨s5.ob _ _ f3', s5.ob _ _ f4'⟩, ⟨s5.ob _ _ f5', s5.ob _ _ f6'⟩⟩ (s5.ob _ _ f7') DH.put_same (f0'.sub s5)
theorem tl_7 {t : Nat} {z7 : Str} {du r : Addr} (ok : Ok2 ws us) (hr : G.ob r = some (.lst true (itemsD (wd (crW ws us)))))
    (q : ∀ fa G', Sub G G' → G'.ob fa = some (.dct true (wd (srtW (crW ws us)))) → EE.nx [z0, some (.ref a), some (.int t), some (.ref o1), some (.ref o2), some (.ref m1), some (.ref m2), some (.str z7), some (.ref du), some (.ref r), some (.ref fa), z11, z12, z13, z14, z15, z16, z17, z18, z19, z20, z21, z22, z23, z24, z25, z26] G') : w_law_7 K EE [z0, some (.ref a), some (.int t), some (.ref o1), some (.ref o2), some (.ref m1), some (.ref m2), some (.str z7), some (.ref du), some (.ref r), z10, z11, z12, z13, z14, z15, z16, z17, z18, z19, z20, z21, z22, z23, z24, z25, z26] G := by
  unfold w_law_7; dsimp only [wSeq, wSetIx, wOp, wC, wB, wIfS, wAsg, wCB, wCons, wNil, wRet, wRetN, wAnd, wOr, wNot, wAndV, wOrV, wNotV, wIf, wTup, wLst, wBM, wNext, wExpr, wUn, wChain, wCall, wSl, wPart, wNoPart, wNever, wLkS, wStar, wStarItems, wListItems, wSumVals, wFld, wSetFld, wMake, wMeth, wCallK, wDisp, wEmp, wPairs, wLk, wBreak, wCont, asg, asgs]
  refine x_var rfl (x_dictL hr ok.cr.nd fun l1 hl1 => Or.inl ?_)
  have s1 := (Sub.refl G).new (o := .dct true (wd (crW ws us))) hl1
  exact t_law_sorted DH.put_same ok.cr.nd ok.cr.few fun fa hfa => ⟨_, rfl, q fa _ (s1.new hfa) DH.put_same⟩
end
end Q7

namespace Q7
open PySem PySem.Spec PyProof.Rows L2
theorem Apart.srt {ws us : W} (h : Apart ws us) : Apart (srtW ws) (srtW us) := fun g h1 h2 => by
  have e1 := ((srtW_perm ws).map (·.1)).mem_iff.mp h1
  have e2 := ((srtW_perm us).map (·.1)).mem_iff.mp h2
  exact h g e1 e2
theorem upW_perm {n : Nat} {ws us : W} (h : ws.Perm us) : (upW n ws).Perm (upW n us) := h.map _
theorem crW_perm {ws us vs ts : W} (h : ws.Perm vs) (h' : us.Perm ts) : (crW ws us).Perm (crW vs ts) := by
  unfold crW
  rw [h.length_eq, h'.length_eq]
  exact (upW_perm h).append (upW_perm h')
theorem crW_comm (ws us : W) : (crW us ws).Perm (crW ws us) := by
  unfold crW
  exact List.perm_append_comm
section
variable {K : PySem.W.Frag} {G : DH} {Q : DK} {E : DX} {EE : DEnds} {a o1 o2 m1 e1 m2 e2 : Addr} {n : Int} {w w1 w2 : Bool} {ws us : W} {z0 z1 z2 z3 z4 z5 z6 z7 z8 z9 z10 z11 z12 z13 z14 z15 z16 z17 z18 z19 z20 z21 z22 z23 z24 z25 z26 : Option D}
def AllD (G : DH) (L : List D) (ws : W) : Prop := ∀ x ∈ L, ∃ p w, x = .ref p ∧ G.ob p = some (.dct w (wd ws))
theorem AllD.sub {G' : DH} {L : List D} (s : Sub (fr G) G') (h : AllD G L ws) : AllD G' L ws := fun x hx => by
  obtain ⟨p, w, e, h⟩ := h x hx
  exact ⟨p, w, e, s.ob _ _ h⟩
theorem put_oth {b f : Addr} {o u : DO} {L : List D} (hf : G.ob f = some (.lst w L)) (hb : G.ob b = some o) (ho : ∀ w ds, o ≠ .lst w ds) : (G.put f u).ob b = some o := by
  rw [DH.put_ne]
  · exact hb
  · intro z
    subst z
    rw [hf] at hb
    exact ho _ _ (Option.some.inj hb).symm
theorem PartyAt.putL {f : Addr} {u : DO} {L : List D} (hf : G.ob f = some (.lst w L)) (h : PartyAt K G a m1 ws) : PartyAt K (G.put f u) a m1 ws := ⟨put_oth hf h.p (fun _ _ z => nomatch z), put_oth hf h.w fun _ _ z => nomatch z⟩
theorem Kn.putL {f : Addr} {u : DO} {L : List D} (hf : G.ob f = some (.lst w L)) (h : Kn K w1 G o1 o2 m1 e1 m2 e2 ws us) : Kn K w1 (G.put f u) o1 o2 m1 e1 m2 e2 ws us := ⟨put_oth hf h.d1 (fun _ _ z => nomatch z), put_oth hf h.d2 (fun _ _ z => nomatch z), h.p1.putL hf, h.p2.putL hf⟩
theorem AllD.putL {f : Addr} {u : DO} {L M : List D} (hf : G.ob f = some (.lst w L)) (h : AllD G M ws) : AllD (G.put f u) M ws := fun x hx => by
  obtain ⟨p, w, e, h⟩ := h x hx
  exact ⟨p, w, e, put_oth hf h fun _ _ z => nomatch z⟩
theorem jn_eq (ok : Ok2 ws us) : srtW (srtW ws ++ srtW us) = srtW (ws ++ us) := srtW_eq ok.app.nd ((srtW_perm ws).append (srtW_perm us))
theorem jn_eq' (ok : Ok2 ws us) : srtW (srtW us ++ srtW ws) = srtW (ws ++ us) := srtW_eq ok.app.nd (((srtW_perm us).append (srtW_perm ws)).trans List.perm_append_comm)
theorem cr_eq (ok : Ok2 ws us) : srtW (crW (srtW ws) (srtW us)) = srtW (crW ws us) := srtW_eq ok.cr.nd (crW_perm (srtW_perm ws) (srtW_perm us))
theorem cr_eq' (ok : Ok2 ws us) : srtW (crW (srtW us) (srtW ws)) = srtW (crW ws us) := srtW_eq ok.cr.nd ((crW_perm (srtW_perm us) (srtW_perm ws)).trans (crW_comm ws us))
theorem srt_len (ws : W) : (srtW ws).length = ws.length := (srtW_perm ws).length_eq
theorem k_joined (kf : KF K) (p1 : PartyAt K G m1 e1 (srtW ws)) (p2 : PartyAt K G m2 e2 (srtW us)) (ok : Ok2 ws us) (q : ∀ a d G', Sub G G' → PartyAt K G' a d (srtW (ws ++ us)) → Q (.ref a) G') : sp_joined K [.ref m1, .ref m2] G Q E :=
  t_joined kf p1 p2 ok.ok1.srt ok.ok2.srt ok.ap.srt (by rw [srt_len, srt_len]; have := ok.l1; have := ok.l2; omega) fun b d G' _ s pa => q b d G' s (jn_eq ok ▸ pa)
theorem k_crossed (kf : KF K) (p1 : PartyAt K G m1 e1 (srtW ws)) (p2 : PartyAt K G m2 e2 (srtW us)) (ok : Ok2 ws us) (q : ∀ a d G', Sub G G' → PartyAt K G' a d (srtW (crW ws us)) → Q (.ref a) G') : sp_crossed K [.ref m1, .ref m2] G Q E :=
  t_crossed kf p1 p2 ok.ok1.srt ok.ok2.srt ok.ap.srt (by rw [srt_len, srt_len]; have := ok.l1; have := ok.l2; omega) fun b d G' _ s pa => q b d G' s (cr_eq ok ▸ pa)
def wantsThen (K : PySem.W.Frag) (Q : DK) : DK := fun x G1 => ∃ a fs, x = .ref a ∧ G1.ob a = some (.ins (He.ga K "Party") fs) ∧ fs.lookup ("wants" : Str) = none ∧ sp_m_Party_wants K [x] G1 Q DX0
theorem wants_then {vs : W} (pa : PartyAt K G m1 e1 vs) (q : ∀ p w G', Sub G G' → G'.ob p = some (.dct w (wd vs)) → Q (.ref p) G') : wantsThen K Q (.ref m1) G := ⟨m1, _, rfl, pa.p, rfl, t_wants pa fun p hp w => q p w _ ((Sub.refl G).new hp) DH.put_same⟩
theorem jw (kf : KF K) (kn : Kn K w G o1 o2 m1 e1 m2 e2 ws us) (ok : Ok2 ws us) (q : ∀ p w G', Sub G G' → G'.ob p = some (.dct w (wd (srtW (ws ++ us)))) → Q (.ref p) G') : sp_joined K [.ref m1, .ref m2] G (wantsThen K Q) E :=
  k_joined kf kn.p1 kn.p2 ok fun b d G' s pa => wants_then pa fun p w G2 s2 h => q p w G2 (s.trans s2) h
theorem jw' (kf : KF K) (kn : Kn K w G o1 o2 m1 e1 m2 e2 ws us) (ok : Ok2 ws us) (q : ∀ p w G', Sub G G' → G'.ob p = some (.dct w (wd (srtW (ws ++ us)))) → Q (.ref p) G') : sp_joined K [.ref m2, .ref m1] G (wantsThen K Q) E :=
  k_joined kf kn.p2 kn.p1 ok.swap fun b d G' s pa => wants_then pa fun p w G2 s2 h => q p w G2 (s.trans s2) (by rw [h, ← jn_eq ok.swap, jn_eq' ok])
theorem cw (kf : KF K) (kn : Kn K w G o1 o2 m1 e1 m2 e2 ws us) (ok : Ok2 ws us) (q : ∀ p w G', Sub G G' → G'.ob p = some (.dct w (wd (srtW (crW ws us)))) → Q (.ref p) G') : sp_crossed K [.ref m1, .ref m2] G (wantsThen K Q) E :=
  k_crossed kf kn.p1 kn.p2 ok fun b d G' s pa => wants_then pa fun p w G2 s2 h => q p w G2 (s.trans s2) h
theorem cw' (kf : KF K) (kn : Kn K w G o1 o2 m1 e1 m2 e2 ws us) (ok : Ok2 ws us) (q : ∀ p w G', Sub G G' → G'.ob p = some (.dct w (wd (srtW (crW ws us)))) → Q (.ref p) G') : sp_crossed K [.ref m2, .ref m1] G (wantsThen K Q) E :=
  k_crossed kf kn.p2 kn.p1 ok.swap fun b d G' s pa => wants_then pa fun p w G2 s2 h => q p w G2 (s.trans s2) (by rw [h, ← cr_eq ok.swap, cr_eq' ok])
theorem allD3 {x y z : D} (hx : ∃ p w, x = .ref p ∧ G.ob p = some (.dct w (wd ws))) (hy : ∃ p w, y = .ref p ∧ G.ob p = some (.dct w (wd ws))) (hz : ∃ p w, z = .ref p ∧ G.ob p = some (.dct w (wd ws))) : AllD G [x, y, z] ws := fun u hu => by
  rcases List.mem_cons.mp hu with e | hu
  · subst e; exact hx
  rcases List.mem_cons.mp hu with e | hu
  · subst e; exact hy
  rcases List.mem_cons.mp hu with e | hu
  · subst e; exact hz
  · cases hu
theorem tl_8 {t : Nat} {z7 : Str} {du r fa : Addr} (kf : KF K) (ok : Ok2 ws us) (kn : Kn K w G o1 o2 m1 e1 m2 e2 ws us)
    (q : ∀ f L G', L.length = 3 → G'.ob f = some (.lst true L) → AllD G' L (srtW (ws ++ us)) → Sub G G' → EE.nx [z0, some (.ref a), some (.int t), some (.ref o1), some (.ref o2), some (.ref m1), some (.ref m2), some (.str z7), some (.ref du), some (.ref r), some (.ref fa), some (.ref f), z12, z13, z14, z15, z16, z17, z18, z19, z20, z21, z22, z23, z24, z25, z26] G') : w_law_8 K EE [z0, some (.ref a), some (.int t), some (.ref o1), some (.ref o2), some (.ref m1), some (.ref m2), some (.str z7), some (.ref du), some (.ref r), some (.ref fa), z11, z12, z13, z14, z15, z16, z17, z18, z19, z20, z21, z22, z23, z24, z25, z26] G := by
  unfold w_law_8; dsimp only [wSeq, wSetIx, wOp, wC, wB, wIfS, wAsg, wCB, wCons, wNil, wRet, wRetN, wAnd, wOr, wNot, wAndV, wOrV, wNotV, wIf, wTup, wLst, wBM, wNext, wExpr, wUn, wChain, wCall, wSl, wPart, wNoPart, wNever, wLkS, wStar, wStarItems, wListItems, wSumVals, wFld, wSetFld, wMake, wMeth, wCallK, wDisp, wEmp, wPairs, wLk, wBreak, wCont, asg, asgs]
  refine x_var rfl (x_var rfl (jw kf kn ok fun p1 v1 G1 s1 h1 => ?_))
  refine x_var rfl (x_var rfl ⟨rfl, rfl, jw kf (kn.fr (Sub.trans (Sub.frr G) s1)) ok fun p2 v2 G2 s2 h2 => ?_⟩)
  have s12 := s1.trans s2
  refine x_var rfl (x_var rfl (jw' kf (kn.fr (Sub.trans (Sub.frr G) s12)) ok fun p3 v3 G3 s3 h3 => ⟨by show 3 ≤ sizeLine; decide, fun f hf => ⟨_, rfl, ?_⟩⟩))
  have s4 := (Sub.refl G3).new (o := .lst true [.ref p1, .ref p2, .ref p3]) hf
  exact q f _ _ rfl DH.put_same (allD3 ⟨p1, v1, rfl, s4.ob _ _ (s3.ob _ _ (s2.ob _ _ h1))⟩ ⟨p2, v2, rfl, s4.ob _ _ (s3.ob _ _ h2)⟩ ⟨p3, v3, rfl, s4.ob _ _ h3⟩) ((s12.trans s3).trans s4)
theorem tl_9 {t : Nat} {z7 : Str} {du r fa f : Addr} {L : List D} (kf : KF K) (ok : Ok2 ws us) (kn : Kn K w G o1 o2 m1 e1 m2 e2 ws us) (hf : G.ob f = some (.lst true L)) (hL : L.length = 3) (hA : AllD G L (srtW (ws ++ us)))
    (q : ∀ M G', M.length = 3 → G'.ob f = some (.lst true (L ++ M)) → AllD G' L (srtW (ws ++ us)) → AllD G' M (srtW (crW ws us)) → (∀ b o, (∀ w ds, o ≠ .lst w ds) → G.ob b = some o → G'.ob b = some o) → G'.st = G.st → EE.nx [z0, some (.ref a), some (.int t), some (.ref o1), some (.ref o2), some (.ref m1), some (.ref m2), some (.str z7), some (.ref du), some (.ref r), some (.ref fa), some (.ref f), z12, z13, z14, z15, z16, z17, z18, z19, z20, z21, z22, z23, z24, z25, z26] G') (hst : ∃ S, G.st = some S) : w_law_9 K EE [z0, some (.ref a), some (.int t), some (.ref o1), some (.ref o2), some (.ref m1), some (.ref m2), some (.str z7), some (.ref du), some (.ref r), some (.ref fa), some (.ref f), z12, z13, z14, z15, z16, z17, z18, z19, z20, z21, z22, z23, z24, z25, z26] G := by
  unfold w_law_9; dsimp only [wSeq, wSetIx, wOp, wC, wB, wIfS, wAsg, wCB, wCons, wNil, wRet, wRetN, wAnd, wOr, wNot, wAndV, wOrV, wNotV, wIf, wTup, wLst, wBM, wNext, wExpr, wUn, wChain, wCall, wSl, wPart, wNoPart, wNever, wLkS, wStar, wStarItems, wListItems, wSumVals, wFld, wSetFld, wMake, wMeth, wCallK, wDisp, wEmp, wPairs, wLk, wBreak, wCont, asg, asgs]
  refine x_var rfl ⟨.inl ⟨rfl, f, L, rfl, ⟨true, hf⟩⟩, ?_⟩
  refine x_var rfl (x_var rfl (cw kf kn ok fun p1 v1 G1 s1 h1 => ?_))
  refine x_var rfl (x_var rfl ⟨rfl, rfl, cw kf (kn.fr (Sub.trans (Sub.frr G) s1)) ok fun p2 v2 G2 s2 h2 => ?_⟩)
  have s12 := s1.trans s2
  refine x_var rfl (x_var rfl (cw' kf (kn.fr (Sub.trans (Sub.frr G) s12)) ok fun p3 v3 G3 s3 h3 => ⟨by show 3 ≤ sizeLine; decide, fun g hg => ?_⟩))
  have s4 := (Sub.refl G3).new (o := .lst true [.ref p1, .ref p2, .ref p3]) hg
  have s := (s12.trans s3).trans s4
  have hf' := s.ob _ _ hf
  refine x_ext hf' DH.put_same (by rw [hL]; show 3 + 3 ≤ 1000000; decide) ?_
  have hM : AllD (G3.put g (.lst true [.ref p1, .ref p2, .ref p3])) [.ref p1, .ref p2, .ref p3] (srtW (crW ws us)) := allD3 ⟨p1, v1, rfl, s4.ob _ _ (s3.ob _ _ (s2.ob _ _ h1))⟩ ⟨p2, v2, rfl, s4.ob _ _ (s3.ob _ _ h2)⟩ ⟨p3, v3, rfl, s4.ob _ _ h3⟩
  obtain ⟨S, hS⟩ := hst
  exact q _ _ rfl DH.put_same ((hA.sub (Sub.trans (Sub.frr G) s)).putL hf') (hM.putL hf') (fun b o ho hb => put_oth hf' (s.ob _ _ hb) ho) ((s.st S hS).trans hS.symm)
theorem tl_10 {t : Nat} {z7 : Str} {du r fa f : Addr} {L M : List D} (ok : Ok2 ws us) (hL : L.length = 3) (hM : M.length = 3) (hf : G.ob f = some (.lst true (L ++ M))) (hA : AllD G L (srtW (ws ++ us))) (hB : AllD G M (srtW (crW ws us))) (hd : G.ob du = some (.dct true (wd (srtW (ws ++ us))))) (he : G.ob fa = some (.dct true (wd (srtW (crW ws us)))))
    (q : ∀ G', Sub G G' → EE.nx [z0, some (.ref a), some (.int t), some (.ref o1), some (.ref o2), some (.ref m1), some (.ref m2), some (.str z7), some (.ref du), some (.ref r), some (.ref fa), some (.ref f), z12, z13, z14, z15, z16, z17, z18, z19, z20, z21, z22, z23, z24, z25, z26] G') : w_law_10 K EE [z0, some (.ref a), some (.int t), some (.ref o1), some (.ref o2), some (.ref m1), some (.ref m2), some (.str z7), some (.ref du), some (.ref r), some (.ref fa), some (.ref f), z12, z13, z14, z15, z16, z17, z18, z19, z20, z21, z22, z23, z24, z25, z26] G := by
  unfold w_law_10; dsimp only [wSeq, wSetIx, wOp, wC, wB, wIfS, wAsg, wCB, wCons, wNil, wRet, wRetN, wAnd, wOr, wNot, wAndV, wOrV, wNotV, wIf, wTup, wLst, wBM, wNext, wExpr, wUn, wChain, wCall, wSl, wPart, wNoPart, wNever, wLkS, wStar, wStarItems, wListItems, wSumVals, wFld, wSetFld, wMake, wMeth, wCallK, wDisp, wEmp, wPairs, wLk, wBreak, wCont, asg, asgs]
  have h1 := ok.l1
  have h2 := ok.l2
  refine x_var rfl (x_var rfl ⟨by show 1 ≤ sizeLine; decide, fun p1 hp1 => .inr ⟨p1, 3, [.ref du], rfl, rfl, DH.put_same, by decide, by decide, by show 3 ≤ sizeLine; decide, fun p2 hp2 => ?_⟩⟩)
  have s1 := ((Sub.refl G).new (o := .lst true [.ref du]) hp1).new (o := .lst true (List.replicate (3 : Int).toNat [.ref du]).flatten) hp2
  refine x_var rfl ⟨by show 1 ≤ sizeLine; decide, fun p3 hp3 => .inr ⟨p3, 3, [.ref fa], rfl, rfl, DH.put_same, by decide, by decide, by show 3 ≤ sizeLine; decide, fun p4 hp4 => ?_⟩⟩
  have s2 := ((Sub.refl ((G.put p1 (.lst true [.ref du])).put p2 (.lst true (List.replicate (3 : Int).toNat [.ref du]).flatten))).new (o := .lst true [.ref fa]) hp3).new (o := .lst true (List.replicate (3 : Int).toNat [.ref fa]).flatten) hp4
  refine x_addL (ds := [.ref du, .ref du, .ref du]) (es := [.ref fa, .ref fa, .ref fa]) (s2.ob _ _ DH.put_same) DH.put_same (by show 6 ≤ sizeLine; decide) fun p5 hp5 => ?_
  have s3 := (s1.trans s2).new (o := .lst true ([.ref du, .ref du, .ref du] ++ [.ref fa, .ref fa, .ref fa])) hp5
  have hl1 : (srtW (ws ++ us)).length ≤ 60 := by rw [srt_len, List.length_append]; omega
  have hl2 : (srtW (crW ws us)).length ≤ 60 := by rw [srt_len]; exact ok.cr.few
  refine same_lst (n := 5) (s3.ob _ _ hf) DH.put_same (by rw [List.length_append, hL, hM]; rfl) (by show 6 ≤ 100000; decide) (fun k x y hx hy => ?_) _ _ _ (Sub.refl _) ⟨_, rfl, itF (q _ s3)⟩
  by_cases hk : k < 3
  · rw [List.getElem?_append_left (by omega)] at hx
    obtain ⟨p, v, e, hp⟩ := hA x (List.mem_of_getElem? hx)
    subst e
    have ey : y = .ref du := by
      match k, hk, hy with
      | 0, _, hy => exact (Option.some.inj hy).symm
      | 1, _, hy => exact (Option.some.inj hy).symm
      | 2, _, hy => exact (Option.some.inj hy).symm
    subst ey
    exact same_wd (n := 1) (s3.ob _ _ hp) (s3.ob _ _ hd) hl1
  · rw [List.getElem?_append_right (by omega)] at hx
    obtain ⟨p, v, e, hp⟩ := hB x (List.mem_of_getElem? hx)
    subst e
    have ey : y = .ref fa := by
      match k, hk, hy with
      | 3, _, hy => exact (Option.some.inj hy).symm
      | 4, _, hy => exact (Option.some.inj hy).symm
      | 5, _, hy => exact (Option.some.inj hy).symm
      | j + 6, _, hy => simp at hy
    subst ey
    exact same_wd (n := 1) (s3.ob _ _ hp) (s3.ob _ _ he) hl2
end
end Q7

namespace Q7
open PySem PySem.Spec PyProof.Rows L2
section
variable {K : PySem.W.Frag} {G : DH} {Q : DK} {E : DX} {EE : DEnds} {a o1 o2 m1 e1 m2 e2 : Addr} {n : Int} {w w1 w2 : Bool} {ws us : W} {z0 z1 z2 z3 z4 z5 z6 z7 z8 z9 z10 z11 z12 z13 z14 z15 z16 z17 z18 z19 z20 z21 z22 z23 z24 z25 z26 : Option D}
theorem k_can (kf : KF K) (h : PartyAt K G m1 e1 ws) (ok : WOk ws) (q : Q (.bl (blW ws)) G) : sp_can_be_drawn K [.ref m1] G Q E := t_can_be_drawn kf h ok.nd ok.nn ok.few q
theorem blW_srt (ok : WOk ws) : blW (srtW ws) = blW ws := by
  cases e : blW ws with
  | true => exact blW_perm ok ok.srt (srtW_perm ws) e
  | false =>
    cases e' : blW (srtW ws) with
    | false => rfl
    | true =>
      rw [blW_perm ok.srt ok (srtW_perm ws).symm e'] at e
      cases e
theorem tl_12 (kf : KF K) (ok : Ok2 ws us) (kn : Kn K w G o1 o2 m1 e1 m2 e2 ws us)
    (q : ∀ g G', G'.ob g = some (.lst true ([blW ws, blW us].map .bl)) → Sub G G' → EE.nx [z0, some (.ref a), z2, some (.ref o1), some (.ref o2), some (.ref m1), some (.ref m2), z7, z8, z9, z10, z11, some (.ref g), z13, z14, z15, z16, z17, z18, z19, z20, z21, z22, z23, z24, z25, z26] G') : w_law_12 K EE [z0, some (.ref a), z2, some (.ref o1), some (.ref o2), some (.ref m1), some (.ref m2), z7, z8, z9, z10, z11, z12, z13, z14, z15, z16, z17, z18, z19, z20, z21, z22, z23, z24, z25, z26] G := by
  unfold w_law_12; dsimp only [wSeq, wSetIx, wOp, wC, wB, wIfS, wAsg, wCB, wCons, wNil, wRet, wRetN, wAnd, wOr, wNot, wAndV, wOrV, wNotV, wIf, wTup, wLst, wBM, wNext, wExpr, wUn, wChain, wCall, wSl, wPart, wNoPart, wNever, wLkS, wStar, wStarItems, wListItems, wSumVals, wFld, wSetFld, wMake, wMeth, wCallK, wDisp, wEmp, wPairs, wLk, wBreak, wCont, asg, asgs]
  refine x_var rfl (k_can kf kn.p1 ok.ok1.srt (x_var rfl (k_can kf kn.p2 ok.ok2.srt ⟨by show 2 ≤ sizeLine; decide, fun g hg => ⟨_, rfl, ?_⟩⟩)))
  rw [blW_srt ok.ok1, blW_srt ok.ok2]
  exact q g _ DH.put_same ((Sub.refl G).new hg)
theorem two_true {l r : Addr} {v v' : Bool} (h : G.ob l = some (.lst v [.bl true, .bl true])) (h' : G.ob r = some (.lst v' [.bl true, .bl true])) : SameN K 6 (.ref l) (.ref r) G := by
  refine same_lst (n := 5) h h' rfl (by show 2 ≤ 100000; decide) fun k x y hx hy => ?_
  have e : x = .bl true ∧ y = .bl true := by
    match k, hx, hy with
    | 0, hx, hy => exact ⟨(Option.some.inj hx).symm, (Option.some.inj hy).symm⟩
    | 1, hx, hy => exact ⟨(Option.some.inj hx).symm, (Option.some.inj hy).symm⟩
    | j + 2, hx, hy => simp at hx
  rw [e.1, e.2]
  exact same_bl (n := 4)
theorem tl_13 {g : Addr} (kf : KF K) (ok : Ok2 ws us) (kn : Kn K w G o1 o2 m1 e1 m2 e2 ws us) (hg : G.ob g = some (.lst true ([blW ws, blW us].map .bl)))
    (q : ∀ G', Sub G G' → EE.nx [z0, some (.ref a), z2, some (.ref o1), some (.ref o2), some (.ref m1), some (.ref m2), z7, z8, z9, z10, z11, some (.ref g), z13, z14, z15, z16, z17, z18, z19, z20, z21, z22, z23, z24, z25, z26] G') : w_law_13 K EE [z0, some (.ref a), z2, some (.ref o1), some (.ref o2), some (.ref m1), some (.ref m2), z7, z8, z9, z10, z11, some (.ref g), z13, z14, z15, z16, z17, z18, z19, z20, z21, z22, z23, z24, z25, z26] G := by
  unfold w_law_13; dsimp only [wSeq, wSetIx, wOp, wC, wB, wIfS, wAsg, wCB, wCons, wNil, wRet, wRetN, wAnd, wOr, wNot, wAndV, wOrV, wNotV, wIf, wTup, wLst, wBM, wNext, wExpr, wUn, wChain, wCall, wSl, wPart, wNoPart, wNever, wLkS, wStar, wStarItems, wListItems, wSumVals, wFld, wSetFld, wMake, wMeth, wCallK, wDisp, wEmp, wPairs, wLk, wBreak, wCont, asg, asgs]
  refine x_var rfl ⟨g, [blW ws, blW us], rfl, ⟨true, hg⟩, ⟨_, rfl, ?_⟩⟩
  cases hb : List.all [blW ws, blW us] id with
  | false => exact itF (itF (q G (Sub.refl G)))
  | true =>
    have hb' : blW ws = true ∧ blW us = true := by simpa using hb
    refine itT ?_
    refine x_var rfl (x_var rfl (k_joined kf kn.p1 kn.p2 ok fun j d G1 s1 pj => k_can kf pj ok.app.srt ?_))
    have kn1 := kn.fr (Sub.trans (Sub.frr G) s1)
    refine x_var rfl (x_var rfl (k_crossed kf kn1.p1 kn1.p2 ok fun c d' G2 s2 pc => k_can kf pc ok.cr.srt ?_))
    rw [blW_join ok.ok1 ok.ok2 ok.app hb'.1 hb'.2, blW_cross ok.ok1 ok.ok2 ok.app ok.cr hb'.1 hb'.2]
    refine ⟨by show 2 ≤ sizeLine; decide, fun l hl => ⟨by show 2 ≤ sizeLine; decide, fun r hr => ?_⟩⟩
    have s3 := ((s1.trans s2).new (o := .lst true [.bl true, .bl true]) hl).new (o := .lst true [.bl true, .bl true]) hr
    have s4 := (Sub.refl (G2.put l (.lst true [.bl true, .bl true]))).new (o := .lst true [.bl true, .bl true]) hr
    refine two_true (s4.ob _ _ DH.put_same) DH.put_same _ _ _ (Sub.refl _) ⟨_, rfl, itF (q _ s3)⟩
theorem vals_at {i : Nat} {x : D} (h : ((wd ws).map (·.2))[i]? = some x) : ∃ p, ws[i]? = some p ∧ x = .int p.2 := by
  unfold wd at h
  rw [List.map_map, List.getElem?_map] at h
  obtain ⟨p, hp, e⟩ := Option.map_eq_some_iff.mp h
  exact ⟨p, hp, e.symm⟩
theorem few_lc {vs : List Nat} {δ : DEnv} {i : Nat} {o : Addr} {G1 : DH} (h : G1.ob o = some (.dct false (wd ws))) (hl : ws.length ≤ 60) {we : WE}
    (step : ∀ (z : Int) (G' : DH) (Y : DK), Sub G1 G' → Y (.bl (decide (z < (ws.length : Int)))) G' → we ((wipeD δ vs).set i (some (.int z))) G' Y)
    (q : ∀ p G2, G1.ob p = none → Sub G1 G2 → G2.ob p = some (.lst true ((ws.map fun p => decide (p.2 < (ws.length : Int))).map .bl)) → Q (.ref p) G2) :
    LcBody (.nm i) (fun _ G Q => Q true G) we vs δ Q (FrzAt o (wd ws)) ((wd ws).map (·.2)) G1 := by
  refine lcX ((ws.map fun p => decide (p.2 < (ws.length : Int))).map .bl) (fun G' s => s.ob _ _ h) (by rw [List.length_map, wd_len, List.length_map, List.length_map]) (by rw [List.length_map, List.length_map]; omega) (fun i x y G' Y hx hy s hY => ?_) fun p G2 hp s => q p G2 hp (((Sub.refl G1).new hp).trans s) (s.ob _ _ DH.put_same)
  obtain ⟨r, hr, e⟩ := vals_at hx
  subst e
  rw [List.map_map, List.getElem?_map, hr] at hy
  have ey := (Option.some.inj hy).symm
  subst ey
  exact ⟨_, rfl, step r.2 G' Y s (hY G' (Sub.refl G'))⟩
theorem all_few : List.all (ws.map fun p => decide (p.2 < (ws.length : Int))) id = true ↔ ∀ p ∈ ws, p.2 < ws.length := by
  rw [List.all_eq_true]
  simp
theorem x_neW {o e : Addr} (h : G.ob o = some (.dct w (wd ws))) (h' : G.ob e = some (.dct w1 [])) (q : Q (.bl (!ws.isEmpty)) G) : dNe (.ref o) (.ref e) G Q := by
  refine .inr (.inr ⟨o, w, wd ws, e, w1, [], pw ws, [], rfl, rfl, h, h', DTv.wd ws, rfl, pw_plain ws, (fun p hp => nomatch hp), ?_⟩)
  have : eqK (pw ws) [] = ws.isEmpty := by
    cases ws with
    | nil => rfl
    | cons p r => rfl
  rw [this, Bool.true_xor]
  exact q
theorem otW_ok (ok : WOk ws) (hv : ∀ p ∈ ws, p.2 < ws.length) : WOk (otW ws) := by
  refine ⟨fun p hp => ?_, fun p hp => ?_, ?_, by unfold otW; rw [List.length_map]; exact ok.few⟩
  · obtain ⟨r, hr, e⟩ := List.mem_map.mp hp
    subst e
    exact ok.nm r hr
  · obtain ⟨r, hr, e⟩ := List.mem_map.mp hp
    subst e
    have := hv r hr
    show (0 : Int) ≤ ws.length - 1 - r.2
    omega
  · have : (otW ws).map (·.1) = ws.map (·.1) := by unfold otW; rw [List.map_map]; rfl
    rw [this]; exact ok.nd
theorem otW_keys (ws : W) : (otW ws).map (·.1) = ws.map (·.1) := by unfold otW; rw [List.map_map]; rfl
theorem otW_len (ws : W) : (otW ws).length = ws.length := by unfold otW; rw [List.length_map]
theorem otW_perm (h : ws.Perm us) : (otW ws).Perm (otW us) := by
  unfold otW
  rw [h.length_eq]
  exact h.map _
theorem other_cross (ok : Ok2 ws us) : (srtW (otW (srtW (srtW (otW (srtW ws)) ++ srtW (otW (srtW us)))))).Perm (srtW (crW ws us)) := by
  refine (srtW_perm _).trans (List.Perm.trans ?_ (srtW_perm _).symm)
  have h1 : (srtW (srtW (otW (srtW ws)) ++ srtW (otW (srtW us)))).Perm (otW ws ++ otW us) := (srtW_perm _).trans (((srtW_perm _).trans (otW_perm (srtW_perm ws))).append ((srtW_perm _).trans (otW_perm (srtW_perm us))))
  refine (otW_perm h1).trans ?_
  have e : otW (otW ws ++ otW us) = crW ws us := by
    unfold crW
    have hl : (otW ws ++ otW us).length = ws.length + us.length := by rw [List.length_append, otW_len, otW_len]
    unfold otW at hl ⊢
    rw [hl, List.map_append, List.map_map, List.map_map]
    unfold upW
    congr 1
    · refine List.map_congr_left fun p _ => Prod.ext rfl ?_
      show ((ws.length + us.length : Nat) : Int) - 1 - (ws.length - 1 - p.2) = p.2 + us.length
      omega
    · refine List.map_congr_left fun p _ => Prod.ext rfl ?_
      show ((ws.length + us.length : Nat) : Int) - 1 - (us.length - 1 - p.2) = p.2 + ws.length
      omega
  rw [e]
theorem otW_val {ws : W} (nn : ∀ p ∈ ws, 0 ≤ p.2) : ∀ p ∈ otW ws, p.2 < ws.length := fun p hp => by
  obtain ⟨r, hr, e⟩ := List.mem_map.mp hp
  subst e
  have := nn r hr
  show (ws.length : Int) - 1 - r.2 < ws.length
  omega
theorem tl_15 (kf : KF K) (ok : Ok2 ws us) (kn : Kn K false G o1 o2 m1 e1 m2 e2 ws us)
    (q : ∀ G', Sub G G' → EE.nx [z0, some (.ref a), z2, some (.ref o1), some (.ref o2), some (.ref m1), some (.ref m2), z7, z8, z9, z10, z11, z12, z13, z14, z15, z16, z17, z18, z19, z20, z21, z22, z23, z24, z25, z26] G') : w_law_15 K EE [z0, some (.ref a), z2, some (.ref o1), some (.ref o2), some (.ref m1), some (.ref m2), z7, z8, z9, z10, z11, z12, z13, z14, z15, z16, z17, z18, z19, z20, z21, z22, z23, z24, z25, z26] G := by
  unfold w_law_15; dsimp only [wSeq, wSetIx, wOp, wC, wB, wIfS, wAsg, wCB, wCons, wNil, wRet, wRetN, wAnd, wOr, wNot, wAndV, wOrV, wNotV, wIf, wTup, wLst, wBM, wNext, wExpr, wUn, wChain, wCall, wSl, wPart, wNoPart, wNever, wLkS, wStar, wStarItems, wListItems, wSumVals, wFld, wSetFld, wMake, wMeth, wCallK, wDisp, wEmp, wPairs, wLk, wBreak, wCont, asg, asgs]
  have h1 := ok.l1
  have h2 := ok.l2
  refine x_lc (x_wiVals ?_)
  dsimp only [wSeq, wSetIx, wOp, wC, wB, wIfS, wAsg, wCB, wCons, wNil, wRet, wRetN, wAnd, wOr, wNot, wAndV, wOrV, wNotV, wIf, wTup, wLst, wBM, wNext, wExpr, wUn, wChain, wCall, wSl, wPart, wNoPart, wNever, wLkS, wStar, wStarItems, wListItems, wSumVals, wFld, wSetFld, wMake, wMeth, wCallK, wDisp, wEmp, wPairs, wLk, wBreak, wCont, asg, asgs]
  refine x_var rfl (Or.inl ⟨o1, _, rfl, kn.d1, few_lc kn.d1 (by omega) (fun z G' Y s hY => ?_) fun p G1 hp s1 ep => ?_⟩)
  · dsimp only [wSeq, wSetIx, wOp, wC, wB, wIfS, wAsg, wCB, wCons, wNil, wRet, wRetN, wAnd, wOr, wNot, wAndV, wOrV, wNotV, wIf, wTup, wLst, wBM, wNext, wExpr, wUn, wChain, wCall, wSl, wPart, wNoPart, wNever, wLkS, wStar, wStarItems, wListItems, wSumVals, wFld, wSetFld, wMake, wMeth, wCallK, wDisp, wEmp, wPairs, wLk, wBreak, wCont, asg, asgs]
    refine x_var rfl (x_var rfl (x_lenD (s.ob _ _ kn.d1) (x_ltI ?_)))
    rw [wd_len]; exact hY
  refine ⟨p, _, rfl, ⟨true, ep⟩, ⟨_, rfl, ?_⟩⟩
  by_cases hv : List.all (ws.map fun p => decide (p.2 < (ws.length : Int))) id = true
  case neg =>
    rw [Bool.not_eq_true] at hv
    rw [hv]; exact itF (itF (q _ s1))
  rw [hv]
  refine itT ?_
  have kn1 := kn.fr (Sub.trans (Sub.frr G) s1)
  refine x_lc (x_wiVals ?_)
  dsimp only [wSeq, wSetIx, wOp, wC, wB, wIfS, wAsg, wCB, wCons, wNil, wRet, wRetN, wAnd, wOr, wNot, wAndV, wOrV, wNotV, wIf, wTup, wLst, wBM, wNext, wExpr, wUn, wChain, wCall, wSl, wPart, wNoPart, wNever, wLkS, wStar, wStarItems, wListItems, wSumVals, wFld, wSetFld, wMake, wMeth, wCallK, wDisp, wEmp, wPairs, wLk, wBreak, wCont, asg, asgs]
  refine x_var rfl (Or.inl ⟨o2, _, rfl, kn1.d2, few_lc kn1.d2 (by omega) (fun z G' Y s hY => ?_) fun p' G2 hp' s2 ep' => ?_⟩)
  · dsimp only [wSeq, wSetIx, wOp, wC, wB, wIfS, wAsg, wCB, wCons, wNil, wRet, wRetN, wAnd, wOr, wNot, wAndV, wOrV, wNotV, wIf, wTup, wLst, wBM, wNext, wExpr, wUn, wChain, wCall, wSl, wPart, wNoPart, wNever, wLkS, wStar, wStarItems, wListItems, wSumVals, wFld, wSetFld, wMake, wMeth, wCallK, wDisp, wEmp, wPairs, wLk, wBreak, wCont, asg, asgs]
    refine x_var rfl (x_var rfl (x_lenD (s.ob _ _ kn1.d2) (x_ltI ?_)))
    rw [wd_len]; exact hY
  have s12 := s1.trans s2
  refine ⟨p', _, rfl, ⟨true, ep'⟩, ⟨_, rfl, ?_⟩⟩
  by_cases hv' : List.all (us.map fun p => decide (p.2 < (us.length : Int))) id = true
  case neg =>
    rw [Bool.not_eq_true] at hv'
    rw [hv']; exact itF (q _ s12)
  rw [hv']
  refine itT ?_
  have hw := all_few.mp hv
  have hu := all_few.mp hv'
  unfold w_law_16; dsimp only [wSeq, wSetIx, wOp, wC, wB, wIfS, wAsg, wCB, wCons, wNil, wRet, wRetN, wAnd, wOr, wNot, wAndV, wOrV, wNotV, wIf, wTup, wLst, wBM, wNext, wExpr, wUn, wChain, wCall, wSl, wPart, wNoPart, wNever, wLkS, wStar, wStarItems, wListItems, wSumVals, wFld, wSetFld, wMake, wMeth, wCallK, wDisp, wEmp, wPairs, wLk, wBreak, wCont, asg, asgs]
  have kn2 := kn.fr (Sub.trans (Sub.frr G) s12)
  refine x_var rfl ?_
  intro pe hpe
  refine Or.inl (x_neW (((Sub.refl _).new hpe).ob _ _ kn2.d1) DH.put_same ⟨_, rfl, ?_⟩)
  have s3 := s12.new (o := .dct true []) hpe
  cases he : ws.isEmpty with
  | true => exact itF (itF (q _ s3))
  | false =>
    refine itT ?_
    have kn3 := kn.fr (Sub.trans (Sub.frr G) s3)
    refine x_var rfl ?_
    intro pf hpf
    refine Or.inl (x_neW (((Sub.refl _).new hpf).ob _ _ kn3.d2) DH.put_same ⟨_, rfl, ?_⟩)
    have s4 := s3.new (o := .dct true []) hpf
    cases he' : us.isEmpty with
    | true => exact itF (itF (q _ s4))
    | false =>
      refine itT ?_
      have kn4 := kn.fr (Sub.trans (Sub.frr G) s4)
      have hw' : ∀ p ∈ srtW ws, p.2 < (srtW ws).length := fun p hp => by rw [srt_len]; exact hw p ((srtW_perm ws).mem_iff.mp hp)
      have hu' : ∀ p ∈ srtW us, p.2 < (srtW us).length := fun p hp => by rw [srt_len]; exact hu p ((srtW_perm us).mem_iff.mp hp)
      have okw := (otW_ok ok.ok1.srt hw').srt
      have oku := (otW_ok ok.ok2.srt hu').srt
      have l1 : (srtW (otW (srtW ws))).length = ws.length := by rw [srt_len, otW_len, srt_len]
      have l2 : (srtW (otW (srtW us))).length = us.length := by rw [srt_len, otW_len, srt_len]
      have apo : Apart (srtW (otW (srtW ws))) (srtW (otW (srtW us))) := Apart.srt fun g g1 g2 => by
        rw [otW_keys] at g1 g2
        exact ok.ap.srt g g1 g2
      have okj := okw.app oku apo (by omega)
      refine x_var rfl (t_other_party kf kn4.p1 ok.ok1.srt hw' fun b1 d1 G5 _ s5 pb1 => ?_)
      refine x_var rfl (t_other_party kf (kn4.p2.sub s5) ok.ok2.srt hu' fun b2 d2 G6 _ s6 pb2 => ?_)
      refine t_joined kf (pb1.sub s6) pb2 okw oku apo (by omega) fun b3 d3 G7 _ s7 pb3 => ?_
      refine t_other_party kf pb3 okj.srt (fun p hp => ?_) fun b4 d4 G8 _ s8 pb4 => ?_
      · have hp' := (srtW_perm _).mem_iff.mp hp
        rw [srt_len, List.length_append, l1, l2]
        rcases List.mem_append.mp hp' with hp' | hp'
        · have := otW_val ok.ok1.srt.nn p ((srtW_perm _).mem_iff.mp hp')
          rw [srt_len] at this
          omega
        · have := otW_val ok.ok2.srt.nn p ((srtW_perm _).mem_iff.mp hp')
          rw [srt_len] at this
          omega
      have s58 := ((s5.trans s6).trans s7).trans s8
      refine x_var rfl (x_var rfl (k_crossed kf (kn4.p1.sub s58) (kn4.p2.sub s58) ok fun b5 d5 G9 s9 pb5 => ?_))
      have pb4' := pb4.sub s9
      refine ⟨b4, _, b5, _, rfl, rfl, pb4'.p, pb5.p, t_eq kf pb4' pb5 ok.cr.srt.nd (other_cross ok) ⟨_, rfl, itF (q _ (s4.trans (s58.trans s9)))⟩⟩
end
end Q7

namespace Q7
open PySem PySem.Spec PyProof.Rows L2
/-! ### hands sorted -/
theorem ltH_irr (p : Hand) : ltH p p = false := by
  unfold ltH
  rw [if_pos rfl]
  have := leS_total p.2 p.2
  unfold leS at this
  cases e : strLt p.2 p.2 with
  | false => rfl
  | true => rw [e] at this; simp at this
theorem strLt_anti {x y : Str} (h : strLt x y = true) : strLt y x = false := by
  unfold strLt at h ⊢
  have h1 := of_decide_eq_true h
  exact decide_eq_false fun z => List.lt_asymm h1 z
theorem strLt_tri {x y : Str} (h : strLt x y = false) (h' : strLt y x = false) : x = y := leS_anti (by unfold leS; rw [h']; rfl) (by unfold leS; rw [h]; rfl)
theorem strLt_trans {x y z : Str} (h : strLt x y = true) (h' : strLt y z = true) : strLt x z = true := by
  unfold strLt at h h' ⊢
  exact decide_eq_true (List.lt_trans (of_decide_eq_true h) (of_decide_eq_true h'))
theorem ltH_anti {p q : Hand} (h : ltH p q = true) : ltH q p = false := by
  unfold ltH at h ⊢
  by_cases e : p.1 = q.1
  · rw [if_pos e] at h
    rw [if_pos e.symm]; exact strLt_anti h
  · rw [if_neg e] at h
    rw [if_neg fun z => e z.symm]; exact strLt_anti h
theorem ltH_tri {p q : Hand} (h : ltH p q = false) (h' : ltH q p = false) : p = q := by
  unfold ltH at h h'
  by_cases e : p.1 = q.1
  · rw [if_pos e] at h
    rw [if_pos e.symm] at h'
    exact Prod.ext e (strLt_tri h h')
  · rw [if_neg e] at h
    rw [if_neg fun z => e z.symm] at h'
    exact absurd (strLt_tri h h') e
theorem ltH_trans {p q r : Hand} (h : ltH p q = true) (h' : ltH q r = true) : ltH p r = true := by
  unfold ltH at h h' ⊢
  by_cases e : p.1 = q.1
  · rw [if_pos e] at h
    by_cases e' : q.1 = r.1
    · rw [if_pos e'] at h'
      rw [if_pos (e.trans e')]; exact strLt_trans h h'
    · rw [if_neg e'] at h'
      rw [if_neg (by rw [e]; exact e'), e]; exact h'
  · rw [if_neg e] at h
    by_cases e' : q.1 = r.1
    · rw [if_pos e'] at h'
      rw [if_neg (by rw [← e']; exact e), ← e']; exact h
    · rw [if_neg e'] at h'
      have := strLt_trans h h'
      rw [if_neg (fun z => by rw [z] at h; rw [strLt_anti h] at h'; cases h')]; exact this
theorem leH_total (p q : Hand) : (leH p q || leH q p) = true := by
  unfold leH
  cases e : ltH q p with
  | false => rfl
  | true => rw [ltH_anti e]; rfl
theorem leH_trans {p q r : Hand} (h : leH p q = true) (h' : leH q r = true) : leH p r = true := by
  unfold leH at h h' ⊢
  cases e : ltH r p with
  | false => rfl
  | true =>
    have h1 : ltH q p = false := by simpa using h
    have h2 : ltH r q = false := by simpa using h'
    cases e2 : ltH p q with
    | true => rw [ltH_trans e e2] at h2; cases h2
    | false =>
      have := ltH_tri e2 h1
      subst this
      rw [e] at h2; cases h2
theorem leH_anti {p q : Hand} (h : leH p q = true) (h' : leH q p = true) : p = q := by
  unfold leH at h h'
  exact ltH_tri (by simpa using h') (by simpa using h)
theorem srtH_perm (hs : List Hand) : (srtH hs).Perm hs := List.mergeSort_perm _ _
theorem srtH_pw (hs : List Hand) : (srtH hs).Pairwise fun p q => leH p q = true := List.pairwise_mergeSort (le := leH) (fun _ _ _ h h' => leH_trans h h') leH_total hs
theorem srtH_eq {hs is : List Hand} (h : hs.Perm is) : srtH hs = srtH is := pw_uniq (fun _ _ => leH_anti) ((srtH_perm hs).trans (h.trans (srtH_perm is).symm)) (srtH_pw hs) (srtH_pw is)
theorem srtH_lt {hs : List Hand} (nd : hs.Nodup) : (srtH hs).Pairwise fun p q => ltH p q = true := by
  have h2 : (srtH hs).Nodup := (srtH_perm hs).nodup_iff.mpr nd
  refine (List.Pairwise.and (srtH_pw hs) h2).imp fun {p q} ⟨h, ne⟩ => ?_
  unfold leH at h
  cases e : ltH p q with
  | true => rfl
  | false => exact absurd (ltH_tri e (by simpa using h)) ne
theorem pw_nodup {hs : List Hand} (h : hs.Pairwise fun p q => ltH p q = true) : hs.Nodup := h.imp fun {p q} h e => by
  subst e
  rw [ltH_irr] at h; cases h
/-! ### webs of both -/
theorem hnd_or (x y : Str) : hnd x y = (x, y) ∨ hnd x y = (y, x) := by
  unfold hnd mnS mxS
  cases e : strLt y x with
  | true => rw [strLt_anti e]; exact .inr rfl
  | false =>
    cases e' : strLt x y with
    | true => exact .inl rfl
    | false =>
      have := strLt_tri e' e
      subst this
      exact .inl rfl
theorem hnd_lt {x y : Str} (h : x ≠ y) : strLt (hnd x y).1 (hnd x y).2 = true := by
  unfold hnd mnS mxS
  cases e : strLt y x with
  | true => rw [strLt_anti e]; exact e
  | false =>
    cases e' : strLt x y with
    | true => exact e'
    | false => exact absurd (strLt_tri e' e) h
theorem hnd_inj {x y u v : Str} (h : hnd x y = hnd u v) : (x = u ∧ y = v) ∨ (x = v ∧ y = u) := by
  rcases hnd_or x y with e | e <;> rcases hnd_or u v with e' | e' <;> rw [e, e'] at h <;> cases h
  · exact .inl ⟨rfl, rfl⟩
  · exact .inr ⟨rfl, rfl⟩
  · exact .inr ⟨rfl, rfl⟩
  · exact .inl ⟨rfl, rfl⟩
theorem acrW_mem {ws us : W} {h : Hand} (m : h ∈ acrW ws us) : ∃ x y, x ∈ ws.map (·.1) ∧ y ∈ us.map (·.1) ∧ h = hnd x y := by
  unfold acrW at m
  obtain ⟨p, hp, m⟩ := List.mem_flatMap.mp m
  obtain ⟨q, hq, e⟩ := List.mem_map.mp m
  exact ⟨p.1, q.1, List.mem_map.mpr ⟨p, hp, rfl⟩, List.mem_map.mpr ⟨q, hq, rfl⟩, e.symm⟩
theorem acrW_nodup : ∀ {ws us : W}, (ws.map (·.1)).Nodup → (us.map (·.1)).Nodup → Apart ws us → (acrW ws us).Nodup
  | [], _, _, _, _ => List.nodup_nil
  | p :: ws, us, h, h', ap => by
    have e : acrW (p :: ws) us = (us.map fun q => hnd p.1 q.1) ++ acrW ws us := rfl
    rw [e, List.nodup_append]
    rw [List.map_cons, List.nodup_cons] at h
    have ap' : Apart ws us := fun g hg => ap g (List.mem_cons_of_mem _ hg)
    refine ⟨?_, acrW_nodup h.2 h' ap', fun x hx y hy z => ?_⟩
    · have : (us.map fun q => hnd p.1 q.1) = (us.map (·.1)).map (hnd p.1) := by rw [List.map_map]; rfl
      rw [this]
      refine List.pairwise_map.mpr (h'.imp_of_mem fun {a b} ha hb hab z => ?_)
      rcases hnd_inj z with ⟨_, e2⟩ | ⟨e1, e2⟩
      · exact hab e2
      · exact hab (e2.trans e1)
    · subst z
      obtain ⟨q, hq, e⟩ := List.mem_map.mp hx
      obtain ⟨u, v, hu, hv, e'⟩ := acrW_mem hy
      rcases hnd_inj (e.trans e') with ⟨e1, _⟩ | ⟨e1, _⟩
      · exact h.1 (e1 ▸ hu)
      · exact ap p.1 List.mem_cons_self (e1 ▸ hv)
theorem acrW_len : ∀ ws us : W, (acrW ws us).length = ws.length * us.length
  | [], us => by simp [acrW]
  | p :: ws, us => by
    have e : acrW (p :: ws) us = (us.map fun q => hnd p.1 q.1) ++ acrW ws us := rfl
    rw [e, List.length_append, List.length_map, acrW_len ws us, List.length_cons, Nat.add_mul]
    omega
theorem fm_perm {α β : Type} {f g : α → List β} (h : ∀ a, (f a).Perm (g a)) : ∀ l : List α, (l.flatMap f).Perm (l.flatMap g)
  | [] => List.Perm.refl _
  | x :: l => by
    rw [List.flatMap_cons, List.flatMap_cons]
    exact (h x).append (fm_perm h l)
theorem acrW_perm {ws us vs ts : W} (h : ws.Perm vs) (h' : us.Perm ts) : (acrW ws us).Perm (acrW vs ts) := by
  unfold acrW
  refine (h.flatMap_right _).trans ?_
  exact fm_perm (fun p => h'.map _) vs
structure Two (ws us : W) (hs is : List Hand) : Prop where
  s1 : hs.Sublist (prs (srtS (ws.map (·.1))))
  s2 : is.Sublist (prs (srtS (us.map (·.1))))
theorem Two.web1 {ws us : W} {hs is : List Hand} (h : Two ws us hs is) (ok : Ok2 ws us) : WebOk (ws.map (·.1)) hs := web_ok ok.ok1.nd (by rw [List.length_map]; have := ok.l1; omega) h.s1
theorem Two.web2 {ws us : W} {hs is : List Hand} (h : Two ws us hs is) (ok : Ok2 ws us) : WebOk (us.map (·.1)) is := web_ok ok.ok2.nd (by rw [List.length_map]; have := ok.l2; omega) h.s2
theorem prs36 {ws : W} {hs : List Hand} (hl : ws.length ≤ 6) (h : hs.Sublist (prs (srtS (ws.map (·.1))))) : hs.length ≤ 3600 := by
  have h1 := h.length_le
  have h2 : (srtS (ws.map (·.1))).length = ws.length := by rw [(srtS_perm _).length_eq, List.length_map]
  have := prs_len (gs := srtS (ws.map (·.1))) (by omega)
  omega
theorem WebOk.keys {ks ks' : List Str} {hs : List Hand} (h : WebOk ks hs) (e : ∀ g, g ∈ ks → g ∈ ks') : WebOk ks' hs := ⟨fun p hp => ⟨e _ (h.i p hp).1, e _ (h.i p hp).2.1, (h.i p hp).2.2⟩, h.r, h.few⟩
theorem Two.nd {ws us : W} {hs is : List Hand} (h : Two ws us hs is) (ok : Ok2 ws us) : (hs ++ is).Nodup := by
  have w1 := h.web1 ok
  have w2 := h.web2 ok
  refine List.nodup_append.mpr ⟨pw_nodup w1.r, pw_nodup w2.r, fun x hx y hy e => ?_⟩
  subst e
  exact ok.ap _ (w1.i x hx).1 (w2.i x hy).1
theorem Two.joined {ws us : W} {hs is : List Hand} (h : Two ws us hs is) (ok : Ok2 ws us) {ks : List Str} (hk : ∀ g, g ∈ ks ↔ g ∈ ws.map (·.1) ∨ g ∈ us.map (·.1)) : WebOk ks (srtH (hs ++ is)) := by
  have w1 := h.web1 ok
  have w2 := h.web2 ok
  have l1 := prs36 ok.l1 h.s1
  have l2 := prs36 ok.l2 h.s2
  refine ⟨fun p hp => ?_, srtH_lt (h.nd ok), by rw [(srtH_perm _).length_eq, List.length_append]; omega⟩
  rcases List.mem_append.mp ((srtH_perm _).mem_iff.mp hp) with hp | hp
  · have := w1.i p hp
    exact ⟨(hk _).mpr (.inl this.1), (hk _).mpr (.inl this.2.1), this.2.2⟩
  · have := w2.i p hp
    exact ⟨(hk _).mpr (.inr this.1), (hk _).mpr (.inr this.2.1), this.2.2⟩
theorem Two.crossed {ws us : W} {hs is : List Hand} (h : Two ws us hs is) (ok : Ok2 ws us) {ks : List Str} (hk : ∀ g, g ∈ ks ↔ g ∈ ws.map (·.1) ∨ g ∈ us.map (·.1)) : WebOk ks (srtH (hs ++ is ++ acrW ws us)) := by
  have w1 := h.web1 ok
  have w2 := h.web2 ok
  have l1 := prs36 ok.l1 h.s1
  have l2 := prs36 ok.l2 h.s2
  have hl : (acrW ws us).length ≤ 36 := by rw [acrW_len]; exact Nat.mul_le_mul ok.l1 ok.l2
  have ne : ∀ p ∈ acrW ws us, ∃ x y, x ∈ ws.map (·.1) ∧ y ∈ us.map (·.1) ∧ p = hnd x y ∧ x ≠ y := fun p hp => by
    obtain ⟨x, y, hx, hy, e⟩ := acrW_mem hp
    exact ⟨x, y, hx, hy, e, fun z => ok.ap x hx (z ▸ hy)⟩
  refine ⟨fun p hp => ?_, srtH_lt (List.nodup_append.mpr ⟨h.nd ok, acrW_nodup ok.ok1.nd ok.ok2.nd ok.ap, fun x hx y hy e => ?_⟩), by rw [(srtH_perm _).length_eq, List.length_append, List.length_append]; omega⟩
  · rcases List.mem_append.mp ((srtH_perm _).mem_iff.mp hp) with hp | hp
    · rcases List.mem_append.mp hp with hp | hp
      · have := w1.i p hp
        exact ⟨(hk _).mpr (.inl this.1), (hk _).mpr (.inl this.2.1), this.2.2⟩
      · have := w2.i p hp
        exact ⟨(hk _).mpr (.inr this.1), (hk _).mpr (.inr this.2.1), this.2.2⟩
    · obtain ⟨x, y, hx, hy, e, n⟩ := ne p hp
      subst e
      refine ⟨?_, ?_, hnd_lt n⟩ <;> rcases hnd_or x y with e | e <;> rw [e]
      · exact (hk _).mpr (.inl hx)
      · exact (hk _).mpr (.inr hy)
      · exact (hk _).mpr (.inr hy)
      · exact (hk _).mpr (.inl hx)
  · subst e
    obtain ⟨u, v, hu, hv, e, n⟩ := ne x hy
    rcases List.mem_append.mp hx with hx | hx
    · have h1 := (w1.i x hx)
      rcases hnd_or u v with e' | e' <;> rw [e, e'] at h1
      · exact ok.ap v h1.2.1 hv
      · exact ok.ap v h1.1 hv
    · have h1 := (w2.i x hx)
      rcases hnd_or u v with e' | e' <;> rw [e, e'] at h1
      · exact ok.ap u hu h1.1
      · exact ok.ap u hu h1.2.1
theorem cnt_out {hs : List Hand} {g : Str} (h : ∀ p ∈ hs, p.1 ≠ g ∧ p.2 ≠ g) : cnt hs g = 0 := by
  unfold cnt
  rw [List.countP_eq_zero.mpr fun p hp => by simpa using (h p hp).1, List.countP_eq_zero.mpr fun p hp => by simpa using (h p hp).2]
  rfl
theorem cnt_hnd {x y g : Str} (h : x ≠ y) : cnt [hnd x y] g = (if g = x then 1 else 0) + (if g = y then 1 else 0) := by
  have e := cnt_snoc [] (hnd x y) g
  rw [List.nil_append] at e
  rw [e, cnt_nil]
  rcases hnd_or x y with e' | e' <;> rw [e'] <;> dsimp only <;> omega
theorem cnt_cons (h : Hand) (hs : List Hand) (g : Str) : cnt (h :: hs) g = cnt [h] g + cnt hs g := cnt_app [h] hs g
theorem cnt_row {x g : Str} : ∀ {us : W}, x ∉ us.map (·.1) → (us.map (·.1)).Nodup → cnt (us.map fun q => hnd x q.1) g = (if g = x then (us.length : Int) else 0) + if g ∈ us.map (·.1) then 1 else 0
  | [], _, _ => by simp [cnt_nil]
  | q :: us, h, nd => by
    rw [List.map_cons, List.mem_cons, not_or] at h
    rw [List.map_cons, List.nodup_cons] at nd
    rw [List.map_cons, cnt_cons, cnt_hnd h.1, cnt_row h.2 nd.2, List.map_cons, List.length_cons]
    by_cases e1 : g = x
    · rw [if_pos e1, if_pos e1, if_pos e1, if_neg (by rw [e1]; exact h.1), if_neg (by rw [e1]; exact h.2), if_neg (by rw [e1, List.mem_cons, not_or]; exact h)]
      omega
    · rw [if_neg e1, if_neg e1, if_neg e1]
      by_cases e2 : g = q.1
      · rw [if_pos e2, if_neg (by rw [e2]; exact nd.1), if_pos (by rw [e2]; exact List.mem_cons_self)]
        omega
      · rw [if_neg e2]
        by_cases e3 : g ∈ us.map (·.1)
        · rw [if_pos e3, if_pos (List.mem_cons_of_mem _ e3)]; omega
        · rw [if_neg e3, if_neg (by rw [List.mem_cons, not_or]; exact ⟨e2, e3⟩)]; omega
theorem cnt_acr {g : Str} : ∀ {ws us : W}, (ws.map (·.1)).Nodup → (us.map (·.1)).Nodup → Apart ws us → cnt (acrW ws us) g = (if g ∈ ws.map (·.1) then (us.length : Int) else 0) + if g ∈ us.map (·.1) then (ws.length : Int) else 0
  | [], us, _, _, _ => by simp [acrW, cnt_nil]
  | p :: ws, us, h, h', ap => by
    have e : acrW (p :: ws) us = (us.map fun q => hnd p.1 q.1) ++ acrW ws us := rfl
    rw [List.map_cons, List.nodup_cons] at h
    have ap' : Apart ws us := fun g hg => ap g (List.mem_cons_of_mem _ hg)
    have hp := ap p.1 List.mem_cons_self
    rw [e, cnt_app, cnt_row hp h', cnt_acr h.2 h' ap', List.map_cons, List.length_cons]
    by_cases e1 : g = p.1
    · subst e1
      simp only [hp, h.1, List.mem_cons, if_true, if_false, true_or]
      omega
    · by_cases e2 : g ∈ ws.map (·.1)
      · have e3 := ap' g e2
        simp only [e1, e2, e3, List.mem_cons, if_true, if_false, or_true]
        omega
      · by_cases e3 : g ∈ us.map (·.1)
        · simp only [e1, e2, e3, List.mem_cons, if_true, if_false, or_false]
          omega
        · simp only [e1, e2, e3, List.mem_cons, if_false, or_false]
          omega
end Q7

namespace Q7
open PySem PySem.Spec PyProof.Rows L2
mutual
theorem DT.mono {G G' : DH} (s : ∀ a o, G.ob a = some o → G'.ob a = some o) : ∀ (p : PyData) (d : D), DT G p d → DT G' p d
  | .none, _, h => h
  | .bool _, _, h => h
  | .int _, _, h => h
  | .str _, _, h => h
  | .list ps, d, h => by
    obtain ⟨a, ds, w, e, h1, h2⟩ := h
    exact ⟨a, ds, w, e, s _ _ h1, DTs.mono s ps ds h2⟩
  | .tuple ps, d, h => by
    obtain ⟨ds, e, h2⟩ := h
    exact ⟨ds, e, DTs.mono s ps ds h2⟩
  | .dict kvs, d, h => by
    obtain ⟨a, w, ks, e, h1, h2⟩ := h
    exact ⟨a, w, ks, e, s _ _ h1, DTk.mono s kvs ks h2⟩
theorem DTs.mono {G G' : DH} (s : ∀ a o, G.ob a = some o → G'.ob a = some o) : ∀ (ps : List PyData) (ds : List D), DTs G ps ds → DTs G' ps ds
  | [], _, h => h
  | p :: ps, ds, h => by
    obtain ⟨d, r, e, h1, h2⟩ := h
    exact ⟨d, r, e, DT.mono s p d h1, DTs.mono s ps r h2⟩
theorem DTk.mono {G G' : DH} (s : ∀ a o, G.ob a = some o → G'.ob a = some o) : ∀ (ps : List (PyData × PyData)) (ds : List (Key × D)), DTk G ps ds → DTk G' ps ds
  | [], _, h => h
  | (k, v) :: ps, ds, h => by
    obtain ⟨k', d, r, e, h0, h1, h2⟩ := h
    exact ⟨k', d, r, e, h0, DT.mono s v d h1, DTk.mono s ps r h2⟩
end
/-- what a repr is taken of -/
structure Shw (B T : Nat) (p : PyData) : Prop where
  g : gd p
  r : rb p ≤ B
  s : p.showable = true
  t : p.depth ≤ T
theorem dts_of {G : DH} {P : PyData → Prop} : ∀ {L : List D}, (∀ d ∈ L, ∃ p, DT G p d ∧ P p) → ∃ ps, DTs G ps L ∧ (∀ p ∈ ps, P p) ∧ ps.length = L.length
  | [], _ => ⟨[], rfl, (fun _ h => nomatch h), rfl⟩
  | d :: L, h => by
    obtain ⟨p, h1, h2⟩ := h d List.mem_cons_self
    obtain ⟨ps, h3, h4, h5⟩ := dts_of (L := L) fun x hx => h x (List.mem_cons_of_mem _ hx)
    refine ⟨p :: ps, ⟨d, L, rfl, h1, h3⟩, fun q hq => ?_, by rw [List.length_cons, List.length_cons, h5]⟩
    rcases List.mem_cons.mp hq with e | hq
    · subst e; exact h2
    · exact h4 q hq
theorem seq_py {G : DH} {x : D} {L : List D} {ps : List PyData} (h : SeqD x L G) (hp : DTs G ps L) : ∃ p, DT G p (x) ∧ (p = .list ps ∨ p = .tuple ps) := by
  rcases h with ⟨a, w, e, h⟩ | e
  · exact ⟨.list ps, ⟨a, L, w, e, h, hp⟩, .inl rfl⟩
  · exact ⟨.tuple ps, ⟨L, e, hp⟩, .inr rfl⟩
theorem shw_seq {B T M : Nat} {ps : List PyData} {p : PyData} (h : ∀ q ∈ ps, Shw B T q) (hl : ps.length ≤ M) (e : p = .list ps ∨ p = .tuple ps) : Shw (3 + M * (B + 2)) (T + 1) p := by
  have h1 := rbs_le (M := B) (ps := ps) fun q hq => (h q hq).r
  have h2 : ps.length * (B + 2) ≤ M * (B + 2) := Nat.mul_le_mul_right _ hl
  have h3 := depthAll_le (M := T) (ps := ps) fun q hq => (h q hq).t
  have h4 := gds_of (ps := ps) fun q hq => (h q hq).g
  have h5 := showableAll_of (ps := ps) fun q hq => (h q hq).s
  rcases e with e | e <;> subst e
  · exact ⟨by simp only [gd]; exact h4, by simp only [rb]; omega, by simp only [PyData.showable]; exact h5, by simp only [PyData.depth]; omega⟩
  · exact ⟨by simp only [gd]; exact h4, by simp only [rb]; omega, by simp only [PyData.showable]; exact h5, by simp only [PyData.depth]; omega⟩
theorem shw_str {z : Str} (h : nameOk z) : Shw 202 0 (.str z) := ⟨gd_name h, rb_name h, by simp only [PyData.showable], by simp only [PyData.depth]; exact Nat.le_refl _⟩
theorem hand_py {G : DH} {d : D} {h : Hand} (e : handOf G d = some h) (n1 : nameOk h.1) (n2 : nameOk h.2) : ∃ p, DT G p d ∧ Shw 411 1 p := by
  obtain ⟨p, h1, h2⟩ := seq_py (ps := [.str h.1, .str h.2]) (seq_unp (handOf_unp e)) ⟨_, _, rfl, rfl, _, _, rfl, rfl, rfl⟩
  refine ⟨p, h1, shw_seq (B := 202) (T := 0) (M := 2) (ps := [.str h.1, .str h.2]) (fun q hq => ?_) (Nat.le_refl 2) h2⟩
  rcases List.mem_cons.mp hq with e | hq
  · subst e; exact shw_str n1
  rcases List.mem_cons.mp hq with e | hq
  · subst e; exact shw_str n2
  · cases hq
theorem hands_py {G : DH} {x : D} {L : List D} {hs : List Hand} (hx : SeqD x L G) (hd : HandsD L hs G) (hn : ∀ h ∈ hs, nameOk h.1 ∧ nameOk h.2) (hl : hs.length ≤ 3600) : ∃ p, DT G p x ∧ Shw (3 + 3600 * 413) 2 p := by
  obtain ⟨ps, h1, h2, h3⟩ := dts_of (G := G) (P := Shw 411 1) (L := L) fun d hm => by
    obtain ⟨i, hi, e⟩ := List.getElem_of_mem hm
    obtain ⟨h, h4, h5⟩ := hd.at (i := i) (d := d) (by rw [List.getElem?_eq_getElem hi, e])
    have := hn h (List.mem_of_getElem? h4)
    exact hand_py h5 this.1 this.2
  obtain ⟨p, h4, h5⟩ := seq_py hx h1
  exact ⟨p, h4, shw_seq h2 (by rw [h3, hd.length]; exact hl) h5⟩
theorem x_repr {G : DH} {Q : DK} {x : D} {p : PyData} {B T : Nat} (h : DT G p x) (hs : Shw B T p) (hc : isCont p = true) (hB : B ≤ 16000000) (hT : T ≤ 60) (q : Q (.str p.shown) G) : reprD [x] G Q :=
  ⟨x, p, rfl, h, hc, hs.s, by have := shown_le p hs.g; have := hs.r; rw [sizeLine_eq]; omega, by have := hs.t; omega, q⟩
section
variable {K : PySem.W.Frag} {G : DH} {Q : DK} {E : DX} {EE : DEnds} {R : WS} {a o1 o2 m1 e1 m2 e2 p1 p2 pa : Addr} {n : Int} {w w1 w2 : Bool} {ws us : W} {hs is : List Hand} {z0 z1 z2 z3 z4 z5 z6 z7 z8 z9 z10 z11 z12 z13 z14 z15 z16 z17 z18 z19 z20 z21 z22 z23 z24 z25 z26 : Option D}
theorem same_web {n : Nat} {l r : Addr} (h : G.ob l = some (.lst w (hs.map hD))) (h' : G.ob r = some (.lst w1 (hs.map hD))) (hz : hs.length ≤ 100000) : SameN K (n + 3) (.ref l) (.ref r) G := by
  refine same_lst (n := n + 2) h h' rfl (by rw [List.length_map]; exact hz) fun k x y hx hy => ?_
  rw [hx] at hy
  have e := Option.some.inj hy
  subst e
  rw [List.getElem?_map] at hx
  obtain ⟨p, _, e⟩ := Option.map_eq_some_iff.mp hx
  subst e
  refine same_tup (n := n + 1) rfl (by show 2 ≤ 100000; decide) fun k x y hx hy => ?_
  rw [hx] at hy
  have e := Option.some.inj hy
  subst e
  match k, hx with
  | 0, hx =>
    have e := Option.some.inj hx
    subst e
    exact same_str
  | 1, hx =>
    have e := Option.some.inj hx
    subst e
    exact same_str
  | j + 2, hx => simp at hx
theorem tl_19 (h : SA G a n) (hn : n + 30000 < big) (ok : Ok2 ws us) (kn : Kn K w G o1 o2 m1 e1 m2 e2 ws us)
    (q : ∀ p1 p2 hs is G', Two ws us hs is → G'.ob p1 = some (.lst true (hs.map hD)) → G'.ob p2 = some (.lst true (is.map hD)) → Sub (fr G) G' → SA G' a (n + 30000) → EE.nx [z0, some (.ref a), z2, some (.ref o1), some (.ref o2), some (.ref m1), some (.ref m2), z7, z8, z9, z10, z11, z12, z13, some (.ref p1), some (.ref p2), z16, z17, z18, z19, z20, z21, z22, z23, z24, z25, z26] G') : w_law_19 K EE [z0, some (.ref a), z2, some (.ref o1), some (.ref o2), some (.ref m1), some (.ref m2), z7, z8, z9, z10, z11, z12, z13, z14, z15, z16, z17, z18, z19, z20, z21, z22, z23, z24, z25, z26] G := by
  unfold w_law_19; dsimp only [wSeq, wSetIx, wOp, wC, wB, wIfS, wAsg, wCB, wCons, wNil, wRet, wRetN, wAnd, wOr, wNot, wAndV, wOrV, wNotV, wIf, wTup, wLst, wBM, wNext, wExpr, wUn, wChain, wCall, wSl, wPart, wNoPart, wNever, wLkS, wStar, wStarItems, wListItems, wSumVals, wFld, wSetFld, wMake, wMeth, wCallK, wDisp, wEmp, wPairs, wLk, wBreak, wCont, asg, asgs]
  have h1 := ok.l1
  have h2 := ok.l2
  have kl : ∀ ws : W, (srtS (ws.map (·.1))).length = ws.length := fun ws => by rw [(srtS_perm _).length_eq, List.length_map]
  refine x_var rfl (x_var rfl (sort_dict kn.d1 (ks_map ws) (by rw [List.length_map]; omega) fun l1 hl1 => ?_))
  refine t_law_web (SA.put h l1 _) (by omega) DH.put_same ((srtS_perm _).nodup_iff.mpr ok.ok1.nd) (by rw [kl]; omega) fun p1 hs G1 t1 hp1 s1 sa1 => ?_
  have s01 : Sub (fr G) G1 := Sub.frt (Sub.fr ((Sub.refl G).new hl1)) (frn hp1 s1)
  have kn1 := kn.fr s01
  refine x_var rfl (x_var rfl (sort_dict kn1.d2 (ks_map us) (by rw [List.length_map]; omega) fun l2 hl2 => ?_))
  refine t_law_web (SA.put sa1 l2 _) (by omega) DH.put_same ((srtS_perm _).nodup_iff.mpr ok.ok2.nd) (by rw [kl]; omega) fun p2 is G2 t2 hp2 s2 sa2 => ⟨by show 2 ≤ sizeLine; decide, _, rfl, ?_⟩
  have s12 : Sub (fr G1) G2 := Sub.frt (Sub.fr ((Sub.refl G1).new hl2)) (frn hp2 s2)
  rw [srtS_idem] at t1 t2
  exact q p1 p2 hs is G2 ⟨t1, t2⟩ (s12.ob _ _ (s1.ob _ _ DH.put_same)) (s2.ob _ _ DH.put_same) (Sub.frt s01 s12) (sa2.mono (by omega))
theorem acr_take {t : Nat} {p : Str × Int} (e : ws[t]? = some p) : acrW (ws.take (t + 1)) us = acrW (ws.take t) us ++ us.map fun q => hnd p.1 q.1 := by
  unfold acrW
  rw [List.take_add_one, e, List.flatMap_append]
  simp
theorem tl_20 {rt : DK} {bk ct : DEnv → DH → Prop} (ok : Ok2 ws us) (kn : Kn K false G o1 o2 m1 e1 m2 e2 ws us)
    (q : ∀ pa z17 G', Sub G G' → G'.ob pa = some (.lst true ((acrW ws us).map hD)) → EE.nx [z0, some (.ref a), z2, some (.ref o1), some (.ref o2), some (.ref m1), some (.ref m2), z7, z8, z9, z10, z11, z12, z13, some (.ref p1), some (.ref p2), some (.ref pa), z17, z18, z19, z20, z21, z22, z23, z24, z25, z26] G') : w_law_20 K { nx := fun δ G => w_law_21 K EE δ G, rt := rt, bk := bk, ct := ct } [z0, some (.ref a), z2, some (.ref o1), some (.ref o2), some (.ref m1), some (.ref m2), z7, z8, z9, z10, z11, z12, z13, some (.ref p1), some (.ref p2), z16, z17, z18, z19, z20, z21, z22, z23, z24, z25, z26] G := by
  have h1 := ok.l1
  have h2 := ok.l2
  have hM : ∀ t, (acrW (ws.take t) us).length ≤ 36 := fun t => by
    rw [acrW_len, List.length_take]
    have : min t ws.length * us.length ≤ 6 * 6 := Nat.mul_le_mul (by omega) h2
    omega
  unfold w_law_20 w_law_21
  dsimp only [wSeq, wSetIx, wOp, wC, wB, wIfS, wAsg, wCB, wCons, wNil, wRet, wRetN, wAnd, wOr, wNot, wAndV, wOrV, wNotV, wIf, wTup, wLst, wBM, wNext, wExpr, wUn, wChain, wCall, wSl, wPart, wNoPart, wNever, wLkS, wStar, wStarItems, wListItems, wSumVals, wFld, wSetFld, wMake, wMeth, wCallK, wDisp, wEmp, wPairs, wLk, wBreak, wCont, asg, asgs]
  refine ⟨by show 0 ≤ sizeLine; omega, fun pa hpa => ⟨_, rfl, ?_⟩⟩
  have s0 := (Sub.refl G).new (o := .lst true []) hpa
  have kn0 := kn.fr (Sub.trans (Sub.frr G) s0)
  refine x_for (x_wiE ?_)
  dsimp only [wSeq, wSetIx, wOp, wC, wB, wIfS, wAsg, wCB, wCons, wNil, wRet, wRetN, wAnd, wOr, wNot, wAndV, wOrV, wNotV, wIf, wTup, wLst, wBM, wNext, wExpr, wUn, wChain, wCall, wSl, wPart, wNoPart, wNever, wLkS, wStar, wStarItems, wListItems, wSumVals, wFld, wSetFld, wMake, wMeth, wCallK, wDisp, wEmp, wPairs, wLk, wBreak, wCont, asg, asgs]
  refine x_var rfl (Or.inl (Or.inr (Or.inr (Or.inr ⟨o1, _, rfl, kn0.d1, ?_⟩))))
  rw [wd_ks]
  refine ⟨fun t δ' G' => ∃ z17, δ' = [z0, some (.ref a), z2, some (.ref o1), some (.ref o2), some (.ref m1), some (.ref m2), z7, z8, z9, z10, z11, z12, z13, some (.ref p1), some (.ref p2), some (.ref pa), z17, z18, z19, z20, z21, z22, z23, z24, z25, z26] ∧ Sub (G.put pa (.lst true ((acrW (ws.take t) us).map hD))) G', ⟨z17, rfl, by rw [List.take_zero]; exact Sub.refl _⟩, ?_, ?_, ?_⟩
  · rintro t δ' G' ⟨z17, rfl, s⟩
    exact s.ob _ _ (((Sub.refl G).new hpa).ob _ _ kn.d1)
  · rintro t y δ' G' hy ⟨z17, rfl, s⟩
    rw [List.getElem?_map] at hy
    obtain ⟨p, hp, e⟩ := Option.map_eq_some_iff.mp hy
    subst e
    refine ⟨_, rfl, ?_⟩
    unfold w_law_22; dsimp only [wSeq, wSetIx, wOp, wC, wB, wIfS, wAsg, wCB, wCons, wNil, wRet, wRetN, wAnd, wOr, wNot, wAndV, wOrV, wNotV, wIf, wTup, wLst, wBM, wNext, wExpr, wUn, wChain, wCall, wSl, wPart, wNoPart, wNever, wLkS, wStar, wStarItems, wListItems, wSumVals, wFld, wSetFld, wMake, wMeth, wCallK, wDisp, wEmp, wPairs, wLk, wBreak, wCont, asg, asgs]
    have sG : Sub G G' := ((Sub.refl G).new hpa).trans s
    have kn1 := kn.fr (Sub.trans (Sub.frr G) sG)
    refine x_var rfl ⟨.inl ⟨rfl, pa, _, rfl, ⟨true, s.ob _ _ DH.put_same⟩⟩, ?_⟩
    refine x_lc (x_wiE ?_)
    dsimp only [wSeq, wSetIx, wOp, wC, wB, wIfS, wAsg, wCB, wCons, wNil, wRet, wRetN, wAnd, wOr, wNot, wAndV, wOrV, wNotV, wIf, wTup, wLst, wBM, wNext, wExpr, wUn, wChain, wCall, wSl, wPart, wNoPart, wNever, wLkS, wStar, wStarItems, wListItems, wSumVals, wFld, wSetFld, wMake, wMeth, wCallK, wDisp, wEmp, wPairs, wLk, wBreak, wCont, asg, asgs]
    refine x_var rfl (Or.inl (Or.inr (Or.inr (Or.inr ⟨o2, _, rfl, kn1.d2, ?_⟩))))
    rw [wd_ks]
    refine lcX ((us.map fun q => hnd p.1 q.1).map hD) (fun G' s => s.ob _ _ kn1.d2) (by rw [List.length_map, List.length_map, List.length_map]) (by rw [List.length_map, List.length_map]; omega) (fun j y z G3 Y hy hz s3 hY => ?_) (fun pq G2 hpq s2 => ?_)
    · rw [List.getElem?_map] at hy
      obtain ⟨r, hr, e⟩ := Option.map_eq_some_iff.mp hy
      subst e
      rw [List.map_map, List.getElem?_map, hr] at hz
      have ez := (Option.some.inj hz).symm
      subst ez
      refine ⟨_, rfl, ?_⟩
      dsimp only [wSeq, wSetIx, wOp, wC, wB, wIfS, wAsg, wCB, wCons, wNil, wRet, wRetN, wAnd, wOr, wNot, wAndV, wOrV, wNotV, wIf, wTup, wLst, wBM, wNext, wExpr, wUn, wChain, wCall, wSl, wPart, wNoPart, wNever, wLkS, wStar, wStarItems, wListItems, wSumVals, wFld, wSetFld, wMake, wMeth, wCallK, wDisp, wEmp, wPairs, wLk, wBreak, wCont, asg, asgs]
      exact x_var rfl (x_var rfl (x_minS (x_var rfl (x_var rfl (x_maxS ⟨by show 2 ≤ sizeLine; decide, hY G3 (Sub.refl G3)⟩)))))
    · have s2' : Sub G' G2 := ((Sub.refl G').new hpq).trans s2
      have hf := s2'.ob _ _ (s.ob _ _ DH.put_same)
      refine x_ext hf (s2.ob _ _ DH.put_same) (by rw [List.length_map, List.length_map, List.length_map]; have := hM t; omega) ?_
      refine ⟨_, rfl, ?_⟩
      rw [acr_take hp, List.map_append]
      exact (Sub.trans s s2').again
  · rintro δ' G' ⟨z17, rfl, s⟩
    rw [List.length_map, List.take_length] at s
    exact q pa z17 G' (((Sub.refl G).new hpa).trans s) (s.ob _ _ DH.put_same)
structure Dues (G : DH) (pd s1 s2 : Addr) (ws us : W) (hs is : List Hand) : Prop where
  d : G.ob pd = some (.lst true [.ref s1, .ref s2])
  j : G.ob s1 = some (.lst true ((srtH (hs ++ is)).map hD))
  c : G.ob s2 = some (.lst true ((srtH (hs ++ is ++ acrW ws us)).map hD))
theorem Dues.fr {G' : DH} {pd s1 s2 : Addr} (s : Sub (Q7.fr G) G') (h : Dues G pd s1 s2 ws us hs is) : Dues G' pd s1 s2 ws us hs is := ⟨s.ob _ _ h.d, s.ob _ _ h.j, s.ob _ _ h.c⟩
structure Hnded (G : DH) (ph : Addr) (y1 y2 : D) (L1 L2 : List D) (hs is : List Hand) : Prop where
  h : G.ob ph = some (.lst true [y1, y2])
  a1 : SeqD y1 L1 G
  b1 : HandsD L1 hs G
  a2 : SeqD y2 L2 G
  b2 : HandsD L2 is G
theorem tl_23 (h : SA G a n) (hn : n + 30000 < big) (ok : Ok2 ws us) (tw : Two ws us hs is) (g1 : G.ob p1 = some (.lst true (hs.map hD))) (g2 : G.ob p2 = some (.lst true (is.map hD))) (g3 : G.ob pa = some (.lst true ((acrW ws us).map hD)))
    (q : ∀ pd s1 s2 ph y1 y2 L1 L2 G', Dues G' pd s1 s2 ws us hs is → Hnded G' ph y1 y2 L1 L2 hs is → Sub (fr G) G' → SA G' a (n + 30000) → EE.nx [z0, some (.ref a), z2, some (.ref o1), some (.ref o2), some (.ref m1), some (.ref m2), z7, z8, z9, z10, z11, z12, z13, some (.ref p1), some (.ref p2), some (.ref pa), z17, some (.ref pd), some (.ref ph), z20, z21, z22, z23, z24, z25, z26] G') : w_law_23 K EE [z0, some (.ref a), z2, some (.ref o1), some (.ref o2), some (.ref m1), some (.ref m2), z7, z8, z9, z10, z11, z12, z13, some (.ref p1), some (.ref p2), some (.ref pa), z17, z18, z19, z20, z21, z22, z23, z24, z25, z26] G := by
  unfold w_law_23; dsimp only [wSeq, wSetIx, wOp, wC, wB, wIfS, wAsg, wCB, wCons, wNil, wRet, wRetN, wAnd, wOr, wNot, wAndV, wOrV, wNotV, wIf, wTup, wLst, wBM, wNext, wExpr, wUn, wChain, wCall, wSl, wPart, wNoPart, wNever, wLkS, wStar, wStarItems, wListItems, wSumVals, wFld, wSetFld, wMake, wMeth, wCallK, wDisp, wEmp, wPairs, wLk, wBreak, wCont, asg, asgs]
  have l1 := prs36 ok.l1 tw.s1
  have l2 := prs36 ok.l2 tw.s2
  have l3 : (acrW ws us).length ≤ 36 := by rw [acrW_len]; exact Nat.mul_le_mul ok.l1 ok.l2
  have hz := sizeBig (Nat.le_refl 1000000)
  refine x_var rfl (x_var rfl (x_addL g1 g2 (by rw [List.length_map, List.length_map]; omega) fun r1 hr1 => ?_))
  rw [← List.map_append]
  refine sort_hands (w := true) DH.put_same fun s1 hs1 => ?_
  have t1 := ((Sub.refl G).new (o := .lst true ((hs ++ is).map hD)) hr1).new (o := .lst true ((srtH (hs ++ is)).map hD)) hs1
  have e1 : ((G.put r1 (.lst true ((hs ++ is).map hD))).put s1 (.lst true ((srtH (hs ++ is)).map hD))).ob s1 = some (.lst true ((srtH (hs ++ is)).map hD)) := DH.put_same
  have a1 : SA ((G.put r1 (.lst true ((hs ++ is).map hD))).put s1 (.lst true ((srtH (hs ++ is)).map hD))) a n := h
  generalize (G.put r1 (.lst true ((hs ++ is).map hD))).put s1 (.lst true ((srtH (hs ++ is)).map hD)) = G1 at t1 e1 a1 ⊢
  refine x_var rfl (x_var rfl (x_addL (t1.ob _ _ g1) (t1.ob _ _ g2) (by rw [List.length_map, List.length_map]; omega) fun r2 hr2 => ?_))
  rw [← List.map_append]
  have t2 := (Sub.refl G1).new (o := .lst true ((hs ++ is).map hD)) hr2
  refine x_var rfl (x_addL DH.put_same (t2.ob _ _ (t1.ob _ _ g3)) (by rw [List.length_map, List.length_map, List.length_append]; omega) fun r3 hr3 => ?_)
  rw [← List.map_append]
  refine sort_hands (w := true) DH.put_same fun s2 hs2 => ?_
  have t3 := (t2.new (o := .lst true ((hs ++ is ++ acrW ws us).map hD)) hr3).new (o := .lst true ((srtH (hs ++ is ++ acrW ws us)).map hD)) hs2
  refine ⟨by show 2 ≤ sizeLine; decide, fun pd hpd => ?_⟩
  have t4 := t3.new (o := .lst true [.ref s1, .ref s2]) hpd
  have e2 := ((Sub.refl _).new (o := .lst true [.ref s1, .ref s2]) hpd).ob _ _ (DH.put_same (G := (G1.put r2 (.lst true ((hs ++ is).map hD))).put r3 (.lst true ((hs ++ is ++ acrW ws us).map hD))) (a := s2) (o := .lst true ((srtH (hs ++ is ++ acrW ws us)).map hD)))
  have e3 : ((((G1.put r2 (.lst true ((hs ++ is).map hD))).put r3 (.lst true ((hs ++ is ++ acrW ws us).map hD))).put s2 (.lst true ((srtH (hs ++ is ++ acrW ws us)).map hD))).put pd (.lst true [.ref s1, .ref s2])).ob pd = some (.lst true [.ref s1, .ref s2]) := DH.put_same
  have a2 : SA ((((G1.put r2 (.lst true ((hs ++ is).map hD))).put r3 (.lst true ((hs ++ is ++ acrW ws us).map hD))).put s2 (.lst true ((srtH (hs ++ is ++ acrW ws us)).map hD))).put pd (.lst true [.ref s1, .ref s2])) a n := a1
  generalize (((G1.put r2 (.lst true ((hs ++ is).map hD))).put r3 (.lst true ((hs ++ is ++ acrW ws us).map hD))).put s2 (.lst true ((srtH (hs ++ is ++ acrW ws us)).map hD))).put pd (.lst true [.ref s1, .ref s2]) = G2 at t4 e2 e3 a2 ⊢
  have dues : Dues G2 pd s1 s2 ws us hs is := ⟨e3, t4.ob _ _ e1, e2⟩
  have t5 := t1.trans t4
  refine x_var rfl (x_var rfl (loose_hands (n := 3) a2 (by omega) (.inl ⟨p1, true, rfl, t5.ob _ _ g1⟩) HandsD.tups (by omega) fun y1 L1 G3 u1 a3 k1 k2 => ?_))
  refine x_var rfl (x_var rfl (loose_hands (n := 3) a3 (by omega) (.inl ⟨p2, true, rfl, u1.ob _ _ (t5.ob _ _ g2)⟩) HandsD.tups (by omega) fun y2 L2 G4 u2 a4 k3 k4 => ?_))
  refine ⟨by show 2 ≤ sizeLine; decide, fun ph hph => ⟨by show 2 ≤ sizeLine; decide, _, rfl, ?_⟩⟩
  have u3 := (Sub.refl G4).new (o := .lst true [y1, y2]) hph
  have u4 : Sub (fr G3) (G4.put ph (.lst true [y1, y2])) := Sub.trans u2 u3
  have u5 : Sub (fr G2) (G4.put ph (.lst true [y1, y2])) := Sub.frt u1 u4
  have k1' : SeqD y1 L1 (fr G3) := k1.sub (diff_sub _ _)
  have k2' : HandsD L1 hs (fr G3) := k2.sub (diff_sub _ _)
  exact q pd s1 s2 ph y1 y2 L1 L2 _ (dues.fr u5) ⟨DH.put_same, k1'.sub u4, k2'.sub u4, (k3.sub (diff_sub _ _)).sub u3, (k4.sub (diff_sub _ _)).sub u3⟩ (Sub.frt (Sub.trans (Sub.frr G) t5) u5) (SA.mono (a4.sub u3) (by omega))
end
end Q7

namespace Q7
open PySem PySem.Spec PyProof.Rows L2
structure FS (G0 G : DH) (pf : Addr) (ps : List Addr) (Cs : List (List Hand)) : Prop where
  f : G.ob pf = some (.lst true (ps.map .ref))
  s : Sub G0 G
  n : G0.ob pf = none
  p : ∀ p ∈ ps, p ≠ pf ∧ G0.ob p = none
  l : ps.length = Cs.length
  c : ∀ (i : Nat) (p : Addr), ps[i]? = some p → ∃ hs : List Hand, Cs[i]? = some hs ∧ G.ob p = some (.lst true (hs.map hD))
  nd : ps.Nodup
theorem FS.app {G0 G G1 : DH} {pf p : Addr} {ps : List Addr} {Cs : List (List Hand)} {hs : List Hand} (h : FS G0 G pf ps Cs) (s : Sub G G1) (hp : G.ob p = none) (h1 : G1.ob p = some (.lst true (hs.map hD))) : FS G0 (G1.put pf (.lst true (ps.map .ref ++ [.ref p]))) pf (ps ++ [p]) (Cs ++ [hs]) := by
  have np : p ≠ pf := fun z => by
    subst z
    rw [h.f] at hp; cases hp
  refine ⟨?_, (h.s.trans s).over h.n, h.n, fun r hr => ?_, by rw [List.length_append, List.length_append, h.l]; rfl, fun i r hr => ?_, ?_⟩
  · rw [DH.put_same, List.map_append]; rfl
  · rcases List.mem_append.mp hr with hr | hr
    · exact h.p r hr
    · have e := List.mem_singleton.mp hr
      subst e
      exact ⟨np, h.s.none hp⟩
  · by_cases hi : i < ps.length
    · rw [List.getElem?_append_left hi] at hr
      obtain ⟨ks, e1, e2⟩ := h.c i r hr
      refine ⟨ks, ?_, ?_⟩
      · rw [List.getElem?_append_left (by rw [← h.l]; exact hi)]; exact e1
      · rw [DH.put_ne (h.p r (List.mem_of_getElem? hr)).1]
        exact s.ob _ _ e2
    · have hi' : i = ps.length := by
        have := (List.getElem?_eq_some_iff.mp hr).1
        rw [List.length_append] at this
        simp at this
        omega
      subst hi'
      have e : r = p := by
        rw [List.getElem?_append_right (Nat.le_refl _)] at hr
        simpa using hr.symm
      subst e
      refine ⟨hs, ?_, ?_⟩
      · rw [h.l, List.getElem?_append_right (Nat.le_refl _)]; simp
      · rw [DH.put_ne np]; exact h1
  · refine List.nodup_append.mpr ⟨h.nd, by simp, fun x hx y hy e => ?_⟩
    have e2 := List.mem_singleton.mp hy
    rw [e2] at e
    subst e
    obtain ⟨i, hi, e3⟩ := List.getElem_of_mem hx
    obtain ⟨ks, _, e4⟩ := h.c i x (by rw [List.getElem?_eq_getElem hi, e3])
    rw [hp] at e4; cases e4
section
variable {K : PySem.W.Frag} {G G0 : DH} {Q : DK} {E : DX} {EE : DEnds} {R : WS} {a o1 o2 m1 e1 m2 e2 p1 p2 pa pd s1 s2 ph pf : Addr} {n : Int} {w w1 w2 : Bool} {ws us : W} {hs is : List Hand} {y1 y2 : D} {L1 L2 : List D} {ps : List Addr} {Cs : List (List Hand)} {pz : PyData} {z0 z1 z2 z3 z4 z5 z6 z7 z8 z9 z10 z11 z12 z13 z14 z15 z16 z17 z18 z19 z20 z21 z22 z23 z24 z25 z26 : Option D}
theorem srt_keys (ws : W) (g : Str) : g ∈ ws.map (·.1) ↔ g ∈ (srtW ws).map (·.1) := ((srtW_perm ws).map (·.1)).mem_iff.symm
theorem k_wj (kf : KF K) (kn : Kn K w G o1 o2 m1 e1 m2 e2 ws us) (ok : Ok2 ws us) (tw : Two ws us hs is) (hx : SeqD y1 L1 G) (hd : HandsD L1 hs G) (hx' : SeqD y2 L2 G) (hd' : HandsD L2 is G)
    (q : ∀ p, G.ob p = none → Q (.ref p) (G.put p (.lst true ((srtH (hs ++ is)).map hD)))) : sp_webs_joined K [.ref m1, .ref m2, y1, y2] G Q E :=
  t_webs_joined kf kn.p1 kn.p2 ok.ap.srt (by rw [srt_len]; have := ok.l1; omega) hx hd ((tw.web1 ok).keys fun g => (srt_keys ws g).mp) hx' hd' ((tw.web2 ok).keys fun g => (srt_keys us g).mp) q
theorem k_wc (kf : KF K) (kn : Kn K w G o1 o2 m1 e1 m2 e2 ws us) (ok : Ok2 ws us) (tw : Two ws us hs is) (hx : SeqD y1 L1 G) (hd : HandsD L1 hs G) (hx' : SeqD y2 L2 G) (hd' : HandsD L2 is G)
    (q : ∀ p, G.ob p = none → Q (.ref p) (G.put p (.lst true ((srtH (hs ++ is ++ acrW ws us)).map hD)))) : sp_webs_crossed K [.ref m1, .ref m2, y1, y2] G Q E :=
  t_webs_crossed kf kn.p1 kn.p2 ok.ap.srt (by rw [srt_len]; have := ok.l1; omega) (by rw [srt_len]; have := ok.l2; omega) hx hd ((tw.web1 ok).keys fun g => (srt_keys ws g).mp) hx' hd' ((tw.web2 ok).keys fun g => (srt_keys us g).mp) fun p hp => by
    rw [srtH_eq (List.Perm.append_left (hs ++ is) (acrW_perm (srtW_perm ws) (srtW_perm us)))]
    exact q p hp
theorem tl_24 (kf : KF K) (kn : Kn K w G o1 o2 m1 e1 m2 e2 ws us) (ok : Ok2 ws us) (tw : Two ws us hs is) (hh : Hnded G ph y1 y2 L1 L2 hs is) (dt : DT G pz (.ref ph)) (sh : Shw 16000000 60 pz) (hc : isCont pz = true)
    (q : ∀ pf w1 w2 G', FS G G' pf [w1, w2] [srtH (hs ++ is), srtH (hs ++ is ++ acrW ws us)] → EE.nx [z0, some (.ref a), z2, some (.ref o1), some (.ref o2), some (.ref m1), some (.ref m2), z7, z8, z9, z10, some (.ref pf), z12, z13, some (.ref p1), some (.ref p2), z16, z17, some (.ref pd), some (.ref ph), some (.str pz.shown), z21, z22, z23, z24, z25, z26] G') : w_law_24 K EE [z0, some (.ref a), z2, some (.ref o1), some (.ref o2), some (.ref m1), some (.ref m2), z7, z8, z9, z10, z11, z12, z13, some (.ref p1), some (.ref p2), z16, z17, some (.ref pd), some (.ref ph), z20, z21, z22, z23, z24, z25, z26] G := by
  unfold w_law_24; dsimp only [wSeq, wSetIx, wOp, wC, wB, wIfS, wAsg, wCB, wCons, wNil, wRet, wRetN, wAnd, wOr, wNot, wAndV, wOrV, wNotV, wIf, wTup, wLst, wBM, wNext, wExpr, wUn, wChain, wCall, wSl, wPart, wNoPart, wNever, wLkS, wStar, wStarItems, wListItems, wSumVals, wFld, wSetFld, wMake, wMeth, wCallK, wDisp, wEmp, wPairs, wLk, wBreak, wCont, asg, asgs]
  refine x_var rfl (x_repr dt sh hc (Nat.le_refl _) (Nat.le_refl _) ?_)
  refine x_var rfl (x_var rfl (x_var rfl (x_ixL hh.h rfl (x_var rfl (x_ixL hh.h rfl ?_)))))
  refine k_wj kf kn ok tw hh.a1 hh.b1 hh.a2 hh.b2 fun w1 hw1 => ?_
  have t1 := (Sub.refl G).new (o := .lst true ((srtH (hs ++ is)).map hD)) hw1
  have e1 : (G.put w1 (.lst true ((srtH (hs ++ is)).map hD))).ob w1 = some (.lst true ((srtH (hs ++ is)).map hD)) := DH.put_same
  generalize G.put w1 (.lst true ((srtH (hs ++ is)).map hD)) = G1 at t1 e1 ⊢
  refine x_var rfl (x_var rfl (x_var rfl (x_ixL (t1.ob _ _ hh.h) rfl (x_var rfl (x_ixL (t1.ob _ _ hh.h) rfl ?_)))))
  refine k_wc kf (kn.fr (Sub.trans (Sub.frr G) t1)) ok tw (hh.a1.sub t1) (hh.b1.sub t1) (hh.a2.sub t1) (hh.b2.sub t1) fun w2 hw2 => ?_
  have t2 := (Sub.refl G1).new (o := .lst true ((srtH (hs ++ is ++ acrW ws us)).map hD)) hw2
  have e2 : (G1.put w2 (.lst true ((srtH (hs ++ is ++ acrW ws us)).map hD))).ob w2 = some (.lst true ((srtH (hs ++ is ++ acrW ws us)).map hD)) := DH.put_same
  have n12 : w1 ≠ w2 := fun z => by
    subst z
    rw [e1] at hw2; cases hw2
  have e1' := t2.ob _ _ e1
  generalize G1.put w2 (.lst true ((srtH (hs ++ is ++ acrW ws us)).map hD)) = G2 at t2 e2 e1' ⊢
  refine ⟨by show 2 ≤ sizeLine; decide, fun pf hpf => ⟨by show 2 ≤ sizeLine; decide, _, rfl, ?_⟩⟩
  have t3 := (Sub.refl G2).new (o := .lst true [.ref w1, .ref w2]) hpf
  have t02 := t1.trans t2
  have nn : ∀ b o, G2.ob b = some o → b ≠ pf := fun b o hb z => by
    subst z
    rw [hb] at hpf; cases hpf
  refine q pf w1 w2 _ ⟨DH.put_same, t02.trans t3, t02.none hpf, fun p hp => ?_, rfl, fun i p hp => ?_, by simp [n12]⟩
  · rcases List.mem_cons.mp hp with e | hp
    · subst e; exact ⟨nn _ _ e1', hw1⟩
    rcases List.mem_cons.mp hp with e | hp
    · subst e; exact ⟨nn _ _ e2, t1.none hw2⟩
    · cases hp
  · match i, hp with
    | 0, hp =>
      have e := Option.some.inj hp
      subst e
      exact ⟨_, rfl, t3.ob _ _ e1'⟩
    | 1, hp =>
      have e := Option.some.inj hp
      subst e
      exact ⟨_, rfl, t3.ob _ _ e2⟩
    | j + 2, hp => simp at hp
theorem tl_25 (kf : KF K) (kn : Kn K w G0 o1 o2 m1 e1 m2 e2 ws us) (ok : Ok2 ws us) (tw : Two ws us hs is) (g1 : G0.ob p1 = some (.lst true (hs.map hD))) (g2 : G0.ob p2 = some (.lst true (is.map hD))) (fs : FS G0 G pf ps Cs) (hl : ps.length ≤ 3)
    (q : ∀ w3 G', FS G0 G' pf (ps ++ [w3]) (Cs ++ [srtH (hs ++ is)]) → EE.nx [z0, some (.ref a), z2, some (.ref o1), some (.ref o2), some (.ref m1), some (.ref m2), z7, z8, z9, z10, some (.ref pf), z12, z13, some (.ref p1), some (.ref p2), z16, z17, some (.ref pd), some (.ref ph), some (.str pz.shown), z21, z22, z23, z24, z25, z26] G') : w_law_25 K EE [z0, some (.ref a), z2, some (.ref o1), some (.ref o2), some (.ref m1), some (.ref m2), z7, z8, z9, z10, some (.ref pf), z12, z13, some (.ref p1), some (.ref p2), z16, z17, some (.ref pd), some (.ref ph), some (.str pz.shown), z21, z22, z23, z24, z25, z26] G := by
  unfold w_law_25; dsimp only [wSeq, wSetIx, wOp, wC, wB, wIfS, wAsg, wCB, wCons, wNil, wRet, wRetN, wAnd, wOr, wNot, wAndV, wOrV, wNotV, wIf, wTup, wLst, wBM, wNext, wExpr, wUn, wChain, wCall, wSl, wPart, wNoPart, wNever, wLkS, wStar, wStarItems, wListItems, wSumVals, wFld, wSetFld, wMake, wMeth, wCallK, wDisp, wEmp, wPairs, wLk, wBreak, wCont, asg, asgs]
  have l1 := prs36 ok.l1 tw.s1
  have l2 := prs36 ok.l2 tw.s2
  refine x_var rfl ⟨.inl ⟨rfl, pf, _, rfl, ⟨true, fs.f⟩⟩, ?_⟩
  refine x_var rfl (copy_web (n := 3) (fs.s.ob _ _ g2) (by omega) fun c2 hc2 => ?_)
  have t1 := (Sub.refl G).new (o := .lst true (is.map hD)) hc2
  have e2 : (G.put c2 (.lst true (is.map hD))).ob c2 = some (.lst true (is.map hD)) := DH.put_same
  generalize G.put c2 (.lst true (is.map hD)) = G1 at t1 e2 ⊢
  refine x_var rfl (copy_web (n := 3) (t1.ob _ _ (fs.s.ob _ _ g1)) (by omega) fun c1 hc1 => ?_)
  have t2 := (Sub.refl G1).new (o := .lst true (hs.map hD)) hc1
  have e1 : (G1.put c1 (.lst true (hs.map hD))).ob c1 = some (.lst true (hs.map hD)) := DH.put_same
  have e2' := t2.ob _ _ e2
  have t12 := t1.trans t2
  generalize G1.put c1 (.lst true (hs.map hD)) = G2 at t2 t12 e1 e2' ⊢
  refine x_var rfl (x_var rfl ⟨rfl, rfl, k_wj kf (kn.fr (Sub.trans (Sub.frr G0) (fs.s.trans t12))) ok tw (.inl ⟨c1, true, rfl, e1⟩) HandsD.tups (.inl ⟨c2, true, rfl, e2'⟩) HandsD.tups fun w3 hw3 => ?_⟩)
  have t3 := t12.new (o := .lst true ((srtH (hs ++ is)).map hD)) hw3
  refine x_app (t3.ob _ _ fs.f) (by rw [List.length_map]; omega) ?_
  exact q w3 _ (fs.app t3 (t12.none hw3) DH.put_same)
theorem tl_26 (kf : KF K) (kn : Kn K w G0 o1 o2 m1 e1 m2 e2 ws us) (ok : Ok2 ws us) (tw : Two ws us hs is) (g1 : G0.ob p1 = some (.lst true (hs.map hD))) (g2 : G0.ob p2 = some (.lst true (is.map hD))) (fs : FS G0 G pf ps Cs) (hl : ps.length ≤ 3)
    (q : ∀ w3 G', FS G0 G' pf (ps ++ [w3]) (Cs ++ [srtH (hs ++ is ++ acrW ws us)]) → EE.nx [z0, some (.ref a), z2, some (.ref o1), some (.ref o2), some (.ref m1), some (.ref m2), z7, z8, z9, z10, some (.ref pf), z12, z13, some (.ref p1), some (.ref p2), z16, z17, some (.ref pd), some (.ref ph), some (.str pz.shown), z21, z22, z23, z24, z25, z26] G') : w_law_26 K EE [z0, some (.ref a), z2, some (.ref o1), some (.ref o2), some (.ref m1), some (.ref m2), z7, z8, z9, z10, some (.ref pf), z12, z13, some (.ref p1), some (.ref p2), z16, z17, some (.ref pd), some (.ref ph), some (.str pz.shown), z21, z22, z23, z24, z25, z26] G := by
  unfold w_law_26; dsimp only [wSeq, wSetIx, wOp, wC, wB, wIfS, wAsg, wCB, wCons, wNil, wRet, wRetN, wAnd, wOr, wNot, wAndV, wOrV, wNotV, wIf, wTup, wLst, wBM, wNext, wExpr, wUn, wChain, wCall, wSl, wPart, wNoPart, wNever, wLkS, wStar, wStarItems, wListItems, wSumVals, wFld, wSetFld, wMake, wMeth, wCallK, wDisp, wEmp, wPairs, wLk, wBreak, wCont, asg, asgs]
  have l1 := prs36 ok.l1 tw.s1
  have l2 := prs36 ok.l2 tw.s2
  refine x_var rfl ⟨.inl ⟨rfl, pf, _, rfl, ⟨true, fs.f⟩⟩, ?_⟩
  refine x_var rfl (copy_web (n := 3) (fs.s.ob _ _ g2) (by omega) fun c2 hc2 => ?_)
  have t1 := (Sub.refl G).new (o := .lst true (is.map hD)) hc2
  have e2 : (G.put c2 (.lst true (is.map hD))).ob c2 = some (.lst true (is.map hD)) := DH.put_same
  generalize G.put c2 (.lst true (is.map hD)) = G1 at t1 e2 ⊢
  refine x_var rfl (copy_web (n := 3) (t1.ob _ _ (fs.s.ob _ _ g1)) (by omega) fun c1 hc1 => ?_)
  have t2 := (Sub.refl G1).new (o := .lst true (hs.map hD)) hc1
  have e1 : (G1.put c1 (.lst true (hs.map hD))).ob c1 = some (.lst true (hs.map hD)) := DH.put_same
  have e2' := t2.ob _ _ e2
  have t12 := t1.trans t2
  generalize G1.put c1 (.lst true (hs.map hD)) = G2 at t2 t12 e1 e2' ⊢
  refine x_var rfl (x_var rfl ⟨rfl, rfl, k_wc kf (kn.fr (Sub.trans (Sub.frr G0) (fs.s.trans t12))) ok tw (.inl ⟨c1, true, rfl, e1⟩) HandsD.tups (.inl ⟨c2, true, rfl, e2'⟩) HandsD.tups fun w3 hw3 => ?_⟩)
  have t3 := t12.new (o := .lst true ((srtH (hs ++ is ++ acrW ws us)).map hD)) hw3
  refine x_app (t3.ob _ _ fs.f) (by rw [List.length_map]; omega) ?_
  exact q w3 _ (fs.app t3 (t12.none hw3) DH.put_same)
theorem tl_27 (dues : Dues G0 pd s1 s2 ws us hs is) (dt : DT G0 pz (.ref ph)) (sh : Shw 16000000 60 pz) (hc : isCont pz = true) (fs : FS G0 G pf ps [srtH (hs ++ is), srtH (hs ++ is ++ acrW ws us), srtH (hs ++ is), srtH (hs ++ is ++ acrW ws us)]) (ok : Ok2 ws us) (tw : Two ws us hs is)
    (q : ∀ G', Sub G G' → EE.nx [z0, some (.ref a), z2, some (.ref o1), some (.ref o2), some (.ref m1), some (.ref m2), z7, z8, z9, z10, some (.ref pf), z12, z13, some (.ref p1), some (.ref p2), z16, z17, some (.ref pd), some (.ref ph), some (.str pz.shown), z21, z22, z23, z24, z25, z26] G') : w_law_27 K EE [z0, some (.ref a), z2, some (.ref o1), some (.ref o2), some (.ref m1), some (.ref m2), z7, z8, z9, z10, some (.ref pf), z12, z13, some (.ref p1), some (.ref p2), z16, z17, some (.ref pd), some (.ref ph), some (.str pz.shown), z21, z22, z23, z24, z25, z26] G := by
  unfold w_law_27; dsimp only [wSeq, wSetIx, wOp, wC, wB, wIfS, wAsg, wCB, wCons, wNil, wRet, wRetN, wAnd, wOr, wNot, wAndV, wOrV, wNotV, wIf, wTup, wLst, wBM, wNext, wExpr, wUn, wChain, wCall, wSl, wPart, wNoPart, wNever, wLkS, wStar, wStarItems, wListItems, wSumVals, wFld, wSetFld, wMake, wMeth, wCallK, wDisp, wEmp, wPairs, wLk, wBreak, wCont, asg, asgs]
  have l1 := prs36 ok.l1 tw.s1
  have l2 := prs36 ok.l2 tw.s2
  have l3 : (acrW ws us).length ≤ 36 := by rw [acrW_len]; exact Nat.mul_le_mul ok.l1 ok.l2
  have m1 : (srtH (hs ++ is)).length ≤ 100000 := by rw [(srtH_perm _).length_eq, List.length_append]; omega
  have m2 : (srtH (hs ++ is ++ acrW ws us)).length ≤ 100000 := by rw [(srtH_perm _).length_eq, List.length_append, List.length_append]; omega
  have dd := dues.fr (Sub.trans (Sub.frr G0) fs.s)
  refine x_var rfl (x_var rfl (x_var rfl (x_addL dd.d dd.d (by show 4 ≤ sizeLine; decide) fun pe hpe => ?_)))
  have t1 := (Sub.refl G).new (o := .lst true ([.ref s1, .ref s2] ++ [.ref s1, .ref s2])) hpe
  refine same_lst (n := 5) (t1.ob _ _ fs.f) DH.put_same (by rw [List.length_map, fs.l]; rfl) (by show 4 ≤ 100000; decide) (fun k x y hx hy => ?_) _ _ _ (Sub.refl _) ⟨_, rfl, itF ?_⟩
  · rw [List.getElem?_map] at hx
    obtain ⟨p, hp, e⟩ := Option.map_eq_some_iff.mp hx
    subst e
    obtain ⟨ks, h1, h2⟩ := fs.c k p hp
    match k, h1, hy with
    | 0, h1, hy =>
      have e1 := Option.some.inj h1
      have e2 := Option.some.inj hy
      subst e1; subst e2
      exact same_web (n := 2) (t1.ob _ _ h2) (t1.ob _ _ dd.j) m1
    | 1, h1, hy =>
      have e1 := Option.some.inj h1
      have e2 := Option.some.inj hy
      subst e1; subst e2
      exact same_web (n := 2) (t1.ob _ _ h2) (t1.ob _ _ dd.c) m2
    | 2, h1, hy =>
      have e1 := Option.some.inj h1
      have e2 := Option.some.inj hy
      subst e1; subst e2
      exact same_web (n := 2) (t1.ob _ _ h2) (t1.ob _ _ dd.j) m1
    | 3, h1, hy =>
      have e1 := Option.some.inj h1
      have e2 := Option.some.inj hy
      subst e1; subst e2
      exact same_web (n := 2) (t1.ob _ _ h2) (t1.ob _ _ dd.c) m2
    | j + 4, h1, hy => simp at h1
  · refine x_var rfl (x_repr (DT.mono (fs.s.trans t1).ob _ _ dt) sh hc (Nat.le_refl _) (Nat.le_refl _) (x_var rfl (x_neS ⟨_, rfl, ?_⟩)))
    rw [decide_eq_true (rfl : pz.shown = pz.shown)]
    exact itF (q _ t1)
theorem tl_29 (fs : FS G0 G pf ps Cs) (hl : ps.length ≤ 100000) (hc : ∀ hs ∈ Cs, hs.length ≤ 100000)
    (q : ∀ G', Sub G0 G' → EE.nx [z0, some (.ref a), z2, some (.ref o1), some (.ref o2), some (.ref m1), some (.ref m2), z7, z8, z9, z10, some (.ref pf), z12, z13, some (.ref p1), some (.ref p2), z16, z17, some (.ref pd), some (.ref ph), some (.str pz.shown), z21, z22, z23, z24, z25, z26] G') : w_law_29 K EE [z0, some (.ref a), z2, some (.ref o1), some (.ref o2), some (.ref m1), some (.ref m2), z7, z8, z9, z10, some (.ref pf), z12, z13, some (.ref p1), some (.ref p2), z16, z17, some (.ref pd), some (.ref ph), some (.str pz.shown), z21, z22, z23, z24, z25, z26] G := by
  unfold w_law_29; dsimp only [wSeq, wSetIx, wOp, wC, wB, wIfS, wAsg, wCB, wCons, wNil, wRet, wRetN, wAnd, wOr, wNot, wAndV, wOrV, wNotV, wIf, wTup, wLst, wBM, wNext, wExpr, wUn, wChain, wCall, wSl, wPart, wNoPart, wNever, wLkS, wStar, wStarItems, wListItems, wSumVals, wFld, wSetFld, wMake, wMeth, wCallK, wDisp, wEmp, wPairs, wLk, wBreak, wCont, asg, asgs]
  refine x_var rfl (spoilt_webs (n := 2) fs.s fs.f fs.n hl (fun p hp => ⟨(fs.p p hp).1, (fs.p p hp).2, ?_⟩) fs.nd fun G' s _ => q G' s)
  obtain ⟨i, hi, e⟩ := List.getElem_of_mem hp
  obtain ⟨ks, h1, h2⟩ := fs.c i p (by rw [List.getElem?_eq_getElem hi, e])
  exact ⟨ks, hc ks (List.mem_of_getElem? h1), h2⟩
end
end Q7

namespace Q7
open PySem PySem.Spec PyProof.Rows L2
section
variable {G1 : DH} {S : DH → Prop} {items : List D} {Q : DK} {T : Tgt} {we : WE} {vs : List Nat} {δ : DEnv} {a : Addr} {n : Int}
/-- a comprehension that draws, whose items hang on no list -/
theorem lcP (c : Nat) (P : Nat → D → DH → Prop) (mono : ∀ i y G G', Sub (fr G) G' → P i y G → P i y G') (stab : ∀ i y G p w L u, G.ob p = some (.lst w L) → P i y G → P i y (G.put p u)) (h : SA G1 a n) (hS : ∀ G', Sub (fr G1) G' → S G') (hl : items.length ≤ 100000)
    (step : ∀ (i : Nat) (x : D) (G' : DH) (Y : DK), items[i]? = some x → Sub (fr G1) G' → SA G' a (n + c * i) → (∀ y G3, Sub (fr G') G3 → SA G3 a (n + c * (i + 1 : Nat)) → P i y G3 → Y y G3) → ∃ δ2, asg G' T x (wipeD δ vs) = some δ2 ∧ we δ2 G' Y)
    (fin : ∀ p L G', G1.ob p = none → L.length = items.length → (∀ i y, L[i]? = some y → P i y G') → Sub ((fr G1).put p (.lst true L)) G' → SA G' a (n + c * items.length) → Q (.ref p) G') : LcBody T (fun _ G Q => Q true G) we vs δ Q S items G1 := by
  intro p hp
  refine ⟨fun i G' => ∃ L : List D, L.length = i ∧ (∀ j y, L[j]? = some y → P j y G') ∧ Sub ((fr G1).put p (.lst true L)) G' ∧ SA G' a (n + c * i), ⟨[], rfl, fun j y e => by simp at e, Sub.frr (G1.put p (.lst true [])), by rw [Int.natCast_zero, Int.mul_zero, Int.add_zero]; exact h⟩, ?_, ?_, ?_⟩
  · rintro i G' ⟨L, _, _, s, _⟩
    exact hS G' (((Sub.refl (fr G1)).new hp).trans s)
  · rintro i x G' hx ⟨L, hL, hP, s, sa⟩
    have s1 : Sub (fr G1) G' := ((Sub.refl (fr G1)).new hp).trans s
    have hlt : i < items.length := (List.getElem?_eq_some_iff.mp hx).1
    have ep : G'.ob p = some (.lst true L) := s.ob _ _ DH.put_same
    obtain ⟨δ2, e2, h2⟩ := step i x G' (fun y G3 => ∃ acc, G3.ob p = some (.lst true acc) ∧ acc.length < sizeLine ∧ ∃ L : List D, L.length = i + 1 ∧ (∀ j z, L[j]? = some z → P j z (G3.put p (.lst true (acc ++ [y])))) ∧ Sub ((fr G1).put p (.lst true L)) (G3.put p (.lst true (acc ++ [y]))) ∧ SA (G3.put p (.lst true (acc ++ [y]))) a (n + c * (i + 1 : Nat))) hx s1 sa fun y G3 s3 sa3 hy => by
      have ep3 := s3.ob _ _ ep
      refine ⟨L, ep3, ?_, L ++ [y], by rw [List.length_append, hL]; rfl, ?_, (show Sub ((fr G1).put p (.lst true L)) G3 from Sub.frt (G := G1.put p (.lst true L)) s s3).again, sa3⟩
      · have := sizeBig (n := 100000) (by decide)
        omega
      · intro j z hz
        by_cases hj : j < i
        · rw [List.getElem?_append_left (by omega)] at hz
          exact stab _ _ _ _ _ _ _ ep3 (mono j z _ _ s3 (hP j z hz))
        · have ej : j = i := by
            have := (List.getElem?_eq_some_iff.mp hz).1
            rw [List.length_append] at this
            simp at this
            omega
          subst ej
          rw [List.getElem?_append_right (by omega), hL, Nat.sub_self] at hz
          have ez : y = z := Option.some.inj hz
          subst ez
          exact stab _ _ _ _ _ _ _ ep3 hy
    exact ⟨δ2, e2, itT h2⟩
  · rintro G' ⟨L, hL, hP, s, sa⟩
    exact fin p L G' hp hL hP s sa
end
section
variable {K : PySem.W.Frag} {G G0 : DH} {Q : DK} {E : DX} {EE : DEnds} {R : WS} {a o1 o2 m1 e1 m2 e2 p1 p2 pa pd s1 s2 ph pf b1 d1 b2 d2 : Addr} {n : Int} {w w1 w2 : Bool} {ws us : W} {hs is : List Hand} {y1 y2 : D} {L1 L2 : List D} {ps : List Addr} {Cs : List (List Hand)} {pz : PyData} {z0 z1 z2 z3 z4 z5 z6 z7 z8 z9 z10 z11 z12 z13 z14 z15 z16 z17 z18 z19 z20 z21 z22 z23 z24 z25 z26 : Option D}
def shW (ws : W) (hs : List Hand) : W := fd (srtS (ws.map (·.1))) (cnt hs)
def selH (hs is : List Hand) (i : Nat) : List Hand := if i = 0 then hs else is
theorem tl_30 (h : SA G a n) (hn : n + 500000 < big) (ok : Ok2 ws us) (tw : Two ws us hs is) (kn : Kn K false G o1 o2 m1 e1 m2 e2 ws us) (g1 : G.ob p1 = some (.lst true (hs.map hD))) (g2 : G.ob p2 = some (.lst true (is.map hD)))
    (q : ∀ pp b1 d1 b2 d2 G', G'.ob pp = some (.lst true [.ref b1, .ref b2]) → PartyAt K G' b1 d1 (srtW (shW ws hs)) → PartyAt K G' b2 d2 (srtW (shW us is)) → Sub (fr G) G' → SA G' a (n + 500000) → EE.nx [z0, some (.ref a), z2, some (.ref o1), some (.ref o2), some (.ref m1), some (.ref m2), z7, z8, z9, z10, z11, z12, z13, some (.ref p1), some (.ref p2), z16, z17, some (.ref pd), z19, z20, some (.ref pp), z22, z23, z24, z25, z26] G') : w_law_30 K EE [z0, some (.ref a), z2, some (.ref o1), some (.ref o2), some (.ref m1), some (.ref m2), z7, z8, z9, z10, z11, z12, z13, some (.ref p1), some (.ref p2), z16, z17, some (.ref pd), z19, z20, z21, z22, z23, z24, z25, z26] G := by
  unfold w_law_30; dsimp only [wSeq, wSetIx, wOp, wC, wB, wIfS, wAsg, wCB, wCons, wNil, wRet, wRetN, wAnd, wOr, wNot, wAndV, wOrV, wNotV, wIf, wTup, wLst, wBM, wNext, wExpr, wUn, wChain, wCall, wSl, wPart, wNoPart, wNever, wLkS, wStar, wStarItems, wListItems, wSumVals, wFld, wSetFld, wMake, wMeth, wCallK, wDisp, wEmp, wPairs, wLk, wBreak, wCont, asg, asgs]
  refine x_lc (x_wiE ?_)
  dsimp only [wSeq, wSetIx, wOp, wC, wB, wIfS, wAsg, wCB, wCons, wNil, wRet, wRetN, wAnd, wOr, wNot, wAndV, wOrV, wNotV, wIf, wTup, wLst, wBM, wNext, wExpr, wUn, wChain, wCall, wSl, wPart, wNoPart, wNever, wLkS, wStar, wStarItems, wListItems, wSumVals, wFld, wSetFld, wMake, wMeth, wCallK, wDisp, wEmp, wPairs, wLk, wBreak, wCont, asg, asgs]
  refine x_var rfl (x_var rfl ⟨by show 2 ≤ sizeLine; decide, x_var rfl (x_var rfl ⟨by show 2 ≤ sizeLine; decide, by show 2 ≤ sizeLine; decide, Or.inr (Or.inl ⟨_, rfl, ?_⟩)⟩)⟩)
  refine lcP 200000 (fun i y G => ∃ b d, y = .ref b ∧ PartyAt K G b d (srtW (shW (sel ws us i) (selH hs is i)))) (fun i y G G' s ⟨b, d, e, h⟩ => ⟨b, d, e, h.fr s⟩) (fun i y G p w L u hp ⟨b, d, e, h⟩ => ⟨b, d, e, h.putL hp⟩) h (fun _ _ => trivial) (by show 2 ≤ 100000; decide) (fun i x G' Y hx s sa hY => ?_) (fun pp L G' hpp hL hP s sa => ?_)
  · obtain ⟨o, p, rfl, ho, hp, hok, hsub, hi⟩ : ∃ o p, x = .tup [.ref o, .ref p] ∧ G.ob o = some (.dct false (wd (sel ws us i))) ∧ G.ob p = some (.lst true ((selH hs is i).map hD)) ∧ WOk (sel ws us i) ∧ (selH hs is i).Sublist (prs (srtS ((sel ws us i).map (·.1)))) ∧ i < 2 := by
      match i, hx with
      | 0, hx => exact ⟨o1, p1, (Option.some.inj hx).symm, kn.d1, g1, ok.ok1, tw.s1, by decide⟩
      | 1, hx => exact ⟨o2, p2, (Option.some.inj hx).symm, kn.d2, g2, ok.ok2, tw.s2, by decide⟩
      | k + 2, hx => simp at hx
    generalize sel ws us i = vs at ho hok hsub hY
    generalize selH hs is i = ks at hp hsub hY
    have hfew := hok.few
    refine ⟨_, asg2 rfl, ?_⟩
    dsimp only [wSeq, wSetIx, wOp, wC, wB, wIfS, wAsg, wCB, wCons, wNil, wRet, wRetN, wAnd, wOr, wNot, wAndV, wOrV, wNotV, wIf, wTup, wLst, wBM, wNext, wExpr, wUn, wChain, wCall, wSl, wPart, wNoPart, wNever, wLkS, wStar, wStarItems, wListItems, wSumVals, wFld, wSetFld, wMake, wMeth, wCallK, wDisp, wEmp, wPairs, wLk, wBreak, wCont, asg, asgs]
    have wok := web_ok hok.nd (by rw [List.length_map]; omega) hsub
    refine x_var rfl (x_var rfl (x_var rfl ?_))
    refine t_law_shaken (s.ob _ _ ho) (.inl ⟨p, true, rfl, s.ob _ _ hp⟩) HandsD.tups (fun h hh => ⟨(wok.i h hh).1, (wok.i h hh).2.1⟩) hok.nd (by omega) fun dw hdw => ?_
    have sn := Sub.new (Sub.frr G') (p := dw) (o := .dct true (wd (fd (srtS (vs.map (·.1))) (cnt ks)))) hdw
    refine t_made (SA.put sa dw _) (by omega) DH.put_same (fd_ok hok (cnt_ok (by omega) hsub)).1 fun b e G3 hb s3 sa3 pb => ?_
    exact hY _ G3 (Sub.frt sn s3) (sa3.mono (by omega)) ⟨b, e, rfl, pb⟩
  · obtain ⟨z0, z1, rfl⟩ : ∃ y0 y1, L = [y0, y1] := by
      match L, hL with
      | [y0, y1], _ => exact ⟨y0, y1, rfl⟩
    obtain ⟨b1, d1, rfl, k1⟩ := hP 0 z0 rfl
    obtain ⟨b2, d2, rfl, k2⟩ := hP 1 z1 rfl
    exact ⟨_, rfl, q pp b1 d1 b2 d2 G' (s.ob _ _ DH.put_same) k1 k2 (frn hpp s) (sa.mono (by show n + _ * ((2 : Nat) : Int) ≤ _; omega))⟩
theorem shW_keys (ws : W) (hs : List Hand) (g : Str) : g ∈ (shW ws hs).map (·.1) ↔ g ∈ ws.map (·.1) := by
  unfold shW
  rw [fd_keys]
  exact srt_keys_mem
theorem shW_len (ws : W) (hs : List Hand) : (shW ws hs).length = ws.length := fd_len' ws _
theorem shW_val {ws : W} {hs : List Hand} {p : Str × Int} (h : p ∈ shW ws hs) : p.2 = cnt hs p.1 := (fd_mem h).2
theorem Two.ok (tw : Two ws us hs is) (ok : Ok2 ws us) : Ok2 (shW ws hs) (shW us is) := ok.fd (cnt_ok (by have := ok.l1; omega) tw.s1) (cnt_ok (by have := ok.l2; omega) tw.s2)
theorem Two.c0 (tw : Two ws us hs is) (ok : Ok2 ws us) {g : Str} (hg : g ∈ ws.map (·.1)) : cnt is g = 0 := cnt_out fun p hp => ⟨fun z => ok.ap g hg (z ▸ ((tw.web2 ok).i p hp).1), fun z => ok.ap g hg (z ▸ ((tw.web2 ok).i p hp).2.1)⟩
theorem Two.c1 (tw : Two ws us hs is) (ok : Ok2 ws us) {g : Str} (hg : g ∈ us.map (·.1)) : cnt hs g = 0 := cnt_out fun p hp => ⟨fun z => ok.ap g (z ▸ ((tw.web1 ok).i p hp).1) hg, fun z => ok.ap g (z ▸ ((tw.web1 ok).i p hp).2.1) hg⟩
theorem keys_jn (tw : Two ws us hs is) (g : Str) : g ∈ (srtW (shW ws hs ++ shW us is)).map (·.1) ↔ g ∈ ws.map (·.1) ∨ g ∈ us.map (·.1) := by
  rw [← srt_keys, List.map_append, List.mem_append, shW_keys, shW_keys]
theorem keys_cr (tw : Two ws us hs is) (g : Str) : g ∈ (srtW (crW (shW ws hs) (shW us is))).map (·.1) ↔ g ∈ ws.map (·.1) ∨ g ∈ us.map (·.1) := by
  rw [← srt_keys]
  unfold crW
  rw [List.map_append, upW_keys, upW_keys, List.mem_append, shW_keys, shW_keys]
theorem tl_31 (kf : KF K) (ok : Ok2 ws us) (tw : Two ws us hs is) (dues : Dues G pd s1 s2 ws us hs is) (hp : G.ob pa = some (.lst true [.ref b1, .ref b2])) (k1 : PartyAt K G b1 d1 (srtW (shW ws hs))) (k2 : PartyAt K G b2 d2 (srtW (shW us is)))
    (q : ∀ pt G', G'.ob pt = some (.lst true [.bl true, .bl true]) → Sub G G' → EE.nx [z0, some (.ref a), z2, some (.ref o1), some (.ref o2), some (.ref m1), some (.ref m2), z7, z8, z9, z10, z11, z12, z13, some (.ref p1), some (.ref p2), z16, z17, some (.ref pd), z19, z20, some (.ref pa), some (.ref pt), z23, z24, z25, z26] G') : w_law_31 K EE [z0, some (.ref a), z2, some (.ref o1), some (.ref o2), some (.ref m1), some (.ref m2), z7, z8, z9, z10, z11, z12, z13, some (.ref p1), some (.ref p2), z16, z17, some (.ref pd), z19, z20, some (.ref pa), z22, z23, z24, z25, z26] G := by
  unfold w_law_31; dsimp only [wSeq, wSetIx, wOp, wC, wB, wIfS, wAsg, wCB, wCons, wNil, wRet, wRetN, wAnd, wOr, wNot, wAndV, wOrV, wNotV, wIf, wTup, wLst, wBM, wNext, wExpr, wUn, wChain, wCall, wSl, wPart, wNoPart, wNever, wLkS, wStar, wStarItems, wListItems, wSumVals, wFld, wSetFld, wMake, wMeth, wCallK, wDisp, wEmp, wPairs, wLk, wBreak, wCont, asg, asgs]
  have ok' := tw.ok ok
  have hl1 := ok'.l1
  have hl2 := ok'.l2
  refine x_var rfl (x_ixL hp rfl (x_var rfl (x_ixL hp rfl (k_joined kf k1 k2 ok' fun j d G1 t1 pj => ?_))))
  refine x_var rfl (x_ixL (t1.ob _ _ dues.d) rfl (t_is_picture kf pj (.inl ⟨s1, true, rfl, t1.ob _ _ dues.j⟩) HandsD.tups (tw.joined ok (keys_jn tw)) ok'.app.srt.nd (by rw [srt_len, List.length_append]; omega) (fun p hp => ?_) ?_))
  · rw [cnt_perm (srtH_perm _), cnt_app]
    rcases List.mem_append.mp ((srtW_perm _).mem_iff.mp hp) with hm | hm
    · rw [tw.c0 ok ((shW_keys ws hs _).mp (List.mem_map.mpr ⟨p, hm, rfl⟩)), shW_val hm]; omega
    · rw [tw.c1 ok ((shW_keys us is _).mp (List.mem_map.mpr ⟨p, hm, rfl⟩)), shW_val hm]; omega
  refine x_var rfl (x_ixL (t1.ob _ _ hp) rfl (x_var rfl (x_ixL (t1.ob _ _ hp) rfl (k_crossed kf (k1.sub t1) (k2.sub t1) ok' fun c d' G2 t2 pc => ?_))))
  have t12 := t1.trans t2
  refine x_var rfl (x_ixL (t12.ob _ _ dues.d) rfl (t_is_picture kf pc (.inl ⟨s2, true, rfl, t12.ob _ _ dues.c⟩) HandsD.tups (tw.crossed ok (keys_cr tw)) ok'.cr.srt.nd (by rw [srt_len]; have := ok'.cr.few; omega) (fun p hp => ?_) ?_))
  · rw [cnt_perm (srtH_perm _), cnt_app, cnt_app, cnt_acr ok.ok1.nd ok.ok2.nd ok.ap]
    have hm := (srtW_perm _).mem_iff.mp hp
    unfold crW at hm
    rcases List.mem_append.mp hm with hm | hm
    · obtain ⟨r, hr, e⟩ := List.mem_map.mp hm
      subst e
      have hg := (shW_keys ws hs _).mp (List.mem_map.mpr ⟨r, hr, rfl⟩)
      show cnt hs r.1 + cnt is r.1 + ((if r.1 ∈ ws.map (·.1) then (us.length : Int) else 0) + if r.1 ∈ us.map (·.1) then (ws.length : Int) else 0) = r.2 + ((shW us is).length : Nat)
      rw [tw.c0 ok hg, if_pos hg, if_neg (ok.ap _ hg), shW_val hr, shW_len]; omega
    · obtain ⟨r, hr, e⟩ := List.mem_map.mp hm
      subst e
      have hg := (shW_keys us is _).mp (List.mem_map.mpr ⟨r, hr, rfl⟩)
      show cnt hs r.1 + cnt is r.1 + ((if r.1 ∈ ws.map (·.1) then (us.length : Int) else 0) + if r.1 ∈ us.map (·.1) then (ws.length : Int) else 0) = r.2 + ((shW ws hs).length : Nat)
      rw [tw.c1 ok hg, if_pos hg, if_neg (fun z => ok.ap _ z hg), shW_val hr, shW_len]; omega
  exact ⟨by show 2 ≤ sizeLine; decide, fun pt hpt => ⟨_, rfl, q pt _ DH.put_same (t12.new hpt)⟩⟩
theorem tl_32 (hp : G.ob pa = some (.lst true [.bl true, .bl true]))
    (q : ∀ G', Sub G G' → EE.nx [z0, some (.ref a), z2, some (.ref o1), some (.ref o2), some (.ref m1), some (.ref m2), z7, z8, z9, z10, z11, z12, z13, z14, z15, z16, z17, z18, z19, z20, z21, some (.ref pa), z23, z24, z25, z26] G') : w_law_32 K EE [z0, some (.ref a), z2, some (.ref o1), some (.ref o2), some (.ref m1), some (.ref m2), z7, z8, z9, z10, z11, z12, z13, z14, z15, z16, z17, z18, z19, z20, z21, some (.ref pa), z23, z24, z25, z26] G := by
  unfold w_law_32; dsimp only [wSeq, wSetIx, wOp, wC, wB, wIfS, wAsg, wCB, wCons, wNil, wRet, wRetN, wAnd, wOr, wNot, wAndV, wOrV, wNotV, wIf, wTup, wLst, wBM, wNext, wExpr, wUn, wChain, wCall, wSl, wPart, wNoPart, wNever, wLkS, wStar, wStarItems, wListItems, wSumVals, wFld, wSetFld, wMake, wMeth, wCallK, wDisp, wEmp, wPairs, wLk, wBreak, wCont, asg, asgs]
  refine x_var rfl ⟨by show 2 ≤ sizeLine; decide, fun pe hpe => ?_⟩
  have t1 := (Sub.refl G).new (o := .lst true [.bl true, .bl true]) hpe
  exact two_true (t1.ob _ _ hp) DH.put_same _ _ _ (Sub.refl _) ⟨_, rfl, itF (q _ t1)⟩
theorem tl_34 (ok : Ok2 ws us) (kn : Kn K w G o1 o2 m1 e1 m2 e2 ws us)
    (q : ∀ G', Sub G G' → EE.nx [z0, some (.ref a), z2, some (.ref o1), some (.ref o2), z5, z6, some (.str (kp ws us)), z8, z9, z10, z11, z12, z13, z14, z15, z16, z17, z18, z19, z20, z21, z22, z23, z24, z25, z26] G') : w_law_34 K EE [z0, some (.ref a), z2, some (.ref o1), some (.ref o2), z5, z6, some (.str (kp ws us)), z8, z9, z10, z11, z12, z13, z14, z15, z16, z17, z18, z19, z20, z21, z22, z23, z24, z25, z26] G := by
  unfold w_law_34; dsimp only [wSeq, wSetIx, wOp, wC, wB, wIfS, wAsg, wCB, wCons, wNil, wRet, wRetN, wAnd, wOr, wNot, wAndV, wOrV, wNotV, wIf, wTup, wLst, wBM, wNext, wExpr, wUn, wChain, wCall, wSl, wPart, wNoPart, wNever, wLkS, wStar, wStarItems, wListItems, wSumVals, wFld, wSetFld, wMake, wMeth, wCallK, wDisp, wEmp, wPairs, wLk, wBreak, wCont, asg, asgs]
  refine x_var rfl (x_var rfl ⟨by show 2 ≤ sizeLine; decide, fun pe hpe => ?_⟩)
  have t1 := (Sub.refl G).new (o := .lst true [.ref o1, .ref o2]) hpe
  refine x_repr2 DH.put_same (t1.ob _ _ kn.d1) (t1.ob _ _ kn.d2) ok (x_var rfl (x_neS ⟨_, rfl, ?_⟩))
  rw [decide_eq_true (rfl : kp ws us = kp ws us)]
  exact itF (q _ t1)
end
end Q7

namespace Q7
open PySem PySem.Spec PyProof.Rows L2
section
variable {K : PySem.W.Frag} {G G0 : DH} {Q : DK} {E : DX} {EE : DEnds} {a o1 o2 m1 e1 m2 e2 : Addr} {n : Int} {w : Bool} {ws us : W} {hs is : List Hand} {zk : Str} {z0 z1 z2 z3 z4 z5 z6 z7 z8 z9 z10 z11 z12 z13 z14 z15 z16 z17 z18 z19 z20 z21 z22 z23 z24 z25 z26 : Option D}
theorem Shw.mono {B T B' T' : Nat} {p : PyData} (h : Shw B T p) (hB : B ≤ B') (hT : T ≤ T') : Shw B' T' p := ⟨h.g, by have := h.r; omega, h.s, by have := h.t; omega⟩
theorem Two.names (tw : Two ws us hs is) (ok : Ok2 ws us) : (∀ h ∈ hs, nameOk h.1 ∧ nameOk h.2) ∧ ∀ h ∈ is, nameOk h.1 ∧ nameOk h.2 := by
  have nm : ∀ {ws : W}, WOk ws → ∀ g ∈ ws.map (·.1), nameOk g := fun ok g hg => by
    obtain ⟨p, hp, e⟩ := List.mem_map.mp hg
    subst e
    exact ok.names p hp
  exact ⟨fun h hh => ⟨nm ok.ok1 _ ((tw.web1 ok).i h hh).1, nm ok.ok1 _ ((tw.web1 ok).i h hh).2.1⟩, fun h hh => ⟨nm ok.ok2 _ ((tw.web2 ok).i h hh).1, nm ok.ok2 _ ((tw.web2 ok).i h hh).2.1⟩⟩
theorem tl_18 (kf : KF K) (h : SA G a n) (hn : n + 5000000 < big) (ok : Ok2 ws us) (kn : Kn K false G o1 o2 m1 e1 m2 e2 ws us)
    (q : ∀ (z0 z2 z8 z9 z10 z11 z12 z13 z14 z15 z16 z17 z18 z19 z20 z21 z22 z23 z24 z25 z26 : Option D) G', Sub (fr G) G' → SA G' a (n + 5000000) → EE.nx [z0, some (.ref a), z2, some (.ref o1), some (.ref o2), some (.ref m1), some (.ref m2), some (.str zk), z8, z9, z10, z11, z12, z13, z14, z15, z16, z17, z18, z19, z20, z21, z22, z23, z24, z25, z26] G') : w_law_18 K EE [z0, some (.ref a), z2, some (.ref o1), some (.ref o2), some (.ref m1), some (.ref m2), some (.str zk), z8, z9, z10, z11, z12, z13, z14, z15, z16, z17, z18, z19, z20, z21, z22, z23, z24, z25, z26] G := by
  unfold w_law_18
  refine x_for (x_wiR1 ?_)
  dsimp only [wSeq, wSetIx, wOp, wC, wB, wIfS, wAsg, wCB, wCons, wNil, wRet, wRetN, wAnd, wOr, wNot, wAndV, wOrV, wNotV, wIf, wTup, wLst, wBM, wNext, wExpr, wUn, wChain, wCall, wSl, wPart, wNoPart, wNever, wLkS, wStar, wStarItems, wListItems, wSumVals, wFld, wSetFld, wMake, wMeth, wCallK, wDisp, wEmp, wPairs, wLk, wBreak, wCont, asg, asgs]
  refine x_r1 3 (by omega) ?_
  refine ⟨fun t δ' G' => ∃ (z0 z2 z8 z9 z10 z11 z12 z13 z14 z15 z16 z17 z18 z19 z20 z21 z22 z23 z24 z25 z26 : Option D), δ' = [z0, some (.ref a), z2, some (.ref o1), some (.ref o2), some (.ref m1), some (.ref m2), some (.str zk), z8, z9, z10, z11, z12, z13, z14, z15, z16, z17, z18, z19, z20, z21, z22, z23, z24, z25, z26] ∧ Sub (fr G) G' ∧ SA G' a (n + 1000000 * t), ⟨z0, z2, z8, z9, z10, z11, z12, z13, z14, z15, z16, z17, z18, z19, z20, z21, z22, z23, z24, z25, z26, rfl, Sub.frr G, h.mono (by omega)⟩, fun _ _ _ _ => trivial, ?_, ?_⟩
  · rintro t y δ' G' hy ⟨z0, z2, z8, z9, z10, z11, z12, z13, z14, z15, z16, z17, z18, z19, z20, z21, z22, z23, z24, z25, z26, rfl, s, sa⟩
    obtain ⟨ey, hlt⟩ := rngD_at hy
    refine ⟨_, rfl, ?_⟩
    have kn1 := kn.fr s
    refine tl_19 sa (by omega) ok kn1 fun p1 p2 hs is G1 tw g1 g2 s1 sa1 => ?_
    have kn2 := kn1.fr s1
    refine tl_20 ok kn2 fun pa z17 G2 s2 g3 => ?_
    refine tl_23 (sa1.sub s2) (by omega) ok tw (s2.ob _ _ g1) (s2.ob _ _ g2) g3 fun pd q1 q2 ph y1 y2 L1 L2 G3 dues hh s3 sa3 => ?_
    have s13 : Sub (fr G1) G3 := Sub.frt (Sub.trans (Sub.frr G1) s2) s3
    have kn3 := kn2.fr s13
    have g1' := s13.ob _ _ g1
    have g2' := s13.ob _ _ g2
    have nm := tw.names ok
    obtain ⟨pA, dA, sA⟩ := hands_py hh.a1 hh.b1 nm.1 (prs36 ok.l1 tw.s1)
    obtain ⟨pB, dB, sB⟩ := hands_py hh.a2 hh.b2 nm.2 (prs36 ok.l2 tw.s2)
    have dt : DT G3 (.list [pA, pB]) (.ref ph) := ⟨ph, _, true, rfl, hh.h, ⟨_, _, rfl, dA, ⟨_, _, rfl, dB, rfl⟩⟩⟩
    have sh : Shw 16000000 60 (.list [pA, pB]) := (shw_seq (B := 3 + 3600 * 413) (T := 2) (M := 2) (ps := [pA, pB]) (fun q hq => by
      rcases List.mem_cons.mp hq with e | hq
      · subst e; exact sA
      rcases List.mem_cons.mp hq with e | hq
      · subst e; exact sB
      · cases hq) (Nat.le_refl _) (.inl rfl)).mono (by omega) (by omega)
    refine tl_24 kf kn3 ok tw hh dt sh rfl fun pf w1 w2 G4 f4 => ?_
    refine tl_25 kf kn3 ok tw g1' g2' f4 (by show 2 ≤ 3; decide) fun w3 G5 f5 => ?_
    refine tl_26 kf kn3 ok tw g1' g2' f5 (by show 3 ≤ 3; decide) fun w4 G6 f6 => ?_
    refine tl_27 dues dt sh rfl f6 ok tw fun G7 s7 => ?_
    have f7 : FS G3 G7 pf ([w1, w2] ++ [w3] ++ [w4]) [srtH (hs ++ is), srtH (hs ++ is ++ acrW ws us), srtH (hs ++ is), srtH (hs ++ is ++ acrW ws us)] := ⟨s7.ob _ _ f6.f, f6.s.trans s7, f6.n, f6.p, f6.l, fun i p hp => by
      obtain ⟨ks, h1, h2⟩ := f6.c i p hp
      exact ⟨ks, h1, s7.ob _ _ h2⟩, f6.nd⟩
    have l1 := prs36 ok.l1 tw.s1
    have l2 := prs36 ok.l2 tw.s2
    have l3 : (acrW ws us).length ≤ 36 := by rw [acrW_len]; exact Nat.mul_le_mul ok.l1 ok.l2
    have k1 : (srtH (hs ++ is)).length ≤ 100000 := by rw [(srtH_perm _).length_eq, List.length_append]; omega
    have k2 : (srtH (hs ++ is ++ acrW ws us)).length ≤ 100000 := by rw [(srtH_perm _).length_eq, List.length_append, List.length_append]; omega
    refine tl_29 f7 (by show 4 ≤ 100000; decide) (fun ks hk => ?_) fun G8 s8 => ?_
    · rcases List.mem_cons.mp hk with e | hk
      · subst e; exact k1
      rcases List.mem_cons.mp hk with e | hk
      · subst e; exact k2
      rcases List.mem_cons.mp hk with e | hk
      · subst e; exact k1
      rcases List.mem_cons.mp hk with e | hk
      · subst e; exact k2
      · cases hk
    have s8' : Sub (fr G3) G8 := Sub.trans (Sub.frr G3) s8
    refine tl_30 (sa3.sub s8) (by omega) ok tw (kn3.fr s8') (s8.ob _ _ g1') (s8.ob _ _ g2') fun pp b1 d1 b2 d2 G9 hp kb1 kb2 s9 sa9 => ?_
    refine tl_31 kf ok tw ((dues.fr s8').fr s9) hp kb1 kb2 fun pt G10 hpt s10 => ?_
    refine tl_32 hpt fun G11 s11 => ?_
    refine ⟨_, _, _, _, _, _, _, _, _, _, _, _, _, _, _, _, _, _, _, _, _, rfl, ?_, SA.mono ((sa9.sub s10).sub s11) (by omega)⟩
    exact Sub.frt s (Sub.frt s1 (Sub.frt s13 (Sub.frt s8' (Sub.trans (Sub.trans s9 s10) s11))))
  · rintro δ' G' ⟨z0, z2, z8, z9, z10, z11, z12, z13, z14, z15, z16, z17, z18, z19, z20, z21, z22, z23, z24, z25, z26, rfl, s, sa⟩
    rw [rngD_len] at sa
    exact q z0 z2 z8 z9 z10 z11 z12 z13 z14 z15 z16 z17 z18 z19 z20 z21 z22 z23 z24 z25 z26 G' s (sa.mono (by omega))
theorem SA.st {G : DH} {a : Addr} {n : Int} (h : SA G a n) : ∃ S, G.st = some S := ⟨h.choose, h.choose_spec.1⟩
theorem tl_0 (kf : KF K) (h : SA G a n) (hn : n + 200000000 < big)
    (q : ∀ (z0 z2 z3 z4 z5 z6 z7 z8 z9 z10 z11 z12 z13 z14 z15 z16 z17 z18 z19 z20 z21 z22 z23 z24 z25 z26 : Option D) G', SA G' a (n + 200000000) → EE.nx [z0, some (.ref a), z2, z3, z4, z5, z6, z7, z8, z9, z10, z11, z12, z13, z14, z15, z16, z17, z18, z19, z20, z21, z22, z23, z24, z25, z26] G') : w_law_0 K EE [z0, some (.ref a), z2, z3, z4, z5, z6, z7, z8, z9, z10, z11, z12, z13, z14, z15, z16, z17, z18, z19, z20, z21, z22, z23, z24, z25, z26] G := by
  unfold w_law_0
  refine x_for (x_wiR1 ?_)
  dsimp only [wSeq, wSetIx, wOp, wC, wB, wIfS, wAsg, wCB, wCons, wNil, wRet, wRetN, wAnd, wOr, wNot, wAndV, wOrV, wNotV, wIf, wTup, wLst, wBM, wNext, wExpr, wUn, wChain, wCall, wSl, wPart, wNoPart, wNever, wLkS, wStar, wStarItems, wListItems, wSumVals, wFld, wSetFld, wMake, wMeth, wCallK, wDisp, wEmp, wPairs, wLk, wBreak, wCont, asg, asgs]
  refine x_r1 8 (by omega) ?_
  refine ⟨fun t δ' G' => ∃ (z0 z2 z3 z4 z5 z6 z7 z8 z9 z10 z11 z12 z13 z14 z15 z16 z17 z18 z19 z20 z21 z22 z23 z24 z25 z26 : Option D), δ' = [z0, some (.ref a), z2, z3, z4, z5, z6, z7, z8, z9, z10, z11, z12, z13, z14, z15, z16, z17, z18, z19, z20, z21, z22, z23, z24, z25, z26] ∧ SA G' a (n + 20000000 * t), ⟨z0, z2, z3, z4, z5, z6, z7, z8, z9, z10, z11, z12, z13, z14, z15, z16, z17, z18, z19, z20, z21, z22, z23, z24, z25, z26, rfl, h.mono (by omega)⟩, fun _ _ _ _ => trivial, ?_, ?_⟩
  · rintro t y δ' G' hy ⟨z0, z2, z3, z4, z5, z6, z7, z8, z9, z10, z11, z12, z13, z14, z15, z16, z17, z18, z19, z20, z21, z22, z23, z24, z25, z26, rfl, sa⟩
    obtain ⟨ey, hlt⟩ := rngD_at hy
    have ey' : y = .int t := by rw [ey, Int.zero_add]
    subst ey'
    refine ⟨_, rfl, ?_⟩
    refine tl_1 sa (by omega) fun o1 o2 ws us G1 ok d1 d2 _ sa1 => ?_
    refine tl_2 sa1 (by omega) ok d1 d2 fun o1 o2 ws us G2 ok d1 d2 sa2 => ?_
    refine tl_4 sa2 (by omega) ok d1 d2 fun m1 e1 m2 e2 G3 kn sa3 => ?_
    refine tl_5 ok kn fun du G4 n1 n2 hdu s4 => ?_
    refine tl_6 (sa3.sub s4) ok (kn.fr (Sub.trans (Sub.frr G3) s4)) n1 n2 hdu fun r G5 kn5 hdu5 hr sa5 => ?_
    refine tl_7 ok hr fun fa G6 s6 hfa => ?_
    have kn6 := kn5.fr (Sub.trans (Sub.frr G5) s6)
    refine tl_8 kf ok kn6 fun f L G7 hL hf hA s7 => ?_
    have kn7 := kn6.fr (Sub.trans (Sub.frr G6) s7)
    have sa7 := (sa5.sub s6).sub s7
    refine tl_9 kf ok kn7 hf hL hA (fun M G8 hM hf8 hA8 hB8 k8 st8 => ?_) sa7.st
    have kn8 : Kn K false G8 o1 o2 m1 e1 m2 e2 ws us := ⟨k8 _ _ (fun _ _ z => nomatch z) kn7.d1, k8 _ _ (fun _ _ z => nomatch z) kn7.d2, ⟨k8 _ _ (fun _ _ z => nomatch z) kn7.p1.p, k8 _ _ (fun _ _ z => nomatch z) kn7.p1.w⟩, ⟨k8 _ _ (fun _ _ z => nomatch z) kn7.p2.p, k8 _ _ (fun _ _ z => nomatch z) kn7.p2.w⟩⟩
    have sa8 : SA G8 a (n + 20000000 * t + 400000 + 400000 + 400000) := by
      obtain ⟨S, h1, h2⟩ := sa7
      exact ⟨S, st8.trans h1, h2⟩
    refine tl_10 ok hL hM hf8 hA8 hB8 (k8 _ _ (fun _ _ z => nomatch z) (s7.ob _ _ (s6.ob _ _ hdu5))) (k8 _ _ (fun _ _ z => nomatch z) (s7.ob _ _ hfa)) fun G9 s9 => ?_
    have kn9 := kn8.fr (Sub.trans (Sub.frr G8) s9)
    refine tl_12 kf ok kn9 fun g G10 hg s10 => ?_
    have kn10 := kn9.fr (Sub.trans (Sub.frr G9) s10)
    refine tl_13 kf ok kn10 hg fun G11 s11 => ?_
    have kn11 := kn10.fr (Sub.trans (Sub.frr G10) s11)
    refine tl_15 kf ok kn11 fun G12 s12 => ?_
    have kn12 := kn11.fr (Sub.trans (Sub.frr G11) s12)
    have sa12 := (((sa8.sub s9).sub s10).sub s11).sub s12
    refine tl_18 kf sa12 (by omega) ok kn12 fun z0 z2 z8 z9 z10 z11 z12 z13 z14 z15 z16 z17 z18 z19 z20 z21 z22 z23 z24 z25 z26 G13 s13 sa13 => ?_
    refine tl_34 ok (kn12.fr s13) fun G14 s14 => ?_
    exact ⟨_, _, _, _, _, _, _, _, _, _, _, _, _, _, _, _, _, _, _, _, _, _, _, _, _, _, rfl, SA.mono (sa13.sub s14) (by omega)⟩
  · rintro δ' G' ⟨z0, z2, z3, z4, z5, z6, z7, z8, z9, z10, z11, z12, z13, z14, z15, z16, z17, z18, z19, z20, z21, z22, z23, z24, z25, z26, rfl, sa⟩
    rw [rngD_len] at sa
    exact q z0 z2 z3 z4 z5 z6 z7 z8 z9 z10 z11 z12 z13 z14 z15 z16 z17 z18 z19 z20 z21 z22 z23 z24 z25 z26 G' (sa.mono (by omega))
end
end Q7

namespace Q7
open PySem PySem.Spec PyProof.Rows L2
/-! ### the fixed example -/
def xA : W := [("a", 1), ("b", 1)]
def xB : W := [("c", 0)]
def xJ : W := [("a", 1), ("b", 1), ("c", 0)]
def xC : W := [("a", 2), ("b", 2), ("c", 2)]
def xh : List Hand := [("a", "b")]
def xH : List Hand := [("a", "b"), ("a", "c"), ("b", "c")]
def rA : List D := [.tup [.str "a", .int 1], .tup [.str "b", .int 1]]
def rB : List D := [.tup [.str "c", .int 0]]
theorem rA_ok {G : DH} : RowsD rA xA G := rfl
theorem rB_ok {G : DH} : RowsD rB xB G := rfl
theorem xA_ok : WOk xA := ⟨by decide +kernel, by decide +kernel, by decide +kernel, by decide⟩
theorem xB_ok : WOk xB := ⟨by decide +kernel, by decide +kernel, by decide +kernel, by decide⟩
theorem x_ok2 : Ok2 xA xB := ⟨xA_ok, xB_ok, by unfold Low; decide +kernel, by unfold Low; decide +kernel, by unfold Apart; decide +kernel, by decide, by decide⟩
theorem srtW_of {ws : W} (h : ws.Pairwise fun p q => leS p.1 q.1 = true) : srtW ws = ws := List.mergeSort_of_pairwise h
theorem srtH_of {hs : List Hand} (h : hs.Pairwise fun p q => leH p q = true) : srtH hs = hs := List.mergeSort_of_pairwise h
theorem x_j : srtW (xA ++ xB) = xJ := srtW_of (by decide +kernel)
theorem x_c : srtW (crW xA xB) = xC := by
  have e : crW xA xB = xC := by decide +kernel
  rw [e]
  exact srtW_of (by decide +kernel)
theorem x_a : srtW xA = xA := srtW_of (by decide +kernel)
theorem x_b : srtW xB = xB := srtW_of (by decide +kernel)
theorem x_h : srtH (xh ++ [] ++ acrW xA xB) = xH := by
  have e : xh ++ [] ++ acrW xA xB = xH := by decide +kernel
  rw [e]
  exact srtH_of (by decide +kernel)
theorem x_web : WebOk (xA.map (·.1)) xh := ⟨by decide +kernel, by decide +kernel, by decide⟩
theorem x_web0 : WebOk (xB.map (·.1)) [] := ⟨fun _ h => (nomatch h), .nil, by decide⟩
section
variable {K : PySem.W.Frag} {G : DH} {Q : DK} {E : DX} {EE : DEnds} {a m1 e1 m2 e2 : Addr} {n : Int} {z0 z1 z2 z3 z4 z5 z6 z7 z8 z9 z10 z11 z12 z13 z14 z15 z16 z17 z18 z19 z20 z21 z22 z23 z24 z25 z26 : Option D}
theorem x_makeR {rows : D} {ds : List D} {ws : W} {R : Addr → DH → Prop} (h : SeqD rows ds G) (hr : RowsD ds ws G) (ok : WOk ws) (q : ∀ a d G', G.ob a = none → Sub G G' → PartyAt K G' a d (srtW ws) → R a G') : ∀ x, G.ob x = none → sp_m_Party_init K [.ref x, rows] (G.put x (.ins (He.ga K "Party") [])) (fun v G2 => v = .non ∧ R x G2) DX0 := fun x hx => by
    have := x_make (K := K) (Q := fun d G2 => ∀ y, d = .ref y → R y G2) h hr ok (fun a d G' h1 h2 h3 y e => by cases e; exact q a d G' h1 h2 h3) x hx
    have e : (fun v G2 => v = D.non ∧ ∀ y, D.ref x = .ref y → R y G2) = (fun v G2 => v = D.non ∧ R x G2) := by
      funext v G2
      exact propext ⟨fun z => ⟨z.1, z.2 x rfl⟩, fun z => ⟨z.1, fun y e => by cases e; exact z.2⟩⟩
    rw [e] at this
    exact this
theorem tl_36 (q : ∀ m1 e1 m2 e2 G', PartyAt K G' m1 e1 (srtW xA) → PartyAt K G' m2 e2 (srtW xB) → EE.nx [z0, some (.ref a), z2, some (.ref m1), some (.ref m2), z5, z6, z7, z8, z9, z10, z11, z12, z13, z14, z15, z16, z17, z18, z19, z20, z21, z22, z23, z24, z25, z26] G') : w_law_36 K EE [z0, some (.ref a), z2, z3, z4, z5, z6, z7, z8, z9, z10, z11, z12, z13, z14, z15, z16, z17, z18, z19, z20, z21, z22, z23, z24, z25, z26] G := by
  unfold w_law_36; dsimp only [wSeq, wSetIx, wOp, wC, wB, wIfS, wAsg, wCB, wCons, wNil, wRet, wRetN, wAnd, wOr, wNot, wAndV, wOrV, wNotV, wIf, wTup, wLst, wBM, wNext, wExpr, wUn, wChain, wCall, wSl, wPart, wNoPart, wNever, wLkS, wStar, wStarItems, wListItems, wSumVals, wFld, wSetFld, wMake, wMeth, wCallK, wDisp, wEmp, wPairs, wLk, wBreak, wCont, asg, asgs]
  refine ⟨by show 2 ≤ sizeLine; decide, by show 2 ≤ sizeLine; decide, by show 2 ≤ sizeLine; decide, fun l hl => ?_⟩
  refine x_makeR (ds := rA) (ws := xA) (.inl ⟨l, true, rfl, DH.put_same⟩) rA_ok xA_ok fun m1 e1 G1 _ s1 k1 => ?_
  refine ⟨by show 2 ≤ sizeLine; decide, by show 1 ≤ sizeLine; decide, fun l2 hl2 => ?_⟩
  refine x_makeR (ds := rB) (ws := xB) (.inl ⟨l2, true, rfl, DH.put_same⟩) rB_ok xB_ok fun m2 e2 G2 _ s2 k2 => ⟨by show 2 ≤ sizeLine; decide, _, rfl, ?_⟩
  exact q m1 e1 m2 e2 G2 (k1.sub (((Sub.refl G1).new hl2).trans s2)) k2
theorem tl_37 (kf : KF K) (k1 : PartyAt K G m1 e1 (srtW xA)) (k2 : PartyAt K G m2 e2 (srtW xB))
    (q : ∀ f q1 v1 q2 v2 q3 G', G'.ob f = some (.lst true [.ref q1, .ref q2, .ref q3]) → G'.ob q1 = some (.dct v1 (wd (srtW (xA ++ xB)))) → G'.ob q2 = some (.dct v2 (wd (srtW (crW xA xB)))) → G'.ob q3 = some (.lst true ((srtH (xh ++ [] ++ acrW xA xB)).map hD)) → EE.nx [z0, some (.ref a), z2, some (.ref m1), some (.ref m2), z5, z6, z7, z8, z9, z10, some (.ref f), z12, z13, z14, z15, z16, z17, z18, z19, z20, z21, z22, z23, z24, z25, z26] G') : w_law_37 K EE [z0, some (.ref a), z2, some (.ref m1), some (.ref m2), z5, z6, z7, z8, z9, z10, z11, z12, z13, z14, z15, z16, z17, z18, z19, z20, z21, z22, z23, z24, z25, z26] G := by
  unfold w_law_37; dsimp only [wSeq, wSetIx, wOp, wC, wB, wIfS, wAsg, wCB, wCons, wNil, wRet, wRetN, wAnd, wOr, wNot, wAndV, wOrV, wNotV, wIf, wTup, wLst, wBM, wNext, wExpr, wUn, wChain, wCall, wSl, wPart, wNoPart, wNever, wLkS, wStar, wStarItems, wListItems, wSumVals, wFld, wSetFld, wMake, wMeth, wCallK, wDisp, wEmp, wPairs, wLk, wBreak, wCont, asg, asgs]
  refine x_var rfl (x_var rfl (k_joined kf k1 k2 x_ok2 fun j d G1 s1 pj => wants_then pj fun q1 v1 G2 s2 h1 => ?_))
  have s12 := s1.trans s2
  refine x_var rfl (x_var rfl (k_crossed kf (k1.sub s12) (k2.sub s12) x_ok2 fun c d' G3 s3 pc => wants_then pc fun q2 v2 G4 s4 h2 => ?_))
  have s34 := s3.trans s4
  refine x_var rfl (x_var rfl ⟨by show 2 ≤ sizeLine; decide, by show 1 ≤ sizeLine; decide, fun l1 hl1 => ⟨by show 0 ≤ sizeLine; omega, fun l2 hl2 => ?_⟩⟩)
  have s5 := ((Sub.refl G4).new (o := .lst true [.tup [.str "a", .str "b"]]) hl1).new (o := .lst true []) hl2
  have e5 := ((Sub.refl (G4.put l1 (.lst true [.tup [.str "a", .str "b"]]))).new (o := .lst true []) hl2).ob _ _ DH.put_same
  have sA := (s12.trans s34).trans s5
  refine t_webs_crossed kf (k1.sub sA) (k2.sub sA) x_ok2.ap.srt (by rw [srt_len]; decide) (by rw [srt_len]; decide) (hs := xh) (hs' := []) (.inl ⟨l1, true, rfl, e5⟩) rfl (x_web.keys fun g => (srt_keys xA g).mp) (.inl ⟨l2, true, rfl, DH.put_same⟩) rfl (x_web0.keys fun g => (srt_keys xB g).mp) fun q3 hq3 => ?_
  rw [x_a, x_b]
  refine ⟨by show 3 ≤ sizeLine; decide, fun f hf => ⟨_, rfl, ?_⟩⟩
  have s6 := (s5.new (o := .lst true ((srtH (xh ++ [] ++ acrW xA xB)).map hD)) hq3).new (o := .lst true [.ref q1, .ref q2, .ref q3]) hf
  exact q f q1 v1 q2 v2 q3 _ DH.put_same (s6.ob _ _ (s34.ob _ _ h1)) (s6.ob _ _ h2) (((Sub.refl _).new hf).ob _ _ DH.put_same)
theorem tl_38 {f q1 q2 q3 : Addr} {v1 v2 : Bool} (h0 : G.ob f = some (.lst true [.ref q1, .ref q2, .ref q3])) (h1 : G.ob q1 = some (.dct v1 (wd (srtW (xA ++ xB))))) (h2 : G.ob q2 = some (.dct v2 (wd (srtW (crW xA xB))))) (h3 : G.ob q3 = some (.lst true ((srtH (xh ++ [] ++ acrW xA xB)).map hD)))
    (q : ∀ G', EE.rt (.bl true) G') : w_law_38 K EE [z0, some (.ref a), z2, some (.ref m1), some (.ref m2), z5, z6, z7, z8, z9, z10, some (.ref f), z12, z13, z14, z15, z16, z17, z18, z19, z20, z21, z22, z23, z24, z25, z26] G := by
  unfold w_law_38; dsimp only [wSeq, wSetIx, wOp, wC, wB, wIfS, wAsg, wCB, wCons, wNil, wRet, wRetN, wAnd, wOr, wNot, wAndV, wOrV, wNotV, wIf, wTup, wLst, wBM, wNext, wExpr, wUn, wChain, wCall, wSl, wPart, wNoPart, wNever, wLkS, wStar, wStarItems, wListItems, wSumVals, wFld, wSetFld, wMake, wMeth, wCallK, wDisp, wEmp, wPairs, wLk, wBreak, wCont, asg, asgs]
  rw [x_j] at h1
  rw [x_c] at h2
  rw [x_h] at h3
  refine x_var rfl ?_
  intro r1 hr1
  refine ⟨wd xJ, rfl, DH.put_same, by decide, ?_⟩
  rw [mergeA_nodup (wd_nodup (by decide +kernel)), DH.put_put]
  refine Or.inl ?_
  have s1 := (Sub.refl G).new (o := .dct true (wd xJ)) hr1
  have e1 : (G.put r1 (.dct true (wd xJ))).ob r1 = some (.dct true (wd xJ)) := DH.put_same
  generalize G.put r1 (.dct true (wd xJ)) = G1 at s1 e1 ⊢
  intro r2 hr2
  refine ⟨wd xC, rfl, DH.put_same, by decide, ?_⟩
  rw [mergeA_nodup (wd_nodup (by decide +kernel)), DH.put_put]
  refine Or.inl ?_
  have s2 := (Sub.refl G1).new (o := .dct true (wd xC)) hr2
  have e2 : (G1.put r2 (.dct true (wd xC))).ob r2 = some (.dct true (wd xC)) := DH.put_same
  generalize G1.put r2 (.dct true (wd xC)) = G2 at s2 e2 ⊢
  refine ⟨by show 2 ≤ sizeLine; decide, by show 2 ≤ sizeLine; decide, by show 2 ≤ sizeLine; decide, by show 3 ≤ sizeLine; decide, fun r3 hr3 => ⟨by show 3 ≤ sizeLine; decide, fun r4 hr4 => ?_⟩⟩
  have s3 := (Sub.refl G2).new (o := .lst true (xH.map hD)) hr3
  have s4 := s3.new (o := .lst true [.ref r1, .ref r2, .ref r3]) hr4
  have e3 := ((Sub.refl (G2.put r3 (.lst true (xH.map hD)))).new (o := .lst true [.ref r1, .ref r2, .ref r3]) hr4).ob _ _ DH.put_same
  have sA := (s1.trans s2).trans s4
  refine same_lst (n := 5) (sA.ob _ _ h0) DH.put_same rfl (by show 3 ≤ 100000; decide) (fun k x y hx hy => ?_) _ _ _ (Sub.refl _) (q _)
  match k, hx, hy with
  | 0, hx, hy =>
    have ex := Option.some.inj hx
    have ey := Option.some.inj hy
    subst ex; subst ey
    exact same_wd (n := 1) (sA.ob _ _ h1) (s4.ob _ _ (s2.ob _ _ e1)) (by decide)
  | 1, hx, hy =>
    have ex := Option.some.inj hx
    have ey := Option.some.inj hy
    subst ex; subst ey
    exact same_wd (n := 1) (sA.ob _ _ h2) (s4.ob _ _ e2) (by decide)
  | 2, hx, hy =>
    have ex := Option.some.inj hx
    have ey := Option.some.inj hy
    subst ex; subst ey
    exact same_web (n := 2) (sA.ob _ _ h3) e3 (by decide)
  | j + 3, hx, hy => simp at hx
theorem pure_law (K : PySem.W.Frag) : KF K → LawPure N_law (w_law K) := by
  intro kf a p l ns hl hpl
  have sa : SA (lawHeap p l ns) p 0 := ⟨_, rfl, rfl, ⟨by show (0 : Int) ≤ 0; decide, ⟨by show (0 : Int) ≤ 19; decide, by show (19 : Int) < 2147483629; decide⟩, ⟨by show (0 : Int) ≤ 0; decide, by show (0 : Int) ≤ 0; decide⟩⟩⟩
  refine tl_0 kf sa (by decide) fun z0 z2 z3 z4 z5 z6 z7 z8 z9 z10 z11 z12 z13 z14 z15 z16 z17 z18 z19 z20 z21 z22 z23 z24 z25 z26 G1 sa1 => ?_
  refine tl_36 fun m1 e1 m2 e2 G2 k1 k2 => ?_
  refine tl_37 kf k1 k2 fun f q1 v1 q2 v2 q3 G3 h0 h1 h2 h3 => ?_
  exact tl_38 h0 h1 h2 h3 fun _ => rfl
end
end Q7

namespace Q7
open PySem PySem.Spec PyProof.Rows L2
theorem facts {P : Program} {w : World} {K : PySem.W.Frag} {h : Heap} {mg : Str → Option Value} {f : Addr} (X : K.In h) (G : h.Ns mainGlobals mg) (hfa : mg ("law" : Str) = some (.ref f)) (c : He.SaysD fas fns K) (m : exK K = true) (pure : KF K → LawPure N_law (w_law K)) :
    ∃ fd : FuncData, (∀ (s : Shared) (v : Value), BindsTo s fd ⟨[v], []⟩ [("script", v)]) ∧ ∀ base : Heap, K.In base → base.Ns mainGlobals mg → FnOkG P w K mg base CX0 10 f fd ["script"] (spLaw K) := by
  have b : Bl mg := ⟨He.free_ok X G (c.fact 65 (f := .free "abs") rfl), He.free_ok X G (c.fact 66 (f := .free "all") rfl), He.free_ok X G (c.fact 67 (f := .free "any") rfl), He.free_ok X G (c.fact 68 (f := .free "bool") rfl), He.free_ok X G (c.fact 69 (f := .free "dict") rfl), He.free_ok X G (c.fact 70 (f := .free "enumerate") rfl), He.free_ok X G (c.fact 71 (f := .free "int") rfl), He.free_ok X G (c.fact 72 (f := .free "isinstance") rfl), He.free_ok X G (c.fact 73 (f := .free "len") rfl), He.free_ok X G (c.fact 74 (f := .free "list") rfl), He.free_ok X G (c.fact 75 (f := .free "max") rfl), He.free_ok X G (c.fact 76 (f := .free "min") rfl), He.free_ok X G (c.fact 77 (f := .free "range") rfl), He.free_ok X G (c.fact 78 (f := .free "repr") rfl), He.free_ok X G (c.fact 79 (f := .free "sorted") rfl), He.free_ok X G (c.fact 80 (f := .free "str") rfl), He.free_ok X G (c.fact 81 (f := .free "sum") rfl), He.free_ok X G (c.fact 82 (f := .free "tuple") rfl), He.free_ok X G (c.fact 83 (f := .free "zip") rfl)⟩
  have i_Party : CIsi K (He.ga K "Party") := (ex_ok m).1
  have nf_Party : PySem.W.notFirst K (He.ga K "Party") (.ref (He.ga K "Party")) = true := (ex_ok m).2
  have kf : KF K := ⟨He.cls_ok (c.fact 14 (f := .cls "Party") rfl), (ex_ok m).1⟩
  have g_LETTERS := He.str_ok X G (c.fact 0 (f := .str "LETTERS" "abcdefghijklmnopqrstuvwxyz") rfl)
  have c_Party := He.cls_ok (c.fact 14 (f := .cls "Party") rfl)
  have n_Party_own_wants := He.noat_ok (c.fact 20 (f := .noat "Party" "own_wants") rfl)
  have g_Party := He.glo_ok X G (c.fact 13 (f := .glo "Party") rfl)
  obtain ⟨fd_is_list, D_is_list⟩ := c.def_ 0 (d := ⟨("is_list", none), "is_list", "is_list", defArgs (top 2), defBody (top 2), defScope (top 2), [], []⟩) rfl
  have B_is_list : Binds K fd_is_list ["thing"] [] := fun s us _ hl => by
    rw [List.append_nil] at hl ⊢
    exact FunD.bindsA (ps := ["thing"]) D_is_list (fun _ _ _ _ _ _ us hl => match us, hl with | [_], _ => rfl) s us hl
  obtain ⟨fd_is_whole, D_is_whole⟩ := c.def_ 1 (d := ⟨("is_whole", none), "is_whole", "is_whole", defArgs (top 3), defBody (top 3), defScope (top 3), [], []⟩) rfl
  have B_is_whole : Binds K fd_is_whole ["thing"] [] := fun s us _ hl => by
    rw [List.append_nil] at hl ⊢
    exact FunD.bindsA (ps := ["thing"]) D_is_whole (fun _ _ _ _ _ _ us hl => match us, hl with | [_], _ => rfl) s us hl
  obtain ⟨fd_is_number, D_is_number⟩ := c.def_ 2 (d := ⟨("is_number", none), "is_number", "is_number", defArgs (top 4), defBody (top 4), defScope (top 4), [], []⟩) rfl
  have B_is_number : Binds K fd_is_number ["thing"] [] := fun s us _ hl => by
    rw [List.append_nil] at hl ⊢
    exact FunD.bindsA (ps := ["thing"]) D_is_number (fun _ _ _ _ _ _ us hl => match us, hl with | [_], _ => rfl) s us hl
  obtain ⟨fd_is_row, D_is_row⟩ := c.def_ 3 (d := ⟨("is_row", none), "is_row", "is_row", defArgs (top 5), defBody (top 5), defScope (top 5), [], []⟩) rfl
  have B_is_row : Binds K fd_is_row ["thing", "many"] [] := fun s us _ hl => by
    rw [List.append_nil] at hl ⊢
    exact FunD.bindsA (ps := ["thing", "many"]) D_is_row (fun _ _ _ _ _ _ us hl => match us, hl with | [_, _], _ => rfl) s us hl
  obtain ⟨fd_is_name, D_is_name⟩ := c.def_ 4 (d := ⟨("is_name", none), "is_name", "is_name", defArgs (top 6), defBody (top 6), defScope (top 6), [], []⟩) rfl
  have B_is_name : Binds K fd_is_name ["thing"] [] := fun s us _ hl => by
    rw [List.append_nil] at hl ⊢
    exact FunD.bindsA (ps := ["thing"]) D_is_name (fun _ _ _ _ _ _ us hl => match us, hl with | [_], _ => rfl) s us hl
  obtain ⟨fd_is_rising, D_is_rising⟩ := c.def_ 5 (d := ⟨("is_rising", none), "is_rising", "is_rising", defArgs (top 7), defBody (top 7), defScope (top 7), [], []⟩) rfl
  have B_is_rising : Binds K fd_is_rising ["things"] [] := fun s us _ hl => by
    rw [List.append_nil] at hl ⊢
    exact FunD.bindsA (ps := ["things"]) D_is_rising (fun _ _ _ _ _ _ us hl => match us, hl with | [_], _ => rfl) s us hl
  obtain ⟨fd_first_bad_row, D_first_bad_row⟩ := c.def_ 6 (d := ⟨("first_bad_row", none), "first_bad_row", "first_bad_row", defArgs (top 15), defBody (top 15), defScope (top 15), [], []⟩) rfl
  have B_first_bad_row : Binds K fd_first_bad_row ["rows"] [] := fun s us _ hl => by
    rw [List.append_nil] at hl ⊢
    exact FunD.bindsA (ps := ["rows"]) D_first_bad_row (fun _ _ _ _ _ _ us hl => match us, hl with | [_], _ => rfl) s us hl
  obtain ⟨fd_m_Party_init, D_m_Party_init⟩ := c.def_ 7 (d := ⟨("Party", some "__init__"), "__init__", "Party.__init__", defArgs (inClass (top 16) 0), defBody (inClass (top 16) 0), defScope (inClass (top 16) 0), [], []⟩) rfl
  have B_m_Party_init : Binds K fd_m_Party_init ["self", "rows"] [] := fun s us _ hl => by
    rw [List.append_nil] at hl ⊢
    exact FunD.bindsA (ps := ["self", "rows"]) D_m_Party_init (fun _ _ _ _ _ _ us hl => match us, hl with | [_, _], _ => rfl) s us hl
  obtain ⟨fd_m_Party_wants, D_m_Party_wants⟩ := c.def_ 9 (d := ⟨("Party", some "wants"), "wants", "Party.wants", defArgs (inClass (top 16) 2), defBody (inClass (top 16) 2), defScope (inClass (top 16) 2), [], []⟩) rfl
  have B_m_Party_wants : Binds K fd_m_Party_wants ["self"] [] := fun s us _ hl => by
    rw [List.append_nil] at hl ⊢
    exact FunD.bindsA (ps := ["self"]) D_m_Party_wants (fun _ _ _ _ _ _ us hl => match us, hl with | [_], _ => rfl) s us hl
  obtain ⟨fd_is_guest, D_is_guest⟩ := c.def_ 13 (d := ⟨("is_guest", none), "is_guest", "is_guest", defArgs (top 18), defBody (top 18), defScope (top 18), [], []⟩) rfl
  have B_is_guest : Binds K fd_is_guest ["party", "thing"] [] := fun s us _ hl => by
    rw [List.append_nil] at hl ⊢
    exact FunD.bindsA (ps := ["party", "thing"]) D_is_guest (fun _ _ _ _ _ _ us hl => match us, hl with | [_, _], _ => rfl) s us hl
  obtain ⟨fd_m_Party_eq, D_m_Party_eq⟩ := c.def_ 11 (d := ⟨("Party", some "__eq__"), "__eq__", "Party.__eq__", defArgs (inClass (top 16) 4), defBody (inClass (top 16) 4), defScope (inClass (top 16) 4), [], []⟩) rfl
  have B_m_Party_eq : Binds K fd_m_Party_eq ["self", "other"] [] := fun s us _ hl => by
    rw [List.append_nil] at hl ⊢
    exact FunD.bindsA (ps := ["self", "other"]) D_m_Party_eq (fun _ _ _ _ _ _ us hl => match us, hl with | [_, _], _ => rfl) s us hl
  obtain ⟨fd_check_party, D_check_party⟩ := c.def_ 12 (d := ⟨("check_party", none), "check_party", "check_party", defArgs (top 17), defBody (top 17), defScope (top 17), [], []⟩) rfl
  have B_check_party : Binds K fd_check_party ["party"] [] := fun s us _ hl => by
    rw [List.append_nil] at hl ⊢
    exact FunD.bindsA (ps := ["party"]) D_check_party (fun _ _ _ _ _ _ us hl => match us, hl with | [_], _ => rfl) s us hl
  obtain ⟨fd_is_hand, D_is_hand⟩ := c.def_ 15 (d := ⟨("is_hand", none), "is_hand", "is_hand", defArgs (top 20), defBody (top 20), defScope (top 20), [], []⟩) rfl
  have B_is_hand : Binds K fd_is_hand ["party", "thing"] [] := fun s us _ hl => by
    rw [List.append_nil] at hl ⊢
    exact FunD.bindsA (ps := ["party", "thing"]) D_is_hand (fun _ _ _ _ _ _ us hl => match us, hl with | [_, _], _ => rfl) s us hl
  obtain ⟨fd_is_web_of, D_is_web_of⟩ := c.def_ 16 (d := ⟨("is_web_of", none), "is_web_of", "is_web_of", defArgs (top 21), defBody (top 21), defScope (top 21), [], []⟩) rfl
  have B_is_web_of : Binds K fd_is_web_of ["party", "thing"] [] := fun s us _ hl => by
    rw [List.append_nil] at hl ⊢
    exact FunD.bindsA (ps := ["party", "thing"]) D_is_web_of (fun _ _ _ _ _ _ us hl => match us, hl with | [_, _], _ => rfl) s us hl
  obtain ⟨fd_check_web, D_check_web⟩ := c.def_ 17 (d := ⟨("check_web", none), "check_web", "check_web", defArgs (top 22), defBody (top 22), defScope (top 22), [], []⟩) rfl
  have B_check_web : Binds K fd_check_web ["party", "web"] [] := fun s us _ hl => by
    rw [List.append_nil] at hl ⊢
    exact FunD.bindsA (ps := ["party", "web"]) D_check_web (fun _ _ _ _ _ _ us hl => match us, hl with | [_, _], _ => rfl) s us hl
  obtain ⟨fd_shaken_of, D_shaken_of⟩ := c.def_ 18 (d := ⟨("shaken_of", none), "shaken_of", "shaken_of", defArgs (top 23), defBody (top 23), defScope (top 23), [], []⟩) rfl
  have B_shaken_of : Binds K fd_shaken_of ["party", "web"] [] := fun s us _ hl => by
    rw [List.append_nil] at hl ⊢
    exact FunD.bindsA (ps := ["party", "web"]) D_shaken_of (fun _ _ _ _ _ _ us hl => match us, hl with | [_, _], _ => rfl) s us hl
  obtain ⟨fd_is_picture, D_is_picture⟩ := c.def_ 19 (d := ⟨("is_picture", none), "is_picture", "is_picture", defArgs (top 24), defBody (top 24), defScope (top 24), [], []⟩) rfl
  have B_is_picture : Binds K fd_is_picture ["party", "thing"] [] := fun s us _ hl => by
    rw [List.append_nil] at hl ⊢
    exact FunD.bindsA (ps := ["party", "thing"]) D_is_picture (fun _ _ _ _ _ _ us hl => match us, hl with | [_, _], _ => rfl) s us hl
  obtain ⟨fd_in_row, D_in_row⟩ := c.def_ 20 (d := ⟨("in_row", none), "in_row", "in_row", defArgs (top 25), defBody (top 25), defScope (top 25), [], []⟩) rfl
  have B_in_row : Binds K fd_in_row ["wants"] [] := fun s us _ hl => by
    rw [List.append_nil] at hl ⊢
    exact FunD.bindsA (ps := ["wants"]) D_in_row (fun _ _ _ _ _ _ us hl => match us, hl with | [_], _ => rfl) s us hl
  obtain ⟨fd_room_for, D_room_for⟩ := c.def_ 21 (d := ⟨("room_for", none), "room_for", "room_for", defArgs (top 30), defBody (top 30), defScope (top 30), [], []⟩) rfl
  have B_room_for : Binds K fd_room_for ["party", "rich", "poor"] [] := fun s us _ hl => by
    rw [List.append_nil] at hl ⊢
    exact FunD.bindsA (ps := ["party", "rich", "poor"]) D_room_for (fun _ _ _ _ _ _ us hl => match us, hl with | [_, _, _], _ => rfl) s us hl
  obtain ⟨fd_lack_of, D_lack_of⟩ := c.def_ 22 (d := ⟨("lack_of", none), "lack_of", "lack_of", defArgs (top 31), defBody (top 31), defScope (top 31), [], []⟩) rfl
  have B_lack_of : Binds K fd_lack_of ["party", "rich", "poor"] [] := fun s us _ hl => by
    rw [List.append_nil] at hl ⊢
    exact FunD.bindsA (ps := ["party", "rich", "poor"]) D_lack_of (fun _ _ _ _ _ _ us hl => match us, hl with | [_, _, _], _ => rfl) s us hl
  obtain ⟨fd_taken_by, D_taken_by⟩ := c.def_ 23 (d := ⟨("taken_by", none), "taken_by", "taken_by", defArgs (top 32), defBody (top 32), defScope (top 32), [], []⟩) rfl
  have B_taken_by : Binds K fd_taken_by ["wants", "guest"] [] := fun s us _ hl => by
    rw [List.append_nil] at hl ⊢
    exact FunD.bindsA (ps := ["wants", "guest"]) D_taken_by (fun _ _ _ _ _ _ us hl => match us, hl with | [_, _], _ => rfl) s us hl
  obtain ⟨fd_drawn_by, D_drawn_by⟩ := c.def_ 24 (d := ⟨("drawn_by", none), "drawn_by", "drawn_by", defArgs (top 33), defBody (top 33), defScope (top 33), [], []⟩) rfl
  have B_drawn_by : Binds K fd_drawn_by ["party", "order"] [] := fun s us _ hl => by
    rw [List.append_nil] at hl ⊢
    exact FunD.bindsA (ps := ["party", "order"]) D_drawn_by (fun _ _ _ _ _ _ us hl => match us, hl with | [_, _], _ => rfl) s us hl
  obtain ⟨fd_bar_of, D_bar_of⟩ := c.def_ 25 (d := ⟨("bar_of", none), "bar_of", "bar_of", defArgs (top 34), defBody (top 34), defScope (top 34), [], []⟩) rfl
  have B_bar_of : Binds K fd_bar_of ["party"] [] := fun s us _ hl => by
    rw [List.append_nil] at hl ⊢
    exact FunD.bindsA (ps := ["party"]) D_bar_of (fun _ _ _ _ _ _ us hl => match us, hl with | [_], _ => rfl) s us hl
  obtain ⟨fd_told_of, D_told_of⟩ := c.def_ 26 (d := ⟨("told_of", none), "told_of", "told_of", defArgs (top 35), defBody (top 35), defScope (top 35), [], []⟩) rfl
  have B_told_of : Binds K fd_told_of ["party"] [] := fun s us _ hl => by
    rw [List.append_nil] at hl ⊢
    exact FunD.bindsA (ps := ["party"]) D_told_of (fun _ _ _ _ _ _ us hl => match us, hl with | [_], _ => rfl) s us hl
  obtain ⟨fd_can_be_drawn, D_can_be_drawn⟩ := c.def_ 27 (d := ⟨("can_be_drawn", none), "can_be_drawn", "can_be_drawn", defArgs (top 36), defBody (top 36), defScope (top 36), [], []⟩) rfl
  have B_can_be_drawn : Binds K fd_can_be_drawn ["party"] [] := fun s us _ hl => by
    rw [List.append_nil] at hl ⊢
    exact FunD.bindsA (ps := ["party"]) D_can_be_drawn (fun _ _ _ _ _ _ us hl => match us, hl with | [_], _ => rfl) s us hl
  obtain ⟨fd_hand_of, D_hand_of⟩ := c.def_ 28 (d := ⟨("hand_of", none), "hand_of", "hand_of", defArgs (top 38), defBody (top 38), defScope (top 38), [], []⟩) rfl
  have B_hand_of : Binds K fd_hand_of ["one", "other"] [] := fun s us _ hl => by
    rw [List.append_nil] at hl ⊢
    exact FunD.bindsA (ps := ["one", "other"]) D_hand_of (fun _ _ _ _ _ _ us hl => match us, hl with | [_, _], _ => rfl) s us hl
  obtain ⟨fd_check_least, D_check_least⟩ := c.def_ 29 (d := ⟨("check_least", none), "check_least", "check_least", defArgs (top 40), defBody (top 40), defScope (top 40), [], []⟩) rfl
  have B_check_least : Binds K fd_check_least ["party"] [] := fun s us _ hl => by
    rw [List.append_nil] at hl ⊢
    exact FunD.bindsA (ps := ["party"]) D_check_least (fun _ _ _ _ _ _ us hl => match us, hl with | [_], _ => rfl) s us hl
  obtain ⟨fd_other_party, D_other_party⟩ := c.def_ 30 (d := ⟨("other_party", none), "other_party", "other_party", defArgs (top 41), defBody (top 41), defScope (top 41), [], []⟩) rfl
  have B_other_party : Binds K fd_other_party ["party"] [] := fun s us _ hl => by
    rw [List.append_nil] at hl ⊢
    exact FunD.bindsA (ps := ["party"]) D_other_party (fun _ _ _ _ _ _ us hl => match us, hl with | [_], _ => rfl) s us hl
  obtain ⟨fd_check_apart, D_check_apart⟩ := c.def_ 31 (d := ⟨("check_apart", none), "check_apart", "check_apart", defArgs (top 42), defBody (top 42), defScope (top 42), [], []⟩) rfl
  have B_check_apart : Binds K fd_check_apart ["party", "other"] [] := fun s us _ hl => by
    rw [List.append_nil] at hl ⊢
    exact FunD.bindsA (ps := ["party", "other"]) D_check_apart (fun _ _ _ _ _ _ us hl => match us, hl with | [_, _], _ => rfl) s us hl
  obtain ⟨fd_joined, D_joined⟩ := c.def_ 32 (d := ⟨("joined", none), "joined", "joined", defArgs (top 43), defBody (top 43), defScope (top 43), [], []⟩) rfl
  have B_joined : Binds K fd_joined ["party", "other"] [] := fun s us _ hl => by
    rw [List.append_nil] at hl ⊢
    exact FunD.bindsA (ps := ["party", "other"]) D_joined (fun _ _ _ _ _ _ us hl => match us, hl with | [_, _], _ => rfl) s us hl
  obtain ⟨fd_crossed, D_crossed⟩ := c.def_ 33 (d := ⟨("crossed", none), "crossed", "crossed", defArgs (top 44), defBody (top 44), defScope (top 44), [], []⟩) rfl
  have B_crossed : Binds K fd_crossed ["party", "other"] [] := fun s us _ hl => by
    rw [List.append_nil] at hl ⊢
    exact FunD.bindsA (ps := ["party", "other"]) D_crossed (fun _ _ _ _ _ _ us hl => match us, hl with | [_, _], _ => rfl) s us hl
  obtain ⟨fd_check_webs, D_check_webs⟩ := c.def_ 34 (d := ⟨("check_webs", none), "check_webs", "check_webs", defArgs (top 45), defBody (top 45), defScope (top 45), [], []⟩) rfl
  have B_check_webs : Binds K fd_check_webs ["party", "other", "web", "second"] [] := fun s us _ hl => by
    rw [List.append_nil] at hl ⊢
    exact FunD.bindsA (ps := ["party", "other", "web", "second"]) D_check_webs (fun _ _ _ _ _ _ us hl => match us, hl with | [_, _, _, _], _ => rfl) s us hl
  obtain ⟨fd_webs_joined, D_webs_joined⟩ := c.def_ 35 (d := ⟨("webs_joined", none), "webs_joined", "webs_joined", defArgs (top 46), defBody (top 46), defScope (top 46), [], []⟩) rfl
  have B_webs_joined : Binds K fd_webs_joined ["party", "other", "web", "second"] [] := fun s us _ hl => by
    rw [List.append_nil] at hl ⊢
    exact FunD.bindsA (ps := ["party", "other", "web", "second"]) D_webs_joined (fun _ _ _ _ _ _ us hl => match us, hl with | [_, _, _, _], _ => rfl) s us hl
  obtain ⟨fd_webs_crossed, D_webs_crossed⟩ := c.def_ 36 (d := ⟨("webs_crossed", none), "webs_crossed", "webs_crossed", defArgs (top 47), defBody (top 47), defScope (top 47), [], []⟩) rfl
  have B_webs_crossed : Binds K fd_webs_crossed ["party", "other", "web", "second"] [] := fun s us _ hl => by
    rw [List.append_nil] at hl ⊢
    exact FunD.bindsA (ps := ["party", "other", "web", "second"]) D_webs_crossed (fun _ _ _ _ _ _ us hl => match us, hl with | [_, _, _, _], _ => rfl) s us hl
  obtain ⟨fd__law_stream, D__law_stream⟩ := c.def_ 37 (d := ⟨("_law_stream", none), "_law_stream", "_law_stream", defArgs (top 49), defBody (top 49), defScope (top 49), [], []⟩) rfl
  have B__law_stream : Binds K fd__law_stream ["script"] [] := fun s us _ hl => by
    rw [List.append_nil] at hl ⊢
    exact FunD.bindsA (ps := ["script"]) D__law_stream (fun _ _ _ _ _ _ us hl => match us, hl with | [_], _ => rfl) s us hl
  obtain ⟨fd__law_draw, D__law_draw⟩ := c.def_ 38 (d := ⟨("_law_draw", none), "_law_draw", "_law_draw", defArgs (top 50), defBody (top 50), defScope (top 50), [], []⟩) rfl
  have B__law_draw : Binds K fd__law_draw ["stream", "many"] [] := fun s us _ hl => by
    rw [List.append_nil] at hl ⊢
    exact FunD.bindsA (ps := ["stream", "many"]) D__law_draw (fun _ _ _ _ _ _ us hl => match us, hl with | [_, _], _ => rfl) s us hl
  obtain ⟨fd__law_pick, D__law_pick⟩ := c.def_ 39 (d := ⟨("_law_pick", none), "_law_pick", "_law_pick", defArgs (top 51), defBody (top 51), defScope (top 51), [], []⟩) rfl
  have B__law_pick : Binds K fd__law_pick ["stream", "things"] [] := fun s us _ hl => by
    rw [List.append_nil] at hl ⊢
    exact FunD.bindsA (ps := ["stream", "things"]) D__law_pick (fun _ _ _ _ _ _ us hl => match us, hl with | [_, _], _ => rfl) s us hl
  obtain ⟨fd__law_mixed, D__law_mixed⟩ := c.def_ 40 (d := ⟨("_law_mixed", none), "_law_mixed", "_law_mixed", defArgs (top 52), defBody (top 52), defScope (top 52), [], []⟩) rfl
  have B__law_mixed : Binds K fd__law_mixed ["stream", "things"] [] := fun s us _ hl => by
    rw [List.append_nil] at hl ⊢
    exact FunD.bindsA (ps := ["stream", "things"]) D__law_mixed (fun _ _ _ _ _ _ us hl => match us, hl with | [_, _], _ => rfl) s us hl
  obtain ⟨fd__law_same, D__law_same⟩ := c.def_ 41 (d := ⟨("_law_same", none), "_law_same", "_law_same", defArgs (top 53), defBody (top 53), defScope (top 53), [], []⟩) rfl
  have B__law_same : Binds K fd__law_same ["found", "due"] [] := fun s us _ hl => by
    rw [List.append_nil] at hl ⊢
    exact FunD.bindsA (ps := ["found", "due"]) D__law_same (fun _ _ _ _ _ _ us hl => match us, hl with | [_, _], _ => rfl) s us hl
  obtain ⟨fd__law_loose, D__law_loose⟩ := c.def_ 42 (d := ⟨("_law_loose", none), "_law_loose", "_law_loose", defArgs (top 54), defBody (top 54), defScope (top 54), [], []⟩) rfl
  have B__law_loose : Binds K fd__law_loose ["stream", "thing"] [] := fun s us _ hl => by
    rw [List.append_nil] at hl ⊢
    exact FunD.bindsA (ps := ["stream", "thing"]) D__law_loose (fun _ _ _ _ _ _ us hl => match us, hl with | [_, _], _ => rfl) s us hl
  obtain ⟨fd__law_copied, D__law_copied⟩ := c.def_ 43 (d := ⟨("_law_copied", none), "_law_copied", "_law_copied", defArgs (top 55), defBody (top 55), defScope (top 55), [], []⟩) rfl
  have B__law_copied : Binds K fd__law_copied ["thing"] [] := fun s us _ hl => by
    rw [List.append_nil] at hl ⊢
    exact FunD.bindsA (ps := ["thing"]) D__law_copied (fun _ _ _ _ _ _ us hl => match us, hl with | [_], _ => rfl) s us hl
  obtain ⟨fd__law_spoilt, D__law_spoilt⟩ := c.def_ 44 (d := ⟨("_law_spoilt", none), "_law_spoilt", "_law_spoilt", defArgs (top 56), defBody (top 56), defScope (top 56), [], []⟩) rfl
  have B__law_spoilt : Binds K fd__law_spoilt ["thing"] [] := fun s us _ hl => by
    rw [List.append_nil] at hl ⊢
    exact FunD.bindsA (ps := ["thing"]) D__law_spoilt (fun _ _ _ _ _ _ us hl => match us, hl with | [_], _ => rfl) s us hl
  obtain ⟨fd__law_names, D__law_names⟩ := c.def_ 45 (d := ⟨("_law_names", none), "_law_names", "_law_names", defArgs (top 57), defBody (top 57), defScope (top 57), [], []⟩) rfl
  have B__law_names : Binds K fd__law_names ["stream", "many"] [] := fun s us _ hl => by
    rw [List.append_nil] at hl ⊢
    exact FunD.bindsA (ps := ["stream", "many"]) D__law_names (fun _ _ _ _ _ _ us hl => match us, hl with | [_, _], _ => rfl) s us hl
  obtain ⟨fd__law_hands, D__law_hands⟩ := c.def_ 46 (d := ⟨("_law_hands", none), "_law_hands", "_law_hands", defArgs (top 58), defBody (top 58), defScope (top 58), [], []⟩) rfl
  have B__law_hands : Binds K fd__law_hands ["wants"] [] := fun s us _ hl => by
    rw [List.append_nil] at hl ⊢
    exact FunD.bindsA (ps := ["wants"]) D__law_hands (fun _ _ _ _ _ _ us hl => match us, hl with | [_], _ => rfl) s us hl
  obtain ⟨fd__law_shaken, D__law_shaken⟩ := c.def_ 47 (d := ⟨("_law_shaken", none), "_law_shaken", "_law_shaken", defArgs (top 59), defBody (top 59), defScope (top 59), [], []⟩) rfl
  have B__law_shaken : Binds K fd__law_shaken ["wants", "web"] [] := fun s us _ hl => by
    rw [List.append_nil] at hl ⊢
    exact FunD.bindsA (ps := ["wants", "web"]) D__law_shaken (fun _ _ _ _ _ _ us hl => match us, hl with | [_, _], _ => rfl) s us hl
  obtain ⟨fd__law_web, D__law_web⟩ := c.def_ 48 (d := ⟨("_law_web", none), "_law_web", "_law_web", defArgs (top 60), defBody (top 60), defScope (top 60), [], []⟩) rfl
  have B__law_web : Binds K fd__law_web ["stream", "names", "odds"] [] := fun s us _ hl => by
    rw [List.append_nil] at hl ⊢
    exact FunD.bindsA (ps := ["stream", "names", "odds"]) D__law_web (fun _ _ _ _ _ _ us hl => match us, hl with | [_, _, _], _ => rfl) s us hl
  obtain ⟨fd__law_party, D__law_party⟩ := c.def_ 49 (d := ⟨("_law_party", none), "_law_party", "_law_party", defArgs (top 61), defBody (top 61), defScope (top 61), [], []⟩) rfl
  have B__law_party : Binds K fd__law_party ["stream", "guests"] [] := fun s us _ hl => by
    rw [List.append_nil] at hl ⊢
    exact FunD.bindsA (ps := ["stream", "guests"]) D__law_party (fun _ _ _ _ _ _ us hl => match us, hl with | [_, _], _ => rfl) s us hl
  obtain ⟨fd__law_made, D__law_made⟩ := c.def_ 50 (d := ⟨("_law_made", none), "_law_made", "_law_made", defArgs (top 62), defBody (top 62), defScope (top 62), [], []⟩) rfl
  have B__law_made : Binds K fd__law_made ["stream", "wants"] [] := fun s us _ hl => by
    rw [List.append_nil] at hl ⊢
    exact FunD.bindsA (ps := ["stream", "wants"]) D__law_made (fun _ _ _ _ _ _ us hl => match us, hl with | [_, _], _ => rfl) s us hl
  obtain ⟨fd__law_sorted, D__law_sorted⟩ := c.def_ 51 (d := ⟨("_law_sorted", none), "_law_sorted", "_law_sorted", defArgs (top 63), defBody (top 63), defScope (top 63), [], []⟩) rfl
  have B__law_sorted : Binds K fd__law_sorted ["wants"] [] := fun s us _ hl => by
    rw [List.append_nil] at hl ⊢
    exact FunD.bindsA (ps := ["wants"]) D__law_sorted (fun _ _ _ _ _ _ us hl => match us, hl with | [_], _ => rfl) s us hl
  obtain ⟨fd__law_two, D__law_two⟩ := c.def_ 52 (d := ⟨("_law_two", none), "_law_two", "_law_two", defArgs (top 64), defBody (top 64), defScope (top 64), [], []⟩) rfl
  have B__law_two : Binds K fd__law_two ["stream", "guests"] [] := fun s us _ hl => by
    rw [List.append_nil] at hl ⊢
    exact FunD.bindsA (ps := ["stream", "guests"]) D__law_two (fun _ _ _ _ _ _ us hl => match us, hl with | [_, _], _ => rfl) s us hl
  obtain ⟨fd_law, D_law⟩ := c.def_ 53 (d := ⟨("law", none), "law", "law", defArgs (top 65), defBody (top 65), defScope (top 65), [], []⟩) rfl
  have B_law : Binds K fd_law ["script"] [] := fun s us _ hl => by
    rw [List.append_nil] at hl ⊢
    exact FunD.bindsA (ps := ["script"]) D_law (fun _ _ _ _ _ _ us hl => match us, hl with | [_], _ => rfl) s us hl
  have e := hfa.symm.trans (He.glo_ok X G (c.fact 64 (f := .glo "law") rfl))
  cases e
  refine ⟨fd_law, fun s v => by have := B_law s [v]; exact FunD.bindsA (ps := ["script"]) D_law (fun _ _ _ _ _ _ us hl => match us, hl with | [_], _ => rfl) s [v] rfl, fun base hKb hGb => ?_⟩
  have M_stream := He.glo_ok X G (c.fact 48 (f := .glo "_law_stream") rfl)
  have S_stream : FnOk P w K mg base CX0 1 _ fd__law_stream ["script"] (spStream K) := ok__law_stream b D__law_stream
  have M_is_list := He.glo_ok X G (c.fact 1 (f := .glo "is_list") rfl)
  have F_is_list : Fn P w K mg base "is_list" (top 2) ["thing"] 1 (sp_is_list K) := ⟨⟨_, _, M_is_list, D_is_list, B_is_list, ok_is_list b  D_is_list⟩⟩
  have M_is_whole := He.glo_ok X G (c.fact 2 (f := .glo "is_whole") rfl)
  have F_is_whole : Fn P w K mg base "is_whole" (top 3) ["thing"] 1 (sp_is_whole K) := ⟨⟨_, _, M_is_whole, D_is_whole, B_is_whole, ok_is_whole b  D_is_whole⟩⟩
  have M_is_number := He.glo_ok X G (c.fact 3 (f := .glo "is_number") rfl)
  have F_is_number : Fn P w K mg base "is_number" (top 4) ["thing"] 2 (sp_is_number K) := ⟨⟨_, _, M_is_number, D_is_number, B_is_number, ok_is_number b F_is_whole D_is_number⟩⟩
  have M_is_row := He.glo_ok X G (c.fact 4 (f := .glo "is_row") rfl)
  have F_is_row : Fn P w K mg base "is_row" (top 5) ["thing", "many"] 2 (sp_is_row K) := ⟨⟨_, _, M_is_row, D_is_row, B_is_row, ok_is_row b F_is_list D_is_row⟩⟩
  have M_is_name := He.glo_ok X G (c.fact 5 (f := .glo "is_name") rfl)
  have F_is_name : Fn P w K mg base "is_name" (top 6) ["thing"] 1 (sp_is_name K) := ⟨⟨_, _, M_is_name, D_is_name, B_is_name, ok_is_name b g_LETTERS D_is_name⟩⟩
  have M_is_rising := He.glo_ok X G (c.fact 6 (f := .glo "is_rising") rfl)
  have F_is_rising : Fn P w K mg base "is_rising" (top 7) ["things"] 1 (sp_is_rising K) := ⟨⟨_, _, M_is_rising, D_is_rising, B_is_rising, ok_is_rising b  D_is_rising⟩⟩
  have M_first_bad_row := He.glo_ok X G (c.fact 12 (f := .glo "first_bad_row") rfl)
  have F_first_bad_row : Fn P w K mg base "first_bad_row" (top 15) ["rows"] 3 (sp_first_bad_row K) := ⟨⟨_, _, M_first_bad_row, D_first_bad_row, B_first_bad_row, ok_first_bad_row b F_is_list F_is_row F_is_name F_is_number D_first_bad_row⟩⟩
  have F_m_Party_init : Mkr P w K mg base "Party" (He.ga K "Party") ["self", "rows"] 4 (sp_m_Party_init K) := ⟨⟨_, _, He.glo_ok X G (c.fact 13 (f := .glo "Party") rfl), He.mkr_ok (c.fact 15 (f := .mkr "Party") rfl), B_m_Party_init, ok_m_Party_init b F_first_bad_row c_Party n_Party_own_wants D_m_Party_init⟩⟩
  have F_m_Party_wants : Mt P w K mg base (He.ga K "Party") "wants" "Party.wants" (inClass (top 16) 2) ["self"] 1 (sp_m_Party_wants K) := ⟨⟨_, _, He.meth_ok (c.fact 17 (f := .meth "Party" "wants") rfl), D_m_Party_wants, B_m_Party_wants, ok_m_Party_wants b c_Party n_Party_own_wants D_m_Party_wants⟩⟩
  have M_is_guest := He.glo_ok X G (c.fact 22 (f := .glo "is_guest") rfl)
  have F_is_guest : Fn P w K mg base "is_guest" (top 18) ["party", "thing"] 1 (sp_is_guest K) := ⟨⟨_, _, M_is_guest, D_is_guest, B_is_guest, ok_is_guest b c_Party n_Party_own_wants D_is_guest⟩⟩
  have F_m_Party_eq : OwnM P w K mg base (He.ga K "Party") "__eq__" ["self", "other"] 1 (sp_m_Party_eq K) := ⟨⟨_, _, (He.meth_ok (c.fact 19 (f := .meth "Party" "__eq__") rfl)).at_, (He.meth_ok (c.fact 19 (f := .meth "Party" "__eq__") rfl)).fn, B_m_Party_eq, ok_m_Party_eq b g_Party c_Party n_Party_own_wants D_m_Party_eq⟩⟩
  have M_check_party := He.glo_ok X G (c.fact 21 (f := .glo "check_party") rfl)
  have F_check_party : Fn P w K mg base "check_party" (top 17) ["party"] 1 (sp_check_party K) := ⟨⟨_, _, M_check_party, D_check_party, B_check_party, ok_check_party b g_Party D_check_party⟩⟩
  have M_is_hand := He.glo_ok X G (c.fact 24 (f := .glo "is_hand") rfl)
  have F_is_hand : Fn P w K mg base "is_hand" (top 20) ["party", "thing"] 3 (sp_is_hand K) := ⟨⟨_, _, M_is_hand, D_is_hand, B_is_hand, ok_is_hand b F_is_row F_is_guest D_is_hand⟩⟩
  have M_is_web_of := He.glo_ok X G (c.fact 25 (f := .glo "is_web_of") rfl)
  have F_is_web_of : Fn P w K mg base "is_web_of" (top 21) ["party", "thing"] 4 (sp_is_web_of K) := ⟨⟨_, _, M_is_web_of, D_is_web_of, B_is_web_of, ok_is_web_of b F_is_list F_is_hand F_is_rising D_is_web_of⟩⟩
  have M_check_web := He.glo_ok X G (c.fact 26 (f := .glo "check_web") rfl)
  have F_check_web : Fn P w K mg base "check_web" (top 22) ["party", "web"] 5 (sp_check_web K) := ⟨⟨_, _, M_check_web, D_check_web, B_check_web, ok_check_web b F_is_web_of D_check_web⟩⟩
  have M_shaken_of := He.glo_ok X G (c.fact 27 (f := .glo "shaken_of") rfl)
  have F_shaken_of : Fn P w K mg base "shaken_of" (top 23) ["party", "web"] 1 (sp_shaken_of K) := ⟨⟨_, _, M_shaken_of, D_shaken_of, B_shaken_of, ok_shaken_of b c_Party n_Party_own_wants D_shaken_of⟩⟩
  have M_is_picture := He.glo_ok X G (c.fact 28 (f := .glo "is_picture") rfl)
  have F_is_picture : Fn P w K mg base "is_picture" (top 24) ["party", "thing"] 5 (sp_is_picture K) := ⟨⟨_, _, M_is_picture, D_is_picture, B_is_picture, ok_is_picture b F_check_party F_is_web_of F_shaken_of c_Party n_Party_own_wants D_is_picture⟩⟩
  have M_in_row := He.glo_ok X G (c.fact 29 (f := .glo "in_row") rfl)
  have F_in_row : Fn P w K mg base "in_row" (top 25) ["wants"] 1 (sp_in_row K) := ⟨⟨_, _, M_in_row, D_in_row, B_in_row, ok_in_row b  D_in_row⟩⟩
  have M_room_for := He.glo_ok X G (c.fact 32 (f := .glo "room_for") rfl)
  have F_room_for : Fn P w K mg base "room_for" (top 30) ["party", "rich", "poor"] 1 (sp_room_for K) := ⟨⟨_, _, M_room_for, D_room_for, B_room_for, ok_room_for b c_Party n_Party_own_wants D_room_for⟩⟩
  have M_lack_of := He.glo_ok X G (c.fact 33 (f := .glo "lack_of") rfl)
  have F_lack_of : Fn P w K mg base "lack_of" (top 31) ["party", "rich", "poor"] 2 (sp_lack_of K) := ⟨⟨_, _, M_lack_of, D_lack_of, B_lack_of, ok_lack_of b c_Party n_Party_own_wants F_room_for D_lack_of⟩⟩
  have M_taken_by := He.glo_ok X G (c.fact 34 (f := .glo "taken_by") rfl)
  have F_taken_by : Fn P w K mg base "taken_by" (top 32) ["wants", "guest"] 2 (sp_taken_by K) := ⟨⟨_, _, M_taken_by, D_taken_by, B_taken_by, ok_taken_by b F_in_row D_taken_by⟩⟩
  have M_drawn_by := He.glo_ok X G (c.fact 35 (f := .glo "drawn_by") rfl)
  have F_drawn_by : Fn P w K mg base "drawn_by" (top 33) ["party", "order"] 3 (sp_drawn_by K) := ⟨⟨_, _, M_drawn_by, D_drawn_by, B_drawn_by, ok_drawn_by b c_Party n_Party_own_wants F_taken_by D_drawn_by⟩⟩
  have M_bar_of := He.glo_ok X G (c.fact 36 (f := .glo "bar_of") rfl)
  have F_bar_of : Fn P w K mg base "bar_of" (top 34) ["party"] 3 (sp_bar_of K) := ⟨⟨_, _, M_bar_of, D_bar_of, B_bar_of, ok_bar_of b F_in_row c_Party n_Party_own_wants F_lack_of D_bar_of⟩⟩
  have M_told_of := He.glo_ok X G (c.fact 37 (f := .glo "told_of") rfl)
  have F_told_of : Fn P w K mg base "told_of" (top 35) ["party"] 4 (sp_told_of K) := ⟨⟨_, _, M_told_of, D_told_of, B_told_of, ok_told_of b c_Party n_Party_own_wants F_bar_of F_drawn_by F_in_row D_told_of⟩⟩
  have M_can_be_drawn := He.glo_ok X G (c.fact 38 (f := .glo "can_be_drawn") rfl)
  have F_can_be_drawn : Fn P w K mg base "can_be_drawn" (top 36) ["party"] 5 (sp_can_be_drawn K) := ⟨⟨_, _, M_can_be_drawn, D_can_be_drawn, B_can_be_drawn, ok_can_be_drawn b F_check_party F_told_of D_can_be_drawn⟩⟩
  have M_hand_of := He.glo_ok X G (c.fact 39 (f := .glo "hand_of") rfl)
  have F_hand_of : Fn P w K mg base "hand_of" (top 38) ["one", "other"] 1 (sp_hand_of K) := ⟨⟨_, _, M_hand_of, D_hand_of, B_hand_of, ok_hand_of b  D_hand_of⟩⟩
  have M_check_least := He.glo_ok X G (c.fact 40 (f := .glo "check_least") rfl)
  have F_check_least : Fn P w K mg base "check_least" (top 40) ["party"] 2 (sp_check_least K) := ⟨⟨_, _, M_check_least, D_check_least, B_check_least, ok_check_least b F_check_party c_Party n_Party_own_wants D_check_least⟩⟩
  have M_other_party := He.glo_ok X G (c.fact 41 (f := .glo "other_party") rfl)
  have F_other_party : Fn P w K mg base "other_party" (top 41) ["party"] 6 (sp_other_party K) := ⟨⟨_, _, M_other_party, D_other_party, B_other_party, ok_other_party b F_check_least c_Party n_Party_own_wants F_m_Party_init D_other_party⟩⟩
  have M_check_apart := He.glo_ok X G (c.fact 42 (f := .glo "check_apart") rfl)
  have F_check_apart : Fn P w K mg base "check_apart" (top 42) ["party", "other"] 2 (sp_check_apart K) := ⟨⟨_, _, M_check_apart, D_check_apart, B_check_apart, ok_check_apart b F_check_party c_Party n_Party_own_wants D_check_apart⟩⟩
  have M_joined := He.glo_ok X G (c.fact 43 (f := .glo "joined") rfl)
  have F_joined : Fn P w K mg base "joined" (top 43) ["party", "other"] 6 (sp_joined K) := ⟨⟨_, _, M_joined, D_joined, B_joined, ok_joined b F_check_apart F_m_Party_init c_Party n_Party_own_wants D_joined⟩⟩
  have M_crossed := He.glo_ok X G (c.fact 44 (f := .glo "crossed") rfl)
  have F_crossed : Fn P w K mg base "crossed" (top 44) ["party", "other"] 6 (sp_crossed K) := ⟨⟨_, _, M_crossed, D_crossed, B_crossed, ok_crossed b F_check_apart c_Party n_Party_own_wants F_m_Party_init D_crossed⟩⟩
  have M_check_webs := He.glo_ok X G (c.fact 45 (f := .glo "check_webs") rfl)
  have F_check_webs : Fn P w K mg base "check_webs" (top 45) ["party", "other", "web", "second"] 6 (sp_check_webs K) := ⟨⟨_, _, M_check_webs, D_check_webs, B_check_webs, ok_check_webs b F_check_apart F_check_web D_check_webs⟩⟩
  have M_webs_joined := He.glo_ok X G (c.fact 46 (f := .glo "webs_joined") rfl)
  have F_webs_joined : Fn P w K mg base "webs_joined" (top 46) ["party", "other", "web", "second"] 7 (sp_webs_joined K) := ⟨⟨_, _, M_webs_joined, D_webs_joined, B_webs_joined, ok_webs_joined b F_check_webs D_webs_joined⟩⟩
  have M_webs_crossed := He.glo_ok X G (c.fact 47 (f := .glo "webs_crossed") rfl)
  have F_webs_crossed : Fn P w K mg base "webs_crossed" (top 47) ["party", "other", "web", "second"] 7 (sp_webs_crossed K) := ⟨⟨_, _, M_webs_crossed, D_webs_crossed, B_webs_crossed, ok_webs_crossed b F_check_webs c_Party n_Party_own_wants F_hand_of D_webs_crossed⟩⟩
  have M__law_draw := He.glo_ok X G (c.fact 49 (f := .glo "_law_draw") rfl)
  have F__law_draw : Fn P w K mg base "_law_draw" (top 50) ["stream", "many"] 1 (sp__law_draw K) := ⟨⟨_, _, M__law_draw, D__law_draw, B__law_draw, ok__law_draw b  D__law_draw⟩⟩
  have M__law_pick := He.glo_ok X G (c.fact 50 (f := .glo "_law_pick") rfl)
  have F__law_pick : Fn P w K mg base "_law_pick" (top 51) ["stream", "things"] 2 (sp__law_pick K) := ⟨⟨_, _, M__law_pick, D__law_pick, B__law_pick, ok__law_pick b F__law_draw D__law_pick⟩⟩
  have M__law_mixed := He.glo_ok X G (c.fact 51 (f := .glo "_law_mixed") rfl)
  have F__law_mixed : Fn P w K mg base "_law_mixed" (top 52) ["stream", "things"] 2 (sp__law_mixed K) := ⟨⟨_, _, M__law_mixed, D__law_mixed, B__law_mixed, ok__law_mixed b F__law_draw D__law_mixed⟩⟩
  have M__law_same := He.glo_ok X G (c.fact 52 (f := .glo "_law_same") rfl)
  have F__law_same : Fn P w K mg base "_law_same" (top 53) ["found", "due"] 7 (sp__law_same K 6) := ⟨⟨_, _, M__law_same, D__law_same, B__law_same, ok__law_same b  M__law_same D__law_same B__law_same 6⟩⟩
  have M__law_loose := He.glo_ok X G (c.fact 53 (f := .glo "_law_loose") rfl)
  have F__law_loose : Fn P w K mg base "_law_loose" (top 54) ["stream", "thing"] 8 (sp__law_loose K 6) := ⟨⟨_, _, M__law_loose, D__law_loose, B__law_loose, ok__law_loose b F__law_draw M__law_loose D__law_loose B__law_loose 6⟩⟩
  have M__law_copied := He.glo_ok X G (c.fact 54 (f := .glo "_law_copied") rfl)
  have F__law_copied : Fn P w K mg base "_law_copied" (top 55) ["thing"] 7 (sp__law_copied K 6) := ⟨⟨_, _, M__law_copied, D__law_copied, B__law_copied, ok__law_copied b  M__law_copied D__law_copied B__law_copied 6⟩⟩
  have M__law_spoilt := He.glo_ok X G (c.fact 55 (f := .glo "_law_spoilt") rfl)
  have F__law_spoilt : Fn P w K mg base "_law_spoilt" (top 56) ["thing"] 7 (sp__law_spoilt K 6) := ⟨⟨_, _, M__law_spoilt, D__law_spoilt, B__law_spoilt, ok__law_spoilt b  M__law_spoilt D__law_spoilt B__law_spoilt 6⟩⟩
  have M__law_names := He.glo_ok X G (c.fact 56 (f := .glo "_law_names") rfl)
  have F__law_names : Fn P w K mg base "_law_names" (top 57) ["stream", "many"] 3 (sp__law_names K) := ⟨⟨_, _, M__law_names, D__law_names, B__law_names, ok__law_names b F__law_draw F__law_pick D__law_names⟩⟩
  have M__law_hands := He.glo_ok X G (c.fact 57 (f := .glo "_law_hands") rfl)
  have F__law_hands : Fn P w K mg base "_law_hands" (top 58) ["wants"] 1 (sp__law_hands K) := ⟨⟨_, _, M__law_hands, D__law_hands, B__law_hands, ok__law_hands b  D__law_hands⟩⟩
  have M__law_shaken := He.glo_ok X G (c.fact 58 (f := .glo "_law_shaken") rfl)
  have F__law_shaken : Fn P w K mg base "_law_shaken" (top 59) ["wants", "web"] 1 (sp__law_shaken K) := ⟨⟨_, _, M__law_shaken, D__law_shaken, B__law_shaken, ok__law_shaken b  D__law_shaken⟩⟩
  have M__law_web := He.glo_ok X G (c.fact 59 (f := .glo "_law_web") rfl)
  have F__law_web : Fn P w K mg base "_law_web" (top 60) ["stream", "names", "odds"] 2 (sp__law_web K) := ⟨⟨_, _, M__law_web, D__law_web, B__law_web, ok__law_web b F__law_hands F__law_draw D__law_web⟩⟩
  have M__law_party := He.glo_ok X G (c.fact 60 (f := .glo "_law_party") rfl)
  have F__law_party : Fn P w K mg base "_law_party" (top 61) ["stream", "guests"] 4 (sp__law_party K) := ⟨⟨_, _, M__law_party, D__law_party, B__law_party, ok__law_party b F__law_draw F__law_names F__law_shaken F__law_web F__law_pick D__law_party⟩⟩
  have M__law_made := He.glo_ok X G (c.fact 61 (f := .glo "_law_made") rfl)
  have F__law_made : Fn P w K mg base "_law_made" (top 62) ["stream", "wants"] 9 (sp__law_made K) := ⟨⟨_, _, M__law_made, D__law_made, B__law_made, ok__law_made b F__law_mixed F__law_loose F_m_Party_init D__law_made⟩⟩
  have M__law_sorted := He.glo_ok X G (c.fact 62 (f := .glo "_law_sorted") rfl)
  have F__law_sorted : Fn P w K mg base "_law_sorted" (top 63) ["wants"] 1 (sp__law_sorted K) := ⟨⟨_, _, M__law_sorted, D__law_sorted, B__law_sorted, ok__law_sorted b  D__law_sorted⟩⟩
  have M__law_two := He.glo_ok X G (c.fact 63 (f := .glo "_law_two") rfl)
  have F__law_two : Fn P w K mg base "_law_two" (top 64) ["stream", "guests"] 5 (sp__law_two K) := ⟨⟨_, _, M__law_two, D__law_two, B__law_two, ok__law_two b F__law_party D__law_two⟩⟩
  exact ok_law b S_stream M_stream B__law_stream D__law_stream.kp F__law_two F__law_pick F__law_shaken F__law_web F__law_made F__law_sorted c_Party F_m_Party_wants F_joined F_crossed F__law_same F_can_be_drawn F_m_Party_eq nf_Party F_other_party F__law_loose F_webs_crossed F_webs_joined F__law_copied F__law_spoilt F_is_picture F_m_Party_init D_law (pure kf)
open PySem PySem.W PySem.Calls PyProof.Rows
theorem holds : PySem.Challenge.rw_handcounts_k87_whole_joined_and_crossed.Holds := by
  w_on; o_law
  refine HandSHeadRun.head_any (r := OpenLaw.row PySem.Challenge.rw_handcounts_k87_whole_joined_and_crossed) (q := view (OpenLaw.row PySem.Challenge.rw_handcounts_k87_whole_joined_and_crossed).prog [65]) (H := hk) (ob := ob) (M := 4000) (loose := loos) (d := HandSHeadRun.topDef (OpenLaw.row PySem.Challenge.rw_handcounts_k87_whole_joined_and_crossed).prog 65) (kwd := []) ob_eq
    (by kernel_rfl) (fun s => by kernel_rfl) run (by kernel_rfl) (by kernel_rfl) (by kernel_rfl) (by rfl) (by first | assumption | decide +kernel) (by decide +kernel) ⟨rfl, rfl, rfl, rfl, rfl, by decide +kernel⟩ ?hw ?hc
  case hw => w_witness2
  case hc =>
    refine walk_ofG (l := PySem.Challenge.rw_handcounts_k87_whole_joined_and_crossed) (k := 10) (x := "script") rfl (by kernel_rfl) ⟨rfl, by decide, by decide⟩ ?F
    intro w mg fa h Y G hmg0
    obtain ⟨K, KX, c⟩ := Y
    have hmg : mg ("law" : PySem.Str) = some (.ref fa) := by
      have e : (HandSHeadRun.topDef (OpenLaw.row PySem.Challenge.rw_handcounts_k87_whole_joined_and_crossed).prog 65).name = ("law" : PySem.Str) := by kernel_rfl
      rw [← e]
      exact hmg0
    obtain ⟨fd, hb, hF⟩ := facts (P := (PySem.Challenge.rw_handcounts_k87_whole_joined_and_crossed).prog) (w := w) KX G hmg c.t.d c.more (pure_law K)
    exact ⟨K, fd, KX, hb, hF⟩
end Q7

set_option maxRecDepth 100000 in
set_option maxHeartbeats 0 in
theorem PySem.Challenge.cw_handcounts_k87_whole_joined_and_crossed_holds : PySem.Challenge.rw_handcounts_k87_whole_joined_and_crossed.Holds := by
  exact Q7.holds
