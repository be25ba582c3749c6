import PyProof.Rows.All
import Wide.All
import OpenK.AllK
import Wide.FinOn
import HandS.ForMost
import HandS.IsInst
import HandS.SortKw
import HandS.Wide
import HandS.Style
import HandS.More
import HandS.Defaults
import PySem.Challenge.RW_pacehall_k59_whole_blocks_of_one_whole
import HandS.Rev
import KE.GoesZip
import KE.GoesMore
set_option Elab.async false
set_option linter.all false
set_option maxRecDepth 100000
set_option maxHeartbeats 2000000
/-! Data held at values, states by data, what readings come to over data. -/
namespace Pc
open PySem PySem.Spec PyProof.Rows L2

/-- the data of this program -/
inductive D where
  | non | bl (b : Bool) | int (i : Int) | str (x : Str) | lst (xs : List D) | tup (xs : List D)
  | vw (C : Addr) (r f : Int) (ax : List (Int × Int))

/-- a view's fields, in the order in which they are stored -/
def vfs (r f : Int) (l : Addr) : List (Str × V) := [("room", .int r), ("first", .int f), ("axes", .ref l)]
def pairD (p : Int × Int) : D := .tup [.int p.1, .int p.2]

mutual
/-- v holds d over the tracked objects of H -/
inductive Dt (H : Hp) : V → D → Prop
  | non : Dt H .non .non
  | bl (b : Bool) : Dt H (.bl b) (.bl b)
  | int (i : Int) : Dt H (.int i) (.int i)
  | str (x : Str) : Dt H (.str x) (.str x)
  | lst {a : Addr} {xs : List V} {ds : List D} : H a = some (.lst xs) → DtAll H xs ds → Dt H (.ref a) (.lst ds)
  | tup {a : Addr} {xs : List V} {ds : List D} : H a = some (.tup xs) → DtAll H xs ds → Dt H (.ref a) (.tup ds)
  | vw {a dx : Addr} {C : Addr} {r f : Int} {ax : List (Int × Int)} {l : Addr} {xs : List V} : H a = some (.ins C dx (vfs r f l)) → H l = some (.lst xs) → DtAll H xs (ax.map pairD) → Dt H (.ref a) (.vw C r f ax)
inductive DtAll (H : Hp) : List V → List D → Prop
  | nil : DtAll H [] []
  | cons {v : V} {vs : List V} {d : D} {ds : List D} : Dt H v d → DtAll H vs ds → DtAll H (v :: vs) (d :: ds)
end

section
variable {H H' : Hp}
theorem pairs_mono (e : Same H H') : ∀ {xs : List V} {ax : List (Int × Int)}, DtAll H xs (ax.map pairD) → DtAll H' xs (ax.map pairD)
  | [], [], _ => .nil
  | x :: xs, p :: ax, h => by
    cases h with
    | cons h1 h2 =>
      refine .cons ?_ (pairs_mono e h2)
      cases h1 with
      | tup g1 g2 =>
        cases g2 with
        | cons k1 k2 =>
          cases k2 with
          | cons k3 k4 =>
            cases k1
            cases k3
            cases k4
            exact .tup (e _ _ g1) (.cons (.int _) (.cons (.int _) .nil))
  | [], _ :: _, h => by cases h
  | _ :: _, [], h => by cases h
mutual
theorem Dt.mono (e : Same H H') : ∀ (d : D) {v : V}, Dt H v d → Dt H' v d
  | .non, _, h => by cases h; exact .non
  | .bl b, _, h => by cases h; exact .bl _
  | .int i, _, h => by cases h; exact .int _
  | .str x, _, h => by cases h; exact .str _
  | .lst ds, _, h => by
    cases h with
    | lst h1 h2 => exact .lst (e _ _ h1) (DtAll.mono e ds h2)
  | .tup ds, _, h => by
    cases h with
    | tup h1 h2 => exact .tup (e _ _ h1) (DtAll.mono e ds h2)
  | .vw C r f ax, _, h => by
    cases h with
    | vw h1 h5 h6 => exact .vw (e _ _ h1) (e _ _ h5) (pairs_mono e h6)
theorem DtAll.mono (e : Same H H') : ∀ (ds : List D) {xs : List V}, DtAll H xs ds → DtAll H' xs ds
  | [], _, h => by cases h; exact .nil
  | d :: ds, _, h => by
    cases h with
    | cons h1 h2 => exact .cons (Dt.mono e d h1) (DtAll.mono e ds h2)
end
theorem Dt.mo {v : V} {d : D} (h : Dt H v d) (e : Same H H') : Dt H' v d := Dt.mono e d h
theorem DtAll.mo {vs : List V} {ds : List D} (h : DtAll H vs ds) (e : Same H H') : DtAll H' vs ds := DtAll.mono e ds h
theorem DtAll.length : ∀ {vs : List V} {ds : List D}, DtAll H vs ds → vs.length = ds.length
  | [], [], _ => rfl
  | _ :: _, _ :: _, h => by cases h with | cons _ h2 => rw [List.length_cons, List.length_cons, DtAll.length h2]
  | [], _ :: _, h => by cases h
  | _ :: _, [], h => by cases h
theorem DtAll.get : ∀ {vs : List V} {ds : List D} {i : Nat} {d : D}, DtAll H vs ds → ds[i]? = some d → ∃ v, vs[i]? = some v ∧ Dt H v d
  | [], [], i, d, _, e => by simp at e
  | v :: vs, d' :: ds, 0, d, h, e => by
    cases h with
    | cons h1 h2 =>
      have e' : d' = d := by simpa using e
      exact ⟨v, rfl, e' ▸ h1⟩
  | v :: vs, d' :: ds, i + 1, d, h, e => by
    cases h with
    | cons h1 h2 =>
      obtain ⟨w, e1, e2⟩ := DtAll.get (i := i) h2 (by simpa using e)
      exact ⟨w, by simpa using e1, e2⟩
  | [], _ :: _, _, _, h, _ => by cases h
  | _ :: _, [], _, _, h, _ => by cases h
theorem DtAll.append : ∀ {vs ws : List V} {ds es : List D}, DtAll H vs ds → DtAll H ws es → DtAll H (vs ++ ws) (ds ++ es)
  | [], _, [], _, _, g => g
  | _ :: _, _, _ :: _, _, h, g => by cases h with | cons h1 h2 => exact .cons h1 (DtAll.append h2 g)
  | [], _, _ :: _, _, h, _ => by cases h
  | _ :: _, _, [], _, h, _ => by cases h
theorem DtAll.take : ∀ (n : Nat) {vs : List V} {ds : List D}, DtAll H vs ds → DtAll H (vs.take n) (ds.take n)
  | 0, _, _, _ => .nil
  | n + 1, [], [], _ => .nil
  | n + 1, _ :: _, _ :: _, h => by cases h with | cons h1 h2 => exact .cons h1 (DtAll.take n h2)
  | _ + 1, [], _ :: _, h => by cases h
  | _ + 1, _ :: _, [], h => by cases h
theorem DtAll.drop : ∀ (n : Nat) {vs : List V} {ds : List D}, DtAll H vs ds → DtAll H (vs.drop n) (ds.drop n)
  | 0, _, _, h => h
  | n + 1, [], [], h => .nil
  | n + 1, _ :: _, _ :: _, h => by cases h with | cons h1 h2 => exact DtAll.drop n h2
  | _ + 1, [], _ :: _, h => by cases h
  | _ + 1, _ :: _, [], h => by cases h
theorem DtAll.reverse : ∀ {vs : List V} {ds : List D}, DtAll H vs ds → DtAll H vs.reverse ds.reverse
  | [], [], _ => .nil
  | _ :: _, _ :: _, h => by
    cases h with
    | cons h1 h2 =>
      rw [List.reverse_cons, List.reverse_cons]
      exact DtAll.append (DtAll.reverse h2) (.cons h1 .nil)
  | [], _ :: _, h => by cases h
  | _ :: _, [], h => by cases h
theorem DtAll.snoc {vs : List V} {ds : List D} {d : D} (h : DtAll H vs (ds ++ [d])) : ∃ ws v, vs = ws ++ [v] ∧ DtAll H ws ds ∧ Dt H v d := by
  have hl := h.length
  rw [List.length_append, List.length_singleton] at hl
  have h1 := DtAll.take ds.length h
  have h2 := DtAll.drop ds.length h
  rw [List.take_left' rfl] at h1
  rw [List.drop_left' rfl] at h2
  have e := List.take_append_drop ds.length vs
  generalize vs.drop ds.length = zs at h2 e
  cases h2 with
  | cons g1 g2 =>
    cases g2
    exact ⟨_, _, e.symm, h1, g1⟩
theorem dt_ints : ∀ {vs : List V} {ns : List Int}, DtAll H vs (ns.map D.int) → vs = ns.map V.int
  | [], [], _ => rfl
  | _ :: _, _ :: _, h => by
    cases h with
    | cons h1 h2 =>
      cases h1
      rw [dt_ints h2]
      rfl
  | [], _ :: _, h => by cases h
  | _ :: _, [], h => by cases h
theorem ints_dt : ∀ (ns : List Int), DtAll H (ns.map V.int) (ns.map D.int)
  | [] => .nil
  | _ :: ns => .cons (.int _) (ints_dt ns)
end

/-! ### heaps with some addresses hidden -/
def hid (L : List Addr) (H : Hp) : Hp := fun a => if a ∈ L then none else H a
section
variable {L M : List Addr} {H H' : Hp} {a p : Addr} {o u : HO}
theorem hid_in (h : a ∈ L) : hid L H a = none := by unfold hid; rw [if_pos h]
theorem hid_out (h : a ∉ L) : hid L H a = H a := by unfold hid; rw [if_neg h]
theorem hid_some (h : hid L H a = some o) : a ∉ L ∧ H a = some o := by
  by_cases e : a ∈ L
  · rw [hid_in e] at h; cases h
  · rw [hid_out e] at h; exact ⟨e, h⟩
theorem hid_sub : Same (hid L H) H := fun _ _ h => (hid_some h).2
theorem hid_mono (e : Same H H') : Same (hid L H) (hid L H') := fun b o h => by
  obtain ⟨h1, h2⟩ := hid_some h
  rw [hid_out h1]
  exact e _ _ h2
theorem hid_le (h : ∀ b, b ∈ M → b ∈ L) : Same (hid L H) (hid M H) := fun b o e => by
  obtain ⟨h1, h2⟩ := hid_some e
  rw [hid_out fun z => h1 (h b z)]
  exact h2
theorem hid_upd (h : a ∈ L) : hid L (upd H a o) = hid L H := by
  funext b
  by_cases e : b ∈ L
  · rw [hid_in e, hid_in e]
  · rw [hid_out e, hid_out e, upd_ne (fun z => e (by rw [z]; exact h))]
theorem hid_nil : hid [] H = H := by
  funext b
  exact hid_out (by simp)
theorem hid_app : hid (L ++ M) H = hid M (hid L H) := by
  funext b
  by_cases e : b ∈ L
  · rw [hid_in (List.mem_append_left _ e)]
    by_cases e' : b ∈ M
    · rw [hid_in e']
    · rw [hid_out e', hid_in e]
  · by_cases e' : b ∈ M
    · rw [hid_in (List.mem_append_right _ e'), hid_in e']
    · rw [hid_out (by simp [e, e']), hid_out e', hid_out e]
theorem same_new (h : H p = none) : Same H (upd H p o) := fun b u e => by
  rw [upd_ne (ne_of_none e h)]
  exact e
/-- a new address is hidden: all that was seen is seen -/
theorem hid_cons (h : H p = none) : Same (hid L H) (hid (p :: L) H) := fun b u e => by
  obtain ⟨h1, h2⟩ := hid_some e
  rw [hid_out]
  · exact h2
  · intro z
    rcases List.mem_cons.mp z with z | z
    · rw [z, h] at h2; cases h2
    · exact h1 z
end

/-! ### a state by data: the base H0, the hidden addresses L0 of those who call, the objects ms of one's own that change, the slots es -/
inductive Mu where
  | l (ds : List D)
  | k (kvs : List (Int × D))
  /-- an object as it is -/
  | o (u : HO)
inductive En where
  | no | d (x : D) | v (x : V)
/-- a dict's entries -/
inductive Kv (G : Hp) : List (Key × V) → List (Int × D) → Prop
  | nil : Kv G [] []
  | cons {i : Int} {v : V} {d : D} {ys : List (Key × V)} {kvs : List (Int × D)} : Dt G v d → Kv G ys kvs → Kv G ((.inl i, v) :: ys) ((i, d) :: kvs)
def MuAt (G H : Hp) (a : Addr) : Mu → Prop
  | .l ds => ∃ xs, H a = some (.lst xs) ∧ DtAll G xs ds
  | .k kvs => ∃ ys, H a = some (.dK ys) ∧ Kv G ys kvs
  | .o u => H a = some u
def EnAt (G : Hp) (x : Option (Option V)) : En → Prop
  | .no => True
  | .d d => ∃ v, x = some (some v) ∧ Dt G v d
  | .v v => x = some (some v)
abbrev mus (ms : List (Addr × Mu)) : List Addr := ms.map (·.1)
abbrev hm (L0 : List Addr) (ms : List (Addr × Mu)) : List Addr := mus ms ++ L0
structure EnvOk (G : Hp) (σ : L2.St) (es : List En) : Prop where
  len : σ.length = es.length
  at_ : ∀ (i : Nat) (e : En), es[i]? = some e → EnAt G (σ[i]?) e
structure St0 (H0 : Hp) (L0 : List Addr) (ms : List (Addr × Mu)) (es : List En) (σ : L2.St) (H : Hp) : Prop where
  same : Same H0 (hid (mus ms) H)
  trk : ∀ a ∈ hm L0 ms, H a ≠ none
  nd : (mus ms).Nodup
  dj : ∀ a ∈ mus ms, a ∉ L0
  mu : ∀ p ∈ ms, MuAt (hid (hm L0 ms) H) H p.1 p.2
  env : EnvOk (hid (hm L0 ms) H) σ es

section
variable {H H' G G' H0 B : Hp} {L0 : List Addr} {ms ms' : List (Addr × Mu)} {es es' : List En} {σ : L2.St} {a p : Addr} {v : V} {d : D}
theorem Kv.mono (e : Same G G') : ∀ {ys : List (Key × V)} {kvs : List (Int × D)}, Kv G ys kvs → Kv G' ys kvs
  | _, _, .nil => .nil
  | _, _, .cons h t => .cons (h.mo e) (Kv.mono e t)
theorem MuAt.mono {m : Mu} (e : Same G G') (e2 : ∀ o, H a = some o → H' a = some o) (h : MuAt G H a m) : MuAt G' H' a m := by
  cases m with
  | l ds =>
    obtain ⟨xs, h1, h2⟩ := h
    exact ⟨xs, e2 _ h1, h2.mo e⟩
  | k kvs =>
    obtain ⟨ys, h1, h2⟩ := h
    exact ⟨ys, e2 _ h1, h2.mono e⟩
  | o u => exact e2 _ h
theorem EnAt.mono {x : Option (Option V)} {e : En} (s : Same G G') (h : EnAt G x e) : EnAt G' x e := by
  cases e with
  | no => trivial
  | d d =>
    obtain ⟨v, h1, h2⟩ := h
    exact ⟨v, h1, h2.mo s⟩
  | v v => exact h
theorem EnvOk.mono (s : Same G G') (h : EnvOk G σ es) : EnvOk G' σ es := ⟨h.len, fun i e q => (h.at_ i e q).mono s⟩
theorem trk_out (h : ∀ a ∈ L0, H a ≠ none) (hp : H p = none) : p ∉ L0 := fun z => h p z hp
/-- the heap grows -/
theorem St0.grow (s : St0 H0 L0 ms es σ H) (e : Same H H') : St0 H0 L0 ms es σ H' := by
  refine ⟨s.same.trans (hid_mono e), fun a ha z => ?_, s.nd, s.dj, fun p hp => (s.mu p hp).mono (hid_mono e) (fun o q => e _ _ q), s.env.mono (hid_mono e)⟩
  cases q : H a with
  | none => exact s.trk a ha q
  | some o =>
    rw [e a o q] at z
    cases z
theorem St0.base (s : St0 B L0 ms es σ H) (e : Same H0 B) : St0 H0 L0 ms es σ H := ⟨e.trans s.same, s.trk, s.nd, s.dj, s.mu, s.env⟩
/-- the state as a base of its own -/
theorem St0.rebase (s : St0 H0 L0 ms es σ H) : St0 (hid (mus ms) H) L0 ms es σ H := ⟨Same.refl _, s.trk, s.nd, s.dj, s.mu, s.env⟩
theorem St0.same0 (s : St0 H0 L0 ms es σ H) : Same H0 H := s.same.trans hid_sub
theorem St0.same_back (s : St0 H0 L0 ms es σ H) (e : Same H H') (hp : H' p = none) : H p = none := e.free hp
theorem St0.new (s : St0 H0 L0 ms es σ H) (hp : H p = none) : p ∉ hm L0 ms := fun z => s.trk p z hp
theorem EnvOk.set {i : Nat} {e : En} (h : EnvOk G σ es) (he : EnAt G (some (some v)) e) : EnvOk G (σ.set i (some v)) (es.set i e) := by
  refine ⟨by rw [List.length_set, List.length_set]; exact h.len, fun j f q => ?_⟩
  by_cases hj : i = j
  · subst hj
    by_cases hl : i < es.length
    · rw [List.getElem?_set_self hl] at q
      cases q
      rw [List.getElem?_set_self (by rw [h.len]; exact hl)]
      exact he
    · rw [List.getElem?_eq_none (by rw [List.length_set]; omega)] at q
      cases q
  · rw [List.getElem?_set_ne hj] at q ⊢
    exact h.at_ j f q
theorem St0.set {i : Nat} {e : En} (s : St0 H0 L0 ms es σ H) (he : EnAt (hid (hm L0 ms) H) (some (some v)) e) : St0 H0 L0 ms (es.set i e) (σ.set i (some v)) H :=
  ⟨s.same, s.trk, s.nd, s.dj, s.mu, s.env.set he⟩
/-- less is known of the slots -/
inductive Wk : List En → List En → Prop
  | nil : Wk [] []
  | keep {e : En} {es es' : List En} : Wk es es' → Wk (e :: es) (e :: es')
  | drop {e : En} {es es' : List En} : Wk es es' → Wk (e :: es) (.no :: es')
theorem Wk.refl : ∀ es : List En, Wk es es
  | [] => .nil
  | _ :: es => .keep (Wk.refl es)
theorem Wk.len : ∀ {es es' : List En}, Wk es es' → es.length = es'.length
  | _, _, .nil => rfl
  | _, _, .keep h => by rw [List.length_cons, List.length_cons, Wk.len h]
  | _, _, .drop h => by rw [List.length_cons, List.length_cons, Wk.len h]
theorem Wk.at_ : ∀ {es es' : List En}, Wk es es' → ∀ (i : Nat) (e : En), es'[i]? = some e → e = .no ∨ es[i]? = some e
  | _, _, .nil, i, e, q => by simp at q
  | _, _, .keep h, 0, e, q => .inr (by simpa using q)
  | _, _, .keep h, i + 1, e, q => by
    have := Wk.at_ h i e (by simpa using q)
    simpa using this
  | _, _, .drop h, 0, e, q => .inl (by simpa using q.symm)
  | _, _, .drop h, i + 1, e, q => by
    have := Wk.at_ h i e (by simpa using q)
    simpa using this
theorem EnvOk.weak (h : EnvOk G σ es) (w : Wk es es') : EnvOk G σ es' := by
  refine ⟨h.len.trans w.len, fun i e q => ?_⟩
  rcases w.at_ i e q with z | z
  · subst z
    trivial
  · exact h.at_ i e z
theorem St0.weak (s : St0 H0 L0 ms es σ H) (w : Wk es es') : St0 H0 L0 ms es' σ H := ⟨s.same, s.trk, s.nd, s.dj, s.mu, s.env.weak w⟩
theorem set_mus {j : Nat} {m m' : Mu} (h : ms[j]? = some (a, m)) : mus (ms.set j (a, m')) = mus ms := by
  show (ms.set j (a, m')).map (·.1) = ms.map (·.1)
  rw [List.map_set]
  apply List.ext_getElem?
  intro i
  by_cases e : j = i
  · subst e
    have hl : j < ms.length := (List.getElem?_eq_some_iff.mp h).1
    rw [List.getElem?_set_self (by rw [List.length_map]; exact hl), List.getElem?_map, h]
    rfl
  · rw [List.getElem?_set_ne e]
theorem mu_mem {j : Nat} {m : Mu} (h : ms[j]? = some (a, m)) : a ∈ mus ms := List.mem_map.mpr ⟨(a, m), List.mem_of_getElem? h, rfl⟩
/-- one's own object is changed -/
theorem St0.mut {j : Nat} {m m' : Mu} {o : HO} (s : St0 H0 L0 ms es σ H) (h : ms[j]? = some (a, m)) (hn : MuAt (hid (hm L0 ms) H) (upd H a o) a m') : St0 H0 L0 (ms.set j (a, m')) es σ (upd H a o) := by
  have ha := mu_mem h
  have ha2 : a ∈ hm L0 ms := List.mem_append_left _ ha
  have em := set_mus (m' := m') h
  have e1 : hid (hm L0 ms) (upd H a o) = hid (hm L0 ms) H := hid_upd ha2
  have ehm : hm L0 (ms.set j (a, m')) = hm L0 ms := by
    show mus (ms.set j (a, m')) ++ L0 = mus ms ++ L0
    rw [em]
  refine ⟨?_, fun b hb => ?_, ?_, ?_, fun p hp => ?_, ?_⟩
  · rw [em, hid_upd ha]
    exact s.same
  · rw [ehm] at hb
    by_cases e : b = a
    · rw [e, upd_same]
      simp
    · rw [upd_ne e]
      exact s.trk b hb
  · rw [em]
    exact s.nd
  · rw [em]
    exact s.dj
  · rw [ehm, e1]
    obtain ⟨i, hi⟩ := List.getElem?_of_mem hp
    by_cases hj : j = i
    · subst hj
      rw [List.getElem?_set_self (List.getElem?_eq_some_iff.mp h).1] at hi
      cases hi
      exact hn
    · rw [List.getElem?_set_ne hj] at hi
      have hne : p.1 ≠ a := fun z => by
        have k1 : (mus ms)[i]? = some p.1 := by
          show (ms.map (·.1))[i]? = _
          rw [List.getElem?_map, hi]
          rfl
        have k2 : (mus ms)[j]? = some a := by
          show (ms.map (·.1))[j]? = _
          rw [List.getElem?_map, h]
          rfl
        rw [z] at k1
        exact hj (nd_ix s.nd k2 k1)
      refine (s.mu p (List.mem_of_getElem? hi)).mono (Same.refl _) fun u q => ?_
      rw [upd_ne hne]
      exact q
  · rw [ehm, e1]
    exact s.env
/-- a new object of one's own -/
theorem St0.own0 {m : Mu} {o : HO} (s : St0 H0 L0 ms es σ H) (hp : H p = none) (hn : MuAt (hid (hm L0 ms) H) (upd H p o) p m) : St0 H0 L0 ((p, m) :: ms) es σ (upd H p o) := by
  have np := s.new hp
  have e0 : hid (hm L0 ((p, m) :: ms)) (upd H p o) = hid (hm L0 ((p, m) :: ms)) H := hid_upd (by show p ∈ p :: _; exact List.mem_cons_self)
  have e2 : Same (hid (hm L0 ms) H) (hid (hm L0 ((p, m) :: ms)) H) := hid_cons hp
  refine ⟨?_, fun b hb => ?_, ?_, fun b hb => ?_, fun q hq => ?_, ?_⟩
  · have z : hid (mus ((p, m) :: ms)) (upd H p o) = hid (mus ((p, m) :: ms)) H := hid_upd (by show p ∈ p :: _; exact List.mem_cons_self)
    rw [z]
    exact s.same.trans (hid_cons hp)
  · rcases List.mem_cons.mp hb with e | e
    · rw [e, upd_same]
      simp
    · by_cases e' : b = p
      · rw [e', upd_same]
        simp
      · rw [upd_ne e']
        exact s.trk b e
  · exact List.nodup_cons.mpr ⟨fun z => np (List.mem_append_left _ z), s.nd⟩
  · rcases List.mem_cons.mp hb with e | e
    · rw [e]
      exact fun z => np (List.mem_append_right _ z)
    · exact s.dj b e
  · rw [e0]
    rcases List.mem_cons.mp hq with e | e
    · subst e
      exact hn.mono e2 fun _ z => z
    · refine (s.mu q e).mono e2 fun u z => ?_
      rw [upd_ne (ne_of_none z hp)]
      exact z
  · rw [e0]
    exact s.env.mono e2
theorem St0.own {m : Mu} {o : HO} {i : Nat} (s : St0 H0 L0 ms es σ H) (hp : H p = none) (hn : MuAt (hid (hm L0 ms) H) (upd H p o) p m) : St0 H0 L0 ((p, m) :: ms) (es.set i (.v (.ref p))) (σ.set i (some (.ref p))) (upd H p o) :=
  (s.own0 hp hn).set rfl
/-- one's own list changes no more -/
theorem St0.freeze {j i : Nat} {ds : List D} (s : St0 H0 L0 ms es σ H) (h : ms[j]? = some (a, .l ds)) (hi : es[i]? = some (.v (.ref a))) : St0 H0 L0 (ms.eraseIdx j) (es.set i (.d (.lst ds))) σ H := by
  have hj : j < ms.length := (List.getElem?_eq_some_iff.mp h).1
  have sub : ∀ p, p ∈ ms.eraseIdx j → p ∈ ms := fun p hp => (List.eraseIdx_sublist ms j).subset hp
  have sub1 : ∀ b, b ∈ mus (ms.eraseIdx j) → b ∈ mus ms := fun b hb => by
    obtain ⟨p, hp, e⟩ := List.mem_map.mp hb
    exact List.mem_map.mpr ⟨p, sub p hp, e⟩
  have sub2 : ∀ b, b ∈ hm L0 (ms.eraseIdx j) → b ∈ hm L0 ms := fun b hb => by
    rcases List.mem_append.mp hb with e | e
    · exact List.mem_append_left _ (sub1 b e)
    · exact List.mem_append_right _ e
  have emu : mus (ms.eraseIdx j) = (mus ms).eraseIdx j := by
    show (ms.eraseIdx j).map (·.1) = (ms.map (·.1)).eraseIdx j
    rw [List.eraseIdx_eq_take_drop_succ, List.eraseIdx_eq_take_drop_succ, List.map_append, List.map_take, List.map_drop]
  have ha : (mus ms)[j]? = some a := by
    show (ms.map (·.1))[j]? = some a
    rw [List.getElem?_map, h]
    rfl
  have na : a ∉ hm L0 (ms.eraseIdx j) := fun z => by
    rcases List.mem_append.mp z with e | e
    · rw [emu] at e
      obtain ⟨k, hk, ek⟩ := List.mem_eraseIdx_iff_getElem?.mp e
      exact hk (nd_ix s.nd ek ha)
    · exact s.dj a (mu_mem h) e
  refine ⟨s.same.trans (hid_le sub1), fun b hb => s.trk b (sub2 b hb), ?_, fun b hb => s.dj b (sub1 b hb), fun p hp => (s.mu p (sub p hp)).mono (hid_le sub2) fun _ q => q, ?_⟩
  · rw [emu]
    exact s.nd.sublist (List.eraseIdx_sublist _ _)
  · have e1 := s.env.mono (hid_le (H := H) sub2)
    refine ⟨by rw [List.length_set]; exact e1.len, fun k f q => ?_⟩
    by_cases hk : i = k
    · subst hk
      have hl : i < es.length := (List.getElem?_eq_some_iff.mp hi).1
      rw [List.getElem?_set_self hl] at q
      cases q
      obtain ⟨xs, h1, h2⟩ := s.mu _ (List.mem_of_getElem? h)
      exact ⟨.ref a, s.env.at_ i _ hi, .lst (by rw [hid_out na]; exact h1) (h2.mo (hid_le sub2))⟩
    · rw [List.getElem?_set_ne hk] at q
      exact e1.at_ k f q
end
end Pc

set_option Elab.async false
set_option linter.all false
set_option maxRecDepth 100000
set_option maxHeartbeats 2000000
/-! What readings come to, over data. -/
namespace Pc
open PySem PySem.Spec PyProof.Rows L2

section
variable (H0 : Hp) (L0 : List Addr) (ms : List (Addr × Mu)) (es : List En)
def Ev (te : TE) (d : D) : Prop := ∀ σ H, St0 H0 L0 ms es σ H → ∀ Q : VK, (∀ v H', Same H H' → Dt (hid (hm L0 ms) H') v d → Q v H') → te σ H Q
/-- a value as it is -/
def EvV (te : TE) (v : V) : Prop := ∀ σ H, St0 H0 L0 ms es σ H → ∀ Q : VK, (∀ H', Same H H' → Q v H') → te σ H Q
/-- a new list -/
def EvN (te : TE) (ds : List D) : Prop := ∀ σ H, St0 H0 L0 ms es σ H → ∀ Q : VK, (∀ p H' xs, H p = none → Same H H' → H' p = some (.lst xs) → DtAll (hid (p :: hm L0 ms) H') xs ds → Q (.ref p) H') → te σ H Q
def EvT (tt : TT) (b : Bool) : Prop := ∀ σ H, St0 H0 L0 ms es σ H → ∀ Q : Bool → Hp → Prop, (∀ H', Same H H' → Q b H') → tt σ H Q
def EvA (ta : TA) (ds : List D) : Prop := ∀ σ H, St0 H0 L0 ms es σ H → ∀ Q : List V → Hp → Prop, (∀ vs H', Same H H' → DtAll (hid (hm L0 ms) H') vs ds → Q vs H') → ta σ H Q
def EvO (to : TO) (o : Option Int) : Prop := ∀ σ H, St0 H0 L0 ms es σ H → ∀ Q : Option Int → Hp → Prop, (∀ H', Same H H' → Q o H') → to σ H Q
def Run (t : TS) (E : Ends) : Prop := ∀ σ H, St0 H0 L0 ms es σ H → t E σ H
def Nx (N : L2.St → Hp → Prop) : Prop := ∀ σ H, St0 H0 L0 ms es σ H → N σ H
/-- a target: the slots that it stores are among ss -/
def As (g : TG) (d : D) (es' : List En) (ss : List Nat) : Prop := ∀ σ H v (Q : L2.St → Hp → Prop), St0 H0 L0 ms es σ H → Dt (hid (hm L0 ms) H) v d →
  (∀ σ', St0 H0 L0 ms es' σ' H → σ'.length = σ.length → (∀ i, i ∉ ss → σ'[i]? = σ[i]?) → Q σ' H) → g v σ H Q
def AsL (g : TGs) (ds : List D) (es' : List En) (ss : List Nat) : Prop := ∀ σ H vs (Q : L2.St → Hp → Prop), St0 H0 L0 ms es σ H → DtAll (hid (hm L0 ms) H) vs ds →
  (∀ σ', St0 H0 L0 ms es' σ' H → σ'.length = σ.length → (∀ i, i ∉ ss → σ'[i]? = σ[i]?) → Q σ' H) → g vs σ H Q
end
/-- what a def hands back -/
def Rt (H0 : Hp) (L0 : List Addr) (E : Ends) (d : D) : Prop := ∀ v H', Same H0 H' → Dt (hid L0 H') v d → E.rt v H'
/-- by values: what stands at the operands, what comes -/
def RD (r : R2) (L : List Addr) (a b d : D) : Prop := ∀ H x y, (∀ z ∈ L, H z ≠ none) → Dt (hid L H) x a → Dt (hid L H) y b → ∀ Q : VK, (∀ v H', Same H H' → Dt (hid L H') v d → Q v H') → r x y H Q
def CD (r : List V → Hp → VK → Prop) (L : List Addr) (ds : List D) (d : D) : Prop := ∀ H vs, (∀ z ∈ L, H z ≠ none) → DtAll (hid L H) vs ds → ∀ Q : VK, (∀ v H', Same H H' → Dt (hid L H') v d → Q v H') → r vs H Q
/-- the promise of a def that changes nothing: R ds d -/
def spP (R : List D → D → Prop) : Sp := fun vs H Q _ => ∃ (L : List Addr) (ds : List D) (d : D), R ds d ∧ (∀ z ∈ L, H z ≠ none) ∧ DtAll (hid L H) vs ds ∧ ∀ v H', Same H H' → Dt (hid L H') v d → Q v H'

section
variable {H0 B : Hp} {L0 : List Addr} {ms : List (Addr × Mu)} {es es' es'' : List En} {te ta tb tc : TE} {tt tu : TT} {d d1 d2 d3 : D} {ds ds' : List D} {E : Ends} {ts tu' : TS} {K : PySem.W.Frag} {i j : Nat} {n m : Int} {b c : Bool} {x : V}

theorem trkS {σ : L2.St} {H : Hp} (s : St0 H0 L0 ms es σ H) : ∀ z ∈ hm L0 ms, H z ≠ none := s.trk

/-! ### values -/
theorem ev_var (h : es[i]? = some (.d d)) : Ev H0 L0 ms es (tVar i) d := fun σ H s Q q => by
  obtain ⟨v, h1, h2⟩ := s.env.at_ i _ h
  exact ⟨v, h1, q v H (Same.refl H) h2⟩
theorem evv_var (h : es[i]? = some (.v x)) : EvV H0 L0 ms es (tVar i) x := fun σ H s Q q => ⟨x, s.env.at_ i _ h, q H (Same.refl H)⟩
theorem ev_int : Ev H0 L0 ms es (tC (.int n)) (.int n) := fun σ H s Q q => q _ H (Same.refl H) (.int n)
theorem ev_bl : Ev H0 L0 ms es (tC (.bl b)) (.bl b) := fun σ H s Q q => q _ H (Same.refl H) (.bl b)
theorem ev_non : Ev H0 L0 ms es (tC .non) .non := fun σ H s Q q => q _ H (Same.refl H) .non
theorem ev_str {z : Str} : Ev H0 L0 ms es (tC (.str z)) (.str z) := fun σ H s Q q => q _ H (Same.refl H) (.str z)
theorem Ev.of {te : TE} {d d' : D} (h : Ev H0 L0 ms es te d) (e : d = d') : Ev H0 L0 ms es te d' := e ▸ h
theorem EvT.of {tt : TT} {b c : Bool} (h : EvT H0 L0 ms es tt b) (e : b = c) : EvT H0 L0 ms es tt c := e ▸ h
theorem EvV.ev {te : TE} {v : V} {d : D} (h : EvV H0 L0 ms es te v) (k : ∀ G, Dt G v d) : Ev H0 L0 ms es te d := fun σ H s Q q => h σ H s Q fun H' e => q v H' e (k _)
theorem EvN.ev (h : EvN H0 L0 ms es te ds) : Ev H0 L0 ms es te (.lst ds) := fun σ H s Q q => h σ H s Q fun p H' xs h1 h2 h3 h4 =>
  q _ H' h2 (.lst (by rw [hid_out (s.new h1)]; exact h3) (h4.mo (hid_le fun b hb => List.mem_cons_of_mem _ hb)))
theorem ev_op {r : R2} (ha : Ev H0 L0 ms es ta d1) (hb : Ev H0 L0 ms es tb d2) (hr : RD r (hm L0 ms) d1 d2 d) : Ev H0 L0 ms es (tOp r ta tb) d := fun σ H s Q q =>
  ha σ H s _ fun x H1 e1 k1 => hb σ H1 (s.grow e1) _ fun y H2 e2 k2 => hr H2 x y (trkS (s.grow (e1.trans e2))) (k1.mo (hid_mono e2)) k2 Q fun v H3 e3 k3 => q v H3 ((e1.trans e2).trans e3) k3
theorem ev_un {r : V → Hp → VK → Prop} {f : Int → Int} (hr : ∀ (i : Int) H (Q : VK), Q (.int (f i)) H → r (.int i) H Q) (ha : Ev H0 L0 ms es ta (.int n)) : Ev H0 L0 ms es (tUn r ta) (.int (f n)) := fun σ H s Q q =>
  ha σ H s _ fun x H1 e1 k1 => by
    cases k1
    exact hr n H1 Q (q _ H1 e1 (.int _))
theorem ev_neg (ha : Ev H0 L0 ms es ta (.int n)) : Ev H0 L0 ms es (tUn (rU fun i => .int (-i)) ta) (.int (-n)) := ev_un (f := fun i => -i) (fun i H Q q => ⟨i, rfl, q⟩) ha
/-! by values -/
theorem rd_I0 {g : Int → Int → V} {L : List Addr} (k : ∀ G, Dt G (g n m) d) : RD (rI0 g) L (.int n) (.int m) d := fun H x y _ hx hy Q q => by
  cases hx
  cases hy
  exact ⟨n, m, rfl, rfl, q _ H (Same.refl H) (k _)⟩
theorem rd_I {C : Int → Int → Prop} {g : Int → Int → V} {L : List Addr} (hc : C n m) (k : ∀ G, Dt G (g n m) d) : RD (rI C g) L (.int n) (.int m) d := fun H x y _ hx hy Q q => by
  cases hx
  cases hy
  exact ⟨n, m, rfl, rfl, hc, q _ H (Same.refl H) (k _)⟩
theorem ev_add (ha : Ev H0 L0 ms es ta (.int n)) (hb : Ev H0 L0 ms es tb (.int m)) : Ev H0 L0 ms es (tOp (rI0 fun i j => .int (i + j)) ta tb) (.int (n + m)) := ev_op ha hb (rd_I0 fun _ => .int _)
theorem ev_sub (ha : Ev H0 L0 ms es ta (.int n)) (hb : Ev H0 L0 ms es tb (.int m)) : Ev H0 L0 ms es (tOp (rI0 fun i j => .int (i - j)) ta tb) (.int (n - m)) := ev_op ha hb (rd_I0 fun _ => .int _)
theorem ev_mul {C : Int → Int → Prop} (hc : C n m) (ha : Ev H0 L0 ms es ta (.int n)) (hb : Ev H0 L0 ms es tb (.int m)) : Ev H0 L0 ms es (tOp (rI C fun i j => .int (i * j)) ta tb) (.int (n * m)) := ev_op ha hb (rd_I hc fun _ => .int _)
theorem ev_mod (hc : 0 < m) (ha : Ev H0 L0 ms es ta (.int n)) (hb : Ev H0 L0 ms es tb (.int m)) : Ev H0 L0 ms es (tOp (rI (fun _ j => 0 < j) fun i j => .int (i % j)) ta tb) (.int (n % m)) := ev_op ha hb (rd_I hc fun _ => .int _)
theorem ev_fdiv {C : Int → Int → Prop} (hc : C n m) (ha : Ev H0 L0 ms es ta (.int n)) (hb : Ev H0 L0 ms es tb (.int m)) : Ev H0 L0 ms es (tOp (rI C fun i j => .int (i / j)) ta tb) (.int (n / m)) := ev_op ha hb (rd_I hc fun _ => .int _)
theorem ev_pow {C : Int → Int → Prop} (hc : C n m) (ha : Ev H0 L0 ms es ta (.int n)) (hb : Ev H0 L0 ms es tb (.int m)) : Ev H0 L0 ms es (tOp (rI C fun i j => .int (i ^ j.toNat)) ta tb) (.int (n ^ m.toNat)) := ev_op ha hb (rd_I hc fun _ => .int _)
theorem ev_lt (ha : Ev H0 L0 ms es ta (.int n)) (hb : Ev H0 L0 ms es tb (.int m)) : Ev H0 L0 ms es (tOp (rI0 fun i j => .bl (decide (i < j))) ta tb) (.bl (decide (n < m))) := ev_op ha hb (rd_I0 fun _ => .bl _)
theorem ev_le (ha : Ev H0 L0 ms es ta (.int n)) (hb : Ev H0 L0 ms es tb (.int m)) : Ev H0 L0 ms es (tOp (rI0 fun i j => .bl (decide (i ≤ j))) ta tb) (.bl (decide (n ≤ m))) := ev_op ha hb (rd_I0 fun _ => .bl _)
theorem ev_gt (ha : Ev H0 L0 ms es ta (.int n)) (hb : Ev H0 L0 ms es tb (.int m)) : Ev H0 L0 ms es (tOp (rI0 fun i j => .bl (decide (j < i))) ta tb) (.bl (decide (m < n))) := ev_op ha hb (rd_I0 fun _ => .bl _)
theorem ev_ge (ha : Ev H0 L0 ms es ta (.int n)) (hb : Ev H0 L0 ms es tb (.int m)) : Ev H0 L0 ms es (tOp (rI0 fun i j => .bl (decide (j ≤ i))) ta tb) (.bl (decide (m ≤ n))) := ev_op ha hb (rd_I0 fun _ => .bl _)
/-- flat data and their equality -/
def scalD : D → D → Bool
  | .int _, .int _ => true
  | .str _, .str _ => true
  | .bl _, .bl _ => true
  | .non, .non => true
  | .int _, .non => true
  | _, _ => false
def sameD : D → D → Bool
  | .int i, .int j => decide (i = j)
  | .str x, .str y => decide (x = y)
  | .bl x, .bl y => decide (x = y)
  | .non, .non => true
  | _, _ => false
theorem scal_of {G : Hp} {x y : V} {a b : D} (h : scalD a b = true) (hx : Dt G x a) (hy : Dt G y b) : scal x y = true ∧ decide (x = y) = sameD a b := by
  cases hx <;> cases hy <;> first
    | (cases h; done)
    | exact ⟨rfl, rfl⟩
    | (refine ⟨rfl, ?_⟩; simp [sameD])
theorem ev_eq (hs : scalD d1 d2 = true) (ha : Ev H0 L0 ms es ta d1) (hb : Ev H0 L0 ms es tb d2) : Ev H0 L0 ms es (tOp rEq ta tb) (.bl (sameD d1 d2)) := ev_op ha hb fun H x y _ hx hy Q q => by
  obtain ⟨h1, h2⟩ := scal_of hs hx hy
  exact ⟨h1, by rw [h2]; exact q _ H (Same.refl H) (.bl _)⟩
theorem ev_ne (hs : scalD d1 d2 = true) (ha : Ev H0 L0 ms es ta d1) (hb : Ev H0 L0 ms es tb d2) : Ev H0 L0 ms es (tOp rNe ta tb) (.bl (!sameD d1 d2)) := ev_op ha hb fun H x y _ hx hy Q q => by
  obtain ⟨h1, h2⟩ := scal_of hs hx hy
  exact ⟨h1, by rw [h2]; exact q _ H (Same.refl H) (.bl _)⟩
/-- is None, is not None -/
def isNonD : D → Bool
  | .non => true
  | _ => false
theorem non_of {G : Hp} {x : V} {a : D} (h : Dt G x a) : decide (x = .non) = isNonD a := by cases h <;> rfl
theorem ev_isN (ha : Ev H0 L0 ms es ta d) : Ev H0 L0 ms es (tIsN ta) (.bl (isNonD d)) := fun σ H s Q q => ha σ H s _ fun x H1 e1 k1 => by
  show Q (.bl (decide (x = .non))) H1
  rw [non_of k1]
  exact q _ H1 e1 (.bl _)
theorem ev_notN (ha : Ev H0 L0 ms es ta d) : Ev H0 L0 ms es (tNotN ta) (.bl (!isNonD d)) := fun σ H s Q q => ha σ H s _ fun x H1 e1 k1 => by
  show Q (.bl (!decide (x = .non))) H1
  rw [non_of k1]
  exact q _ H1 e1 (.bl _)
/-! subscripts -/
theorem atI_map {xs : List V} {i : Int} (h : xs.length = ds.length) {v : V} (hj : ∀ k, ixN ds.length i = some k → xs[k]? = some v) (he : ∃ k, ixN ds.length i = some k) : atI xs i = some v := by
  obtain ⟨k, e⟩ := he
  unfold atI
  rw [h, e]
  exact hj k e
theorem ix_get {G : Hp} {xs : List V} {i : Int} (hx : DtAll G xs ds) (h : atI ds i = some d) : ∃ v, atI xs i = some v ∧ Dt G v d := by
  unfold atI at h ⊢
  rw [hx.length]
  cases e : ixN ds.length i with
  | none => rw [e] at h; cases h
  | some k =>
    rw [e] at h
    exact hx.get (i := k) h
theorem ev_ixL (h : atI ds n = some d) (ha : Ev H0 L0 ms es ta (.lst ds)) (hb : Ev H0 L0 ms es tb (.int n)) : Ev H0 L0 ms es (tOp (rIxL K) ta tb) d := ev_op ha hb fun H x y _ hx hy Q q => by
  cases hy
  cases hx with
  | lst h1 h2 =>
    obtain ⟨v, e1, e2⟩ := ix_get h2 h
    exact ⟨_, _, _, v, rfl, rfl, .inl (.inl (hid_sub _ _ h1)), e1, q v H (Same.refl H) e2⟩
theorem ev_ixT (h : atI ds n = some d) (ha : Ev H0 L0 ms es ta (.tup ds)) (hb : Ev H0 L0 ms es tb (.int n)) : Ev H0 L0 ms es (tOp (rIxT K) ta tb) d := ev_op ha hb fun H x y _ hx hy Q q => by
  cases hy
  cases hx with
  | tup h1 h2 =>
    obtain ⟨v, e1, e2⟩ := ix_get h2 h
    exact ⟨_, _, _, v, rfl, rfl, .inl (.inl (hid_sub _ _ h1)), e1, q v H (Same.refl H) e2⟩
/-! arguments, displays -/
theorem ea_nil : EvA H0 L0 ms es tNil [] := fun σ H s Q q => q [] H (Same.refl H) .nil
theorem ea_cons {tr : TA} (h : Ev H0 L0 ms es te d) (hr : EvA H0 L0 ms es tr ds) : EvA H0 L0 ms es (tCons te tr) (d :: ds) := fun σ H s Q q =>
  h σ H s _ fun x H1 e1 k1 => hr σ H1 (s.grow e1) _ fun vs H2 e2 k2 => q _ H2 (e1.trans e2) (.cons (k1.mo (hid_mono e2)) k2)
theorem ev_tup {t : TA} (h : EvA H0 L0 ms es t ds) (hl : Nat.ble ds.length 1000 = true := by rfl) : Ev H0 L0 ms es (tTup t) (.tup ds) := fun σ H s Q q =>
  h σ H s _ fun vs H1 e1 k1 => ⟨Nat.le_of_lt (small1000 (by rw [k1.length]; exact Nat.le_of_ble_eq_true hl)), fun p hp => by
    have np := (s.grow e1).new hp
    refine q _ _ (e1.trans (same_new hp)) (.tup (by rw [hid_out np, upd_same]) (k1.mo (hid_mono (same_new hp))))⟩
theorem en_lst {t : TA} (h : EvA H0 L0 ms es t ds) (hl : Nat.ble ds.length 1000 = true := by rfl) : EvN H0 L0 ms es (tLst t) ds := fun σ H s Q q =>
  h σ H s _ fun vs H1 e1 k1 => ⟨Nat.le_of_lt (small1000 (by rw [k1.length]; exact Nat.le_of_ble_eq_true hl)), fun p hp => by
    refine q p _ vs (s.same_back e1 hp) (e1.trans (same_new hp)) upd_same ?_
    rw [hid_upd List.mem_cons_self]
    exact k1.mo (hid_cons hp)⟩
end
end Pc

set_option Elab.async false
set_option linter.all false
set_option maxRecDepth 100000
set_option maxHeartbeats 2000000
/-! Tests, slices, calls, comprehensions, statements, loops, over data. -/
namespace Pc
open PySem PySem.Spec PyProof.Rows L2

section
variable {H0 B : Hp} {L0 : List Addr} {ms : List (Addr × Mu)} {es es' es'' : List En} {te ta tb tc : TE} {tt tu : TT} {d d1 d2 d3 : D} {ds ds' : List D} {E : Ends} {ts us : TS} {K : PySem.W.Frag} {i j : Nat} {n m : Int} {b c : Bool} {x : V} {a : Addr}

/-! ### tests -/
theorem et_B (h : Ev H0 L0 ms es te (.bl b)) : EvT H0 L0 ms es (tB te) b := fun σ H s Q q => h σ H s _ fun v H1 e1 k1 => by
  cases k1
  exact ⟨b, rfl, q H1 e1⟩
theorem et_test (h : Ev H0 L0 ms es te (.bl b)) : EvT H0 L0 ms es (tTest te) b := fun σ H s Q q => h σ H s _ fun v H1 e1 k1 => by
  cases k1
  exact ⟨b, rfl, q H1 e1⟩
theorem et_and (h1 : EvT H0 L0 ms es tt b) (h2 : b = true → EvT H0 L0 ms es tu c) : EvT H0 L0 ms es (tAnd tt tu) (b && c) := fun σ H s Q q => h1 σ H s _ fun H1 e1 => by
  cases b with
  | true => exact iteT (h2 rfl σ H1 (s.grow e1) Q fun H2 e2 => q H2 (e1.trans e2))
  | false => exact iteF (q H1 e1)
theorem et_or (h1 : EvT H0 L0 ms es tt b) (h2 : b = false → EvT H0 L0 ms es tu c) : EvT H0 L0 ms es (tOr tt tu) (b || c) := fun σ H s Q q => h1 σ H s _ fun H1 e1 => by
  cases b with
  | true => exact iteT (q H1 e1)
  | false => exact iteF (h2 rfl σ H1 (s.grow e1) Q fun H2 e2 => q H2 (e1.trans e2))
theorem et_or1 (h1 : EvT H0 L0 ms es tt true) : EvT H0 L0 ms es (tOr tt tu) true := et_or (c := true) h1 fun z => (nomatch z)
theorem et_or2 (h1 : EvT H0 L0 ms es tt false) (h2 : EvT H0 L0 ms es tu c) : EvT H0 L0 ms es (tOr tt tu) c := et_or h1 fun _ => h2
theorem et_and2 (h1 : EvT H0 L0 ms es tt true) (h2 : EvT H0 L0 ms es tu c) : EvT H0 L0 ms es (tAnd tt tu) c := et_and h1 fun _ => h2
theorem et_and0 (h1 : EvT H0 L0 ms es tt false) : EvT H0 L0 ms es (tAnd tt tu) false := et_and (c := false) h1 fun z => (nomatch z)
theorem et_not (h : EvT H0 L0 ms es tt b) : EvT H0 L0 ms es (tNot tt) (!b) := fun σ H s Q q => h σ H s _ fun H1 e1 => q H1 e1
theorem et_yes : EvT H0 L0 ms es tYes true := fun σ H s Q q => q H (Same.refl H)
theorem ev_andV (h1 : Ev H0 L0 ms es ta (.bl b)) (h2 : b = true → Ev H0 L0 ms es tb (.bl c)) : Ev H0 L0 ms es (tAndV ta tb) (.bl (b && c)) := fun σ H s Q q => h1 σ H s _ fun v H1 e1 k1 => by
  cases k1
  refine ⟨b, rfl, ?_⟩
  cases b with
  | true => exact iteT (h2 rfl σ H1 (s.grow e1) Q fun v H2 e2 k2 => q v H2 (e1.trans e2) k2)
  | false => exact iteF (q _ H1 e1 (.bl _))
theorem ev_orV (h1 : Ev H0 L0 ms es ta (.bl b)) (h2 : b = false → Ev H0 L0 ms es tb (.bl c)) : Ev H0 L0 ms es (tOrV ta tb) (.bl (b || c)) := fun σ H s Q q => h1 σ H s _ fun v H1 e1 k1 => by
  cases k1
  refine ⟨b, rfl, ?_⟩
  cases b with
  | true => exact iteT (q _ H1 e1 (.bl _))
  | false => exact iteF (h2 rfl σ H1 (s.grow e1) Q fun v H2 e2 k2 => q v H2 (e1.trans e2) k2)
theorem ev_notV (h1 : Ev H0 L0 ms es ta (.bl b)) : Ev H0 L0 ms es (tNotV ta) (.bl (!b)) := fun σ H s Q q => h1 σ H s _ fun v H1 e1 k1 => by
  cases k1
  exact ⟨b, rfl, q _ H1 e1 (.bl _)⟩
/-- two comparisons of ints -/
theorem ev_chain {p q : Int → Int → Bool} {k : Int} (ha : Ev H0 L0 ms es ta (.int n)) (hb : Ev H0 L0 ms es tb (.int m)) (hc : p n m = true → Ev H0 L0 ms es tc (.int k)) :
    Ev H0 L0 ms es (tChain (rI0 fun i j => .bl (p i j)) (rI0 fun i j => .bl (q i j)) ta tb tc) (.bl (p n m && q m k)) := fun σ H s Q r => ha σ H s _ fun v H1 e1 k1 => hb σ H1 (s.grow e1) _ fun w H2 e2 k2 => by
  cases k1
  cases k2
  refine ⟨n, m, rfl, rfl, p n m, rfl, ?_⟩
  cases e : p n m with
  | true =>
    refine iteT (hc e σ H2 (s.grow (e1.trans e2)) _ fun z H3 e3 k3 => ?_)
    cases k3
    refine ⟨m, k, rfl, rfl, r _ H3 ((e1.trans e2).trans e3) ?_⟩
    rw [e]
    exact .bl _
  | false =>
    refine iteF (r _ H2 (e1.trans e2) ?_)
    rw [e]
    exact .bl _
/-- x is True and its like -/
theorem ev_notBl {f : R2} (hf : ∀ (b c : Bool) H (Q : VK), Q (.bl (!decide (b = c))) H → f (.bl b) (.bl c) H Q) (ha : Ev H0 L0 ms es ta (.bl b)) (hb : Ev H0 L0 ms es tb (.bl c)) : Ev H0 L0 ms es (tOp f ta tb) (.bl (!decide (b = c))) :=
  ev_op ha hb fun H x y _ hx hy Q q => by
    cases hx
    cases hy
    exact hf b c H Q (q _ H (Same.refl H) (.bl _))

/-! ### slices, joining -/
theorem eo_none : EvO H0 L0 ms es tNoPart none := fun σ H s Q q => q H (Same.refl H)
theorem eo_some (h : Ev H0 L0 ms es te (.int n)) : EvO H0 L0 ms es (tPart te) (some n) := fun σ H s Q q => h σ H s _ fun v H1 e1 k1 => by
  cases k1
  exact ⟨n, rfl, q H1 e1⟩
def cutD (ds : List D) (lo hi : Option Int) : List D := (ds.drop (HT.sIx ds.length 0 lo)).take (HT.sIx ds.length ds.length hi - HT.sIx ds.length 0 lo)
theorem cut_dt {G : Hp} {xs : List V} (h : DtAll G xs ds) (lo hi : Option Int) : DtAll G (cutV xs lo hi) (cutD ds lo hi) := by
  unfold cutV cutD
  rw [h.length]
  exact DtAll.take _ (DtAll.drop _ h)
theorem cutD_to (ds : List D) (k : Nat) : cutD ds none (some (k : Int)) = ds.take k := by
  unfold cutD
  rw [show HT.sIx ds.length 0 none = 0 from HT.sIx_none _ _, show HT.sIx ds.length ds.length (some (k : Int)) = min k ds.length from HT.sIx_nat _ _ _]
  show ds.take (min k ds.length - 0) = _
  rw [Nat.sub_zero]
  by_cases h : k ≤ ds.length
  · rw [Nat.min_eq_left h]
  · rw [Nat.min_eq_right (by omega), List.take_of_length_le (Nat.le_refl _), List.take_of_length_le (by omega)]
theorem cutD_from (ds : List D) (k : Nat) : cutD ds (some (k : Int)) none = ds.drop k := by
  unfold cutD
  rw [show HT.sIx ds.length 0 (some (k : Int)) = min k ds.length from HT.sIx_nat _ _ _, show HT.sIx ds.length ds.length none = ds.length from HT.sIx_none _ _]
  by_cases h : k ≤ ds.length
  · rw [Nat.min_eq_left h, List.take_of_length_le (by rw [List.length_drop]; exact Nat.le_refl _)]
  · rw [Nat.min_eq_right (by omega), Nat.sub_self, List.take_zero, List.drop_eq_nil_of_le (by omega)]
theorem size1000 {k : Nat} (h : k ≤ 1000) : k ≤ sizeLine := Nat.le_of_lt (small1000 h)
theorem en_slice {tl th : TO} {lo hi : Option Int} (h : Ev H0 L0 ms es te (.lst ds)) (h1 : EvO H0 L0 ms es tl lo) (h2 : EvO H0 L0 ms es th hi) : EvN H0 L0 ms es (tSl (rSlL K) te tl th) (cutD ds lo hi) := fun σ H s Q q =>
  h σ H s _ fun v H1 e1 k1 => h1 σ H1 (s.grow e1) _ fun H2 e2 => h2 σ H2 (s.grow (e1.trans e2)) _ fun H3 e3 => by
    have e := (e1.trans e2).trans e3
    have k3 := k1.mo (hid_mono (e2.trans e3))
    cases k3 with
    | lst g1 g2 =>
      refine ⟨_, _, rfl, .inl (.inl (hid_sub _ _ g1)), fun p hp => ?_⟩
      refine q p _ _ (e.free hp) (e.trans (same_new hp)) upd_same ?_
      rw [hid_upd List.mem_cons_self]
      exact (cut_dt g2 _ _).mo (hid_cons hp)
theorem en_cat (hz : ds.length + ds'.length ≤ 1000) (ha : Ev H0 L0 ms es ta (.lst ds)) (hb : Ev H0 L0 ms es tb (.lst ds')) : EvN H0 L0 ms es (tOp rCat ta tb) (ds ++ ds') := fun σ H s Q q =>
  ha σ H s _ fun v H1 e1 k1 => hb σ H1 (s.grow e1) _ fun w H2 e2 k2 => by
    have e := e1.trans e2
    have k3 := k1.mo (hid_mono e2)
    cases k3 with
    | lst g1 g2 =>
      cases k2 with
      | lst f1 f2 =>
        refine ⟨_, _, _, _, rfl, rfl, hid_sub _ _ g1, hid_sub _ _ f1, by rw [g2.length, f2.length]; exact size1000 hz, fun p hp => ?_⟩
        refine q p _ _ (e.free hp) (e.trans (same_new hp)) upd_same ?_
        rw [hid_upd List.mem_cons_self]
        exact (DtAll.append g2 f2).mo (hid_cons hp)
theorem ev_catT (hz : ds.length + ds'.length ≤ 1000) (n1 : ds ≠ []) (n2 : ds' ≠ []) (ha : Ev H0 L0 ms es ta (.tup ds)) (hb : Ev H0 L0 ms es tb (.tup ds')) : Ev H0 L0 ms es (tOp (rCatT K) ta tb) (.tup (ds ++ ds')) := fun σ H s Q q =>
  ha σ H s _ fun v H1 e1 k1 => hb σ H1 (s.grow e1) _ fun w H2 e2 k2 => by
    have e := e1.trans e2
    have k3 := k1.mo (hid_mono e2)
    cases k3 with
    | tup g1 g2 =>
      cases k2 with
      | tup f1 f2 =>
        refine ⟨_, _, _, _, rfl, rfl, .inl (.inl (hid_sub _ _ g1)), .inl (.inl (hid_sub _ _ f1)), fun z => ?_, by rw [g2.length, f2.length]; exact size1000 hz, fun z => ?_, fun _ p hp => ?_⟩
        · have l := g2.length
          rw [z] at l
          exact n1 (List.eq_nil_of_length_eq_zero l.symm)
        · have l := f2.length
          rw [z] at l
          exact absurd (List.eq_nil_of_length_eq_zero l.symm) n2
        · have np := (s.grow e).new hp
          refine q _ _ (e.trans (same_new hp)) (.tup (by rw [hid_out np, upd_same]) ((DtAll.append g2 f2).mo (hid_mono (same_new hp))))

/-! ### calls -/
theorem ev_cb {r : List V → Hp → VK → Prop} {t : TA} (hr : CD r (hm L0 ms) ds d) (h : EvA H0 L0 ms es t ds) : Ev H0 L0 ms es (tCB r t) d := fun σ H s Q q =>
  h σ H s _ fun vs H1 e1 k1 => hr H1 vs (s.grow e1).trk k1 Q fun v H2 e2 k2 => q v H2 (e1.trans e2) k2
theorem ev_call {R : List D → D → Prop} {X : XK} {t : TA} (hr : R ds d) (h : EvA H0 L0 ms es t ds) : Ev H0 L0 ms es (tCall (spP R) [] X t) d := fun σ H s Q q =>
  h σ H s _ fun vs H1 e1 k1 => ⟨hm L0 ms, ds, d, hr, (s.grow e1).trk, by rw [List.append_nil]; exact k1, fun v H2 e2 k2 => q v H2 (e1.trans e2) k2⟩
theorem one_dt {G : Hp} {vs : List V} (h : DtAll G vs [d]) : ∃ v, vs = [v] ∧ Dt G v d := by
  cases h with
  | cons h1 h2 =>
    cases h2
    exact ⟨_, rfl, h1⟩
theorem two_dt {G : Hp} {vs : List V} (h : DtAll G vs [d1, d2]) : ∃ v w, vs = [v, w] ∧ Dt G v d1 ∧ Dt G w d2 := by
  cases h with
  | cons h1 h2 =>
    obtain ⟨w, rfl, h3⟩ := one_dt h2
    exact ⟨_, _, rfl, h1, h3⟩
theorem three_dt {G : Hp} {vs : List V} (h : DtAll G vs [d1, d2, d3]) : ∃ u v w, vs = [u, v, w] ∧ Dt G u d1 ∧ Dt G v d2 ∧ Dt G w d3 := by
  cases h with
  | cons h1 h2 =>
    obtain ⟨v, w, rfl, h3, h4⟩ := two_dt h2
    exact ⟨_, _, _, rfl, h1, h3, h4⟩
/-- a built-in of one int, of two -/
theorem ev_cb1 {f : Int → Int} {t : TA} (h : EvA H0 L0 ms es t [.int n]) : Ev H0 L0 ms es (tCB (fun xs H Q => ∃ i, xs = [V.int i] ∧ Q (.int (f i)) H) t) (.int (f n)) := ev_cb (fun H vs _ hv Q q => by
  obtain ⟨v, rfl, k⟩ := one_dt hv
  cases k
  exact ⟨n, rfl, q _ H (Same.refl H) (.int _)⟩) h
theorem ev_cb2 {f : Int → Int → Int} {t : TA} (h : EvA H0 L0 ms es t [.int n, .int m]) : Ev H0 L0 ms es (tCB (fun xs H Q => ∃ i j, xs = [V.int i, V.int j] ∧ Q (.int (f i j)) H) t) (.int (f n m)) := ev_cb (fun H vs _ hv Q q => by
  obtain ⟨v, w, rfl, k1, k2⟩ := two_dt hv
  cases k1
  cases k2
  exact ⟨n, m, rfl, q _ H (Same.refl H) (.int _)⟩) h
theorem ev_lenL {t : TA} (h : EvA H0 L0 ms es t [.lst ds]) : Ev H0 L0 ms es (tCB (fun xs H Q => ∃ p ys, xs = [V.ref p] ∧ (SqL K H p ys ∨ SqT K H p ys) ∧ Q (.int ys.length) H) t) (.int ds.length) := ev_cb (fun H vs _ hv Q q => by
  obtain ⟨v, rfl, k⟩ := one_dt hv
  cases k with
  | lst g1 g2 => exact ⟨_, _, rfl, .inl (.inl (.inl (hid_sub _ _ g1))), by rw [g2.length]; exact q _ H (Same.refl H) (.int _)⟩) h
theorem ev_lenT {t : TA} (h : EvA H0 L0 ms es t [.tup ds]) : Ev H0 L0 ms es (tCB (fun xs H Q => ∃ p ys, xs = [V.ref p] ∧ (SqL K H p ys ∨ SqT K H p ys) ∧ Q (.int ys.length) H) t) (.int ds.length) := ev_cb (fun H vs _ hv Q q => by
  obtain ⟨v, rfl, k⟩ := one_dt hv
  cases k with
  | tup g1 g2 => exact ⟨_, _, rfl, .inr (.inl (.inl (hid_sub _ _ g1))), by rw [g2.length]; exact q _ H (Same.refl H) (.int _)⟩) h
theorem ev_sum {ns : List Int} {t : TA} (h : EvA H0 L0 ms es t [.lst (ns.map D.int)]) : Ev H0 L0 ms es (tCB (rSum K) t) (.int ns.sum) := ev_cb (fun H vs _ hv Q q => by
  obtain ⟨v, rfl, k⟩ := one_dt hv
  cases k with
  | lst g1 g2 =>
    refine ⟨_, ns, rfl, .inl (.inl ?_), q _ H (Same.refl H) (.int _)⟩
    rw [← dt_ints g2]
    exact hid_sub _ _ g1) h
theorem ev_tupOf {t : TA} (h : EvA H0 L0 ms es t [.lst ds]) : Ev H0 L0 ms es (tCB (fun xs H Q => ∃ p ys, xs = [V.ref p] ∧ ((SqL K H p ys ∧ ∀ l, H l = none → Q (.ref l) (upd H l (.tup ys))) ∨ (SqT K H p ys ∧ Q (.ref p) H))) t) (.tup ds) := ev_cb (fun H vs tr hv Q q => by
  obtain ⟨v, rfl, k⟩ := one_dt hv
  cases k with
  | lst g1 g2 =>
    refine ⟨_, _, rfl, .inl ⟨.inl (.inl (hid_sub _ _ g1)), fun l hl => ?_⟩⟩
    have nl : l ∉ hm L0 ms := fun z => tr l z hl
    exact q _ _ (same_new hl) (.tup (by rw [hid_out nl, upd_same]) (g2.mo (hid_mono (same_new hl))))) h

/-! ### fields of views -/
theorem vfs_room (r f : Int) (l : Addr) : (vfs r f l).lookup ("room" : Str) = some (.int r) := by
  unfold vfs
  rw [List.lookup_cons, show (("room" : Str) == ("room" : Str)) = true by decide +kernel]
theorem vfs_first (r f : Int) (l : Addr) : (vfs r f l).lookup ("first" : Str) = some (.int f) := by
  unfold vfs
  rw [List.lookup_cons, show (("first" : Str) == ("room" : Str)) = false by decide +kernel]
  show List.lookup _ _ = _
  rw [List.lookup_cons, show (("first" : Str) == ("first" : Str)) = true by decide +kernel]
theorem vfs_axes (r f : Int) (l : Addr) : (vfs r f l).lookup ("axes" : Str) = some (.ref l) := by
  unfold vfs
  rw [List.lookup_cons, show (("axes" : Str) == ("room" : Str)) = false by decide +kernel]
  show List.lookup _ _ = _
  rw [List.lookup_cons, show (("axes" : Str) == ("first" : Str)) = false by decide +kernel]
  show List.lookup _ _ = _
  rw [List.lookup_cons, show (("axes" : Str) == ("axes" : Str)) = true by decide +kernel]
theorem vfs_no (r f : Int) (l : Addr) {m : Str} (h1 : (m == ("room" : Str)) = false) (h2 : (m == ("first" : Str)) = false) (h3 : (m == ("axes" : Str)) = false) : (vfs r f l).lookup m = none := by
  unfold vfs
  rw [List.lookup_cons, h1]
  show List.lookup _ _ = _
  rw [List.lookup_cons, h2]
  show List.lookup _ _ = _
  rw [List.lookup_cons, h3]
  rfl
theorem ev_room {C : Addr} {r f : Int} {ax : List (Int × Int)} (c : Cls K C) (na : NoAttr K C "room") (h : Ev H0 L0 ms es te (.vw C r f ax)) : Ev H0 L0 ms es (tFld K te "room") (.int r) := fun σ H s Q q => h σ H s _ fun v H1 e1 k1 => by
  cases k1 with
  | vw h1 h5 h6 => exact ⟨_, _, _, _, _, rfl, hid_sub _ _ h1, c, na, vfs_room _ _ _, q _ H1 e1 (.int _)⟩
theorem ev_first {C : Addr} {r f : Int} {ax : List (Int × Int)} (c : Cls K C) (na : NoAttr K C "first") (h : Ev H0 L0 ms es te (.vw C r f ax)) : Ev H0 L0 ms es (tFld K te "first") (.int f) := fun σ H s Q q => h σ H s _ fun v H1 e1 k1 => by
  cases k1 with
  | vw h1 h5 h6 => exact ⟨_, _, _, _, _, rfl, hid_sub _ _ h1, c, na, vfs_first _ _ _, q _ H1 e1 (.int _)⟩
theorem ev_axes {C : Addr} {r f : Int} {ax : List (Int × Int)} (c : Cls K C) (na : NoAttr K C "axes") (h : Ev H0 L0 ms es te (.vw C r f ax)) : Ev H0 L0 ms es (tFld K te "axes") (.lst (ax.map pairD)) := fun σ H s Q q => h σ H s _ fun v H1 e1 k1 => by
  cases k1 with
  | vw h1 h5 h6 => exact ⟨_, _, _, _, _, rfl, hid_sub _ _ h1, c, na, vfs_axes _ _ _, q _ H1 e1 (.lst h5 h6)⟩

/-! ### targets -/
theorem as_name {ss : List Nat} (hi : i ∈ ss) : As H0 L0 ms es (gName i) d (es.set i (.d d)) ss := fun σ H v Q s k q =>
  q _ (s.set ⟨v, rfl, k⟩) List.length_set fun j hj => by
    rw [List.getElem?_set_ne fun z => hj (by rw [← z]; exact hi)]
theorem asl_nil {ss : List Nat} : AsL H0 L0 ms es gNil [] es ss := fun σ H vs Q s k q => by
  cases k
  exact ⟨rfl, q σ s rfl fun _ _ => rfl⟩
theorem asl_cons {g : TG} {u : TGs} {ss : List Nat} (h : As H0 L0 ms es g d es' ss) (t : AsL H0 L0 ms es' u ds es'' ss) : AsL H0 L0 ms es (gCons g u) (d :: ds) es'' ss := fun σ H vs Q s k q => by
  cases k with
  | cons k1 k2 => exact ⟨_, _, rfl, h σ H _ _ s k1 fun σ1 s1 l1 f1 => t σ1 H _ Q s1 k2 fun σ2 s2 l2 f2 => q σ2 s2 (l2.trans l1) fun i hi => (f2 i hi).trans (f1 i hi)⟩
theorem as_tup {u : TGs} {ss : List Nat} {k : Nat} (hk : ds.length = k) (t : AsL H0 L0 ms es u ds es' ss) : As H0 L0 ms es (gTup K k u) (.tup ds) es' ss := fun σ H v Q s kv q => by
  cases kv with
  | tup g1 g2 => exact ⟨_, _, rfl, .inl (.inl (hid_sub _ _ g1)), by rw [g2.length]; exact hk, t σ H _ Q s g2 q⟩

/-! ### statements -/
theorem run_seq (h : Run H0 L0 ms es ts { E with nx := us E }) : Run H0 L0 ms es (tSeq ts us) E := h
theorem run_asg {g : TG} {ss : List Nat} (h : Ev H0 L0 ms es te d) (ha : As H0 L0 ms es g d es' ss) (k : Nx H0 L0 ms es' E.nx) : Run H0 L0 ms es (tAsg te g) E := fun σ H s =>
  h σ H s _ fun v H1 e1 k1 => ha σ H1 v _ (s.grow e1) k1 fun σ' s' _ _ => k σ' H1 s'
theorem q_asg {g : TG} {ss : List Nat} (h : Ev H0 L0 ms es te d) (ha : As H0 L0 ms es g d es' ss) (k : Run H0 L0 ms es' us E) : Run H0 L0 ms es (tSeq (tAsg te g) us) E := run_seq (run_asg h ha k)
/-- one slot -/
theorem s_set (h : Ev H0 L0 ms es te d) (k : Nx H0 L0 ms (es.set i (.d d)) E.nx) : Run H0 L0 ms es (tAsg te (gName i)) E := run_asg (ss := [i]) h (as_name List.mem_cons_self) k
theorem q_set (h : Ev H0 L0 ms es te d) (k : Run H0 L0 ms (es.set i (.d d)) us E) : Run H0 L0 ms es (tSeq (tAsg te (gName i)) us) E := run_seq (s_set h k)
theorem s_par {t : TA} (h : EvA H0 L0 ms es t [d1, d2]) (k : Nx H0 L0 ms ((es.set i (.d d1)).set j (.d d2)) E.nx) : Run H0 L0 ms es (tPar i j t) E := fun σ H s => h σ H s _ fun vs H1 e1 k1 => by
  obtain ⟨v, w, rfl, h1, h2⟩ := two_dt k1
  exact ⟨v, w, rfl, k _ H1 (St0.set (e := .d d2) (St0.set (e := .d d1) (s.grow e1) ⟨v, rfl, h1⟩) ⟨w, rfl, h2⟩)⟩
theorem s_next (k : Nx H0 L0 ms es E.nx) : Run H0 L0 ms es tNext E := k
theorem s_if (hc : EvT H0 L0 ms es tt b) (h1 : b = true → Run H0 L0 ms es ts E) (h2 : b = false → Run H0 L0 ms es us E) : Run H0 L0 ms es (tIfS tt ts us) E := fun σ H s => hc σ H s _ fun H1 e1 => by
  cases b with
  | true => exact iteT (h1 rfl σ H1 (s.grow e1))
  | false => exact iteF (h2 rfl σ H1 (s.grow e1))
theorem q_if {vs : TS} (hc : EvT H0 L0 ms es tt b) (h1 : b = true → Run H0 L0 ms es ts { E with nx := vs E }) (h2 : b = false → Run H0 L0 ms es us { E with nx := vs E }) : Run H0 L0 ms es (tSeq (tIfS tt ts us) vs) E := run_seq (s_if hc h1 h2)
/-- a test without else whose suite leaves -/
theorem q_when {vs : TS} (hc : EvT H0 L0 ms es tt b) (h1 : b = true → Run H0 L0 ms es ts { E with nx := vs E }) (h2 : b = false → Run H0 L0 ms es vs E) : Run H0 L0 ms es (tSeq (tIfS tt ts tNext) vs) E := q_if hc h1 h2
theorem q_pass {vs : TS} (hc : EvT H0 L0 ms es tt false) (h2 : Run H0 L0 ms es vs E) : Run H0 L0 ms es (tSeq (tIfS tt ts tNext) vs) E := q_when hc (fun z => nomatch z) fun _ => h2
theorem q_true {vs : TS} (hc : EvT H0 L0 ms es tt true) (h1 : Run H0 L0 ms es ts { E with nx := vs E }) : Run H0 L0 ms es (tSeq (tIfS tt ts us) vs) E := q_if hc (fun _ => h1) fun z => (nomatch z)
theorem q_false {vs : TS} (hc : EvT H0 L0 ms es tt false) (h1 : Run H0 L0 ms es us { E with nx := vs E }) : Run H0 L0 ms es (tSeq (tIfS tt ts us) vs) E := q_if hc (fun z => (nomatch z)) fun _ => h1
theorem s_true (hc : EvT H0 L0 ms es tt true) (h1 : Run H0 L0 ms es ts E) : Run H0 L0 ms es (tIfS tt ts us) E := s_if hc (fun _ => h1) fun z => (nomatch z)
theorem s_false (hc : EvT H0 L0 ms es tt false) (h1 : Run H0 L0 ms es us E) : Run H0 L0 ms es (tIfS tt ts us) E := s_if hc (fun z => (nomatch z)) fun _ => h1
theorem s_ret (h : Ev H0 L0 ms es te d) (k : Rt H0 L0 E d) : Run H0 L0 ms es (tRet te) E := fun σ H s => h σ H s _ fun v H1 e1 k1 =>
  k v H1 (s.grow e1).same0 (k1.mo (hid_le fun _ hb => List.mem_append_right _ hb))
theorem run_weak (w : Wk es es') (h : Run H0 L0 ms es' ts E) : Run H0 L0 ms es ts E := fun σ H s => h σ H (s.weak w)
theorem run_freeze (h : ms[j]? = some (a, .l ds)) (hi : es[i]? = some (.v (.ref a))) (k : Run H0 L0 (ms.eraseIdx j) (es.set i (.d (.lst ds))) ts E) : Run H0 L0 ms es ts E := fun σ H s => k σ H (s.freeze h hi)
theorem Rt.base {d : D} (k : Rt H0 L0 E d) (e : Same H0 B) : Rt B L0 E d := fun v H' s h => k v H' (e.trans s) h
/-! one's own objects -/
theorem q_own (h : EvN H0 L0 ms es te ds) (k : ∀ p, Run H0 L0 ((p, .l ds) :: ms) (es.set i (.v (.ref p))) us E) : Run H0 L0 ms es (tSeq (tAsg te (gName i)) us) E := fun σ H s =>
  h σ H s _ fun p H1 xs hp e1 e2 k1 => by
    have hn : H p = none := hp
    -- the list is there already: the state without it, then with it
    have s1 : St0 H0 L0 ((p, .l ds) :: ms) es σ H1 := by
      have g := s.grow e1
      have np := s.new hn
      refine ⟨fun b o z => ?_, fun b hb => ?_, List.nodup_cons.mpr ⟨fun z => np (List.mem_append_left _ z), s.nd⟩, fun b hb => ?_, fun q hq => ?_, ?_⟩
      · have z1 := s.same b o z
        obtain ⟨z2, z3⟩ := hid_some z1
        have nb : b ≠ p := ne_of_none z3 hn
        rw [hid_out]
        · exact e1 _ _ z3
        · intro z4
          rcases List.mem_cons.mp z4 with z4 | z4
          · exact nb z4
          · exact z2 z4
      · rcases List.mem_cons.mp hb with e | e
        · rw [e, e2]; simp
        · exact g.trk b e
      · rcases List.mem_cons.mp hb with e | e
        · rw [e]; exact fun z => np (List.mem_append_right _ z)
        · exact s.dj b e
      · have w : Same (hid (hm L0 ms) H) (hid (hm L0 ((p, .l ds) :: ms)) H1) := (hid_cons hn).trans (hid_mono e1)
        rcases List.mem_cons.mp hq with e | e
        · subst e
          exact ⟨xs, e2, k1⟩
        · exact (s.mu q e).mono w fun u z => e1 _ _ z
      · exact s.env.mono ((hid_cons hn).trans (hid_mono e1))
    exact k p _ H1 (s1.set rfl)
theorem q_ownK (k : ∀ p, Run H0 L0 ((p, .k []) :: ms) (es.set i (.v (.ref p))) us E) : Run H0 L0 ms es (tSeq (tAsg tDNewK (gName i)) us) E := fun σ H s p hp =>
  k p _ _ (s.own hp ⟨[], upd_same, .nil⟩)
theorem s_app (hi : es[i]? = some (.v (.ref a))) (hj : ms[j]? = some (a, .l ds)) (hz : ds.length < 1000) (h : Ev H0 L0 ms es te d) (k : Nx H0 L0 (ms.set j (a, .l (ds ++ [d]))) es E.nx) :
    Run H0 L0 ms es (tDrop (tBM K "list" rAppend (tVar i) (tCons te tNil))) E := fun σ H s => by
  obtain ⟨xs, h1, h2⟩ := s.mu _ (List.mem_of_getElem? hj)
  refine ⟨.ref a, s.env.at_ i _ hi, .inl ⟨rfl, _, .inl (.inl h1)⟩, h σ H s _ fun v H1 e1 k1 => ⟨a, xs, v, rfl, rfl, e1 _ _ h1, by rw [h2.length]; exact small1000 (Nat.le_of_lt hz), ?_⟩⟩
  exact k σ _ ((s.grow e1).mut hj ⟨_, upd_same, DtAll.append (h2.mo (hid_mono e1)) (.cons k1 .nil)⟩)
theorem q_app (hi : es[i]? = some (.v (.ref a))) (hj : ms[j]? = some (a, .l ds)) (hz : ds.length < 1000) (h : Ev H0 L0 ms es te d) (k : Run H0 L0 (ms.set j (a, .l (ds ++ [d]))) es us E) :
    Run H0 L0 ms es (tSeq (tDrop (tBM K "list" rAppend (tVar i) (tCons te tNil))) us) E := run_seq (s_app hi hj hz h k)
theorem s_ext (hi : es[i]? = some (.v (.ref a))) (hj : ms[j]? = some (a, .l ds)) (hz : ds.length + ds'.length ≤ 1000) (h : Ev H0 L0 ms es te (.lst ds')) (k : Nx H0 L0 (ms.set j (a, .l (ds ++ ds'))) es E.nx) :
    Run H0 L0 ms es (tDrop (tBM K "list" rExtend (tVar i) (tCons te tNil))) E := fun σ H s => by
  obtain ⟨xs, h1, h2⟩ := s.mu _ (List.mem_of_getElem? hj)
  refine ⟨.ref a, s.env.at_ i _ hi, .inl ⟨rfl, _, .inl (.inl h1)⟩, h σ H s _ fun v H1 e1 k1 => ?_⟩
  cases k1 with
  | lst g1 g2 =>
    refine ⟨a, _, xs, _, rfl, rfl, e1 _ _ h1, hid_sub _ _ g1, by rw [h2.length, g2.length]; exact size1000 hz, ?_⟩
    exact k σ _ ((s.grow e1).mut hj ⟨_, upd_same, DtAll.append (h2.mo (hid_mono e1)) g2⟩)
theorem q_ext (hi : es[i]? = some (.v (.ref a))) (hj : ms[j]? = some (a, .l ds)) (hz : ds.length + ds'.length ≤ 1000) (h : Ev H0 L0 ms es te (.lst ds')) (k : Run H0 L0 (ms.set j (a, .l (ds ++ ds'))) es us E) :
    Run H0 L0 ms es (tSeq (tDrop (tBM K "list" rExtend (tVar i) (tCons te tNil))) us) E := run_seq (s_ext hi hj hz h k)
theorem q_pop {l : Nat} (hi : es[i]? = some (.v (.ref a))) (hj : ms[j]? = some (a, .l (ds ++ [d]))) (k : Run H0 L0 (ms.set j (a, .l ds)) (es.set l (.d d)) us E) :
    Run H0 L0 ms es (tSeq (tAsg (tBM0 K "list" rPop (tVar i)) (gName l)) us) E := fun σ H s => by
  obtain ⟨xs, h1, h2⟩ := s.mu _ (List.mem_of_getElem? hj)
  obtain ⟨ws, v, rfl, g1, g2⟩ := h2.snoc
  refine ⟨.ref a, s.env.at_ i _ hi, .inl ⟨rfl, _, .inl (.inl h1)⟩, a, ws ++ [v], v, rfl, rfl, h1, ?_, ?_⟩
  · rw [List.length_append, List.length_singleton, Nat.add_sub_cancel, List.getElem?_append_right (Nat.le_refl _), Nat.sub_self]
    rfl
  · have em := set_mus (m' := .l ds) hj
    have sm := s.mut (m' := .l ds) (o := .lst (ws ++ [v]).dropLast) hj ⟨_, upd_same, by rw [List.dropLast_concat]; exact g1⟩
    refine k _ _ (sm.set ⟨v, rfl, ?_⟩)
    have ehm : hm L0 (ms.set j (a, .l ds)) = hm L0 ms := by
      show mus (ms.set j (a, .l ds)) ++ L0 = mus ms ++ L0
      rw [em]
    rw [ehm, hid_upd (List.mem_append_left _ (mu_mem hj))]
    exact g2
theorem ev_lenM (hi : es[i]? = some (.v (.ref a))) (hj : ms[j]? = some (a, .l ds)) : Ev H0 L0 ms es (tCB (fun xs H Q => ∃ p ys, xs = [V.ref p] ∧ (SqL K H p ys ∨ SqT K H p ys) ∧ Q (.int ys.length) H) (tCons (tVar i) tNil)) (.int ds.length) := fun σ H s Q q => by
  obtain ⟨xs, h1, h2⟩ := s.mu _ (List.mem_of_getElem? hj)
  exact ⟨.ref a, s.env.at_ i _ hi, a, xs, rfl, .inl (.inl (.inl h1)), by rw [h2.length]; exact q _ H (Same.refl H) (.int _)⟩
theorem ev_ixM (hi : es[i]? = some (.v (.ref a))) (hj : ms[j]? = some (a, .l ds)) (h : atI ds n = some d) (hb : Ev H0 L0 ms es tb (.int n)) : Ev H0 L0 ms es (tOp (rIxL K) (tVar i) tb) d := fun σ H s Q q => by
  refine ⟨.ref a, s.env.at_ i _ hi, hb σ H s _ fun v H1 e1 k1 => ?_⟩
  obtain ⟨xs, h1, h2⟩ := (s.grow e1).mu _ (List.mem_of_getElem? hj)
  cases k1
  obtain ⟨v, g1, g2⟩ := ix_get h2 h
  exact ⟨a, xs, n, v, rfl, rfl, .inl (.inl h1), g1, q v H1 e1 g2⟩
/-- one's own list and another, joined: a new one -/
theorem en_catM (hi : es[i]? = some (.v (.ref a))) (hj : ms[j]? = some (a, .l ds)) (hz : ds.length + ds'.length ≤ 1000) (hb : Ev H0 L0 ms es tb (.lst ds')) : EvN H0 L0 ms es (tOp rCat (tVar i) tb) (ds ++ ds') := fun σ H s Q q => by
  refine ⟨.ref a, s.env.at_ i _ hi, hb σ H s _ fun w H2 e2 k2 => ?_⟩
  obtain ⟨xs, h1, h2⟩ := (s.grow e2).mu _ (List.mem_of_getElem? hj)
  cases k2 with
  | lst f1 f2 =>
    refine ⟨a, _, xs, _, rfl, rfl, h1, hid_sub _ _ f1, by rw [h2.length, f2.length]; exact size1000 hz, fun p hp => ?_⟩
    refine q p _ _ (e2.free hp) (e2.trans (same_new hp)) upd_same ?_
    rw [hid_upd List.mem_cons_self]
    exact (DtAll.append h2 f2).mo (hid_cons hp)
theorem s_rev (hi : es[i]? = some (.v (.ref a))) (hj : ms[j]? = some (a, .l ds)) (k : Nx H0 L0 (ms.set j (a, .l ds.reverse)) es E.nx) : Run H0 L0 ms es (tDrop (tBM0 K "list" rReverse (tVar i))) E := fun σ H s => by
  obtain ⟨xs, h1, h2⟩ := s.mu _ (List.mem_of_getElem? hj)
  exact ⟨.ref a, s.env.at_ i _ hi, .inl ⟨rfl, _, .inl (.inl h1)⟩, a, xs, rfl, rfl, h1, k σ _ (s.mut hj ⟨_, upd_same, h2.reverse⟩)⟩
theorem q_rev (hi : es[i]? = some (.v (.ref a))) (hj : ms[j]? = some (a, .l ds)) (k : Run H0 L0 (ms.set j (a, .l ds.reverse)) es us E) : Run H0 L0 ms es (tSeq (tDrop (tBM0 K "list" rReverse (tVar i))) us) E := run_seq (s_rev hi hj k)
/-- one's own object is asked no more -/
theorem run_forget (j : Nat) (k : Run H0 L0 (ms.eraseIdx j) es ts E) : Run H0 L0 ms es ts E := fun σ H s => by
  have sub : ∀ p, p ∈ ms.eraseIdx j → p ∈ ms := fun p hp => (List.eraseIdx_sublist ms j).subset hp
  have sub1 : ∀ b, b ∈ mus (ms.eraseIdx j) → b ∈ mus ms := fun b hb => by
    obtain ⟨p, hp, e⟩ := List.mem_map.mp hb
    exact List.mem_map.mpr ⟨p, sub p hp, e⟩
  have sub2 : ∀ b, b ∈ hm L0 (ms.eraseIdx j) → b ∈ hm L0 ms := fun b hb => by
    rcases List.mem_append.mp hb with e | e
    · exact List.mem_append_left _ (sub1 b e)
    · exact List.mem_append_right _ e
  refine k σ H ⟨s.same.trans (hid_le sub1), fun b hb => s.trk b (sub2 b hb), ?_, fun b hb => s.dj b (sub1 b hb), fun p hp => (s.mu p (sub p hp)).mono (hid_le sub2) fun _ q => q, s.env.mono (hid_le sub2)⟩
  exact s.nd.sublist ((List.eraseIdx_sublist ms j).map _)
end
end Pc

set_option Elab.async false
set_option linter.all false
set_option maxRecDepth 100000
set_option maxHeartbeats 2000000
/-! What is walked, comprehensions, loops, dicts, equality of data, over data. -/
namespace Pc
open PySem PySem.Spec PyProof.Rows L2

/-- the walk J hands out items, whatever stands beside the base B -/
def Feeds (L0 : List Addr) (B : Hp) (J : It) (items : List D) : Prop := ∀ (A : List Addr) (H : Hp), Same B (hid A H) → (∀ z ∈ A ++ L0, H z ≠ none) →
  (∀ i d, items[i]? = some d → J.go i H ∧ ∀ x H', J.yld i H x H' → Same H H' ∧ Dt (hid (A ++ L0) H') x d) ∧ J.stop items.length H
def Fd (H0 : Hp) (L0 : List Addr) (ms : List (Addr × Mu)) (es : List En) (wi : TI) (items : List D) : Prop := ∀ σ H, St0 H0 L0 ms es σ H → ∀ R : It → Hp → Prop,
  (∀ J H1, Same H H1 → Feeds L0 (hid (mus ms) H1) J items → R J H1) → wi σ H R

section
variable {H0 B : Hp} {L0 : List Addr} {ms : List (Addr × Mu)} {es es' es'' : List En} {te ta tb tc td tx : TE} {tt tu : TT} {d d1 d2 d3 : D} {ds ds' : List D} {E : Ends} {ts us : TS} {K : PySem.W.Frag} {i j : Nat} {n m : Int} {b c : Bool} {x : V} {a : Addr}

theorem hm_hid (H : Hp) : hid (hm L0 ms) H = hid L0 (hid (mus ms) H) := hid_app
theorem list_feeds {xs : List V} {H1 : Hp} (h1 : hid (hm L0 ms) H1 a = some (.lst xs)) (h2 : DtAll (hid (hm L0 ms) H1) xs ds) : Feeds L0 (hid (mus ms) H1) (Itl K a) ds := fun A H e tr => by
  rw [hm_hid] at h1 h2
  have hB : hid (mus ms) H1 a = some (.lst xs) := hid_sub _ _ h1
  have hH : H a = some (.lst xs) := hid_sub _ _ (e _ _ hB)
  have hS : SqL K H a xs := .inl (.inl hH)
  have e2 : Same (hid L0 (hid (mus ms) H1)) (hid (A ++ L0) H) := by
    rw [hid_app]
    exact hid_mono e
  refine ⟨fun i d hi => ?_, ⟨xs, hS, by rw [h2.length]; exact Nat.le_refl _⟩⟩
  obtain ⟨v, hv, kv⟩ := h2.get hi
  refine ⟨⟨xs, v, hS, hv⟩, fun x H' y => ?_⟩
  obtain ⟨rfl, y⟩ := y
  have ex := (y xs hS).symm.trans hv
  cases ex
  exact ⟨Same.refl _, kv.mo e2⟩
theorem fd_list (h : Ev H0 L0 ms es te (.lst ds)) : Fd H0 L0 ms es (iList K te) ds := fun σ H s R q => h σ H s _ fun v H1 e1 k1 => by
  cases k1 with
  | lst h1 h2 => exact ⟨_, rfl, ⟨_, .inl (.inl (hid_sub _ _ h1))⟩, q _ H1 e1 (list_feeds h1 h2)⟩
def zipD (ds ds' : List D) : List D := (ds.zip ds').map fun p => .tup [p.1, p.2]
theorem zipD_get {d : D} (h : (zipD ds ds')[i]? = some d) : ∃ d1 d2, ds[i]? = some d1 ∧ ds'[i]? = some d2 ∧ d = .tup [d1, d2] := by
  unfold zipD at h
  rw [List.getElem?_map] at h
  cases e : (ds.zip ds')[i]? with
  | none => rw [e] at h; cases h
  | some p =>
    rw [e] at h
    have e' := List.getElem?_zip_eq_some.mp e
    exact ⟨p.1, p.2, e'.1, e'.2, (Option.some.inj h).symm⟩
theorem zipD_len : (zipD ds ds').length = min ds.length ds'.length := by
  unfold zipD
  rw [List.length_map, List.length_zip]
theorem tup2_new {H : Hp} {T : Addr} {L : List Addr} {x y : V} (tr : ∀ z ∈ L, H z ≠ none) (hT : H T = none) (hx : Dt (hid L H) x d1) (hy : Dt (hid L H) y d2) : Dt (hid L (upd H T (.tup [x, y]))) (.ref T) (.tup [d1, d2]) := by
  have nT : T ∉ L := fun z => tr T z hT
  exact .tup (by rw [hid_out nT, upd_same]) (.cons (hx.mo (hid_mono (same_new hT))) (.cons (hy.mo (hid_mono (same_new hT))) .nil))
theorem fd_zip {t : TA} (h : EvA H0 L0 ms es t [.lst ds, .lst ds']) : Fd H0 L0 ms es (iZip K t) (zipD ds ds') := fun σ H s R q => h σ H s _ fun vs H1 e1 k1 => by
  obtain ⟨v, w, rfl, k1, k2⟩ := two_dt k1
  cases k1 with
  | lst h1 h2 =>
    cases k2 with
    | lst g1 g2 =>
      rename_i a1 xs1 a2 xs2
      refine ⟨a1, a2, xs1, xs2, rfl, .inl (.inl (hid_sub _ _ h1)), .inl (.inl (hid_sub _ _ g1)), q _ H1 e1 fun A H e tr => ?_⟩
      rw [hm_hid] at h1 h2 g1 g2
      have hS1 : SqL K H a1 xs1 := .inl (.inl (hid_sub _ _ (e _ _ (hid_sub _ _ h1))))
      have hS2 : SqL K H a2 xs2 := .inl (.inl (hid_sub _ _ (e _ _ (hid_sub _ _ g1))))
      have e2 : Same (hid L0 (hid (mus ms) H1)) (hid (A ++ L0) H) := by
        rw [hid_app]
        exact hid_mono e
      refine ⟨fun i d hi => ?_, ⟨xs1, xs2, hS1, hS2, ?_⟩⟩
      · obtain ⟨d1, d2, q1, q2, rfl⟩ := zipD_get hi
        obtain ⟨v1, hv1, kv1⟩ := h2.get q1
        obtain ⟨v2, hv2, kv2⟩ := g2.get q2
        refine ⟨⟨xs1, xs2, v1, v2, hS1, hS2, hv1, hv2⟩, fun x H' y => ?_⟩
        obtain ⟨T, y1, y2, rfl, hT, rfl, f1, f2⟩ := y
        have z1 := (f1 xs1 hS1).symm.trans hv1
        have z2 := (f2 xs2 hS2).symm.trans hv2
        cases z1
        cases z2
        exact ⟨same_new hT, tup2_new tr hT (kv1.mo e2) (kv2.mo e2)⟩
      · rw [h2.length, g2.length, zipD_len]
        omega
theorem fd_range {t : TA} {k : Nat} (hk : k ≤ 100000) (h : EvA H0 L0 ms es t [.int (k : Int)]) : Fd H0 L0 ms es (iRng1 t) ((List.range k).map fun (i : Nat) => D.int (i : Int)) := fun σ H s R q => h σ H s _ fun vs H1 e1 k1 => by
  obtain ⟨v, rfl, k2⟩ := one_dt k1
  cases k2
  refine ⟨(k : Int), rfl, by omega, by omega, q _ H1 e1 fun A H e tr => ⟨fun i d hi => ?_, ?_⟩⟩
  · rw [List.getElem?_map] at hi
    cases z : (List.range k)[i]? with
    | none => rw [z] at hi; cases hi
    | some w =>
      rw [z] at hi
      have hw : i < k ∧ w = i := by
        obtain ⟨z1, z2⟩ := List.getElem?_eq_some_iff.mp z
        rw [List.length_range] at z1
        rw [List.getElem_range] at z2
        exact ⟨z1, z2.symm⟩
      obtain ⟨hl, rfl⟩ := hw
      have ed : d = .int (w : Int) := (Option.some.inj hi).symm
      subst ed
      refine ⟨by show w < ((k : Int)).toNat; omega, fun x H' y => ?_⟩
      obtain ⟨rfl, rfl⟩ := y
      rw [Int.zero_add]
      exact ⟨Same.refl _, .int _⟩
  · show ((k : Int)).toNat ≤ _
    rw [List.length_map, List.length_range]
    omega

/-! ### comprehensions -/
def isNo : Option En → Bool
  | some .no => true
  | _ => false
theorem isNo_all {vs : List Nat} (h : vs.all (fun v => isNo es[v]?) = true) : ∀ v ∈ vs, es[v]? = some .no := fun v hv => by
  have := List.all_eq_true.mp h v hv
  cases e : es[v]? with
  | none => rw [e] at this; cases this
  | some x =>
    rw [e] at this
    cases x <;> first | rfl | cases this
theorem wipe_get (σ : L2.St) (i : Nat) : ∀ vs : List Nat, (wipe σ vs)[i]? = if i ∈ vs ∧ i < σ.length then some none else σ[i]?
  | [] => by simp [wipe]
  | v :: vs => by
    show ((wipe σ vs).set v none)[i]? = _
    by_cases e : v = i
    · subst e
      by_cases h : v < σ.length
      · rw [List.getElem?_set_self (by rw [wipe_length]; exact h), if_pos ⟨List.mem_cons_self, h⟩]
      · rw [List.getElem?_eq_none (by rw [List.length_set, wipe_length]; omega), if_neg (fun z => h z.2), List.getElem?_eq_none (by omega)]
    · rw [List.getElem?_set_ne e, wipe_get σ i vs]
      have : (i ∈ v :: vs) ↔ i ∈ vs := by
        rw [List.mem_cons]
        exact ⟨fun z => z.resolve_left fun q => e q.symm, .inr⟩
      simp only [this]
theorem wipe_eq {σ σ2 : L2.St} {vs : List Nat} (hl : σ2.length = (wipe σ vs).length) (h : ∀ i, i ∉ vs → σ2[i]? = (wipe σ vs)[i]?) : wipe σ2 vs = wipe σ vs := by
  apply List.ext_getElem?
  intro i
  rw [wipe_get, wipe_get]
  rw [wipe_length] at hl
  by_cases e : i ∈ vs
  · by_cases hi : i < σ.length
    · rw [if_pos ⟨e, by omega⟩, if_pos ⟨e, hi⟩]
    · rw [if_neg (fun z => hi (by omega)), if_neg (fun z => hi z.2), List.getElem?_eq_none (by omega), List.getElem?_eq_none (by omega)]
  · rw [if_neg (fun z => e z.1), if_neg (fun z => e z.1), h i e, wipe_get, if_neg (fun z => e z.1)]
theorem env_wipe {G : Hp} {σ : L2.St} {vs : List Nat} (h : EnvOk G σ es) (hno : ∀ v ∈ vs, es[v]? = some .no) : EnvOk G (wipe σ vs) es := by
  refine ⟨by rw [wipe_length]; exact h.len, fun i e q => ?_⟩
  rw [wipe_get]
  by_cases z : i ∈ vs ∧ i < σ.length
  · have := hno i z.1
    rw [q] at this
    cases this
    trivial
  · rw [if_neg z]
    exact h.at_ i e q
theorem St0.wipe {σ : L2.St} {H : Hp} {vs : List Nat} (s : St0 H0 L0 ms es σ H) (hno : ∀ v ∈ vs, es[v]? = some .no) : St0 H0 L0 ms es (wipe σ vs) H := ⟨s.same, s.trk, s.nd, s.dj, s.mu, env_wipe s.env hno⟩
theorem en_lc {γ : Type} {wi : TI} {g : TG} {vs : List Nat} (as : List γ) (f : γ → D) (F : γ → Option D) (hf : Fd H0 L0 ms es wi (as.map f)) (hz : as.length ≤ 1000) (hno : vs.all (fun v => isNo es[v]?) = true)
    (hs : ∀ B Dl acc, Same H0 B → ∀ z, z ∈ as → ∃ es', As B L0 ((Dl, .l acc) :: ms) es g (f z) es' vs ∧ (F z = none → EvT B L0 ((Dl, .l acc) :: ms) es' tt false) ∧
      ∀ y, F z = some y → EvT B L0 ((Dl, .l acc) :: ms) es' tt true ∧ Ev B L0 ((Dl, .l acc) :: ms) es' te y) : EvN H0 L0 ms es (tLc wi g tt te vs) (as.filterMap F) := fun σ H s Q q => by
  refine hf σ H s _ fun J H1 e1 fe Dl hD => ?_
  have hB : Same H0 (hid (mus ms) H1) := (s.grow e1).same
  have s1 := (s.grow e1).rebase
  have sw := s1.wipe (isNo_all hno)
  have so := sw.own0 (m := .l []) (o := .lst []) hD ⟨[], upd_same, .nil⟩
  refine ⟨fun i m H' => m = as.length - i ∧ i ≤ as.length ∧ St0 (hid (mus ms) H1) L0 ((Dl, .l ((as.take i).filterMap F)) :: ms) es (wipe σ vs) H' ∧ Same H1 H', ⟨as.length, rfl, Nat.zero_le _, so, same_new hD⟩, ?_⟩
  rintro i m H' ⟨rfl, hi, si, e2⟩
  have fi := fe (Dl :: mus ms) H' si.same si.trk
  by_cases hl : i < as.length
  · have ha : as[i]? = some as[i] := List.getElem?_eq_getElem hl
    have hd : (as.map f)[i]? = some (f as[i]) := by rw [List.getElem?_map, ha]; rfl
    obtain ⟨go, yl⟩ := fi.1 i _ hd
    refine .inr ⟨go, fun H'' => St0 (hid (mus ms) H1) L0 ((Dl, .l ((as.take (i + 1)).filterMap F)) :: ms) es (wipe σ vs) H'' ∧ Same H1 H'', fun H'' z => ⟨_, by omega, rfl, hl, z.1, z.2⟩, fun x H'' y => ?_⟩
    obtain ⟨e3, kx⟩ := yl x H'' y
    obtain ⟨es', has, hF0, hF1⟩ := hs (hid (mus ms) H1) Dl ((as.take i).filterMap F) hB as[i] (List.getElem_mem hl)
    have st := si.grow e3
    refine has (wipe σ vs) H'' x _ st kx fun σ2 s2 hlen hfr => ⟨wipe_eq hlen hfr, ?_⟩
    have tk : as.take (i + 1) = as.take i ++ [as[i]] := by
      rw [List.take_add_one, ha]
      rfl
    cases eF : F as[i] with
    | none =>
      refine hF0 eF σ2 H'' s2 _ fun H3 e4 => iteF ⟨?_, (e2.trans e3).trans e4⟩
      rw [tk, List.filterMap_append, List.filterMap_cons, eF, List.filterMap_nil, List.append_nil]
      exact st.grow e4
    | some y =>
      obtain ⟨ht, he⟩ := hF1 y eF
      refine ht σ2 H'' s2 _ fun H3 e4 => iteT (he σ2 H3 (s2.grow e4) _ fun v H4 e5 kv => ?_)
      have s4 := st.grow (e4.trans e5)
      obtain ⟨xs, h1, h2⟩ := s4.mu (Dl, .l ((as.take i).filterMap F)) List.mem_cons_self
      refine ⟨xs, h1, ?_, ?_, ?_⟩
      · rw [h2.length]
        refine Nat.lt_of_le_of_lt (List.length_filterMap_le _ _) (small1000 ?_)
        rw [List.length_take]
        omega
      · have s5 := s4.mut (j := 0) (a := Dl) (m := .l ((as.take i).filterMap F)) (m' := .l ((as.take i).filterMap F ++ [y])) (o := .lst (xs ++ [v])) rfl ⟨_, upd_same, DtAll.append h2 (.cons kv .nil)⟩
        rw [tk, List.filterMap_append, List.filterMap_cons, eF, List.filterMap_nil]
        exact s5
      · exact fun b o z => by
          rw [upd_ne (ne_of_none z hD)]
          exact ((e2.trans e3).trans (e4.trans e5)) b o z
  · have ei : i = as.length := by omega
    subst ei
    have st' := fi.2
    rw [List.length_map] at st'
    refine .inl ⟨st', ?_⟩
    rw [List.take_of_length_le (Nat.le_refl _)] at si
    obtain ⟨xs, h1, h2⟩ := si.mu (Dl, .l (as.filterMap F)) List.mem_cons_self
    exact q Dl H' xs (e1.free hD) (e1.trans e2) h1 h2
/-- without tests -/
theorem en_map {γ : Type} {wi : TI} {g : TG} {vs : List Nat} (as : List γ) (f : γ → D) (F : γ → D) (hf : Fd H0 L0 ms es wi (as.map f)) (hz : as.length ≤ 1000) (hno : vs.all (fun v => isNo es[v]?) = true)
    (hs : ∀ B Dl acc, Same H0 B → ∀ z, z ∈ as → ∃ es', As B L0 ((Dl, .l acc) :: ms) es g (f z) es' vs ∧ Ev B L0 ((Dl, .l acc) :: ms) es' te (F z)) : EvN H0 L0 ms es (tLc wi g tYes te vs) (as.map F) := by
  have h := en_lc (tt := tYes) as f (fun d => some (F d)) hf hz hno fun B Dl acc e d hd => by
    obtain ⟨es', h1, h2⟩ := hs B Dl acc e d hd
    exact ⟨es', h1, fun z => (nomatch z), fun y hy => by cases hy; exact ⟨et_yes, h2⟩⟩
  rw [show (fun d => some (F d)) = some ∘ F from rfl, List.filterMap_eq_map] at h
  exact h

/-! ### loops -/
theorem s_for {α : Type} {wi : TI} {g : TG} {items : List D} (hf : Fd H0 L0 ms es wi items) (ms_ : α → List (Addr × Mu)) (es_ : α → List En) (P : Nat → α → Prop) (a0 : α) (hP : P 0 a0) (hms : ms_ a0 = ms) (hes : Wk es (es_ a0))
    (hs : ∀ B, Same H0 B → ∀ i d a, items[i]? = some d → P i a → ∃ es' ss, As B L0 (ms_ a) (es_ a) g d es' ss ∧
      ∀ N : L2.St → Hp → Prop, (∀ a', P (i + 1) a' → ∀ es2, Wk es2 (es_ a') → Nx B L0 (ms_ a') es2 N) → Run B L0 (ms_ a) es' ts { E with nx := N, ct := N, bk := E.nx })
    (hd : ∀ a, P items.length a → Nx H0 L0 (ms_ a) (es_ a) E.nx) : Run H0 L0 ms es (tFor wi g ts) E := fun σ H s => by
  refine hf σ H s _ fun J H1 e1 fe => ?_
  have hB : Same H0 (hid (mus ms) H1) := (s.grow e1).same
  have s1 := ((s.grow e1).rebase).weak hes
  refine ⟨fun i m σ' H' => m = items.length - i ∧ i ≤ items.length ∧ ∃ a, P i a ∧ St0 (hid (mus ms) H1) L0 (ms_ a) (es_ a) σ' H', ⟨items.length, rfl, Nat.zero_le _, a0, hP, by rw [hms]; exact s1⟩, ?_⟩
  rintro i m σ' H' ⟨rfl, hi, a, pa, sa⟩
  have fi := fe (mus (ms_ a)) H' sa.same sa.trk
  by_cases hl : i < items.length
  · have hd' : items[i]? = some items[i] := List.getElem?_eq_getElem hl
    obtain ⟨go, yl⟩ := fi.1 i _ hd'
    refine .inr ⟨go, fun σ2 H2 => ∃ a', P (i + 1) a' ∧ St0 (hid (mus ms) H1) L0 (ms_ a') (es_ a') σ2 H2, fun σ2 H2 ⟨a', p', s'⟩ => ⟨_, by omega, rfl, hl, a', p', s'⟩, fun x H2 y => ?_⟩
    obtain ⟨e2, kx⟩ := yl x H2 y
    obtain ⟨es', ss, has, hr⟩ := hs _ hB i _ a hd' pa
    exact has σ' H2 x _ (sa.grow e2) kx fun σ2 s2 _ _ => hr _ (fun a' p' es2 w σ3 H3 s3 => ⟨a', p', s3.weak w⟩) σ2 H2 s2
  · have ei : i = items.length := by omega
    subst ei
    exact .inl ⟨fi.2, hd a pa σ' H' (sa.base hB)⟩
theorem q_for {α : Type} {wi : TI} {g : TG} {items : List D} (hf : Fd H0 L0 ms es wi items) (ms_ : α → List (Addr × Mu)) (es_ : α → List En) (P : Nat → α → Prop) (a0 : α) (hP : P 0 a0) (hms : ms_ a0 = ms) (hes : Wk es (es_ a0))
    (hs : ∀ B, Same H0 B → ∀ i d a, items[i]? = some d → P i a → ∃ es' ss, As B L0 (ms_ a) (es_ a) g d es' ss ∧
      ∀ N : L2.St → Hp → Prop, (∀ a', P (i + 1) a' → ∀ es2, Wk es2 (es_ a') → Nx B L0 (ms_ a') es2 N) → Run B L0 (ms_ a) es' ts { E with nx := N, ct := N, bk := us E })
    (hd : ∀ a, P items.length a → Run H0 L0 (ms_ a) (es_ a) us E) : Run H0 L0 ms es (tSeq (tFor wi g ts) us) E :=
  run_seq (s_for (E := { E with nx := us E }) hf ms_ es_ P a0 hP hms hes hs hd)
theorem s_while {α : Type} (ms_ : α → List (Addr × Mu)) (es_ : α → List En) (P : α → Prop) (μ : α → Nat) (a0 : α) (hP : P a0) (hms : ms_ a0 = ms) (hes : Wk es (es_ a0))
    (hs : ∀ a, P a → ∃ b, EvT H0 L0 (ms_ a) (es_ a) tt b ∧
      (b = true → ∀ N : L2.St → Hp → Prop, (∀ a', P a' → μ a' < μ a → ∀ es2, Wk es2 (es_ a') → Nx H0 L0 (ms_ a') es2 N) → Run H0 L0 (ms_ a) (es_ a) ts { E with nx := N, ct := N, bk := E.nx }) ∧
      (b = false → Nx H0 L0 (ms_ a) (es_ a) E.nx)) : Run H0 L0 ms es (tWhile tt ts) E := fun σ H s => by
  refine ⟨fun m σ' H' => ∃ a, P a ∧ m = μ a ∧ St0 H0 L0 (ms_ a) (es_ a) σ' H', ⟨μ a0, a0, hP, rfl, by rw [hms]; exact s.weak hes⟩, ?_⟩
  rintro m σ' H' ⟨a, pa, rfl, sa⟩
  obtain ⟨b, ht, h1, h2⟩ := hs a pa
  refine ht σ' H' sa _ fun H2 e2 => ?_
  cases b with
  | true =>
    refine iteT ⟨fun σ3 H3 => ∃ a', P a' ∧ μ a' < μ a ∧ St0 H0 L0 (ms_ a') (es_ a') σ3 H3, fun σ3 H3 ⟨a', p', l', s'⟩ => ⟨μ a', l', a', p', rfl, s'⟩, ?_⟩
    exact h1 rfl _ (fun a' p' l' es2 w σ3 H3 s3 => ⟨a', p', l', s3.weak w⟩) σ' H2 (sa.grow e2)
  | false => exact iteF (h2 rfl σ' H2 (sa.grow e2))
theorem q_while {α : Type} (ms_ : α → List (Addr × Mu)) (es_ : α → List En) (P : α → Prop) (μ : α → Nat) (a0 : α) (hP : P a0) (hms : ms_ a0 = ms) (hes : Wk es (es_ a0))
    (hs : ∀ a, P a → ∃ b, EvT H0 L0 (ms_ a) (es_ a) tt b ∧
      (b = true → ∀ N : L2.St → Hp → Prop, (∀ a', P a' → μ a' < μ a → ∀ es2, Wk es2 (es_ a') → Nx H0 L0 (ms_ a') es2 N) → Run H0 L0 (ms_ a) (es_ a) ts { E with nx := N, ct := N, bk := us E }) ∧
      (b = false → Run H0 L0 (ms_ a) (es_ a) us E)) : Run H0 L0 ms es (tSeq (tWhile tt ts) us) E := run_seq (s_while (E := { E with nx := us E }) ms_ es_ P μ a0 hP hms hes hs)

/-! ### dicts -/
def klook (kvs : List (Int × D)) (k : Int) : Option D := (kvs.find? fun kv => decide (kv.1 = k)).map (·.2)
def kput (kvs : List (Int × D)) (k : Int) (d : D) : List (Int × D) :=
  if (kvs.any fun kv => decide (kv.1 = k)) = true then kvs.map (fun kv => if kv.1 = k then (kv.1, d) else kv) else kvs ++ [(k, d)]
theorem Kv.length {G : Hp} : ∀ {ys : List (Key × V)} {kvs : List (Int × D)}, Kv G ys kvs → ys.length = kvs.length
  | _, _, .nil => rfl
  | _, _, .cons _ t => by rw [List.length_cons, List.length_cons, Kv.length t]
theorem kv_get {G : Hp} (k : Int) : ∀ {ys : List (Key × V)} {kvs : List (Int × D)}, Kv G ys kvs → (∀ d, klook kvs k = some d → ∃ v, valV ys (Sum.inl k : Key) = some v ∧ Dt G v d) ∧ (klook kvs k = none → valV ys (Sum.inl k : Key) = none)
  | _, _, .nil => ⟨fun d h => (nomatch h), fun _ => rfl⟩
  | _, _, .cons (i := i) (v := v) (d := d) (ys := ys) (kvs := kvs) h t => by
    have ih := kv_get k t
    by_cases e : i = k
    · subst e
      have e1 : valV ((Sum.inl i, v) :: ys) (Sum.inl i : Key) = some v := valV_pos rfl
      have e2 : klook ((i, d) :: kvs) i = some d := by simp [klook, List.find?_cons]
      rw [e1, e2]
      exact ⟨fun d' z => by cases z; exact ⟨v, rfl, h⟩, fun z => by cases z⟩
    · have e1 : valV ((Sum.inl i, v) :: ys) (Sum.inl k : Key) = valV ys (Sum.inl k) := valV_neg fun z => e (Sum.inl.inj z)
      have e2 : klook ((i, d) :: kvs) k = klook kvs k := by simp [klook, List.find?_cons, e]
      rw [e1, e2]
      exact ih
theorem kv_any {G : Hp} (k : Int) : ∀ {ys : List (Key × V)} {kvs : List (Int × D)}, Kv G ys kvs → (ys.any fun kv => decide (kv.1 = (Sum.inl k : Key))) = kvs.any fun kv => decide (kv.1 = k)
  | _, _, .nil => rfl
  | _, _, .cons (i := i) (v := v) (d := d) h t => by
    rw [List.any_cons, List.any_cons, kv_any k t]
    have : decide ((Sum.inl i : Key) = Sum.inl k) = decide (i = k) := by
      by_cases e : i = k
      · rw [decide_eq_true e, decide_eq_true (congrArg Sum.inl e)]
      · rw [decide_eq_false e, decide_eq_false fun z => e (Sum.inl.inj z)]
    rw [this]
theorem kv_map {G : Hp} {v : V} {d : D} (k : Int) (h : Dt G v d) : ∀ {ys : List (Key × V)} {kvs : List (Int × D)}, Kv G ys kvs → Kv G (ys.map fun kv => if kv.1 = (Sum.inl k : Key) then (kv.1, v) else kv) (kvs.map fun kv => if kv.1 = k then (kv.1, d) else kv)
  | _, _, .nil => .nil
  | _, _, .cons (i := i) (v := w) (d := e) h' t => by
    rw [List.map_cons, List.map_cons]
    by_cases z : i = k
    · rw [if_pos (congrArg Sum.inl z), if_pos z]
      exact .cons h (kv_map k h t)
    · rw [if_neg (fun q => z (Sum.inl.inj q)), if_neg z]
      exact .cons h' (kv_map k h t)
theorem kv_app {G : Hp} {v : V} {d : D} (k : Int) (h : Dt G v d) : ∀ {ys : List (Key × V)} {kvs : List (Int × D)}, Kv G ys kvs → Kv G (ys ++ [(Sum.inl k, v)]) (kvs ++ [(k, d)])
  | _, _, .nil => .cons h .nil
  | _, _, .cons h' t => .cons h' (kv_app k h t)
theorem kv_put {G : Hp} {v : V} {d : D} (k : Int) (h : Dt G v d) {ys : List (Key × V)} {kvs : List (Int × D)} (t : Kv G ys kvs) : Kv G (putK ys (Sum.inl k : Key) v) (kput kvs k d) := by
  unfold putK kput
  rw [kv_any k t]
  split
  · exact kv_map k h t
  · exact kv_app k h t
theorem ev_dget {kvs : List (Int × D)} (hi : es[i]? = some (.v (.ref a))) (hj : ms[j]? = some (a, .k kvs)) (hl : klook kvs n = some d) (h : Ev H0 L0 ms es te (.int n)) : Ev H0 L0 ms es (tDGet (tVar i) te) d := fun σ H s Q q => by
  refine ⟨.ref a, s.env.at_ i _ hi, h σ H s _ fun v H1 e1 k1 => ?_⟩
  cases k1
  obtain ⟨ys, h1, h2⟩ := (s.grow e1).mu _ (List.mem_of_getElem? hj)
  obtain ⟨v, g1, g2⟩ := (kv_get n h2).1 d hl
  exact ⟨a, v, rfl, by rw [← g1]; exact DGet.k (k := Sum.inl n) h1, q v H1 e1 g2⟩
theorem ev_dget2 {kvs : List (Int × D)} (hi : es[i]? = some (.v (.ref a))) (hj : ms[j]? = some (a, .k kvs)) (h : Ev H0 L0 ms es te (.int n)) (hx : Ev H0 L0 ms es tx d) : Ev H0 L0 ms es (tDGet2 (tVar i) te tx) ((klook kvs n).getD d) := fun σ H s Q q => by
  obtain ⟨ys0, h0, _⟩ := s.mu _ (List.mem_of_getElem? hj)
  refine ⟨.ref a, s.env.at_ i _ hi, a, rfl, .inl ⟨_, .inl h0⟩, h σ H s _ fun v H1 e1 k1 => hx σ H1 (s.grow e1) _ fun w H2 e2 k2 => ?_⟩
  cases k1
  obtain ⟨ys, h1, h2⟩ := (s.grow (e1.trans e2)).mu _ (List.mem_of_getElem? hj)
  obtain ⟨g1, g2⟩ := kv_get n h2
  refine ⟨_, DGet.k (k := Sum.inl n) h1, ?_⟩
  cases e : klook kvs n with
  | none =>
    rw [e] at q
    rw [g2 e]
    exact q w H2 (e1.trans e2) k2
  | some d' =>
    rw [e] at q
    obtain ⟨v, f1, f2⟩ := g1 d' e
    rw [f1]
    exact q v H2 (e1.trans e2) f2
theorem s_dput {kvs : List (Int × D)} (hi : es[i]? = some (.v (.ref a))) (hj : ms[j]? = some (a, .k kvs)) (hz : kvs.length < 1000) (hv : Ev H0 L0 ms es tx d) (h : Ev H0 L0 ms es te (.int n)) (k : Nx H0 L0 (ms.set j (a, .k (kput kvs n d))) es E.nx) :
    Run H0 L0 ms es (sDPut (tVar i) te tx) E := fun σ H s => by
  refine hv σ H s _ fun v H1 e1 k1 => ⟨.ref a, s.env.at_ i _ hi, h σ H1 (s.grow e1) _ fun w H2 e2 k2 => ?_⟩
  cases k2
  obtain ⟨ys, h1, h2⟩ := (s.grow (e1.trans e2)).mu _ (List.mem_of_getElem? hj)
  refine ⟨a, _, rfl, DPut.k (k := Sum.inl n) h1 (by rw [h2.length]; exact small1000 (Nat.le_of_lt hz)), ?_⟩
  exact k σ _ ((s.grow (e1.trans e2)).mut hj ⟨_, upd_same, kv_put n (k1.mo (hid_mono e2)) h2⟩)
theorem q_dput {kvs : List (Int × D)} (hi : es[i]? = some (.v (.ref a))) (hj : ms[j]? = some (a, .k kvs)) (hz : kvs.length < 1000) (hv : Ev H0 L0 ms es tx d) (h : Ev H0 L0 ms es te (.int n)) (k : Run H0 L0 (ms.set j (a, .k (kput kvs n d))) es us E) :
    Run H0 L0 ms es (tSeq (sDPut (tVar i) te tx) us) E := run_seq (s_dput hi hj hz hv h k)

/-! ### equality of data -/
mutual
def py : D → PyData
  | .non => .none
  | .bl b => .bool b
  | .int i => .int i
  | .str x => .str x
  | .lst xs => .list (pys xs)
  | .tup xs => .tuple (pys xs)
  | .vw _ _ _ _ => .dict []
def pys : List D → List PyData
  | [] => []
  | x :: xs => py x :: pys xs
end
mutual
theorem dp_of {H : Hp} : ∀ (d : D) {v : V}, Dt H v d → (py d).canLay0 = true → Dp K H v (py d)
  | .non, _, h, _ => by cases h; exact .non
  | .bl b, _, h, _ => by cases h; exact .bl b
  | .int i, _, h, _ => by cases h; exact .int i
  | .str x, _, h, _ => by cases h; exact .str x
  | .lst ds, _, h, c => by
    cases h with
    | lst h1 h2 => exact .lst (.inl (.inl h1)) (dps_of ds h2 (by simpa [py, PyData.canLay0] using c))
  | .tup ds, _, h, c => by
    cases h with
    | tup h1 h2 => exact .tup (.inl (.inl h1)) (dps_of ds h2 (by simpa [py, PyData.canLay0] using c))
  | .vw _ _ _ _, _, _, c => by simp [py, PyData.canLay0] at c
theorem dps_of {H : Hp} : ∀ (ds : List D) {vs : List V}, DtAll H vs ds → PyData.canLayAll0 (pys ds) = true → DpAll K H vs (pys ds)
  | [], _, h, _ => by cases h; exact .nil
  | d :: ds, _, h, c => by
    cases h with
    | cons h1 h2 =>
      have c' : (py d).canLay0 = true ∧ PyData.canLayAll0 (pys ds) = true := by simpa [pys, PyData.canLayAll0] using c
      exact .cons (dp_of d h1 c'.1) (dps_of ds h2 c'.2)
end
theorem can_of {d : PyData} (h : SeqAt.shaped d = true) : d.canLay0 = true := SeqAt.canLay_of_shaped h
theorem ev_eqD (h1 : SeqAt.shaped (py d1) = true) (h2 : SeqAt.shaped (py d2) = true) (ha : Ev H0 L0 ms es ta d1) (hb : Ev H0 L0 ms es tb d2) : Ev H0 L0 ms es (tOp (rEqD K) ta tb) (.bl (PyData.eqv (py d1) (py d2))) :=
  ev_op ha hb fun H x y _ hx hy Q q => ⟨_, _, dp_of d1 (hx.mo hid_sub) (can_of h1), dp_of d2 (hy.mo hid_sub) (can_of h2), h1, h2, q _ H (Same.refl H) (.bl _)⟩
theorem ev_neD (h1 : SeqAt.shaped (py d1) = true) (h2 : SeqAt.shaped (py d2) = true) (ha : Ev H0 L0 ms es ta d1) (hb : Ev H0 L0 ms es tb d2) : Ev H0 L0 ms es (tOp (rNeD K) ta tb) (.bl (!PyData.eqv (py d1) (py d2))) :=
  ev_op ha hb fun H x y _ hx hy Q q => ⟨_, _, dp_of d1 (hx.mo hid_sub) (can_of h1), dp_of d2 (hy.mo hid_sub) (can_of h2), h1, h2, q _ H (Same.refl H) (.bl _)⟩
/-- one's own list against what is written -/
theorem ev_eqM (hi : es[i]? = some (.v (.ref a))) (hj : ms[j]? = some (a, .l ds)) (h1 : SeqAt.shaped (py (.lst ds)) = true) (h2 : SeqAt.shaped (py d2) = true) (hb : Ev H0 L0 ms es tb d2) : Ev H0 L0 ms es (tOp (rEqD K) (tVar i) tb) (.bl (PyData.eqv (py (.lst ds)) (py d2))) := fun σ H s Q q => by
  refine ⟨.ref a, s.env.at_ i _ hi, hb σ H s _ fun v H1 e1 k1 => ?_⟩
  obtain ⟨xs, g1, g2⟩ := (s.grow e1).mu _ (List.mem_of_getElem? hj)
  exact ⟨_, _, dp_of (.lst ds) (.lst g1 (g2.mo hid_sub)) (can_of h1), dp_of d2 (k1.mo hid_sub) (can_of h2), h1, h2, q _ H1 e1 (.bl _)⟩
theorem ev_neM (hi : es[i]? = some (.v (.ref a))) (hj : ms[j]? = some (a, .l ds)) (h1 : SeqAt.shaped (py (.lst ds)) = true) (h2 : SeqAt.shaped (py d2) = true) (hb : Ev H0 L0 ms es tb d2) : Ev H0 L0 ms es (tOp (rNeD K) (tVar i) tb) (.bl (!PyData.eqv (py (.lst ds)) (py d2))) := fun σ H s Q q => by
  refine ⟨.ref a, s.env.at_ i _ hi, hb σ H s _ fun v H1 e1 k1 => ?_⟩
  obtain ⟨xs, g1, g2⟩ := (s.grow e1).mu _ (List.mem_of_getElem? hj)
  exact ⟨_, _, dp_of (.lst ds) (.lst g1 (g2.mo hid_sub)) (can_of h1), dp_of d2 (k1.mo hid_sub) (can_of h2), h1, h2, q _ H1 e1 (.bl _)⟩

/-! ### isinstance -/
def tyD : D → Option String
  | .non => some "NoneType"
  | .bl _ => some "bool"
  | .int _ => some "int"
  | .str _ => some "str"
  | .lst _ => some "list"
  | .tup _ => some "tuple"
  | .vw _ _ _ _ => none
theorem ty_of {H : Hp} {v : V} {T : String} (h : Dt H v d) (e : tyD d = some T) : TyX K H v (.type T) := by
  cases h with
  | non => cases e; exact .base .non
  | bl b => cases e; exact .base (.bl b)
  | int i => cases e; exact .base (.int i)
  | str z => cases e; exact .base (.str z)
  | lst h1 h2 => cases e; exact .base (.lst h1)
  | tup h1 h2 => cases e; exact .base (.tup h1)
  | vw => cases e
theorem ev_isi {T C : String} (e : tyD d = some T) (hk : kitB T C = some b) (h : Ev H0 L0 ms es te d) : Ev H0 L0 ms es (tCB (rIsi K) (tCons te (tCons (tC (.ty C)) tNil))) (.bl b) := fun σ H s Q q =>
  h σ H s _ fun v H1 e1 k1 => ⟨v, .ty C, .type T, .type C, b, rfl, .ty C, ty_of (k1.mo hid_sub) e, kit_ty hk, q _ H1 e1 (.bl _)⟩
end
end Pc

set_option Elab.async false
set_option linter.all false
set_option maxRecDepth 100000
set_option maxHeartbeats 4000000
/-! The text: each def by its place, its slots; what the top holds; a def as its callers know it. -/
namespace Pc
open PySem PySem.Spec PyProof.Rows L2

def topS (i : Nat) : Stmt := PySem.Challenge.pw_pacehall_k59_whole_blocks_of_one_whole.main.body.getD i (.Pass ⟨0, 0, 0, 0⟩)
abbrev s_is_whole : Stmt := topS 2
abbrev N_is_whole : List Str := ["thing"]
theorem sc_is_whole : FnScope N_is_whole ["thing"] (defScope s_is_whole) := ⟨rfl, rfl, rfl, by decide +kernel, rfl, by decide +kernel, by decide +kernel⟩
abbrev s_divisor : Stmt := topS 3
abbrev N_divisor : List Str := ["one", "other"]
theorem sc_divisor : FnScope N_divisor ["one", "other"] (defScope s_divisor) := ⟨rfl, rfl, rfl, by decide +kernel, rfl, by decide +kernel, by decide +kernel⟩
abbrev s_divisor_of : Stmt := topS 4
abbrev N_divisor_of : List Str := ["numbers", "found", "number"]
theorem sc_divisor_of : FnScope N_divisor_of ["numbers"] (defScope s_divisor_of) := ⟨rfl, rfl, rfl, by decide +kernel, rfl, by decide +kernel, by decide +kernel⟩
abbrev s_whole_case : Stmt := topS 6
abbrev N_whole_case : List Str := ["terms", "times", "low", "high"]
theorem sc_whole_case : FnScope N_whole_case ["terms"] (defScope s_whole_case) := ⟨rfl, rfl, rfl, by decide +kernel, rfl, by decide +kernel, by decide +kernel⟩
abbrev s_least_sum : Stmt := topS 7
abbrev N_least_sum : List Str := ["terms", "case", "term", "low", "high"]
theorem sc_least_sum : FnScope N_least_sum ["terms", "case"] (defScope s_least_sum) := ⟨rfl, rfl, rfl, by decide +kernel, rfl, by decide +kernel, by decide +kernel⟩
abbrev s_greatest_sum : Stmt := topS 8
abbrev N_greatest_sum : List Str := ["terms", "case", "term", "low", "high"]
theorem sc_greatest_sum : FnScope N_greatest_sum ["terms", "case"] (defScope s_greatest_sum) := ⟨rfl, rfl, rfl, by decide +kernel, rfl, by decide +kernel, by decide +kernel⟩
abbrev s_rest_of : Stmt := topS 9
abbrev N_rest_of : List Str := ["terms", "case", "term", "low", "high"]
theorem sc_rest_of : FnScope N_rest_of ["terms", "case"] (defScope s_rest_of) := ⟨rfl, rfl, rfl, by decide +kernel, rfl, by decide +kernel, by decide +kernel⟩
abbrev s_end_of : Stmt := topS 10
abbrev N_end_of : List Str := ["terms", "goal", "case", "least", "rest"]
theorem sc_end_of : FnScope N_end_of ["terms", "goal", "case"] (defScope s_end_of) := ⟨rfl, rfl, rfl, by decide +kernel, rfl, by decide +kernel, by decide +kernel⟩
abbrev s_widen : Stmt := topS 18
abbrev N_widen : List Str := ["ranges", "pace", "most", "low", "high"]
theorem sc_widen : FnScope N_widen ["ranges", "pace", "most"] (defScope s_widen) := ⟨rfl, rfl, rfl, by decide +kernel, rfl, by decide +kernel, by decide +kernel⟩
abbrev s_gathered : Stmt := topS 19
abbrev N_gathered : List Str := ["one", "other", "ranges", "size", "pace", "terms", "times"]
theorem sc_gathered : FnScope N_gathered ["one", "other"] (defScope s_gathered) := ⟨rfl, rfl, rfl, by decide +kernel, rfl, by decide +kernel, by decide +kernel⟩
abbrev s_parted : Stmt := topS 22
abbrev N_parted : List Str := ["case", "k", "at", "low", "high", "lower", "upper"]
theorem sc_parted : FnScope N_parted ["case", "k", "at"] (defScope s_parted) := ⟨rfl, rfl, rfl, by decide +kernel, rfl, by decide +kernel, by decide +kernel⟩
abbrev s_is_rest : Stmt := topS 23
abbrev N_is_rest : List Str := ["terms", "goal", "case", "by", "term", "low", "high"]
theorem sc_is_rest : FnScope N_is_rest ["terms", "goal", "case", "by"] (defScope s_is_rest) := ⟨rfl, rfl, rfl, by decide +kernel, rfl, by decide +kernel, by decide +kernel⟩
abbrev s_is_part : Stmt := topS 24
abbrev N_is_part : List Str := ["case", "step", "low", "high"]
theorem sc_is_part : FnScope N_is_part ["case", "step"] (defScope s_is_part) := ⟨rfl, rfl, rfl, by decide +kernel, rfl, by decide +kernel, by decide +kernel⟩
abbrev s_is_end : Stmt := topS 25
abbrev N_is_end : List Str := ["terms", "goal", "case", "step"]
theorem sc_is_end : FnScope N_is_end ["terms", "goal", "case", "step"] (defScope s_is_end) := ⟨rfl, rfl, rfl, by decide +kernel, rfl, by decide +kernel, by decide +kernel⟩
abbrev s_is_apart : Stmt := topS 26
abbrev N_is_apart : List Str := ["one", "other", "paper", "terms", "goal", "cases", "step", "case"]
theorem sc_is_apart : FnScope N_is_apart ["one", "other", "paper"] (defScope s_is_apart) := ⟨rfl, rfl, rfl, by decide +kernel, rfl, by decide +kernel, by decide +kernel⟩
abbrev s_open_term : Stmt := topS 27
abbrev N_open_term : List Str := ["case", "k"]
theorem sc_open_term : FnScope N_open_term ["case"] (defScope s_open_term) := ⟨rfl, rfl, rfl, by decide +kernel, rfl, by decide +kernel, by decide +kernel⟩
abbrev s_part_at : Stmt := topS 28
abbrev N_part_at : List Str := ["terms", "goal", "case", "k", "times", "low", "high", "least", "most"]
theorem sc_part_at : FnScope N_part_at ["terms", "goal", "case", "k"] (defScope s_part_at) := ⟨rfl, rfl, rfl, by decide +kernel, rfl, by decide +kernel, by decide +kernel⟩
abbrev s_place_by : Stmt := topS 29
abbrev N_place_by : List Str := ["view", "sign", "numbers", "place", "size", "pace", "at"]
theorem sc_place_by : FnScope N_place_by ["view", "sign", "numbers"] (defScope s_place_by) := ⟨rfl, rfl, rfl, by decide +kernel, rfl, by decide +kernel, by decide +kernel⟩
abbrev s_places_by : Stmt := topS 30
abbrev N_places_by : List Str := ["one", "other", "terms", "case", "numbers", "term", "low", "high", "here"]
theorem sc_places_by : FnScope N_places_by ["one", "other", "terms", "case"] (defScope s_places_by) := ⟨rfl, rfl, rfl, by decide +kernel, rfl, by decide +kernel, by decide +kernel⟩
abbrev s_sought : Stmt := topS 31
abbrev N_sought : List Str := ["one", "other", "most", "terms", "goal", "cases", "paper", "case", "step", "k", "at"]
theorem sc_sought : FnScope N_sought ["one", "other", "most"] (defScope s_sought) := ⟨rfl, rfl, rfl, by decide +kernel, rfl, by decide +kernel, by decide +kernel⟩
abbrev s_shares : Stmt := topS 32
abbrev N_shares : List Str := ["one", "other", "most"]
theorem sc_shares : FnScope N_shares ["one", "other", "most"] (defScope s_shares) := ⟨rfl, rfl, rfl, by decide +kernel, rfl, by decide +kernel, by decide +kernel⟩
abbrev s_is_axis : Stmt := topS 41
abbrev N_is_axis : List Str := ["thing"]
theorem sc_is_axis : FnScope N_is_axis ["thing"] (defScope s_is_axis) := ⟨rfl, rfl, rfl, by decide +kernel, rfl, by decide +kernel, by decide +kernel⟩
abbrev s_kept_axes : Stmt := topS 42
abbrev N_kept_axes : List Str := ["axes", "found", "axis"]
theorem sc_kept_axes : FnScope N_kept_axes ["axes"] (defScope s_kept_axes) := ⟨rfl, rfl, rfl, by decide +kernel, rfl, by decide +kernel, by decide +kernel⟩
abbrev s_V_init : Stmt := inClass (topS 43) 0
abbrev N_V_init : List Str := ["self", "room", "first", "axes"]
theorem sc_V_init : FnScope N_V_init ["self", "room", "first", "axes"] (defScope s_V_init) := ⟨rfl, rfl, rfl, by decide +kernel, rfl, by decide +kernel, by decide +kernel⟩
abbrev s_V_least : Stmt := inClass (topS 43) 7
abbrev N_V_least : List Str := ["self", "size", "pace"]
theorem sc_V_least : FnScope N_V_least ["self"] (defScope s_V_least) := ⟨rfl, rfl, rfl, by decide +kernel, rfl, by decide +kernel, by decide +kernel⟩
abbrev s_V_greatest : Stmt := inClass (topS 43) 8
abbrev N_V_greatest : List Str := ["self", "size", "pace"]
theorem sc_V_greatest : FnScope N_V_greatest ["self"] (defScope s_V_greatest) := ⟨rfl, rfl, rfl, by decide +kernel, rfl, by decide +kernel, by decide +kernel⟩
abbrev s_l_draw : Stmt := topS 45
abbrev N_l_draw : List Str := ["_law_script", "_law_k", "_law_many", "_law_number", "_law_cell_here"]
theorem sc_l_draw : FnScope N_l_draw ["_law_script", "_law_k", "_law_many"] (defScope s_l_draw) := ⟨rfl, rfl, rfl, by decide +kernel, rfl, by decide +kernel, by decide +kernel⟩
abbrev s_l_whole : Stmt := topS 46
abbrev N_l_whole : List Str := ["_law_found"]
theorem sc_l_whole : FnScope N_l_whole ["_law_found"] (defScope s_l_whole) := ⟨rfl, rfl, rfl, by decide +kernel, rfl, by decide +kernel, by decide +kernel⟩
abbrev s_l_terms : Stmt := topS 47
abbrev N_l_terms : List Str := ["_law_one", "_law_other", "_law_ranges", "_law_axes_here", "_law_sign", "_law_size", "_law_pace", "_law_low", "_law_high", "_law_found", "_law_times"]
theorem sc_l_terms : FnScope N_l_terms ["_law_one", "_law_other"] (defScope s_l_terms) := ⟨rfl, rfl, rfl, by decide +kernel, rfl, by decide +kernel, by decide +kernel⟩
abbrev s_l_is_place : Stmt := topS 48
abbrev N_l_is_place : List Str := ["_law_place", "_law_axes_here", "_law_at", "_law_axis"]
theorem sc_l_is_place : FnScope N_l_is_place ["_law_place", "_law_axes_here"] (defScope s_l_is_place) := ⟨rfl, rfl, rfl, by decide +kernel, rfl, by decide +kernel, by decide +kernel⟩
abbrev s_l_cell : Stmt := topS 49
abbrev N_l_cell : List Str := ["_law_first", "_law_axes_here", "_law_place", "_law_at", "_law_axis"]
theorem sc_l_cell : FnScope N_l_cell ["_law_first", "_law_axes_here", "_law_place"] (defScope s_l_cell) := ⟨rfl, rfl, rfl, by decide +kernel, rfl, by decide +kernel, by decide +kernel⟩
abbrev s_l_met : Stmt := topS 50
abbrev N_l_met : List Str := ["_law_found", "_law_one", "_law_other", "_law_goal"]
theorem sc_l_met : FnScope N_l_met ["_law_found", "_law_one", "_law_other", "_law_goal"] (defScope s_l_met) := ⟨rfl, rfl, rfl, by decide +kernel, rfl, by decide +kernel, by decide +kernel⟩
abbrev s_l_sums : Stmt := topS 51
abbrev N_l_sums : List Str := ["_law_terms_here", "_law_case", "_law_least", "_law_k"]
theorem sc_l_sums : FnScope N_l_sums ["_law_terms_here", "_law_case"] (defScope s_l_sums) := ⟨rfl, rfl, rfl, by decide +kernel, rfl, by decide +kernel, by decide +kernel⟩
abbrev s_l_divisor : Stmt := topS 52
abbrev N_l_divisor : List Str := ["_law_numbers", "_law_found", "_law_other", "_law_one"]
theorem sc_l_divisor : FnScope N_l_divisor ["_law_numbers"] (defScope s_l_divisor) := ⟨rfl, rfl, rfl, by decide +kernel, rfl, by decide +kernel, by decide +kernel⟩
abbrev s_l_ended : Stmt := topS 53
abbrev N_l_ended : List Str := ["_law_terms_here", "_law_goal", "_law_case", "_law_least", "_law_greatest", "_law_rest_here", "_law_k"]
theorem sc_l_ended : FnScope N_l_ended ["_law_terms_here", "_law_goal", "_law_case"] (defScope s_l_ended) := ⟨rfl, rfl, rfl, by decide +kernel, rfl, by decide +kernel, by decide +kernel⟩
abbrev s_l_rest : Stmt := topS 54
abbrev N_l_rest : List Str := ["_law_terms_here", "_law_goal", "_law_case", "_law_by", "_law_k"]
theorem sc_l_rest : FnScope N_l_rest ["_law_terms_here", "_law_goal", "_law_case", "_law_by"] (defScope s_l_rest) := ⟨rfl, rfl, rfl, by decide +kernel, rfl, by decide +kernel, by decide +kernel⟩
abbrev s_l_behind : Stmt := topS 55
abbrev N_l_behind : List Str := ["_law_terms_here", "_law_goal", "_law_case", "_law_step", "_law_least", "_law_greatest", "_law_word", "_law_k", "_law_at"]
theorem sc_l_behind : FnScope N_l_behind ["_law_terms_here", "_law_goal", "_law_case", "_law_step"] (defScope s_l_behind) := ⟨rfl, rfl, rfl, by decide +kernel, rfl, by decide +kernel, by decide +kernel⟩
abbrev s_l_left : Stmt := topS 56
abbrev N_l_left : List Str := ["_law_terms_here", "_law_goal", "_law_paper", "_law_bare", "_law_cases", "_law_step", "_law_case", "_law_more", "_law_times", "_law_low", "_law_high"]
theorem sc_l_left : FnScope N_l_left ["_law_terms_here", "_law_goal", "_law_paper", "_law_bare"] (defScope s_l_left) := ⟨rfl, rfl, rfl, by decide +kernel, rfl, by decide +kernel, by decide +kernel⟩
abbrev s_l_apart : Stmt := topS 57
abbrev N_l_apart : List Str := ["_law_found", "_law_terms_here", "_law_goal", "_law_most"]
theorem sc_l_apart : FnScope N_l_apart ["_law_found", "_law_terms_here", "_law_goal", "_law_most"] (defScope s_l_apart) := ⟨rfl, rfl, rfl, by decide +kernel, rfl, by decide +kernel, by decide +kernel⟩
abbrev s_l_block : Stmt := topS 58
abbrev N_l_block : List Str := ["_law_cell_here", "_law_size", "_law_step", "_law_many", "_law_start"]
theorem sc_l_block : FnScope N_l_block ["_law_cell_here", "_law_size", "_law_step"] (defScope s_l_block) := ⟨rfl, rfl, rfl, by decide +kernel, rfl, by decide +kernel, by decide +kernel⟩
abbrev s_l_meet : Stmt := topS 59
abbrev N_l_meet : List Str := ["_law_one", "_law_other", "_law_step", "_law_first", "_law_last"]
theorem sc_l_meet : FnScope N_l_meet ["_law_one", "_law_other", "_law_step"] (defScope s_l_meet) := ⟨rfl, rfl, rfl, by decide +kernel, rfl, by decide +kernel, by decide +kernel⟩
abbrev s_l_axes : Stmt := topS 60
abbrev N_l_axes : List Str := ["_law_blocks", "_law_paces", "_law_steps", "_law_first", "_law_axes_here", "_law_k", "_law_start", "_law_many", "_law_way"]
theorem sc_l_axes : FnScope N_l_axes ["_law_blocks", "_law_paces", "_law_steps"] (defScope s_l_axes) := ⟨rfl, rfl, rfl, by decide +kernel, rfl, by decide +kernel, by decide +kernel⟩
abbrev s_l_right : Stmt := topS 61
abbrev N_l_right : List Str := ["_law_found", "_law_one", "_law_other", "_law_goal", "_law_meet_here", "_law_terms_here"]
theorem sc_l_right : FnScope N_l_right ["_law_found", "_law_one", "_law_other", "_law_goal", "_law_meet_here"] (defScope s_l_right) := ⟨rfl, rfl, rfl, by decide +kernel, rfl, by decide +kernel, by decide +kernel⟩
abbrev s_law : Stmt := topS 62
abbrev N_law : List Str := ["_law_script", "_law_paces", "_law_steps", "_law_blocks", "_law_room", "_law_meet_here", "_law_k", "_law_size", "_law_j", "_law_first", "_law_one", "_law_second", "_law_other", "_law_here", "_law_there", "_law_most", "_law_found"]
theorem sc_law : FnScope N_law ["_law_script"] (defScope s_law) := ⟨rfl, rfl, rfl, by decide +kernel, rfl, by decide +kernel, by decide +kernel⟩
/-- the built-ins and the constants that stand at the top -/
structure Txt (mg : Str → Option Value) : Prop where
  zabs : mg "abs" = none
  zlen : mg "len" = none
  zsum : mg "sum" = none
  zzip : mg "zip" = none
  zmax : mg "max" = none
  zmin : mg "min" = none
  zrange : mg "range" = none
  zsorted : mg "sorted" = none
  zreversed : mg "reversed" = none
  zisinstance : mg "isinstance" = none
  zint : mg "int" = none
  zbool : mg "bool" = none
  zlist : mg "list" = none
  ztuple : mg "tuple" = none
  cMOST_CASES : ∃ t, mg "MOST_CASES" = some (.int 100000 t)
  cMOST_ROOM : ∃ t, mg "MOST_ROOM" = some (.int 1000000000000000000 t)
  cMOST_AXES : ∃ t, mg "MOST_AXES" = some (.int 8 t)
  cMOST_SIZE : ∃ t, mg "MOST_SIZE" = some (.int 1000000000 t)
/-- a def as its callers know it -/
structure Fn (P : Program) (w : World) (K : PySem.W.Frag) (mg : Str → Option Value) (base : Heap) (k : Nat) (x : Str) (ps : List Str) (sp : Sp) : Prop where
  ex : ∃ f fd, FnOk P w K mg base CX0 k f fd ps sp ∧ mg x = some (.ref f) ∧ PySem.W.keepIn K (.ref f) = true ∧ Binds K fd ps []
theorem pe_fn {X : Cx} {k : Nat} {x : Str} {ps : List Str} {sp : Sp} {p pos : Pos} {e : Expr} {es : List Expr} {t : TA} (C : Fn X.prog X.w X.K X.mg X.base k x ps sp) (hr : Room k X.A) (hg : Gl X x) (ha : PA X (e :: es) t)
    (hdb : (x == ("__debug__" : Str)) = false := by decide) (he : starEach (e :: es) X.env = (false, eval e X.env) :: starEach es X.env := by rfl) (hpl : (backTo pos (starEach es X.env)).any (·.1) = false := by rfl) :
    PE X (.Call (.Name x p) (e :: es) [] pos) (tCall sp [] E0 t) := by
  obtain ⟨f, fd, F, hm, hk, hb⟩ := C.ex
  exact pe_call F hr hg hm hk hb .nil pass0 ha hdb he hpl
/-! rules whose fragment is told -/
theorem ixT {X : Cx} {K : PySem.W.Frag} (h : X.K = K := by rfl) : IxR X (rIxT K) := by
  subst h
  exact ix_tup
theorem ixL {X : Cx} {K : PySem.W.Frag} (h : X.K = K := by rfl) : IxR X (rIxL K) := by
  subst h
  exact ix_list
theorem catT {X : Cx} {K : PySem.W.Frag} (h : X.K = K := by rfl) : OpR X (binaryOp .Add) (rCatT K) := by
  subst h
  exact op_catT
section
variable {P : Program} {w : World} {K : PySem.W.Frag} {mg : Str → Option Value} {base : Heap}
theorem Fn.mono {j k : Nat} {x : Str} {ps : List Str} {sp : Sp} (C : Fn P w K mg base j x ps sp) (h : j ≤ k) : Fn P w K mg base k x ps sp := by
  obtain ⟨f, fd, F, hm, hk, hb⟩ := C.ex
  exact ⟨f, fd, F.mono h, hm, hk, hb⟩
/-- the slots at the start -/
theorem start_env {G : Hp} {N : List Str} {vs : List V} {ds : List D} (h : DtAll G vs ds) (hl : ds.length ≤ N.length) : EnvOk G (L2.start N vs) (ds.map En.d ++ List.replicate (N.length - ds.length) En.no) := by
  have e := h.length
  unfold L2.start
  refine ⟨by rw [List.length_append, List.length_append, List.length_map, List.length_map, List.length_replicate, List.length_replicate, e], fun i x q => ?_⟩
  by_cases hi : i < ds.length
  · rw [List.getElem?_append_left (by rw [List.length_map]; exact hi), List.getElem?_map, List.getElem?_eq_getElem hi] at q
    obtain ⟨v, h1, h2⟩ := h.get (List.getElem?_eq_getElem hi)
    rw [List.getElem?_append_left (by rw [List.length_map]; omega), List.getElem?_map, h1]
    cases q
    exact ⟨v, rfl, h2⟩
  · rw [List.getElem?_append_right (by rw [List.length_map]; omega), List.getElem?_replicate] at q
    split at q
    · cases q
      trivial
    · cases q
theorem start_st {H : Hp} {L : List Addr} {N : List Str} {vs : List V} {ds : List D} (h : DtAll (hid L H) vs ds) (tr : ∀ z ∈ L, H z ≠ none) (hl : ds.length ≤ N.length) :
    St0 H L [] (ds.map En.d ++ List.replicate (N.length - ds.length) En.no) (L2.start N vs) H := by
  refine ⟨?_, tr, List.nodup_nil, fun a z => (nomatch z), fun p z => (nomatch z), start_env h hl⟩
  show Same H (hid [] H)
  rw [hid_nil]
  exact Same.refl H
/-- a def that changes nothing, by its body's run -/
theorem ok_of {x qual : Str} {st : Stmt} {f : Addr} {fd : FuncData} {N ps : List Str} {k : Nat} {R : List D → D → Prop} (F : Fun K x qual st f fd) (sc : FnScope N ps (defScope st)) (hn : ∀ ds d, R ds d → ds.length = ps.length) (hl : ps.length ≤ N.length)
    (body : ∀ (cdv : Value) (A : Around) (outer : List Env) (s : Shared) (H : Hp) (E : XK), Room k (A.deeper (envOfC qual (defScope st) s.heap.objs.size f cdv)) →
      ∃ t, PSs (cxOf CX0 P w K mg base N qual (defScope st) f cdv A outer s H E).nox (defBody st) t ∧
        ∀ (L : List Addr) (ds : List D) (d : D) (Q : VK), R ds d → Rt H L { nx := fun _ H' => Q .non H', rt := Q } d → Run H L [] (ds.map En.d ++ List.replicate (N.length - ds.length) En.no) t { nx := fun _ H' => Q .non H', rt := Q }) :
    FnOk P w K mg base CX0 (k + 1) f fd ps (spP R) := by
  refine F.ok sc (fun vs H Q E h => ?_) (fun cdv A outer s H vs Q E hr h => ?_)
  · obtain ⟨L, ds, d, hR, _, hd, _⟩ := h
    rw [hd.length, hn _ _ hR]
  · obtain ⟨L, ds, d, hR, tr, hd, q⟩ := h
    obtain ⟨t, hp, hrun⟩ := body cdv A outer s H E hr
    exact ⟨t, hp, hrun L ds d Q hR q _ _ (start_st hd tr (by rw [hn _ _ hR]; exact hl))⟩
end
end Pc

set_option linter.all false
/-! The mirror: what the program's defs compute, over plain lists. -/
namespace Pm
abbrev T3 := Int × Int × Int
abbrev P2 := Int × Int
def leastSum (ts : List T3) (c : List P2) : Int := ((ts.zip c).map fun p => p.1.1 * p.2.1).sum
def greatestSum (ts : List T3) (c : List P2) : Int := ((ts.zip c).map fun p => p.1.1 * p.2.2).sum
def gcdL (ns : List Int) : Int := ns.foldl (fun a b => (Int.gcd a b : Int)) 0
def restOf (ts : List T3) (c : List P2) : Int := gcdL (((ts.zip c).filter fun p => decide (p.2.1 < p.2.2)).map fun p => p.1.1)
inductive Step where
  | low | high | rest (m : Int) | part (k : Nat) (at_ : Int)
def endOf (ts : List T3) (g : Int) (c : List P2) : Option Step :=
  if g < leastSum ts c then some .low
  else if greatestSum ts c < g then some .high
  else if 1 < restOf ts c ∧ (g - leastSum ts c) % restOf ts c ≠ 0 then some (.rest (restOf ts c))
  else none
def openTerm : List P2 → Option Nat
  | [] => none
  | p :: c => if p.1 < p.2 then some 0 else (openTerm c).map (· + 1)
def partAt (ts : List T3) (g : Int) (c : List P2) (k : Nat) : Int :=
  let times := (ts.getD k (0, 0, 0)).1
  let p := c.getD k (0, 0)
  let least := 0 - (greatestSum ts c - times * p.2 - g) / times
  let most := (g - leastSum ts c + times * p.1) / times
  if p.1 < least then least - 1 else if most < p.2 then most else p.1
def lower (c : List P2) (k : Nat) (at_ : Int) : List P2 := c.take k ++ ((c.getD k (0, 0)).1, at_) :: c.drop (k + 1)
def upper (c : List P2) (k : Nat) (at_ : Int) : List P2 := c.take k ++ (at_ + 1, (c.getD k (0, 0)).2) :: c.drop (k + 1)
def wholeCase (ts : List T3) : List P2 := ts.map fun t => (t.2.1, t.2.2)
inductive Out where
  | opn | shared (c : List P2) | apart (paper : List Step)
/-- the search: fuel is how many cases may still be looked at -/
def search (ts : List T3) (g : Int) : Nat → List (List P2) → List Step → Out
  | _, [], paper => .apart paper
  | 0, _ :: _, _ => .opn
  | fuel + 1, c :: rest, paper =>
    match endOf ts g c with
    | some s => search ts g fuel rest (paper ++ [s])
    | none =>
      match openTerm c with
      | none => .shared c
      | some k => search ts g fuel (lower c k (partAt ts g c k) :: upper c k (partAt ts g c k) :: rest) (paper ++ [.part k (partAt ts g c k)])
def isRest (ts : List T3) (g : Int) (c : List P2) (m : Int) : Bool :=
  if m < 2 then false
  else if (ts.zip c).any (fun p => decide (p.2.1 < p.2.2) && decide (p.1.1 % m ≠ 0)) = true then false
  else decide ((g - leastSum ts c) % m ≠ 0)
def isPart (c : List P2) : Step → Bool
  | .part k a => decide (k < c.length) && (decide ((c.getD k (0, 0)).1 ≤ a) && decide (a < (c.getD k (0, 0)).2))
  | _ => false
def isEnd (ts : List T3) (g : Int) (c : List P2) : Step → Bool
  | .low => decide (g < leastSum ts c)
  | .high => decide (greatestSum ts c < g)
  | .rest m => isRest ts g c m
  | .part _ _ => false
def parts (c : List P2) : Step → List (List P2)
  | .part k a => [lower c k a, upper c k a]
  | _ => []
/-- a paper read over a pile of cases, the top one first -/
def readP (ts : List T3) (g : Int) : List (List P2) → List Step → Bool
  | st, [] => st.isEmpty
  | [], _ :: _ => false
  | c :: st, s :: ss => if isPart c s = true then readP ts g (parts c s ++ st) ss else if isEnd ts g c s = true then readP ts g st ss else false
theorem open_none : ∀ {c : List P2}, (∀ (j : Nat) (p : P2), c[j]? = some p → ¬ p.1 < p.2) → openTerm c = none
  | [], _ => rfl
  | p :: c, h => by
    unfold openTerm
    rw [if_neg (h 0 p rfl), open_none fun j q hq => h (j + 1) q hq]
    rfl
theorem open_some : ∀ {c : List P2} {i : Nat} {p : P2}, c[i]? = some p → p.1 < p.2 → (∀ (j : Nat) (q : P2), j < i → c[j]? = some q → ¬ q.1 < q.2) → openTerm c = some i
  | [], i, p, h, _, _ => by simp at h
  | q :: c, 0, p, h, hp, _ => by
    have e : q = p := by simpa using h
    unfold openTerm
    rw [e, if_pos hp]
  | q :: c, i + 1, p, h, hp, hj => by
    unfold openTerm
    rw [if_neg (hj 0 q (Nat.succ_pos _) rfl), open_some (i := i) (p := p) (by simpa using h) hp fun j r hl hr => hj (j + 1) r (Nat.succ_lt_succ hl) (by simpa using hr)]
    rfl
theorem open_at : ∀ {c : List P2} {k : Nat}, openTerm c = some k → k < c.length ∧ (c.getD k (0, 0)).1 < (c.getD k (0, 0)).2 ∧ ∀ (j : Nat) (p : P2), j < k → c[j]? = some p → ¬ p.1 < p.2
  | [], k, h => by simp [openTerm] at h
  | q :: c, k, h => by
    unfold openTerm at h
    by_cases hq : q.1 < q.2
    · rw [if_pos hq] at h
      cases h
      exact ⟨by simp, by simpa using hq, fun j p hj => by omega⟩
    · rw [if_neg hq] at h
      cases e : openTerm c with
      | none => rw [e] at h; cases h
      | some i =>
        rw [e] at h
        cases h
        obtain ⟨h1, h2, h3⟩ := open_at e
        refine ⟨by simpa using h1, by simpa using h2, fun j p hj hp => ?_⟩
        cases j with
        | zero =>
          have e' : q = p := by simpa using hp
          rw [← e']
          exact hq
        | succ j =>
          have hj' : j + 1 < i + 1 := hj
          exact h3 j p (by omega) (by simpa using hp)
end Pm

set_option linter.all false
/-! The mirror: terms gathered, places by numbers. -/
namespace Pm
abbrev Rg := List (Int × P2)
def look {α : Type} (r : List (Int × α)) (k : Int) : Option α := (r.find? fun q => decide (q.1 = k)).map (·.2)
def put {α : Type} (r : List (Int × α)) (k : Int) (v : α) : List (Int × α) :=
  if (r.any fun q => decide (q.1 = k)) = true then r.map (fun q => if q.1 = k then (q.1, v) else q) else r ++ [(k, v)]
def iabs (p : Int) : Int := if p < 0 then -p else p
def widen (r : Rg) (p m : Int) : Rg :=
  put r (iabs p) (if 0 < p then (((look r (iabs p)).getD (0, 0)).1, ((look r (iabs p)).getD (0, 0)).2 + m) else (((look r (iabs p)).getD (0, 0)).1 - m, ((look r (iabs p)).getD (0, 0)).2))
/-- the axes of one view, in the order of the list -/
def widenAll (sg : Int) : Rg → List P2 → Rg
  | r, [] => r
  | r, a :: ax => widenAll sg (if a.2 ≠ 0 then widen r (sg * a.2) (a.1 - 1) else r) ax
def gath (A B : List P2) : Rg := widenAll (-1) (widenAll 1 [] A) B
def sortD (ks : List Int) : List Int := ks.mergeSort (fun a b => decide (b ≤ a))
def termsOf (r : Rg) : List T3 := (sortD (r.map (·.1))).map fun t => (t, (look r t).getD (0, 0))
def terms (A B : List P2) : List T3 := termsOf (gath A B)
/-- one axis: as much as it can -/
def placeStep (sg : Int) (nums : List (Int × Int)) (a : P2) : Int × List (Int × Int) :=
  if 0 < a.2 * sg then
    let n := (look nums (iabs a.2)).getD 0
    let at_ := max 0 (min (a.1 - 1) n)
    (at_, put nums (iabs a.2) (n - at_))
  else if a.2 * sg < 0 then
    let n := (look nums (iabs a.2)).getD 0
    let at_ := max 0 (min (a.1 - 1) (0 - n))
    (at_, put nums (iabs a.2) (n + at_))
  else (0, nums)
def placeBy (sg : Int) : List (Int × Int) → List P2 → List Int × List (Int × Int)
  | nums, [] => ([], nums)
  | nums, a :: ax => ((placeStep sg nums a).1 :: (placeBy sg (placeStep sg nums a).2 ax).1, (placeBy sg (placeStep sg nums a).2 ax).2)
def numbersOf (ts : List T3) (c : List P2) : List (Int × Int) := (ts.zip c).foldl (fun r p => put r p.1.1 p.2.1) []
def placesBy (A B : List P2) (ts : List T3) (c : List P2) : List Int × List Int :=
  ((placeBy 1 (numbersOf ts c) A).1, (placeBy (-1) (placeBy 1 (numbersOf ts c) A).2 B).1)

/-! lengths, keys -/
theorem put_keys {α : Type} (r : List (Int × α)) (k : Int) (v : α) : (put r k v).map (·.1) = if (r.any fun q => decide (q.1 = k)) = true then r.map (·.1) else r.map (·.1) ++ [k] := by
  unfold put
  split
  · rw [List.map_map]
    apply List.map_congr_left
    intro q _
    show (if q.1 = k then (q.1, v) else q).1 = q.1
    split <;> rfl
  · rw [List.map_append]
    rfl
theorem put_len {α : Type} (r : List (Int × α)) (k : Int) (v : α) : (put r k v).length ≤ r.length + 1 := by
  have e := congrArg List.length (put_keys r k v)
  rw [List.length_map] at e
  rw [e]
  split
  · rw [List.length_map]; omega
  · rw [List.length_append, List.length_map, List.length_singleton]; omega
theorem widen_len (r : Rg) (p m : Int) : (widen r p m).length ≤ r.length + 1 := put_len _ _ _
theorem widenAll_len (sg : Int) : ∀ (ax : List P2) (r : Rg), (widenAll sg r ax).length ≤ r.length + ax.length
  | [], r => by simp [widenAll]
  | a :: ax, r => by
    unfold widenAll
    have h1 := widenAll_len sg ax (if a.2 ≠ 0 then widen r (sg * a.2) (a.1 - 1) else r)
    have h2 : (if a.2 ≠ 0 then widen r (sg * a.2) (a.1 - 1) else r).length ≤ r.length + 1 := by
      split
      · exact widen_len _ _ _
      · omega
    rw [List.length_cons]
    omega
theorem gath_len (A B : List P2) : (gath A B).length ≤ A.length + B.length := by
  unfold gath
  have h1 := widenAll_len 1 A []
  have h2 := widenAll_len (-1) B (widenAll 1 [] A)
  rw [List.length_nil] at h1
  omega
theorem sortD_perm (ks : List Int) : (sortD ks).Perm ks := List.mergeSort_perm ks _
theorem sortD_desc (ks : List Int) : (sortD ks).Pairwise (· ≥ ·) := by
  have h := List.pairwise_mergeSort (le := fun a b : Int => decide (b ≤ a)) (fun a b c h1 h2 => by simp at *; omega) (fun a b => by simp; omega) ks
  exact h.imp fun h => by simpa using h
theorem desc_same {a b : List Int} (hp : a.Perm b) (ha : a.Pairwise (· ≥ ·)) (hb : b.Pairwise (· ≥ ·)) : a = b :=
  List.Perm.eq_of_pairwise (fun x y _ _ h1 h2 => Int.le_antisymm h2 h1) ha hb hp
theorem widenAll_append (sg : Int) : ∀ (a b : List P2) (r : Rg), widenAll sg r (a ++ b) = widenAll sg (widenAll sg r a) b
  | [], _, _ => rfl
  | x :: a, b, r => by
    show widenAll sg _ (a ++ b) = widenAll sg (widenAll sg _ a) b
    exact widenAll_append sg a b _
theorem look_put {α : Type} (r : List (Int × α)) (k j : Int) (v : α) : look (put r k v) j = if j = k then some v else look r j := by
  have hmap : ∀ l : List (Int × α), look (l.map fun q => if q.1 = k then (q.1, v) else q) j = if j = k then (look l j).map (fun _ => v) else look l j := by
    intro l
    induction l with
    | nil => by_cases h : j = k <;> simp [look, h]
    | cons q l ih =>
      unfold look at ih ⊢
      rw [List.map_cons, List.find?_cons, List.find?_cons]
      by_cases h1 : q.1 = k
      · rw [if_pos h1]
        by_cases h2 : q.1 = j
        · have hjk : j = k := h2 ▸ h1
          simp [h2, hjk, h1]
        · have hjk : ¬ j = k := fun z => h2 (h1.trans z.symm)
          simp only [h2, decide_false, if_neg hjk] at ih ⊢
          exact ih
      · rw [if_neg h1]
        by_cases h2 : q.1 = j
        · have hjk : ¬ j = k := fun z => h1 (h2.trans z)
          simp [h2, hjk]
        · simp only [h2, decide_false]
          exact ih
  have hsnoc : ∀ l : List (Int × α), (l.any fun q => decide (q.1 = k)) = false → look (l ++ [(k, v)]) j = if j = k then some v else look l j := by
    intro l hl
    induction l with
    | nil =>
      by_cases h : k = j
      · simp [look, h]
      · have : ¬ j = k := fun z => h z.symm
        simp [look, h, this]
    | cons q l ih =>
      rw [List.any_cons, Bool.or_eq_false_iff] at hl
      have h1 : ¬ q.1 = k := of_decide_eq_false hl.1
      have ih := ih hl.2
      unfold look at ih ⊢
      rw [List.cons_append, List.find?_cons, List.find?_cons]
      by_cases h2 : q.1 = j
      · have hjk : ¬ j = k := fun z => h1 (h2.trans z)
        simp [h2, hjk]
      · simp only [h2, decide_false]
        exact ih
  have hany : ∀ l : List (Int × α), (l.any fun q => decide (q.1 = k)) = true → ∃ x, look l k = some x := by
    intro l hl
    obtain ⟨q, hq, hk⟩ := List.any_eq_true.mp hl
    unfold look
    cases e : l.find? fun q => decide (q.1 = k) with
    | none =>
      have := List.find?_eq_none.mp e q hq
      exact absurd hk this
    | some x => exact ⟨x.2, rfl⟩
  unfold put
  split
  · rename_i h
    rw [hmap]
    by_cases hjk : j = k
    · obtain ⟨x, hx⟩ := hany r h
      rw [if_pos hjk, if_pos hjk, hjk, hx]
      rfl
    · rw [if_neg hjk, if_neg hjk]
  · rename_i h
    exact hsnoc r ((Bool.not_eq_true _).mp h)
end Pm

set_option Elab.async false
set_option linter.all false
set_option maxRecDepth 100000
set_option maxHeartbeats 2000000
/-! A rule that the hand layer lacks: zip of a tuple and a list. -/
namespace Pc
open PySem PySem.Spec PyProof.Rows L2

/-- the tuple at a and the list at b as they stand at each turn, the items in new pairs -/
def ItzM (K : PySem.W.Frag) (a b : Addr) : It where
  go := fun i H => ∃ (xs ys : List V) (x y : V), (SqT K H a xs ∧ xs[i]? = some x) ∧ (SqL K H b ys ∧ ys[i]? = some y)
  yld := fun i H v H' => ∃ T x y, v = .ref T ∧ H T = none ∧ H' = upd H T (.tup [x, y]) ∧ (∀ xs, SqT K H a xs → xs[i]? = some x) ∧ (∀ ys, SqL K H b ys → ys[i]? = some y)
  stop := fun i H => ∃ (xs ys : List V), SqT K H a xs ∧ SqL K H b ys ∧ ((i = xs.length ∨ i = ys.length) ∧ i ≤ xs.length ∧ i ≤ ys.length)

def zmSt (z TI TO i1 i2 a b : Addr) (i : Nat) (h : Heap) : Prop :=
  (IsZip h z TI TO .none ∧ IsTupOf2 h TI (.ref i1) (.ref i2) ∧ ∃ x y, IsTupOf2 h TO x y) ∧ h.IsTupleIter i1 a i ∧ h.IsListIter i2 b i

theorem zm_mem {c z TI TO i1 i2 : Addr} (h : c ∈ [z, TI, TO, i1, i2]) : c = z ∨ c = TI ∨ c = TO ∨ c = i1 ∨ c = i2 := by simpa using h
theorem zm_out {c z TI TO i1 i2 : Addr} (h : c ∉ [z, TI, TO, i1, i2]) : c ≠ z ∧ c ≠ TO ∧ c ≠ i1 ∧ c ≠ i2 := by
  refine ⟨fun q => h ?_, fun q => h ?_, fun q => h ?_, fun q => h ?_⟩ <;> simp [q]

theorem turn_zipM {P : Program} {w : World} {K : PySem.W.Frag} {elts : List Expr} {kk : Nat} {tpos : Pos} {a b z TI TO i1 i2 : Addr} (Z : ZipSep2 z TI TO i1 i2 [i1, a] [i2, b]) (ha : a ≠ i1) (hb : b ≠ i2) :
    Turn P w K (.Tuple elts kk tpos) (ItzM K a b) [z, TI, TO, i1, i2] z (zmSt z TI TO i1 i2 a b) := by
  refine ⟨by simp, fun i h st c hc => ?_, fun i h h' st k => ?_, ?_, ?_, fun A i s Q E st h => wpAny_pyIter_zip st.1.1 h⟩
  · obtain ⟨⟨qz, qI, x, y, qO⟩, ⟨o1, e1, _, d1⟩, ⟨o2, e2, _, d2⟩⟩ := st
    rcases zm_mem hc with rfl | rfl | rfl | rfl | rfl
    · exact ⟨_, qz, fun v q => nomatch q⟩
    · exact ⟨_, qI, fun v q => nomatch q⟩
    · exact ⟨_, qO, fun v q => nomatch q⟩
    · exact ⟨o1, e1, fun v q => by rw [d1] at q; cases q⟩
    · exact ⟨o2, e2, fun v q => by rw [d2] at q; cases q⟩
  · obtain ⟨⟨qz, qI, x, y, qO⟩, q1, q2⟩ := st
    exact ⟨⟨k z (by simp) _ qz, k TI (by simp) _ qI, x, y, k TO (by simp) _ qO⟩, q1.at fun o q => k i1 (by simp) o q, q2.at fun o q => k i2 (by simp) o q⟩
  · rintro X rfl rfl rfl hc i pins s σ H E I hf ⟨⟨qz, qI, x0, y0, qO⟩, q1, q2⟩ ⟨xs, ys, x, y, ⟨sx, hx⟩, ⟨sy, hy⟩⟩
    obtain ⟨its, rv, p, _⟩ := I.tuple sx
    obtain ⟨jts, rw', p2, _⟩ := I.list sy
    obtain ⟨u, hu, ru⟩ := rv.get hx
    obtain ⟨u2, hu2, ru2⟩ := rw'.get hy
    have D1 := Draws.tuple (prog := X.prog) (w := X.w) (A := X.A.in1) (I.ok.hd hc) i1 a ha its.toArray
    have D2 := Draws.list (prog := X.prog) (w := X.w) (A := X.A.in1) (I.ok.hd hc) i2 b hb jts.toArray
    have l1 : i < its.toArray.size := by have := (List.getElem?_eq_some_iff.mp hu).1; simpa using this
    have l2 : i < jts.toArray.size := by have := (List.getElem?_eq_some_iff.mp hu2).1; simpa using this
    refine wpAny_pyNext_zipD2_item Z D1 D2 qz qI qO ⟨q1, p⟩ ⟨q2, p2.isList⟩ l1 l2 fun v1 v2 g tk e1 e2 gz gO g1 g2 gT gs gk => ?_
    have f1 : v1 = u := by
      have : its[i]? = some v1 := by simpa using e1
      exact Option.some.inj (this.symm.trans hu)
    have f2 : v2 = u2 := by
      have : jts[i]? = some v2 := by simpa using e2
      exact Option.some.inj (this.symm.trans hu2)
    subst f1 f2
    refine ⟨_, rfl, wpAny_letOwnedTupleGo_zip (s := { s with heap := g, toks := tk }) gz fun g' gz' sb => ?_⟩
    have gT' : g'.get? s.heap.objs.size = some { cls := .type "tuple", data := .seq #[v1, v2] } := (sb.2 _ (Nat.ne_of_gt (Heap.lt_size qz))).trans gT
    have fresh : H s.heap.objs.size = none := I.hok.fresh (Nat.le_refl _)
    have ok2 : ObjOk X.prog X.w (upd H s.heap.objs.size (.tup [x, y])) g' s.heap.objs.size (.tup [x, y]) := ⟨(by decide : 2 ≤ sizeLine), [v1, v2], .cons ru (.cons ru2 .nil), _, gT', rfl, _, rfl⟩
    have kp : ∀ c o, c ∉ [z, TI, TO, i1, i2] → s.heap.get? c = some o → g'.get? c = some o := fun c o hn q => by
      obtain ⟨n1, n2, n3, n4⟩ := zm_out hn
      exact (sb.2 c n1).trans (gk c o n1 n2 n3 n4 q)
    refine ⟨.ref s.heap.objs.size, _, I.turnedNew (t' := tk) kp hf (Nat.le_refl _) ok2, rfl, ⟨_, x, y, rfl, fresh, rfl, fun l hl => ?_, fun l hl => ?_⟩, ⟨⟨gz', ?_, v1, v2, ?_⟩, ?_, ?_⟩, fun c hcm => ?_⟩
    · rw [I.tuple_inj hl sx]; exact hx
    · rw [I.list_inj hl sy]; exact hy
    · exact (sb.2 _ Z.TIz).trans (gk _ _ Z.TIz Z.TITO Z.TIi1 Z.TIi2 qI)
    · exact (sb.2 _ Z.TOz).trans gO
    · exact g1.1.at fun o q => (sb.2 _ Z.zi1.symm).trans q
    · exact g2.1.at fun o q => (sb.2 _ Z.zi2.symm).trans q
    · have ne : c ≠ s.heap.objs.size := fun q => by
        obtain ⟨ob, eo, _⟩ : ∃ ob, s.heap.get? c = some ob ∧ True := by
          obtain ⟨o1, e1, _⟩ := q1
          obtain ⟨o2, e2, _⟩ := q2
          rcases zm_mem hcm with rfl | rfl | rfl | rfl | rfl
          · exact ⟨_, qz, trivial⟩
          · exact ⟨_, qI, trivial⟩
          · exact ⟨_, qO, trivial⟩
          · exact ⟨_, e1, trivial⟩
          · exact ⟨_, e2, trivial⟩
        exact absurd (Heap.lt_size eo) (by rw [q]; exact Nat.lt_irrefl _)
      rw [upd_ne ne]
      exact (hf c hcm).1
  · rintro X rfl rfl rfl hc i pins s σ H E I hf ⟨⟨qz, qI, x0, y0, qO⟩, q1, q2⟩ ⟨xs, ys, sx, sy, hend, le1, le2⟩
    obtain ⟨its, rv, p, _⟩ := I.tuple sx
    obtain ⟨jts, rw', p2, _⟩ := I.list sy
    have D1 := Draws.tuple (prog := X.prog) (w := X.w) (A := X.A.in1) (I.ok.hd hc) i1 a ha its.toArray
    have D2 := Draws.list (prog := X.prog) (w := X.w) (A := X.A.in1) (I.ok.hd hc) i2 b hb jts.toArray
    have z1 : its.toArray.size = xs.length := by rw [List.size_toArray, rv.length]
    have z2 : jts.toArray.size = ys.length := by rw [List.size_toArray, rw'.length]
    refine wpAny_pyNext_zipD2_end Z D1 D2 qz qI qO ⟨q1, p⟩ ⟨q2, p2.isList⟩ (by omega) (by omega) (by omega) fun g tk gk => ⟨rfl, I.turnedL (t' := tk) (fun c o hn q => ?_) hf⟩
    obtain ⟨n1, n2, n3, n4⟩ := zm_out hn
    exact gk c o n1 n2 n3 n4 q

theorem ne2 {a b c : Nat} (h1 : a ≠ b) (h2 : a ≠ c) : a ∉ ([b, c] : List Nat) := by
  intro h
  rcases List.mem_cons.mp h with z | z
  · exact h1 z
  · exact h2 (List.mem_singleton.mp z)
theorem zm_sep (n a b : Nat) (la : a < n) (lb : b < n) : ZipSep2 (n + 4) (n + 2) (n + 3) n (n + 1) [n, a] [n + 1, b] :=
  ⟨(by omega : (n + 2 : Nat) ≠ n + 4), (by omega : (n + 3 : Nat) ≠ n + 4), (by omega : (n + 2 : Nat) ≠ n + 3), (by omega : (n + 2 : Nat) ≠ n), List.mem_cons_self, ne2 (by omega) (by omega), ne2 (by omega) (by omega),
    (by omega : (n + 2 : Nat) ≠ n + 1), List.mem_cons_self, ne2 (by omega) (by omega), ne2 (by omega) (by omega), ne2 (by omega) (by omega), ne2 (by omega) (by omega)⟩
theorem zm_le {n c : Nat} (h : c = n + 4 ∨ c = n + 2 ∨ c = n + 3 ∨ c = n ∨ c = n + 1) : n ≤ c := by omega

def iZipM (K : PySem.W.Frag) (ta : TA) : TI := fun σ H R => ta σ H fun vs H1 => ∃ a b xs ys, vs = [.ref a, .ref b] ∧ SqT K H1 a xs ∧ SqL K H1 b ys ∧ R (ItzM K a b) H1
theorem pi_zipM {X : Cx} {e e2 : Expr} {ta : TA} {p pos tpos : Pos} {elts : List Expr} {kk : Nat} (hg : Gl X "zip") (hm : X.mg "zip" = none) (ha : PA X [e, e2] ta)
    (hs : starEach [e, e2] X.env = (false, eval e X.env) :: starEach [e2] X.env := by rfl) (hpl : (backTo pos (starEach [e2] X.env)).any (·.1) = false := by rfl) :
    PI X (.Tuple elts kk tpos) (.Call (.Name "zip" p) [e, e2] [] pos) (iZipM X.K ta) := by
  constructor
  intro pins s σ H R I h
  refine Call_ (ld_blt I hg hm PyProof.Rows.boot_zip (PyProof.Rows.callWith_type1 (thn (ha.run pos pins s σ H _ I h) fun us s1 ⟨vs, H1, I1, r1, a, b, xs, ys, ex, sx, sy, q⟩ => ?_) hs hpl))
  subst ex
  obtain ⟨u1, u2, rfl, e1, e2'⟩ := vals2 r1
  cases e1
  cases e2'
  obtain ⟨its, rv, p1, _⟩ := I1.tuple sx
  obtain ⟨jts, rw', p2, _⟩ := I1.list sy
  obtain ⟨oa, hoa, _⟩ := id p1
  have la : a < s1.heap.objs.size := Heap.lt_size hoa
  have lb : b < s1.heap.objs.size := p2.lt
  refine zip_begins2 (begins_tuple a its.toArray) (begins_list b jts.toArray) p1 p2.isList fun g gz gI gO g1 g2 gs gk => wpAny_pyIter_zip gz ?_
  have Z := zm_sep s1.heap.objs.size a b la lb
  refine ⟨_, [s1.heap.objs.size + 4, s1.heap.objs.size + 2, s1.heap.objs.size + 3, s1.heap.objs.size, s1.heap.objs.size + 1], _, _, H1, rfl, I1.kept (t' := s1.toks) gk, turn_zipM Z (Nat.ne_of_lt la) (Nat.ne_of_lt (Nat.lt_succ_of_lt lb)),
    ⟨⟨gz, gI, _, _, gO⟩, ⟨_, g1, rfl, rfl⟩, ⟨_, g2, rfl, rfl⟩⟩, fun c hcm => ?_, q⟩
  have hle : s1.heap.objs.size ≤ c := zm_le (zm_mem hcm)
  exact I1.fpOk hle (I1.hok.fresh hle)
end Pc

set_option Elab.async false
set_option linter.all false
set_option maxRecDepth 100000
set_option maxHeartbeats 4000000
/-! Rules that the hand layer lacks: sorted(d, reverse=True), list(reversed(l)). -/
namespace Pc
open PySem PySem.Spec PyProof.Rows L2

/-- sorted(d, reverse=True), d a dict whose keys are ints -/
def rSortedDR : List V → List V → Hp → VK → Prop := fun vs zs H Q => ∃ (a : Addr) (kvs : List (Key × V)) (ks : List Int), vs = [.ref a] ∧ zs = [.bl true] ∧ H a = some (.dK kvs) ∧ kvs.map (·.1) = ks.map Sum.inl ∧ ks.length ≤ 1000 ∧
  ∀ (ys : List Int) (p : Addr), ys.Perm ks → ys.Pairwise (· ≥ ·) → H p = none → Q (.ref p) (upd H p (.lst (ys.map V.int)))
theorem cr_sortedDR {X : Cx} (hcalm : X.calm = true) : CallRK X (.builtin "sorted") [Str.ofString "reverse"] rSortedDR := by
  intro pins s σ H vs zs us ws Q I r rz h
  obtain ⟨a, kvs, ks, rfl, rfl, hd, hks, h64, q⟩ := h
  obtain rfl := Vals.ref1 r
  obtain ⟨w1, rfl, ew⟩ := vals1 rz
  cases ew
  obtain ⟨z, lo, ds, rel, dd⟩ := dk_rd I.hok (.of hd)
  obtain ⟨ep, hat⟩ := dd.dictAt
  have hkeys : ds.map (·.1) = ks.map Sum.inl := rel.keys.symm.trans hks
  have hl : ds.length = ks.length := by simpa using congrArg List.length hkeys
  have hline : ds.length ≤ sizeLine := hl ▸ Nat.le_of_lt (small1000 h64)
  refine PyProof.Rows.call_function_entry_kw PyProof.Rows.kind_sorted PyProof.Rows.plain_sorted PyProof.Rows.entry_sorted (PyProof.Rows.args_sorted_rev _ _) ?_
  unfold Builtin.«sorted»
  refine wpAny_bind (m := checkCount "sorted" 1 1 _) (wpAny_pure (wpAny_bind (PySem.W.kdu_collect (A := X.A.in1) (PySem.W.kdl_dict (knd := mixKind X.prog X.w) (kvs := ds) (ep := ep) lo) (I.ok.hd hcalm) hat hline fun g tk acc hk hacc => ?_)))
  have hal : acc.toList.length = ks.length := by rw [Array.length_toList, hacc.1, hl]
  have hS : IntsAre acc.toList ks := ints_each hal fun j v e => by
    obtain ⟨k, x, e1, e2⟩ := hacc.2 j v (by rw [← Array.getElem?_toList]; exact e)
    have e3 : (ds.map (·.1))[j]? = some k := by rw [List.getElem?_map, e1]; rfl
    rw [hkeys, List.getElem?_map] at e3
    obtain ⟨y, ey, ek⟩ := Option.map_eq_some_iff.mp e3
    subst ek
    rcases keyIs_shape (show keyIs (Sum.inl y) v = true from e2) with ⟨i, t, ek, ev⟩ | ⟨_, _, ek, _⟩
    · cases ek
      exact ⟨y, t, ey, ev⟩
    · cases ek
  have I1 : Inv X pins σ H { s with heap := g, toks := tk } := I.kept hk
  have hz : acc.toList.length ≤ sizeLine := by rw [hal, ← hl]; exact hline
  refine wpAny_bind (wpAny_newList ?_ hz)
  have hoL : (g.push (seqObj "list" acc.toList.toArray 0)).get? g.objs.size = some (seqObj "list" acc.toList.toArray 0) := Heap.get?_push_size _ rfl
  show wpAny _ _ _ _ _ { s with heap := g.push (seqObj "list" acc.toList.toArray 0), toks := tk }
  refine wpAny_bind (wpAny_holding (PyProof.Rows.wpAny_call_entry_kw PyProof.Rows.slot_list_sort ⟨_, hoL, rfl⟩ PyProof.Rows.entry_list_sort (SrtR.list_sort_ordR (b := true) (s := { s with heap := g.push (seqObj "list" acc.toList.toArray 0), toks := tk }) SrtO.swo_int hoL hz (fun h2 => SrtO.ints_sortable hS h2)
    fun out h1 h2 => ⟨_, rfl, ?_⟩) (PyProof.Rows.args_list_sort_rev _ _)))
  obtain ⟨ns', k1, k2, k3⟩ := SrtR.ints_outR hS h1 h2
  obtain ⟨ep2, he'⟩ := PyProof.Rows.sortedHeap_at (vs := acc.toList) (out := out.toArray.reverse) hoL
  have hz2 : (ns'.map V.int).length ≤ sizeLine := by rw [List.length_map, k2.length_eq, ← hl]; exact hline
  refine wpAny_pure ⟨_, rfl, .ref g.objs.size, upd H g.objs.size (.lst (ns'.map V.int)), I1.laid (a := g.objs.size) (o := .lst (ns'.map V.int)) (t' := tk) (fun b u hb => ?_) (Nat.le_refl _) ⟨hz2, _, ep2, vals_of_ints k1, ?_⟩, rfl, q ns' _ k2 k3 (I1.hok.fresh (Nat.le_refl _))⟩
  · have hlt : b < g.objs.size := Heap.lt_size hb
    show (PyProof.Rows.sortedHeap (g.push (seqObj "list" acc.toList.toArray 0)) g.objs.size acc.toList out.toArray.reverse).get? b = some u
    have e1 : (g.push (seqObj "list" acc.toList.toArray 0)).get? b = some u := Heap.get?_push_of_some _ hb
    rw [PyProof.Rows.sortedHeap_old (Nat.ne_of_lt hlt) (Heap.lt_size e1)]
    exact e1
  · rw [if_pos rfl, Array.toArray_toList]
    exact he'

/-! ### list(reversed(l)) -/
section
variable {prog : Program} {w : World} {A : Around} {E : Value → Shared → Prop} {s : Shared} {S it l : Addr} {items : Array Value}
abbrev RevP (items : Array Value) : Nat → Value → Prop := fun i v => items[items.size - 1 - i]? = some v
theorem rev_into {R : Result → Shared → Prop} {res : Value} {c₀ : Nat} (hh : A.handled = none) (hit : s.heap.IsRevIter it l ((items.size : Int) - 1)) (hl : s.heap.IsList l items) (hne : l ≠ it) (hSi : S ≠ it) (hSl : S ≠ l) (hn : items.size ≤ sizeLine)
    (hS : s.heap.get? S = some { cls := .type "list", data := .seq #[] c₀ })
    (hR : ∀ (g : Heap) (tk : Nat) (acc : Array Value) (c : Nat), (∀ b o, b ≠ S → b ≠ it → s.heap.get? b = some o → g.get? b = some o) → g.get? S = some { cls := .type "list", dict := none, data := .seq acc c, slots := #[] } → ItemsOf (RevP items) acc items.size →
      R (.ok (.ret res)) { s with heap := g, toks := tk }) :
    wpAny (model prog w) A.in1 (Builtin.List.listExtendWith (.ref S) (.ref it) res)
      (fun fin s' => match fin with | .done f => R (.ok f) s' | .again c' => c'.quiet = true ∧ codeAny (model prog w) A c' R s') (fun e s' => R (.error e) s') s := by
  have W := (Walks.listRev (prog := prog) (w := w) (A := A.in1) hh it l hne items).toS
  have apart : S ∉ [it, l] := fun z => by
    rcases List.mem_cons.mp z with z | z
    · exact hSi z
    · exact hSl (List.mem_singleton.mp z)
  have other : Builtin.List.listSameRef (.ref S) (.ref it) = false := by simp [Builtin.List.listSameRef, hSi]
  have typ := hit.typeIs
  unfold Builtin.List.listExtendWith
  refine wpAny_bind (wpAny_typeOf typ ?_)
  rw [if_neg (by rw [other]; decide)]
  refine wpAny_bind (wpAny_pyIter_revIter hit (wpAny_bind (wpAny_holding ?_)))
  unfold Builtin.List.listLengthHint
  refine wpAny_bind (wpAny_specialOf typ RT.nolen_lri ?_)
  show wpAny _ A.in1 (specialOf (Value.ref it) (Str.ofString "__length_hint__") >>= _) _ _ _
  refine wpAny_bind (wpAny_specialOf typ RT.hint_lri ?_)
  generalize hid0 : ("list_reverseiterator.__length_hint__" : String) = idn
  wp_delta
  rw [show splitId idn = some ("list_reverseiterator", "__length_hint__") by subst hid0; decide +kernel]
  subst hid0
  refine wpAny_bind (wpAny_isInstance (b := true) typ (by rw [isSubtype_type]; kernel_rfl) (wpAny_pure ?_))
  rw [if_neg (by decide)]
  have e0 : ((items.size : Nat) : Int) - 1 - ((0 : Nat) : Int) = (items.size : Int) - 1 := by omega
  refine wpAny_pure ⟨plainId_quiet PySem.F.plain_extend_loop _, codeAny_extend_loopS W hn S apart res items.size 0 _ #[] c₀ rfl (Nat.zero_le _) ⟨Nat.zero_le _, by rw [e0]; exact hit, hl⟩ hS (ItemsOf.nil _) fun s' acc c' hm hS' hacc => ?_⟩
  rw [Moved.eq_with hm]
  refine hR s'.heap s'.toks acc c' (fun b o hb hb2 e => hm.heap b o (fun z => ?_) e) hS' hacc
  rcases List.mem_cons.mp z with z | z
  · exact hb z
  · exact hb2 (List.mem_singleton.mp z)
theorem call_list_rev {Q : Value → Shared → Prop} (hh : A.handled = none) (hit : s.heap.IsRevIter it l ((items.size : Int) - 1)) (hl : s.heap.IsList l items) (hne : l ≠ it) (hn : items.size ≤ sizeLine)
    (hQ : ∀ (g : Heap) (tk : Nat) (acc : Array Value) (c : Nat), (∀ b o, b ≠ it → s.heap.get? b = some o → g.get? b = some o) → g.get? s.heap.objs.size = some { cls := .type "list", dict := none, data := .seq acc c, slots := #[] } → ItemsOf (RevP items) acc items.size →
      Q (.ref s.heap.objs.size) { s with heap := g, toks := tk }) : wpAny (model prog w) A (call (.type "list") [.ref it]) Q E s := by
  refine callType_codes (Q₁ := fun obj s₁ => obj = .ref s.heap.objs.size ∧ s₁ = { s with heap := s.heap.push { cls := .type "list", data := .seq #[] } }) PySem.F.called_list (PySem.F.typeCall_list_1 _) PySem.F.entry_list_init (code_list_new _ ⟨rfl, rfl⟩) ?_
  rintro _ _ ⟨rfl, rfl⟩
  obtain ⟨oi, hoi, _⟩ := id hit
  obtain ⟨ol, hol, _⟩ := id hl
  have n1 : s.heap.objs.size ≠ it := Nat.ne_of_gt (Heap.lt_size hoi)
  have n2 : s.heap.objs.size ≠ l := Nat.ne_of_gt (Heap.lt_size hol)
  have hS : (s.heap.push { cls := .type "list", data := .seq #[] }).get? s.heap.objs.size = some { cls := .type "list", data := .seq #[] } := Heap.get?_push_size _ rfl
  refine ⟨⟨_, hS, rfl⟩, PySem.F.args_list_init_2 _ _, ?_⟩
  show wpAny _ _ (do let old ← Builtin.List.listItems (.ref s.heap.objs.size); Builtin.List.listUpdate (.ref s.heap.objs.size) (fun _ => #[]); letGo old.toList.reverse; Builtin.List.listExtendWith (.ref s.heap.objs.size) (.ref it) .none) _ _ _
  refine wpAny_bind ?_
  unfold Builtin.List.listItems
  refine wpAny_bind (wpAny_seqItems hS rfl (wpAny_pure ?_))
  show wpAny _ _ (updateSeq s.heap.objs.size (fun _ => #[]) >>= fun _ => letGo (#[] : Array Value).toList.reverse >>= fun _ => Builtin.List.listExtendWith (.ref s.heap.objs.size) (.ref it) .none) _ _ _
  refine wpAny_bind (wpAny_updateSeq hS rfl (wpAny_bind (wpAny_letGo ?_)))
  have kp : ∀ b o, b ≠ s.heap.objs.size → s.heap.get? b = some o → ((s.heap.push { cls := .type "list", data := .seq #[] }).update s.heap.objs.size (Obj.mapSeq fun _ => (#[] : Array Value))).get? b = some o :=
    fun b o hb e => (Heap.get?_update_other _ _ (Ne.symm hb)).trans (Heap.get?_push_of_some _ e)
  refine rev_into (A := A.in1) hh (hit.at fun o e => kp it o n1.symm e) (hl.at fun o e => kp l o n2.symm e) hne n1 n2 hn (Heap.get?_update_self (Obj.mapSeq fun _ => (#[] : Array Value)) hS rfl) fun g tk acc c hk hS' hacc => ?_
  exact ⟨rfl, hQ g tk acc c (fun b o hb e => hk b o (Nat.ne_of_lt (Heap.lt_size e)) hb (kp b o (Nat.ne_of_lt (Heap.lt_size e)) e)) hS' hacc⟩
end
def tListRev (K : PySem.W.Frag) (te : TE) : TE := fun σ H Q => te σ H fun v H1 => ∃ (a : Addr) (xs : List V), v = .ref a ∧ SqL K H1 a xs ∧ ∀ q, H1 q = none → Q (.ref q) (upd H1 q (.lst xs.reverse))
theorem pe_listRev {X : Cx} {e : Expr} {te : TE} {p p2 pos pos2 : Pos} (hc : X.calm = true) (hg : Gl X "list") (hm : X.mg "list" = none) (hg2 : Gl X "reversed") (hm2 : X.mg "reversed" = none) (he : PE X e te)
    (hs : starEach [e] X.env = (false, eval e X.env) :: starEach [] X.env := by rfl)
    (hs2 : starEach [.Call (.Name "reversed" p2) [e] [] pos2] X.env = (false, eval (.Call (.Name "reversed" p2) [e] [] pos2) X.env) :: starEach [] X.env := by rfl) :
    PE X (.Call (.Name "list" p) [.Call (.Name "reversed" p2) [e] [] pos2] [] pos) (tListRev X.K te) := by
  constructor
  intro pins s σ H Q I h
  refine Call_ (ld_blt I hg hm (by decide +kernel : bootBuiltins "list" = some (.type "list")) (PyProof.Rows.callWith_type1 (args_cons (Call_ (ld_blt I hg2 hm2 PyProof.Rows.boot_reversed (PyProof.Rows.callWith_type1 (args_cons (thn (he.run pins s σ H _ I h) fun u s1 ⟨v, H1, I1, r1, a, xs, ev, hq, q⟩ => args_nil ?_) hs) hs rfl))) hs2) hs2 rfl))
  subst ev
  cases r1
  obtain ⟨its, rv, p', hz⟩ := I1.list hq
  have pl := p'.isList
  refine call_reversed_list pl (args_nil ?_)
  have I2 : Inv X pins σ H1 { s1 with heap := s1.heap.push (revObj a ((its.toArray.size : Int) - 1)) } := I1.kept (t' := s1.toks) fun b o e => Heap.get?_push_of_some _ e
  obtain ⟨f0, f1, f2, f3, f4, f5⟩ := I1.fpOk (H' := H1) (b := s1.heap.objs.size) (Nat.le_refl _) (I1.hok.fresh (Nat.le_refl _))
  obtain ⟨ol, hol, _⟩ := id pl
  have hline : its.toArray.size ≤ sizeLine := by rw [List.size_toArray, ← rv.length]; exact hz
  refine call_list_rev (s := { s1 with heap := s1.heap.push (revObj a ((its.toArray.size : Int) - 1)) }) (I1.ok.hd hc) ⟨_, Heap.get?_push_size _ rfl, rfl, rfl⟩ (pl.push _) (Nat.ne_of_lt (Heap.lt_size hol)) hline fun g tk acc c hk hS hi => ?_
  have hz' : (xs.reverse).length ≤ sizeLine := by rw [List.length_reverse]; exact hz
  have ok2 : ObjOk X.prog X.w (upd H1 (s1.heap.push (revObj a ((its.toArray.size : Int) - 1))).objs.size (.lst xs.reverse)) g (s1.heap.push (revObj a ((its.toArray.size : Int) - 1))).objs.size (.lst xs.reverse) :=
    ⟨hz', acc.toList, c, RT.vals_rev rv hi, by rw [Array.toArray_toList]; exact hS⟩
  refine ⟨.ref _, _, I2.turnedNew (t' := tk) (ch := [s1.heap.objs.size]) (fun b o hb e => hk b o (fun z => hb (by simp [z])) e) (fun b hb => ?_) (Nat.le_refl _) ok2, rfl, q _ (I2.hok.fresh (Nat.le_refl _))⟩
  rw [List.mem_singleton.mp hb]
  exact ⟨f0, f1, f2, f3, f4, f5⟩
end Pc

set_option Elab.async false
set_option linter.all false
set_option maxRecDepth 100000
set_option maxHeartbeats 4000000
/-! numbers, cases: each def hands back the mirror's value. -/
namespace Pc
open PySem PySem.Spec PyProof.Rows L2 Pm

def tD (t : T3) : D := .tup [.int t.1, .int t.2.1, .int t.2.2]
def termsD (ts : List T3) : D := .lst (ts.map tD)
def caseD (c : List P2) : D := .lst (c.map pairD)
def isW : D → Bool
  | .int _ => true
  | _ => false
def stepD : Pm.Step → D
  | .low => .tup [.str "low"]
  | .high => .tup [.str "high"]
  | .rest m => .tup [.str "rest", .int m]
  | .part k a => .tup [.str "part", .int (k : Int), .int a]
def optStepD : Option Pm.Step → D
  | none => .non
  | some s => stepD s
/-- terms whose times fit -/
def TOk (ts : List T3) : Prop := ts.length ≤ 100 ∧ ∀ t ∈ ts, 0 < t.1 ∧ t.1 < 2 ^ 64

def R_is_whole : List D → D → Prop := fun ds d => ∃ x, tyD x ≠ none ∧ ds = [x] ∧ d = .bl (isW x)
def R_divisor : List D → D → Prop := fun ds d => ∃ a b : Int, ds = [.int a, .int b] ∧ d = .int (Int.gcd a b)
def R_divisor_of : List D → D → Prop := fun ds d => ∃ ns : List Int, ds = [.lst (ns.map D.int)] ∧ d = .int (gcdL ns)
def R_whole_case : List D → D → Prop := fun ds d => ∃ ts : List T3, ts.length ≤ 100 ∧ ds = [termsD ts] ∧ d = caseD (wholeCase ts)
def R_least_sum : List D → D → Prop := fun ds d => ∃ ts c, TOk ts ∧ ds = [termsD ts, caseD c] ∧ d = .int (leastSum ts c)
def R_greatest_sum : List D → D → Prop := fun ds d => ∃ ts c, TOk ts ∧ ds = [termsD ts, caseD c] ∧ d = .int (greatestSum ts c)
def R_rest_of : List D → D → Prop := fun ds d => ∃ ts c, TOk ts ∧ ds = [termsD ts, caseD c] ∧ d = .int (restOf ts c)
def R_end_of : List D → D → Prop := fun ds d => ∃ ts g c, TOk ts ∧ ds = [termsD ts, .int g, caseD c] ∧ d = optStepD (endOf ts g c)

section
variable {P : Program} {w : World} {K : PySem.W.Frag} {mg : Str → Option Value} {base : Heap}

theorem ok_is_whole (T : Txt mg) {f : Addr} {fd : FuncData} (F : Fun K "is_whole" "is_whole" s_is_whole f fd) : FnOk P w K mg base CX0 1 f fd ["thing"] (spP R_is_whole) := by
  refine ok_of F sc_is_whole (fun ds d h => ?_) (by decide) fun cdv A outer s H E hr => ⟨_, (pss_one (ps_ret (pe_and (pe_callB call_isi (by rfl) T.zisinstance (by decide +kernel) (pa_cons (pv 0) (pa_cons (pe_bltn (v := .ty "int") (by rfl) T.zint (by decide +kernel) rfl) pa_nil))) (pe_one (pe_not (pe_callB call_isi (by rfl) T.zisinstance (by decide +kernel) (pa_cons (pv 0) (pa_cons (pe_bltn (v := .ty "bool") (by rfl) T.zbool (by decide +kernel) rfl) pa_nil)))))))), fun L ds d Q h k => ?_⟩
  · obtain ⟨x, _, rfl, _⟩ := h; rfl
  · obtain ⟨x, hx, rfl, rfl⟩ := h
    obtain ⟨T1, eT⟩ := Option.ne_none_iff_exists'.mp hx
    have e : ∃ b1 b2, kitB T1 "int" = some b1 ∧ kitB T1 "bool" = some b2 ∧ (b1 && !b2) = isW x := by
      cases x <;> cases eT <;> first
        | exact ⟨true, false, by decide +kernel, by decide +kernel, rfl⟩
        | exact ⟨true, true, by decide +kernel, by decide +kernel, rfl⟩
        | exact ⟨false, false, by decide +kernel, by decide +kernel, rfl⟩
    obtain ⟨b1, b2, h1, h2, h3⟩ := e
    refine s_ret (d := .bl (isW x)) (Ev.of (ev_andV (ev_isi eT h1 (ev_var rfl)) fun _ => ev_notV (ev_isi eT h2 (ev_var rfl))) (by rw [h3])) k

theorem gcd_step (a b : Int) (ha : 0 ≤ a) (hb : 0 < b) : Int.gcd b (a % b) = Int.gcd a b := by
  obtain ⟨n, rfl⟩ := Int.eq_ofNat_of_zero_le ha
  obtain ⟨m, rfl⟩ := Int.eq_ofNat_of_zero_le (show 0 ≤ b by omega)
  rw [← Int.natCast_emod]
  show Nat.gcd m (n % m) = Nat.gcd n m
  rw [Nat.gcd_comm n m, Nat.gcd_rec m n, Nat.gcd_comm]
theorem ok_divisor (T : Txt mg) {f : Addr} {fd : FuncData} (F : Fun K "divisor" "divisor" s_divisor f fd) : FnOk P w K mg base CX0 1 f fd ["one", "other"] (spP R_divisor) := by
  refine ok_of F sc_divisor (fun ds d h => ?_) (by decide) fun cdv A outer s H E hr => ⟨_, (pss_cons (ps_set (i := 0) sc_divisor.nd rfl (Or.inl rfl) (pe_callB call_abs (by rfl) T.zabs (by decide +kernel) (pa_cons (pv 0) pa_nil)))
    (pss_cons (ps_set (i := 1) sc_divisor.nd rfl (Or.inl rfl) (pe_callB call_abs (by rfl) T.zabs (by decide +kernel) (pa_cons (pv 1) pa_nil)))
    (pss_cons (ps_while PassesOwn.never (pt_cmpR op_gt (pv 1) pe_int (nomark _)) (pss_one (ps_par (i := 0) (j := 1) rfl sc_divisor.nd rfl rfl (by decide) rfl rfl (pa_cons (pv 1) (pa_cons (pe_op op_mod (pv 0) (pv 1)) pa_nil)) (by rfl))))
    (pss_one (ps_ret (pv 0)))))), fun L ds d Q h k => ?_⟩
  · obtain ⟨a, b, rfl, _⟩ := h; rfl
  · obtain ⟨a, b, rfl, rfl⟩ := h
    refine q_set (ev_cb1 (ea_cons (ev_var rfl) ea_nil)) (q_set (ev_cb1 (ea_cons (ev_var rfl) ea_nil)) ?_)
    refine q_while (α := Int × Int) (fun _ => []) (fun p => [.d (.int p.1), .d (.int p.2)]) (fun p => 0 ≤ p.1 ∧ 0 ≤ p.2 ∧ Int.gcd p.1 p.2 = Int.gcd a b) (fun p => p.2.toNat) (if a < 0 then -a else a, if b < 0 then -b else b) ?_ rfl (Wk.refl _) ?_
    · refine ⟨by show 0 ≤ (if a < 0 then -a else a); split <;> omega, by show 0 ≤ (if b < 0 then -b else b); split <;> omega, ?_⟩
      show Int.gcd (if a < 0 then -a else a) (if b < 0 then -b else b) = Int.gcd a b
      split <;> split <;> simp
    · rintro ⟨x, y⟩ ⟨h1, h2, h3⟩
      refine ⟨_, et_test (ev_gt (ev_var rfl) ev_int), fun hb N hN => ?_, fun hb => ?_⟩
      · have hy : 0 < y := of_decide_eq_true hb
        refine s_par (ea_cons (ev_var rfl) (ea_cons (ev_mod hy (ev_var rfl) (ev_var rfl)) ea_nil)) ?_
        refine hN (y, x % y) ⟨h2, Int.emod_nonneg x (by omega), by rw [gcd_step x y h1 hy]; exact h3⟩ ?_ _ (Wk.refl _)
        have := Int.emod_lt_of_pos x hy
        have := Int.emod_nonneg x (show y ≠ 0 by omega)
        show (x % y).toNat < y.toNat
        omega
      · have hy : ¬ 0 < y := of_decide_eq_false hb
        have hy0 : y = 0 := by have : 0 ≤ y := h2; omega
        subst hy0
        refine s_ret (d := .int (Int.gcd a b)) (Ev.of (ev_var rfl) ?_) k
        rw [← h3, Int.gcd_zero_right]
        congr 1
        have : 0 ≤ x := h1
        omega

theorem ok_divisor_of (T : Txt mg) (C_divisor : Fn P w K mg base 1 "divisor" ["one", "other"] (spP R_divisor)) {f : Addr} {fd : FuncData} (F : Fun K "divisor_of" "divisor_of" s_divisor_of f fd) :
    FnOk P w K mg base CX0 2 f fd ["numbers"] (spP R_divisor_of) := by
  refine ok_of F sc_divisor_of (fun ds d h => ?_) (by decide) fun cdv A outer s H E hr => ⟨_, (pss_cons (ps_set (i := 1) sc_divisor_of.nd rfl (Or.inl rfl) pe_int)
    (pss_cons (ps_for PassesOwn.never rfl (pi_list (pv 0)) (pg_name (i := 2) sc_divisor_of.nd rfl (Or.inl rfl)) (pss_one (ps_set (i := 1) sc_divisor_of.nd rfl (Or.inl rfl) (pe_fn C_divisor (hr.mono (by decide)) (by rfl) (pa_cons (pv 1) (pa_cons (pv 2) pa_nil))))))
    (pss_one (ps_ret (pv 1))))), fun L ds d Q h k => ?_⟩
  · obtain ⟨ns, rfl, _⟩ := h; rfl
  · obtain ⟨ns, rfl, rfl⟩ := h
    refine q_set ev_int ?_
    refine q_for (α := Int) (fd_list (ds := ns.map D.int) (ev_var rfl)) (fun _ => []) (fun x => [.d (.lst (ns.map D.int)), .d (.int x), .no]) (fun i x => x = gcdL (ns.take i)) 0 rfl rfl (Wk.refl _) ?_ ?_
    · intro B hB i d x hd hx
      rw [List.getElem?_map] at hd
      cases e : ns[i]? with
      | none => rw [e] at hd; cases hd
      | some n =>
        rw [e] at hd
        cases hd
        refine ⟨_, [2], as_name (by decide), fun N hN => ?_⟩
        refine s_set (ev_call (R := R_divisor) (d := .int (Int.gcd x n)) ⟨x, n, rfl, rfl⟩ (ea_cons (ev_var rfl) (ea_cons (ev_var rfl) ea_nil))) ?_
        refine hN _ ?_ _ (.keep (.keep (.drop .nil)))
        rw [List.take_add_one, e, hx]
        show _ = gcdL (ns.take i ++ [n])
        unfold gcdL
        rw [List.foldl_append]
        rfl
    · rintro x hx
      refine s_ret (d := .int (gcdL ns)) (Ev.of (ev_var rfl) ?_) k
      rw [hx, List.length_map, List.take_of_length_le (Nat.le_refl _)]
end
end Pc

set_option Elab.async false
set_option linter.all false
set_option maxRecDepth 100000
set_option maxHeartbeats 4000000
/-! cases. -/
namespace Pc
open PySem PySem.Spec PyProof.Rows L2 Pm

theorem zip_tc (ts : List T3) (c : List P2) : zipD (ts.map tD) (c.map pairD) = (ts.zip c).map fun p => D.tup [tD p.1, pairD p.2] := by
  unfold zipD
  rw [List.zip_map, List.map_map]
  rfl
theorem zip_le (ts : List T3) (c : List P2) (h : ts.length ≤ 100) : (ts.zip c).length ≤ 1000 := by
  rw [List.length_zip]
  omega
theorem fd_of {H0 : Hp} {L0 : List Addr} {ms : List (Addr × Mu)} {es : List En} {wi : TI} {a b : List D} (h : Fd H0 L0 ms es wi a) (e : a = b) : Fd H0 L0 ms es wi b := e ▸ h
theorem atI0 {α : Type} {x : α} {xs : List α} : atI (x :: xs) 0 = some x := by
  unfold atI ixN
  rw [if_pos (by decide), if_pos (by rw [List.length_cons]; omega)]
  rfl
theorem atI1 {α : Type} {x y : α} {xs : List α} : atI (x :: y :: xs) 1 = some y := by
  unfold atI ixN
  rw [if_pos (by decide), if_pos (by rw [List.length_cons, List.length_cons]; omega)]
  rfl
theorem atI2 {α : Type} {x y z : α} {xs : List α} : atI (x :: y :: z :: xs) 2 = some z := by
  unfold atI ixN
  rw [if_pos (by decide), if_pos (by rw [List.length_cons, List.length_cons, List.length_cons]; omega)]
  rfl
theorem zip_mem {ts : List T3} {c : List P2} {p : T3 × P2} (h : p ∈ ts.zip c) : p.1 ∈ ts := (List.of_mem_zip h).1
theorem fits {ts : List T3} (h : TOk ts) {t : T3} (ht : t ∈ ts) : -(2 ^ 64) < t.1 ∧ t.1 < 2 ^ 64 := by
  have := h.2 t ht
  omega

section
variable {P : Program} {w : World} {K : PySem.W.Frag} {mg : Str → Option Value} {base : Heap}

theorem ok_whole_case (T : Txt mg) {f : Addr} {fd : FuncData} (F : Fun K "whole_case" "whole_case" s_whole_case f fd) : FnOk P w K mg base CX0 1 f fd ["terms"] (spP R_whole_case) := by
  refine ok_of F sc_whole_case (fun ds d h => ?_) (by decide) fun cdv A outer s H E hr => ⟨_, (pss_one (ps_ret (pe_lc (own := [("times", 1), ("low", 2), ("high", 3)]) (g := (gTup K 3 (gCons (gName 1) (gCons (gName 2) (gCons (gName 3) gNil))))) (tt := tYes) rfl sc_whole_case.nd (pi_list (pv 0)) (blkOk_by (own := [("times", 1), ("low", 2), ("high", 3)]) (N := N_whole_case) (sc := defScope s_whole_case) (by decide +kernel)) (fun _ _ _ _ _ => (pg_tup rfl (pgs_cons (pg_name (i := 1) sc_whole_case.nd rfl (Or.inl rfl)) (pgs_cons (pg_name (i := 2) sc_whole_case.nd rfl (Or.inl rfl)) (pgs_cons (pg_name (i := 3) sc_whole_case.nd rfl (Or.inl rfl)) pgs_nil))))) (fun _ _ _ _ _ => pts_nil) (fun _ _ _ _ _ => (pe_tup (pa_cons (pv 2) (pa_cons (pv 3) pa_nil))))))), fun L ds d Q h k => ?_⟩
  · obtain ⟨ts, _, rfl, _⟩ := h; rfl
  · obtain ⟨ts, hl, rfl, rfl⟩ := h
    refine s_ret (EvN.ev (ds := (wholeCase ts).map pairD) ?_) k
    unfold wholeCase
    rw [List.map_map]
    refine en_map ts tD (pairD ∘ fun t => (t.2.1, t.2.2)) (fd_list (ev_var rfl)) (by omega) rfl fun B Dl acc hB t ht => ⟨_, as_tup rfl (asl_cons (as_name (by decide)) (asl_cons (as_name (by decide)) (asl_cons (as_name (by decide)) asl_nil))), ?_⟩
    exact ev_tup (ea_cons (ev_var rfl) (ea_cons (ev_var rfl) ea_nil))

theorem ok_least_sum (T : Txt mg) {f : Addr} {fd : FuncData} (F : Fun K "least_sum" "least_sum" s_least_sum f fd) : FnOk P w K mg base CX0 1 f fd ["terms", "case"] (spP R_least_sum) := by
  refine ok_of F sc_least_sum (fun ds d h => ?_) (by decide) fun cdv A outer s H E hr => ⟨_, (pss_one (ps_ret (pe_callB (cr_sum rfl) (by rfl) T.zsum (by decide +kernel) (pa_cons (pe_lc (own := [("term", 2), ("low", 3), ("high", 4)]) (g := (gTup K 2 (gCons (gName 2) (gCons (gTup K 2 (gCons (gName 3) (gCons (gName 4) gNil))) gNil)))) (tt := tYes) rfl sc_least_sum.nd (pi_zip (by rfl) T.zzip (pa_cons (pv 0) (pa_cons (pv 1) pa_nil))) (blkOk_by (own := [("term", 2), ("low", 3), ("high", 4)]) (N := N_least_sum) (sc := defScope s_least_sum) (by decide +kernel)) (fun _ _ _ _ _ => (pg_tup rfl (pgs_cons (pg_name (i := 2) sc_least_sum.nd rfl (Or.inl rfl)) (pgs_cons (pg_tup rfl (pgs_cons (pg_name (i := 3) sc_least_sum.nd rfl (Or.inl rfl)) (pgs_cons (pg_name (i := 4) sc_least_sum.nd rfl (Or.inl rfl)) pgs_nil))) pgs_nil)))) (fun _ _ _ _ _ => pts_nil) (fun _ _ _ _ _ => (pe_op op_mul (pe_ix (ixT (K := K)) (pv 2) pe_int (fun _ _ => rfl)) (pv 3)))) pa_nil)))), fun L ds d Q h k => ?_⟩
  · obtain ⟨ts, c, _, rfl, _⟩ := h; rfl
  · obtain ⟨ts, c, hT, rfl, rfl⟩ := h
    refine s_ret (ev_sum (ns := (ts.zip c).map fun (p : T3 × P2) => p.1.1 * p.2.1) (ea_cons (EvN.ev ?_) ea_nil)) k
    rw [List.map_map]
    refine en_map (ts.zip c) (fun p => .tup [tD p.1, pairD p.2]) _ (fd_of (fd_zip (ea_cons (ev_var rfl) (ea_cons (ev_var rfl) ea_nil))) (zip_tc ts c)) (zip_le ts c hT.1) rfl fun B Dl acc hB p hp => ⟨_, as_tup rfl (asl_cons (as_name (by decide)) (asl_cons (as_tup rfl (asl_cons (as_name (by decide)) (asl_cons (as_name (by decide)) asl_nil))) asl_nil)), ?_⟩
    exact ev_mul (.inl (fits hT (zip_mem hp))) (ev_ixT atI0 (ev_var rfl) ev_int) (ev_var rfl)

theorem ok_greatest_sum (T : Txt mg) {f : Addr} {fd : FuncData} (F : Fun K "greatest_sum" "greatest_sum" s_greatest_sum f fd) : FnOk P w K mg base CX0 1 f fd ["terms", "case"] (spP R_greatest_sum) := by
  refine ok_of F sc_greatest_sum (fun ds d h => ?_) (by decide) fun cdv A outer s H E hr => ⟨_, (pss_one (ps_ret (pe_callB (cr_sum rfl) (by rfl) T.zsum (by decide +kernel) (pa_cons (pe_lc (own := [("term", 2), ("low", 3), ("high", 4)]) (g := (gTup K 2 (gCons (gName 2) (gCons (gTup K 2 (gCons (gName 3) (gCons (gName 4) gNil))) gNil)))) (tt := tYes) rfl sc_greatest_sum.nd (pi_zip (by rfl) T.zzip (pa_cons (pv 0) (pa_cons (pv 1) pa_nil))) (blkOk_by (own := [("term", 2), ("low", 3), ("high", 4)]) (N := N_greatest_sum) (sc := defScope s_greatest_sum) (by decide +kernel)) (fun _ _ _ _ _ => (pg_tup rfl (pgs_cons (pg_name (i := 2) sc_greatest_sum.nd rfl (Or.inl rfl)) (pgs_cons (pg_tup rfl (pgs_cons (pg_name (i := 3) sc_greatest_sum.nd rfl (Or.inl rfl)) (pgs_cons (pg_name (i := 4) sc_greatest_sum.nd rfl (Or.inl rfl)) pgs_nil))) pgs_nil)))) (fun _ _ _ _ _ => pts_nil) (fun _ _ _ _ _ => (pe_op op_mul (pe_ix (ixT (K := K)) (pv 2) pe_int (fun _ _ => rfl)) (pv 4)))) pa_nil)))), fun L ds d Q h k => ?_⟩
  · obtain ⟨ts, c, _, rfl, _⟩ := h; rfl
  · obtain ⟨ts, c, hT, rfl, rfl⟩ := h
    refine s_ret (ev_sum (ns := (ts.zip c).map fun (p : T3 × P2) => p.1.1 * p.2.2) (ea_cons (EvN.ev ?_) ea_nil)) k
    rw [List.map_map]
    refine en_map (ts.zip c) (fun p => .tup [tD p.1, pairD p.2]) _ (fd_of (fd_zip (ea_cons (ev_var rfl) (ea_cons (ev_var rfl) ea_nil))) (zip_tc ts c)) (zip_le ts c hT.1) rfl fun B Dl acc hB p hp => ⟨_, as_tup rfl (asl_cons (as_name (by decide)) (asl_cons (as_tup rfl (asl_cons (as_name (by decide)) (asl_cons (as_name (by decide)) asl_nil))) asl_nil)), ?_⟩
    exact ev_mul (.inl (fits hT (zip_mem hp))) (ev_ixT atI0 (ev_var rfl) ev_int) (ev_var rfl)

theorem ok_rest_of (T : Txt mg) (C_divisor_of : Fn P w K mg base 2 "divisor_of" ["numbers"] (spP R_divisor_of)) {f : Addr} {fd : FuncData} (F : Fun K "rest_of" "rest_of" s_rest_of f fd) : FnOk P w K mg base CX0 3 f fd ["terms", "case"] (spP R_rest_of) := by
  refine ok_of F sc_rest_of (fun ds d h => ?_) (by decide) fun cdv A outer s H E hr => ⟨_, (pss_one (ps_ret (pe_fn C_divisor_of (hr.mono (by decide)) (by rfl) (pa_cons (pe_lc (own := [("term", 2), ("low", 3), ("high", 4)]) (g := (gTup K 2 (gCons (gName 2) (gCons (gTup K 2 (gCons (gName 3) (gCons (gName 4) gNil))) gNil)))) rfl sc_rest_of.nd (pi_zip (by rfl) T.zzip (pa_cons (pv 0) (pa_cons (pv 1) pa_nil))) (blkOk_by (own := [("term", 2), ("low", 3), ("high", 4)]) (N := N_rest_of) (sc := defScope s_rest_of) (by decide +kernel)) (fun _ _ _ _ _ => (pg_tup rfl (pgs_cons (pg_name (i := 2) sc_rest_of.nd rfl (Or.inl rfl)) (pgs_cons (pg_tup rfl (pgs_cons (pg_name (i := 3) sc_rest_of.nd rfl (Or.inl rfl)) (pgs_cons (pg_name (i := 4) sc_rest_of.nd rfl (Or.inl rfl)) pgs_nil))) pgs_nil)))) (fun _ _ _ _ _ => (pts_one (pt_cmpR op_lt (pv 3) (pv 4) (nomark _)))) (fun _ _ _ _ _ => (pe_ix (ixT (K := K)) (pv 2) pe_int (fun _ _ => rfl)))) pa_nil)))), fun L ds d Q h k => ?_⟩
  · obtain ⟨ts, c, _, rfl, _⟩ := h; rfl
  · obtain ⟨ts, c, hT, rfl, rfl⟩ := h
    refine s_ret (ev_call (R := R_divisor_of) ⟨((ts.zip c).filter fun (p : T3 × P2) => decide (p.2.1 < p.2.2)).map fun (p : T3 × P2) => p.1.1, rfl, rfl⟩ (ea_cons (EvN.ev ?_) ea_nil)) k
    have hF : ((((ts.zip c).filter fun p => decide (p.2.1 < p.2.2)).map fun p => p.1.1).map D.int) = (ts.zip c).filterMap fun p => if decide (p.2.1 < p.2.2) = true then some (D.int p.1.1) else none := by
      rw [List.map_map]
      induction ts.zip c with
      | nil => rfl
      | cons p r ih =>
        rw [List.filter_cons, List.filterMap_cons]
        by_cases hb : decide (p.2.1 < p.2.2) = true
        · rw [if_pos hb, if_pos hb, List.map_cons, ih]
          rfl
        · rw [if_neg hb, if_neg hb, ih]
    rw [hF]
    refine en_lc (ts.zip c) (fun p => .tup [tD p.1, pairD p.2]) _ (fd_of (fd_zip (ea_cons (ev_var rfl) (ea_cons (ev_var rfl) ea_nil))) (zip_tc ts c)) (zip_le ts c hT.1) rfl fun B Dl acc hB p hp => ⟨_, as_tup rfl (asl_cons (as_name (by decide)) (asl_cons (as_tup rfl (asl_cons (as_name (by decide)) (asl_cons (as_name (by decide)) asl_nil))) asl_nil)), fun hn => ?_, fun y hy => ?_⟩
    · refine EvT.of (et_test (ev_lt (ev_var rfl) (ev_var rfl))) ?_
      by_cases hb : decide (p.2.1 < p.2.2) = true
      · rw [if_pos hb] at hn; cases hn
      · exact Bool.not_eq_true _ ▸ hb
    · by_cases hb : decide (p.2.1 < p.2.2) = true
      · rw [if_pos hb] at hy
        cases hy
        exact ⟨EvT.of (et_test (ev_lt (ev_var rfl) (ev_var rfl))) hb, ev_ixT atI0 (ev_var rfl) ev_int⟩
      · rw [if_neg hb] at hy; cases hy

theorem ok_end_of (T : Txt mg) (C_least_sum : Fn P w K mg base 1 "least_sum" ["terms", "case"] (spP R_least_sum)) (C_greatest_sum : Fn P w K mg base 1 "greatest_sum" ["terms", "case"] (spP R_greatest_sum)) (C_rest_of : Fn P w K mg base 3 "rest_of" ["terms", "case"] (spP R_rest_of))
    {f : Addr} {fd : FuncData} (F : Fun K "end_of" "end_of" s_end_of f fd) : FnOk P w K mg base CX0 4 f fd ["terms", "goal", "case"] (spP R_end_of) := by
  refine ok_of F sc_end_of (fun ds d h => ?_) (by decide) fun cdv A outer s H E hr => ⟨_, (pss_cons (ps_set (i := 3) sc_end_of.nd rfl (Or.inl rfl) (pe_fn C_least_sum (hr.mono (by decide)) (by rfl) (pa_cons (pv 0) (pa_cons (pv 2) pa_nil))))
    (pss_cons (ps_if (pt_cmpR op_gt (pv 3) (pv 1) (nomark _)) (pss_one (ps_ret (pe_tup (pa_cons pe_str pa_nil)))) pss_nil)
    (pss_cons (ps_if (pt_cmpR op_lt (pe_fn C_greatest_sum (hr.mono (by decide)) (by rfl) (pa_cons (pv 0) (pa_cons (pv 2) pa_nil))) (pv 1) (nomark _)) (pss_one (ps_ret (pe_tup (pa_cons pe_str pa_nil)))) pss_nil)
    (pss_cons (ps_set (i := 4) sc_end_of.nd rfl (Or.inl rfl) (pe_fn C_rest_of (hr.mono (by decide)) (by rfl) (pa_cons (pv 0) (pa_cons (pv 2) pa_nil))))
    (pss_cons (ps_if (PW.pt (pw_and (pt_cmpR op_gt (pv 4) pe_int (nomark _)) (pw_and1 (pt_cmpR op_ne (pe_op op_mod (pe_op op_sub (pv 1) (pv 3)) (pv 4)) pe_int (nomark _))))) (pss_one (ps_ret (pe_tup (pa_cons pe_str (pa_cons (pv 4) pa_nil))))) pss_nil)
    (pss_one (ps_ret pe_non))))))), fun L ds d Q h k => ?_⟩
  · obtain ⟨ts, g, c, _, rfl, _⟩ := h; rfl
  · obtain ⟨ts, g, c, hT, rfl, rfl⟩ := h
    refine q_set (ev_call (R := R_least_sum) ⟨ts, c, hT, rfl, rfl⟩ (ea_cons (ev_var rfl) (ea_cons (ev_var rfl) ea_nil))) ?_
    refine q_when (et_test (ev_gt (ev_var rfl) (ev_var rfl))) (fun hb => ?_) fun hb => ?_
    · have e : endOf ts g c = some .low := if_pos (of_decide_eq_true hb)
      rw [e] at k
      exact s_ret (ev_tup (ea_cons ev_str ea_nil)) k
    have n1 : ¬ g < leastSum ts c := of_decide_eq_false hb
    refine q_when (et_test (ev_lt (ev_call (R := R_greatest_sum) ⟨ts, c, hT, rfl, rfl⟩ (ea_cons (ev_var rfl) (ea_cons (ev_var rfl) ea_nil))) (ev_var rfl))) (fun hb => ?_) fun hb => ?_
    · have e : endOf ts g c = some .high := by unfold endOf; rw [if_neg n1]; exact if_pos (of_decide_eq_true hb)
      rw [e] at k
      exact s_ret (ev_tup (ea_cons ev_str ea_nil)) k
    have n2 : ¬ greatestSum ts c < g := of_decide_eq_false hb
    refine q_set (ev_call (R := R_rest_of) ⟨ts, c, hT, rfl, rfl⟩ (ea_cons (ev_var rfl) (ea_cons (ev_var rfl) ea_nil))) ?_
    refine q_when (et_and (et_test (ev_gt (ev_var rfl) ev_int)) fun h1 => et_test (ev_ne rfl (ev_mod (by have : (1 : Int) < restOf ts c := of_decide_eq_true h1; omega) (ev_sub (ev_var rfl) (ev_var rfl)) (ev_var rfl)) ev_int)) (fun hb => ?_) fun hb => ?_
    · obtain ⟨h1, h2⟩ := Bool.and_eq_true_iff.mp hb
      have e : endOf ts g c = some (.rest (restOf ts c)) := by
        unfold endOf
        rw [if_neg n1, if_neg n2]
        refine if_pos ⟨of_decide_eq_true h1, ?_⟩
        simpa [sameD] using h2
      rw [e] at k
      exact s_ret (ev_tup (ea_cons ev_str (ea_cons (ev_var rfl) ea_nil))) k
    · have e : endOf ts g c = none := by
        unfold endOf
        rw [if_neg n1, if_neg n2]
        refine if_neg fun z => ?_
        rw [decide_eq_true z.1, Bool.true_and] at hb
        simp [sameD] at hb
        exact z.2 hb
      rw [e] at k
      exact s_ret ev_non k
end
end Pc

set_option Elab.async false
set_option linter.all false
set_option maxRecDepth 100000
set_option maxHeartbeats 4000000
/-! parting cases, reading steps. -/
namespace Pc
open PySem PySem.Spec PyProof.Rows L2 Pm

def optNatD : Option Nat → D
  | none => .non
  | some k => .int (k : Int)
def R_open_term : List D → D → Prop := fun ds d => ∃ c : List P2, c.length ≤ 100 ∧ ds = [caseD c] ∧ d = optNatD (openTerm c)
def R_part_at : List D → D → Prop := fun ds d => ∃ ts g c k, TOk ts ∧ k < ts.length ∧ k < c.length ∧ ds = [termsD ts, .int g, caseD c, .int (k : Int)] ∧ d = .int (partAt ts g c k)
def R_parted : List D → D → Prop := fun ds d => ∃ (c : List P2) (k : Nat) (a : Int), c.length ≤ 100 ∧ k < c.length ∧ ds = [caseD c, .int (k : Int), .int a] ∧ d = .lst [caseD (upper c k a), caseD (lower c k a)]
def R_is_rest : List D → D → Prop := fun ds d => ∃ ts g c m, TOk ts ∧ ds = [termsD ts, .int g, caseD c, .int m] ∧ d = .bl (isRest ts g c m)
def R_is_part : List D → D → Prop := fun ds d => ∃ (c : List P2) (s : Pm.Step), ds = [caseD c, stepD s] ∧ d = .bl (isPart c s)
def R_is_end : List D → D → Prop := fun ds d => ∃ ts g c s, TOk ts ∧ (∀ i a, s ≠ Pm.Step.part i a) ∧ ds = [termsD ts, .int g, caseD c, stepD s] ∧ d = .bl (isEnd ts g c s)

theorem atI_n' {α : Type} {xs : List α} {k : Nat} {v : α} (h : xs[k]? = some v) : atI xs (k : Int) = some v := by
  have hl := (List.getElem?_eq_some_iff.mp h).1
  unfold atI ixN
  rw [if_pos (by omega), if_pos (by omega)]
  show xs[((k : Int)).toNat]? = some v
  rw [Int.toNat_natCast]
  exact h
theorem atI_m {α : Type} {f : α → D} {xs : List α} {k : Nat} {dflt : α} (h : k < xs.length) : atI (xs.map f) (k : Int) = some (f (xs.getD k dflt)) := by
  refine atI_n' ?_
  rw [List.getElem?_map, List.getElem?_eq_getElem h, List.getD_eq_getElem?_getD, List.getElem?_eq_getElem h]
  rfl
theorem cut_upTo (c : List P2) (k : Nat) : cutD (c.map pairD) none (some (k : Int)) = (c.take k).map pairD := by rw [cutD_to, List.map_take]
theorem cut_behind (c : List P2) (k : Nat) : cutD (c.map pairD) (some ((k : Int) + 1)) none = (c.drop (k + 1)).map pairD := by
  rw [show ((k : Int) + 1) = ((k + 1 : Nat) : Int) by omega, cutD_from, List.map_drop]

section
variable {P : Program} {w : World} {K : PySem.W.Frag} {mg : Str → Option Value} {base : Heap}

theorem ok_open_term (T : Txt mg) {f : Addr} {fd : FuncData} (F : Fun K "open_term" "open_term" s_open_term f fd) : FnOk P w K mg base CX0 1 f fd ["case"] (spP R_open_term) := by
  refine ok_of F sc_open_term (fun ds d h => ?_) (by decide) fun cdv A outer s H E hr => ⟨_, (pss_cons (ps_for PassesOwn.never rfl (pi_range1 (by rfl) T.zrange (pa_cons (pe_callB call_len_seq (by rfl) T.zlen (by decide +kernel) (pa_cons (pv 0) pa_nil)) pa_nil)) (pg_name (i := 1) sc_open_term.nd rfl (Or.inl rfl)) (pss_one (ps_if (pt_cmpR op_lt (pe_ix (ixT (K := K)) (pe_ix (ixL (K := K)) (pv 0) (pv 1) (fun _ _ => rfl)) pe_int (fun _ _ => rfl)) (pe_ix (ixT (K := K)) (pe_ix (ixL (K := K)) (pv 0) (pv 1) (fun _ _ => rfl)) pe_int (fun _ _ => rfl)) (nomark _)) (pss_one (ps_ret (pv 1))) pss_nil)))
    (pss_one (ps_ret pe_non))), fun L ds d Q h k => ?_⟩
  · obtain ⟨c, _, rfl, _⟩ := h; rfl
  · obtain ⟨c, hc, rfl, rfl⟩ := h
    refine q_for (α := Unit) (fd_range (k := (c.map pairD).length) (by rw [List.length_map]; omega) (ea_cons (ev_lenL (ea_cons (ev_var rfl) ea_nil)) ea_nil)) (fun _ => []) (fun _ => [.d (caseD c), .no]) (fun i _ => ∀ j p, j < i → c[j]? = some p → ¬ p.1 < p.2) () (fun j p hj => absurd hj (Nat.not_lt_zero _)) rfl (Wk.refl _) ?_ ?_
    · intro B hB i d _ hd hP
      rw [List.length_map, List.getElem?_map] at hd
      cases e : (List.range c.length)[i]? with
      | none => rw [e] at hd; cases hd
      | some j =>
        rw [e] at hd
        cases hd
        obtain ⟨h1, h2⟩ := List.getElem?_eq_some_iff.mp e
        rw [List.length_range] at h1
        rw [List.getElem_range] at h2
        subst h2
        have hi : c[i]? = some c[i] := List.getElem?_eq_getElem h1
        have hg : c.getD i (0, 0) = c[i] := by rw [List.getD_eq_getElem?_getD, hi]; rfl
        refine ⟨_, [1], as_name (by decide), fun N hN => ?_⟩
        refine s_if (et_test (ev_lt (ev_ixT atI0 (ev_ixL (atI_m (dflt := (0, 0)) h1) (ev_var rfl) (ev_var rfl)) ev_int) (ev_ixT atI1 (ev_ixL (atI_m (dflt := (0, 0)) h1) (ev_var rfl) (ev_var rfl)) ev_int))) (fun hb => ?_) fun hb => ?_
        · have hb' := of_decide_eq_true hb
          rw [hg] at hb'
          have eo := open_some hi hb' hP
          rw [eo] at k
          exact s_ret (ev_var rfl) (Rt.base k hB)
        · have hb' := of_decide_eq_false hb
          rw [hg] at hb'
          refine s_next (hN () (fun j p hj hp => ?_) _ (.keep (.drop .nil)))
          by_cases z : j = i
          · subst z
            rw [hi] at hp
            cases hp
            exact hb'
          · exact hP j p (by omega) hp
    · intro _ hP
      rw [List.length_map, List.length_range, List.length_map] at hP
      have eo := open_none (c := c) fun j p hp => hP j p (List.getElem?_eq_some_iff.mp hp).1 hp
      rw [eo] at k
      exact s_ret ev_non k

theorem ok_part_at (T : Txt mg) (C_least_sum : Fn P w K mg base 1 "least_sum" ["terms", "case"] (spP R_least_sum)) (C_greatest_sum : Fn P w K mg base 1 "greatest_sum" ["terms", "case"] (spP R_greatest_sum))
    {f : Addr} {fd : FuncData} (F : Fun K "part_at" "part_at" s_part_at f fd) : FnOk P w K mg base CX0 2 f fd ["terms", "goal", "case", "k"] (spP R_part_at) := by
  refine ok_of F sc_part_at (fun ds d h => ?_) (by decide) fun cdv A outer s H E hr => ⟨_, (pss_cons (ps_set (i := 4) sc_part_at.nd rfl (Or.inl rfl) (pe_ix (ixT (K := K)) (pe_ix (ixL (K := K)) (pv 0) (pv 3) (fun _ _ => rfl)) pe_int (fun _ _ => rfl)))
    (pss_cons (ps_asg (pe_ix (ixL (K := K)) (pv 2) (pv 3) (fun _ _ => rfl)) (pg_tup rfl (pgs_cons (pg_name (i := 5) sc_part_at.nd rfl (Or.inl rfl)) (pgs_cons (pg_name (i := 6) sc_part_at.nd rfl (Or.inl rfl)) pgs_nil))))
    (pss_cons (ps_set (i := 7) sc_part_at.nd rfl (Or.inl rfl) (pe_op op_sub pe_int (pe_op op_fdivW (pe_op op_sub (pe_op op_sub (pe_fn C_greatest_sum (hr.mono (by decide)) (by rfl) (pa_cons (pv 0) (pa_cons (pv 2) pa_nil))) (pe_op op_mul (pv 4) (pv 6))) (pv 1)) (pv 4))))
    (pss_cons (ps_set (i := 8) sc_part_at.nd rfl (Or.inl rfl) (pe_op op_fdivW (pe_op op_add (pe_op op_sub (pv 1) (pe_fn C_least_sum (hr.mono (by decide)) (by rfl) (pa_cons (pv 0) (pa_cons (pv 2) pa_nil)))) (pe_op op_mul (pv 4) (pv 5))) (pv 4)))
    (pss_cons (ps_if (pt_cmpR op_gt (pv 7) (pv 5) (nomark _)) (pss_one (ps_ret (pe_op op_sub (pv 7) pe_int))) pss_nil)
    (pss_cons (ps_if (pt_cmpR op_lt (pv 8) (pv 6) (nomark _)) (pss_one (ps_ret (pv 8))) pss_nil)
    (pss_one (ps_ret (pv 5))))))))), fun L ds d Q h k => ?_⟩
  · obtain ⟨ts, g, c, i, _, _, _, rfl, _⟩ := h; rfl
  · obtain ⟨ts, g, c, i, hT, h1, h2, rfl, rfl⟩ := h
    have ht : ts.getD i (0, 0, 0) ∈ ts := by
      rw [List.getD_eq_getElem?_getD, List.getElem?_eq_getElem h1]
      exact List.getElem_mem h1
    have hf := fits hT ht
    have hp := (hT.2 _ ht).1
    have hw : ∀ i : Int, CDivW i (ts.getD i.toNat (0, 0, 0)).1 → True := fun _ _ => trivial
    have hd : ∀ z : Int, CDivW z (ts.getD i (0, 0, 0)).1 := fun z => wide_div (b := 64) hp (by omega) (by decide) (by decide)
    refine q_set (ev_ixT atI0 (ev_ixL (atI_m (dflt := (0, 0, 0)) h1) (ev_var rfl) (ev_var rfl)) ev_int) ?_
    refine q_asg (ss := [5, 6]) (ev_ixL (atI_m (dflt := (0, 0)) h2) (ev_var rfl) (ev_var rfl)) (as_tup rfl (asl_cons (as_name (by decide)) (asl_cons (as_name (by decide)) asl_nil))) ?_
    refine q_set (ev_sub ev_int (ev_fdiv (hd _) (ev_sub (ev_sub (ev_call (R := R_greatest_sum) ⟨ts, c, hT, rfl, rfl⟩ (ea_cons (ev_var rfl) (ea_cons (ev_var rfl) ea_nil))) (ev_mul (.inl hf) (ev_var rfl) (ev_var rfl))) (ev_var rfl)) (ev_var rfl))) ?_
    refine q_set (ev_fdiv (hd _) (ev_add (ev_sub (ev_var rfl) (ev_call (R := R_least_sum) ⟨ts, c, hT, rfl, rfl⟩ (ea_cons (ev_var rfl) (ea_cons (ev_var rfl) ea_nil)))) (ev_mul (.inl hf) (ev_var rfl) (ev_var rfl))) (ev_var rfl)) ?_
    refine q_when (et_test (ev_gt (ev_var rfl) (ev_var rfl))) (fun hb => ?_) fun hb => ?_
    · refine s_ret (d := .int (partAt ts g c i)) (Ev.of (ev_sub (ev_var rfl) ev_int) ?_) k
      unfold partAt
      exact congrArg D.int (if_pos (of_decide_eq_true hb)).symm
    refine q_when (et_test (ev_lt (ev_var rfl) (ev_var rfl))) (fun hb2 => ?_) fun hb2 => ?_
    · refine s_ret (d := .int (partAt ts g c i)) (Ev.of (ev_var rfl) ?_) k
      unfold partAt
      refine congrArg D.int (Eq.symm ?_)
      exact (if_neg (of_decide_eq_false hb)).trans (if_pos (of_decide_eq_true hb2))
    · refine s_ret (d := .int (partAt ts g c i)) (Ev.of (ev_var rfl) ?_) k
      unfold partAt
      refine congrArg D.int (Eq.symm ?_)
      exact (if_neg (of_decide_eq_false hb)).trans (if_neg (of_decide_eq_false hb2))

theorem ok_parted (T : Txt mg) {f : Addr} {fd : FuncData} (F : Fun K "parted" "parted" s_parted f fd) : FnOk P w K mg base CX0 1 f fd ["case", "k", "at"] (spP R_parted) := by
  refine ok_of F sc_parted (fun ds d h => ?_) (by decide) fun cdv A outer s H E hr => ⟨_, (pss_cons (ps_asg (pe_ix (ixL (K := K)) (pv 0) (pv 1) (fun _ _ => rfl)) (pg_tup rfl (pgs_cons (pg_name (i := 3) sc_parted.nd rfl (Or.inl rfl)) (pgs_cons (pg_name (i := 4) sc_parted.nd rfl (Or.inl rfl)) pgs_nil))))
    (pss_cons (ps_set (i := 5) sc_parted.nd rfl (Or.inl rfl) (pe_op op_cat (pe_op op_cat (pe_slice sl_list (pv 0) po_none (po_some (pv 1))) (pe_lst (pa_cons (pe_tup (pa_cons (pv 3) (pa_cons (pv 2) pa_nil))) pa_nil))) (pe_slice sl_list (pv 0) (po_some (pe_op op_add (pv 1) pe_int)) po_none)))
    (pss_cons (ps_set (i := 6) sc_parted.nd rfl (Or.inl rfl) (pe_op op_cat (pe_op op_cat (pe_slice sl_list (pv 0) po_none (po_some (pv 1))) (pe_lst (pa_cons (pe_tup (pa_cons (pe_op op_add (pv 2) pe_int) (pa_cons (pv 4) pa_nil))) pa_nil))) (pe_slice sl_list (pv 0) (po_some (pe_op op_add (pv 1) pe_int)) po_none)))
    (pss_one (ps_ret (pe_lst (pa_cons (pv 6) (pa_cons (pv 5) pa_nil)))))))), fun L ds d Q h k => ?_⟩
  · obtain ⟨c, i, a, _, _, rfl, _⟩ := h; rfl
  · obtain ⟨c, i, a, hc, h1, rfl, rfl⟩ := h
    have hz : ∀ x : D, ((c.take i).map pairD).length + ([x] : List D).length ≤ 1000 := fun x => by
      rw [List.length_map, List.length_take]
      show min i c.length + 1 ≤ 1000
      omega
    have hz2 : ∀ x : D, ((c.take i).map pairD ++ [x]).length + ((c.drop (i + 1)).map pairD).length ≤ 1000 := fun x => by
      rw [List.length_append, List.length_map, List.length_take, List.length_map, List.length_drop]
      show min i c.length + 1 + _ ≤ 1000
      omega
    refine q_asg (ss := [3, 4]) (ev_ixL (atI_m (dflt := (0, 0)) h1) (ev_var rfl) (ev_var rfl)) (as_tup rfl (asl_cons (as_name (by decide)) (asl_cons (as_name (by decide)) asl_nil))) ?_
    refine q_set (d := caseD (lower c i a)) (Ev.of (EvN.ev (en_cat (hz2 (pairD ((c.getD i (0, 0)).1, a))) (EvN.ev (en_cat (hz _) (Ev.of (EvN.ev (en_slice (ev_var rfl) eo_none (eo_some (ev_var rfl)))) (by rw [cut_upTo])) (EvN.ev (en_lst (ea_cons (ev_tup (ea_cons (ev_var rfl) (ea_cons (ev_var rfl) ea_nil))) ea_nil)))))
      (Ev.of (EvN.ev (en_slice (ev_var rfl) (eo_some (ev_add (ev_var rfl) ev_int)) eo_none)) (by rw [cut_behind])))) ?_) ?_
    · unfold lower caseD
      rw [List.map_append, List.map_cons, List.append_assoc]
      rfl
    refine q_set (d := caseD (upper c i a)) (Ev.of (EvN.ev (en_cat (hz2 (pairD (a + 1, (c.getD i (0, 0)).2))) (EvN.ev (en_cat (hz _) (Ev.of (EvN.ev (en_slice (ev_var rfl) eo_none (eo_some (ev_var rfl)))) (by rw [cut_upTo])) (EvN.ev (en_lst (ea_cons (ev_tup (ea_cons (ev_add (ev_var rfl) ev_int) (ea_cons (ev_var rfl) ea_nil))) ea_nil)))))
      (Ev.of (EvN.ev (en_slice (ev_var rfl) (eo_some (ev_add (ev_var rfl) ev_int)) eo_none)) (by rw [cut_behind])))) ?_) ?_
    · unfold upper caseD
      rw [List.map_append, List.map_cons, List.append_assoc]
      rfl
    exact s_ret (EvN.ev (en_lst (ea_cons (ev_var rfl) (ea_cons (ev_var rfl) ea_nil)))) k
end
end Pc

set_option Elab.async false
set_option linter.all false
set_option maxRecDepth 100000
set_option maxHeartbeats 4000000
/-! reading steps. -/
namespace Pc
open PySem PySem.Spec PyProof.Rows L2 Pm

section
variable {P : Program} {w : World} {K : PySem.W.Frag} {mg : Str → Option Value} {base : Heap}

theorem ok_is_rest (T : Txt mg) (C_is_whole : Fn P w K mg base 1 "is_whole" ["thing"] (spP R_is_whole)) (C_least_sum : Fn P w K mg base 1 "least_sum" ["terms", "case"] (spP R_least_sum))
    {f : Addr} {fd : FuncData} (F : Fun K "is_rest" "is_rest" s_is_rest f fd) : FnOk P w K mg base CX0 2 f fd ["terms", "goal", "case", "by"] (spP R_is_rest) := by
  refine ok_of F sc_is_rest (fun ds d h => ?_) (by decide) fun cdv A outer s H E hr => ⟨_, (pss_cons (ps_if (PW.pt (pw_or (pt_not (pt_val (pe_fn C_is_whole (hr.mono (by decide)) (by rfl) (pa_cons (pv 3) pa_nil)))) (pw_or1 (pt_cmpR op_lt (pv 3) pe_int (nomark _))))) (pss_one (ps_ret pe_bl)) pss_nil)
    (pss_cons (ps_for PassesOwn.never rfl (pi_zip (by rfl) T.zzip (pa_cons (pv 0) (pa_cons (pv 2) pa_nil))) (pg_tup rfl (pgs_cons (pg_name (i := 4) sc_is_rest.nd rfl (Or.inl rfl)) (pgs_cons (pg_tup rfl (pgs_cons (pg_name (i := 5) sc_is_rest.nd rfl (Or.inl rfl)) (pgs_cons (pg_name (i := 6) sc_is_rest.nd rfl (Or.inl rfl)) pgs_nil))) pgs_nil))) (pss_one (ps_if (PW.pt (pw_and (pt_cmpR op_lt (pv 5) (pv 6) (nomark _)) (pw_and1 (pt_cmpR op_ne (pe_op op_mod (pe_ix (ixT (K := K)) (pv 4) pe_int (fun _ _ => rfl)) (pv 3)) pe_int (nomark _))))) (pss_one (ps_ret pe_bl)) pss_nil)))
    (pss_one (ps_ret (pe_cmpR op_ne (pe_op op_mod (pe_op op_sub (pv 1) (pe_fn C_least_sum (hr.mono (by decide)) (by rfl) (pa_cons (pv 0) (pa_cons (pv 2) pa_nil)))) (pv 3)) pe_int (nomark _)))))), fun L ds d Q h k => ?_⟩
  · obtain ⟨ts, g, c, m, _, rfl, _⟩ := h; rfl
  · obtain ⟨ts, g, c, m, hT, rfl, rfl⟩ := h
    refine q_when (et_or (et_not (et_B (ev_call (R := R_is_whole) ⟨.int m, by simp [tyD], rfl, rfl⟩ (ea_cons (ev_var rfl) ea_nil)))) fun _ => et_test (ev_lt (ev_var rfl) ev_int)) (fun hb => ?_) fun hb => ?_
    · have hm : m < 2 := by simpa [isW] using hb
      have e : isRest ts g c m = false := if_pos hm
      rw [e] at k
      exact s_ret ev_bl k
    have hm : ¬ m < 2 := by simpa [isW] using hb
    have hm0 : 0 < m := by omega
    refine q_for (α := Unit) (fd_of (fd_zip (ea_cons (ev_var rfl) (ea_cons (ev_var rfl) ea_nil))) (zip_tc ts c)) (fun _ => []) (fun _ => [.d (termsD ts), .d (.int g), .d (caseD c), .d (.int m), .no, .no, .no]) (fun i _ => ∀ (j : Nat) (p : T3 × P2), j < i → (ts.zip c)[j]? = some p → ¬ (p.2.1 < p.2.2 ∧ p.1.1 % m ≠ 0)) ()
      (fun j p hj => absurd hj (Nat.not_lt_zero _)) rfl (Wk.refl _) ?_ ?_
    · intro B hB i d _ hd hP
      rw [List.getElem?_map] at hd
      cases e : (ts.zip c)[i]? with
      | none => rw [e] at hd; cases hd
      | some p =>
        rw [e] at hd
        cases hd
        refine ⟨_, [4, 5, 6], as_tup rfl (asl_cons (as_name (by decide)) (asl_cons (as_tup rfl (asl_cons (as_name (by decide)) (asl_cons (as_name (by decide)) asl_nil))) asl_nil)), fun N hN => ?_⟩
        refine s_if (et_and (et_test (ev_lt (ev_var rfl) (ev_var rfl))) fun _ => et_test (ev_ne rfl (ev_mod hm0 (ev_ixT atI0 (ev_var rfl) ev_int) (ev_var rfl)) ev_int)) (fun hb => ?_) fun hb => ?_
        · have hp : p.2.1 < p.2.2 ∧ p.1.1 % m ≠ 0 := by simpa [sameD] using hb
          have ea : isRest ts g c m = false := by
            unfold isRest
            rw [if_neg hm]
            refine if_pos (List.any_eq_true.mpr ⟨p, List.mem_of_getElem? e, ?_⟩)
            rw [decide_eq_true hp.1, decide_eq_true hp.2]
            rfl
          rw [ea] at k
          exact s_ret ev_bl (Rt.base k hB)
        · have hp : ¬ (p.2.1 < p.2.2 ∧ p.1.1 % m ≠ 0) := by simpa [sameD] using hb
          refine s_next (hN () (fun j q hj hq => ?_) _ (.keep (.keep (.keep (.keep (.drop (.drop (.drop .nil))))))))
          by_cases z : j = i
          · subst z
            rw [e] at hq
            cases hq
            exact hp
          · exact hP j q (by omega) hq
    · intro _ hP
      rw [List.length_map] at hP
      have ea : isRest ts g c m = decide ((g - leastSum ts c) % m ≠ 0) := by
        unfold isRest
        rw [if_neg hm]
        refine if_neg fun z => ?_
        obtain ⟨p, hp, hq⟩ := List.any_eq_true.mp z
        obtain ⟨j, hj⟩ := List.getElem?_of_mem hp
        rw [Bool.and_eq_true, decide_eq_true_eq, decide_eq_true_eq] at hq
        exact hP j p (List.getElem?_eq_some_iff.mp hj).1 hj hq
      refine s_ret (d := .bl (isRest ts g c m)) (Ev.of (ev_ne rfl (ev_mod hm0 (ev_sub (ev_var rfl) (ev_call (R := R_least_sum) ⟨ts, c, hT, rfl, rfl⟩ (ea_cons (ev_var rfl) (ea_cons (ev_var rfl) ea_nil)))) (ev_var rfl)) ev_int) ?_) k
      rw [ea]
      simp [sameD]

theorem ok_is_part (T : Txt mg) (C_is_whole : Fn P w K mg base 1 "is_whole" ["thing"] (spP R_is_whole)) {f : Addr} {fd : FuncData} (F : Fun K "is_part" "is_part" s_is_part f fd) :
    FnOk P w K mg base CX0 2 f fd ["case", "step"] (spP R_is_part) := by
  refine ok_of F sc_is_part (fun ds d h => ?_) (by decide) fun cdv A outer s H E hr => ⟨_, (pss_cons (ps_if (PW.pt (pw_or (pt_cmpR op_ne (pe_callB call_len_seq (by rfl) T.zlen (by decide +kernel) (pa_cons (pv 1) pa_nil)) pe_int (nomark _)) (pw_or (pt_cmpR op_ne (pe_ix (ixT (K := K)) (pv 1) pe_int (fun _ _ => rfl)) pe_str (nomark _)) (pw_or (pt_not (pt_val (pe_fn C_is_whole (hr.mono (by decide)) (by rfl) (pa_cons (pe_ix (ixT (K := K)) (pv 1) pe_int (fun _ _ => rfl)) pa_nil)))) (pw_or1 (pt_not (pt_val (pe_fn C_is_whole (hr.mono (by decide)) (by rfl) (pa_cons (pe_ix (ixT (K := K)) (pv 1) pe_int (fun _ _ => rfl)) pa_nil))))))))) (pss_one (ps_ret pe_bl)) pss_nil)
    (pss_cons (ps_if (pt_not (pt_chain op_le op_lt pe_int (pe_ix (ixT (K := K)) (pv 1) pe_int (fun _ _ => rfl)) (pe_callB call_len_seq (by rfl) T.zlen (by decide +kernel) (pa_cons (pv 0) pa_nil)))) (pss_one (ps_ret pe_bl)) pss_nil)
    (pss_cons (ps_asg (pe_ix (ixL (K := K)) (pv 0) (pe_ix (ixT (K := K)) (pv 1) pe_int (fun _ _ => rfl)) (fun _ _ => rfl)) (pg_tup rfl (pgs_cons (pg_name (i := 2) sc_is_part.nd rfl (Or.inl rfl)) (pgs_cons (pg_name (i := 3) sc_is_part.nd rfl (Or.inl rfl)) pgs_nil))))
    (pss_one (ps_ret (pe_chain op_le op_lt (pv 2) (pe_ix (ixT (K := K)) (pv 1) pe_int (fun _ _ => rfl)) (pv 3))))))), fun L ds d Q h k => ?_⟩
  · obtain ⟨c, z, rfl, _⟩ := h; rfl
  · obtain ⟨c, z, rfl, rfl⟩ := h
    cases z with
    | low => exact q_true (et_or1 (EvT.of (et_test (ev_ne rfl (ev_lenT (ea_cons (ev_var rfl) ea_nil)) ev_int)) (show _ = true by decide +kernel))) (s_ret ev_bl k)
    | high => exact q_true (et_or1 (EvT.of (et_test (ev_ne rfl (ev_lenT (ea_cons (ev_var rfl) ea_nil)) ev_int)) (show _ = true by decide +kernel))) (s_ret ev_bl k)
    | rest m => exact q_true (et_or1 (EvT.of (et_test (ev_ne rfl (ev_lenT (ea_cons (ev_var rfl) ea_nil)) ev_int)) (show _ = true by simp [sameD]))) (s_ret ev_bl k)
    | part i a =>
      refine q_pass (EvT.of (et_or (et_test (ev_ne rfl (ev_lenT (ea_cons (ev_var rfl) ea_nil)) ev_int)) fun _ => et_or (et_test (ev_ne rfl (ev_ixT atI0 (ev_var rfl) ev_int) ev_str)) fun _ =>
        et_or (et_not (et_B (ev_call (R := R_is_whole) ⟨.int (i : Int), by simp [tyD], rfl, rfl⟩ (ea_cons (ev_ixT atI1 (ev_var rfl) ev_int) ea_nil)))) fun _ => et_not (et_B (ev_call (R := R_is_whole) ⟨.int a, by simp [tyD], rfl, rfl⟩ (ea_cons (ev_ixT atI2 (ev_var rfl) ev_int) ea_nil)))) (by simp [sameD, isW])) ?_
      refine q_when (et_not (et_test (ev_chain (p := fun i j => decide (i ≤ j)) (q := fun i j => decide (i < j)) ev_int (ev_ixT atI1 (ev_var rfl) ev_int) fun _ => ev_lenL (ea_cons (ev_var rfl) ea_nil)))) (fun hb => ?_) fun hb => ?_
      · have hi : ¬ i < c.length := by simpa using hb
        have e : isPart c (.part i a) = false := by
          show (decide (i < c.length) && _) = false
          rw [decide_eq_false hi]
          rfl
        rw [e] at k
        exact s_ret ev_bl k
      · have hi : i < c.length := by simpa using hb
        refine q_asg (ss := [2, 3]) (ev_ixL (atI_m (dflt := (0, 0)) hi) (ev_var rfl) (ev_ixT atI1 (ev_var rfl) ev_int)) (as_tup rfl (asl_cons (as_name (by decide)) (asl_cons (as_name (by decide)) asl_nil))) ?_
        refine s_ret (d := .bl (isPart c (.part i a))) (Ev.of (ev_chain (p := fun i j => decide (i ≤ j)) (q := fun i j => decide (i < j)) (ev_var rfl) (ev_ixT atI2 (ev_var rfl) ev_int) fun _ => ev_var rfl) ?_) k
        show D.bl _ = D.bl (decide (i < c.length) && _)
        rw [decide_eq_true hi]
        rfl

theorem shaped_low : SeqAt.shaped (py (.tup [.str "low"])) = true := by decide +kernel
theorem shaped_high : SeqAt.shaped (py (.tup [.str "high"])) = true := by decide +kernel
theorem shaped_rest (m : Int) : SeqAt.shaped (py (.tup [.str "rest", .int m])) = true := by
  unfold SeqAt.shaped
  rw [show PyData.canLay0 (py (.tup [.str "rest", .int m])) = true by simp [py, pys, PyData.canLay0, PyData.canLayAll0]; decide +kernel,
    show PyData.depth (py (.tup [.str "rest", .int m])) = PyData.depth (py (.tup [.str "rest", .int 0])) by simp [py, pys, PyData.depth, PyData.depthAll]]
  decide +kernel
theorem ok_is_end (T : Txt mg) (C_least_sum : Fn P w K mg base 1 "least_sum" ["terms", "case"] (spP R_least_sum)) (C_greatest_sum : Fn P w K mg base 1 "greatest_sum" ["terms", "case"] (spP R_greatest_sum)) (C_is_rest : Fn P w K mg base 2 "is_rest" ["terms", "goal", "case", "by"] (spP R_is_rest))
    {f : Addr} {fd : FuncData} (F : Fun K "is_end" "is_end" s_is_end f fd) : FnOk P w K mg base CX0 3 f fd ["terms", "goal", "case", "step"] (spP R_is_end) := by
  refine ok_of F sc_is_end (fun ds d h => ?_) (by decide) fun cdv A outer s H E hr => ⟨_, (pss_cons (ps_if (pt_cmpR (op_eqD hr.units) (pv 3) (pe_tup (pa_cons pe_str pa_nil)) (nomark _)) (pss_one (ps_ret (pe_cmpR op_gt (pe_fn C_least_sum (hr.mono (by decide)) (by rfl) (pa_cons (pv 0) (pa_cons (pv 2) pa_nil))) (pv 1) (nomark _)))) pss_nil)
    (pss_cons (ps_if (pt_cmpR (op_eqD hr.units) (pv 3) (pe_tup (pa_cons pe_str pa_nil)) (nomark _)) (pss_one (ps_ret (pe_cmpR op_lt (pe_fn C_greatest_sum (hr.mono (by decide)) (by rfl) (pa_cons (pv 0) (pa_cons (pv 2) pa_nil))) (pv 1) (nomark _)))) pss_nil)
    (pss_one (ps_ret (pe_and (pe_cmpR op_eq (pe_callB call_len_seq (by rfl) T.zlen (by decide +kernel) (pa_cons (pv 3) pa_nil)) pe_int (nomark _)) (pe_and (pe_cmpR op_eq (pe_ix (ixT (K := K)) (pv 3) pe_int (fun _ _ => rfl)) pe_str (nomark _)) (pe_one (pe_fn C_is_rest (hr.mono (by decide)) (by rfl) (pa_cons (pv 0) (pa_cons (pv 1) (pa_cons (pv 2) (pa_cons (pe_ix (ixT (K := K)) (pv 3) pe_int (fun _ _ => rfl)) pa_nil)))))))))))), fun L ds d Q h k => ?_⟩
  · obtain ⟨ts, g, c, z, _, _, rfl, _⟩ := h; rfl
  · obtain ⟨ts, g, c, z, hT, hz, rfl, rfl⟩ := h
    have low : Ev H L [] (List.map En.d [termsD ts, .int g, caseD c, stepD z] ++ List.replicate (N_is_end.length - 4) En.no) (tTup (tCons (tC (.str "low")) tNil)) (.tup [.str "low"]) := ev_tup (ea_cons ev_str ea_nil)
    have high : Ev H L [] (List.map En.d [termsD ts, .int g, caseD c, stepD z] ++ List.replicate (N_is_end.length - 4) En.no) (tTup (tCons (tC (.str "high")) tNil)) (.tup [.str "high"]) := ev_tup (ea_cons ev_str ea_nil)
    cases z with
    | low =>
      exact q_when (EvT.of (et_test (ev_eqD shaped_low shaped_low (ev_var rfl) low)) (show _ = true by decide +kernel)) (fun _ => s_ret (ev_gt (ev_call (R := R_least_sum) ⟨ts, c, hT, rfl, rfl⟩ (ea_cons (ev_var rfl) (ea_cons (ev_var rfl) ea_nil))) (ev_var rfl)) k) fun z => (nomatch z)
    | high =>
      refine q_pass (EvT.of (et_test (ev_eqD shaped_high shaped_low (ev_var rfl) low)) (by decide +kernel)) ?_
      exact q_when (EvT.of (et_test (ev_eqD shaped_high shaped_high (ev_var rfl) high)) (show _ = true by decide +kernel)) (fun _ => s_ret (ev_lt (ev_call (R := R_greatest_sum) ⟨ts, c, hT, rfl, rfl⟩ (ea_cons (ev_var rfl) (ea_cons (ev_var rfl) ea_nil))) (ev_var rfl)) k) fun z => (nomatch z)
    | rest m =>
      refine q_pass (EvT.of (et_test (ev_eqD (shaped_rest m) shaped_low (ev_var rfl) low)) (by simp [stepD, py, pys, PyData.eqv, PyData.eqvAll])) ?_
      refine q_pass (EvT.of (et_test (ev_eqD (shaped_rest m) shaped_high (ev_var rfl) high)) (by simp [stepD, py, pys, PyData.eqv, PyData.eqvAll])) ?_
      refine s_ret (d := .bl (isEnd ts g c (.rest m))) (Ev.of (ev_andV (ev_eq rfl (ev_lenT (ea_cons (ev_var rfl) ea_nil)) ev_int) fun _ => ev_andV (ev_eq rfl (ev_ixT atI0 (ev_var rfl) ev_int) ev_str) fun _ => ev_call (R := R_is_rest) ⟨ts, g, c, m, hT, rfl, rfl⟩ (ea_cons (ev_var rfl) (ea_cons (ev_var rfl) (ea_cons (ev_var rfl) (ea_cons (ev_ixT atI1 (ev_var rfl) ev_int) ea_nil))))) ?_) k
      simp [sameD, isEnd]
    | part i a => exact (hz i a rfl).elim
end
end Pc

set_option Elab.async false
set_option linter.all false
set_option maxRecDepth 100000
set_option maxHeartbeats 4000000
/-! Defs that change a dict that is handed to them. -/
namespace Pc
open PySem PySem.Spec PyProof.Rows L2 Pm

def rgD (r : Rg) : List (Int × D) := r.map fun q => (q.1, pairD q.2)
def nsD (r : List (Int × Int)) : List (Int × D) := r.map fun q => (q.1, D.int q.2)
theorem klook_map {α : Type} (f : α → D) (r : List (Int × α)) (k : Int) : klook (r.map fun q => (q.1, f q.2)) k = (look r k).map f := by
  unfold klook look
  induction r with
  | nil => rfl
  | cons q r ih =>
    rw [List.map_cons, List.find?_cons, List.find?_cons]
    cases decide (q.1 = k) with
    | true => rfl
    | false => exact ih
theorem kput_map {α : Type} (f : α → D) (r : List (Int × α)) (k : Int) (v : α) : kput (r.map fun q => (q.1, f q.2)) k (f v) = (put r k v).map fun q => (q.1, f q.2) := by
  have e : ((r.map fun q => (q.1, f q.2)).any fun kv => decide (kv.1 = k)) = r.any fun q => decide (q.1 = k) := by
    rw [List.any_map]
    rfl
  unfold kput put
  rw [e]
  split
  · rw [List.map_map, List.map_map]
    apply List.map_congr_left
    intro q _
    show (if q.1 = k then (q.1, f v) else (q.1, f q.2)) = ((if q.1 = k then (q.1, v) else q).1, f (if q.1 = k then (q.1, v) else q).2)
    split <;> rfl
  · rw [List.map_append]
    rfl

section
variable {H0 H H' B : Hp} {L0 : List Addr} {ms : List (Addr × Mu)} {es es' : List En} {te ta tb : TE} {d : D} {ds : List D} {E : Ends} {ts us : TS} {K : PySem.W.Frag} {i j : Nat} {n m : Int} {σ : L2.St} {a : Addr}
theorem hid_congr {L M : List Addr} (h : ∀ b, b ∈ L ↔ b ∈ M) : hid L H = hid M H := by
  funext b
  by_cases e : b ∈ L
  · rw [hid_in e, hid_in ((h b).mp e)]
  · rw [hid_out e, hid_out fun z => e ((h b).mpr z)]
/-- an object of one's own was changed by someone who leaves all else -/
theorem St0.mutG {m0 m' : Mu} (s : St0 H0 L0 ms es σ H) (h : ms[j]? = some (a, m0)) (e : Same (hid [a] H) (hid [a] H')) (hn : MuAt (hid (hm L0 ms) H') H' a m') : St0 H0 L0 (ms.set j (a, m')) es σ H' := by
  have ha := mu_mem h
  have em := set_mus (m' := m') h
  have ehm : hm L0 (ms.set j (a, m')) = hm L0 ms := by
    show mus (ms.set j (a, m')) ++ L0 = mus ms ++ L0
    rw [em]
  have stay : ∀ b o, b ≠ a → H b = some o → H' b = some o := fun b o hb q => by
    have q1 : hid [a] H b = some o := by rw [hid_out (by simpa using hb)]; exact q
    exact (hid_some (e _ _ q1)).2
  have sub : ∀ {L : List Addr}, a ∈ L → Same (hid L H) (hid L H') := fun {L} hL b o q => by
    obtain ⟨q1, q2⟩ := hid_some q
    rw [hid_out q1]
    exact stay b o (fun z => q1 (by rw [z]; exact hL)) q2
  have ha2 : a ∈ hm L0 ms := List.mem_append_left _ ha
  refine ⟨?_, fun b hb => ?_, by rw [em]; exact s.nd, by rw [em]; exact s.dj, fun p hp => ?_, by rw [ehm]; exact s.env.mono (sub ha2)⟩
  · rw [em]
    exact s.same.trans (sub ha)
  · rw [ehm] at hb
    by_cases z : b = a
    · rw [z]
      cases m' with
      | l ds => obtain ⟨xs, q, _⟩ := hn; rw [q]; simp
      | k kvs => obtain ⟨ys, q, _⟩ := hn; rw [q]; simp
      | o u => rw [show H' a = some u from hn]; simp
    · cases q : H b with
      | none => exact absurd q (s.trk b hb)
      | some o => rw [stay b o z q]; simp
  · rw [ehm]
    obtain ⟨k, hk⟩ := List.getElem?_of_mem hp
    by_cases z : j = k
    · subst z
      rw [List.getElem?_set_self (List.getElem?_eq_some_iff.mp h).1] at hk
      cases hk
      exact hn
    · rw [List.getElem?_set_ne z] at hk
      have hne : p.1 ≠ a := fun y => by
        have k1 : (mus ms)[k]? = some p.1 := by
          show (ms.map (·.1))[k]? = _
          rw [List.getElem?_map, hk]
          rfl
        have k2 : (mus ms)[j]? = some a := by
          show (ms.map (·.1))[j]? = _
          rw [List.getElem?_map, h]
          rfl
        rw [y] at k1
        exact z (nd_ix s.nd k2 k1)
      exact (s.mu p (List.mem_of_getElem? hk)).mono (sub ha2) fun o q => stay _ o hne q
/-- the others' addresses, that of one's own object left out -/
def oth (L0 : List Addr) (ms : List (Addr × Mu)) (j : Nat) : List Addr := mus (ms.eraseIdx j) ++ L0
theorem oth_mem {m0 : Mu} (h : ms[j]? = some (a, m0)) : ∀ b, b ∈ a :: oth L0 ms j ↔ b ∈ hm L0 ms := fun b => by
  have hj : j < ms.length := (List.getElem?_eq_some_iff.mp h).1
  have hg : ms[j] = (a, m0) := by
    have := List.getElem?_eq_getElem hj
    rw [h] at this
    exact (Option.some.inj this).symm
  constructor
  · intro hb
    rcases List.mem_cons.mp hb with z | z
    · rw [z]; exact List.mem_append_left _ (mu_mem h)
    · rcases List.mem_append.mp z with z | z
      · obtain ⟨p, hp, e⟩ := List.mem_map.mp z
        exact List.mem_append_left _ (List.mem_map.mpr ⟨p, (List.eraseIdx_sublist ms j).subset hp, e⟩)
      · exact List.mem_append_right _ z
  · intro hb
    rcases List.mem_append.mp hb with z | z
    · obtain ⟨p, hp, e⟩ := List.mem_map.mp z
      obtain ⟨k, hk⟩ := List.getElem?_of_mem hp
      by_cases y : k = j
      · subst y
        rw [h] at hk
        cases hk
        rw [← e]
        exact List.mem_cons_self
      · exact List.mem_cons_of_mem _ (List.mem_append_left _ (List.mem_map.mpr ⟨p, List.mem_eraseIdx_iff_getElem?.mpr ⟨k, y, hk⟩, e⟩))
    · exact List.mem_cons_of_mem _ (List.mem_append_right _ z)
theorem oth_out {m0 : Mu} (s : St0 H0 L0 ms es σ H) (h : ms[j]? = some (a, m0)) : a ∉ oth L0 ms j := fun z => by
  rcases List.mem_append.mp z with z | z
  · obtain ⟨p, hp, e⟩ := List.mem_map.mp z
    obtain ⟨k, hk, ek⟩ := List.mem_eraseIdx_iff_getElem?.mp hp
    refine hk (nd_ix s.nd (x := a) ?_ ?_)
    · show (ms.map (·.1))[k]? = _
      rw [List.getElem?_map, ek, ← e]
      rfl
    · show (ms.map (·.1))[j]? = _
      rw [List.getElem?_map, h]
      rfl
  · exact s.dj a (mu_mem h) z
theorem oth_trk {m0 : Mu} (s : St0 H0 L0 ms es σ H) (h : ms[j]? = some (a, m0)) : ∀ z ∈ a :: oth L0 ms j, H z ≠ none := fun z hz => s.trk z ((oth_mem h z).mp hz)
theorem oth_hid {m0 : Mu} (h : ms[j]? = some (a, m0)) (H : Hp) : hid (a :: oth L0 ms j) H = hid (hm L0 ms) H := hid_congr (oth_mem h)
/-- slots one by one -/
theorem env_nil {G : Hp} : EnvOk G [] [] := ⟨rfl, fun i e q => by simp at q⟩
theorem env_cons {G : Hp} {x : Option V} {e : En} (h : EnAt G (some x) e) (t : EnvOk G σ es) : EnvOk G (x :: σ) (e :: es) := by
  refine ⟨by rw [List.length_cons, List.length_cons, t.len], fun k f q => ?_⟩
  cases k with
  | zero =>
    cases q
    exact h
  | succ k => exact t.at_ k f (by simpa using q)
theorem env_no {G : Hp} {x : Option V} (t : EnvOk G σ es) : EnvOk G (x :: σ) (.no :: es) := env_cons trivial t
end

/-! ### widen -/
def spWiden : Sp := fun vs H Q _ => ∃ (L : List Addr) (a : Addr) (r : Rg) (p m : Int), vs = [.ref a, .int p, .int m] ∧ a ∉ L ∧ (∀ z ∈ a :: L, H z ≠ none) ∧ MuAt (hid (a :: L) H) H a (.k (rgD r)) ∧ r.length ≤ 100 ∧
  ∀ H', Same (hid [a] H) (hid [a] H') → MuAt (hid (a :: L) H') H' a (.k (rgD (Pm.widen r p m))) → Q .non H'
section
variable {H0 : Hp} {L0 : List Addr} {ms : List (Addr × Mu)} {es : List En} {tp tm : TE} {E : Ends} {us : TS} {i j : Nat} {p m : Int} {a : Addr} {r : Rg} {X : XK}
theorem run_widen (hi : es[i]? = some (.v (.ref a))) (hj : ms[j]? = some (a, .k (rgD r))) (hr : r.length ≤ 100) (h1 : Ev H0 L0 ms es tp (.int p)) (h2 : Ev H0 L0 ms es tm (.int m)) (k : Nx H0 L0 (ms.set j (a, .k (rgD (Pm.widen r p m)))) es E.nx) :
    Run H0 L0 ms es (tDrop (tCall spWiden [] X (tCons (tVar i) (tCons tp (tCons tm tNil))))) E := fun σ H s => by
  refine ⟨.ref a, s.env.at_ i _ hi, h1 σ H s _ fun v H1 e1 k1 => h2 σ H1 (s.grow e1) _ fun w H2 e2 k2 => ?_⟩
  cases k1
  cases k2
  have s2 := s.grow (e1.trans e2)
  refine ⟨oth L0 ms j, a, r, p, m, rfl, oth_out s2 hj, oth_trk s2 hj, ?_, hr, fun H' hs hn => ?_⟩
  · rw [oth_hid hj]
    exact s2.mu _ (List.mem_of_getElem? hj)
  · rw [oth_hid hj] at hn
    exact k σ H' (s2.mutG hj hs hn)
end
end Pc

set_option Elab.async false
set_option linter.all false
set_option maxRecDepth 100000
set_option maxHeartbeats 4000000
/-! terms. -/
namespace Pc
open PySem PySem.Spec PyProof.Rows L2 Pm

section
variable {H0 B : Hp} {L0 : List Addr} {ms : List (Addr × Mu)} {es es' : List En} {te ta tb : TE} {d : D} {ds : List D} {E : Ends} {ts us : TS} {K : PySem.W.Frag} {i j : Nat} {n m : Int} {a : Addr}
theorem run_drop (h : Ev H0 L0 ms es te d) (k : Nx H0 L0 ms es E.nx) : Run H0 L0 ms es (tDrop te) E := fun σ H s => h σ H s _ fun v H1 e1 _ => k σ H1 (s.grow e1)
theorem kv_keys {G : Hp} : ∀ {ys : List (Key × V)} {kvs : List (Int × D)}, Kv G ys kvs → ys.map (·.1) = (kvs.map (·.1)).map Sum.inl
  | _, _, .nil => rfl
  | _, _, .cons _ t => by rw [List.map_cons, List.map_cons, List.map_cons, kv_keys t]
theorem lst_ints {H : Hp} {L : List Addr} {p : Addr} {ns : List Int} (tr : ∀ z ∈ L, H z ≠ none) (hp : H p = none) : Dt (hid L (upd H p (.lst (ns.map V.int)))) (.ref p) (.lst (ns.map D.int)) :=
  .lst (by rw [hid_out (fun z => tr p z hp), upd_same]) (ints_dt ns)
theorem ev_sortedDR {kvs : List (Int × D)} {ks : List Int} (hi : es[i]? = some (.v (.ref a))) (hj : ms[j]? = some (a, .k kvs)) (hp : ks.Perm (kvs.map (·.1))) (hd : ks.Pairwise (· ≥ ·)) (hl : kvs.length ≤ 1000) :
    Ev H0 L0 ms es (tCKw rSortedDR (tCons (tVar i) tNil) (tCons (tC (.bl true)) tNil)) (.lst (ks.map D.int)) := fun σ H s Q q => by
  obtain ⟨ys, h1, h2⟩ := s.mu _ (List.mem_of_getElem? hj)
  refine ⟨.ref a, s.env.at_ i _ hi, a, ys, kvs.map (·.1), rfl, rfl, h1, kv_keys h2, by rw [List.length_map]; exact hl, fun zs p pz dz hn => ?_⟩
  have e : zs = ks := desc_same (pz.trans hp.symm) dz hd
  subst e
  exact q _ _ (same_new hn) (lst_ints s.trk hn)
theorem ev_sortedDI {kvs : List (Int × D)} {ks : List Int} (hi : es[i]? = some (.v (.ref a))) (hj : ms[j]? = some (a, .k kvs)) (hp : ks.Perm (kvs.map (·.1))) (hd : ks.Pairwise (· ≤ ·)) (hl : kvs.length < 64) :
    Ev H0 L0 ms es (tCB (fun xs H Q => ∃ (a : Addr) (kvs : List (Key × V)) (ks : List Int), xs = [V.ref a] ∧ Rd H a (.dK kvs) ∧ kvs.map (·.1) = ks.map Sum.inl ∧ ks.length < 64 ∧
      ∀ (ys : List Int) (p : Addr), ys.Perm ks → ys.Pairwise (· ≤ ·) → H p = none → Q (.ref p) (upd H p (.lst (ys.map V.int)))) (tCons (tVar i) tNil)) (.lst (ks.map D.int)) := fun σ H s Q q => by
  obtain ⟨ys, h1, h2⟩ := s.mu _ (List.mem_of_getElem? hj)
  refine ⟨.ref a, s.env.at_ i _ hi, a, ys, kvs.map (·.1), rfl, .inl h1, kv_keys h2, by rw [List.length_map]; exact hl, fun zs p pz dz hn => ?_⟩
  have e : zs = ks := List.Perm.eq_of_pairwise (fun x y _ _ h1 h2 => Int.le_antisymm h1 h2) dz hd (pz.trans hp.symm)
  subst e
  exact q _ _ (same_new hn) (lst_ints s.trk hn)
end
/-- what is known of the class of views -/
structure VT (K : PySem.W.Frag) (C : Addr) : Prop where
  cl : Cls K C
  nr : NoAttr K C "room"
  nf : NoAttr K C "first"
  na : NoAttr K C "axes"
def R_gathered (C : Addr) : List D → D → Prop := fun ds d => ∃ (r f1 f2 : Int) (A B : List P2), A.length ≤ 8 ∧ B.length ≤ 8 ∧ ds = [.vw C r f1 A, .vw C r f2 B] ∧ d = .tup [termsD (terms A B), .int (f2 - f1)]

theorem rgD_len (r : Rg) : (rgD r).length = r.length := List.length_map _
theorem rgD_keys (r : Rg) : (rgD r).map (·.1) = r.map (·.1) := by
  unfold rgD
  rw [List.map_map]
  rfl
theorem abs_eq (p : Int) : (if p < 0 then -p else p) = iabs p := rfl
theorem widen_step (sg : Int) (r : Rg) (A : List P2) {i : Nat} {a : P2} (h : A[i]? = some a) : widenAll sg r (A.take (i + 1)) = if a.2 ≠ 0 then Pm.widen (widenAll sg r (A.take i)) (sg * a.2) (a.1 - 1) else widenAll sg r (A.take i) := by
  rw [List.take_add_one, h, widenAll_append]
  rfl

section
variable {P : Program} {w : World} {K : PySem.W.Frag} {mg : Str → Option Value} {base : Heap}

theorem ok_widen (T : Txt mg) {f : Addr} {fd : FuncData} (F : Fun K "widen" "widen" s_widen f fd) : FnOk P w K mg base CX0 1 f fd ["ranges", "pace", "most"] spWiden := by
  refine F.ok sc_widen (fun vs H Q E h => ?_) (fun cdv A outer s H vs Q E hr h => ?_)
  · obtain ⟨L, a, r, p, m, rfl, _⟩ := h; rfl
  · obtain ⟨L, a, r, p, m, rfl, ha, tr, hmu, hl, q⟩ := h
    refine ⟨_, (pss_cons (ps_asg (pe_dget2 (hu_of hr) (pv 0) (pe_callB call_abs (by rfl) T.zabs (by decide +kernel) (pa_cons (pv 1) pa_nil)) (pe_tup (pa_cons pe_int (pa_cons pe_int pa_nil))) ⟨rfl, rfl, rfl, rfl⟩) (pg_tup rfl (pgs_cons (pg_name (i := 3) sc_widen.nd rfl (Or.inl rfl)) (pgs_cons (pg_name (i := 4) sc_widen.nd rfl (Or.inl rfl)) pgs_nil))))
    (pss_cons (ps_if (pt_cmpR op_gt (pv 1) pe_int (nomark _)) (pss_one (ps_set (i := 4) sc_widen.nd rfl (Or.inl rfl) (pe_op op_add (pv 4) (pv 2)))) (pss_one (ps_set (i := 3) sc_widen.nd rfl (Or.inl rfl) (pe_op op_sub (pv 3) (pv 2)))))
    (pss_one (ps_dput (hu_of hr) (pv 0) (pe_callB call_abs (by rfl) T.zabs (by decide +kernel) (pa_cons (pv 1) pa_nil)) (pe_tup (pa_cons (pv 3) (pa_cons (pv 4) pa_nil))) rfl)))), ?_⟩
    have st : St0 (hid [a] H) L [(a, .k (rgD r))] [.v (.ref a), .d (.int p), .d (.int m), .no, .no] (L2.start N_widen [.ref a, .int p, .int m]) H :=
      ⟨Same.refl _, tr, List.nodup_cons.mpr ⟨by simp, List.nodup_nil⟩, fun b hb => by rw [List.mem_singleton.mp hb]; exact ha, fun z hz => by rw [List.mem_singleton.mp hz]; exact hmu,
        env_cons rfl (env_cons ⟨_, rfl, .int p⟩ (env_cons ⟨_, rfl, .int m⟩ (env_no (env_no env_nil))))⟩
    have fin : ∀ v : P2, Pm.widen r p m = put r (iabs p) v → ∀ es, Nx (hid [a] H) L [(a, .k (kput (rgD r) (iabs p) (pairD v)))] es (fun _ H' => Q .non H') := fun v ev es σ' H' s' => by
      refine q H' s'.same ?_
      have h1 := s'.mu _ List.mem_cons_self
      have e : kput (rgD r) (iabs p) (pairD v) = rgD (put r (iabs p) v) := kput_map pairD r _ v
      rw [e, ← ev] at h1
      exact h1
    have hg : (klook (rgD r) (iabs p)).getD (.tup [.int 0, .int 0]) = pairD ((look r (iabs p)).getD (0, 0)) := by
      have : klook (rgD r) (iabs p) = (look r (iabs p)).map pairD := klook_map pairD r _
      rw [this]
      cases look r (iabs p) <;> rfl
    refine (?_ : Run (hid [a] H) L _ _ _ _) _ _ st
    have hz : (rgD r).length < 1000 := by rw [rgD_len]; omega
    refine q_asg (ss := [3, 4]) (Ev.of (ev_dget2 (j := 0) rfl rfl (ev_cb1 (ea_cons (ev_var rfl) ea_nil)) (ev_tup (ea_cons ev_int (ea_cons ev_int ea_nil)))) (show (klook (rgD r) (iabs p)).getD _ = pairD ((look r (iabs p)).getD (0, 0)) from hg)) (as_tup rfl (asl_cons (as_name (by decide)) (asl_cons (as_name (by decide)) asl_nil))) ?_
    generalize hq0 : (look r (iabs p)).getD (0, 0) = q0
    have wp : ∀ v : P2, (if 0 < p then (q0.1, q0.2 + m) else (q0.1 - m, q0.2)) = v → Pm.widen r p m = put r (iabs p) v := fun v hv => by
      unfold Pm.widen
      rw [hq0, hv]
    refine q_if (et_test (ev_gt (ev_var rfl) ev_int)) (fun hb => ?_) fun hb => ?_
    · refine s_set (ev_add (ev_var rfl) (ev_var rfl)) ?_
      exact s_dput (j := 0) (n := iabs p) (d := pairD (q0.1, q0.2 + m)) rfl rfl hz (ev_tup (ea_cons (ev_var rfl) (ea_cons (ev_var rfl) ea_nil))) (ev_cb1 (ea_cons (ev_var rfl) ea_nil)) (fin _ (wp _ (if_pos (of_decide_eq_true hb))) _)
    · refine s_set (ev_sub (ev_var rfl) (ev_var rfl)) ?_
      exact s_dput (j := 0) (n := iabs p) (d := pairD (q0.1 - m, q0.2)) rfl rfl hz (ev_tup (ea_cons (ev_var rfl) (ea_cons (ev_var rfl) ea_nil))) (ev_cb1 (ea_cons (ev_var rfl) ea_nil)) (fin _ (wp _ (if_neg (of_decide_eq_false hb))) _)

theorem ok_gathered {C : Addr} (T : Txt mg) (VC : VT K C) (C_widen : Fn P w K mg base 1 "widen" ["ranges", "pace", "most"] spWiden) {f : Addr} {fd : FuncData} (F : Fun K "gathered" "gathered" s_gathered f fd) :
    FnOk P w K mg base CX0 2 f fd ["one", "other"] (spP (R_gathered C)) := by
  refine ok_of F sc_gathered (fun ds d h => ?_) (by decide) fun cdv A outer s H E hr => ⟨_, (pss_cons (ps_if (pt_cmpR op_ne (pe_fld (pv 0) rfl) (pe_fld (pv 1) rfl) (nomark _)) pss_never pss_nil)
    (pss_cons (ps_set (i := 2) sc_gathered.nd rfl (Or.inr rfl) pe_dnewK)
    (pss_cons (ps_for PassesOwn.never rfl (pi_list (pe_fld (pv 0) rfl)) (pg_tup rfl (pgs_cons (pg_name (i := 3) sc_gathered.nd rfl (Or.inl rfl)) (pgs_cons (pg_name (i := 4) sc_gathered.nd rfl (Or.inl rfl)) pgs_nil))) (pss_one (ps_if (pt_cmpR op_ne (pv 4) pe_int (nomark _)) (pss_one (ps_expr (pe_fn C_widen (hr.mono (by decide)) (by rfl) (pa_cons (pv 2) (pa_cons (pv 4) (pa_cons (pe_op op_sub (pv 3) pe_int) pa_nil)))))) pss_nil)))
    (pss_cons (ps_for PassesOwn.never rfl (pi_list (pe_fld (pv 1) rfl)) (pg_tup rfl (pgs_cons (pg_name (i := 3) sc_gathered.nd rfl (Or.inl rfl)) (pgs_cons (pg_name (i := 4) sc_gathered.nd rfl (Or.inl rfl)) pgs_nil))) (pss_one (ps_if (pt_cmpR op_ne (pv 4) pe_int (nomark _)) (pss_one (ps_expr (pe_fn C_widen (hr.mono (by decide)) (by rfl) (pa_cons (pv 2) (pa_cons (pe_op op_sub pe_int (pv 4)) (pa_cons (pe_op op_sub (pv 3) pe_int) pa_nil)))))) pss_nil)))
    (pss_cons (ps_setLc (i := 5) (own := [("times", 6)]) (g := (gName 6)) (tt := tYes) rfl sc_gathered.nd rfl rfl (sw_true rfl rfl rfl (by decide +kernel)) (pi_list (pe_callBK (cr_sortedDR rfl) (by rfl) T.zsorted (by decide +kernel) (pa_cons (pv 2) pa_nil) (pk_cons pe_bl pk_nil))) (blkOk_by (own := [("times", 6)]) (N := N_gathered) (sc := defScope s_gathered) (by decide +kernel)) (fun _ _ _ _ _ => (pg_name (i := 6) sc_gathered.nd rfl (Or.inl rfl))) (fun _ _ _ _ _ => pts_nil) (fun _ _ _ _ _ => (pe_op (catT (K := K)) (pe_tup (pa_cons (pv 6) pa_nil)) (pe_dget (hu_of hr) (pv 2) (pv 6) (fun _ _ => rfl)))))
    (pss_one (ps_ret (pe_tup (pa_cons (pv 5) (pa_cons (pe_op op_sub (pe_fld (pv 1) rfl) (pe_fld (pv 0) rfl)) pa_nil)))))))))), fun L ds d Q h k => ?_⟩
  · obtain ⟨r, f1, f2, A, B, _, _, rfl, _⟩ := h; rfl
  · obtain ⟨r, f1, f2, A, B, hA, hB, rfl, rfl⟩ := h
    refine q_pass (EvT.of (et_test (ev_ne rfl (ev_room VC.cl VC.nr (ev_var rfl)) (ev_room VC.cl VC.nr (ev_var rfl)))) (by simp [sameD])) ?_
    refine q_ownK fun a => ?_
    have lenA : ∀ i, (widenAll 1 [] (A.take i)).length ≤ 8 := fun i => by
      have := widenAll_len 1 (A.take i) []
      rw [List.length_take, List.length_nil] at this
      omega
    have lenB : ∀ i, (widenAll (-1) (widenAll 1 [] A) (B.take i)).length ≤ 16 := fun i => by
      have h1 := widenAll_len (-1) (B.take i) (widenAll 1 [] A)
      have h2 := lenA A.length
      rw [List.take_of_length_le (Nat.le_refl _)] at h2
      rw [List.length_take] at h1
      omega
    -- the axes of the one
    refine q_for (α := Rg) (fd_list (ev_axes VC.cl VC.na (ev_var rfl))) (fun r' => [(a, .k (rgD r'))]) (fun _ => [.d (.vw C r f1 A), .d (.vw C r f2 B), .v (.ref a), .no, .no, .no, .no]) (fun i r' => r' = widenAll 1 [] (A.take i)) [] rfl rfl (Wk.refl _) ?_ ?_
    · intro B' hB' i d r' hd hr'
      rw [List.getElem?_map] at hd
      cases e : A[i]? with
      | none => rw [e] at hd; cases hd
      | some x =>
        rw [e] at hd
        cases hd
        refine ⟨_, [3, 4], as_tup rfl (asl_cons (as_name (by decide)) (asl_cons (as_name (by decide)) asl_nil)), fun N hN => ?_⟩
        have st := widen_step 1 [] A e
        refine s_if (et_test (ev_ne rfl (ev_var rfl) ev_int)) (fun hb => ?_) fun hb => ?_
        · have hx : x.2 ≠ 0 := by simpa [sameD] using hb
          refine run_widen (j := 0) (r := r') rfl rfl (by rw [hr']; have := lenA i; omega) (ev_var rfl) (ev_sub (ev_var rfl) ev_int) (hN _ ?_ _ (.keep (.keep (.keep (.drop (.drop (.keep (.keep .nil))))))))
          rw [st, if_pos hx, ← hr', Int.one_mul]
        · have hx : ¬ x.2 ≠ 0 := by simpa [sameD] using hb
          refine s_next (hN _ ?_ _ (.keep (.keep (.keep (.drop (.drop (.keep (.keep .nil))))))))
          rw [st, if_neg hx, ← hr']
    intro r1 hr1
    rw [List.length_map, List.take_of_length_le (Nat.le_refl _)] at hr1
    -- the axes of the other
    refine q_for (α := Rg) (fd_list (ev_axes VC.cl VC.na (ev_var rfl))) (fun r' => [(a, .k (rgD r'))]) (fun _ => [.d (.vw C r f1 A), .d (.vw C r f2 B), .v (.ref a), .no, .no, .no, .no]) (fun i r' => r' = widenAll (-1) (widenAll 1 [] A) (B.take i)) r1 hr1 rfl (Wk.refl _) ?_ ?_
    · intro B' hB' i d r' hd hr'
      rw [List.getElem?_map] at hd
      cases e : B[i]? with
      | none => rw [e] at hd; cases hd
      | some x =>
        rw [e] at hd
        cases hd
        refine ⟨_, [3, 4], as_tup rfl (asl_cons (as_name (by decide)) (asl_cons (as_name (by decide)) asl_nil)), fun N hN => ?_⟩
        have st := widen_step (-1) (widenAll 1 [] A) B e
        refine s_if (et_test (ev_ne rfl (ev_var rfl) ev_int)) (fun hb => ?_) fun hb => ?_
        · have hx : x.2 ≠ 0 := by simpa [sameD] using hb
          refine run_widen (j := 0) (r := r') rfl rfl (by rw [hr']; have := lenB i; omega) (ev_sub ev_int (ev_var rfl)) (ev_sub (ev_var rfl) ev_int) (hN _ ?_ _ (.keep (.keep (.keep (.drop (.drop (.keep (.keep .nil))))))))
          rw [st, if_pos hx, ← hr', show (-1 : Int) * x.2 = 0 - x.2 by omega]
        · have hx : ¬ x.2 ≠ 0 := by simpa [sameD] using hb
          refine s_next (hN _ ?_ _ (.keep (.keep (.keep (.drop (.drop (.keep (.keep .nil))))))))
          rw [st, if_neg hx, ← hr']
    intro r2 hr2
    rw [List.length_map, List.take_of_length_le (Nat.le_refl _)] at hr2
    have hr2' : r2 = gath A B := hr2
    have hl2 : r2.length ≤ 16 := by
      have := lenB B.length
      rw [List.take_of_length_le (Nat.le_refl _)] at this
      rw [hr2]
      exact this
    refine q_set (EvN.ev (ds := (sortD (r2.map (·.1))).map fun t => tD (t, (look r2 t).getD (0, 0))) ?_) ?_
    · refine en_map (γ := Int) (sortD (r2.map (·.1))) D.int (fun t => tD (t, (look r2 t).getD (0, 0))) ?hf ?hz ?hno ?hs
      case hf => exact fd_list (ev_sortedDR (j := 0) (kvs := rgD r2) rfl rfl (by rw [rgD_keys]; exact sortD_perm _) (sortD_desc _) (by rw [rgD_len]; omega))
      case hno => rfl
      case hs =>
        intro B' Dl acc hB' t ht
        refine ⟨_, as_name (by decide), ?_⟩
        have hk : t ∈ r2.map (·.1) := (sortD_perm _).mem_iff.mp ht
        have hlk : ∃ v, look r2 t = some v := by
          obtain ⟨q, hq, eq⟩ := List.mem_map.mp hk
          unfold look
          cases e : r2.find? fun q => decide (q.1 = t) with
          | none => exact absurd (by simpa using eq) (List.find?_eq_none.mp e q hq)
          | some x => exact ⟨x.2, rfl⟩
        obtain ⟨v, hv⟩ := hlk
        have hkl : klook (rgD r2) t = some (pairD v) := by
          have : klook (rgD r2) t = (look r2 t).map pairD := klook_map pairD r2 t
          rw [this, hv]
          rfl
        refine Ev.of (ev_catT (ds := [.int t]) (ds' := [.int v.1, .int v.2]) (Nat.le_of_ble_eq_true rfl) (by simp) (by simp) (ev_tup (ea_cons (ev_var rfl) ea_nil)) (ev_dget (j := 1) rfl rfl hkl (ev_var rfl))) ?_
        rw [hv]
        rfl
      case hz =>
        rw [(sortD_perm _).length_eq, List.length_map]
        omega
    refine s_ret (ev_tup (ea_cons (ev_var rfl) (ea_cons (ev_sub (ev_first VC.cl VC.nf (ev_var rfl)) (ev_first VC.cl VC.nf (ev_var rfl))) ea_nil))) ?_
    rw [hr2', show ((sortD ((gath A B).map (·.1))).map fun t => tD (t, (look (gath A B) t).getD (0, 0))) = (terms A B).map tD by unfold terms termsOf; rw [List.map_map]; rfl]
    exact k
end
end Pc

set_option Elab.async false
set_option linter.all false
set_option maxRecDepth 100000
set_option maxHeartbeats 4000000
/-! places by numbers. -/
namespace Pc
open PySem PySem.Spec PyProof.Rows L2 Pm

theorem placeBy_snoc (sg : Int) : ∀ (A : List P2) (nums : List (Int × Int)) (x : P2), placeBy sg nums (A ++ [x]) = ((placeBy sg nums A).1 ++ [(placeStep sg (placeBy sg nums A).2 x).1], (placeStep sg (placeBy sg nums A).2 x).2)
  | [], nums, x => rfl
  | y :: A, nums, x => by
    show ((placeStep sg nums y).1 :: (placeBy sg (placeStep sg nums y).2 (A ++ [x])).1, (placeBy sg (placeStep sg nums y).2 (A ++ [x])).2) = _
    rw [placeBy_snoc sg A]
    rfl
theorem put_mem {α : Type} {r : List (Int × α)} {k j : Int} {v : α} (h : j ∈ r.map (·.1)) : j ∈ (put r k v).map (·.1) := by
  rw [put_keys]
  split
  · exact h
  · exact List.mem_append_left _ h
theorem step_mem {sg : Int} {nums : List (Int × Int)} {x : P2} {j : Int} (h : j ∈ nums.map (·.1)) : j ∈ ((placeStep sg nums x).2).map (·.1) := by
  unfold placeStep
  split
  · exact put_mem h
  · split
    · exact put_mem h
    · exact h
theorem placeBy_mem {sg : Int} {j : Int} : ∀ (A : List P2) {nums : List (Int × Int)}, j ∈ nums.map (·.1) → j ∈ ((placeBy sg nums A).2).map (·.1)
  | [], _, h => h
  | x :: A, _, h => placeBy_mem A (step_mem h)
theorem step_len (sg : Int) (nums : List (Int × Int)) (x : P2) : ((placeStep sg nums x).2).length ≤ nums.length + 1 := by
  unfold placeStep
  split
  · exact put_len _ _ _
  · split
    · exact put_len _ _ _
    · show nums.length ≤ _
      omega
theorem placeBy_len (sg : Int) : ∀ (A : List P2) (nums : List (Int × Int)), ((placeBy sg nums A).2).length ≤ nums.length + A.length ∧ ((placeBy sg nums A).1).length = A.length
  | [], nums => ⟨Nat.le_refl _, rfl⟩
  | x :: A, nums => by
    have h := placeBy_len sg A (placeStep sg nums x).2
    have h2 := step_len sg nums x
    refine ⟨?_, ?_⟩
    · show ((placeBy sg (placeStep sg nums x).2 A).2).length ≤ _
      rw [List.length_cons]
      omega
    · show ((placeStep sg nums x).1 :: (placeBy sg (placeStep sg nums x).2 A).1).length = _
      rw [List.length_cons, List.length_cons, h.2]
theorem look_of_mem {α : Type} {r : List (Int × α)} {k : Int} (h : k ∈ r.map (·.1)) : ∃ v, look r k = some v := by
  obtain ⟨q, hq, eq⟩ := List.mem_map.mp h
  unfold look
  cases e : r.find? fun q => decide (q.1 = k) with
  | none => exact absurd (by simpa using eq) (List.find?_eq_none.mp e q hq)
  | some x => exact ⟨x.2, rfl⟩
theorem max_min (s n : Int) : (if (if n < s then n else s) > 0 then (if n < s then n else s) else 0) = max 0 (min s n) := by
  split <;> split <;> omega

def spPlace (C : Addr) : Sp := fun vs H Q _ => ∃ (L : List Addr) (a : Addr) (r f sg : Int) (A : List P2) (nums : List (Int × Int)) (v : V), vs = [v, .int sg, .ref a] ∧ a ∉ L ∧ (∀ z ∈ a :: L, H z ≠ none) ∧ Dt (hid (a :: L) H) v (.vw C r f A) ∧
  MuAt (hid (a :: L) H) H a (.k (nsD nums)) ∧ A.length ≤ 8 ∧ nums.length ≤ 100 ∧ (sg = 1 ∨ sg = -1) ∧ (∀ x ∈ A, x.2 ≠ 0 → iabs x.2 ∈ nums.map (·.1)) ∧
  ∀ u H', Same (hid [a] H) (hid [a] H') → MuAt (hid (a :: L) H') H' a (.k (nsD (placeBy sg nums A).2)) → Dt (hid (a :: L) H') u (.tup ((placeBy sg nums A).1.map D.int)) → Q u H'

section
variable {H0 : Hp} {L0 : List Addr} {ms : List (Addr × Mu)} {es : List En} {tv tsg : TE} {E : Ends} {us : TS} {i j : Nat} {sg r f : Int} {a C : Addr} {A : List P2} {nums : List (Int × Int)} {X : XK} {σ : L2.St} {H : Hp}
theorem place_call (hi : es[i]? = some (.v (.ref a))) (hj : ms[j]? = some (a, .k (nsD nums))) (hv : Ev H0 L0 ms es tv (.vw C r f A)) (hs : Ev H0 L0 ms es tsg (.int sg)) (hA : A.length ≤ 8) (hn : nums.length ≤ 100) (h1 : sg = 1 ∨ sg = -1) (hk : ∀ x ∈ A, x.2 ≠ 0 → iabs x.2 ∈ nums.map (·.1))
    (s : St0 H0 L0 ms es σ H) {Q : VK} (q : ∀ u H', St0 H0 L0 (ms.set j (a, .k (nsD (placeBy sg nums A).2))) es σ H' → (∀ b o, b ≠ a → H b = some o → H' b = some o) → Dt (hid (hm L0 ms) H') u (.tup ((placeBy sg nums A).1.map D.int)) → Q u H') :
    tCall (spPlace C) [] X (tCons tv (tCons tsg (tCons (tVar i) tNil))) σ H Q := by
  refine hv σ H s _ fun v H1 e1 k1 => hs σ H1 (s.grow e1) _ fun w H2 e2 k2 => ⟨.ref a, s.env.at_ i _ hi, ?_⟩
  cases k2
  have s2 := s.grow (e1.trans e2)
  refine ⟨oth L0 ms j, a, r, f, sg, A, nums, v, rfl, oth_out s2 hj, oth_trk s2 hj, by rw [oth_hid hj]; exact k1.mo (hid_mono e2), ?_, hA, hn, h1, hk, fun u H' hs hn hd => ?_⟩
  · rw [oth_hid hj]
    exact s2.mu _ (List.mem_of_getElem? hj)
  · rw [oth_hid hj] at hn hd
    refine q u H' (s2.mutG hj hs hn) (fun b o hb e => ?_) hd
    have e2' : H2 b = some o := (e1.trans e2) b o e
    have q1 : hid [a] H2 b = some o := by rw [hid_out (by simpa using hb)]; exact e2'
    exact (hid_some (hs _ _ q1)).2
end

def R_places_by (C : Addr) : List D → D → Prop := fun ds d => ∃ (r f1 f2 : Int) (A B : List P2) (ts : List T3) (c : List P2), A.length ≤ 8 ∧ B.length ≤ 8 ∧ ts.length ≤ 50 ∧
  (∀ x, x ∈ A ∨ x ∈ B → x.2 ≠ 0 → iabs x.2 ∈ (numbersOf ts c).map (·.1)) ∧ ds = [.vw C r f1 A, .vw C r f2 B, termsD ts, caseD c] ∧ d = .tup [.tup ((placesBy A B ts c).1.map D.int), .tup ((placesBy A B ts c).2.map D.int)]
theorem numbers_len (ts : List T3) (c : List P2) : ∀ (i : Nat), (((ts.zip c).take i).foldl (fun r p => put r p.1.1 p.2.1) ([] : List (Int × Int))).length ≤ ts.length := by
  have h : ∀ (l : List (T3 × P2)) (r : List (Int × Int)), (l.foldl (fun r p => put r p.1.1 p.2.1) r).length ≤ r.length + l.length := by
    intro l
    induction l with
    | nil => intro r; exact Nat.le_refl _
    | cons p l ih =>
      intro r
      rw [List.foldl_cons, List.length_cons]
      have := ih (put r p.1.1 p.2.1)
      have := put_len r p.1.1 p.2.1
      omega
  intro i
  have := h ((ts.zip c).take i) []
  rw [List.length_nil, List.length_take, List.length_zip] at this
  omega

section
variable {P : Program} {w : World} {K : PySem.W.Frag} {mg : Str → Option Value} {base : Heap}

theorem ok_place_by {C : Addr} (T : Txt mg) (VC : VT K C) {f : Addr} {fd : FuncData} (F : Fun K "place_by" "place_by" s_place_by f fd) : FnOk P w K mg base CX0 1 f fd ["view", "sign", "numbers"] (spPlace C) := by
  refine F.ok sc_place_by (fun vs H Q E h => ?_) (fun cdv A outer s H vs Q E hr h => ?_)
  · obtain ⟨L, a, r, f, sg, A, nums, v, rfl, _⟩ := h; rfl
  · obtain ⟨L, a, r, f0, sg, ax, nums, v, rfl, ha, tr, hv, hmu, hA, hn, hsg, hk, q⟩ := h
    refine ⟨_, (pss_cons (ps_set (i := 3) sc_place_by.nd rfl (Or.inl rfl) (pe_lst pa_nil))
    (pss_cons (ps_for PassesOwn.never rfl (pi_list (pe_fld (pv 0) rfl)) (pg_tup rfl (pgs_cons (pg_name (i := 4) sc_place_by.nd rfl (Or.inl rfl)) (pgs_cons (pg_name (i := 5) sc_place_by.nd rfl (Or.inl rfl)) pgs_nil))) (pss_cons (ps_set (i := 6) sc_place_by.nd rfl (Or.inl rfl) pe_int)
    (pss_cons (ps_if (pt_cmpR op_gt (pe_op op_mul (pv 5) (pv 1)) pe_int (nomark _)) (pss_cons (ps_set (i := 6) sc_place_by.nd rfl (Or.inl rfl) (pe_callB (call_max2 rfl) (by rfl) T.zmax (by decide +kernel) (pa_cons pe_int (pa_cons (pe_callB (call_min2 rfl) (by rfl) T.zmin (by decide +kernel) (pa_cons (pe_op op_sub (pv 4) pe_int) (pa_cons (pe_dget (hu_of hr) (pv 2) (pe_callB call_abs (by rfl) T.zabs (by decide +kernel) (pa_cons (pv 5) pa_nil)) (fun _ _ => rfl)) pa_nil))) pa_nil))))
    (pss_one (ps_dput (hu_of hr) (pv 2) (pe_callB call_abs (by rfl) T.zabs (by decide +kernel) (pa_cons (pv 5) pa_nil)) (pe_op op_sub (pe_dget (hu_of hr) (pv 2) (pe_callB call_abs (by rfl) T.zabs (by decide +kernel) (pa_cons (pv 5) pa_nil)) (fun _ _ => rfl)) (pv 6)) rfl))) pss_nil)
    (pss_cons (ps_if (pt_cmpR op_lt (pe_op op_mul (pv 5) (pv 1)) pe_int (nomark _)) (pss_cons (ps_set (i := 6) sc_place_by.nd rfl (Or.inl rfl) (pe_callB (call_max2 rfl) (by rfl) T.zmax (by decide +kernel) (pa_cons pe_int (pa_cons (pe_callB (call_min2 rfl) (by rfl) T.zmin (by decide +kernel) (pa_cons (pe_op op_sub (pv 4) pe_int) (pa_cons (pe_op op_sub pe_int (pe_dget (hu_of hr) (pv 2) (pe_callB call_abs (by rfl) T.zabs (by decide +kernel) (pa_cons (pv 5) pa_nil)) (fun _ _ => rfl))) pa_nil))) pa_nil))))
    (pss_one (ps_dput (hu_of hr) (pv 2) (pe_callB call_abs (by rfl) T.zabs (by decide +kernel) (pa_cons (pv 5) pa_nil)) (pe_op op_add (pe_dget (hu_of hr) (pv 2) (pe_callB call_abs (by rfl) T.zabs (by decide +kernel) (pa_cons (pv 5) pa_nil)) (fun _ _ => rfl)) (pv 6)) rfl))) pss_nil)
    (pss_one (ps_expr (pe_bm PySem.F.plainAttrs_list PySem.F.slot_list_append PySem.F.type_list_append mt_append (pv 3) (pa_cons (pv 6) pa_nil))))))))
    (pss_one (ps_ret (pe_callTy call_tuple_of (by rfl) T.ztuple (by decide +kernel) (pa_cons (pv 3) pa_nil)))))), ?_⟩
    have st : St0 (hid [a] H) L [(a, .k (nsD nums))] [.d (.vw C r f0 ax), .d (.int sg), .v (.ref a), .no, .no, .no, .no] (L2.start N_place_by [v, .int sg, .ref a]) H :=
      ⟨Same.refl _, tr, List.nodup_cons.mpr ⟨by simp, List.nodup_nil⟩, fun b hb => by rw [List.mem_singleton.mp hb]; exact ha, fun z hz => by rw [List.mem_singleton.mp hz]; exact hmu,
        env_cons ⟨_, rfl, hv⟩ (env_cons ⟨_, rfl, .int sg⟩ (env_cons rfl (env_no (env_no (env_no (env_no env_nil))))))⟩
    refine (?_ : Run (hid [a] H) L _ _ _ _) _ _ st
    refine q_own (en_lst ea_nil) fun p => ?_
    refine q_for (α := List Int × List (Int × Int)) (fd_list (ev_axes VC.cl VC.na (ev_var rfl))) (fun z => [(p, .l (z.1.map D.int)), (a, .k (nsD z.2))]) (fun _ => [.d (.vw C r f0 ax), .d (.int sg), .v (.ref a), .v (.ref p), .no, .no, .no]) (fun i z => z = placeBy sg nums (ax.take i)) ([], nums) rfl rfl (Wk.refl _) ?_ ?_
    · intro B hB i d z hd hz
      rw [List.getElem?_map] at hd
      cases e : ax[i]? with
      | none => rw [e] at hd; cases hd
      | some x =>
        rw [e] at hd
        cases hd
        obtain ⟨pl, nu⟩ := z
        have hst : placeBy sg nums (ax.take (i + 1)) = (pl ++ [(placeStep sg nu x).1], (placeStep sg nu x).2) := by
          rw [List.take_add_one, e]
          show placeBy sg nums (ax.take i ++ [x]) = _
          rw [placeBy_snoc, ← hz]
        have hl := placeBy_len sg (ax.take i) nums
        rw [← hz, List.length_take] at hl
        have hpl : (pl.map D.int).length < 1000 := by
          rw [List.length_map]
          have : pl.length = min i ax.length := hl.2
          omega
        have hnl : (nsD nu).length < 1000 := by
          rw [show (nsD nu).length = nu.length from List.length_map _]
          have : nu.length ≤ nums.length + min i ax.length := hl.1
          omega
        have hkey : x.2 ≠ 0 → ∃ n, look nu (iabs x.2) = some n := fun h0 => by
          have h1 := hk x (List.mem_of_getElem? e) h0
          have h2 := placeBy_mem (sg := sg) (ax.take i) h1
          rw [← hz] at h2
          exact look_of_mem h2
        have hkl : ∀ n, look nu (iabs x.2) = some n → klook (nsD nu) (iabs x.2) = some (.int n) := fun n hn' => by
          have : klook (nsD nu) (iabs x.2) = (look nu (iabs x.2)).map D.int := klook_map D.int nu _
          rw [this, hn']
          rfl
        have hput : ∀ v, kput (nsD nu) (iabs x.2) (.int v) = nsD (put nu (iabs x.2) v) := fun v => kput_map D.int nu _ v
        have cm : ∀ y : Int, CMul y sg := fun y => .inr (by rcases hsg with h | h <;> rw [h] <;> decide)
        have app : ∀ (y : Int) (ys : List Int), (ys.map D.int) ++ [D.int y] = (ys ++ [y]).map D.int := fun y ys => by rw [List.map_append]; rfl
        refine ⟨_, [4, 5], as_tup rfl (asl_cons (as_name (by decide)) (asl_cons (as_name (by decide)) asl_nil)), fun N hN => ?_⟩
        have fin : ∀ (at_ : Int) (nu' : List (Int × Int)), placeStep sg nu x = (at_, nu') → ∀ es2, Wk es2 [.d (.vw C r f0 ax), .d (.int sg), .v (.ref a), .v (.ref p), .no, .no, .no] → Nx B L [(p, .l (pl.map D.int ++ [.int at_])), (a, .k (nsD nu'))] es2 N := fun at_ nu' hs es2 w => by
          rw [app]
          exact hN (pl ++ [at_], nu') (by rw [hst, hs]) es2 w
        have wk : ∀ e1 e2 e3 : En, Wk [.d (.vw C r f0 ax), .d (.int sg), .v (.ref a), .v (.ref p), e1, e2, e3] [.d (.vw C r f0 ax), .d (.int sg), .v (.ref a), .v (.ref p), .no, .no, .no] := fun _ _ _ => .keep (.keep (.keep (.keep (.drop (.drop (.drop .nil))))))
        refine q_set ev_int ?_
        by_cases hp : 0 < x.2 * sg
        · have h0 : x.2 ≠ 0 := fun z => by rw [z, Int.zero_mul] at hp; exact absurd hp (Int.lt_irrefl _)
          obtain ⟨n, hn1⟩ := hkey h0
          refine q_true (EvT.of (et_test (ev_gt (ev_mul (cm _) (ev_var rfl) (ev_var rfl)) ev_int)) (decide_eq_true hp)) ?_
          refine q_set (d := .int (max 0 (min (x.1 - 1) n))) (Ev.of (ev_cb2 (ea_cons ev_int (ea_cons (ev_cb2 (ea_cons (ev_sub (ev_var rfl) ev_int) (ea_cons (ev_dget (j := 1) rfl rfl (hkl n hn1) (ev_cb1 (ea_cons (ev_var rfl) ea_nil))) ea_nil))) ea_nil))) ?_) ?_
          · exact congrArg D.int (max_min _ _)
          refine s_dput (j := 1) (n := iabs x.2) (d := .int (n - max 0 (min (x.1 - 1) n))) rfl rfl hnl (ev_sub (ev_dget (j := 1) rfl rfl (hkl n hn1) (ev_cb1 (ea_cons (ev_var rfl) ea_nil))) (ev_var rfl)) (ev_cb1 (ea_cons (ev_var rfl) ea_nil)) ?_
          refine q_false (EvT.of (et_test (ev_lt (ev_mul (cm _) (ev_var rfl) (ev_var rfl)) ev_int)) (decide_eq_false (by omega))) ?_
          rw [hput]
          refine s_app (j := 0) (ds := pl.map D.int) rfl rfl hpl (ev_var rfl) (fin _ _ ?_ _ (wk _ _ _))
          unfold placeStep
          rw [if_pos hp, hn1]
          rfl
        · refine q_false (EvT.of (et_test (ev_gt (ev_mul (cm _) (ev_var rfl) (ev_var rfl)) ev_int)) (decide_eq_false hp)) ?_
          by_cases hp2 : x.2 * sg < 0
          · have h0 : x.2 ≠ 0 := fun z => by rw [z, Int.zero_mul] at hp2; exact absurd hp2 (Int.lt_irrefl _)
            obtain ⟨n, hn1⟩ := hkey h0
            refine q_true (EvT.of (et_test (ev_lt (ev_mul (cm _) (ev_var rfl) (ev_var rfl)) ev_int)) (decide_eq_true hp2)) ?_
            refine q_set (d := .int (max 0 (min (x.1 - 1) (0 - n)))) (Ev.of (ev_cb2 (ea_cons ev_int (ea_cons (ev_cb2 (ea_cons (ev_sub (ev_var rfl) ev_int) (ea_cons (ev_sub ev_int (ev_dget (j := 1) rfl rfl (hkl n hn1) (ev_cb1 (ea_cons (ev_var rfl) ea_nil)))) ea_nil))) ea_nil))) ?_) ?_
            · exact congrArg D.int (max_min _ _)
            refine s_dput (j := 1) (n := iabs x.2) (d := .int (n + max 0 (min (x.1 - 1) (0 - n)))) rfl rfl hnl (ev_add (ev_dget (j := 1) rfl rfl (hkl n hn1) (ev_cb1 (ea_cons (ev_var rfl) ea_nil))) (ev_var rfl)) (ev_cb1 (ea_cons (ev_var rfl) ea_nil)) ?_
            rw [hput]
            refine s_app (j := 0) (ds := pl.map D.int) rfl rfl hpl (ev_var rfl) (fin _ _ ?_ _ (wk _ _ _))
            unfold placeStep
            rw [if_neg hp, if_pos hp2, hn1]
            rfl
          · refine q_false (EvT.of (et_test (ev_lt (ev_mul (cm _) (ev_var rfl) (ev_var rfl)) ev_int)) (decide_eq_false hp2)) ?_
            refine s_app (j := 0) (ds := pl.map D.int) rfl rfl hpl (ev_var rfl) (fin _ _ ?_ _ (wk _ _ _))
            unfold placeStep
            rw [if_neg hp, if_neg hp2]
    · intro z hz
      rw [List.length_map, List.take_of_length_le (Nat.le_refl _)] at hz
      refine run_freeze (j := 0) (i := 3) (a := p) (ds := z.1.map D.int) rfl rfl ?_
      intro σ H2 s2
      refine ev_tupOf (ea_cons (ev_var rfl) ea_nil) σ H2 s2 _ fun u H3 e3 k3 => ?_
      have s3 := s2.grow e3
      rw [hz] at s3 k3
      exact q u H3 s3.same (s3.mu _ List.mem_cons_self) k3
end
end Pc

set_option Elab.async false
set_option linter.all false
set_option maxRecDepth 100000
set_option maxHeartbeats 4000000
/-! the search. -/
namespace Pc
open PySem PySem.Spec PyProof.Rows L2 Pm

def stackD (st : List (List P2)) : List D := st.reverse.map caseD
theorem stackD_cons (c : List P2) (st : List (List P2)) : stackD (c :: st) = stackD st ++ [caseD c] := by
  unfold stackD
  rw [List.reverse_cons, List.map_append]
  rfl
theorem stackD_len (st : List (List P2)) : (stackD st).length = st.length := by
  unfold stackD
  rw [List.length_map, List.length_reverse]
theorem can_map {α : Type} (f : α → D) (h : ∀ x, (py (f x)).canLay0 = true) : ∀ l : List α, PyData.canLayAll0 (pys (l.map f)) = true
  | [] => rfl
  | x :: l => by
    rw [List.map_cons]
    unfold pys PyData.canLayAll0
    rw [h x, can_map f h l]
    rfl
theorem dep_map {α : Type} (f : α → D) {k : Nat} (h : ∀ x, (py (f x)).depth ≤ k) : ∀ l : List α, PyData.depthAll (pys (l.map f)) ≤ k
  | [] => by simp [pys, PyData.depthAll]
  | x :: l => by
    have h1 := h x
    have h2 := dep_map f h l
    rw [List.map_cons]
    unfold pys PyData.depthAll
    omega
theorem pair_can (p : P2) : (py (pairD p)).canLay0 = true := by simp [pairD, py, pys, PyData.canLay0, PyData.canLayAll0]
theorem pair_dep (p : P2) : (py (pairD p)).depth ≤ 3 := by simp [pairD, py, pys, PyData.depth, PyData.depthAll]
theorem case_can (c : List P2) : (py (caseD c)).canLay0 = true := by
  unfold caseD py PyData.canLay0
  exact can_map pairD pair_can c
theorem case_dep (c : List P2) : (py (caseD c)).depth ≤ 4 := by
  have := dep_map pairD pair_dep c
  unfold caseD py PyData.depth
  omega
theorem stack_shaped (st : List (List P2)) : SeqAt.shaped (py (.lst (stackD st))) = true := by
  have h1 := can_map caseD case_can st.reverse
  have h2 := dep_map caseD case_dep st.reverse
  unfold SeqAt.shaped
  rw [Bool.and_eq_true]
  refine ⟨?_, decide_eq_true ?_⟩
  · unfold py PyData.canLay0
    exact h1
  · unfold py PyData.depth
    have h3 : PyData.depthAll (pys (stackD st)) ≤ 4 := h2
    omega
theorem nil_shaped : SeqAt.shaped (py (.lst [])) = true := by decide +kernel
theorem eqv_nil (st : List (List P2)) : PyData.eqv (py (.lst (stackD st))) (py (.lst [])) = st.isEmpty := by
  cases st with
  | nil => rfl
  | cons c st =>
    rw [stackD_cons]
    have : ∃ x xs, stackD st ++ [caseD c] = x :: xs := by
      cases h : stackD st with
      | nil => exact ⟨_, _, rfl⟩
      | cons x xs => exact ⟨_, _, rfl⟩
    obtain ⟨x, xs, e⟩ := this
    rw [e]
    simp [py, pys, PyData.eqv, PyData.eqvAll]
theorem lower_len {c : List P2} {k : Nat} {a : Int} (h : k < c.length) : (lower c k a).length = c.length := by
  unfold lower
  rw [List.length_append, List.length_cons, List.length_take, List.length_drop]
  omega
theorem upper_len {c : List P2} {k : Nat} {a : Int} (h : k < c.length) : (upper c k a).length = c.length := by
  unfold upper
  rw [List.length_append, List.length_cons, List.length_take, List.length_drop]
  omega
def outD (A B : List P2) (ts : List T3) : Out → D
  | .opn => .tup [.str "open"]
  | .shared c => .tup [.str "shared", .tup ((placesBy A B ts c).1.map D.int), .tup ((placesBy A B ts c).2.map D.int)]
  | .apart paper => .tup [.str "apart", .lst (paper.map stepD)]
def R_sought (C : Addr) : List D → D → Prop := fun ds d => ∃ (r f1 f2 : Int) (A B : List P2) (most : Nat), A.length ≤ 8 ∧ B.length ≤ 8 ∧ TOk (terms A B) ∧ (terms A B).length ≤ 50 ∧ most ≤ 200 ∧
  (∀ x, x ∈ A ∨ x ∈ B → x.2 ≠ 0 → iabs x.2 ∈ (terms A B).map (·.1)) ∧ ds = [.vw C r f1 A, .vw C r f2 B, .int (most : Int)] ∧ d = outD A B (terms A B) (search (terms A B) (f2 - f1) most [wholeCase (terms A B)] [])
theorem numbers_mem {k : Int} : ∀ {ts : List T3} {c : List P2}, c.length = ts.length → k ∈ ts.map (·.1) → k ∈ (numbersOf ts c).map (·.1) := by
  have keep : ∀ (l : List (T3 × P2)) (r : List (Int × Int)), k ∈ r.map (·.1) → k ∈ (l.foldl (fun r p => put r p.1.1 p.2.1) r).map (·.1) := by
    intro l
    induction l with
    | nil => intro r h; exact h
    | cons p l ih => intro r h; exact ih _ (put_mem h)
  have go : ∀ (l : List (T3 × P2)) (r : List (Int × Int)), (∃ p ∈ l, p.1.1 = k) → k ∈ (l.foldl (fun r p => put r p.1.1 p.2.1) r).map (·.1) := by
    intro l
    induction l with
    | nil => intro r h; obtain ⟨p, hp, _⟩ := h; simp at hp
    | cons p l ih =>
      intro r h
      rw [List.foldl_cons]
      obtain ⟨q, hq, e⟩ := h
      rcases List.mem_cons.mp hq with z | z
      · refine keep l _ ?_
        rw [put_keys, ← e, z]
        split
        · rename_i hh
          obtain ⟨y, hy, ey⟩ := List.any_eq_true.mp hh
          exact List.mem_map.mpr ⟨y, hy, of_decide_eq_true ey⟩
        · exact List.mem_append_right _ List.mem_cons_self
      · exact ih _ ⟨q, z, e⟩
  intro ts c hl hk
  obtain ⟨t, ht, e⟩ := List.mem_map.mp hk
  obtain ⟨i, hi⟩ := List.getElem?_of_mem ht
  have hil := (List.getElem?_eq_some_iff.mp hi).1
  have hc : c[i]? = some c[i] := List.getElem?_eq_getElem (by omega)
  refine go _ [] ⟨(t, c[i]), List.mem_of_getElem? (i := i) ?_, e⟩
  exact List.getElem?_zip_eq_some.mpr ⟨hi, hc⟩

section
variable {P : Program} {w : World} {K : PySem.W.Frag} {mg : Str → Option Value} {base : Heap}

theorem ok_places_by {C : Addr} (T : Txt mg) (VC : VT K C) (C_place_by : Fn P w K mg base 1 "place_by" ["view", "sign", "numbers"] (spPlace C)) {f : Addr} {fd : FuncData} (F : Fun K "places_by" "places_by" s_places_by f fd) :
    FnOk P w K mg base CX0 2 f fd ["one", "other", "terms", "case"] (spP (R_places_by C)) := by
  refine ok_of F sc_places_by (fun ds d h => ?_) (by decide) fun cdv A outer s H E hr => ⟨_, (pss_cons (ps_set (i := 4) sc_places_by.nd rfl (Or.inl rfl) pe_dnewK)
    (pss_cons (ps_for PassesOwn.never rfl (pi_zip (by rfl) T.zzip (pa_cons (pv 2) (pa_cons (pv 3) pa_nil))) (pg_tup rfl (pgs_cons (pg_name (i := 5) sc_places_by.nd rfl (Or.inl rfl)) (pgs_cons (pg_tup rfl (pgs_cons (pg_name (i := 6) sc_places_by.nd rfl (Or.inl rfl)) (pgs_cons (pg_name (i := 7) sc_places_by.nd rfl (Or.inl rfl)) pgs_nil))) pgs_nil))) (pss_one (ps_dput (hu_of hr) (pv 4) (pe_ix (ixT (K := K)) (pv 5) pe_int (fun _ _ => rfl)) (pv 6) rfl)))
    (pss_cons (ps_set (i := 8) sc_places_by.nd rfl (Or.inl rfl) (pe_fn C_place_by (hr.mono (by decide)) (by rfl) (pa_cons (pv 0) (pa_cons pe_int (pa_cons (pv 4) pa_nil)))))
    (pss_one (ps_ret (pe_tup (pa_cons (pv 8) (pa_cons (pe_fn C_place_by (hr.mono (by decide)) (by rfl) (pa_cons (pv 1) (pa_cons (pe_un un_neg pe_int) (pa_cons (pv 4) pa_nil)))) pa_nil)))))))), fun L ds d Q h k => ?_⟩
  · obtain ⟨r, f1, f2, A, B, ts, c, _, _, _, _, rfl, _⟩ := h; rfl
  · obtain ⟨r, f1, f2, A, B, ts, c, hA, hB, hl, hk, rfl, rfl⟩ := h
    have hlen := numbers_len ts c
    refine q_ownK fun a => ?_
    refine q_for (α := List (Int × Int)) (fd_of (fd_zip (ea_cons (ev_var rfl) (ea_cons (ev_var rfl) ea_nil))) (zip_tc ts c)) (fun z => [(a, .k (nsD z))]) (fun _ => [.d (.vw C r f1 A), .d (.vw C r f2 B), .d (termsD ts), .d (caseD c), .v (.ref a), .no, .no, .no, .no])
      (fun i z => z = ((ts.zip c).take i).foldl (fun r p => put r p.1.1 p.2.1) []) [] rfl rfl (Wk.refl _) ?_ ?_
    · intro B' hB' i d z hd hz
      rw [List.getElem?_map] at hd
      cases e : (ts.zip c)[i]? with
      | none => rw [e] at hd; cases hd
      | some p =>
        rw [e] at hd
        cases hd
        refine ⟨_, [5, 6, 7], as_tup rfl (asl_cons (as_name (by decide)) (asl_cons (as_tup rfl (asl_cons (as_name (by decide)) (asl_cons (as_name (by decide)) asl_nil))) asl_nil)), fun N hN => ?_⟩
        refine s_dput (j := 0) (n := p.1.1) (d := .int p.2.1) rfl rfl ?_ (ev_var rfl) (ev_ixT atI0 (ev_var rfl) ev_int) ?_
        · rw [show (nsD z).length = z.length from List.length_map _, hz]
          have := hlen i
          omega
        · have e1 : kput (nsD z) p.1.1 (.int p.2.1) = nsD (put z p.1.1 p.2.1) := kput_map D.int z _ _
          rw [e1]
          refine hN _ ?_ _ (.keep (.keep (.keep (.keep (.keep (.drop (.drop (.drop (.keep .nil)))))))))
          rw [List.take_add_one, e, List.foldl_append, ← hz]
          rfl
    · intro z hz
      rw [List.length_map, List.take_of_length_le (Nat.le_refl _)] at hz
      have hzn : z = numbersOf ts c := hz
      have hzl : z.length ≤ 50 := by
        have := hlen (ts.zip c).length
        rw [List.take_of_length_le (Nat.le_refl _)] at this
        rw [hz]
        omega
      intro σ H1 s1
      refine place_call (j := 0) (nums := z) rfl rfl (ev_var rfl) ev_int hA (by omega) (.inl rfl) (fun x hx h0 => by rw [hzn]; exact hk x (.inl hx) h0) s1 fun u H2 s2 keep2 k2 => ?_
      have s3 : St0 H L [(a, .k (nsD (placeBy 1 z A).2))] _ (σ.set 8 (some u)) H2 := s2.set (e := .d _) ⟨u, rfl, k2⟩
      refine ⟨u, ?_, ?_⟩
      · have : (σ.set 8 (some u))[8]? = some (some u) := List.getElem?_set_self (by have : σ.length = 9 := s2.env.len; omega)
        exact this
      have hl2 := (placeBy_len 1 A z).1
      refine place_call (j := 0) (nums := (placeBy 1 z A).2) rfl rfl (ev_var rfl) (ev_neg ev_int) hB (by omega) (.inr rfl) (fun x hx h0 => placeBy_mem A (by rw [hzn]; exact hk x (.inr hx) h0)) s3 fun u2 H3 s4 keep3 k3 => ?_
      refine ⟨by show 2 ≤ sizeLine; decide, fun p hp => ?_⟩
      have na : ∀ o, H3 a = some o → p ≠ a := fun o ho z => by rw [z, ho] at hp; cases hp
      have ku : Dt (hid (hm L [(a, .k (nsD (placeBy (-1) (placeBy 1 z A).2 B).2))]) H3) u (.tup ((placeBy 1 z A).1.map D.int)) := by
        refine k2.mo fun b o q => ?_
        obtain ⟨q1, q2⟩ := hid_some q
        show hid (hm L [(a, .k (nsD z))]) H3 b = some o
        rw [hid_out q1]
        refine keep3 b o (fun z => q1 ?_) q2
        rw [z]
        exact List.mem_cons_self
      have s5 := s4.grow (same_new (o := .tup [u, u2]) hp)
      have tr : ∀ y ∈ hm L [(a, .k (nsD (placeBy (-1) (placeBy 1 z A).2 B).2))], H3 y ≠ none := s4.trk
      have kk := tup2_new tr hp ku k3
      have e12 : (placesBy A B ts c) = ((placeBy 1 z A).1, (placeBy (-1) (placeBy 1 z A).2 B).1) := by unfold placesBy; rw [hzn]
      rw [e12] at k
      exact k _ _ s5.same0 (kk.mo (hid_le fun b hb => List.mem_append_right _ hb))
end
end Pc

set_option Elab.async false
set_option linter.all false
set_option maxRecDepth 100000
set_option maxHeartbeats 4000000
/-! sought, shares, is_apart. -/
namespace Pc
open PySem PySem.Spec PyProof.Rows L2 Pm

theorem search_some {ts : List T3} {g : Int} {n : Nat} {c : List P2} {st : List (List P2)} {paper : List Pm.Step} {z : Pm.Step} (h : endOf ts g c = some z) : search ts g (n + 1) (c :: st) paper = search ts g n st (paper ++ [z]) := by
  conv => lhs; unfold search
  simp only [h]
theorem search_shared {ts : List T3} {g : Int} {n : Nat} {c : List P2} {st : List (List P2)} {paper : List Pm.Step} (h : endOf ts g c = none) (h2 : openTerm c = none) : search ts g (n + 1) (c :: st) paper = .shared c := by
  conv => lhs; unfold search
  simp only [h, h2]
theorem search_part {ts : List T3} {g : Int} {n : Nat} {c : List P2} {st : List (List P2)} {paper : List Pm.Step} {i : Nat} (h : endOf ts g c = none) (h2 : openTerm c = some i) :
    search ts g (n + 1) (c :: st) paper = search ts g n (lower c i (partAt ts g c i) :: upper c i (partAt ts g c i) :: st) (paper ++ [.part i (partAt ts g c i)]) := by
  conv => lhs; unfold search
  simp only [h, h2]
theorem search_done {ts : List T3} {g : Int} {n : Nat} {paper : List Pm.Step} : search ts g n [] paper = .apart paper := by
  unfold search
  rfl
theorem whole_len (ts : List T3) : (wholeCase ts).length = ts.length := List.length_map _
section
variable {P : Program} {w : World} {K : PySem.W.Frag} {mg : Str → Option Value} {base : Heap}

theorem ok_sought {C : Addr} (T : Txt mg) (C_gathered : Fn P w K mg base 2 "gathered" ["one", "other"] (spP (R_gathered C))) (C_whole_case : Fn P w K mg base 1 "whole_case" ["terms"] (spP R_whole_case)) (C_end_of : Fn P w K mg base 4 "end_of" ["terms", "goal", "case"] (spP R_end_of))
    (C_open_term : Fn P w K mg base 1 "open_term" ["case"] (spP R_open_term)) (C_part_at : Fn P w K mg base 2 "part_at" ["terms", "goal", "case", "k"] (spP R_part_at)) (C_parted : Fn P w K mg base 1 "parted" ["case", "k", "at"] (spP R_parted))
    (C_places_by : Fn P w K mg base 2 "places_by" ["one", "other", "terms", "case"] (spP (R_places_by C))) {f : Addr} {fd : FuncData} (F : Fun K "sought" "sought" s_sought f fd) : FnOk P w K mg base CX0 5 f fd ["one", "other", "most"] (spP (R_sought C)) := by
  refine ok_of F sc_sought (fun ds d h => ?_) (by decide) fun cdv A outer s H E hr => ⟨_, (pss_cons (ps_asg (pe_fn C_gathered (hr.mono (by decide)) (by rfl) (pa_cons (pv 0) (pa_cons (pv 1) pa_nil))) (pg_tup rfl (pgs_cons (pg_name (i := 3) sc_sought.nd rfl (Or.inl rfl)) (pgs_cons (pg_name (i := 4) sc_sought.nd rfl (Or.inl rfl)) pgs_nil))))
    (pss_cons (ps_set (i := 5) sc_sought.nd rfl (Or.inl rfl) (pe_lst (pa_cons (pe_fn C_whole_case (hr.mono (by decide)) (by rfl) (pa_cons (pv 3) pa_nil)) pa_nil)))
    (pss_cons (ps_set (i := 6) sc_sought.nd rfl (Or.inl rfl) (pe_lst pa_nil))
    (pss_cons (ps_while PassesOwn.never (pt_cmpR (op_neD hr.units) (pv 5) (pe_lst pa_nil) (nomark _)) (pss_cons (ps_if (pt_cmpR op_eq (pe_callB call_len_seq (by rfl) T.zlen (by decide +kernel) (pa_cons (pv 6) pa_nil)) (pv 2) (nomark _)) (pss_one (ps_ret (pe_tup (pa_cons pe_str pa_nil)))) pss_nil)
    (pss_cons (ps_set (i := 7) sc_sought.nd rfl (Or.inl rfl) (pe_bm0 PySem.F.plainAttrs_list PySem.F.slot_list_pop PySem.F.type_list_pop mt_pop (pv 5)))
    (pss_cons (ps_set (i := 8) sc_sought.nd rfl (Or.inl rfl) (pe_fn C_end_of (hr.mono (by decide)) (by rfl) (pa_cons (pv 3) (pa_cons (pv 4) (pa_cons (pv 7) pa_nil)))))
    (pss_cons (ps_if (pt_cmp (pc_isN (pv 8))) (pss_cons (ps_set (i := 9) sc_sought.nd rfl (Or.inl rfl) (pe_fn C_open_term (hr.mono (by decide)) (by rfl) (pa_cons (pv 7) pa_nil)))
    (pss_cons (ps_if (pt_cmp (pc_isN (pv 9))) (pss_one (ps_ret (pe_op (catT (K := K)) (pe_tup (pa_cons pe_str pa_nil)) (pe_fn C_places_by (hr.mono (by decide)) (by rfl) (pa_cons (pv 0) (pa_cons (pv 1) (pa_cons (pv 3) (pa_cons (pv 7) pa_nil)))))))) pss_nil)
    (pss_cons (ps_set (i := 10) sc_sought.nd rfl (Or.inl rfl) (pe_fn C_part_at (hr.mono (by decide)) (by rfl) (pa_cons (pv 3) (pa_cons (pv 4) (pa_cons (pv 7) (pa_cons (pv 9) pa_nil))))))
    (pss_cons (ps_set (i := 8) sc_sought.nd rfl (Or.inl rfl) (pe_tup (pa_cons pe_str (pa_cons (pv 9) (pa_cons (pv 10) pa_nil)))))
    (pss_one (ps_expr (pe_bm PySem.F.plainAttrs_list PySem.F.slot_list_extend PySem.F.type_list_extend mt_extend (pv 5) (pa_cons (pe_fn C_parted (hr.mono (by decide)) (by rfl) (pa_cons (pv 7) (pa_cons (pv 9) (pa_cons (pv 10) pa_nil)))) pa_nil)))))))) pss_nil)
    (pss_one (ps_expr (pe_bm PySem.F.plainAttrs_list PySem.F.slot_list_append PySem.F.type_list_append mt_append (pv 6) (pa_cons (pv 8) pa_nil)))))))))
    (pss_one (ps_ret (pe_tup (pa_cons pe_str (pa_cons (pv 6) pa_nil))))))))), fun L ds d Q h k => ?_⟩
  · obtain ⟨r, f1, f2, A, B, most, _, _, _, _, _, _, rfl, _⟩ := h; rfl
  · obtain ⟨r, f1, f2, A, B, most, hA, hB, hT, hT50, hm, hk, rfl, rfl⟩ := h
    generalize hts : terms A B = ts at *
    generalize hg : f2 - f1 = g at *
    refine q_asg (ss := [3, 4]) (ev_call (R := R_gathered C) ⟨r, f1, f2, A, B, hA, hB, rfl, rfl⟩ (ea_cons (ev_var rfl) (ea_cons (ev_var rfl) ea_nil))) (as_tup rfl (asl_cons (as_name (by decide)) (asl_cons (as_name (by decide)) asl_nil))) ?_
    rw [hts, hg]
    refine q_own (en_lst (ea_cons (ev_call (R := R_whole_case) ⟨ts, hT.1, rfl, rfl⟩ (ea_cons (ev_var rfl) ea_nil)) ea_nil)) fun cs => ?_
    refine q_own (en_lst ea_nil) fun pp => ?_
    refine q_while (α := List (List P2) × List Pm.Step) (fun z => [(pp, .l (z.2.map stepD)), (cs, .l (stackD z.1))]) (fun _ => [.d (.vw C r f1 A), .d (.vw C r f2 B), .d (.int (most : Int)), .d (termsD ts), .d (.int g), .v (.ref cs), .v (.ref pp), .no, .no, .no, .no])
      (fun z => (∀ c ∈ z.1, c.length = ts.length) ∧ z.1.length ≤ z.2.length + 1 ∧ z.2.length ≤ most ∧ search ts g (most - z.2.length) z.1 z.2 = search ts g most [wholeCase ts] []) (fun z => most + 1 - z.2.length) ([wholeCase ts], [])
      ⟨fun c hc => by rw [List.mem_singleton.mp hc]; exact whole_len ts, by simp, Nat.zero_le _, rfl⟩ rfl (Wk.refl _) ?_
    rintro ⟨st, paper⟩ ⟨hst, hl1, hl2, hse⟩
    have hpl : (paper.map stepD).length = paper.length := List.length_map _
    refine ⟨!st.isEmpty, EvT.of (et_test (ev_neM (j := 1) (ds := stackD st) rfl rfl (stack_shaped st) nil_shaped (EvN.ev (en_lst ea_nil)))) (by rw [eqv_nil]), fun hb N hN => ?_, fun hb => ?_⟩
    · cases st with
      | nil => cases hb
      | cons c st =>
        have hc := hst c List.mem_cons_self
        have hl1' : st.length + 1 ≤ paper.length + 1 := hl1
        refine q_if (b := decide (paper.length = most)) (EvT.of (et_test (ev_eq rfl (ev_lenM (j := 0) (ds := paper.map stepD) rfl rfl) (ev_var rfl))) (by rw [hpl]; simp [sameD]; omega)) (fun hb2 => ?_) fun hb2 => ?_
        · have e : paper.length = most := of_decide_eq_true hb2
          have es : search ts g most [wholeCase ts] [] = .opn := by
            rw [← hse]
            show search ts g (most - paper.length) (c :: st) paper = .opn
            rw [e, Nat.sub_self]
            rfl
          rw [es] at k
          exact s_ret (ev_tup (ea_cons ev_str ea_nil)) k
        have hne : paper.length ≠ most := of_decide_eq_false hb2
        have hlt : paper.length < most := by
          have : paper.length ≤ most := hl2
          omega
        have hf : most - paper.length = (most - (paper.length + 1)) + 1 := by omega
        refine s_next ?_
        refine q_pop (j := 1) (ds := stackD st) (d := caseD c) rfl (by rw [← stackD_cons]; rfl) ?_
        refine q_set (ev_call (R := R_end_of) ⟨ts, g, c, hT, rfl, rfl⟩ (ea_cons (ev_var rfl) (ea_cons (ev_var rfl) (ea_cons (ev_var rfl) ea_nil)))) ?_
        have happ : ∀ z : Pm.Step, paper.map stepD ++ [stepD z] = (paper ++ [z]).map stepD := fun z => by rw [List.map_append]; rfl
        have fin : ∀ (z : Pm.Step) (st' : List (List P2)) (es2 : List En), (∀ c ∈ st', c.length = ts.length) → st'.length ≤ paper.length + 2 → search ts g (most - (paper.length + 1)) st' (paper ++ [z]) = search ts g most [wholeCase ts] [] →
            Wk es2 [.d (.vw C r f1 A), .d (.vw C r f2 B), .d (.int (most : Int)), .d (termsD ts), .d (.int g), .v (.ref cs), .v (.ref pp), .no, .no, .no, .no] → Nx H L [(pp, .l (paper.map stepD ++ [stepD z])), (cs, .l (stackD st'))] es2 N := fun z st' es2 h1 h2 h3 w => by
          rw [happ]
          refine hN (st', paper ++ [z]) ⟨h1, ?_, ?_, ?_⟩ ?_ es2 w
          · show st'.length ≤ (paper ++ [z]).length + 1
            rw [List.length_append, List.length_singleton]
            omega
          · show (paper ++ [z]).length ≤ most
            rw [List.length_append, List.length_singleton]
            omega
          · show search ts g (most - (paper ++ [z]).length) st' (paper ++ [z]) = _
            rw [List.length_append, List.length_singleton]
            exact h3
          · show most + 1 - (paper ++ [z]).length < most + 1 - paper.length
            rw [List.length_append, List.length_singleton]
            omega
        have hse' : search ts g ((most - (paper.length + 1)) + 1) (c :: st) paper = search ts g most [wholeCase ts] [] := by rw [← hf]; exact hse
        have hpz : (paper.map stepD).length < 1000 := by rw [hpl]; omega
        cases eo : endOf ts g c with
        | some z =>
          have e2 : search ts g (most - (paper.length + 1)) st (paper ++ [z]) = search ts g most [wholeCase ts] [] := by
            rw [← hse', search_some eo]
          have hz : isNonD (stepD z) = false := by cases z <;> rfl
          refine q_false (EvT.of (et_B (ev_isN (d := stepD z) (ev_var rfl))) hz) ?_
          exact s_app (j := 0) (ds := paper.map stepD) (d := stepD z) rfl rfl hpz (ev_var rfl) (fin z st _ (fun c hc => hst c (List.mem_cons_of_mem _ hc)) (by omega) e2 (.keep (.keep (.keep (.keep (.keep (.keep (.keep (.drop (.drop (.drop (.drop .nil))))))))))))
        | none =>
          refine q_true (EvT.of (et_B (ev_isN (d := .non) (ev_var rfl))) rfl) ?_
          refine q_set (ev_call (R := R_open_term) ⟨c, by have := hT.1; omega, rfl, rfl⟩ (ea_cons (ev_var rfl) ea_nil)) ?_
          cases ek : openTerm c with
          | none =>
            refine q_true (EvT.of (et_B (ev_isN (d := .non) (ev_var rfl))) rfl) ?_
            have e2 : search ts g most [wholeCase ts] [] = .shared c := by
              rw [← hse', search_shared eo ek]
            rw [e2] at k
            refine s_ret (ev_catT (ds := [.str "shared"]) (ds' := [.tup ((placesBy A B ts c).1.map D.int), .tup ((placesBy A B ts c).2.map D.int)]) (Nat.le_of_ble_eq_true rfl) (by simp) (by simp) (ev_tup (ea_cons ev_str ea_nil))
              (ev_call (R := R_places_by C) ⟨r, f1, f2, A, B, ts, c, hA, hB, by omega, fun x hx h0 => numbers_mem hc (hk x hx h0), rfl, rfl⟩ (ea_cons (ev_var rfl) (ea_cons (ev_var rfl) (ea_cons (ev_var rfl) (ea_cons (ev_var rfl) ea_nil)))))) k
          | some i =>
            obtain ⟨hi1, hi2, _⟩ := open_at ek
            refine q_false (EvT.of (et_B (ev_isN (d := .int (i : Int)) (ev_var rfl))) rfl) ?_
            refine s_next ?_
            refine q_set (ev_call (R := R_part_at) ⟨ts, g, c, i, hT, by omega, hi1, rfl, rfl⟩ (ea_cons (ev_var rfl) (ea_cons (ev_var rfl) (ea_cons (ev_var rfl) (ea_cons (ev_var rfl) ea_nil))))) ?_
            refine q_set (d := stepD (.part i (partAt ts g c i))) (ev_tup (ea_cons ev_str (ea_cons (ev_var rfl) (ea_cons (ev_var rfl) ea_nil)))) ?_
            have e2 : search ts g (most - (paper.length + 1)) (lower c i (partAt ts g c i) :: upper c i (partAt ts g c i) :: st) (paper ++ [.part i (partAt ts g c i)]) = search ts g most [wholeCase ts] [] := by
              rw [← hse', search_part eo ek]
            refine s_ext (j := 1) (ds := stackD st) (ds' := [caseD (upper c i (partAt ts g c i)), caseD (lower c i (partAt ts g c i))]) rfl rfl ?_ (ev_call (R := R_parted) ⟨c, i, partAt ts g c i, by have := hT.1; omega, hi1, rfl, rfl⟩ (ea_cons (ev_var rfl) (ea_cons (ev_var rfl) (ea_cons (ev_var rfl) ea_nil)))) ?_
            · rw [stackD_len]
              show st.length + 2 ≤ 1000
              omega
            · have e3 : stackD st ++ [caseD (upper c i (partAt ts g c i)), caseD (lower c i (partAt ts g c i))] = stackD (lower c i (partAt ts g c i) :: upper c i (partAt ts g c i) :: st) := by
                rw [stackD_cons, stackD_cons, List.append_assoc]
                rfl
              rw [e3]
              refine s_app (j := 0) (ds := paper.map stepD) (d := stepD (.part i (partAt ts g c i))) rfl rfl hpz (ev_var rfl) (fin (.part i (partAt ts g c i)) _ _ (fun c' hc' => ?_) (by show st.length + 1 + 1 ≤ _; omega) e2 (.keep (.keep (.keep (.keep (.keep (.keep (.keep (.drop (.drop (.drop (.drop .nil))))))))))))
              rcases List.mem_cons.mp hc' with z | hc'
              · rw [z, lower_len hi1, hc]
              · rcases List.mem_cons.mp hc' with z | hc'
                · rw [z, upper_len hi1, hc]
                · exact hst c' (List.mem_cons_of_mem _ hc')
    · cases st with
      | cons c st => cases hb
      | nil =>
        have e2 : search ts g most [wholeCase ts] [] = .apart paper := by
          rw [← hse]
          exact search_done
        rw [e2] at k
        refine run_freeze (j := 0) (i := 6) (a := pp) (ds := paper.map stepD) rfl rfl ?_
        exact s_ret (ev_tup (ea_cons ev_str (ea_cons (ev_var rfl) ea_nil))) k

theorem ok_shares {C : Addr} (T : Txt mg) (C_gathered : Fn P w K mg base 2 "gathered" ["one", "other"] (spP (R_gathered C))) (C_is_whole : Fn P w K mg base 1 "is_whole" ["thing"] (spP R_is_whole)) (C_sought : Fn P w K mg base 5 "sought" ["one", "other", "most"] (spP (R_sought C)))
    {dvs : List V} {f : Addr} {fd : FuncData} (F : FunD K "shares" "shares" (defArgs s_shares) (defBody s_shares) (defScope s_shares) dvs [] f fd) : FnOk P w K mg base CX0 6 f fd ["one", "other", "most"] (spP fun ds d => R_sought C ds d ∧ ∃ x y : D, ∃ m : Int, ds = [x, y, .int m] ∧ 1 ≤ m) := by
  refine F.ok sc_shares (fun vs H Q E h => ?_) (fun cdv A outer s H vs Q E hr h => ?_)
  · obtain ⟨L, ds, d, ⟨_, x, y, m, rfl, _⟩, _, hd, _⟩ := h
    rw [hd.length]
    rfl
  · obtain ⟨L, ds, d, ⟨hR, x, y, m, e0, hm1⟩, tr, hd, k⟩ := h
    refine ⟨_, (pss_cons (ps_expr (pe_fn C_gathered (hr.mono (by decide)) (by rfl) (pa_cons (pv 0) (pa_cons (pv 1) pa_nil))))
    (pss_cons (ps_if (PW.pt (pw_or (pt_not (pt_val (pe_fn C_is_whole (hr.mono (by decide)) (by rfl) (pa_cons (pv 2) pa_nil)))) (pw_or1 (pt_not (pt_chain op_le op_le pe_int (pv 2) (pe_glob (v := .int 100000) (by rfl) T.cMOST_CASES.choose_spec ⟨_, rfl⟩)))))) pss_never pss_nil)
    (pss_one (ps_ret (pe_fn C_sought (hr.mono (by decide)) (by rfl) (pa_cons (pv 0) (pa_cons (pv 1) (pa_cons (pv 2) pa_nil)))))))), ?_⟩
    obtain ⟨r, f1, f2, A, B, most, hA, hB, hT, hT50, hm, hk, rfl, hdd⟩ := id hR
    cases e0
    refine (?_ : Run H L [] _ _ _) _ _ (start_st (N := N_shares) hd tr (Nat.le_of_ble_eq_true rfl))
    refine run_seq (run_drop (ev_call (R := R_gathered C) ⟨r, f1, f2, A, B, hA, hB, rfl, rfl⟩ (ea_cons (ev_var rfl) (ea_cons (ev_var rfl) ea_nil))) ?_)
    refine q_pass (EvT.of (et_or2 (EvT.of (et_not (et_B (ev_call (R := R_is_whole) ⟨.int (most : Int), by simp [tyD], rfl, rfl⟩ (ea_cons (ev_var rfl) ea_nil)))) rfl) (et_not (et_test (ev_chain (p := fun i j => decide (i ≤ j)) (q := fun i j => decide (i ≤ j)) ev_int (ev_var rfl) fun _ => ev_int)))) ?_) ?_
    · rw [decide_eq_true hm1, decide_eq_true (show (most : Int) ≤ 100000 by omega)]
      rfl
    · exact s_ret (ev_call (R := R_sought C) hR (ea_cons (ev_var rfl) (ea_cons (ev_var rfl) (ea_cons (ev_var rfl) ea_nil)))) k

def R_is_apart (C : Addr) : List D → D → Prop := fun ds d => ∃ (r f1 f2 : Int) (A B : List P2) (paper : List Pm.Step), A.length ≤ 8 ∧ B.length ≤ 8 ∧ TOk (terms A B) ∧ paper.length ≤ 200 ∧ readP (terms A B) (f2 - f1) [wholeCase (terms A B)] paper = true ∧
  ds = [.vw C r f1 A, .vw C r f2 B, .lst (paper.map stepD)] ∧ d = .bl true
theorem step_tup (z : Pm.Step) : tyD (stepD z) = some "tuple" := by cases z <;> rfl
theorem ok_is_apart {C : Addr} (T : Txt mg) (C_gathered : Fn P w K mg base 2 "gathered" ["one", "other"] (spP (R_gathered C))) (C_whole_case : Fn P w K mg base 1 "whole_case" ["terms"] (spP R_whole_case)) (C_is_part : Fn P w K mg base 2 "is_part" ["case", "step"] (spP R_is_part))
    (C_parted : Fn P w K mg base 1 "parted" ["case", "k", "at"] (spP R_parted)) (C_is_end : Fn P w K mg base 3 "is_end" ["terms", "goal", "case", "step"] (spP R_is_end))
    {f : Addr} {fd : FuncData} (F : Fun K "is_apart" "is_apart" s_is_apart f fd) : FnOk P w K mg base CX0 4 f fd ["one", "other", "paper"] (spP (R_is_apart C)) := by
  refine ok_of F sc_is_apart (fun ds d h => ?_) (by decide) fun cdv A outer s H E hr => ⟨_, (pss_cons (ps_asg (pe_fn C_gathered (hr.mono (by decide)) (by rfl) (pa_cons (pv 0) (pa_cons (pv 1) pa_nil))) (pg_tup rfl (pgs_cons (pg_name (i := 3) sc_is_apart.nd rfl (Or.inl rfl)) (pgs_cons (pg_name (i := 4) sc_is_apart.nd rfl (Or.inl rfl)) pgs_nil))))
    (pss_cons (ps_if (pt_not (pt_val (pe_callB call_isi (by rfl) T.zisinstance (by decide +kernel) (pa_cons (pv 2) (pa_cons (pe_bltn (v := .ty "list") (by rfl) T.zlist (by decide +kernel) rfl) pa_nil))))) (pss_one (ps_ret pe_bl)) pss_nil)
    (pss_cons (ps_set (i := 5) sc_is_apart.nd rfl (Or.inl rfl) (pe_lst (pa_cons (pe_fn C_whole_case (hr.mono (by decide)) (by rfl) (pa_cons (pv 3) pa_nil)) pa_nil)))
    (pss_cons (ps_for PassesOwn.never rfl (pi_list (pv 2)) (pg_name (i := 6) sc_is_apart.nd rfl (Or.inl rfl)) (pss_cons (ps_if (PW.pt (pw_or (pt_cmpR (op_eqD hr.units) (pv 5) (pe_lst pa_nil) (nomark _)) (pw_or1 (pt_not (pt_val (pe_callB call_isi (by rfl) T.zisinstance (by decide +kernel) (pa_cons (pv 6) (pa_cons (pe_bltn (v := .ty "tuple") (by rfl) T.ztuple (by decide +kernel) rfl) pa_nil)))))))) (pss_one (ps_ret pe_bl)) pss_nil)
    (pss_cons (ps_set (i := 7) sc_is_apart.nd rfl (Or.inl rfl) (pe_bm0 PySem.F.plainAttrs_list PySem.F.slot_list_pop PySem.F.type_list_pop mt_pop (pv 5)))
    (pss_one (ps_if (pt_val (pe_fn C_is_part (hr.mono (by decide)) (by rfl) (pa_cons (pv 7) (pa_cons (pv 6) pa_nil)))) (pss_one (ps_expr (pe_bm PySem.F.plainAttrs_list PySem.F.slot_list_extend PySem.F.type_list_extend mt_extend (pv 5) (pa_cons (pe_fn C_parted (hr.mono (by decide)) (by rfl) (pa_cons (pv 7) (pa_cons (pe_ix (ixT (K := K)) (pv 6) pe_int (fun _ _ => rfl)) (pa_cons (pe_ix (ixT (K := K)) (pv 6) pe_int (fun _ _ => rfl)) pa_nil)))) pa_nil)))) (pss_one (ps_if (pt_not (pt_val (pe_fn C_is_end (hr.mono (by decide)) (by rfl) (pa_cons (pv 3) (pa_cons (pv 4) (pa_cons (pv 7) (pa_cons (pv 6) pa_nil))))))) (pss_one (ps_ret pe_bl)) pss_nil)))))))
    (pss_one (ps_ret (pe_cmpR (op_eqD hr.units) (pv 5) (pe_lst pa_nil) (nomark _)))))))), fun L ds d Q h k => ?_⟩
  · obtain ⟨r, f1, f2, A, B, paper, _, _, _, _, _, rfl, _⟩ := h; rfl
  · obtain ⟨r, f1, f2, A, B, paper, hA, hB, hT, hp, hrd, rfl, rfl⟩ := h
    generalize hts : terms A B = ts at *
    generalize hg : f2 - f1 = g at *
    refine q_asg (ss := [3, 4]) (ev_call (R := R_gathered C) ⟨r, f1, f2, A, B, hA, hB, rfl, rfl⟩ (ea_cons (ev_var rfl) (ea_cons (ev_var rfl) ea_nil))) (as_tup rfl (asl_cons (as_name (by decide)) (asl_cons (as_name (by decide)) asl_nil))) ?_
    rw [hts, hg]
    refine q_pass (EvT.of (et_not (et_B (ev_isi (T := "list") (b := true) rfl (by decide +kernel) (ev_var rfl)))) rfl) ?_
    refine q_own (en_lst (ea_cons (ev_call (R := R_whole_case) ⟨ts, hT.1, rfl, rfl⟩ (ea_cons (ev_var rfl) ea_nil)) ea_nil)) fun cs => ?_
    refine q_for (α := List (List P2)) (fd_list (ds := paper.map stepD) (ev_var rfl)) (fun z => [(cs, .l (stackD z))]) (fun _ => [.d (.vw C r f1 A), .d (.vw C r f2 B), .d (.lst (paper.map stepD)), .d (termsD ts), .d (.int g), .v (.ref cs), .no, .no])
      (fun i z => (∀ c ∈ z, c.length = ts.length) ∧ z.length ≤ i + 1 ∧ readP ts g z (paper.drop i) = true) [wholeCase ts] ⟨fun c hc => by rw [List.mem_singleton.mp hc]; exact whole_len ts, by simp, hrd⟩ rfl (Wk.refl _) ?_ ?_
    · rintro B' hB' i d st hd ⟨hst, hl, hrs⟩
      rw [List.getElem?_map] at hd
      cases e : paper[i]? with
      | none => rw [e] at hd; cases hd
      | some z =>
        rw [e] at hd
        cases hd
        have hi : i < paper.length := (List.getElem?_eq_some_iff.mp e).1
        have hdrop : paper.drop i = z :: paper.drop (i + 1) := by
          rw [List.drop_eq_getElem_cons hi]
          have := List.getElem?_eq_getElem hi
          rw [e] at this
          rw [← Option.some.inj this]
        rw [hdrop] at hrs
        refine ⟨_, [6], as_name (by decide), fun N hN => ?_⟩
        cases st with
        | nil => cases hrs
        | cons c st =>
          have hc := hst c List.mem_cons_self
          have hl' : st.length + 1 ≤ i + 1 := hl
          refine q_pass (EvT.of (et_or2 (EvT.of (et_test (ev_eqM (j := 0) (ds := stackD (c :: st)) rfl rfl (stack_shaped _) nil_shaped (EvN.ev (en_lst ea_nil)))) (by rw [eqv_nil]; rfl)) (et_not (et_B (ev_isi (T := "tuple") (b := true) (step_tup z) (by decide +kernel) (ev_var rfl))))) rfl) ?_
          refine q_pop (j := 0) (ds := stackD st) (d := caseD c) rfl (by rw [← stackD_cons]; rfl) ?_
          unfold readP at hrs
          refine s_if (et_B (ev_call (R := R_is_part) ⟨c, z, rfl, rfl⟩ (ea_cons (ev_var rfl) (ea_cons (ev_var rfl) ea_nil)))) (fun hb => ?_) fun hb => ?_
          · rw [if_pos hb] at hrs
            cases z with
            | low => cases hb
            | high => cases hb
            | rest m => cases hb
            | part k0 a =>
              have hk0 : k0 < c.length := by
                have hb' : (decide (k0 < c.length) && _) = true := hb
                rw [Bool.and_eq_true] at hb'
                exact of_decide_eq_true hb'.1
              refine s_ext (j := 0) (ds := stackD st) (ds' := [caseD (upper c k0 a), caseD (lower c k0 a)]) rfl rfl ?_ (ev_call (R := R_parted) ⟨c, k0, a, by have := hT.1; omega, hk0, rfl, rfl⟩ (ea_cons (ev_var rfl) (ea_cons (ev_ixT atI1 (ev_var rfl) ev_int) (ea_cons (ev_ixT atI2 (ev_var rfl) ev_int) ea_nil)))) ?_
              · rw [stackD_len]
                show st.length + 2 ≤ 1000
                omega
              · have e3 : stackD st ++ [caseD (upper c k0 a), caseD (lower c k0 a)] = stackD (lower c k0 a :: upper c k0 a :: st) := by
                  rw [stackD_cons, stackD_cons, List.append_assoc]
                  rfl
                rw [e3]
                refine hN _ ⟨fun c' hc' => ?_, by show st.length + 1 + 1 ≤ _; omega, hrs⟩ _ (.keep (.keep (.keep (.keep (.keep (.keep (.drop (.drop .nil))))))))
                rcases List.mem_cons.mp hc' with z | hc'
                · rw [z, lower_len hk0, hc]
                · rcases List.mem_cons.mp hc' with z | hc'
                  · rw [z, upper_len hk0, hc]
                  · exact hst c' (List.mem_cons_of_mem _ hc')
          · rw [if_neg (by rw [hb]; decide)] at hrs
            have he : isEnd ts g c z = true := by
              cases h : isEnd ts g c z with
              | true => rfl
              | false => rw [h] at hrs; cases hrs
            rw [if_pos he] at hrs
            refine s_false (EvT.of (et_not (et_B (ev_call (R := R_is_end) (d := .bl (isEnd ts g c z)) ⟨ts, g, c, z, hT, (fun i a z0 => by rw [z0] at he; cases he), rfl, rfl⟩ (ea_cons (ev_var rfl) (ea_cons (ev_var rfl) (ea_cons (ev_var rfl) (ea_cons (ev_var rfl) ea_nil))))))) (by rw [he]; rfl)) ?_
            refine s_next (hN _ ⟨fun c' hc' => hst c' (List.mem_cons_of_mem _ hc'), by omega, hrs⟩ _ (.keep (.keep (.keep (.keep (.keep (.keep (.drop (.drop .nil)))))))))
    · rintro st ⟨_, _, hrs⟩
      rw [List.length_map, List.drop_length] at hrs
      refine s_ret (Ev.of (ev_eqM (j := 0) (ds := stackD st) rfl rfl (stack_shaped _) nil_shaped (EvN.ev (en_lst ea_nil))) ?_) k
      rw [eqv_nil]
      have : st.isEmpty = true := by cases st <;> exact hrs
      rw [this]
end
end Pc

set_option Elab.async false
set_option linter.all false
set_option maxRecDepth 100000
set_option maxHeartbeats 4000000
/-! views are made. -/
namespace Pc
open PySem PySem.Spec PyProof.Rows L2 Pm

structure FnM (P : Program) (w : World) (K : PySem.W.Frag) (mg : Str → Option Value) (base : Heap) (k : Nat) (C : Addr) (m : Str) (ps : List Str) (sp : Sp) : Prop where
  ex : ∃ f fd, FnOk P w K mg base CX0 k f fd ps sp ∧ Meth K C m f ∧ Binds K fd ps []
structure FnV (P : Program) (w : World) (K : PySem.W.Frag) (mg : Str → Option Value) (base : Heap) (k : Nat) (C : Addr) (sp : Sp) : Prop where
  ex : ∃ f fd, Mk K C f ∧ FnOk P w K mg base CX0 k f fd ["self", "room", "first", "axes"] sp ∧ mg "View" = some (.ref C) ∧ Binds K fd ["self", "room", "first", "axes"] []
def keptA (a : P2) : P2 := if a.1 = 1 then (1, 0) else a
def leastOf (f : Int) (A : List P2) : Int := f + (A.map fun a => if a.2 * (a.1 - 1) < 0 then a.2 * (a.1 - 1) else 0).sum
def greatestOf (f : Int) (A : List P2) : Int := f + (A.map fun a => if a.2 * (a.1 - 1) > 0 then a.2 * (a.1 - 1) else 0).sum
def AxOk (A : List P2) : Prop := A.length ≤ 8 ∧ ∀ a ∈ A, 1 ≤ a.1 ∧ a.1 ≤ 1000000000
def R_is_axis : List D → D → Prop := fun ds d => ∃ a : P2, 1 ≤ a.1 ∧ a.1 ≤ 1000000000 ∧ ds = [pairD a] ∧ d = .bl true
def R_kept_axes : List D → D → Prop := fun ds d => ∃ A : List P2, AxOk A ∧ ds = [.lst (A.map pairD)] ∧ d = .lst ((A.map keptA).map pairD)
def R_least (C : Addr) : List D → D → Prop := fun ds d => ∃ r f A, AxOk A ∧ ds = [.vw C r f A] ∧ d = .int (leastOf f A)
def R_greatest (C : Addr) : List D → D → Prop := fun ds d => ∃ r f A, AxOk A ∧ ds = [.vw C r f A] ∧ d = .int (greatestOf f A)
theorem kept_ok {A : List P2} (h : AxOk A) : AxOk (A.map keptA) := by
  refine ⟨by rw [List.length_map]; exact h.1, fun a ha => ?_⟩
  obtain ⟨b, hb, e⟩ := List.mem_map.mp ha
  have := h.2 b hb
  rw [← e]
  unfold keptA
  split
  · exact ⟨(by decide : (1 : Int) ≤ 1), (by decide : (1 : Int) ≤ 1000000000)⟩
  · exact this
def spInit (C : Addr) : Sp := fun vs H Q _ => ∃ (L : List Addr) (x dx : Addr) (room first : Int) (A : List P2) (v : V), vs = [.ref x, .int room, .int first, v] ∧ (∀ z ∈ L, H z ≠ none) ∧ x ∉ L ∧ H x = some (.ins C dx []) ∧ Dt (hid (x :: L) H) v (.lst (A.map pairD)) ∧
  AxOk A ∧ 1 ≤ room ∧ room ≤ 1000000000000000000 ∧ 0 ≤ leastOf first (A.map keptA) ∧ greatestOf first (A.map keptA) < room ∧
  ∀ H', (∀ b o, b ≠ x → H b = some o → H' b = some o) → Dt (hid L H') (.ref x) (.vw C room first (A.map keptA)) → Q .non H'

section
variable {H0 : Hp} {L0 : List Addr} {ms : List (Addr × Mu)} {es : List En} {te ta : TE} {d : D} {E : Ends} {us : TS} {K : PySem.W.Frag} {i j : Nat} {n : Int} {a C dx : Addr} {fs : List (Str × V)} {t : TA} {X : XK}
theorem q_fld {f : Str} (hi : es[i]? = some (.v (.ref a))) (hj : ms[j]? = some (a, .o (.ins C dx fs))) (c : Cls K C) (na : NoAttr K C f) (hl : fs.length < 1000) (h : Ev H0 L0 ms es te (.int n)) (k : Run H0 L0 (ms.set j (a, .o (.ins C dx (putF f (.int n) fs)))) es us E) :
    Run H0 L0 ms es (tSeq (sFld K (tVar i) te f) us) E := fun σ H s => by
  refine h σ H s _ fun v H1 e1 k1 => ⟨.ref a, s.env.at_ i _ hi, ?_⟩
  cases k1
  have h1 := (s.grow e1).mu _ (List.mem_of_getElem? hj)
  exact ⟨a, C, dx, fs, rfl, h1, c, na, hl, k σ _ ((s.grow e1).mut hj upd_same)⟩
theorem ev_meth0 {R : List D → D → Prop} {m : Str} {r f : Int} {A : List P2} (h1 : (m == ("room" : Str)) = false) (h2 : (m == ("first" : Str)) = false) (h3 : (m == ("axes" : Str)) = false) (hR : R [.vw C r f A] d) (h : Ev H0 L0 ms es te (.vw C r f A)) :
    Ev H0 L0 ms es (tMeth C m (spP R) [] X te tNil) d := fun σ H s Q q => h σ H s _ fun v H1 e1 k1 => by
  have k2 := k1
  cases k2 with
  | vw g1 g2 g3 =>
    exact ⟨_, _, _, rfl, hid_sub _ _ g1, vfs_no _ _ _ h1 h2 h3, hm L0 ms, [.vw C r f A], d, hR, (s.grow e1).trk, .cons k1 .nil, fun v H2 e2 k3 => q v H2 (e1.trans e2) k3⟩
theorem ev_make {room first : Int} {A : List P2} (hA : AxOk A) (h1 : 1 ≤ room) (h2 : room ≤ 1000000000000000000) (h3 : 0 ≤ leastOf first (A.map keptA)) (h4 : greatestOf first (A.map keptA) < room) (h : EvA H0 L0 ms es t [.int room, .int first, .lst (A.map pairD)]) :
    Ev H0 L0 ms es (tMake C (spInit C) [] X t) (.vw C room first (A.map keptA)) := fun σ H s Q q => h σ H s _ fun vs H1 e1 k1 x dx nx ndx ne => by
  obtain ⟨u, v, w, rfl, k1, k2, k3⟩ := three_dt k1
  cases k1
  cases k2
  have s1 := s.grow e1
  have nx' := s1.new nx
  have up : ∀ b o, H1 b = some o → (upd (upd H1 dx (.own x)) x (.ins C dx [])) b = some o := fun b o e => by
    rw [upd_ne (ne_of_none e nx), upd_ne (ne_of_none e ndx)]
    exact e
  refine ⟨hm L0 ms, x, dx, room, first, A, w, rfl, fun z hz => ?_, nx', upd_same, ?_, hA, h1, h2, h3, h4, fun H' keep kv => ⟨rfl, ?_⟩⟩
  · cases e : H1 z with
    | none => exact absurd e (s1.trk z hz)
    | some o => rw [up z o e]; simp
  · refine k3.mo fun b o e => ?_
    obtain ⟨q1, q2⟩ := hid_some e
    have nb : b ≠ x := ne_of_none q2 nx
    rw [hid_out (by simp only [List.mem_cons, not_or]; exact ⟨nb, q1⟩)]
    exact up b o q2
  · exact q _ H' (e1.trans fun b o e => keep b o (ne_of_none e nx) (up b o e)) kv
end

section
variable {P : Program} {w : World} {K : PySem.W.Frag} {mg : Str → Option Value} {base : Heap}

theorem ok_is_axis (T : Txt mg) (C_is_whole : Fn P w K mg base 1 "is_whole" ["thing"] (spP R_is_whole)) {f : Addr} {fd : FuncData} (F : Fun K "is_axis" "is_axis" s_is_axis f fd) : FnOk P w K mg base CX0 2 f fd ["thing"] (spP R_is_axis) := by
  refine ok_of F sc_is_axis (fun ds d h => ?_) (by decide) fun cdv A outer s H E hr => ⟨_, (pss_cons (ps_if (PW.pt (pw_or (pt_not (pt_val (pe_callB call_isi (by rfl) T.zisinstance (by decide +kernel) (pa_cons (pv 0) (pa_cons (pe_bltn (v := .ty "tuple") (by rfl) T.ztuple (by decide +kernel) rfl) pa_nil))))) (pw_or1 (pt_cmpR op_ne (pe_callB call_len_seq (by rfl) T.zlen (by decide +kernel) (pa_cons (pv 0) pa_nil)) pe_int (nomark _))))) (pss_one (ps_ret pe_bl)) pss_nil)
    (pss_one (ps_ret (pe_and (pe_fn C_is_whole (hr.mono (by decide)) (by rfl) (pa_cons (pe_ix (ixT (K := K)) (pv 0) pe_int (fun _ _ => rfl)) pa_nil)) (pe_and (pe_chain op_le op_le pe_int (pe_ix (ixT (K := K)) (pv 0) pe_int (fun _ _ => rfl)) (pe_glob (v := .int 1000000000) (by rfl) T.cMOST_SIZE.choose_spec ⟨_, rfl⟩)) (pe_one (pe_fn C_is_whole (hr.mono (by decide)) (by rfl) (pa_cons (pe_ix (ixT (K := K)) (pv 0) pe_int (fun _ _ => rfl)) pa_nil)))))))), fun L ds d Q h k => ?_⟩
  · obtain ⟨a, _, _, rfl, _⟩ := h; rfl
  · obtain ⟨a, h1, h2, rfl, rfl⟩ := h
    refine q_pass (EvT.of (et_or2 (EvT.of (et_not (et_B (ev_isi (T := "tuple") (b := true) rfl (by decide +kernel) (ev_var rfl)))) rfl) (EvT.of (et_test (ev_ne rfl (ev_lenT (ea_cons (ev_var rfl) ea_nil)) ev_int)) (show _ = false by simp [sameD]))) rfl) ?_
    refine s_ret (Ev.of (ev_andV (ev_call (R := R_is_whole) ⟨.int a.1, by simp [tyD], rfl, rfl⟩ (ea_cons (ev_ixT atI0 (ev_var rfl) ev_int) ea_nil)) fun _ => ev_andV (ev_chain (p := fun i j => decide (i ≤ j)) (q := fun i j => decide (i ≤ j)) ev_int (ev_ixT atI0 (ev_var rfl) ev_int) fun _ => ev_int) fun _ =>
      ev_call (R := R_is_whole) ⟨.int a.2, by simp [tyD], rfl, rfl⟩ (ea_cons (ev_ixT atI1 (ev_var rfl) ev_int) ea_nil)) ?_) k
    rw [decide_eq_true h1, decide_eq_true h2]
    rfl

theorem ok_kept_axes (T : Txt mg) (C_is_axis : Fn P w K mg base 2 "is_axis" ["thing"] (spP R_is_axis)) {f : Addr} {fd : FuncData} (F : Fun K "kept_axes" "kept_axes" s_kept_axes f fd) : FnOk P w K mg base CX0 3 f fd ["axes"] (spP R_kept_axes) := by
  refine ok_of F sc_kept_axes (fun ds d h => ?_) (by decide) fun cdv A outer s H E hr => ⟨_, (pss_cons (ps_if (PW.pt (pw_or (pt_not (pt_val (pe_callB call_isi (by rfl) T.zisinstance (by decide +kernel) (pa_cons (pv 0) (pa_cons (pe_bltn (v := .ty "list") (by rfl) T.zlist (by decide +kernel) rfl) pa_nil))))) (pw_or1 (pt_cmpR op_gt (pe_callB call_len_seq (by rfl) T.zlen (by decide +kernel) (pa_cons (pv 0) pa_nil)) (pe_glob (v := .int 8) (by rfl) T.cMOST_AXES.choose_spec ⟨_, rfl⟩) (nomark _))))) pss_never pss_nil)
    (pss_cons (ps_set (i := 1) sc_kept_axes.nd rfl (Or.inl rfl) (pe_lst pa_nil))
    (pss_cons (ps_for PassesOwn.never rfl (pi_list (pv 0)) (pg_name (i := 2) sc_kept_axes.nd rfl (Or.inl rfl)) (pss_cons (ps_if (pt_not (pt_val (pe_fn C_is_axis (hr.mono (by decide)) (by rfl) (pa_cons (pv 2) pa_nil)))) pss_never pss_nil)
    (pss_one (ps_if (pt_cmpR op_eq (pe_ix (ixT (K := K)) (pv 2) pe_int (fun _ _ => rfl)) pe_int (nomark _)) (pss_one (ps_expr (pe_bm PySem.F.plainAttrs_list PySem.F.slot_list_append PySem.F.type_list_append mt_append (pv 1) (pa_cons (pe_tup (pa_cons pe_int (pa_cons pe_int pa_nil))) pa_nil)))) (pss_one (ps_expr (pe_bm PySem.F.plainAttrs_list PySem.F.slot_list_append PySem.F.type_list_append mt_append (pv 1) (pa_cons (pv 2) pa_nil))))))))
    (pss_one (ps_ret (pv 1)))))), fun L ds d Q h k => ?_⟩
  · obtain ⟨a, _, rfl, _⟩ := h; rfl
  · obtain ⟨A, hA, rfl, rfl⟩ := h
    refine q_pass (EvT.of (et_or2 (EvT.of (et_not (et_B (ev_isi (T := "list") (b := true) rfl (by decide +kernel) (ev_var rfl)))) rfl) (et_test (ev_gt (ev_lenL (ea_cons (ev_var rfl) ea_nil)) ev_int))) ?_) ?_
    · rw [List.length_map]
      exact decide_eq_false (by have := hA.1; omega)
    refine q_own (en_lst ea_nil) fun p => ?_
    refine q_for (α := List P2) (fd_list (ds := A.map pairD) (ev_var rfl)) (fun z => [(p, .l (z.map pairD))]) (fun _ => [.d (.lst (A.map pairD)), .v (.ref p), .no]) (fun i z => z = (A.take i).map keptA) [] rfl rfl (Wk.refl _) ?_ ?_
    · intro B' hB' i d z hd hz
      rw [List.getElem?_map] at hd
      cases e : A[i]? with
      | none => rw [e] at hd; cases hd
      | some a =>
        rw [e] at hd
        cases hd
        obtain ⟨h1, h2⟩ := hA.2 a (List.mem_of_getElem? e)
        have hlz : (z.map pairD).length < 1000 := by
          rw [List.length_map, hz, List.length_map, List.length_take]
          have := hA.1
          omega
        have hst : (A.take (i + 1)).map keptA = z ++ [keptA a] := by
          rw [List.take_add_one, e, List.map_append, ← hz]
          rfl
        have app : ∀ y : P2, z.map pairD ++ [pairD y] = (z ++ [y]).map pairD := fun y => by rw [List.map_append]; rfl
        refine ⟨_, [2], as_name (by decide), fun N hN => ?_⟩
        refine q_pass (EvT.of (et_not (et_B (ev_call (R := R_is_axis) ⟨a, h1, h2, rfl, rfl⟩ (ea_cons (ev_var rfl) ea_nil)))) rfl) ?_
        refine s_if (b := decide (a.1 = 1)) (EvT.of (et_test (ev_eq rfl (ev_ixT atI0 (ev_var rfl) ev_int) ev_int)) rfl) (fun hb => ?_) fun hb => ?_
        · refine s_app (j := 0) (ds := z.map pairD) (d := pairD (1, 0)) rfl rfl hlz (ev_tup (ea_cons ev_int (ea_cons ev_int ea_nil))) ?_
          rw [app]
          refine hN _ ?_ _ (.keep (.keep (.drop .nil)))
          rw [hst]
          unfold keptA
          rw [if_pos (of_decide_eq_true hb)]
        · refine s_app (j := 0) (ds := z.map pairD) (d := pairD a) rfl rfl hlz (ev_var rfl) ?_
          rw [app]
          refine hN _ ?_ _ (.keep (.keep (.drop .nil)))
          rw [hst]
          unfold keptA
          rw [if_neg (of_decide_eq_false hb)]
    · intro z hz
      rw [List.length_map, List.take_of_length_le (Nat.le_refl _)] at hz
      refine run_freeze (j := 0) (i := 1) (a := p) (ds := z.map pairD) rfl rfl ?_
      rw [hz]
      exact s_ret (ev_var rfl) k

theorem ok_least {C : Addr} (T : Txt mg) (VC : VT K C) {f : Addr} {fd : FuncData} (F : Fun K "least" "View.least" s_V_least f fd) : FnOk P w K mg base CX0 1 f fd ["self"] (spP (R_least C)) := by
  refine ok_of F sc_V_least (fun ds d h => ?_) (by decide) fun cdv A outer s H E hr => ⟨_, (pss_one (ps_ret (pe_op op_add (pe_fld (pv 0) rfl) (pe_callB (cr_sum rfl) (by rfl) T.zsum (by decide +kernel) (pa_cons (pe_lc (own := [("size", 1), ("pace", 2)]) (g := (gTup K 2 (gCons (gName 1) (gCons (gName 2) gNil)))) (tt := tYes) rfl sc_V_least.nd (pi_list (pe_fld (pv 0) rfl)) (blkOk_by (own := [("size", 1), ("pace", 2)]) (N := N_V_least) (sc := defScope s_V_least) (by decide +kernel)) (fun _ _ _ _ _ => (pg_tup rfl (pgs_cons (pg_name (i := 1) sc_V_least.nd rfl (Or.inl rfl)) (pgs_cons (pg_name (i := 2) sc_V_least.nd rfl (Or.inl rfl)) pgs_nil)))) (fun _ _ _ _ _ => pts_nil) (fun _ _ _ _ _ => (pe_callB (call_min2 rfl) (by rfl) T.zmin (by decide +kernel) (pa_cons pe_int (pa_cons (pe_op op_mul (pv 2) (pe_op op_sub (pv 1) pe_int)) pa_nil))))) pa_nil))))), fun L ds d Q h k => ?_⟩
  · obtain ⟨r, f, A, _, rfl, _⟩ := h; rfl
  · obtain ⟨r, f, A, hA, rfl, rfl⟩ := h
    refine s_ret (ev_add (ev_first VC.cl VC.nf (ev_var rfl)) (ev_sum (ns := A.map fun (a : P2) => if a.2 * (a.1 - 1) < 0 then a.2 * (a.1 - 1) else 0) (ea_cons (EvN.ev ?_) ea_nil))) k
    rw [List.map_map]
    refine en_map A pairD _ (fd_list (ev_axes VC.cl VC.na (ev_var rfl))) (by have := hA.1; omega) rfl fun B Dl acc hB a ha => ⟨_, as_tup rfl (asl_cons (as_name (by decide)) (asl_cons (as_name (by decide)) asl_nil)), ?_⟩
    have := hA.2 a ha
    exact ev_cb2 (ea_cons ev_int (ea_cons (ev_mul (.inr (by omega)) (ev_var rfl) (ev_sub (ev_var rfl) ev_int)) ea_nil))
theorem ok_greatest {C : Addr} (T : Txt mg) (VC : VT K C) {f : Addr} {fd : FuncData} (F : Fun K "greatest" "View.greatest" s_V_greatest f fd) : FnOk P w K mg base CX0 1 f fd ["self"] (spP (R_greatest C)) := by
  refine ok_of F sc_V_greatest (fun ds d h => ?_) (by decide) fun cdv A outer s H E hr => ⟨_, (pss_one (ps_ret (pe_op op_add (pe_fld (pv 0) rfl) (pe_callB (cr_sum rfl) (by rfl) T.zsum (by decide +kernel) (pa_cons (pe_lc (own := [("size", 1), ("pace", 2)]) (g := (gTup K 2 (gCons (gName 1) (gCons (gName 2) gNil)))) (tt := tYes) rfl sc_V_greatest.nd (pi_list (pe_fld (pv 0) rfl)) (blkOk_by (own := [("size", 1), ("pace", 2)]) (N := N_V_greatest) (sc := defScope s_V_greatest) (by decide +kernel)) (fun _ _ _ _ _ => (pg_tup rfl (pgs_cons (pg_name (i := 1) sc_V_greatest.nd rfl (Or.inl rfl)) (pgs_cons (pg_name (i := 2) sc_V_greatest.nd rfl (Or.inl rfl)) pgs_nil)))) (fun _ _ _ _ _ => pts_nil) (fun _ _ _ _ _ => (pe_callB (call_max2 rfl) (by rfl) T.zmax (by decide +kernel) (pa_cons pe_int (pa_cons (pe_op op_mul (pv 2) (pe_op op_sub (pv 1) pe_int)) pa_nil))))) pa_nil))))), fun L ds d Q h k => ?_⟩
  · obtain ⟨r, f, A, _, rfl, _⟩ := h; rfl
  · obtain ⟨r, f, A, hA, rfl, rfl⟩ := h
    refine s_ret (ev_add (ev_first VC.cl VC.nf (ev_var rfl)) (ev_sum (ns := A.map fun (a : P2) => if a.2 * (a.1 - 1) > 0 then a.2 * (a.1 - 1) else 0) (ea_cons (EvN.ev ?_) ea_nil))) k
    rw [List.map_map]
    refine en_map A pairD _ (fd_list (ev_axes VC.cl VC.na (ev_var rfl))) (by have := hA.1; omega) rfl fun B Dl acc hB a ha => ⟨_, as_tup rfl (asl_cons (as_name (by decide)) (asl_cons (as_name (by decide)) asl_nil)), ?_⟩
    have := hA.2 a ha
    exact ev_cb2 (ea_cons ev_int (ea_cons (ev_mul (.inr (by omega)) (ev_var rfl) (ev_sub (ev_var rfl) ev_int)) ea_nil))

theorem fld_two (r f : Int) : putF ("first" : Str) (.int f) (putF ("room" : Str) (.int r) []) = [(("room" : Str), V.int r), (("first" : Str), V.int f)] := by
  show (if ("room" : Str) = "first" then _ else _) = _
  rw [if_neg (by decide +kernel)]
  rfl
theorem fld_three (r f : Int) (l : Addr) : putF ("axes" : Str) (.ref l) [(("room" : Str), V.int r), (("first" : Str), V.int f)] = vfs r f l := by
  show (if ("room" : Str) = "axes" then _ else _) = _
  rw [if_neg (by decide +kernel)]
  show _ :: (if ("first" : Str) = "axes" then _ else _) = _
  rw [if_neg (by decide +kernel)]
  rfl
theorem ok_init {C : Addr} (T : Txt mg) (VC : VT K C) (C_is_whole : Fn P w K mg base 1 "is_whole" ["thing"] (spP R_is_whole)) (C_kept_axes : Fn P w K mg base 3 "kept_axes" ["axes"] (spP R_kept_axes)) (CM_least : FnM P w K mg base 1 C "least" ["self"] (spP (R_least C)))
    (CM_greatest : FnM P w K mg base 1 C "greatest" ["self"] (spP (R_greatest C))) {f : Addr} {fd : FuncData} (F : Fun K "__init__" "View.__init__" s_V_init f fd) : FnOk P w K mg base CX0 4 f fd ["self", "room", "first", "axes"] (spInit C) := by
  obtain ⟨fl, fdl, G_least, M_least, B_least⟩ := CM_least.ex
  obtain ⟨fg, fdg, G_greatest, M_greatest, B_greatest⟩ := CM_greatest.ex
  refine F.ok sc_V_init (fun vs H Q E h => ?_) (fun cdv A outer s H vs Q E hr h => ?_)
  · obtain ⟨L, x, dx, room, first, ax, v, rfl, _⟩ := h; rfl
  · obtain ⟨L, x, dx, room, first, ax, v, rfl, tr, nx, hx, hv, hA, h1, h2, h3, h4, q⟩ := h
    refine ⟨_, (pss_cons (ps_if (PW.pt (pw_or (pt_not (pt_val (pe_fn C_is_whole (hr.mono (by decide)) (by rfl) (pa_cons (pv 1) pa_nil)))) (pw_or1 (pt_not (pt_chain op_le op_le pe_int (pv 1) (pe_glob (v := .int 1000000000000000000) (by rfl) T.cMOST_ROOM.choose_spec ⟨_, rfl⟩)))))) pss_never pss_nil)
    (pss_cons (ps_if (pt_not (pt_val (pe_fn C_is_whole (hr.mono (by decide)) (by rfl) (pa_cons (pv 2) pa_nil)))) pss_never pss_nil)
    (pss_cons (ps_fld (pv 0) (pv 1) rfl)
    (pss_cons (ps_fld (pv 0) (pv 2) rfl)
    (pss_cons (ps_fld (pv 0) (pe_fn C_kept_axes (hr.mono (by decide)) (by rfl) (pa_cons (pv 3) pa_nil)) rfl)
    (pss_one (ps_if (PW.pt (pw_or (pt_cmpR op_lt (pe_meth0 (pv 0) VC.cl M_least G_least (hr.mono (by decide)) B_least .nil pass0) pe_int (nomark _)) (pw_or1 (pt_cmpR op_ge (pe_meth0 (pv 0) VC.cl M_greatest G_greatest (hr.mono (by decide)) B_greatest .nil pass0) (pv 1) (nomark _))))) pss_never pss_nil))))))), ?_⟩
    have st : St0 (hid [x] H) L [(x, .o (.ins C dx []))] [.v (.ref x), .d (.int room), .d (.int first), .d (.lst (ax.map pairD))] (L2.start N_V_init [.ref x, .int room, .int first, v]) H := by
      refine ⟨Same.refl _, fun z hz => ?_, List.nodup_cons.mpr ⟨by simp, List.nodup_nil⟩, fun b hb => by rw [List.mem_singleton.mp hb]; exact nx, fun z hz => by rw [List.mem_singleton.mp hz]; exact hx,
        env_cons rfl (env_cons ⟨_, rfl, .int room⟩ (env_cons ⟨_, rfl, .int first⟩ (env_cons ⟨_, rfl, hv⟩ env_nil)))⟩
      rcases List.mem_cons.mp hz with e | e
      · rw [e, hx]; simp
      · exact tr z e
    refine (?_ : Run (hid [x] H) L _ _ _ _) _ _ st
    refine q_pass (EvT.of (et_or2 (EvT.of (et_not (et_B (ev_call (R := R_is_whole) ⟨.int room, by simp [tyD], rfl, rfl⟩ (ea_cons (ev_var rfl) ea_nil)))) rfl) (et_not (et_test (ev_chain (p := fun i j => decide (i ≤ j)) (q := fun i j => decide (i ≤ j)) ev_int (ev_var rfl) fun _ => ev_int)))) ?_) ?_
    · rw [decide_eq_true h1, decide_eq_true h2]
      rfl
    refine q_pass (EvT.of (et_not (et_B (ev_call (R := R_is_whole) ⟨.int first, by simp [tyD], rfl, rfl⟩ (ea_cons (ev_var rfl) ea_nil)))) rfl) ?_
    refine q_fld (j := 0) rfl rfl VC.cl VC.nr (by decide) (ev_var rfl) (q_fld (j := 0) rfl rfl VC.cl VC.nf (Nat.le_of_ble_eq_true rfl) (ev_var rfl) ?_)
    intro σ H1 s1
    refine ev_call (R := R_kept_axes) ⟨ax, hA, rfl, rfl⟩ (ea_cons (ev_var rfl) ea_nil) σ H1 s1 _ fun y H2 e2 k2 => ⟨.ref x, s1.env.at_ 0 _ rfl, ?_⟩
    have s2 := s1.grow e2
    have hx2 : H2 x = some (.ins C dx (putF "first" (.int first) (putF "room" (.int room) []))) := s2.mu _ List.mem_cons_self
    refine ⟨x, C, dx, _, rfl, hx2, VC.cl, VC.na, by rw [fld_two]; exact Nat.le_of_ble_eq_true rfl, ?_⟩
    cases k2 with
    | lst g1 g2 =>
      rename_i l xs
      rw [fld_two, fld_three]
      have nxl : l ≠ x := fun z => by
        have := (hid_some g1).1
        rw [z] at this
        exact this List.mem_cons_self
      have kv : Dt (hid L (upd H2 x (.ins C dx (vfs room first l)))) (.ref x) (.vw C room first (ax.map keptA)) := by
        have up : Same (hid (hm L [(x, Mu.o (.ins C dx []))]) H2) (hid L (upd H2 x (.ins C dx (vfs room first l)))) := fun b o e => by
          obtain ⟨q1, q2⟩ := hid_some e
          have nb : b ≠ x := fun z => q1 (by rw [z]; exact List.mem_cons_self)
          have nL : b ∉ L := fun z => q1 (List.mem_cons_of_mem _ z)
          rw [hid_out nL, upd_ne nb]
          exact q2
        exact .vw (by rw [hid_out nx, upd_same]) (up _ _ g1) (g2.mo up)
      -- the object as data: the state without it
      have st2 : St0 (upd H2 x (.ins C dx (vfs room first l))) L [] [.d (.vw C room first (ax.map keptA)), .d (.int room), .no, .no] σ (upd H2 x (.ins C dx (vfs room first l))) := by
        refine ⟨?_, fun b hb => ?_, List.nodup_nil, fun b hb => (nomatch hb), fun p hp => (nomatch hp), ⟨s2.env.len, fun i e q => ?_⟩⟩
        · show Same _ (hid [] _)
          rw [hid_nil]
          exact Same.refl _
        · by_cases z : b = x
          · rw [z, upd_same]; simp
          · rw [upd_ne z]
            exact s2.trk b (List.mem_append_right _ hb)
        · match i, q with
          | 0, q =>
            cases q
            exact ⟨.ref x, s2.env.at_ 0 _ rfl, kv⟩
          | 1, q =>
            cases q
            obtain ⟨u, q1, q2⟩ := s2.env.at_ 1 _ rfl
            cases q2
            exact ⟨_, q1, .int room⟩
          | 2, q => cases q; trivial
          | 3, q => cases q; trivial
          | i + 4, q => simp at q
      have hk := kept_ok hA
      refine (?_ : Run (upd H2 x (.ins C dx (vfs room first l))) L [] [.d (.vw C room first (ax.map keptA)), .d (.int room), .no, .no] _ _) σ _ st2
      refine s_false (EvT.of (et_or2 (EvT.of (et_test (ev_lt (ev_meth0 (R := R_least C) (by decide +kernel) (by decide +kernel) (by decide +kernel) ⟨room, first, _, hk, rfl, rfl⟩ (ev_var rfl)) ev_int)) (decide_eq_false (by omega))) (et_test (ev_ge (ev_meth0 (R := R_greatest C) (by decide +kernel) (by decide +kernel) (by decide +kernel) ⟨room, first, _, hk, rfl, rfl⟩ (ev_var rfl)) (ev_var rfl)))) (decide_eq_false (by omega))) ?_
      refine s_next fun σ' H' s' => q H' (fun b o hb e => s'.same0 _ _ ?_) (kv.mo (hid_mono s'.same0))
      have e1 : hid [x] H b = some o := by rw [hid_out (by simpa using hb)]; exact e
      rw [upd_ne hb]
      exact (hid_some (s2.same b o e1)).2
end
end Pc

set_option Elab.async false
set_option linter.all false
set_option maxRecDepth 100000
set_option maxHeartbeats 4000000
/-! the law: draws, places, cells. -/
namespace Pc
open PySem PySem.Spec PyProof.Rows L2 Pm

section
variable {H0 : Hp} {L0 : List Addr} {ms : List (Addr × Mu)} {es : List En} {te ta tb tk tm : TE} {d : D} {ds ds' : List D} {E : Ends} {us : TS} {K : PySem.W.Frag} {i j : Nat} {n m : Int} {a : Addr} {X : XK}
theorem fd_zipM {t : TA} (h : EvA H0 L0 ms es t [.tup ds, .lst ds']) : Fd H0 L0 ms es (iZipM K t) (zipD ds ds') := fun σ H s R q => h σ H s _ fun vs H1 e1 k1 => by
  obtain ⟨v, w, rfl, k1, k2⟩ := two_dt k1
  cases k1 with
  | tup h1 h2 =>
    cases k2 with
    | lst g1 g2 =>
      rename_i a1 xs1 a2 xs2
      refine ⟨a1, a2, xs1, xs2, rfl, .inl (.inl (hid_sub _ _ h1)), .inl (.inl (hid_sub _ _ g1)), q _ H1 e1 fun A H e tr => ?_⟩
      rw [hm_hid] at h1 h2 g1 g2
      have hS1 : SqT K H a1 xs1 := .inl (.inl (hid_sub _ _ (e _ _ (hid_sub _ _ h1))))
      have hS2 : SqL K H a2 xs2 := .inl (.inl (hid_sub _ _ (e _ _ (hid_sub _ _ g1))))
      have e2 : Same (hid L0 (hid (mus ms) H1)) (hid (A ++ L0) H) := by
        rw [hid_app]
        exact hid_mono e
      refine ⟨fun i d hi => ?_, ⟨xs1, xs2, hS1, hS2, ?_⟩⟩
      · obtain ⟨d1, d2, q1, q2, rfl⟩ := zipD_get hi
        obtain ⟨v1, hv1, kv1⟩ := h2.get q1
        obtain ⟨v2, hv2, kv2⟩ := g2.get q2
        refine ⟨⟨xs1, xs2, v1, v2, ⟨hS1, hv1⟩, ⟨hS2, hv2⟩⟩, fun x H' y => ?_⟩
        obtain ⟨T, y1, y2, rfl, hT, rfl, f1, f2⟩ := y
        have z1 := (f1 xs1 hS1).symm.trans hv1
        have z2 := (f2 xs2 hS2).symm.trans hv2
        cases z1
        cases z2
        exact ⟨same_new hT, tup2_new tr hT (kv1.mo e2) (kv2.mo e2)⟩
      · rw [h2.length, g2.length, zipD_len]
        omega
end

def draw (ns : List Int) (k m : Int) : Int :=
  if k < (ns.length : Int) then ns.getD k.toNat 0 % m
  else (if 0 < ns.length then (ns.getD (k % (ns.length : Int)).toNat 0 % 999999937) * (48271 + 2 * k * k) + k * 69621 else k * k * 7919 + 104729) % 2147483647 * 16807 % 2147483629 % m
theorem draw_range (ns : List Int) {k m : Int} (h : 0 < m) : 0 ≤ draw ns k m ∧ draw ns k m < m := by
  unfold draw
  split
  · exact ⟨Int.emod_nonneg _ (by omega), Int.emod_lt_of_pos _ h⟩
  · exact ⟨Int.emod_nonneg _ (by omega), Int.emod_lt_of_pos _ h⟩
def spDraw (K : PySem.W.Frag) : Sp := fun vs H Q _ => ∃ (a : Addr) (ns : List Int) (k m : Int), vs = [.ref a, .int k, .int m] ∧ SqL K H a (ns.map V.int) ∧ ns.length ≤ 63 ∧ 0 ≤ k ∧ k ≤ 1000 ∧ 0 < m ∧ ∀ H', Same H H' → Q (.int (draw ns k m)) H'
section
variable {H0 : Hp} {L0 : List Addr} {ms : List (Addr × Mu)} {es : List En} {tk tm : TE} {K : PySem.W.Frag} {i : Nat} {k m : Int} {a : Addr} {X : XK} {ns : List Int}
theorem ev_draw (hS : SqL K H0 a (ns.map V.int)) (hi : es[i]? = some (.v (.ref a))) (hl : ns.length ≤ 63) (h0 : 0 ≤ k) (h1 : k ≤ 1000) (h2 : 0 < m) (hk : Ev H0 L0 ms es tk (.int k)) (hm : Ev H0 L0 ms es tm (.int m)) :
    Ev H0 L0 ms es (tCall (spDraw K) [] X (tCons (tVar i) (tCons tk (tCons tm tNil)))) (.int (draw ns k m)) := fun σ H s Q q => by
  refine ⟨.ref a, s.env.at_ i _ hi, hk σ H s _ fun v H1 e1 k1 => hm σ H1 (s.grow e1) _ fun w H2 e2 k2 => ?_⟩
  cases k1
  cases k2
  exact ⟨a, ns, k, m, rfl, (s.grow (e1.trans e2)).same0.seq hS, hl, h0, h1, h2, fun H3 e3 => q _ H3 ((e1.trans e2).trans e3) (.int _)⟩
/-- what the script is asked -/
theorem ev_lenS (hS : SqL K H0 a (ns.map V.int)) (hi : es[i]? = some (.v (.ref a))) : Ev H0 L0 ms es (tCB (fun xs H Q => ∃ p ys, xs = [V.ref p] ∧ (SqL K H p ys ∨ SqT K H p ys) ∧ Q (.int ys.length) H) (tCons (tVar i) tNil)) (.int ns.length) := fun σ H s Q q =>
  ⟨.ref a, s.env.at_ i _ hi, a, ns.map V.int, rfl, .inl (s.same0.seq hS), by rw [List.length_map]; exact q _ H (Same.refl H) (.int _)⟩
theorem ev_ixS {tb : TE} (hS : SqL K H0 a (ns.map V.int)) (hi : es[i]? = some (.v (.ref a))) (h0 : 0 ≤ k) (h1 : k < (ns.length : Int)) (hb : Ev H0 L0 ms es tb (.int k)) : Ev H0 L0 ms es (tOp (rIxL K) (tVar i) tb) (.int (ns.getD k.toNat 0)) := fun σ H s Q q => by
  refine ⟨.ref a, s.env.at_ i _ hi, hb σ H s _ fun v H1 e1 k1 => ?_⟩
  cases k1
  have hl : k.toNat < ns.length := by omega
  refine ⟨a, ns.map V.int, k, .int (ns.getD k.toNat 0), rfl, rfl, (s.grow e1).same0.seq hS, ?_, q _ H1 e1 (.int _)⟩
  have hk : ((k.toNat : Nat) : Int) = k := by omega
  rw [← hk]
  refine atI_n' ?_
  rw [List.getElem?_map, Int.toNat_natCast, List.getElem?_eq_getElem hl, List.getD_eq_getElem?_getD, List.getElem?_eq_getElem hl]
  rfl
end

def PlaceOk (pl : List Int) (A : List P2) : Prop := pl.length = A.length ∧ ∀ p ∈ pl.zip A, 0 ≤ p.1 ∧ p.1 < p.2.1
def cellOf (f : Int) (A : List P2) (pl : List Int) : Int := f + ((pl.zip A).map fun p => p.1 * p.2.2).sum
def R_l_is_place : List D → D → Prop := fun ds d => ∃ pl A, AxOk A ∧ PlaceOk pl A ∧ ds = [.tup (pl.map D.int), .lst (A.map pairD)] ∧ d = .bl true
def R_l_cell : List D → D → Prop := fun ds d => ∃ f pl A, AxOk A ∧ PlaceOk pl A ∧ ds = [.int f, .lst (A.map pairD), .tup (pl.map D.int)] ∧ d = .int (cellOf f A pl)
def R_l_met : List D → D → Prop := fun ds d => ∃ A B p1 p2 g, AxOk A ∧ AxOk B ∧ PlaceOk p1 A ∧ PlaceOk p2 B ∧ cellOf 0 A p1 = cellOf g B p2 ∧ ds = [.tup [.str "shared", .tup (p1.map D.int), .tup (p2.map D.int)], .lst (A.map pairD), .lst (B.map pairD), .int g] ∧ d = .bl true
theorem zip_pl (pl : List Int) (A : List P2) : zipD (pl.map D.int) (A.map pairD) = (pl.zip A).map fun p => D.tup [.int p.1, pairD p.2] := by
  unfold zipD
  rw [List.zip_map, List.map_map]
  rfl
theorem zip_le8 {pl : List Int} {A : List P2} (h : AxOk A) : (pl.zip A).length ≤ 1000 := by
  rw [List.length_zip]
  have := h.1
  omega

section
variable {P : Program} {w : World} {K : PySem.W.Frag} {mg : Str → Option Value} {base : Heap}

theorem ok_l_whole (T : Txt mg) {f : Addr} {fd : FuncData} (F : Fun K "_law_whole" "_law_whole" s_l_whole f fd) : FnOk P w K mg base CX0 1 f fd ["_law_found"] (spP R_is_whole) := by
  refine ok_of F sc_l_whole (fun ds d h => ?_) (by decide) fun cdv A outer s H E hr => ⟨_, (pss_one (ps_ret (pe_and (pe_callB call_isi (by rfl) T.zisinstance (by decide +kernel) (pa_cons (pv 0) (pa_cons (pe_bltn (v := .ty "int") (by rfl) T.zint (by decide +kernel) rfl) pa_nil))) (pe_one (pe_not (pe_callB call_isi (by rfl) T.zisinstance (by decide +kernel) (pa_cons (pv 0) (pa_cons (pe_bltn (v := .ty "bool") (by rfl) T.zbool (by decide +kernel) rfl) pa_nil)))))))), fun L ds d Q h k => ?_⟩
  · obtain ⟨x, _, rfl, _⟩ := h; rfl
  · obtain ⟨x, hx, rfl, rfl⟩ := h
    obtain ⟨T1, eT⟩ := Option.ne_none_iff_exists'.mp hx
    have e : ∃ b1 b2, kitB T1 "int" = some b1 ∧ kitB T1 "bool" = some b2 ∧ (b1 && !b2) = isW x := by
      cases x <;> cases eT <;> first
        | exact ⟨true, false, by decide +kernel, by decide +kernel, rfl⟩
        | exact ⟨true, true, by decide +kernel, by decide +kernel, rfl⟩
        | exact ⟨false, false, by decide +kernel, by decide +kernel, rfl⟩
    obtain ⟨b1, b2, h1, h2, h3⟩ := e
    refine s_ret (d := .bl (isW x)) (Ev.of (ev_andV (ev_isi eT h1 (ev_var rfl)) fun _ => ev_notV (ev_isi eT h2 (ev_var rfl))) (by rw [h3])) k

theorem ok_l_draw (T : Txt mg) {f : Addr} {fd : FuncData} (F : Fun K "_law_draw" "_law_draw" s_l_draw f fd) : FnOk P w K mg base CX0 1 f fd ["_law_script", "_law_k", "_law_many"] (spDraw K) := by
  refine F.ok sc_l_draw (fun vs H Q E h => ?_) (fun cdv A outer s H vs Q E hr h => ?_)
  · obtain ⟨a, ns, k, m, rfl, _⟩ := h; rfl
  · obtain ⟨a, ns, k, m, rfl, hS, hl, h0, h1, h2, q⟩ := h
    refine ⟨_, (pss_cons (ps_if (pt_cmpR op_lt (pv 1) (pe_callB call_len_seq (by rfl) T.zlen (by decide +kernel) (pa_cons (pv 0) pa_nil)) (nomark _)) (pss_one (ps_ret (pe_op op_mod (pe_ix (ixL (K := K)) (pv 0) (pv 1) (fun _ _ => rfl)) (pv 2)))) pss_nil)
    (pss_cons (ps_set (i := 3) sc_l_draw.nd rfl (Or.inl rfl) (pe_op op_add (pe_op op_mul (pe_op op_mul (pv 1) (pv 1)) pe_int) pe_int))
    (pss_cons (ps_if (pt_cmpR op_gt (pe_callB call_len_seq (by rfl) T.zlen (by decide +kernel) (pa_cons (pv 0) pa_nil)) pe_int (nomark _)) (pss_cons (ps_set (i := 4) sc_l_draw.nd rfl (Or.inl rfl) (pe_op op_mod (pe_ix (ixL (K := K)) (pv 0) (pe_op op_mod (pv 1) (pe_callB call_len_seq (by rfl) T.zlen (by decide +kernel) (pa_cons (pv 0) pa_nil))) (fun _ _ => rfl)) pe_int))
    (pss_one (ps_set (i := 3) sc_l_draw.nd rfl (Or.inl rfl) (pe_op op_add (pe_op op_mul (pv 4) (pe_op op_add pe_int (pe_op op_mul (pe_op op_mul pe_int (pv 1)) (pv 1)))) (pe_op op_mul (pv 1) pe_int))))) pss_nil)
    (pss_one (ps_ret (pe_op op_mod (pe_op op_mod (pe_op op_mul (pe_op op_mod (pv 3) pe_int) pe_int) pe_int) (pv 2))))))), ?_⟩
    have st : St0 H [] [] [.v (.ref a), .d (.int k), .d (.int m), .no, .no] (L2.start N_l_draw [.ref a, .int k, .int m]) H := by
      refine ⟨?_, fun b hb => (nomatch hb), List.nodup_nil, fun b hb => (nomatch hb), fun p hp => (nomatch hp), env_cons rfl (env_cons ⟨_, rfl, .int k⟩ (env_cons ⟨_, rfl, .int m⟩ (env_no (env_no env_nil))))⟩
      show Same H (hid [] H)
      rw [hid_nil]
      exact Same.refl H
    refine (?_ : Run H [] [] _ _ _) _ _ st
    have ret : ∀ v, v = draw ns k m → Rt H [] { nx := fun _ H' => Q .non H', rt := Q } (.int v) := fun v hv u H' e k1 => by
      cases k1
      rw [hv]
      exact q H' e
    have kb : CMul k k := .inl ⟨by omega, by omega⟩
    refine q_when (et_test (ev_lt (ev_var rfl) (ev_lenS hS rfl))) (fun hb => ?_) fun hb => ?_
    · have hk := of_decide_eq_true hb
      refine s_ret (ev_mod h2 (ev_ixS hS rfl h0 hk (ev_var rfl)) (ev_var rfl)) (ret _ ?_)
      unfold draw
      rw [if_pos hk]
    have hk : ¬ k < (ns.length : Int) := of_decide_eq_false hb
    have fin : ∀ (v : Int) (e4 : En), v = (if 0 < ns.length then (ns.getD (k % (ns.length : Int)).toNat 0 % 999999937) * (48271 + 2 * k * k) + k * 69621 else k * k * 7919 + 104729) →
        Run H [] [] [.v (.ref a), .d (.int k), .d (.int m), .d (.int v), e4] (tRet (tOp (rI (fun _ j => 0 < j) fun i j => .int (i % j)) (tOp (rI (fun _ j => 0 < j) fun i j => .int (i % j)) (tOp (rI CMul fun i j => .int (i * j)) (tOp (rI (fun _ j => 0 < j) fun i j => .int (i % j)) (tVar 3) (tC (.int 2147483647))) (tC (.int 16807))) (tC (.int 2147483629))) (tVar 2))) { nx := fun _ H' => Q .non H', rt := Q } := fun v e4 hv => by
      refine s_ret (ev_mod h2 (ev_mod (by decide) (ev_mul (.inr (by decide)) (ev_mod (by decide) (ev_var rfl) ev_int) ev_int) ev_int) (ev_var rfl)) (ret _ ?_)
      unfold draw
      rw [if_neg hk, hv]
    refine q_set (ev_add (ev_mul (.inr (by decide)) (ev_mul kb (ev_var rfl) (ev_var rfl)) ev_int) ev_int) ?_
    refine q_when (et_test (ev_gt (ev_lenS hS rfl) ev_int)) (fun hb2 => ?_) fun hb2 => ?_
    · have hn : 0 < ns.length := by have : (0 : Int) < ns.length := of_decide_eq_true hb2; omega
      have hn' : (0 : Int) < (ns.length : Int) := by omega
      refine q_set (ev_mod (by decide) (ev_ixS hS rfl (Int.emod_nonneg k (by omega)) (Int.emod_lt_of_pos k hn') (ev_mod hn' (ev_var rfl) (ev_lenS hS rfl))) ev_int) ?_
      refine s_set (ev_add (ev_mul (.inr ?_) (ev_var rfl) (ev_add ev_int (ev_mul (.inr ⟨by omega, by omega⟩) (ev_mul (.inl (by decide)) ev_int (ev_var rfl)) (ev_var rfl)))) (ev_mul (.inr (by decide)) (ev_var rfl) ev_int)) ?_
      · have a1 : 0 ≤ 2 * k * k := Int.mul_nonneg (by omega) h0
        have a2 : 2 * k * k ≤ 2000 * 1000 := Int.mul_le_mul (by omega) h1 h0 (by decide)
        omega
      · exact fin _ _ (by rw [if_pos hn])
    · have hn : ¬ 0 < ns.length := by have : ¬ (0 : Int) < ns.length := of_decide_eq_false hb2; omega
      exact fin _ _ (by rw [if_neg hn])

theorem ok_l_is_place (T : Txt mg) (C__law_whole : Fn P w K mg base 1 "_law_whole" ["_law_found"] (spP R_is_whole)) {f : Addr} {fd : FuncData} (F : Fun K "_law_is_place" "_law_is_place" s_l_is_place f fd) :
    FnOk P w K mg base CX0 2 f fd ["_law_place", "_law_axes_here"] (spP R_l_is_place) := by
  refine ok_of F sc_l_is_place (fun ds d h => ?_) (by decide) fun cdv A outer s H E hr => ⟨_, (pss_cons (ps_if (PW.pt (pw_or (pt_not (pt_val (pe_callB call_isi (by rfl) T.zisinstance (by decide +kernel) (pa_cons (pv 0) (pa_cons (pe_bltn (v := .ty "tuple") (by rfl) T.ztuple (by decide +kernel) rfl) pa_nil))))) (pw_or1 (pt_cmpR op_ne (pe_callB call_len_seq (by rfl) T.zlen (by decide +kernel) (pa_cons (pv 0) pa_nil)) (pe_callB call_len_seq (by rfl) T.zlen (by decide +kernel) (pa_cons (pv 1) pa_nil)) (nomark _))))) (pss_one (ps_ret pe_bl)) pss_nil)
    (pss_cons (ps_for PassesOwn.never rfl (pi_zipM (by rfl) T.zzip (pa_cons (pv 0) (pa_cons (pv 1) pa_nil))) (pg_tup rfl (pgs_cons (pg_name (i := 2) sc_l_is_place.nd rfl (Or.inl rfl)) (pgs_cons (pg_name (i := 3) sc_l_is_place.nd rfl (Or.inl rfl)) pgs_nil))) (pss_one (ps_if (PW.pt (pw_or (pt_not (pt_val (pe_fn C__law_whole (hr.mono (by decide)) (by rfl) (pa_cons (pv 2) pa_nil)))) (pw_or1 (pt_not (pt_chain op_le op_lt pe_int (pv 2) (pe_ix (ixT (K := K)) (pv 3) pe_int (fun _ _ => rfl))))))) (pss_one (ps_ret pe_bl)) pss_nil)))
    (pss_one (ps_ret pe_bl)))), fun L ds d Q h k => ?_⟩
  · obtain ⟨pl, A, _, _, rfl, _⟩ := h; rfl
  · obtain ⟨pl, A, hA, hP, rfl, rfl⟩ := h
    refine q_pass (EvT.of (et_or2 (EvT.of (et_not (et_B (ev_isi (T := "tuple") (b := true) rfl (by decide +kernel) (ev_var rfl)))) rfl) (et_test (ev_ne rfl (ev_lenT (ea_cons (ev_var rfl) ea_nil)) (ev_lenL (ea_cons (ev_var rfl) ea_nil))))) ?_) ?_
    · rw [List.length_map, List.length_map, hP.1]
      simp [sameD]
    refine q_for (α := Unit) (fd_of (fd_zipM (ea_cons (ev_var rfl) (ea_cons (ev_var rfl) ea_nil))) (zip_pl pl A)) (fun _ => []) (fun _ => [.d (.tup (pl.map D.int)), .d (.lst (A.map pairD)), .no, .no]) (fun _ _ => True) () trivial rfl (Wk.refl _) ?_ ?_
    · intro B' hB' i d _ hd _
      rw [List.getElem?_map] at hd
      cases e : (pl.zip A)[i]? with
      | none => rw [e] at hd; cases hd
      | some p =>
        rw [e] at hd
        cases hd
        obtain ⟨h1, h2⟩ := hP.2 p (List.mem_of_getElem? e)
        refine ⟨_, [2, 3], as_tup rfl (asl_cons (as_name (by decide)) (asl_cons (as_name (by decide)) asl_nil)), fun N hN => ?_⟩
        refine s_false (EvT.of (et_or2 (EvT.of (et_not (et_B (ev_call (R := R_is_whole) ⟨.int p.1, by simp [tyD], rfl, rfl⟩ (ea_cons (ev_var rfl) ea_nil)))) rfl) (et_not (et_test (ev_chain (p := fun i j => decide (i ≤ j)) (q := fun i j => decide (i < j)) ev_int (ev_var rfl) fun _ => ev_ixT atI0 (ev_var rfl) ev_int)))) ?_) ?_
        · rw [decide_eq_true h1, decide_eq_true h2]
          rfl
        · exact s_next (hN () trivial _ (.keep (.keep (.drop (.drop .nil)))))
    · intro _ _
      exact s_ret ev_bl k

theorem ok_l_cell (T : Txt mg) {f : Addr} {fd : FuncData} (F : Fun K "_law_cell" "_law_cell" s_l_cell f fd) : FnOk P w K mg base CX0 1 f fd ["_law_first", "_law_axes_here", "_law_place"] (spP R_l_cell) := by
  refine ok_of F sc_l_cell (fun ds d h => ?_) (by decide) fun cdv A outer s H E hr => ⟨_, (pss_one (ps_ret (pe_op op_add (pv 0) (pe_callB (cr_sum rfl) (by rfl) T.zsum (by decide +kernel) (pa_cons (pe_lc (own := [("_law_at", 3), ("_law_axis", 4)]) (g := (gTup K 2 (gCons (gName 3) (gCons (gName 4) gNil)))) (tt := tYes) rfl sc_l_cell.nd (pi_zipM (by rfl) T.zzip (pa_cons (pv 2) (pa_cons (pv 1) pa_nil))) (blkOk_by (own := [("_law_at", 3), ("_law_axis", 4)]) (N := N_l_cell) (sc := defScope s_l_cell) (by decide +kernel)) (fun _ _ _ _ _ => (pg_tup rfl (pgs_cons (pg_name (i := 3) sc_l_cell.nd rfl (Or.inl rfl)) (pgs_cons (pg_name (i := 4) sc_l_cell.nd rfl (Or.inl rfl)) pgs_nil)))) (fun _ _ _ _ _ => pts_nil) (fun _ _ _ _ _ => (pe_op op_mul (pv 3) (pe_ix (ixT (K := K)) (pv 4) pe_int (fun _ _ => rfl))))) pa_nil))))), fun L ds d Q h k => ?_⟩
  · obtain ⟨f, pl, A, _, _, rfl, _⟩ := h; rfl
  · obtain ⟨f, pl, A, hA, hP, rfl, rfl⟩ := h
    refine s_ret (ev_add (ev_var rfl) (ev_sum (ns := (pl.zip A).map fun (p : Int × P2) => p.1 * p.2.2) (ea_cons (EvN.ev ?_) ea_nil))) k
    rw [List.map_map]
    refine en_map (γ := Int × P2) (pl.zip A) (fun p => .tup [.int p.1, pairD p.2]) _ ?hf ?hz ?hno ?hs
    case hf => exact fd_of (fd_zipM (ea_cons (ev_var rfl) (ea_cons (ev_var rfl) ea_nil))) (zip_pl pl A)
    case hz => exact zip_le8 hA
    case hno => rfl
    case hs =>
      intro B Dl acc hB p hp
      refine ⟨_, as_tup rfl (asl_cons (as_name (by decide)) (asl_cons (as_name (by decide)) asl_nil)), ?_⟩
      obtain ⟨h1, h2⟩ := hP.2 p hp
      have h3 := (hA.2 p.2 (List.of_mem_zip hp).2).2
      exact ev_mul (.inl (by omega)) (ev_var rfl) (ev_ixT atI1 (ev_var rfl) ev_int)

theorem ok_l_met (T : Txt mg) (C__law_is_place : Fn P w K mg base 2 "_law_is_place" ["_law_place", "_law_axes_here"] (spP R_l_is_place)) (C__law_cell : Fn P w K mg base 1 "_law_cell" ["_law_first", "_law_axes_here", "_law_place"] (spP R_l_cell))
    {f : Addr} {fd : FuncData} (F : Fun K "_law_met" "_law_met" s_l_met f fd) : FnOk P w K mg base CX0 3 f fd ["_law_found", "_law_one", "_law_other", "_law_goal"] (spP R_l_met) := by
  refine ok_of F sc_l_met (fun ds d h => ?_) (by decide) fun cdv A outer s H E hr => ⟨_, (pss_cons (ps_if (PW.pt (pw_or (pt_not (pt_val (pe_callB call_isi (by rfl) T.zisinstance (by decide +kernel) (pa_cons (pv 0) (pa_cons (pe_bltn (v := .ty "tuple") (by rfl) T.ztuple (by decide +kernel) rfl) pa_nil))))) (pw_or (pt_cmpR op_ne (pe_callB call_len_seq (by rfl) T.zlen (by decide +kernel) (pa_cons (pv 0) pa_nil)) pe_int (nomark _)) (pw_or1 (pt_cmpR op_ne (pe_ix (ixT (K := K)) (pv 0) pe_int (fun _ _ => rfl)) pe_str (nomark _)))))) (pss_one (ps_ret pe_bl)) pss_nil)
    (pss_cons (ps_if (PW.pt (pw_or (pt_not (pt_val (pe_fn C__law_is_place (hr.mono (by decide)) (by rfl) (pa_cons (pe_ix (ixT (K := K)) (pv 0) pe_int (fun _ _ => rfl)) (pa_cons (pv 1) pa_nil))))) (pw_or1 (pt_not (pt_val (pe_fn C__law_is_place (hr.mono (by decide)) (by rfl) (pa_cons (pe_ix (ixT (K := K)) (pv 0) pe_int (fun _ _ => rfl)) (pa_cons (pv 2) pa_nil)))))))) (pss_one (ps_ret pe_bl)) pss_nil)
    (pss_one (ps_ret (pe_cmpR op_eq (pe_fn C__law_cell (hr.mono (by decide)) (by rfl) (pa_cons pe_int (pa_cons (pv 1) (pa_cons (pe_ix (ixT (K := K)) (pv 0) pe_int (fun _ _ => rfl)) pa_nil)))) (pe_fn C__law_cell (hr.mono (by decide)) (by rfl) (pa_cons (pv 3) (pa_cons (pv 2) (pa_cons (pe_ix (ixT (K := K)) (pv 0) pe_int (fun _ _ => rfl)) pa_nil)))) (nomark _)))))), fun L ds d Q h k => ?_⟩
  · obtain ⟨A, B, p1, p2, g, _, _, _, _, _, rfl, _⟩ := h; rfl
  · obtain ⟨A, B, p1, p2, g, hA, hB, h1, h2, he, rfl, rfl⟩ := h
    refine q_pass (EvT.of (et_or2 (EvT.of (et_not (et_B (ev_isi (T := "tuple") (b := true) rfl (by decide +kernel) (ev_var rfl)))) rfl) (et_or2 (EvT.of (et_test (ev_ne rfl (ev_lenT (ea_cons (ev_var rfl) ea_nil)) ev_int)) (show _ = false by simp [sameD])) (et_test (ev_ne rfl (ev_ixT atI0 (ev_var rfl) ev_int) ev_str)))) (by simp [sameD])) ?_
    refine q_pass (EvT.of (et_or2 (EvT.of (et_not (et_B (ev_call (R := R_l_is_place) ⟨p1, A, hA, h1, rfl, rfl⟩ (ea_cons (ev_ixT atI1 (ev_var rfl) ev_int) (ea_cons (ev_var rfl) ea_nil))))) rfl) (et_not (et_B (ev_call (R := R_l_is_place) ⟨p2, B, hB, h2, rfl, rfl⟩ (ea_cons (ev_ixT atI2 (ev_var rfl) ev_int) (ea_cons (ev_var rfl) ea_nil)))))) rfl) ?_
    refine s_ret (Ev.of (ev_eq rfl (ev_call (R := R_l_cell) ⟨0, p1, A, hA, h1, rfl, rfl⟩ (ea_cons ev_int (ea_cons (ev_var rfl) (ea_cons (ev_ixT atI1 (ev_var rfl) ev_int) ea_nil)))) (ev_call (R := R_l_cell) ⟨g, p2, B, hB, h2, rfl, rfl⟩ (ea_cons (ev_var rfl) (ea_cons (ev_var rfl) (ea_cons (ev_ixT atI2 (ev_var rfl) ev_int) ea_nil))))) ?_) k
    rw [he]
    simp [sameD]
end
end Pc

set_option Elab.async false
set_option linter.all false
set_option maxRecDepth 100000
set_option maxHeartbeats 4000000
/-! the law: its own terms, sums, divisor, ends. -/
namespace Pc
open PySem PySem.Spec PyProof.Rows L2 Pm

def R_l_terms : List D → D → Prop := fun ds d => ∃ A B, AxOk A ∧ AxOk B ∧ ds = [.lst (A.map pairD), .lst (B.map pairD)] ∧ d = termsD (terms (A.map keptA) (B.map keptA))
def R_l_sums : List D → D → Prop := fun ds d => ∃ ts c, TOk ts ∧ c.length = ts.length ∧ ds = [termsD ts, caseD c] ∧ d = .tup [.int (leastSum ts c), .int (greatestSum ts c)]
def R_l_divisor : List D → D → Prop := fun ds d => ∃ ns : List Int, (∀ n ∈ ns, 0 ≤ n) ∧ ds = [.lst (ns.map D.int)] ∧ d = .int (gcdL ns)
def R_l_ended : List D → D → Prop := fun ds d => ∃ ts g c, TOk ts ∧ c.length = ts.length ∧ ds = [termsD ts, .int g, caseD c] ∧ d = .bl (endOf ts g c).isSome
def R_l_rest : List D → D → Prop := fun ds d => ∃ ts g c m, TOk ts ∧ c.length = ts.length ∧ ds = [termsD ts, .int g, caseD c, .int m] ∧ d = .bl (isRest ts g c m)
theorem kept_ne {x : P2} (h : 1 ≤ x.1) : (keptA x).2 ≠ 0 ↔ 1 < x.1 ∧ x.2 ≠ 0 := by
  unfold keptA
  split
  · rename_i e
    exact ⟨fun z => absurd rfl z, fun z => by omega⟩
  · exact ⟨fun z => ⟨by omega, z⟩, fun z => z.2⟩
theorem kept_eq {x : P2} (h : 1 < x.1) : keptA x = x := if_neg (by omega)
theorem range_zip {α β γ : Type} (F : α → β → γ) (da : α) (db : β) : ∀ (xs : List α) (ys : List β), ys.length = xs.length → (List.range xs.length).map (fun i => F (xs.getD i da) (ys.getD i db)) = (xs.zip ys).map fun p => F p.1 p.2 := by
  intro xs ys h
  apply List.ext_getElem
  · rw [List.length_map, List.length_map, List.length_range, List.length_zip, h, Nat.min_self]
  · intro i h1 h2
    rw [List.length_map, List.length_range] at h1
    rw [List.getElem_map, List.getElem_map, List.getElem_range, List.getElem_zip]
    rw [List.getD_eq_getElem?_getD, List.getD_eq_getElem?_getD, List.getElem?_eq_getElem h1, List.getElem?_eq_getElem (by omega)]
    rfl

section
variable {H0 : Hp} {L0 : List Addr} {ms : List (Addr × Mu)} {es : List En} {te : TE} {ds : List D} {E : Ends} {i : Nat}
theorem s_own (h : EvN H0 L0 ms es te ds) (k : ∀ p, Nx H0 L0 ((p, .l ds) :: ms) (es.set i (.v (.ref p))) E.nx) : Run H0 L0 ms es (tAsg te (gName i)) E :=
  q_own (us := tNext) h fun p => s_next (k p)
end

section
variable {P : Program} {w : World} {K : PySem.W.Frag} {mg : Str → Option Value} {base : Heap}

theorem ok_l_terms (T : Txt mg) {f : Addr} {fd : FuncData} (F : Fun K "_law_terms" "_law_terms" s_l_terms f fd) : FnOk P w K mg base CX0 1 f fd ["_law_one", "_law_other"] (spP R_l_terms) := by
  refine ok_of F sc_l_terms (fun ds d h => ?_) (by decide) fun cdv A outer s H E hr => ⟨_, (pss_cons (ps_set (i := 2) sc_l_terms.nd rfl (Or.inr rfl) pe_dnewK)
    (pss_cons (ps_for PassesOwn.never rfl (pi_list (pe_lst (pa_cons (pe_tup (pa_cons (pv 0) (pa_cons pe_int pa_nil))) (pa_cons (pe_tup (pa_cons (pv 1) (pa_cons (pe_un un_neg pe_int) pa_nil))) pa_nil)))) (pg_tup rfl (pgs_cons (pg_name (i := 3) sc_l_terms.nd rfl (Or.inl rfl)) (pgs_cons (pg_name (i := 4) sc_l_terms.nd rfl (Or.inl rfl)) pgs_nil))) (pss_one (ps_for PassesOwn.never rfl (pi_list (pv 3)) (pg_tup rfl (pgs_cons (pg_name (i := 5) sc_l_terms.nd rfl (Or.inl rfl)) (pgs_cons (pg_name (i := 6) sc_l_terms.nd rfl (Or.inl rfl)) pgs_nil))) (pss_one (ps_if (PW.pt (pw_and (pt_cmpR op_gt (pv 5) pe_int (nomark _)) (pw_and1 (pt_cmpR op_ne (pv 6) pe_int (nomark _))))) (pss_cons (ps_asg (pe_dget2 (hu_of hr) (pv 2) (pe_callB call_abs (by rfl) T.zabs (by decide +kernel) (pa_cons (pv 6) pa_nil)) (pe_tup (pa_cons pe_int (pa_cons pe_int pa_nil))) ⟨rfl, rfl, rfl, rfl⟩) (pg_tup rfl (pgs_cons (pg_name (i := 7) sc_l_terms.nd rfl (Or.inl rfl)) (pgs_cons (pg_name (i := 8) sc_l_terms.nd rfl (Or.inl rfl)) pgs_nil))))
    (pss_one (ps_if (pt_cmpR op_gt (pe_op op_mul (pv 6) (pv 4)) pe_int (nomark _)) (pss_one (ps_dput (hu_of hr) (pv 2) (pe_callB call_abs (by rfl) T.zabs (by decide +kernel) (pa_cons (pv 6) pa_nil)) (pe_tup (pa_cons (pv 7) (pa_cons (pe_op op_sub (pe_op op_add (pv 8) (pv 5)) pe_int) pa_nil))) rfl)) (pss_one (ps_dput (hu_of hr) (pv 2) (pe_callB call_abs (by rfl) T.zabs (by decide +kernel) (pa_cons (pv 6) pa_nil)) (pe_tup (pa_cons (pe_op op_add (pe_op op_sub (pv 7) (pv 5)) pe_int) (pa_cons (pv 8) pa_nil))) rfl))))) pss_nil)))))
    (pss_cons (ps_setLc (i := 9) (own := [("_law_times", 10)]) (g := (gName 10)) (tt := tYes) rfl sc_l_terms.nd rfl rfl (sw_true rfl rfl rfl (by decide +kernel)) (pi_list (pe_callB (call_sortedDI rfl) (by rfl) T.zsorted (by decide +kernel) (pa_cons (pv 2) pa_nil))) (blkOk_by (own := [("_law_times", 10)]) (N := N_l_terms) (sc := defScope s_l_terms) (by decide +kernel)) (fun _ _ _ _ _ => (pg_name (i := 10) sc_l_terms.nd rfl (Or.inl rfl))) (fun _ _ _ _ _ => pts_nil) (fun _ _ _ _ _ => (pe_op (catT (K := K)) (pe_tup (pa_cons (pv 10) pa_nil)) (pe_dget (hu_of hr) (pv 2) (pv 10) (fun _ _ => rfl)))))
    (pss_cons (ps_expr (pe_bm0 PySem.F.plainAttrs_list PySem.F.slot_list_reverse PySem.F.type_list_reverse mt_reverse (pv 9)))
    (pss_one (ps_ret (pv 9))))))), fun L ds d Q h k => ?_⟩
  · obtain ⟨A, B, _, _, rfl, _⟩ := h; rfl
  · obtain ⟨A, B, hA, hB, rfl, rfl⟩ := h
    refine q_ownK fun a => ?_
    have lenA : ∀ (sg : Int) (r : Rg) (X : List P2) (i : Nat), AxOk X → r.length ≤ 8 → (widenAll sg r ((X.map keptA).take i)).length ≤ 16 := fun sg r X i hX hr => by
      have := widenAll_len sg ((X.map keptA).take i) r
      rw [List.length_take, List.length_map] at this
      have := hX.1
      omega
    refine q_for (α := Rg) (fd_list (ds := [.tup [.lst (A.map pairD), .int 1], .tup [.lst (B.map pairD), .int (-1)]]) (EvN.ev (en_lst (ea_cons (ev_tup (ea_cons (ev_var rfl) (ea_cons ev_int ea_nil))) (ea_cons (ev_tup (ea_cons (ev_var rfl) (ea_cons (ev_neg ev_int) ea_nil))) ea_nil)))))
      (fun r' => [(a, .k (rgD r'))]) (fun _ => [.d (.lst (A.map pairD)), .d (.lst (B.map pairD)), .v (.ref a), .no, .no, .no, .no, .no, .no, .no, .no])
      (fun i r' => (i = 0 → r' = []) ∧ (i = 1 → r' = widenAll 1 [] (A.map keptA)) ∧ (i = 2 → r' = gath (A.map keptA) (B.map keptA))) [] ⟨fun _ => rfl, fun z => (nomatch z), fun z => (nomatch z)⟩ rfl (Wk.refl _) ?_ ?_
    · intro B' hB' i d r hd hr
      have item : ∃ (X : List P2) (sg : Int), d = .tup [.lst (X.map pairD), .int sg] ∧ (sg = 1 ∨ sg = -1) ∧ AxOk X ∧ r.length ≤ 8 ∧ ((i + 1 = 0 → widenAll sg r (X.map keptA) = []) ∧ (i + 1 = 1 → widenAll sg r (X.map keptA) = widenAll 1 [] (A.map keptA)) ∧ (i + 1 = 2 → widenAll sg r (X.map keptA) = gath (A.map keptA) (B.map keptA))) := by
        match i, hd with
        | 0, hd =>
          cases hd
          have e := hr.1 rfl
          subst e
          exact ⟨A, 1, rfl, .inl rfl, hA, Nat.zero_le _, fun z => (nomatch z), fun _ => rfl, fun z => by omega⟩
        | 1, hd =>
          cases hd
          have e := hr.2.1 rfl
          subst e
          refine ⟨B, -1, rfl, .inr rfl, hB, ?_, fun z => (nomatch z), fun z => by omega, fun _ => rfl⟩
          have := widenAll_len 1 (A.map keptA) []
          rw [List.length_map, List.length_nil] at this
          have := hA.1
          omega
        | i + 2, hd => simp at hd
      obtain ⟨X, sg, rfl, hsg, hX, hrl, hnext⟩ := item
      refine ⟨_, [3, 4], as_tup rfl (asl_cons (as_name (by decide)) (asl_cons (as_name (by decide)) asl_nil)), fun N hN => ?_⟩
      refine s_for (α := Rg) (fd_list (ds := X.map pairD) (ev_var rfl)) (fun r' => [(a, .k (rgD r'))]) (fun _ => [.d (.lst (A.map pairD)), .d (.lst (B.map pairD)), .v (.ref a), .d (.lst (X.map pairD)), .d (.int sg), .no, .no, .no, .no, .no, .no])
        (fun j r' => r' = widenAll sg r ((X.map keptA).take j)) r rfl rfl (Wk.refl _) ?_ ?_
      · intro B2 hB2 j d r' hd hr'
        rw [List.getElem?_map] at hd
        cases e : X[j]? with
        | none => rw [e] at hd; cases hd
        | some x =>
          rw [e] at hd
          cases hd
          refine ⟨_, [5, 6], as_tup rfl (asl_cons (as_name (by decide)) (asl_cons (as_name (by decide)) asl_nil)), fun N hN => ?_⟩
          have h1 := (hX.2 x (List.mem_of_getElem? e)).1
          have e2 : (X.map keptA)[j]? = some (keptA x) := by rw [List.getElem?_map, e]; rfl
          have st := widen_step sg r (X.map keptA) e2
          have hz : (rgD r').length < 1000 := by
            rw [rgD_len, hr']
            have := lenA sg r X j hX hrl
            omega
          have cm : ∀ y : Int, CMul y sg := fun y => .inr (by rcases hsg with h | h <;> rw [h] <;> decide)
          refine s_if (et_and (et_test (ev_gt (ev_var rfl) ev_int)) fun _ => et_test (ev_ne rfl (ev_var rfl) ev_int)) (fun hb => ?_) fun hb => ?_
          · have hx : 1 < x.1 ∧ x.2 ≠ 0 := by simpa [sameD] using hb
            have hg : (klook (rgD r') (iabs x.2)).getD (.tup [.int 0, .int 0]) = pairD ((look r' (iabs x.2)).getD (0, 0)) := by
              have : klook (rgD r') (iabs x.2) = (look r' (iabs x.2)).map pairD := klook_map pairD r' _
              rw [this]
              cases look r' (iabs x.2) <;> rfl
            refine q_asg (ss := [7, 8]) (Ev.of (ev_dget2 (j := 0) rfl rfl (ev_cb1 (ea_cons (ev_var rfl) ea_nil)) (ev_tup (ea_cons ev_int (ea_cons ev_int ea_nil)))) (show (klook (rgD r') (iabs x.2)).getD _ = pairD ((look r' (iabs x.2)).getD (0, 0)) from hg)) (as_tup rfl (asl_cons (as_name (by decide)) (asl_cons (as_name (by decide)) asl_nil))) ?_
            have ia : iabs (sg * x.2) = iabs x.2 := by
              unfold iabs
              rcases hsg with h | h
              · rw [h, Int.one_mul]
              · rw [h, show (-1 : Int) * x.2 = -x.2 by omega]
                split <;> split <;> omega
            generalize hq0 : (look r' (iabs x.2)).getD (0, 0) = q0
            have wp : ∀ v : P2, (if 0 < sg * x.2 then (q0.1, q0.2 + (x.1 - 1)) else (q0.1 - (x.1 - 1), q0.2)) = v → widenAll sg r ((X.map keptA).take (j + 1)) = put r' (iabs x.2) v := fun v hv => by
              rw [st, if_pos ((kept_ne h1).mpr hx), kept_eq hx.1, ← hr']
              unfold Pm.widen
              rw [ia, hq0, hv]
            have fin : ∀ (v : P2) (es2 : List En), (if 0 < sg * x.2 then (q0.1, q0.2 + (x.1 - 1)) else (q0.1 - (x.1 - 1), q0.2)) = v → Wk es2 [.d (.lst (A.map pairD)), .d (.lst (B.map pairD)), .v (.ref a), .d (.lst (X.map pairD)), .d (.int sg), .no, .no, .no, .no, .no, .no] →
                Nx B2 L [(a, .k (kput (rgD r') (iabs x.2) (pairD v)))] es2 N := fun v es2 hv w => by
              rw [show kput (rgD r') (iabs x.2) (pairD v) = rgD (put r' (iabs x.2) v) from kput_map pairD r' _ v]
              exact hN _ (wp v hv).symm _ w
            refine s_if (et_test (ev_gt (ev_mul (cm _) (ev_var rfl) (ev_var rfl)) ev_int)) (fun hb2 => ?_) fun hb2 => ?_
            · have hp : 0 < sg * x.2 := by rw [Int.mul_comm]; exact of_decide_eq_true hb2
              refine s_dput (j := 0) (n := iabs x.2) (d := pairD (q0.1, q0.2 + (x.1 - 1))) rfl rfl hz (Ev.of (ev_tup (ea_cons (ev_var rfl) (ea_cons (ev_sub (ev_add (ev_var rfl) (ev_var rfl)) ev_int) ea_nil))) ?_) (ev_cb1 (ea_cons (ev_var rfl) ea_nil)) (fin _ _ (if_pos hp) ?_)
              · show D.tup [.int q0.1, .int (q0.2 + x.1 - 1)] = pairD (q0.1, q0.2 + (x.1 - 1))
                rw [show q0.2 + x.1 - 1 = q0.2 + (x.1 - 1) by omega]
                rfl
              · exact .keep (.keep (.keep (.keep (.keep (.drop (.drop (.drop (.drop (.keep (.keep .nil))))))))))
            · have hp : ¬ 0 < sg * x.2 := by rw [Int.mul_comm]; exact of_decide_eq_false hb2
              refine s_dput (j := 0) (n := iabs x.2) (d := pairD (q0.1 - (x.1 - 1), q0.2)) rfl rfl hz (Ev.of (ev_tup (ea_cons (ev_add (ev_sub (ev_var rfl) (ev_var rfl)) ev_int) (ea_cons (ev_var rfl) ea_nil))) ?_) (ev_cb1 (ea_cons (ev_var rfl) ea_nil)) (fin _ _ (if_neg hp) ?_)
              · show D.tup [.int (q0.1 - x.1 + 1), .int q0.2] = pairD (q0.1 - (x.1 - 1), q0.2)
                rw [show q0.1 - x.1 + 1 = q0.1 - (x.1 - 1) by omega]
                rfl
              · exact .keep (.keep (.keep (.keep (.keep (.drop (.drop (.drop (.drop (.keep (.keep .nil))))))))))
          · have hx : ¬ (1 < x.1 ∧ x.2 ≠ 0) := by simpa [sameD] using hb
            refine s_next (hN _ ?_ _ (.keep (.keep (.keep (.keep (.keep (.drop (.drop (.keep (.keep (.keep (.keep .nil))))))))))))
            rw [st, if_neg fun z => hx ((kept_ne h1).mp z), ← hr']
      · intro r2 hr2
        rw [List.length_map, List.take_of_length_le (by rw [List.length_map]; exact Nat.le_refl _)] at hr2
        rw [hr2]
        exact hN _ hnext _ (.keep (.keep (.keep (.drop (.drop (.keep (.keep (.keep (.keep (.keep (.keep .nil)))))))))))
    · intro r2 hr2
      have hr2' : r2 = gath (A.map keptA) (B.map keptA) := hr2.2.2 rfl
      have hl2 : r2.length ≤ 16 := by
        rw [hr2']
        have := gath_len (A.map keptA) (B.map keptA)
        rw [List.length_map, List.length_map] at this
        have := hA.1
        have := hB.1
        omega
      refine q_own (ds := (sortD (r2.map (·.1))).reverse.map fun t => tD (t, (look r2 t).getD (0, 0))) ?_ fun p => ?_
      · refine en_map (γ := Int) (sortD (r2.map (·.1))).reverse D.int (fun t => tD (t, (look r2 t).getD (0, 0))) ?hf ?hz ?hno ?hs
        case hf => exact fd_list (ev_sortedDI (j := 0) (kvs := rgD r2) rfl rfl (by rw [rgD_keys]; exact (List.reverse_perm _).trans (sortD_perm _)) (List.pairwise_reverse.mpr (sortD_desc _)) (by rw [rgD_len]; omega))
        case hno => rfl
        case hs =>
          intro B' Dl acc hB' t ht
          refine ⟨_, as_name (by decide), ?_⟩
          have hk : t ∈ r2.map (·.1) := (sortD_perm _).mem_iff.mp (List.mem_reverse.mp ht)
          obtain ⟨v, hv⟩ := look_of_mem hk
          have hkl : klook (rgD r2) t = some (pairD v) := by
            have : klook (rgD r2) t = (look r2 t).map pairD := klook_map pairD r2 t
            rw [this, hv]
            rfl
          refine Ev.of (ev_catT (ds := [.int t]) (ds' := [.int v.1, .int v.2]) (Nat.le_of_ble_eq_true rfl) (by simp) (by simp) (ev_tup (ea_cons (ev_var rfl) ea_nil)) (ev_dget (j := 1) rfl rfl hkl (ev_var rfl))) ?_
          rw [hv]
          rfl
        case hz =>
          rw [List.length_reverse, (sortD_perm _).length_eq, List.length_map]
          omega
      refine q_rev (j := 0) (ds := (sortD (r2.map (·.1))).reverse.map fun t => tD (t, (look r2 t).getD (0, 0))) rfl rfl ?_
      refine run_freeze (j := 0) (i := 9) (a := p) (ds := ((sortD (r2.map (·.1))).reverse.map fun t => tD (t, (look r2 t).getD (0, 0))).reverse) rfl rfl ?_
      refine s_ret (Ev.of (ev_var rfl) ?_) k
      unfold termsD terms termsOf
      rw [List.map_reverse, List.reverse_reverse, ← hr2', List.map_map]
      rfl

theorem ok_l_sums (T : Txt mg) {f : Addr} {fd : FuncData} (F : Fun K "_law_sums" "_law_sums" s_l_sums f fd) : FnOk P w K mg base CX0 1 f fd ["_law_terms_here", "_law_case"] (spP R_l_sums) := by
  refine ok_of F sc_l_sums (fun ds d h => ?_) (by decide) fun cdv A outer s H E hr => ⟨_, (pss_cons (ps_set (i := 2) sc_l_sums.nd rfl (Or.inl rfl) (pe_callB (cr_sum rfl) (by rfl) T.zsum (by decide +kernel) (pa_cons (pe_lc (own := [("_law_k", 3)]) (g := (gName 3)) (tt := tYes) rfl sc_l_sums.nd (pi_range1 (by rfl) T.zrange (pa_cons (pe_callB call_len_seq (by rfl) T.zlen (by decide +kernel) (pa_cons (pv 0) pa_nil)) pa_nil)) (blkOk_by (own := [("_law_k", 3)]) (N := N_l_sums) (sc := defScope s_l_sums) (by decide +kernel)) (fun _ _ _ _ _ => (pg_name (i := 3) sc_l_sums.nd rfl (Or.inl rfl))) (fun _ _ _ _ _ => pts_nil) (fun _ _ _ _ _ => (pe_op op_mul (pe_ix (ixT (K := K)) (pe_ix (ixL (K := K)) (pv 0) (pv 3) (fun _ _ => rfl)) pe_int (fun _ _ => rfl)) (pe_ix (ixT (K := K)) (pe_ix (ixL (K := K)) (pv 1) (pv 3) (fun _ _ => rfl)) pe_int (fun _ _ => rfl))))) pa_nil)))
    (pss_one (ps_ret (pe_tup (pa_cons (pv 2) (pa_cons (pe_callB (cr_sum rfl) (by rfl) T.zsum (by decide +kernel) (pa_cons (pe_lc (own := [("_law_k", 3)]) (g := (gName 3)) (tt := tYes) rfl sc_l_sums.nd (pi_range1 (by rfl) T.zrange (pa_cons (pe_callB call_len_seq (by rfl) T.zlen (by decide +kernel) (pa_cons (pv 0) pa_nil)) pa_nil)) (blkOk_by (own := [("_law_k", 3)]) (N := N_l_sums) (sc := defScope s_l_sums) (by decide +kernel)) (fun _ _ _ _ _ => (pg_name (i := 3) sc_l_sums.nd rfl (Or.inl rfl))) (fun _ _ _ _ _ => pts_nil) (fun _ _ _ _ _ => (pe_op op_mul (pe_ix (ixT (K := K)) (pe_ix (ixL (K := K)) (pv 0) (pv 3) (fun _ _ => rfl)) pe_int (fun _ _ => rfl)) (pe_ix (ixT (K := K)) (pe_ix (ixL (K := K)) (pv 1) (pv 3) (fun _ _ => rfl)) pe_int (fun _ _ => rfl))))) pa_nil)) pa_nil)))))), fun L ds d Q h k => ?_⟩
  · obtain ⟨ts, c, _, _, rfl, _⟩ := h; rfl
  · obtain ⟨ts, c, hT, hc, rfl, rfl⟩ := h
    have hl := hT.1
    have e1 : ((List.range ts.length).map fun i => (ts.getD i (0, 0, 0)).1 * (c.getD i (0, 0)).1).sum = leastSum ts c := by rw [range_zip (fun (t : T3) (p : P2) => t.1 * p.1) (0, 0, 0) (0, 0) ts c hc]; rfl
    have e2 : ((List.range ts.length).map fun i => (ts.getD i (0, 0, 0)).1 * (c.getD i (0, 0)).2).sum = greatestSum ts c := by rw [range_zip (fun (t : T3) (p : P2) => t.1 * p.2) (0, 0, 0) (0, 0) ts c hc]; rfl
    have hft : ∀ i, i ∈ List.range ts.length → i < ts.length ∧ i < c.length ∧ (-(2 ^ 64) < (ts.getD i (0, 0, 0)).1 ∧ (ts.getD i (0, 0, 0)).1 < 2 ^ 64) := fun i hi => by
      have hi := List.mem_range.mp hi
      refine ⟨hi, by omega, fits hT ?_⟩
      rw [List.getD_eq_getElem?_getD, List.getElem?_eq_getElem hi]
      exact List.getElem_mem hi
    refine q_set (d := .int (leastSum ts c)) (Ev.of (ev_sum (ns := (List.range ts.length).map fun i => (ts.getD i (0, 0, 0)).1 * (c.getD i (0, 0)).1) (ea_cons (EvN.ev ?_) ea_nil)) (by rw [e1])) ?_
    · rw [List.map_map]
      refine en_map (γ := Nat) (List.range ts.length) (fun (i : Nat) => D.int (i : Int)) _ (fd_range (k := (ts.map tD).length) (by rw [List.length_map]; omega) (ea_cons (ev_lenL (ea_cons (ev_var rfl) ea_nil)) ea_nil) |> fun h => fd_of h (by rw [List.length_map])) (by rw [List.length_range]; omega) rfl fun B Dl acc hB i hi => ⟨_, as_name (by decide), ?_⟩
      obtain ⟨h1, h2, h3⟩ := hft i hi
      exact ev_mul (.inl h3) (ev_ixT atI0 (ev_ixL (atI_m (dflt := (0, 0, 0)) h1) (ev_var rfl) (ev_var rfl)) ev_int) (ev_ixT atI0 (ev_ixL (atI_m (dflt := (0, 0)) h2) (ev_var rfl) (ev_var rfl)) ev_int)
    refine s_ret (ev_tup (ea_cons (ev_var rfl) (ea_cons (d := .int (greatestSum ts c)) (Ev.of (ev_sum (ns := (List.range ts.length).map fun i => (ts.getD i (0, 0, 0)).1 * (c.getD i (0, 0)).2) (ea_cons (EvN.ev ?_) ea_nil)) (by rw [e2])) ea_nil))) k
    · rw [List.map_map]
      refine en_map (γ := Nat) (List.range ts.length) (fun (i : Nat) => D.int (i : Int)) _ (fd_range (k := (ts.map tD).length) (by rw [List.length_map]; omega) (ea_cons (ev_lenL (ea_cons (ev_var rfl) ea_nil)) ea_nil) |> fun h => fd_of h (by rw [List.length_map])) (by rw [List.length_range]; omega) rfl fun B Dl acc hB i hi => ⟨_, as_name (by decide), ?_⟩
      obtain ⟨h1, h2, h3⟩ := hft i hi
      exact ev_mul (.inl h3) (ev_ixT atI0 (ev_ixL (atI_m (dflt := (0, 0, 0)) h1) (ev_var rfl) (ev_var rfl)) ev_int) (ev_ixT atI1 (ev_ixL (atI_m (dflt := (0, 0)) h2) (ev_var rfl) (ev_var rfl)) ev_int)

theorem ok_l_divisor (T : Txt mg) {f : Addr} {fd : FuncData} (F : Fun K "_law_divisor" "_law_divisor" s_l_divisor f fd) : FnOk P w K mg base CX0 1 f fd ["_law_numbers"] (spP R_l_divisor) := by
  refine ok_of F sc_l_divisor (fun ds d h => ?_) (by decide) fun cdv A outer s H E hr => ⟨_, (pss_cons (ps_set (i := 1) sc_l_divisor.nd rfl (Or.inl rfl) pe_int)
    (pss_cons (ps_for PassesOwn.never rfl (pi_list (pv 0)) (pg_name (i := 2) sc_l_divisor.nd rfl (Or.inl rfl)) (pss_cons (ps_set (i := 3) sc_l_divisor.nd rfl (Or.inl rfl) (pv 1))
    (pss_cons (ps_while PassesOwn.never (pt_cmpR op_gt (pv 2) pe_int (nomark _)) (pss_one (ps_par (i := 3) (j := 2) rfl sc_l_divisor.nd rfl rfl (by decide) rfl rfl (pa_cons (pv 2) (pa_cons (pe_op op_mod (pv 3) (pv 2)) pa_nil)) (by rfl))))
    (pss_one (ps_set (i := 1) sc_l_divisor.nd rfl (Or.inl rfl) (pv 3))))))
    (pss_one (ps_ret (pv 1))))), fun L ds d Q h k => ?_⟩
  · obtain ⟨ns, _, rfl, _⟩ := h; rfl
  · obtain ⟨ns, hn, rfl, rfl⟩ := h
    refine q_set ev_int ?_
    refine q_for (α := Int) (fd_list (ds := ns.map D.int) (ev_var rfl)) (fun _ => []) (fun x => [.d (.lst (ns.map D.int)), .d (.int x), .no, .no]) (fun i x => 0 ≤ x ∧ x = gcdL (ns.take i)) 0 ⟨Int.le_refl 0, rfl⟩ rfl (Wk.refl _) ?_ ?_
    · intro B hB i d x hd hx
      obtain ⟨hx0, hx⟩ := hx
      rw [List.getElem?_map] at hd
      cases e : ns[i]? with
      | none => rw [e] at hd; cases hd
      | some n =>
        rw [e] at hd
        cases hd
        have hn0 := hn n (List.mem_of_getElem? e)
        refine ⟨_, [2], as_name (by decide), fun N hN => ?_⟩
        refine q_set (ev_var rfl) ?_
        refine q_while (α := Int × Int) (fun _ => []) (fun p => [.d (.lst (ns.map D.int)), .d (.int x), .d (.int p.2), .d (.int p.1)]) (fun p => 0 ≤ p.1 ∧ 0 ≤ p.2 ∧ Int.gcd p.1 p.2 = Int.gcd x n) (fun p => p.2.toNat) (x, n) ⟨hx0, hn0, rfl⟩ rfl (Wk.refl _) ?_
        rintro ⟨y, z⟩ ⟨h1, h2, h3⟩
        refine ⟨_, et_test (ev_gt (ev_var rfl) ev_int), fun hb N hN => ?_, fun hb => ?_⟩
        · have hz : 0 < z := of_decide_eq_true hb
          refine s_par (ea_cons (ev_var rfl) (ea_cons (ev_mod hz (ev_var rfl) (ev_var rfl)) ea_nil)) ?_
          refine hN (z, y % z) ⟨h2, Int.emod_nonneg y (by omega), by rw [gcd_step y z h1 hz]; exact h3⟩ ?_ _ (Wk.refl _)
          have := Int.emod_lt_of_pos y hz
          have := Int.emod_nonneg y (show z ≠ 0 by omega)
          show (y % z).toNat < z.toNat
          omega
        · have hz : ¬ 0 < z := of_decide_eq_false hb
          have hz0 : z = 0 := by have : 0 ≤ z := h2; omega
          subst hz0
          have hy : (Int.gcd x n : Int) = y := by
            have h1' : 0 ≤ y := h1
            rw [← h3, Int.gcd_zero_right]
            omega
          refine s_set (d := .int (Int.gcd x n)) (Ev.of (ev_var rfl) (by rw [hy])) ?_
          refine hN _ ⟨?_, ?_⟩ _ (.keep (.keep (.drop (.drop .nil))))
          · omega
          · rw [List.take_add_one, e, hx]
            show _ = gcdL (ns.take i ++ [n])
            unfold gcdL
            rw [List.foldl_append]
            rfl
    · rintro x ⟨_, hx⟩
      refine s_ret (d := .int (gcdL ns)) (Ev.of (ev_var rfl) ?_) k
      rw [hx, List.length_map, List.take_of_length_le (Nat.le_refl _)]
end
end Pc

set_option Elab.async false
set_option linter.all false
set_option maxRecDepth 100000
set_option maxHeartbeats 4000000
/-! the law: its own ends, its own reading of papers. -/
namespace Pm
/-- a paper read bare: no case is parted that has an end -/
def readB (ts : List T3) (g : Int) : List (List P2) → List Step → Bool
  | st, [] => st.isEmpty
  | [], _ :: _ => false
  | c :: st, s :: ss => if isPart c s = true then (endOf ts g c).isNone && readB ts g (parts c s ++ st) ss else if isEnd ts g c s = true then readB ts g st ss else false
theorem readP_of {ts : List T3} {g : Int} : ∀ {ss : List Step} {st : List (List P2)}, readB ts g st ss = true → readP ts g st ss = true
  | [], [], h => rfl
  | [], c :: st, h => h
  | s :: ss, [], h => h
  | s :: ss, c :: st, h => by
    unfold readB at h
    unfold readP
    split at h
    · rename_i h1
      rw [if_pos h1]
      exact readP_of (Bool.and_eq_true_iff.mp h).2
    · rename_i h1
      rw [if_neg h1]
      split at h
      · rename_i h2
        rw [if_pos h2]
        exact readP_of h
      · cases h
end Pm
namespace Pc
open PySem PySem.Spec PyProof.Rows L2 Pm

theorem zip_range (ts : List T3) (c : List P2) (h : c.length = ts.length) : (List.range ts.length).map (fun i => (ts.getD i (0, 0, 0), c.getD i (0, 0))) = ts.zip c := by
  rw [range_zip (fun (t : T3) (p : P2) => (t, p)) (0, 0, 0) (0, 0) ts c h]
  simp
theorem zip_at {ts : List T3} {c : List P2} (h : c.length = ts.length) {i : Nat} (hi : i < ts.length) : (ts.zip c)[i]? = some (ts.getD i (0, 0, 0), c.getD i (0, 0)) := by
  rw [← zip_range ts c h, List.getElem?_map, List.getElem?_range hi]
  rfl
theorem shaped_part (k : Nat) (a : Int) : SeqAt.shaped (py (stepD (.part k a))) = true := by
  unfold SeqAt.shaped
  rw [show PyData.canLay0 (py (stepD (.part k a))) = true by simp [stepD, py, pys, PyData.canLay0, PyData.canLayAll0]; decide +kernel,
    show PyData.depth (py (stepD (.part k a))) = PyData.depth (py (stepD (.part 0 0))) by simp [stepD, py, pys, PyData.depth, PyData.depthAll]]
  decide +kernel
def R_l_behind : List D → D → Prop := fun ds d => ∃ ts g c s, TOk ts ∧ c.length = ts.length ∧ (isPart c s = true ∨ isEnd ts g c s = true) ∧ ds = [termsD ts, .int g, caseD c, stepD s] ∧ d = .lst (stackD (parts c s))
def R_l_left : List D → D → Prop := fun ds d => ∃ ts g paper, TOk ts ∧ paper.length ≤ 200 ∧ readB ts g [wholeCase ts] paper = true ∧ ds = [termsD ts, .int g, .lst (paper.map stepD), .bl true] ∧ d = .lst []
def R_l_apart : List D → D → Prop := fun ds d => ∃ ts g paper most, TOk ts ∧ paper.length ≤ 200 ∧ (paper.length : Int) ≤ most ∧ readB ts g [wholeCase ts] paper = true ∧ ds = [.tup [.str "apart", .lst (paper.map stepD)], termsD ts, .int g, .int most] ∧ d = .bl true
def R_l_right : List D → D → Prop := fun ds d => ∃ found A B g m, AxOk A ∧ AxOk B ∧ ds = [found, .lst (A.map pairD), .lst (B.map pairD), .int g, .bl m] ∧ d = .bl true ∧
  (m = true → R_l_met [found, .lst (A.map pairD), .lst (B.map pairD), .int g] (.bl true)) ∧
  (m = false → TOk (terms (A.map keptA) (B.map keptA)) ∧ ∃ paper, found = .tup [.str "apart", .lst (paper.map stepD)] ∧ paper.length ≤ 200 ∧ paper.length ≤ 1 + 4 * (terms (A.map keptA) (B.map keptA)).length ∧
    readB (terms (A.map keptA) (B.map keptA)) g [wholeCase (terms (A.map keptA) (B.map keptA))] paper = true)
theorem ended_bool {ts : List T3} {g : Int} {c : List P2} : (decide (g < leastSum ts c) || (decide (greatestSum ts c < g) || (decide (1 < restOf ts c) && decide (0 < (g - leastSum ts c) % restOf ts c)))) = (endOf ts g c).isSome := by
  unfold endOf
  by_cases h1 : g < leastSum ts c
  · rw [if_pos h1, decide_eq_true h1]; rfl
  · rw [if_neg h1, decide_eq_false h1]
    by_cases h2 : greatestSum ts c < g
    · rw [if_pos h2, decide_eq_true h2]; rfl
    · rw [if_neg h2, decide_eq_false h2]
      by_cases h3 : 1 < restOf ts c
      · have h4 := Int.emod_nonneg (g - leastSum ts c) (show restOf ts c ≠ 0 by omega)
        by_cases h5 : (g - leastSum ts c) % restOf ts c = 0
        · rw [if_neg fun z => z.2 h5, decide_eq_false (p := 0 < _) (by omega)]
          simp
        · rw [if_pos ⟨h3, h5⟩, decide_eq_true h3, decide_eq_true (p := 0 < _) (by omega)]
          rfl
      · rw [if_neg fun z => h3 z.1, decide_eq_false h3]
        rfl

section
variable {P : Program} {w : World} {K : PySem.W.Frag} {mg : Str → Option Value} {base : Heap}

theorem ok_l_ended (T : Txt mg) (C__law_sums : Fn P w K mg base 1 "_law_sums" ["_law_terms_here", "_law_case"] (spP R_l_sums)) (C__law_divisor : Fn P w K mg base 1 "_law_divisor" ["_law_numbers"] (spP R_l_divisor))
    {f : Addr} {fd : FuncData} (F : Fun K "_law_ended" "_law_ended" s_l_ended f fd) : FnOk P w K mg base CX0 2 f fd ["_law_terms_here", "_law_goal", "_law_case"] (spP R_l_ended) := by
  refine ok_of F sc_l_ended (fun ds d h => ?_) (by decide) fun cdv A outer s H E hr => ⟨_, (pss_cons (ps_asg (pe_fn C__law_sums (hr.mono (by decide)) (by rfl) (pa_cons (pv 0) (pa_cons (pv 2) pa_nil))) (pg_tup rfl (pgs_cons (pg_name (i := 3) sc_l_ended.nd rfl (Or.inl rfl)) (pgs_cons (pg_name (i := 4) sc_l_ended.nd rfl (Or.inl rfl)) pgs_nil))))
    (pss_cons (ps_set (i := 5) sc_l_ended.nd rfl (Or.inl rfl) (pe_fn C__law_divisor (hr.mono (by decide)) (by rfl) (pa_cons (pe_lc (own := [("_law_k", 6)]) (g := (gName 6)) rfl sc_l_ended.nd (pi_range1 (by rfl) T.zrange (pa_cons (pe_callB call_len_seq (by rfl) T.zlen (by decide +kernel) (pa_cons (pv 0) pa_nil)) pa_nil)) (blkOk_by (own := [("_law_k", 6)]) (N := N_l_ended) (sc := defScope s_l_ended) (by decide +kernel)) (fun _ _ _ _ _ => (pg_name (i := 6) sc_l_ended.nd rfl (Or.inl rfl))) (fun _ _ _ _ _ => (pts_one (pt_cmpR op_lt (pe_ix (ixT (K := K)) (pe_ix (ixL (K := K)) (pv 2) (pv 6) (fun _ _ => rfl)) pe_int (fun _ _ => rfl)) (pe_ix (ixT (K := K)) (pe_ix (ixL (K := K)) (pv 2) (pv 6) (fun _ _ => rfl)) pe_int (fun _ _ => rfl)) (nomark _)))) (fun _ _ _ _ _ => (pe_ix (ixT (K := K)) (pe_ix (ixL (K := K)) (pv 0) (pv 6) (fun _ _ => rfl)) pe_int (fun _ _ => rfl)))) pa_nil)))
    (pss_one (ps_ret (pe_or (pe_cmpR op_gt (pv 3) (pv 1) (nomark _)) (pe_or (pe_cmpR op_lt (pv 4) (pv 1) (nomark _)) (pe_one (pe_and (pe_cmpR op_gt (pv 5) pe_int (nomark _)) (pe_one (pe_cmpR op_gt (pe_op op_mod (pe_op op_sub (pv 1) (pv 3)) (pv 5)) pe_int (nomark _))))))))))), fun L ds d Q h k => ?_⟩
  · obtain ⟨ts, g, c, _, _, rfl, _⟩ := h; rfl
  · obtain ⟨ts, g, c, hT, hc, rfl, rfl⟩ := h
    have hl := hT.1
    refine q_asg (ss := [3, 4]) (ev_call (R := R_l_sums) ⟨ts, c, hT, hc, rfl, rfl⟩ (ea_cons (ev_var rfl) (ea_cons (ev_var rfl) ea_nil))) (as_tup rfl (asl_cons (as_name (by decide)) (asl_cons (as_name (by decide)) asl_nil))) ?_
    refine q_set (d := .int (restOf ts c)) (ev_call (R := R_l_divisor) ⟨((ts.zip c).filter fun (p : T3 × P2) => decide (p.2.1 < p.2.2)).map fun (p : T3 × P2) => p.1.1, fun n hn => ?_, rfl, rfl⟩ (ea_cons (EvN.ev ?_) ea_nil)) ?_
    · obtain ⟨p, hp, rfl⟩ := List.mem_map.mp hn
      have := hT.2 _ (zip_mem (List.mem_filter.mp hp).1)
      omega
    · have hF : ((((ts.zip c).filter fun p => decide (p.2.1 < p.2.2)).map fun p => p.1.1).map D.int) = (List.range ts.length).filterMap fun i => if decide ((c.getD i (0, 0)).1 < (c.getD i (0, 0)).2) = true then some (D.int (ts.getD i (0, 0, 0)).1) else none := by
        rw [List.map_map, ← zip_range ts c hc]
        induction List.range ts.length with
        | nil => rfl
        | cons i r ih =>
          rw [List.map_cons, List.filter_cons, List.filterMap_cons]
          by_cases hb : decide ((c.getD i (0, 0)).1 < (c.getD i (0, 0)).2) = true
          · rw [if_pos hb, if_pos hb, List.map_cons, ih]
            rfl
          · rw [if_neg hb, if_neg hb, ih]
      rw [hF]
      refine en_lc (γ := Nat) (List.range ts.length) (fun (i : Nat) => D.int (i : Int)) _ (fd_of (fd_range (k := (ts.map tD).length) (by rw [List.length_map]; omega) (ea_cons (ev_lenL (ea_cons (ev_var rfl) ea_nil)) ea_nil)) (by rw [List.length_map])) (by rw [List.length_range]; omega) rfl fun B Dl acc hB i hi => ⟨_, as_name (by decide), fun hn => ?_, fun y hy => ?_⟩
      all_goals
        have hi := List.mem_range.mp hi
        have hi2 : i < c.length := by omega
        have tst := fun (B : Hp) (es : List En) (h2 : es[2]? = some (.d (caseD c))) (h6 : es[6]? = some (.d (.int (i : Int)))) (Dl : List (Addr × Mu)) => et_test (H0 := B) (L0 := L) (ms := Dl) (ev_lt (ev_ixT (K := K) atI0 (ev_ixL (K := K) (atI_m (dflt := (0, 0)) hi2) (ev_var h2) (ev_var h6)) ev_int) (ev_ixT (K := K) atI1 (ev_ixL (K := K) (atI_m (dflt := (0, 0)) hi2) (ev_var h2) (ev_var h6)) ev_int))
      · refine EvT.of (tst _ _ rfl rfl _) ?_
        by_cases hb : decide ((c.getD i (0, 0)).1 < (c.getD i (0, 0)).2) = true
        · rw [if_pos hb] at hn; cases hn
        · exact Bool.not_eq_true _ ▸ hb
      · by_cases hb : decide ((c.getD i (0, 0)).1 < (c.getD i (0, 0)).2) = true
        · rw [if_pos hb] at hy
          cases hy
          exact ⟨EvT.of (tst _ _ rfl rfl _) hb, ev_ixT atI0 (ev_ixL (atI_m (dflt := (0, 0, 0)) hi) (ev_var rfl) (ev_var rfl)) ev_int⟩
        · rw [if_neg hb] at hy; cases hy
    · refine s_ret (Ev.of (ev_orV (ev_gt (ev_var rfl) (ev_var rfl)) fun _ => ev_orV (ev_lt (ev_var rfl) (ev_var rfl)) fun _ => ev_andV (ev_gt (ev_var rfl) ev_int) fun h1 => ev_gt (ev_mod (by have : (1 : Int) < restOf ts c := of_decide_eq_true h1; omega) (ev_sub (ev_var rfl) (ev_var rfl)) (ev_var rfl)) ev_int) ?_) k
      rw [ended_bool]

theorem ok_l_rest (T : Txt mg) (C__law_whole : Fn P w K mg base 1 "_law_whole" ["_law_found"] (spP R_is_whole)) (C__law_sums : Fn P w K mg base 1 "_law_sums" ["_law_terms_here", "_law_case"] (spP R_l_sums))
    {f : Addr} {fd : FuncData} (F : Fun K "_law_rest" "_law_rest" s_l_rest f fd) : FnOk P w K mg base CX0 2 f fd ["_law_terms_here", "_law_goal", "_law_case", "_law_by"] (spP R_l_rest) := by
  refine ok_of F sc_l_rest (fun ds d h => ?_) (by decide) fun cdv A outer s H E hr => ⟨_, (pss_cons (ps_if (PW.pt (pw_or (pt_not (pt_val (pe_fn C__law_whole (hr.mono (by decide)) (by rfl) (pa_cons (pv 3) pa_nil)))) (pw_or1 (pt_cmpR op_lt (pv 3) pe_int (nomark _))))) (pss_one (ps_ret pe_bl)) pss_nil)
    (pss_cons (ps_for PassesOwn.never rfl (pi_range1 (by rfl) T.zrange (pa_cons (pe_callB call_len_seq (by rfl) T.zlen (by decide +kernel) (pa_cons (pv 0) pa_nil)) pa_nil)) (pg_name (i := 4) sc_l_rest.nd rfl (Or.inl rfl)) (pss_one (ps_if (PW.pt (pw_and (pt_cmpR op_lt (pe_ix (ixT (K := K)) (pe_ix (ixL (K := K)) (pv 2) (pv 4) (fun _ _ => rfl)) pe_int (fun _ _ => rfl)) (pe_ix (ixT (K := K)) (pe_ix (ixL (K := K)) (pv 2) (pv 4) (fun _ _ => rfl)) pe_int (fun _ _ => rfl)) (nomark _)) (pw_and1 (pt_cmpR op_gt (pe_op op_mod (pe_ix (ixT (K := K)) (pe_ix (ixL (K := K)) (pv 0) (pv 4) (fun _ _ => rfl)) pe_int (fun _ _ => rfl)) (pv 3)) pe_int (nomark _))))) (pss_one (ps_ret pe_bl)) pss_nil)))
    (pss_one (ps_ret (pe_cmpR op_gt (pe_op op_mod (pe_op op_sub (pv 1) (pe_ix (ixT (K := K)) (pe_fn C__law_sums (hr.mono (by decide)) (by rfl) (pa_cons (pv 0) (pa_cons (pv 2) pa_nil))) pe_int (fun _ _ => rfl))) (pv 3)) pe_int (nomark _)))))), fun L ds d Q h k => ?_⟩
  · obtain ⟨ts, g, c, m, _, _, rfl, _⟩ := h; rfl
  · obtain ⟨ts, g, c, m, hT, hc, rfl, rfl⟩ := h
    have hl := hT.1
    refine q_when (et_or (et_not (et_B (ev_call (R := R_is_whole) ⟨.int m, by simp [tyD], rfl, rfl⟩ (ea_cons (ev_var rfl) ea_nil)))) fun _ => et_test (ev_lt (ev_var rfl) ev_int)) (fun hb => ?_) fun hb => ?_
    · have hm : m < 2 := by simpa [isW] using hb
      have e : isRest ts g c m = false := if_pos hm
      rw [e] at k
      exact s_ret ev_bl k
    have hm : ¬ m < 2 := by simpa [isW] using hb
    have hm0 : 0 < m := by omega
    have pos : ∀ y : Int, 0 < y % m ↔ y % m ≠ 0 := fun y => by
      have := Int.emod_nonneg y (show m ≠ 0 by omega)
      omega
    refine q_for (α := Unit) (fd_of (fd_range (k := (ts.map tD).length) (by rw [List.length_map]; omega) (ea_cons (ev_lenL (ea_cons (ev_var rfl) ea_nil)) ea_nil)) (by rw [List.length_map])) (fun _ => []) (fun _ => [.d (termsD ts), .d (.int g), .d (caseD c), .d (.int m), .no])
      (fun i _ => ∀ (j : Nat) (p : T3 × P2), j < i → (ts.zip c)[j]? = some p → ¬ (p.2.1 < p.2.2 ∧ p.1.1 % m ≠ 0)) () (fun j p hj => absurd hj (Nat.not_lt_zero _)) rfl (Wk.refl _) ?_ ?_
    · intro B hB i d _ hd hP
      rw [List.getElem?_map] at hd
      cases e : (List.range ts.length)[i]? with
      | none => rw [e] at hd; cases hd
      | some j =>
        rw [e] at hd
        cases hd
        obtain ⟨h1, h2⟩ := List.getElem?_eq_some_iff.mp e
        rw [List.length_range] at h1
        rw [List.getElem_range] at h2
        subst h2
        have hi2 : i < c.length := by omega
        have hz := zip_at hc h1
        refine ⟨_, [4], as_name (by decide), fun N hN => ?_⟩
        refine s_if (et_and (et_test (ev_lt (ev_ixT atI0 (ev_ixL (atI_m (dflt := (0, 0)) hi2) (ev_var rfl) (ev_var rfl)) ev_int) (ev_ixT atI1 (ev_ixL (atI_m (dflt := (0, 0)) hi2) (ev_var rfl) (ev_var rfl)) ev_int))) fun _ => et_test (ev_gt (ev_mod hm0 (ev_ixT atI0 (ev_ixL (atI_m (dflt := (0, 0, 0)) h1) (ev_var rfl) (ev_var rfl)) ev_int) (ev_var rfl)) ev_int)) (fun hb => ?_) fun hb => ?_
        · rw [Bool.and_eq_true, decide_eq_true_eq, decide_eq_true_eq, pos] at hb
          have ea : isRest ts g c m = false := by
            unfold isRest
            rw [if_neg hm]
            refine if_pos (List.any_eq_true.mpr ⟨_, List.mem_of_getElem? hz, ?_⟩)
            rw [decide_eq_true hb.1, decide_eq_true hb.2]
            rfl
          rw [ea] at k
          exact s_ret ev_bl (Rt.base k hB)
        · rw [Bool.and_eq_false_iff, decide_eq_false_iff_not, decide_eq_false_iff_not, pos] at hb
          refine s_next (hN () (fun j q hj hq => ?_) _ (.keep (.keep (.keep (.keep (.drop .nil))))))
          by_cases z : j = i
          · subst z
            rw [hz] at hq
            cases hq
            rintro ⟨q1, q2⟩
            rcases hb with h | h
            · exact h q1
            · exact h q2
          · exact hP j q (by omega) hq
    · intro _ hP
      rw [List.length_map, List.length_range] at hP
      have ea : isRest ts g c m = decide ((g - leastSum ts c) % m ≠ 0) := by
        unfold isRest
        rw [if_neg hm]
        refine if_neg fun z => ?_
        obtain ⟨p, hp, hq⟩ := List.any_eq_true.mp z
        obtain ⟨j, hj⟩ := List.getElem?_of_mem hp
        rw [Bool.and_eq_true, decide_eq_true_eq, decide_eq_true_eq] at hq
        have h2 := (List.getElem?_eq_some_iff.mp hj).1
        rw [List.length_zip, hc, Nat.min_self] at h2
        exact hP j p h2 hj hq
      refine s_ret (d := .bl (isRest ts g c m)) (Ev.of (ev_gt (ev_mod hm0 (ev_sub (ev_var rfl) (ev_ixT atI0 (ev_call (R := R_l_sums) ⟨ts, c, hT, hc, rfl, rfl⟩ (ea_cons (ev_var rfl) (ea_cons (ev_var rfl) ea_nil))) ev_int)) (ev_var rfl)) ev_int) ?_) k
      rw [ea]
      exact congrArg D.bl (decide_eq_decide.mpr (pos _))

theorem ok_l_behind (T : Txt mg) (C__law_whole : Fn P w K mg base 1 "_law_whole" ["_law_found"] (spP R_is_whole)) (C__law_sums : Fn P w K mg base 1 "_law_sums" ["_law_terms_here", "_law_case"] (spP R_l_sums)) (C__law_rest : Fn P w K mg base 2 "_law_rest" ["_law_terms_here", "_law_goal", "_law_case", "_law_by"] (spP R_l_rest))
    {f : Addr} {fd : FuncData} (F : Fun K "_law_behind" "_law_behind" s_l_behind f fd) : FnOk P w K mg base CX0 3 f fd ["_law_terms_here", "_law_goal", "_law_case", "_law_step"] (spP R_l_behind) := by
  refine ok_of F sc_l_behind (fun ds d h => ?_) (by decide) fun cdv A outer s H E hr => ⟨_, (pss_cons (ps_if (PW.pt (pw_or (pt_not (pt_val (pe_callB call_isi (by rfl) T.zisinstance (by decide +kernel) (pa_cons (pv 3) (pa_cons (pe_bltn (v := .ty "tuple") (by rfl) T.ztuple (by decide +kernel) rfl) pa_nil))))) (pw_or (pt_cmpR op_lt (pe_callB call_len_seq (by rfl) T.zlen (by decide +kernel) (pa_cons (pv 3) pa_nil)) pe_int (nomark _)) (pw_or1 (pt_cmpR op_gt (pe_callB call_len_seq (by rfl) T.zlen (by decide +kernel) (pa_cons (pv 3) pa_nil)) pe_int (nomark _)))))) (pss_one (ps_ret pe_non)) pss_nil)
    (pss_cons (ps_asg (pe_fn C__law_sums (hr.mono (by decide)) (by rfl) (pa_cons (pv 0) (pa_cons (pv 2) pa_nil))) (pg_tup rfl (pgs_cons (pg_name (i := 4) sc_l_behind.nd rfl (Or.inl rfl)) (pgs_cons (pg_name (i := 5) sc_l_behind.nd rfl (Or.inl rfl)) pgs_nil))))
    (pss_cons (ps_if (PW.pt (pw_or (PW.pt (pw_and (pt_cmpR (op_eqD hr.units) (pv 3) (pe_tup (pa_cons pe_str pa_nil)) (nomark _)) (pw_and1 (pt_cmpR op_gt (pv 4) (pv 1) (nomark _))))) (pw_or1 (PW.pt (pw_and (pt_cmpR (op_eqD hr.units) (pv 3) (pe_tup (pa_cons pe_str pa_nil)) (nomark _)) (pw_and1 (pt_cmpR op_lt (pv 5) (pv 1) (nomark _)))))))) (pss_one (ps_ret (pe_lst pa_nil))) pss_nil)
    (pss_cons (ps_if (PW.pt (pw_and (pt_cmpR op_eq (pe_callB call_len_seq (by rfl) T.zlen (by decide +kernel) (pa_cons (pv 3) pa_nil)) pe_int (nomark _)) (pw_and (pt_cmpR op_eq (pe_ix (ixT (K := K)) (pv 3) pe_int (fun _ _ => rfl)) pe_str (nomark _)) (pw_and1 (pt_val (pe_fn C__law_rest (hr.mono (by decide)) (by rfl) (pa_cons (pv 0) (pa_cons (pv 1) (pa_cons (pv 2) (pa_cons (pe_ix (ixT (K := K)) (pv 3) pe_int (fun _ _ => rfl)) pa_nil)))))))))) (pss_one (ps_ret (pe_lst pa_nil))) pss_nil)
    (pss_cons (ps_if (PW.pt (pw_or (pt_cmpR op_lt (pe_callB call_len_seq (by rfl) T.zlen (by decide +kernel) (pa_cons (pv 3) pa_nil)) pe_int (nomark _)) (pw_or (pt_cmpR op_ne (pe_ix (ixT (K := K)) (pv 3) pe_int (fun _ _ => rfl)) pe_str (nomark _)) (pw_or (pt_not (pt_val (pe_fn C__law_whole (hr.mono (by decide)) (by rfl) (pa_cons (pe_ix (ixT (K := K)) (pv 3) pe_int (fun _ _ => rfl)) pa_nil)))) (pw_or1 (pt_not (pt_val (pe_fn C__law_whole (hr.mono (by decide)) (by rfl) (pa_cons (pe_ix (ixT (K := K)) (pv 3) pe_int (fun _ _ => rfl)) pa_nil))))))))) (pss_one (ps_ret pe_non)) pss_nil)
    (pss_cons (ps_asg (pv 3) (pg_tup rfl (pgs_cons (pg_name (i := 6) sc_l_behind.nd rfl (Or.inl rfl)) (pgs_cons (pg_name (i := 7) sc_l_behind.nd rfl (Or.inl rfl)) (pgs_cons (pg_name (i := 8) sc_l_behind.nd rfl (Or.inl rfl)) pgs_nil)))))
    (pss_cons (ps_if (PW.pt (pw_or (pt_not (pt_chain op_le op_lt pe_int (pv 7) (pe_callB call_len_seq (by rfl) T.zlen (by decide +kernel) (pa_cons (pv 0) pa_nil)))) (pw_or1 (pt_not (pt_chain op_le op_lt (pe_ix (ixT (K := K)) (pe_ix (ixL (K := K)) (pv 2) (pv 7) (fun _ _ => rfl)) pe_int (fun _ _ => rfl)) (pv 8) (pe_ix (ixT (K := K)) (pe_ix (ixL (K := K)) (pv 2) (pv 7) (fun _ _ => rfl)) pe_int (fun _ _ => rfl))))))) (pss_one (ps_ret pe_non)) pss_nil)
    (pss_one (ps_ret (pe_lst (pa_cons (pe_op op_cat (pe_op op_cat (pe_slice sl_list (pv 2) po_none (po_some (pv 7))) (pe_lst (pa_cons (pe_tup (pa_cons (pe_op op_add (pv 8) pe_int) (pa_cons (pe_ix (ixT (K := K)) (pe_ix (ixL (K := K)) (pv 2) (pv 7) (fun _ _ => rfl)) pe_int (fun _ _ => rfl)) pa_nil))) pa_nil))) (pe_slice sl_list (pv 2) (po_some (pe_op op_add (pv 7) pe_int)) po_none)) (pa_cons (pe_op op_cat (pe_op op_cat (pe_slice sl_list (pv 2) po_none (po_some (pv 7))) (pe_lst (pa_cons (pe_tup (pa_cons (pe_ix (ixT (K := K)) (pe_ix (ixL (K := K)) (pv 2) (pv 7) (fun _ _ => rfl)) pe_int (fun _ _ => rfl)) (pa_cons (pv 8) pa_nil))) pa_nil))) (pe_slice sl_list (pv 2) (po_some (pe_op op_add (pv 7) pe_int)) po_none)) pa_nil)))))))))))), fun L ds d Q h k => ?_⟩
  · obtain ⟨ts, g, c, z, _, _, _, rfl, _⟩ := h; rfl
  · obtain ⟨ts, g, c, z, hT, hc, hz, rfl, rfl⟩ := h
    have hl := hT.1
    have low : ∀ es, Ev H L [] es (tTup (tCons (tC (.str "low")) tNil)) (.tup [.str "low"]) := fun es => ev_tup (ea_cons ev_str ea_nil)
    have high : ∀ es, Ev H L [] es (tTup (tCons (tC (.str "high")) tNil)) (.tup [.str "high"]) := fun es => ev_tup (ea_cons ev_str ea_nil)
    obtain ⟨zs, hzs, hz1, hz3⟩ : ∃ zs, stepD z = .tup zs ∧ 1 ≤ zs.length ∧ zs.length ≤ 3 := by
      cases z
      · exact ⟨_, rfl, by decide, by decide⟩
      · exact ⟨_, rfl, by decide, by decide⟩
      · exact ⟨_, rfl, by simp, by simp⟩
      · exact ⟨_, rfl, by simp, by simp⟩
    have vs : ∀ es, es[3]? = some (.d (stepD z)) → Ev H L [] es (tVar 3) (.tup zs) := fun es h => hzs ▸ ev_var h
    refine q_pass (EvT.of (et_or2 (EvT.of (et_not (et_B (ev_isi (T := "tuple") (b := true) (step_tup z) (by decide +kernel) (ev_var rfl)))) rfl) (et_or2 (EvT.of (et_test (ev_lt (ev_lenT (ea_cons (vs _ rfl) ea_nil)) ev_int)) (decide_eq_false (by omega))) (et_test (ev_gt (ev_lenT (ea_cons (vs _ rfl) ea_nil)) ev_int)))) (decide_eq_false (by omega))) ?_
    refine q_asg (ss := [4, 5]) (ev_call (R := R_l_sums) ⟨ts, c, hT, hc, rfl, rfl⟩ (ea_cons (ev_var rfl) (ea_cons (ev_var rfl) ea_nil))) (as_tup rfl (asl_cons (as_name (by decide)) (asl_cons (as_name (by decide)) asl_nil))) ?_
    cases z with
    | low =>
      have he : isEnd ts g c .low = true := by
        rcases hz with h | h
        · cases h
        · exact h
      exact q_when (EvT.of (et_or1 (EvT.of (et_and2 (EvT.of (et_test (ev_eqD shaped_low shaped_low (ev_var rfl) (low _))) (by decide +kernel)) (et_test (ev_gt (ev_var rfl) (ev_var rfl)))) he)) rfl) (fun _ => s_ret (EvN.ev (en_lst ea_nil)) k) fun z => (nomatch z)
    | high =>
      have he : isEnd ts g c .high = true := by
        rcases hz with h | h
        · cases h
        · exact h
      exact q_when (EvT.of (et_or2 (et_and0 (EvT.of (et_test (ev_eqD shaped_high shaped_low (ev_var rfl) (low _))) (by decide +kernel))) (EvT.of (et_and2 (EvT.of (et_test (ev_eqD shaped_high shaped_high (ev_var rfl) (high _))) (by decide +kernel)) (et_test (ev_lt (ev_var rfl) (ev_var rfl)))) he)) rfl) (fun _ => s_ret (EvN.ev (en_lst ea_nil)) k) fun z => (nomatch z)
    | rest m =>
      have he : isRest ts g c m = true := by
        rcases hz with h | h
        · cases h
        · exact h
      refine q_pass (et_or2 (et_and0 (EvT.of (et_test (ev_eqD (shaped_rest m) shaped_low (ev_var rfl) (low _))) (by simp [stepD, py, pys, PyData.eqv, PyData.eqvAll]))) (et_and0 (EvT.of (et_test (ev_eqD (shaped_rest m) shaped_high (ev_var rfl) (high _))) (by simp [stepD, py, pys, PyData.eqv, PyData.eqvAll])))) ?_
      exact q_when (EvT.of (et_and2 (EvT.of (et_test (ev_eq rfl (ev_lenT (ea_cons (ev_var rfl) ea_nil)) ev_int)) (by simp [sameD])) (et_and2 (EvT.of (et_test (ev_eq rfl (ev_ixT atI0 (ev_var rfl) ev_int) ev_str)) (by simp [sameD])) (et_B (ev_call (R := R_l_rest) ⟨ts, g, c, m, hT, hc, rfl, rfl⟩ (ea_cons (ev_var rfl) (ea_cons (ev_var rfl) (ea_cons (ev_var rfl) (ea_cons (ev_ixT atI1 (ev_var rfl) ev_int) ea_nil)))))))) he) (fun _ => s_ret (EvN.ev (en_lst ea_nil)) k) fun z => (nomatch z)
    | part i a =>
      have hp : isPart c (.part i a) = true := by
        rcases hz with h | h
        · exact h
        · cases h
      have hp' : (decide (i < c.length) && (decide ((c.getD i (0, 0)).1 ≤ a) && decide (a < (c.getD i (0, 0)).2))) = true := hp
      rw [Bool.and_eq_true, Bool.and_eq_true, decide_eq_true_eq, decide_eq_true_eq, decide_eq_true_eq] at hp'
      obtain ⟨hi, ha1, ha2⟩ := hp'
      refine q_pass (et_or2 (et_and0 (EvT.of (et_test (ev_eqD (shaped_part i a) shaped_low (ev_var rfl) (low _))) (by simp [stepD, py, pys, PyData.eqv, PyData.eqvAll]))) (et_and0 (EvT.of (et_test (ev_eqD (shaped_part i a) shaped_high (ev_var rfl) (high _))) (by simp [stepD, py, pys, PyData.eqv, PyData.eqvAll])))) ?_
      refine q_pass (et_and0 (EvT.of (et_test (ev_eq rfl (ev_lenT (ea_cons (ev_var rfl) ea_nil)) ev_int)) (by simp [sameD]))) ?_
      refine q_pass (EvT.of (et_or2 (EvT.of (et_test (ev_lt (ev_lenT (ea_cons (ev_var rfl) ea_nil)) ev_int)) (show _ = false by simp)) (et_or2 (EvT.of (et_test (ev_ne rfl (ev_ixT atI0 (ev_var rfl) ev_int) ev_str)) (show _ = false by simp [sameD])) (et_or2 (EvT.of (et_not (et_B (ev_call (R := R_is_whole) ⟨.int (i : Int), by simp [tyD], rfl, rfl⟩ (ea_cons (ev_ixT atI1 (ev_var rfl) ev_int) ea_nil)))) rfl) (et_not (et_B (ev_call (R := R_is_whole) ⟨.int a, by simp [tyD], rfl, rfl⟩ (ea_cons (ev_ixT atI2 (ev_var rfl) ev_int) ea_nil))))))) rfl) ?_
      refine q_asg (ss := [6, 7, 8]) (ev_var rfl) (as_tup rfl (asl_cons (as_name (by decide)) (asl_cons (as_name (by decide)) (asl_cons (as_name (by decide)) asl_nil)))) ?_
      refine q_pass (EvT.of (et_or2 (EvT.of (et_not (et_test (ev_chain (p := fun i j => decide (i ≤ j)) (q := fun i j => decide (i < j)) ev_int (ev_var rfl) fun _ => ev_lenL (ea_cons (ev_var rfl) ea_nil)))) (show _ = false by rw [List.length_map, ← hc]; simp; exact hi))
        (et_not (et_test (ev_chain (p := fun i j => decide (i ≤ j)) (q := fun i j => decide (i < j)) (ev_ixT atI0 (ev_ixL (atI_m (dflt := (0, 0)) hi) (ev_var rfl) (ev_var rfl)) ev_int) (ev_var rfl) fun _ => ev_ixT atI1 (ev_ixL (atI_m (dflt := (0, 0)) hi) (ev_var rfl) (ev_var rfl)) ev_int)))) (by rw [decide_eq_true ha1, decide_eq_true ha2]; rfl)) ?_
      have hz1 : ∀ x : D, ((c.take i).map pairD).length + ([x] : List D).length ≤ 1000 := fun x => by
        rw [List.length_map, List.length_take]
        show min i c.length + 1 ≤ 1000
        omega
      have hz2 : ∀ x : D, ((c.take i).map pairD ++ [x]).length + ((c.drop (i + 1)).map pairD).length ≤ 1000 := fun x => by
        rw [List.length_append, List.length_map, List.length_take, List.length_map, List.length_drop]
        show min i c.length + 1 + _ ≤ 1000
        omega
      have eu : (c.take i).map pairD ++ [pairD (a + 1, (c.getD i (0, 0)).2)] ++ (c.drop (i + 1)).map pairD = (upper c i a).map pairD := by
        unfold upper
        rw [List.map_append, List.map_cons, List.append_assoc]
        rfl
      have el : (c.take i).map pairD ++ [pairD ((c.getD i (0, 0)).1, a)] ++ (c.drop (i + 1)).map pairD = (lower c i a).map pairD := by
        unfold lower
        rw [List.map_append, List.map_cons, List.append_assoc]
        rfl
      refine s_ret (EvN.ev (en_lst (ea_cons (d := caseD (upper c i a)) (Ev.of (EvN.ev (en_cat (hz2 (pairD (a + 1, (c.getD i (0, 0)).2))) (EvN.ev (en_cat (hz1 _) (Ev.of (EvN.ev (en_slice (ev_var rfl) eo_none (eo_some (ev_var rfl)))) (by rw [cut_upTo])) (EvN.ev (en_lst (ea_cons (ev_tup (ea_cons (ev_add (ev_var rfl) ev_int) (ea_cons (ev_ixT atI1 (ev_ixL (atI_m (dflt := (0, 0)) hi) (ev_var rfl) (ev_var rfl)) ev_int) ea_nil))) ea_nil)))))
        (Ev.of (EvN.ev (en_slice (ev_var rfl) (eo_some (ev_add (ev_var rfl) ev_int)) eo_none)) (by rw [cut_behind])))) ?_)
        (ea_cons (d := caseD (lower c i a)) (Ev.of (EvN.ev (en_cat (hz2 (pairD ((c.getD i (0, 0)).1, a))) (EvN.ev (en_cat (hz1 _) (Ev.of (EvN.ev (en_slice (ev_var rfl) eo_none (eo_some (ev_var rfl)))) (by rw [cut_upTo])) (EvN.ev (en_lst (ea_cons (ev_tup (ea_cons (ev_ixT atI0 (ev_ixL (atI_m (dflt := (0, 0)) hi) (ev_var rfl) (ev_var rfl)) ev_int) (ea_cons (ev_var rfl) ea_nil))) ea_nil)))))
        (Ev.of (EvN.ev (en_slice (ev_var rfl) (eo_some (ev_add (ev_var rfl) ev_int)) eo_none)) (by rw [cut_behind])))) ?_) ea_nil)))) k
      · exact congrArg D.lst eu
      · exact congrArg D.lst el

theorem ok_l_left (T : Txt mg) (C__law_behind : Fn P w K mg base 3 "_law_behind" ["_law_terms_here", "_law_goal", "_law_case", "_law_step"] (spP R_l_behind)) (C__law_ended : Fn P w K mg base 2 "_law_ended" ["_law_terms_here", "_law_goal", "_law_case"] (spP R_l_ended))
    {f : Addr} {fd : FuncData} (F : Fun K "_law_left" "_law_left" s_l_left f fd) : FnOk P w K mg base CX0 4 f fd ["_law_terms_here", "_law_goal", "_law_paper", "_law_bare"] (spP R_l_left) := by
  refine ok_of F sc_l_left (fun ds d h => ?_) (by decide) fun cdv A outer s H E hr => ⟨_, (pss_cons (ps_set (i := 4) sc_l_left.nd rfl (Or.inl rfl) (pe_lst (pa_cons (pe_lc (own := [("_law_times", 8), ("_law_low", 9), ("_law_high", 10)]) (g := (gTup K 3 (gCons (gName 8) (gCons (gName 9) (gCons (gName 10) gNil))))) (tt := tYes) rfl sc_l_left.nd (pi_list (pv 0)) (blkOk_by (own := [("_law_times", 8), ("_law_low", 9), ("_law_high", 10)]) (N := N_l_left) (sc := defScope s_l_left) (by decide +kernel)) (fun _ _ _ _ _ => (pg_tup rfl (pgs_cons (pg_name (i := 8) sc_l_left.nd rfl (Or.inl rfl)) (pgs_cons (pg_name (i := 9) sc_l_left.nd rfl (Or.inl rfl)) (pgs_cons (pg_name (i := 10) sc_l_left.nd rfl (Or.inl rfl)) pgs_nil))))) (fun _ _ _ _ _ => pts_nil) (fun _ _ _ _ _ => (pe_tup (pa_cons (pv 9) (pa_cons (pv 10) pa_nil))))) pa_nil)))
    (pss_cons (ps_for PassesOwn.never rfl (pi_list (pv 2)) (pg_name (i := 5) sc_l_left.nd rfl (Or.inl rfl)) (pss_cons (ps_if (pt_cmpR (op_eqD hr.units) (pv 4) (pe_lst pa_nil) (nomark _)) (pss_one (ps_ret pe_non)) pss_nil)
    (pss_cons (ps_set (i := 6) sc_l_left.nd rfl (Or.inl rfl) (pe_bm0 PySem.F.plainAttrs_list PySem.F.slot_list_pop PySem.F.type_list_pop mt_pop (pv 4)))
    (pss_cons (ps_set (i := 7) sc_l_left.nd rfl (Or.inl rfl) (pe_fn C__law_behind (hr.mono (by decide)) (by rfl) (pa_cons (pv 0) (pa_cons (pv 1) (pa_cons (pv 6) (pa_cons (pv 5) pa_nil))))))
    (pss_cons (ps_if (PW.pt (pw_or (pt_cmp (pc_isN (pv 7))) (pw_or1 (PW.pt (pw_and (pt_val (pv 3)) (pw_and (pt_cmpR (op_neD hr.units) (pv 7) (pe_lst pa_nil) (nomark _)) (pw_and1 (pt_val (pe_fn C__law_ended (hr.mono (by decide)) (by rfl) (pa_cons (pv 0) (pa_cons (pv 1) (pa_cons (pv 6) pa_nil)))))))))))) (pss_one (ps_ret pe_non)) pss_nil)
    (pss_one (ps_set (i := 4) sc_l_left.nd rfl (Or.inl rfl) (pe_op op_cat (pv 4) (pv 7)))))))))
    (pss_one (ps_ret (pv 4))))), fun L ds d Q h k => ?_⟩
  · obtain ⟨ts, g, paper, _, _, _, rfl, _⟩ := h; rfl
  · obtain ⟨ts, g, paper, hT, hp, hrd, rfl, rfl⟩ := h
    have hl := hT.1
    refine q_own (ds := [caseD (wholeCase ts)]) (en_lst (ea_cons (EvN.ev (ds := (wholeCase ts).map pairD) ?_) ea_nil)) fun cs => ?_
    · unfold wholeCase
      rw [List.map_map]
      refine en_map ts tD (pairD ∘ fun t => (t.2.1, t.2.2)) (fd_list (ev_var rfl)) (by omega) rfl fun B Dl acc hB t ht => ⟨_, as_tup rfl (asl_cons (as_name (by decide)) (asl_cons (as_name (by decide)) (asl_cons (as_name (by decide)) asl_nil))), ?_⟩
      exact ev_tup (ea_cons (ev_var rfl) (ea_cons (ev_var rfl) ea_nil))
    refine q_for (α := Addr × List (List P2)) (fd_list (ds := paper.map stepD) (ev_var rfl)) (fun z => [(z.1, .l (stackD z.2))]) (fun z => [.d (termsD ts), .d (.int g), .d (.lst (paper.map stepD)), .d (.bl true), .v (.ref z.1), .no, .no, .no, .no, .no, .no])
      (fun i z => (∀ c ∈ z.2, c.length = ts.length) ∧ z.2.length ≤ i + 1 ∧ readB ts g z.2 (paper.drop i) = true) (cs, [wholeCase ts]) ⟨fun c hc => by rw [List.mem_singleton.mp hc]; exact whole_len ts, by simp, hrd⟩ rfl (Wk.refl _) ?_ ?_
    · rintro B' hB' i d ⟨cs, st⟩ hd ⟨hst, hl2, hrs⟩
      rw [List.getElem?_map] at hd
      cases e : paper[i]? with
      | none => rw [e] at hd; cases hd
      | some z =>
        rw [e] at hd
        cases hd
        have hi : i < paper.length := (List.getElem?_eq_some_iff.mp e).1
        have hdrop : paper.drop i = z :: paper.drop (i + 1) := by
          rw [List.drop_eq_getElem_cons hi]
          have := List.getElem?_eq_getElem hi
          rw [e] at this
          rw [← Option.some.inj this]
        rw [hdrop] at hrs
        refine ⟨_, [5], as_name (by decide), fun N hN => ?_⟩
        cases st with
        | nil => cases hrs
        | cons c st =>
          have hc := hst c List.mem_cons_self
          have hl' : st.length + 1 ≤ i + 1 := hl2
          refine q_pass (EvT.of (et_test (ev_eqM (j := 0) (ds := stackD (c :: st)) rfl rfl (stack_shaped _) nil_shaped (EvN.ev (en_lst ea_nil)))) (by rw [eqv_nil]; rfl)) ?_
          refine q_pop (j := 0) (ds := stackD st) (d := caseD c) rfl (by rw [← stackD_cons]; rfl) ?_
          have hone : isPart c z = true ∨ isEnd ts g c z = true := by
            unfold readB at hrs
            by_cases h1 : isPart c z = true
            · exact .inl h1
            · rw [if_neg h1] at hrs
              by_cases h2 : isEnd ts g c z = true
              · exact .inr h2
              · rw [if_neg h2] at hrs
                cases hrs
          refine q_set (ev_call (R := R_l_behind) ⟨ts, g, c, z, hT, hc, hone, rfl, rfl⟩ (ea_cons (ev_var rfl) (ea_cons (ev_var rfl) (ea_cons (ev_var rfl) (ea_cons (ev_var rfl) ea_nil))))) ?_
          have hnext : readB ts g (parts c z ++ st) (paper.drop (i + 1)) = true ∧ (!(parts c z).isEmpty && (endOf ts g c).isSome) = false ∧ (∀ c' ∈ parts c z, c'.length = ts.length) ∧ (parts c z).length ≤ 2 := by
            unfold readB at hrs
            by_cases h1 : isPart c z = true
            · rw [if_pos h1, Bool.and_eq_true] at hrs
              have hn : (endOf ts g c).isSome = false := by
                cases h : endOf ts g c with
                | none => rfl
                | some _ => rw [h] at hrs; cases hrs.1
              refine ⟨hrs.2, by rw [hn, Bool.and_false], ?_, ?_⟩
              all_goals cases z with
                | low => cases h1
                | high => cases h1
                | rest m => cases h1
                | part k0 a => ?_
              · have hk0 : k0 < c.length := by
                  have hb' : (decide (k0 < c.length) && _) = true := h1
                  rw [Bool.and_eq_true] at hb'
                  exact of_decide_eq_true hb'.1
                intro c' hc'
                rcases List.mem_cons.mp hc' with z | hc'
                · rw [z, lower_len hk0, hc]
                · rw [List.mem_singleton.mp hc', upper_len hk0, hc]
              · exact Nat.le_refl 2
            · rw [if_neg h1] at hrs
              have h2 : isEnd ts g c z = true := hone.resolve_left h1
              rw [if_pos h2] at hrs
              have hpn : parts c z = [] := by
                cases z with
                | low => rfl
                | high => rfl
                | rest m => rfl
                | part k0 a => cases h2
              rw [hpn]
              exact ⟨hrs, rfl, fun c' hc' => by simp at hc', Nat.zero_le _⟩
          refine q_pass (EvT.of (et_or2 (EvT.of (et_B (ev_isN (d := .lst (stackD (parts c z))) (ev_var rfl))) rfl) (et_and2 (et_B (ev_var rfl)) (et_and (et_test (ev_neD (stack_shaped _) nil_shaped (ev_var rfl) (EvN.ev (en_lst ea_nil)))) fun _ => et_B (ev_call (R := R_l_ended) ⟨ts, g, c, hT, hc, rfl, rfl⟩ (ea_cons (ev_var rfl) (ea_cons (ev_var rfl) (ea_cons (ev_var rfl) ea_nil))))))) ?_) ?_
          · rw [eqv_nil]
            exact hnext.2.1
          refine q_own (us := tNext) (en_catM (j := 0) (ds := stackD st) (ds' := stackD (parts c z)) rfl rfl ?_ (ev_var rfl)) fun p => run_forget 1 (s_next ?_)
          · rw [stackD_len, stackD_len]
            have := hnext.2.2.2
            omega
          · have e3 : stackD st ++ stackD (parts c z) = stackD (parts c z ++ st) := by
              unfold stackD
              rw [List.reverse_append, List.map_append]
            rw [e3]
            refine hN (p, parts c z ++ st) ⟨fun c' hc' => ?_, ?_, hnext.1⟩ _ (.keep (.keep (.keep (.keep (.keep (.drop (.drop (.drop (.keep (.keep (.keep .nil)))))))))))
            · rcases List.mem_append.mp hc' with h | h
              · exact hnext.2.2.1 c' h
              · exact hst c' (List.mem_cons_of_mem _ h)
            · show (parts c z ++ st).length ≤ _
              rw [List.length_append]
              have := hnext.2.2.2
              omega
    · rintro ⟨cs, st⟩ ⟨_, _, hrs⟩
      rw [List.length_map, List.drop_length] at hrs
      have hst : st = [] := by
        cases st with
        | nil => rfl
        | cons c st => cases hrs
      subst hst
      refine run_freeze (j := 0) (i := 4) (a := cs) (ds := []) rfl rfl ?_
      exact s_ret (ev_var rfl) k

theorem ok_l_apart (T : Txt mg) (C__law_left : Fn P w K mg base 4 "_law_left" ["_law_terms_here", "_law_goal", "_law_paper", "_law_bare"] (spP R_l_left))
    {f : Addr} {fd : FuncData} (F : Fun K "_law_apart" "_law_apart" s_l_apart f fd) : FnOk P w K mg base CX0 5 f fd ["_law_found", "_law_terms_here", "_law_goal", "_law_most"] (spP R_l_apart) := by
  refine ok_of F sc_l_apart (fun ds d h => ?_) (by decide) fun cdv A outer s H E hr => ⟨_, (pss_cons (ps_if (PW.pt (pw_or (pt_not (pt_val (pe_callB call_isi (by rfl) T.zisinstance (by decide +kernel) (pa_cons (pv 0) (pa_cons (pe_bltn (v := .ty "tuple") (by rfl) T.ztuple (by decide +kernel) rfl) pa_nil))))) (pw_or (pt_cmpR op_ne (pe_callB call_len_seq (by rfl) T.zlen (by decide +kernel) (pa_cons (pv 0) pa_nil)) pe_int (nomark _)) (pw_or (pt_cmpR op_ne (pe_ix (ixT (K := K)) (pv 0) pe_int (fun _ _ => rfl)) pe_str (nomark _)) (pw_or1 (pt_not (pt_val (pe_callB call_isi (by rfl) T.zisinstance (by decide +kernel) (pa_cons (pe_ix (ixT (K := K)) (pv 0) pe_int (fun _ _ => rfl)) (pa_cons (pe_bltn (v := .ty "list") (by rfl) T.zlist (by decide +kernel) rfl) pa_nil)))))))))) (pss_one (ps_ret pe_bl)) pss_nil)
    (pss_one (ps_ret (pe_and (pe_cmpR op_le (pe_callB call_len_seq (by rfl) T.zlen (by decide +kernel) (pa_cons (pe_ix (ixT (K := K)) (pv 0) pe_int (fun _ _ => rfl)) pa_nil)) (pv 3) (nomark _)) (pe_one (pe_cmpR (op_eqD hr.units) (pe_fn C__law_left (hr.mono (by decide)) (by rfl) (pa_cons (pv 1) (pa_cons (pv 2) (pa_cons (pe_ix (ixT (K := K)) (pv 0) pe_int (fun _ _ => rfl)) (pa_cons pe_bl pa_nil))))) (pe_lst pa_nil) (nomark _))))))), fun L ds d Q h k => ?_⟩
  · obtain ⟨ts, g, paper, most, _, _, _, _, rfl, _⟩ := h; rfl
  · obtain ⟨ts, g, paper, most, hT, hp, hm, hrd, rfl, rfl⟩ := h
    refine q_pass (EvT.of (et_or2 (EvT.of (et_not (et_B (ev_isi (T := "tuple") (b := true) rfl (by decide +kernel) (ev_var rfl)))) rfl) (et_or2 (EvT.of (et_test (ev_ne rfl (ev_lenT (ea_cons (ev_var rfl) ea_nil)) ev_int)) (show _ = false by simp [sameD])) (et_or2 (EvT.of (et_test (ev_ne rfl (ev_ixT atI0 (ev_var rfl) ev_int) ev_str)) (show _ = false by simp [sameD])) (et_not (et_B (ev_isi (T := "list") (b := true) rfl (by decide +kernel) (ev_ixT atI1 (ev_var rfl) ev_int))))))) rfl) ?_
    refine s_ret (Ev.of (ev_andV (ev_le (ev_lenL (ea_cons (ev_ixT atI1 (ev_var rfl) ev_int) ea_nil)) (ev_var rfl)) fun _ => ev_eqD nil_shaped nil_shaped (ev_call (R := R_l_left) ⟨ts, g, paper, hT, hp, hrd, rfl, rfl⟩ (ea_cons (ev_var rfl) (ea_cons (ev_var rfl) (ea_cons (ev_ixT atI1 (ev_var rfl) ev_int) (ea_cons ev_bl ea_nil))))) (EvN.ev (en_lst ea_nil))) ?_) k
    rw [List.length_map, decide_eq_true hm]
    rfl

theorem ok_l_right (T : Txt mg) (C__law_met : Fn P w K mg base 3 "_law_met" ["_law_found", "_law_one", "_law_other", "_law_goal"] (spP R_l_met)) (C__law_terms : Fn P w K mg base 1 "_law_terms" ["_law_one", "_law_other"] (spP R_l_terms)) (C__law_apart : Fn P w K mg base 5 "_law_apart" ["_law_found", "_law_terms_here", "_law_goal", "_law_most"] (spP R_l_apart))
    {f : Addr} {fd : FuncData} (F : Fun K "_law_right" "_law_right" s_l_right f fd) : FnOk P w K mg base CX0 6 f fd ["_law_found", "_law_one", "_law_other", "_law_goal", "_law_meet_here"] (spP R_l_right) := by
  refine ok_of F sc_l_right (fun ds d h => ?_) (by decide) fun cdv A outer s H E hr => ⟨_, (pss_cons (ps_if (pt_val (pv 4)) (pss_one (ps_ret (pe_fn C__law_met (hr.mono (by decide)) (by rfl) (pa_cons (pv 0) (pa_cons (pv 1) (pa_cons (pv 2) (pa_cons (pv 3) pa_nil))))))) pss_nil)
    (pss_cons (ps_set (i := 5) sc_l_right.nd rfl (Or.inl rfl) (pe_fn C__law_terms (hr.mono (by decide)) (by rfl) (pa_cons (pv 1) (pa_cons (pv 2) pa_nil))))
    (pss_one (ps_ret (pe_fn C__law_apart (hr.mono (by decide)) (by rfl) (pa_cons (pv 0) (pa_cons (pv 5) (pa_cons (pv 3) (pa_cons (pe_op op_add pe_int (pe_op op_mul pe_int (pe_callB call_len_seq (by rfl) T.zlen (by decide +kernel) (pa_cons (pv 5) pa_nil)))) pa_nil))))))))), fun L ds d Q h k => ?_⟩
  · obtain ⟨_, _, _, _, _, _, _, rfl, _⟩ := h; rfl
  · obtain ⟨found, A, B, g, m, hA, hB, rfl, rfl, h1, h2⟩ := h
    cases m with
    | true => exact q_true (et_B (ev_var rfl)) (s_ret (ev_call (R := R_l_met) (h1 rfl) (ea_cons (ev_var rfl) (ea_cons (ev_var rfl) (ea_cons (ev_var rfl) (ea_cons (ev_var rfl) ea_nil))))) k)
    | false =>
      obtain ⟨hT, paper, rfl, hp1, hp2, hrd⟩ := h2 rfl
      refine q_false (et_B (ev_var rfl)) (s_next ?_)
      refine q_set (ev_call (R := R_l_terms) ⟨A, B, hA, hB, rfl, rfl⟩ (ea_cons (ev_var rfl) (ea_cons (ev_var rfl) ea_nil))) ?_
      refine s_ret (ev_call (R := R_l_apart) ⟨terms (A.map keptA) (B.map keptA), g, paper, _, hT, hp1, ?_, hrd, rfl, rfl⟩ (ea_cons (ev_var rfl) (ea_cons (ev_var rfl) (ea_cons (ev_var rfl) (ea_cons (ev_add ev_int (ev_mul (.inl (by decide)) ev_int (ev_lenL (ea_cons (ev_var rfl) ea_nil)))) ea_nil))))) k
      rw [List.length_map]
      omega
end
end Pc

set_option Elab.async false
set_option linter.all false
set_option maxHeartbeats 1000000
/-! The search, in plain: what it hands back is right, and it ends in time. -/
namespace Pm

/-! ### sums over the cons -/
theorem least_cons (t : T3) (ts : List T3) (p : P2) (c : List P2) : leastSum (t :: ts) (p :: c) = t.1 * p.1 + leastSum ts c := by
  unfold leastSum
  rw [List.zip_cons_cons, List.map_cons, List.sum_cons]
theorem greatest_cons (t : T3) (ts : List T3) (p : P2) (c : List P2) : greatestSum (t :: ts) (p :: c) = t.1 * p.2 + greatestSum ts c := by
  unfold greatestSum
  rw [List.zip_cons_cons, List.map_cons, List.sum_cons]
theorem least_app : ∀ (tp : List T3) (cp : List P2) (ts : List T3) (c : List P2), cp.length = tp.length → leastSum (tp ++ ts) (cp ++ c) = leastSum tp cp + leastSum ts c
  | [], [], ts, c, _ => by show leastSum ts c = 0 + leastSum ts c; omega
  | t :: tp, p :: cp, ts, c, h => by
    rw [List.cons_append, List.cons_append, least_cons, least_cons, least_app tp cp ts c (Nat.succ.inj h)]
    omega
theorem greatest_app : ∀ (tp : List T3) (cp : List P2) (ts : List T3) (c : List P2), cp.length = tp.length → greatestSum (tp ++ ts) (cp ++ c) = greatestSum tp cp + greatestSum ts c
  | [], [], ts, c, _ => by show greatestSum ts c = 0 + greatestSum ts c; omega
  | t :: tp, p :: cp, ts, c, h => by
    rw [List.cons_append, List.cons_append, greatest_cons, greatest_cons, greatest_app tp cp ts c (Nat.succ.inj h)]
    omega

/-! ### numbers in a case -/
def inC : List P2 → List Int → Prop
  | [], [] => True
  | p :: c, x :: xs => p.1 ≤ x ∧ x ≤ p.2 ∧ inC c xs
  | _, _ => False
def dotT : List T3 → List Int → Int
  | t :: ts, x :: xs => t.1 * x + dotT ts xs
  | _, _ => 0
def Pos (ts : List T3) : Prop := ∀ t ∈ ts, 0 < t.1
theorem Pos.tail {t : T3} {ts : List T3} (h : Pos (t :: ts)) : Pos ts := fun u hu => h u (List.mem_cons_of_mem _ hu)
theorem dot_bounds : ∀ {ts : List T3} {c : List P2} {x : List Int}, Pos ts → c.length = ts.length → inC c x → leastSum ts c ≤ dotT ts x ∧ dotT ts x ≤ greatestSum ts c
  | [], [], [], _, _, _ => by simp [leastSum, greatestSum, dotT]
  | t :: ts, p :: c, x :: xs, hp, hl, ⟨h1, h2, h3⟩ => by
    obtain ⟨i1, i2⟩ := dot_bounds hp.tail (Nat.succ.inj hl) h3
    have ht : 0 ≤ t.1 := Int.le_of_lt (hp t List.mem_cons_self)
    rw [least_cons, greatest_cons]
    have a1 := Int.mul_le_mul_of_nonneg_left h1 ht
    have a2 := Int.mul_le_mul_of_nonneg_left h2 ht
    unfold dotT
    omega
theorem dvd_fold : ∀ (ns : List Int) (a : Int), (ns.foldl (fun a b => (Int.gcd a b : Int)) a) ∣ a ∧ ∀ n ∈ ns, (ns.foldl (fun a b => (Int.gcd a b : Int)) a) ∣ n
  | [], a => ⟨Int.dvd_refl a, fun n hn => by simp at hn⟩
  | m :: ns, a => by
    obtain ⟨h1, h2⟩ := dvd_fold ns (Int.gcd a m : Int)
    rw [List.foldl_cons]
    refine ⟨Int.dvd_trans h1 (Int.gcd_dvd_left ..), fun n hn => ?_⟩
    rcases List.mem_cons.mp hn with e | e
    · rw [e]
      exact Int.dvd_trans h1 (Int.gcd_dvd_right ..)
    · exact h2 n e
theorem gcdL_dvd {ns : List Int} {n : Int} (h : n ∈ ns) : gcdL ns ∣ n := (dvd_fold ns 0).2 n h
theorem rest_dvd {ts : List T3} {c : List P2} {p : T3 × P2} (h : p ∈ ts.zip c) (hp : p.2.1 < p.2.2) : restOf ts c ∣ p.1.1 := by
  unfold restOf
  refine gcdL_dvd (List.mem_map.mpr ⟨p, List.mem_filter.mpr ⟨h, decide_eq_true hp⟩, rfl⟩)
theorem dvd_dot {m : Int} : ∀ {ts : List T3} {c : List P2} {x : List Int}, c.length = ts.length → inC c x → (∀ p ∈ ts.zip c, p.2.1 < p.2.2 → m ∣ p.1.1) → m ∣ dotT ts x - leastSum ts c
  | [], [], [], _, _, _ => by
    show m ∣ 0 - 0
    exact Int.dvd_zero m
  | t :: ts, p :: c, x :: xs, hl, ⟨h1, h2, h3⟩, hd => by
    have ih := dvd_dot (Nat.succ.inj hl) h3 fun q hq => hd q (List.mem_cons_of_mem _ hq)
    rw [least_cons]
    have e : dotT (t :: ts) (x :: xs) - (t.1 * p.1 + leastSum ts c) = t.1 * (x - p.1) + (dotT ts xs - leastSum ts c) := by
      rw [Int.mul_sub]
      show t.1 * x + dotT ts xs - _ = _
      omega
    rw [e]
    refine Int.dvd_add ?_ ih
    by_cases hp : p.1 < p.2
    · exact Int.dvd_trans (hd (t, p) List.mem_cons_self hp) (Int.dvd_mul_right ..)
    · have : x - p.1 = 0 := by omega
      rw [this, Int.mul_zero]
      exact Int.dvd_zero m
/-- a case that holds what is sought has no end -/
theorem end_none {ts : List T3} {g : Int} {c : List P2} {x : List Int} (hp : Pos ts) (hl : c.length = ts.length) (hx : inC c x) (hg : dotT ts x = g) : endOf ts g c = none := by
  obtain ⟨h1, h2⟩ := dot_bounds hp hl hx
  unfold endOf
  rw [if_neg (by omega), if_neg (by omega), if_neg]
  rintro ⟨h3, h4⟩
  apply h4
  rw [← hg]
  exact Int.emod_eq_zero_of_dvd (dvd_dot hl hx fun p hq hlt => rest_dvd hq hlt)

/-! ### parts -/
theorem lower_zero (p : P2) (c : List P2) (a : Int) : lower (p :: c) 0 a = (p.1, a) :: c := rfl
theorem upper_zero (p : P2) (c : List P2) (a : Int) : upper (p :: c) 0 a = (a + 1, p.2) :: c := rfl
theorem lower_succ (p : P2) (c : List P2) (k : Nat) (a : Int) : lower (p :: c) (k + 1) a = p :: lower c k a := rfl
theorem upper_succ (p : P2) (c : List P2) (k : Nat) (a : Int) : upper (p :: c) (k + 1) a = p :: upper c k a := rfl
theorem part_cover : ∀ {c : List P2} {k : Nat} {a : Int} {x : List Int}, k < c.length → inC c x → inC (lower c k a) x ∨ inC (upper c k a) x
  | p :: c, 0, a, x :: xs, _, ⟨h1, h2, h3⟩ => by
    rw [lower_zero, upper_zero]
    by_cases h : x ≤ a
    · exact .inl ⟨h1, h, h3⟩
    · exact .inr ⟨by show a + 1 ≤ x; omega, h2, h3⟩
  | p :: c, k + 1, a, x :: xs, hk, ⟨h1, h2, h3⟩ => by
    rw [lower_succ, upper_succ]
    rcases part_cover (a := a) (Nat.lt_of_succ_lt_succ hk) h3 with h | h
    · exact .inl ⟨h1, h2, h⟩
    · exact .inr ⟨h1, h2, h⟩
/-- a case within another -/
def subC : List P2 → List P2 → Prop
  | [], [] => True
  | p :: c, q :: d => q.1 ≤ p.1 ∧ p.1 ≤ p.2 ∧ p.2 ≤ q.2 ∧ subC c d
  | _, _ => False
theorem sub_len : ∀ {c d : List P2}, subC c d → c.length = d.length
  | [], [], _ => rfl
  | p :: c, q :: d, ⟨_, _, _, h⟩ => by rw [List.length_cons, List.length_cons, sub_len h]
theorem sub_parts : ∀ {c d : List P2} {k : Nat} {a : Int}, subC c d → k < c.length → (c.getD k (0, 0)).1 ≤ a → a < (c.getD k (0, 0)).2 → subC (lower c k a) d ∧ subC (upper c k a) d
  | p :: c, q :: d, 0, a, ⟨h1, h2, h3, h4⟩, _, ha, hb => by
    have ha' : p.1 ≤ a := ha
    have hb' : a < p.2 := hb
    rw [lower_zero, upper_zero]
    exact ⟨⟨h1, ha', by show a ≤ q.2; omega, h4⟩, ⟨by show q.1 ≤ a + 1; omega, by show a + 1 ≤ p.2; omega, h3, h4⟩⟩
  | p :: c, q :: d, k + 1, a, ⟨h1, h2, h3, h4⟩, hk, ha, hb => by
    rw [lower_succ, upper_succ]
    obtain ⟨i1, i2⟩ := sub_parts h4 (Nat.lt_of_succ_lt_succ hk) (by simpa using ha) (by simpa using hb)
    exact ⟨⟨h1, h2, h3, i1⟩, ⟨h1, h2, h3, i2⟩⟩
theorem closed_tail {p : P2} {c : List P2} (h : openTerm (p :: c) = none) : ¬ p.1 < p.2 ∧ openTerm c = none := by
  unfold openTerm at h
  split at h
  · cases h
  · rename_i hp
    refine ⟨hp, ?_⟩
    cases e : openTerm c with
    | none => rfl
    | some i => rw [e] at h; cases h
theorem closed_in : ∀ {c d : List P2}, subC c d → openTerm c = none → inC d (c.map (·.1))
  | [], [], _, _ => trivial
  | p :: c, q :: d, ⟨h1, h2, h3, h4⟩, h => by
    obtain ⟨g1, g2⟩ := closed_tail h
    exact ⟨h1, by show p.1 ≤ q.2; omega, closed_in h4 g2⟩
theorem closed_sums : ∀ {ts : List T3} {c d : List P2}, subC c d → openTerm c = none → c.length = ts.length → dotT ts (c.map (·.1)) = leastSum ts c ∧ greatestSum ts c = leastSum ts c
  | [], [], [], _, _, _ => ⟨rfl, rfl⟩
  | t :: ts, p :: c, q :: d, ⟨h1, h2, h3, h4⟩, h, hl => by
    obtain ⟨g1, g2⟩ := closed_tail h
    obtain ⟨i1, i2⟩ := closed_sums (ts := ts) h4 g2 (Nat.succ.inj hl)
    have e : p.2 = p.1 := by omega
    rw [least_cons, greatest_cons, e, i2]
    refine ⟨?_, rfl⟩
    rw [List.map_cons]
    show t.1 * p.1 + _ = _
    rw [i1]
/-- where a case is parted -/
theorem part_at {ts : List T3} {g : Int} {c : List P2} {k : Nat} (hp : Pos ts) (hl : c.length = ts.length) (hk : openTerm c = some k) (hn : endOf ts g c = none) : (c.getD k (0, 0)).1 ≤ partAt ts g c k ∧ partAt ts g c k < (c.getD k (0, 0)).2 := by
  obtain ⟨h1, h2, _⟩ := open_at hk
  have h3 : k < ts.length := by omega
  have ht : 0 < (ts.getD k (0, 0, 0)).1 := by
    rw [List.getD_eq_getElem?_getD, List.getElem?_eq_getElem h3]
    exact hp _ (List.getElem_mem h3)
  have n1 : ¬ g < leastSum ts c := fun z => by unfold endOf at hn; rw [if_pos z] at hn; cases hn
  have n2 : ¬ greatestSum ts c < g := fun z => by unfold endOf at hn; rw [if_neg n1, if_pos z] at hn; cases hn
  unfold partAt
  generalize (ts.getD k (0, 0, 0)).1 = t at ht
  generalize c.getD k (0, 0) = p at h2
  show p.1 ≤ (if p.1 < 0 - (greatestSum ts c - t * p.2 - g) / t then 0 - (greatestSum ts c - t * p.2 - g) / t - 1 else if (g - leastSum ts c + t * p.1) / t < p.2 then (g - leastSum ts c + t * p.1) / t else p.1) ∧ (if p.1 < 0 - (greatestSum ts c - t * p.2 - g) / t then 0 - (greatestSum ts c - t * p.2 - g) / t - 1 else if (g - leastSum ts c + t * p.1) / t < p.2 then (g - leastSum ts c + t * p.1) / t else p.1) < p.2
  have b1 : -p.2 ≤ (greatestSum ts c - t * p.2 - g) / t := by
    rw [Int.le_ediv_iff_mul_le ht, Int.neg_mul, Int.mul_comm p.2 t]
    omega
  have b2 : p.1 ≤ (g - leastSum ts c + t * p.1) / t := by
    rw [Int.le_ediv_iff_mul_le ht, Int.mul_comm p.1 t]
    omega
  split
  · omega
  · split
    · omega
    · omega

/-! ### what the search hands back -/
theorem search_nil {ts : List T3} {g : Int} {n : Nat} {paper : List Step} : search ts g n [] paper = .apart paper := by
  unfold search
  rfl
theorem search_end {ts : List T3} {g : Int} {n : Nat} {c : List P2} {st : List (List P2)} {paper : List Step} {z : Step} (h : endOf ts g c = some z) : search ts g (n + 1) (c :: st) paper = search ts g n st (paper ++ [z]) := by
  conv => lhs; unfold search
  simp only [h]
theorem search_hit {ts : List T3} {g : Int} {n : Nat} {c : List P2} {st : List (List P2)} {paper : List Step} (h : endOf ts g c = none) (h2 : openTerm c = none) : search ts g (n + 1) (c :: st) paper = .shared c := by
  conv => lhs; unfold search
  simp only [h, h2]
theorem search_cut {ts : List T3} {g : Int} {n : Nat} {c : List P2} {st : List (List P2)} {paper : List Step} {i : Nat} (h : endOf ts g c = none) (h2 : openTerm c = some i) :
    search ts g (n + 1) (c :: st) paper = search ts g n (lower c i (partAt ts g c i) :: upper c i (partAt ts g c i) :: st) (paper ++ [.part i (partAt ts g c i)]) := by
  conv => lhs; unfold search
  simp only [h, h2]
theorem search_sub {ts : List T3} {g : Int} {W : List P2} (hp : Pos ts) (hW : W.length = ts.length) : ∀ (n : Nat) (st : List (List P2)) (paper : List Step), (∀ c ∈ st, subC c W) →
    (∀ c, search ts g n st paper = .shared c → subC c W ∧ openTerm c = none ∧ endOf ts g c = none) ∧
    (∀ p', search ts g n st paper = .apart p' → (∀ c ∈ st, ∀ x, inC c x → dotT ts x ≠ g) ∧ ∃ ss, p' = paper ++ ss ∧ ss.length ≤ n ∧ readB ts g st ss = true)
  | n, [], paper, _ => by
    rw [search_nil]
    refine ⟨fun c h => (by cases h), fun p' h => ?_⟩
    cases h
    exact ⟨fun c hc => (by simp at hc), [], (List.append_nil _).symm, Nat.zero_le _, rfl⟩
  | 0, c :: st, paper, _ => by
    have e : search ts g 0 (c :: st) paper = .opn := by unfold search; rfl
    rw [e]
    exact ⟨fun c h => (by cases h), fun p' h => (by cases h)⟩
  | n + 1, c :: st, paper, hs => by
    have hc := hs c List.mem_cons_self
    have hl : c.length = ts.length := (sub_len hc).trans hW
    have hst : ∀ c' ∈ st, subC c' W := fun c' h => hs c' (List.mem_cons_of_mem _ h)
    cases e : endOf ts g c with
    | some z =>
      rw [search_end e]
      obtain ⟨i1, i2⟩ := search_sub hp hW n st (paper ++ [z]) hst
      refine ⟨i1, fun p' h => ?_⟩
      obtain ⟨j1, ss, j2, j3, j4⟩ := i2 p' h
      refine ⟨fun c' hc' x hx hg => ?_, z :: ss, ?_, Nat.succ_le_succ j3, ?_⟩
      · rcases List.mem_cons.mp hc' with q | q
        · rw [q] at hx
          rw [end_none hp hl hx hg] at e
          cases e
        · exact j1 c' q x hx hg
      · rw [j2, List.append_assoc]; rfl
      · have hz : isPart c z = false ∧ isEnd ts g c z = true := by
          unfold endOf at e
          split at e
          · cases e
            rename_i q
            exact ⟨rfl, decide_eq_true q⟩
          · split at e
            · cases e
              rename_i q
              exact ⟨rfl, decide_eq_true q⟩
            · split at e
              · cases e
                rename_i q
                refine ⟨rfl, ?_⟩
                show isRest ts g c (restOf ts c) = true
                unfold isRest
                rw [if_neg (by omega), if_neg, decide_eq_true q.2]
                intro z
                obtain ⟨p, hp1, hp2⟩ := List.any_eq_true.mp z
                rw [Bool.and_eq_true, decide_eq_true_eq, decide_eq_true_eq] at hp2
                exact hp2.2 (Int.emod_eq_zero_of_dvd (rest_dvd hp1 hp2.1))
              · cases e
        unfold readB
        rw [if_neg (by rw [hz.1]; decide), if_pos hz.2]
        exact j4
    | none =>
      cases ek : openTerm c with
      | none =>
        rw [search_hit e ek]
        refine ⟨fun c' h => ?_, fun p' h => (by cases h)⟩
        cases h
        exact ⟨hc, ek, e⟩
      | some k =>
        rw [search_cut e ek]
        obtain ⟨k1, _⟩ := open_at ek
        obtain ⟨p1, p2⟩ := part_at hp hl ek e
        obtain ⟨q1, q2⟩ := sub_parts hc k1 p1 p2
        obtain ⟨i1, i2⟩ := search_sub hp hW n (lower c k (partAt ts g c k) :: upper c k (partAt ts g c k) :: st) (paper ++ [.part k (partAt ts g c k)]) (fun c' hc' => by
          rcases List.mem_cons.mp hc' with z | z
          · rw [z]; exact q1
          · rcases List.mem_cons.mp z with z | z
            · rw [z]; exact q2
            · exact hst c' z)
        refine ⟨i1, fun p' h => ?_⟩
        obtain ⟨j1, ss, j2, j3, j4⟩ := i2 p' h
        refine ⟨fun c' hc' x hx hg => ?_, .part k (partAt ts g c k) :: ss, ?_, Nat.succ_le_succ j3, ?_⟩
        · rcases List.mem_cons.mp hc' with q | q
          · rw [q] at hx
            rcases part_cover (a := partAt ts g c k) k1 hx with y | y
            · exact j1 _ List.mem_cons_self x y hg
            · exact j1 _ (List.mem_cons_of_mem _ List.mem_cons_self) x y hg
          · exact j1 c' (List.mem_cons_of_mem _ (List.mem_cons_of_mem _ q)) x hx hg
        · rw [j2, List.append_assoc]; rfl
        · have hpt : isPart c (.part k (partAt ts g c k)) = true := by
            show (decide (k < c.length) && (decide (_ ≤ _) && decide (_ < _))) = true
            rw [decide_eq_true k1, decide_eq_true p1, decide_eq_true p2]
            rfl
          unfold readB
          rw [if_pos hpt, e]
          exact j4

/-! ### in time -/
def Done (ts : List T3) (g : Int) (c : List P2) (m : Nat) : Prop := ∀ (n : Nat) (st : List (List P2)) (paper : List Step), (∃ c', search ts g (m + n) (c :: st) paper = .shared c') ∨ ∃ n' paper', n ≤ n' ∧ search ts g (m + n) (c :: st) paper = search ts g n' st paper'
theorem Done.mono {ts : List T3} {g : Int} {c : List P2} {m m' : Nat} (h : Done ts g c m) (hm : m ≤ m') : Done ts g c m' := fun n st paper => by
  have e : m' + n = m + (m' - m + n) := by omega
  rw [e]
  rcases h (m' - m + n) st paper with z | ⟨n', paper', h1, h2⟩
  · exact .inl z
  · exact .inr ⟨n', paper', by omega, h2⟩
theorem done_end {ts : List T3} {g : Int} {c : List P2} {z : Step} (h : endOf ts g c = some z) : Done ts g c 1 := fun n st paper => by
  refine .inr ⟨n, paper ++ [z], Nat.le_refl _, ?_⟩
  rw [Nat.add_comm, search_end h]
theorem done_hit {ts : List T3} {g : Int} {c : List P2} (h : endOf ts g c = none) (h2 : openTerm c = none) : Done ts g c 1 := fun n st paper => .inl ⟨c, by rw [Nat.add_comm, search_hit h h2]⟩
theorem done_cut {ts : List T3} {g : Int} {c : List P2} {k m1 m2 : Nat} (h : endOf ts g c = none) (h2 : openTerm c = some k) (d1 : Done ts g (lower c k (partAt ts g c k)) m1) (d2 : Done ts g (upper c k (partAt ts g c k)) m2) : Done ts g c (1 + m1 + m2) := fun n st paper => by
  have e : 1 + m1 + m2 + n = (m1 + (m2 + n)) + 1 := by omega
  rw [e, search_cut h h2]
  rcases d1 (m2 + n) (upper c k (partAt ts g c k) :: st) (paper ++ [.part k (partAt ts g c k)]) with z | ⟨n1, p1, h3, h4⟩
  · exact .inl z
  rw [h4]
  have e2 : n1 = m2 + (n1 - m2) := by omega
  rw [e2]
  rcases d2 (n1 - m2) st p1 with z | ⟨n2, p2, h5, h6⟩
  · exact .inl z
  · exact .inr ⟨n2, p2, by omega, h6⟩
/-- the terms outgrow all that come behind -/
def SIt : List T3 → Prop
  | [] => True
  | t :: ts => 0 < t.1 ∧ t.2.1 ≤ t.2.2 ∧ greatestSum ts (wholeCase ts) - leastSum ts (wholeCase ts) < t.1 ∧ leastSum ts (wholeCase ts) ≤ greatestSum ts (wholeCase ts) ∧ SIt ts
theorem open_app : ∀ {cp : List P2} {p : P2} {c : List P2}, (∀ q ∈ cp, q.1 = q.2) → p.1 < p.2 → openTerm (cp ++ p :: c) = some cp.length
  | [], p, c, _, hp => by
    show openTerm (p :: c) = some 0
    unfold openTerm
    rw [if_pos hp]
  | q :: cp, p, c, h, hp => by
    rw [List.cons_append]
    unfold openTerm
    rw [if_neg (by have := h q List.mem_cons_self; omega), open_app (fun r hr => h r (List.mem_cons_of_mem _ hr)) hp]
    rfl
theorem closed_open : ∀ {cp : List P2}, (∀ q ∈ cp, q.1 = q.2) → openTerm cp = none
  | [], _ => rfl
  | q :: cp, h => by
    unfold openTerm
    rw [if_neg (by have := h q List.mem_cons_self; omega), closed_open fun r hr => h r (List.mem_cons_of_mem _ hr)]
    rfl
theorem closed_eq : ∀ {tp : List T3} {cp : List P2}, (∀ q ∈ cp, q.1 = q.2) → greatestSum tp cp = leastSum tp cp
  | [], cp, _ => by unfold greatestSum leastSum; rfl
  | t :: tp, [], _ => by unfold greatestSum leastSum; rfl
  | t :: tp, q :: cp, h => by
    rw [greatest_cons, least_cons, h q List.mem_cons_self, closed_eq fun r hr => h r (List.mem_cons_of_mem _ hr)]
theorem stage {g : Int} : ∀ (tr tp : List T3) (cp : List P2), cp.length = tp.length → (∀ q ∈ cp, q.1 = q.2) → SIt tr → Done (tp ++ tr) g (cp ++ wholeCase tr) (4 * tr.length + 1)
  | [], tp, cp, hl, hc, _ => by
    show Done (tp ++ []) g (cp ++ []) 1
    rw [List.append_nil, List.append_nil]
    cases e : endOf tp g cp with
    | some z => exact done_end e
    | none => exact done_hit e (closed_open hc)
  | t :: tr, tp, cp, hl, hc, ⟨ht, hle, hsi, hLU, hrest⟩ => by
    show Done (tp ++ t :: tr) g (cp ++ (t.2.1, t.2.2) :: wholeCase tr) (4 * (tr.length + 1) + 1)
    -- one value of this term
    have hM : ∀ v, Done (tp ++ t :: tr) g (cp ++ (v, v) :: wholeCase tr) (4 * tr.length + 1) := fun v => by
      have := stage (g := g) tr (tp ++ [t]) (cp ++ [(v, v)]) (by rw [List.length_append, List.length_append, hl]; rfl) (fun q hq => by
        rcases List.mem_append.mp hq with z | z
        · exact hc q z
        · rw [List.mem_singleton.mp z]) hrest
      rw [List.append_assoc, List.append_assoc] at this
      exact this
    generalize hw : wholeCase tr = W at *
    generalize hLd : leastSum tr W = L at *
    generalize hUd : greatestSum tr W = U at *
    generalize hSd : leastSum tp cp = S
    have hS2 : greatestSum tp cp = S := by rw [closed_eq hc, hSd]
    have eL : ∀ a b, leastSum (tp ++ t :: tr) (cp ++ (a, b) :: W) = S + (t.1 * a + L) := fun a b => by rw [least_app _ _ _ _ hl, least_cons, hSd, hLd]
    have eU : ∀ a b, greatestSum (tp ++ t :: tr) (cp ++ (a, b) :: W) = S + (t.1 * b + U) := fun a b => by rw [greatest_app _ _ _ _ hl, greatest_cons, hS2, hUd]
    have gt : (tp ++ t :: tr).getD cp.length (0, 0, 0) = t := by
      rw [hl, List.getD_eq_getElem?_getD, List.getElem?_append_right (Nat.le_refl _), Nat.sub_self]
      rfl
    have gc : ∀ p : P2, (cp ++ p :: W).getD cp.length (0, 0) = p := fun p => by
      rw [List.getD_eq_getElem?_getD, List.getElem?_append_right (Nat.le_refl _), Nat.sub_self]
      rfl
    have tk : ∀ p : P2, (cp ++ p :: W).take cp.length = cp := fun p => by rw [List.take_append_of_le_length (Nat.le_refl _), List.take_length]
    have dr : ∀ p : P2, (cp ++ p :: W).drop (cp.length + 1) = W := fun p => by
      rw [List.drop_append, List.drop_of_length_le (by omega), show cp.length + 1 - cp.length = 1 by omega]
      rfl
    have elo : ∀ (p : P2) (v : Int), lower (cp ++ p :: W) cp.length v = cp ++ (p.1, v) :: W := fun p v => by unfold lower; rw [gc, tk, dr]
    have eup : ∀ (p : P2) (v : Int), upper (cp ++ p :: W) cp.length v = cp ++ (v + 1, p.2) :: W := fun p v => by unfold upper; rw [gc, tk, dr]
    -- where it is cut
    generalize hl1 : 0 - (S + U - g) / t.1 = l
    generalize hm1 : (g - S - L) / t.1 = m
    have ept : ∀ a b, partAt (tp ++ t :: tr) g (cp ++ (a, b) :: W) cp.length = if a < l then l - 1 else if m < b then m else a := fun a b => by
      unfold partAt
      rw [gt, gc, eL, eU]
      show (if a < 0 - (S + (t.1 * b + U) - t.1 * b - g) / t.1 then _ else if (g - (S + (t.1 * a + L)) + t.1 * a) / t.1 < b then _ else _) = _
      rw [show S + (t.1 * b + U) - t.1 * b - g = S + U - g by omega, show g - (S + (t.1 * a + L)) + t.1 * a = g - S - L by omega, hl1, hm1]
    have f1 := Int.mul_ediv_self_le (x := S + U - g) (k := t.1) (by omega)
    have f2 := Int.lt_mul_ediv_self_add (x := S + U - g) ht
    have f3 := Int.mul_ediv_self_le (x := g - S - L) (k := t.1) (by omega)
    have f4 := Int.lt_mul_ediv_self_add (x := g - S - L) ht
    have g1 : t.1 * l = -(t.1 * ((S + U - g) / t.1)) := by rw [← hl1, Int.mul_sub, Int.mul_zero]; omega
    have g2 : t.1 * m = t.1 * ((g - S - L) / t.1) := by rw [hm1]
    have lt_of : ∀ x y : Int, t.1 * x < t.1 * y → x < y := fun x y h => Int.lt_of_mul_lt_mul_left h (Int.le_of_lt ht)
    have hml : m ≤ l := by
      have : m < l + 1 := lt_of m (l + 1) (by rw [Int.mul_add, Int.mul_one]; omega)
      omega
    have lowEnd : ∀ a b, g < S + (t.1 * a + L) → Done (tp ++ t :: tr) g (cp ++ (a, b) :: W) 1 := fun a b h => done_end (z := .low) (by unfold endOf; rw [eL, if_pos h])
    have highEnd : ∀ a b, S + (t.1 * b + U) < g → Done (tp ++ t :: tr) g (cp ++ (a, b) :: W) 1 := fun a b h => by
      by_cases h1 : g < S + (t.1 * a + L)
      · exact lowEnd a b h1
      · exact done_end (z := .high) (by unfold endOf; rw [eL, eU, if_neg h1, if_pos h])
    have notEnd : ∀ a b, endOf (tp ++ t :: tr) g (cp ++ (a, b) :: W) = none → S + (t.1 * a + L) ≤ g ∧ g ≤ S + (t.1 * b + U) := fun a b h => by
      have n1 : ¬ g < S + (t.1 * a + L) := fun z => by unfold endOf at h; rw [eL, if_pos z] at h; cases h
      have n2 : ¬ S + (t.1 * b + U) < g := fun z => by unfold endOf at h; rw [eL, eU, if_neg n1, if_pos z] at h; cases h
      omega
    have stB : ∀ a b, a < b → l ≤ a → Done (tp ++ t :: tr) g (cp ++ (a, b) :: W) (4 * tr.length + 1 + 2) := fun a b hab hla => by
      cases e : endOf (tp ++ t :: tr) g (cp ++ (a, b) :: W) with
      | some z => exact (done_end e).mono (by omega)
      | none =>
        obtain ⟨n1, n2⟩ := notEnd a b e
        have ham : a < m + 1 := lt_of a (m + 1) (by rw [Int.mul_add, Int.mul_one]; omega)
        have ea : m = a := by omega
        have ep : partAt (tp ++ t :: tr) g (cp ++ (a, b) :: W) cp.length = a := by rw [ept, if_neg (by omega), if_pos (by omega), ea]
        have d := done_cut (m1 := 4 * tr.length + 1) (m2 := 1) e (open_app hc hab) (by rw [ep, elo]; exact hM a) (by
          rw [ep, eup]
          refine lowEnd _ _ ?_
          rw [Int.mul_add, Int.mul_one]
          rw [ea] at g2
          omega)
        exact d.mono (by omega)
    by_cases hab : t.2.1 < t.2.2
    · by_cases hal : t.2.1 < l
      · cases e : endOf (tp ++ t :: tr) g (cp ++ (t.2.1, t.2.2) :: W) with
        | some z => exact (done_end e).mono (by omega)
        | none =>
          obtain ⟨n1, n2⟩ := notEnd _ _ e
          have hlb : l - 1 < t.2.2 := lt_of (l - 1) t.2.2 (by rw [Int.mul_sub, Int.mul_one]; omega)
          have ep : partAt (tp ++ t :: tr) g (cp ++ (t.2.1, t.2.2) :: W) cp.length = l - 1 := by rw [ept, if_pos hal]
          have d := done_cut (m1 := 1) (m2 := 4 * tr.length + 1 + 2) e (open_app hc hab) (by
            rw [ep, elo]
            refine highEnd _ _ ?_
            rw [Int.mul_sub, Int.mul_one]
            omega) (by
            rw [ep, eup, show l - 1 + 1 = l by omega]
            show Done _ g (cp ++ (l, t.2.2) :: W) _
            by_cases hlb2 : l = t.2.2
            · rw [← hlb2]
              exact (hM l).mono (by omega)
            · exact stB l t.2.2 (by omega) (Int.le_refl l))
          exact d.mono (by omega)
      · exact (stB _ _ hab (by omega)).mono (by omega)
    · have e : t.2.2 = t.2.1 := by omega
      rw [e]
      exact (hM t.2.1).mono (by omega)
theorem SIt.pos : ∀ {ts : List T3}, SIt ts → Pos ts
  | [], _ => fun t ht => by simp at ht
  | t :: ts, h => fun u hu => by
    rcases List.mem_cons.mp hu with e | e
    · rw [e]; exact h.1
    · exact SIt.pos h.2.2.2.2 u e
theorem whole_sub : ∀ {ts : List T3}, SIt ts → subC (wholeCase ts) (wholeCase ts)
  | [], _ => trivial
  | t :: ts, h => ⟨Int.le_refl _, h.2.1, Int.le_refl _, whole_sub h.2.2.2.2⟩
/-- the search ends: shared, or apart -/
theorem search_ok {ts : List T3} {g : Int} {n : Nat} (h : SIt ts) (hn : 4 * ts.length + 1 ≤ n) :
    (∃ c, search ts g n [wholeCase ts] [] = .shared c ∧ c.length = ts.length ∧ inC (wholeCase ts) (c.map (·.1)) ∧ dotT ts (c.map (·.1)) = g) ∨
    (∃ paper, search ts g n [wholeCase ts] [] = .apart paper ∧ paper.length ≤ n ∧ readB ts g [wholeCase ts] paper = true ∧ ∀ x, inC (wholeCase ts) x → dotT ts x ≠ g) := by
  have hW : (wholeCase ts).length = ts.length := List.length_map _
  obtain ⟨i1, i2⟩ := search_sub (g := g) h.pos hW n [wholeCase ts] [] (fun c hc => by rw [List.mem_singleton.mp hc]; exact whole_sub h)
  have hd : Done ts g (wholeCase ts) n := (stage (g := g) ts [] [] rfl (fun q hq => by simp at hq) h).mono hn
  have ap : ∀ p', search ts g n [wholeCase ts] [] = .apart p' → (∃ paper, search ts g n [wholeCase ts] [] = .apart paper ∧ paper.length ≤ n ∧ readB ts g [wholeCase ts] paper = true ∧ ∀ x, inC (wholeCase ts) x → dotT ts x ≠ g) := fun p' e => by
    obtain ⟨j1, ss, j2, j3, j4⟩ := i2 p' e
    rw [List.nil_append] at j2
    rw [j2] at e
    exact ⟨ss, e, j3, j4, fun x hx => j1 _ List.mem_cons_self x hx⟩
  rcases hd 0 [] [] with ⟨c, e⟩ | ⟨n', p', _, e⟩
  · rw [Nat.add_zero] at e
    obtain ⟨k1, k2, k3⟩ := i1 c e
    have hl := (sub_len k1).trans hW
    obtain ⟨s1, s2⟩ := closed_sums (ts := ts) k1 k2 hl
    refine .inl ⟨c, e, hl, closed_in k1 k2, ?_⟩
    rw [s1]
    have n1 : ¬ g < leastSum ts c := fun z => by unfold endOf at k3; rw [if_pos z] at k3; cases k3
    have n2 : ¬ greatestSum ts c < g := fun z => by unfold endOf at k3; rw [if_neg n1, if_pos z] at k3; cases k3
    omega
  · rw [Nat.add_zero, search_nil] at e
    exact .inr (ap p' e)
end Pm

set_option Elab.async false
set_option linter.all false
set_option maxHeartbeats 1000000
/-! Two views over the same paces: their terms, their places. -/
namespace Pm
open Pc

structure Qx where
  t : Int
  m1 : Int
  w1 : Int
  m2 : Int
  w2 : Int
def Qx.Ok (q : Qx) : Prop := 0 < q.t ∧ 1 ≤ q.m1 ∧ 1 ≤ q.m2 ∧ (q.w1 = 1 ∨ q.w1 = -1) ∧ (q.w2 = 1 ∨ q.w2 = -1)
def Qx.a1 (q : Qx) : P2 := (q.m1, q.w1 * q.t)
def Qx.a2 (q : Qx) : P2 := (q.m2, q.w2 * q.t)
def Qx.pres (q : Qx) : Bool := decide (1 < q.m1) || decide (1 < q.m2)
def Qx.lo (q : Qx) : Int := (if q.w1 < 0 then -(q.m1 - 1) else 0) + (if 0 < q.w2 then -(q.m2 - 1) else 0)
def Qx.hi (q : Qx) : Int := (if 0 < q.w1 then q.m1 - 1 else 0) + (if q.w2 < 0 then q.m2 - 1 else 0)
def Qx.wd (q : Qx) : Int := (q.m1 - 1) + (q.m2 - 1)
def Qx.T (q : Qx) : T3 := (q.t, q.lo, q.hi)
def W (Y : List Qx) : Int := (Y.map fun q => q.wd * q.t).sum
def SIq : List Qx → Prop
  | [] => True
  | q :: Y => q.Ok ∧ (q.pres = true → W Y < q.t) ∧ SIq Y
theorem W_cons (q : Qx) (Y : List Qx) : W (q :: Y) = q.wd * q.t + W Y := by
  unfold W
  rw [List.map_cons, List.sum_cons]
theorem wd_eq {q : Qx} (h : q.Ok) : q.hi - q.lo = q.wd := by
  obtain ⟨_, _, _, h1, h2⟩ := h
  unfold Qx.hi Qx.lo Qx.wd
  rcases h1 with h1 | h1 <;> rcases h2 with h2 | h2 <;> rw [h1, h2] <;> simp <;> omega
theorem lo_hi {q : Qx} (h : q.Ok) : q.lo ≤ 0 ∧ 0 ≤ q.hi := by
  obtain ⟨_, h3, h4, h1, h2⟩ := h
  unfold Qx.hi Qx.lo
  rcases h1 with h1 | h1 <;> rcases h2 with h2 | h2 <;> rw [h1, h2] <;> simp <;> omega
theorem not_pres {q : Qx} (h : q.Ok) (hp : q.pres = false) : q.m1 = 1 ∧ q.m2 = 1 ∧ q.wd = 0 ∧ q.lo = 0 ∧ q.hi = 0 := by
  unfold Qx.pres at hp
  rw [Bool.or_eq_false_iff, decide_eq_false_iff_not, decide_eq_false_iff_not] at hp
  obtain ⟨_, h3, h4, _, _⟩ := id h
  have h1 : q.m1 = 1 := by omega
  have h2 : q.m2 = 1 := by omega
  have hw : q.wd = 0 := by unfold Qx.wd; omega
  have := wd_eq h
  have := lo_hi h
  exact ⟨h1, h2, hw, by omega, by omega⟩
theorem pres_wd {q : Qx} (h : q.Ok) (hp : q.pres = true) : 1 ≤ q.wd := by
  unfold Qx.pres at hp
  rw [Bool.or_eq_true, decide_eq_true_eq, decide_eq_true_eq] at hp
  obtain ⟨_, h3, h4, _, _⟩ := h
  unfold Qx.wd
  omega
theorem wd_nonneg {q : Qx} (h : q.Ok) : 0 ≤ q.wd := by
  obtain ⟨_, h3, h4, _, _⟩ := h
  unfold Qx.wd
  omega
theorem SIq.ok : ∀ {Y : List Qx}, SIq Y → ∀ q ∈ Y, q.Ok
  | [], _, q, h => by simp at h
  | p :: Y, h, q, hq => by
    rcases List.mem_cons.mp hq with e | e
    · rw [e]; exact h.1
    · exact SIq.ok h.2.2 q e
theorem W_nonneg : ∀ {Y : List Qx}, SIq Y → 0 ≤ W Y
  | [], _ => Int.le_refl 0
  | q :: Y, h => by
    rw [W_cons]
    have := W_nonneg h.2.2
    have := Int.mul_nonneg (wd_nonneg h.1) (Int.le_of_lt h.1.1)
    omega
theorem W_ge : ∀ {Y : List Qx}, SIq Y → ∀ q ∈ Y, q.pres = true → q.t ≤ W Y
  | [], _, q, h, _ => by simp at h
  | p :: Y, h, q, hq, hp => by
    rw [W_cons]
    rcases List.mem_cons.mp hq with e | e
    · subst e
      have h1 := Int.mul_le_mul_of_nonneg_right (pres_wd h.1 hp) (Int.le_of_lt h.1.1)
      have := W_nonneg h.2.2
      omega
    · have := W_ge h.2.2 q e hp
      have := Int.mul_nonneg (wd_nonneg h.1) (Int.le_of_lt h.1.1)
      omega
theorem SIq.desc : ∀ {Y : List Qx}, SIq Y → Y.Pairwise (fun a b => a.pres = true → b.pres = true → b.t < a.t)
  | [], _ => List.Pairwise.nil
  | q :: Y, h => List.pairwise_cons.mpr ⟨fun y hy hq hp => by
      have := W_ge h.2.2 y hy hp
      have := h.2.1 hq
      omega, SIq.desc h.2.2⟩
/-- all but one are of other paces -/
theorem SIq.split {Y : List Qx} (h : SIq Y) {q : Qx} (hq : q ∈ Y) (hp : q.pres = true) : ∃ Y1 Y2, Y = Y1 ++ q :: Y2 ∧ ∀ y, y ∈ Y1 ∨ y ∈ Y2 → y.pres = true → y.t ≠ q.t := by
  obtain ⟨Y1, Y2, e⟩ := List.append_of_mem hq
  refine ⟨Y1, Y2, e, fun y hy hyp z => ?_⟩
  have hd := h.desc
  rw [e, List.pairwise_append, List.pairwise_cons] at hd
  obtain ⟨_, ⟨h2, _⟩, h3⟩ := hd
  rcases hy with hy | hy
  · have := h3 y hy q List.mem_cons_self hyp hp
    omega
  · have := h2 y hy hp hyp
    omega

/-! ### what is gathered -/
def ctr (sg t : Int) : P2 → List P2 → P2
  | p, [] => p
  | p, a :: L => ctr sg t (if a.2 ≠ 0 ∧ iabs a.2 = t then (if 0 < sg * a.2 then (p.1, p.2 + (a.1 - 1)) else (p.1 - (a.1 - 1), p.2)) else p) L
def ctr1 (sg t : Int) (p a : P2) : P2 := if a.2 ≠ 0 ∧ iabs a.2 = t then (if 0 < sg * a.2 then (p.1, p.2 + (a.1 - 1)) else (p.1 - (a.1 - 1), p.2)) else p
theorem ctr_cons (sg t : Int) (p a : P2) (L : List P2) : ctr sg t p (a :: L) = ctr sg t (ctr1 sg t p a) L := rfl
theorem ctr_app (sg t : Int) : ∀ (L1 L2 : List P2) (p : P2), ctr sg t p (L1 ++ L2) = ctr sg t (ctr sg t p L1) L2
  | [], _, _ => rfl
  | a :: L1, L2, p => ctr_app sg t L1 L2 _
theorem ctr_none (sg t : Int) : ∀ (L : List P2) (p : P2), (∀ a ∈ L, a.2 ≠ 0 → iabs a.2 ≠ t) → ctr sg t p L = p
  | [], _, _ => rfl
  | a :: L, p, h => by
    unfold ctr
    rw [if_neg fun z => h a List.mem_cons_self z.1 z.2]
    exact ctr_none sg t L p fun b hb => h b (List.mem_cons_of_mem _ hb)
theorem iabs_sg {sg p : Int} (h : sg = 1 ∨ sg = -1) : iabs (sg * p) = iabs p := by
  unfold iabs
  rcases h with h | h
  · rw [h, Int.one_mul]
  · rw [h, show (-1 : Int) * p = -p by omega]
    split <;> split <;> omega
theorem look_widenAll {sg : Int} (h : sg = 1 ∨ sg = -1) (t : Int) : ∀ (L : List P2) (r : Rg), (look (widenAll sg r L) t).getD (0, 0) = ctr sg t ((look r t).getD (0, 0)) L
  | [], r => rfl
  | a :: L, r => by
    unfold widenAll ctr
    rw [look_widenAll h t L]
    congr 1
    by_cases h0 : a.2 ≠ 0
    · rw [if_pos h0]
      unfold widen
      rw [iabs_sg h, look_put]
      by_cases ht : iabs a.2 = t
      · rw [if_pos ht.symm, if_pos (show a.2 ≠ 0 ∧ iabs a.2 = t from ⟨h0, ht⟩), ht]
        rfl
      · rw [if_neg fun z => ht z.symm, if_neg fun z => ht z.2]
    · rw [if_neg h0, if_neg fun z => h0 z.1]
theorem mem_put {α : Type} (r : List (Int × α)) (k j : Int) (v : α) : j ∈ (put r k v).map (·.1) ↔ j = k ∨ j ∈ r.map (·.1) := by
  rw [put_keys]
  split
  · rename_i h
    obtain ⟨y, hy, ey⟩ := List.any_eq_true.mp h
    refine ⟨.inr, fun z => ?_⟩
    rcases z with z | z
    · rw [z]
      exact List.mem_map.mpr ⟨y, hy, of_decide_eq_true ey⟩
    · exact z
  · rw [List.mem_append, List.mem_singleton]
    exact ⟨fun z => z.symm, fun z => z.symm⟩
theorem nd_put {α : Type} {r : List (Int × α)} (k : Int) (v : α) (h : (r.map (·.1)).Nodup) : ((put r k v).map (·.1)).Nodup := by
  rw [put_keys]
  split
  · exact h
  · rename_i hn
    rw [List.nodup_append]
    refine ⟨h, List.nodup_cons.mpr ⟨by simp, List.nodup_nil⟩, fun a ha b hb => ?_⟩
    rw [List.mem_singleton.mp hb]
    intro z
    obtain ⟨y, hy, ey⟩ := List.mem_map.mp ha
    exact hn (List.any_eq_true.mpr ⟨y, hy, decide_eq_true (ey.trans z)⟩)
theorem mem_widenAll {sg : Int} (h : sg = 1 ∨ sg = -1) (t : Int) : ∀ (L : List P2) (r : Rg), t ∈ (widenAll sg r L).map (·.1) ↔ t ∈ r.map (·.1) ∨ ∃ a ∈ L, a.2 ≠ 0 ∧ iabs a.2 = t
  | [], r => by simp [widenAll]
  | a :: L, r => by
    unfold widenAll
    rw [mem_widenAll h t L]
    by_cases h0 : a.2 ≠ 0
    · rw [if_pos h0]
      unfold widen
      rw [mem_put, iabs_sg h]
      constructor
      · rintro ((z | z) | ⟨b, hb, z⟩)
        · exact .inr ⟨a, List.mem_cons_self, h0, z.symm⟩
        · exact .inl z
        · exact .inr ⟨b, List.mem_cons_of_mem _ hb, z⟩
      · rintro (z | ⟨b, hb, z⟩)
        · exact .inl (.inr z)
        · rcases List.mem_cons.mp hb with e | e
          · rw [e] at z
            exact .inl (.inl z.2.symm)
          · exact .inr ⟨b, e, z⟩
    · rw [if_neg h0]
      constructor
      · rintro (z | ⟨b, hb, z⟩)
        · exact .inl z
        · exact .inr ⟨b, List.mem_cons_of_mem _ hb, z⟩
      · rintro (z | ⟨b, hb, z⟩)
        · exact .inl z
        · rcases List.mem_cons.mp hb with e | e
          · rw [e] at z
            exact absurd z.1 h0
          · exact .inr ⟨b, e, z⟩
theorem nd_widenAll {sg : Int} : ∀ (L : List P2) (r : Rg), (r.map (·.1)).Nodup → ((widenAll sg r L).map (·.1)).Nodup
  | [], r, h => h
  | a :: L, r, h => by
    unfold widenAll
    refine nd_widenAll L _ ?_
    split
    · exact nd_put _ _ h
    · exact h
/-- the two views -/
def vA (Y : List Qx) : List P2 := Y.map fun q => keptA q.a1
def vB (Y : List Qx) : List P2 := Y.map fun q => keptA q.a2
theorem iabs_w {w t : Int} (h : w = 1 ∨ w = -1) (ht : 0 < t) : iabs (w * t) = t := by
  rw [iabs_sg h]
  unfold iabs
  rw [if_neg (by omega)]
theorem w_ne {w t : Int} (h : w = 1 ∨ w = -1) (ht : 0 < t) : w * t ≠ 0 := by
  rcases h with h | h <;> rw [h] <;> omega
theorem kept1 {q : Qx} (h : q.Ok) : ((keptA q.a1).2 ≠ 0 ↔ 1 < q.m1) ∧ ((keptA q.a1).2 ≠ 0 → iabs (keptA q.a1).2 = q.t) := by
  obtain ⟨h0, h1, h2, h3, h4⟩ := h
  unfold keptA Qx.a1
  by_cases e : q.m1 = 1
  · simp only [e, if_pos]
    exact ⟨⟨fun z => absurd rfl z, fun z => by omega⟩, fun z => absurd rfl z⟩
  · simp only [e, if_neg]
    exact ⟨⟨fun _ => by omega, fun _ => w_ne h3 h0⟩, fun _ => iabs_w h3 h0⟩
theorem kept2 {q : Qx} (h : q.Ok) : ((keptA q.a2).2 ≠ 0 ↔ 1 < q.m2) ∧ ((keptA q.a2).2 ≠ 0 → iabs (keptA q.a2).2 = q.t) := by
  obtain ⟨h0, h1, h2, h3, h4⟩ := h
  unfold keptA Qx.a2
  by_cases e : q.m2 = 1
  · simp only [e, if_pos]
    exact ⟨⟨fun z => absurd rfl z, fun z => by omega⟩, fun z => absurd rfl z⟩
  · simp only [e, if_neg]
    exact ⟨⟨fun _ => by omega, fun _ => w_ne h4 h0⟩, fun _ => iabs_w h4 h0⟩
theorem pres1 {q : Qx} (h : 1 < q.m1) : q.pres = true := by
  unfold Qx.pres
  rw [decide_eq_true h]
  rfl
theorem pres2 {q : Qx} (h : 1 < q.m2) : q.pres = true := by
  unfold Qx.pres
  rw [decide_eq_true h, Bool.or_true]
theorem gath_keys {Y : List Qx} (h : SIq Y) (t : Int) : t ∈ (gath (vA Y) (vB Y)).map (·.1) ↔ ∃ q ∈ Y, q.pres = true ∧ q.t = t := by
  unfold gath
  rw [mem_widenAll (.inr rfl), mem_widenAll (.inl rfl)]
  constructor
  · rintro ((z | ⟨a, ha, h1, h2⟩) | ⟨a, ha, h1, h2⟩)
    · simp at z
    · obtain ⟨q, hq, rfl⟩ := List.mem_map.mp ha
      have k := kept1 (h.ok q hq)
      exact ⟨q, hq, pres1 (k.1.mp h1), (k.2 h1).symm.trans h2⟩
    · obtain ⟨q, hq, rfl⟩ := List.mem_map.mp ha
      have k := kept2 (h.ok q hq)
      exact ⟨q, hq, pres2 (k.1.mp h1), (k.2 h1).symm.trans h2⟩
  · rintro ⟨q, hq, hp, rfl⟩
    have k1 := kept1 (h.ok q hq)
    have k2 := kept2 (h.ok q hq)
    unfold Qx.pres at hp
    rw [Bool.or_eq_true, decide_eq_true_eq, decide_eq_true_eq] at hp
    rcases hp with hp | hp
    · exact .inl (.inr ⟨_, List.mem_map.mpr ⟨q, hq, rfl⟩, k1.1.mpr hp, k1.2 (k1.1.mpr hp)⟩)
    · exact .inr ⟨_, List.mem_map.mpr ⟨q, hq, rfl⟩, k2.1.mpr hp, k2.2 (k2.1.mpr hp)⟩
theorem gath_look {Y : List Qx} (h : SIq Y) {q : Qx} (hq : q ∈ Y) (hp : q.pres = true) : (look (gath (vA Y) (vB Y)) q.t).getD (0, 0) = (q.lo, q.hi) := by
  have ok := h.ok q hq
  obtain ⟨Y1, Y2, e, hn⟩ := h.split hq hp
  have o1 : ∀ y, y ∈ Y1 ∨ y ∈ Y2 → y.Ok := fun y hy => h.ok y (by
    rw [e]
    rcases hy with z | z
    · exact List.mem_append_left _ z
    · exact List.mem_append_right _ (List.mem_cons_of_mem _ z))
  have n1 : ∀ y, y ∈ Y1 ∨ y ∈ Y2 → (keptA y.a1).2 ≠ 0 → iabs (keptA y.a1).2 ≠ q.t := fun y hy h0 z => by
    have k := kept1 (o1 y hy)
    exact hn y hy (pres1 (k.1.mp h0)) ((k.2 h0).symm.trans z)
  have n2 : ∀ y, y ∈ Y1 ∨ y ∈ Y2 → (keptA y.a2).2 ≠ 0 → iabs (keptA y.a2).2 ≠ q.t := fun y hy h0 z => by
    have k := kept2 (o1 y hy)
    exact hn y hy (pres2 (k.1.mp h0)) ((k.2 h0).symm.trans z)
  have eA : vA Y = (Y1.map fun q => keptA q.a1) ++ keptA q.a1 :: (Y2.map fun q => keptA q.a1) := by unfold vA; rw [e, List.map_append, List.map_cons]
  have eB : vB Y = (Y1.map fun q => keptA q.a2) ++ keptA q.a2 :: (Y2.map fun q => keptA q.a2) := by unfold vB; rw [e, List.map_append, List.map_cons]
  have mk1 : ∀ L : List Qx, (∀ y ∈ L, y ∈ Y1 ∨ y ∈ Y2) → ∀ a ∈ L.map (fun q : Qx => keptA q.a1), a.2 ≠ 0 → iabs a.2 ≠ q.t := fun L hL a ha => by
    obtain ⟨y, hy, rfl⟩ := List.mem_map.mp ha
    exact n1 y (hL y hy)
  have mk2 : ∀ L : List Qx, (∀ y ∈ L, y ∈ Y1 ∨ y ∈ Y2) → ∀ a ∈ L.map (fun q : Qx => keptA q.a2), a.2 ≠ 0 → iabs a.2 ≠ q.t := fun L hL a ha => by
    obtain ⟨y, hy, rfl⟩ := List.mem_map.mp ha
    exact n2 y (hL y hy)
  unfold gath
  rw [look_widenAll (.inr rfl), look_widenAll (.inl rfl), eA, eB, ctr_app, ctr_app, ctr_none 1 q.t _ _ (mk1 Y1 fun y hy => .inl hy), ctr_none (-1) q.t _ _ (mk2 Y1 fun y hy => .inl hy)]
  rw [ctr_cons, ctr_cons, ctr_none 1 q.t _ _ (mk1 Y2 fun y hy => .inr hy), ctr_none (-1) q.t _ _ (mk2 Y2 fun y hy => .inr hy)]
  have k1 := kept1 ok
  have k2 := kept2 ok
  obtain ⟨h0, h1, h2, h3, h4⟩ := ok
  have c1 : ctr1 1 q.t ((look ([] : Rg) q.t).getD (0, 0)) (keptA q.a1) = ((if q.w1 < 0 then -(q.m1 - 1) else 0), (if 0 < q.w1 then q.m1 - 1 else 0)) := by
    show (if (keptA q.a1).2 ≠ 0 ∧ iabs (keptA q.a1).2 = q.t then (if 0 < 1 * (keptA q.a1).2 then ((0 : Int), (0 : Int) + ((keptA q.a1).1 - 1)) else ((0 : Int) - ((keptA q.a1).1 - 1), (0 : Int))) else ((0 : Int), (0 : Int))) = _
    by_cases hm : 1 < q.m1
    · have hk := k1.1.mpr hm
      have e1 : keptA q.a1 = q.a1 := if_neg (by show ¬ q.m1 = 1; omega)
      rw [if_pos ⟨hk, k1.2 hk⟩, e1]
      unfold Qx.a1
      rcases h3 with h3 | h3 <;> rw [h3]
      · rw [if_pos (show 0 < 1 * (1 * q.t) by omega), if_neg (by decide), if_pos (by decide)]
        show ((0 : Int), 0 + (q.m1 - 1)) = _
        rw [Int.zero_add]
      · rw [if_neg (show ¬ 0 < 1 * (-1 * q.t) by omega), if_pos (by decide), if_neg (by decide)]
        show ((0 : Int) - (q.m1 - 1), (0 : Int)) = _
        rw [Int.zero_sub]
    · have em : q.m1 = 1 := by omega
      rw [if_neg fun z => hm (k1.1.mp z.1), em]
      simp
  rw [c1]
  unfold ctr1
  by_cases hm : 1 < q.m2
  · have hk := k2.1.mpr hm
    have e1 : keptA q.a2 = q.a2 := if_neg (by show ¬ q.m2 = 1; omega)
    rw [if_pos ⟨hk, k2.2 hk⟩, e1]
    unfold Qx.a2 Qx.lo Qx.hi
    rcases h4 with h4 | h4 <;> rw [h4]
    · rw [if_neg (show ¬ 0 < -1 * (1 * q.t) by omega), if_pos (show (0 : Int) < 1 by decide), if_neg (show ¬ (1 : Int) < 0 by decide)]
      refine Prod.ext ?_ ?_
      · show _ - (q.m2 - 1) = _ + -(q.m2 - 1)
        omega
      · show _ = _ + (0 : Int)
        omega
    · rw [if_pos (show 0 < -1 * (-1 * q.t) by omega), if_neg (show ¬ (0 : Int) < -1 by decide), if_pos (show (-1 : Int) < 0 by decide)]
      refine Prod.ext ?_ ?_
      · show _ = _ + (0 : Int)
        omega
      · rfl
  · have em : q.m2 = 1 := by omega
    rw [if_neg fun z => hm (k2.1.mp z.1)]
    unfold Qx.lo Qx.hi
    rw [em]
    refine Prod.ext ?_ ?_
    · show _ = _ + (if 0 < q.w2 then -((1 : Int) - 1) else 0)
      split <;> omega
    · show _ = _ + (if q.w2 < 0 then ((1 : Int) - 1) else 0)
      split <;> omega
def tsOf (Y : List Qx) : List T3 := (Y.filter (·.pres)).map (·.T)
theorem desc_keys {Y : List Qx} (h : SIq Y) : ((Y.filter (·.pres)).map (·.t)).Pairwise (· > ·) := by
  rw [List.pairwise_map]
  refine List.Pairwise.imp_of_mem (R := fun a b => a.pres = true → b.pres = true → b.t < a.t) (fun {a b} ha hb hab => ?_) (h.desc.sublist List.filter_sublist)
  exact hab (List.mem_filter.mp ha).2 (List.mem_filter.mp hb).2
theorem terms_eq {Y : List Qx} (h : SIq Y) : terms (vA Y) (vB Y) = tsOf Y := by
  have hd := desc_keys h
  have hk : sortD ((gath (vA Y) (vB Y)).map (·.1)) = (Y.filter (·.pres)).map (·.t) := by
    refine desc_same ?_ (sortD_desc _) (hd.imp fun h => Int.le_of_lt h)
    refine (sortD_perm _).trans ?_
    rw [List.perm_ext_iff_of_nodup]
    · intro t
      rw [gath_keys h, List.mem_map]
      constructor
      · rintro ⟨q, hq, hp, e⟩
        exact ⟨q, List.mem_filter.mpr ⟨hq, hp⟩, e⟩
      · rintro ⟨q, hq, e⟩
        exact ⟨q, (List.mem_filter.mp hq).1, (List.mem_filter.mp hq).2, e⟩
    · exact nd_widenAll _ _ (nd_widenAll _ _ List.nodup_nil)
    · exact hd.imp fun h z => by omega
  unfold terms termsOf tsOf
  rw [hk, List.map_map]
  refine List.map_congr_left fun q hq => ?_
  obtain ⟨h1, h2⟩ := List.mem_filter.mp hq
  show (q.t, _) = (q.t, q.lo, q.hi)
  rw [gath_look h h1 h2]
theorem ts_sums : ∀ {Y : List Qx}, SIq Y → greatestSum (tsOf Y) (wholeCase (tsOf Y)) - leastSum (tsOf Y) (wholeCase (tsOf Y)) = W Y ∧ SIt (tsOf Y)
  | [], _ => ⟨rfl, trivial⟩
  | q :: Y, h => by
    obtain ⟨i1, i2⟩ := ts_sums h.2.2
    have hw := W_nonneg h.2.2
    rw [W_cons]
    cases hp : q.pres with
    | false =>
      have e : tsOf (q :: Y) = tsOf Y := by unfold tsOf; rw [List.filter_cons, if_neg (by rw [hp]; decide)]
      rw [e, (not_pres h.1 hp).2.2.1, Int.zero_mul, Int.zero_add]
      exact ⟨i1, i2⟩
    | true =>
      have e : tsOf (q :: Y) = q.T :: tsOf Y := by unfold tsOf; rw [List.filter_cons, if_pos hp]; rfl
      have ew : wholeCase (q.T :: tsOf Y) = (q.lo, q.hi) :: wholeCase (tsOf Y) := rfl
      rw [e, ew, greatest_cons, least_cons]
      show q.t * q.hi + _ - (q.t * q.lo + _) = _ ∧ _
      have e2 : q.wd * q.t = q.t * q.hi - q.t * q.lo := by rw [← Int.mul_sub, wd_eq h.1, Int.mul_comm]
      refine ⟨by omega, ?_⟩
      have := lo_hi h.1
      refine ⟨h.1.1, by show q.lo ≤ q.hi; omega, ?_, by omega, i2⟩
      rw [i1]
      exact h.2.1 hp

/-! ### what is sought, over the two views -/
abbrev Zs := List (Qx × Int)
def inZ (Z : Zs) : Prop := ∀ p ∈ Z, p.1.lo ≤ p.2 ∧ p.2 ≤ p.1.hi
def dotZ (Z : Zs) : Int := (Z.map fun p => p.1.t * p.2).sum
def Sol (Y : List Qx) (g : Int) : Prop := ∃ Z : Zs, Z.map (·.1) = Y ∧ inZ Z ∧ dotZ Z = g
theorem sol_to : ∀ {Z : Zs}, SIq (Z.map (·.1)) → inZ Z → ∃ x, inC (wholeCase (tsOf (Z.map (·.1)))) x ∧ dotT (tsOf (Z.map (·.1))) x = dotZ Z
  | [], _, _ => ⟨[], trivial, rfl⟩
  | p :: Z, h, hi => by
    obtain ⟨x, h1, h2⟩ := sol_to (Z := Z) h.2.2 fun q hq => hi q (List.mem_cons_of_mem _ hq)
    have hp0 := hi p List.mem_cons_self
    have ed : dotZ (p :: Z) = p.1.t * p.2 + dotZ Z := by unfold dotZ; rw [List.map_cons, List.sum_cons]
    rw [ed, List.map_cons]
    cases hp : p.1.pres with
    | false =>
      have e : tsOf (p.1 :: Z.map (·.1)) = tsOf (Z.map (·.1)) := by unfold tsOf; rw [List.filter_cons, if_neg (by rw [hp]; decide)]
      obtain ⟨_, _, _, e1, e2⟩ := not_pres (q := p.1) h.1 hp
      have e3 : p.2 = 0 := by omega
      rw [e, e3, Int.mul_zero, Int.zero_add]
      exact ⟨x, h1, h2⟩
    | true =>
      have e : tsOf (p.1 :: Z.map (·.1)) = p.1.T :: tsOf (Z.map (·.1)) := by unfold tsOf; rw [List.filter_cons, if_pos hp]; rfl
      rw [e]
      refine ⟨p.2 :: x, ⟨hp0.1, hp0.2, h1⟩, ?_⟩
      show p.1.t * p.2 + _ = _
      rw [h2]
/-- the numbers of a case, given back to the axes -/
def Agrees (nums : List (Int × Int)) (Z : Zs) : Prop := ∀ p ∈ Z, p.1.pres = true → look nums p.1.t = some p.2
theorem sol_of : ∀ {Y : List Qx} {x : List Int}, SIq Y → inC (wholeCase (tsOf Y)) x → ∃ Z : Zs, Z.map (·.1) = Y ∧ inZ Z ∧ dotZ Z = dotT (tsOf Y) x ∧ ((Z.filter (·.1.pres)).map fun p => (p.1.t, p.2)) = ((tsOf Y).zip x).map fun p => (p.1.1, p.2)
  | [], [], _, _ => ⟨[], rfl, fun p hp => (by simp at hp), rfl, rfl⟩
  | q :: Y, x, h, hx => by
    cases hp : q.pres with
    | false =>
      have e : tsOf (q :: Y) = tsOf Y := by unfold tsOf; rw [List.filter_cons, if_neg (by rw [hp]; decide)]
      rw [e] at hx ⊢
      obtain ⟨Z, h1, h2, h3, h4⟩ := sol_of h.2.2 hx
      obtain ⟨_, _, _, e1, e2⟩ := not_pres h.1 hp
      refine ⟨(q, 0) :: Z, by rw [List.map_cons, h1], fun p hp => ?_, ?_, ?_⟩
      · rcases List.mem_cons.mp hp with z | z
        · rw [z]
          show q.lo ≤ 0 ∧ 0 ≤ q.hi
          omega
        · exact h2 p z
      · unfold dotZ
        rw [List.map_cons, List.sum_cons]
        show q.t * 0 + dotZ Z = _
        rw [Int.mul_zero, Int.zero_add, h3]
      · rw [List.filter_cons, if_neg (by show ¬ q.pres = true; rw [hp]; decide), h4]
    | true =>
      have e : tsOf (q :: Y) = q.T :: tsOf Y := by unfold tsOf; rw [List.filter_cons, if_pos hp]; rfl
      rw [e] at hx ⊢
      cases x with
      | nil => exact hx.elim
      | cons v x =>
        obtain ⟨b1, b2, b3⟩ := hx
        obtain ⟨Z, h1, h2, h3, h4⟩ := sol_of h.2.2 b3
        refine ⟨(q, v) :: Z, by rw [List.map_cons, h1], fun p hp => ?_, ?_, ?_⟩
        · rcases List.mem_cons.mp hp with z | z
          · rw [z]
            exact ⟨b1, b2⟩
          · exact h2 p z
        · unfold dotZ
          rw [List.map_cons, List.sum_cons]
          show q.t * v + dotZ Z = q.t * v + _
          rw [h3]
        · rw [List.filter_cons, if_pos (show q.pres = true from hp), List.map_cons, h4]
          rfl
  | [], _ :: _, _, hx => hx.elim
theorem look_fold : ∀ (l : List (Int × Int)) (r : List (Int × Int)) (k : Int), (∀ p ∈ l, p.1 ≠ k) → look (l.foldl (fun r p => put r p.1 p.2) r) k = look r k
  | [], r, k, _ => rfl
  | p :: l, r, k, h => by
    rw [List.foldl_cons, look_fold l _ k fun q hq => h q (List.mem_cons_of_mem _ hq), look_put, if_neg fun z => h p List.mem_cons_self z.symm]
theorem look_fold_mem : ∀ (l : List (Int × Int)) (r : List (Int × Int)), (l.map (·.1)).Pairwise (· > ·) → ∀ p ∈ l, look (l.foldl (fun r p => put r p.1 p.2) r) p.1 = some p.2
  | [], r, _, p, hp => by simp at hp
  | q :: l, r, hd, p, hp => by
    rw [List.map_cons, List.pairwise_cons] at hd
    rw [List.foldl_cons]
    rcases List.mem_cons.mp hp with z | z
    · rw [z, look_fold l _ q.1 fun y hy e => ?_, look_put, if_pos rfl]
      have := hd.1 y.1 (List.mem_map.mpr ⟨y, hy, rfl⟩)
      omega
    · exact look_fold_mem l _ hd.2 p z
theorem numbers_agree {Y : List Qx} {c : List P2} {Z : Zs} (h : SIq Y) (hz : Z.map (·.1) = Y) (he : ((Z.filter (·.1.pres)).map fun p => (p.1.t, p.2)) = ((tsOf Y).zip (c.map (·.1))).map fun p => (p.1.1, p.2)) : Agrees (numbersOf (tsOf Y) c) Z := by
  intro p hp hpr
  have e1 : numbersOf (tsOf Y) c = (((tsOf Y).zip (c.map (·.1))).map fun p => (p.1.1, p.2)).foldl (fun r p => put r p.1 p.2) [] := by
    unfold numbersOf
    rw [List.foldl_map, List.zip_map_right, List.foldl_map]
    rfl
  rw [e1, ← he]
  have hd : (((Z.filter (·.1.pres)).map fun p => (p.1.t, p.2)).map (·.1)).Pairwise (· > ·) := by
    have := desc_keys h
    rw [← hz, List.filter_map, List.map_map] at this
    rw [List.map_map]
    exact this
  exact look_fold_mem _ [] hd (p.1.t, p.2) (List.mem_map.mpr ⟨p, List.mem_filter.mpr ⟨hp, hpr⟩, rfl⟩)

/-! ### places -/
def atf (sg : Int) (a : P2) (x : Int) : Int := if 0 < a.2 * sg then max 0 (min (a.1 - 1) x) else if a.2 * sg < 0 then max 0 (min (a.1 - 1) (0 - x)) else 0
def remf (sg : Int) (a : P2) (x : Int) : Int := if 0 < a.2 * sg then x - atf sg a x else if a.2 * sg < 0 then x + atf sg a x else x
def Apart (Z : Zs) : Prop := Z.Pairwise fun a b => a.1.pres = true → b.1.pres = true → b.1.t ≠ a.1.t
theorem placeBy_ok {sg : Int} (ax : Qx → P2) (hsg : sg = 1 ∨ sg = -1) : ∀ (Z : Zs) (nums : List (Int × Int)), (∀ p ∈ Z, (ax p.1).2 ≠ 0 → p.1.pres = true ∧ iabs (ax p.1).2 = p.1.t) → Apart Z → Agrees nums Z →
    (placeBy sg nums (Z.map fun p => ax p.1)).1 = (Z.map fun p => atf sg (ax p.1) p.2) ∧ Agrees (placeBy sg nums (Z.map fun p => ax p.1)).2 (Z.map fun p => (p.1, remf sg (ax p.1) p.2)) ∧
    ∀ k, (∀ p ∈ Z, p.1.pres = true → p.1.t ≠ k) → look (placeBy sg nums (Z.map fun p => ax p.1)).2 k = look nums k
  | [], nums, _, _, _ => ⟨rfl, fun p hp => (by simp at hp), fun _ _ => rfl⟩
  | p :: Z, nums, hk, hd, ha => by
    have hd' : Apart (p :: Z) := hd
    unfold Apart at hd'
    rw [List.pairwise_cons] at hd'
    obtain ⟨hd1, hd2⟩ := hd'
    have step : (placeStep sg nums (ax p.1)).1 = atf sg (ax p.1) p.2 ∧ (p.1.pres = true → look (placeStep sg nums (ax p.1)).2 p.1.t = some (remf sg (ax p.1) p.2)) ∧ ∀ k, (p.1.pres = true → p.1.t ≠ k) → look (placeStep sg nums (ax p.1)).2 k = look nums k := by
      have hw : ∀ y : Int, y * sg ≠ 0 → y ≠ 0 := fun y z e => z (by rw [e, Int.zero_mul])
      unfold placeStep atf remf
      by_cases h1 : 0 < (ax p.1).2 * sg
      · obtain ⟨k1, k2⟩ := hk p List.mem_cons_self (hw _ (by omega))
        have e := ha p List.mem_cons_self k1
        rw [if_pos h1, if_pos h1, if_pos h1, k2, e]
        unfold atf
        rw [if_pos h1]
        refine ⟨rfl, fun _ => by rw [look_put, if_pos rfl]; rfl, fun k hn => by rw [look_put, if_neg fun z => hn k1 z.symm]⟩
      · rw [if_neg h1, if_neg h1, if_neg h1]
        by_cases h2 : (ax p.1).2 * sg < 0
        · obtain ⟨k1, k2⟩ := hk p List.mem_cons_self (hw _ (by omega))
          have e := ha p List.mem_cons_self k1
          rw [if_pos h2, if_pos h2, if_pos h2, k2, e]
          unfold atf
          rw [if_neg h1, if_pos h2]
          refine ⟨rfl, fun _ => by rw [look_put, if_pos rfl]; rfl, fun k hn => by rw [look_put, if_neg fun z => hn k1 z.symm]⟩
        · rw [if_neg h2, if_neg h2, if_neg h2]
          exact ⟨rfl, fun hp => ha p List.mem_cons_self hp, fun _ _ => rfl⟩
    obtain ⟨s1, s2, s3⟩ := step
    have ag : Agrees (placeStep sg nums (ax p.1)).2 Z := fun q hq hqp => by
      rw [s3 q.1.t fun hpp z => hd1 q hq hpp hqp z.symm]
      exact ha q (List.mem_cons_of_mem _ hq) hqp
    obtain ⟨i1, i2, i3⟩ := placeBy_ok ax hsg Z (placeStep sg nums (ax p.1)).2 (fun q hq => hk q (List.mem_cons_of_mem _ hq)) hd2 ag
    rw [List.map_cons, List.map_cons, List.map_cons]
    refine ⟨?_, ?_, ?_⟩
    · show (placeStep sg nums (ax p.1)).1 :: _ = _
      rw [s1, i1]
    · intro q hq hqp
      rcases List.mem_cons.mp hq with z | z
      · rw [z] at hqp ⊢
        show look (placeBy sg (placeStep sg nums (ax p.1)).2 (Z.map fun p => ax p.1)).2 p.1.t = _
        rw [i3 p.1.t fun y hy hyp => hd1 y hy hqp hyp]
        exact s2 hqp
      · exact i2 q z hqp
    · intro k hn
      show look (placeBy sg (placeStep sg nums (ax p.1)).2 (Z.map fun p => ax p.1)).2 k = _
      rw [i3 k fun y hy => hn y (List.mem_cons_of_mem _ hy), s3 k (hn p List.mem_cons_self)]
def at1 (p : Qx × Int) : Int := atf 1 (keptA p.1.a1) p.2
def at2 (p : Qx × Int) : Int := atf (-1) (keptA p.1.a2) (remf 1 (keptA p.1.a1) p.2)
theorem at_ok {p : Qx × Int} (h : p.1.Ok) (hi : p.1.lo ≤ p.2 ∧ p.2 ≤ p.1.hi) : (0 ≤ at1 p ∧ at1 p < p.1.m1) ∧ (0 ≤ at2 p ∧ at2 p < p.1.m2) ∧ p.1.w1 * at1 p - p.1.w2 * at2 p = p.2 := by
  obtain ⟨⟨t, m1, w1, m2, w2⟩, x⟩ := p
  obtain ⟨h0, h1, h2, h3, h4⟩ := h
  replace h0 : 0 < t := h0
  replace h1 : 1 ≤ m1 := h1
  replace h2 : 1 ≤ m2 := h2
  replace h3 : w1 = 1 ∨ w1 = -1 := h3
  replace h4 : w2 = 1 ∨ w2 = -1 := h4
  replace hi : (if w1 < 0 then -(m1 - 1) else 0) + (if 0 < w2 then -(m2 - 1) else 0) ≤ x ∧ x ≤ (if 0 < w1 then m1 - 1 else 0) + (if w2 < 0 then m2 - 1 else 0) := hi
  have e1 : at1 (⟨t, m1, w1, m2, w2⟩, x) = if 0 < w1 then max 0 (min (m1 - 1) x) else max 0 (min (m1 - 1) (0 - x)) := by
    show atf 1 (if m1 = 1 then ((1 : Int), (0 : Int)) else (m1, w1 * t)) x = _
    unfold atf
    by_cases hm : m1 = 1
    · rw [if_pos hm, hm]
      simp
      split <;> omega
    · rw [if_neg hm]
      rcases h3 with h3 | h3 <;> rw [h3]
      · rw [if_pos (show 0 < 1 * t * 1 by omega), if_pos (by decide)]
      · rw [if_neg (show ¬ 0 < -1 * t * 1 by omega), if_pos (show -1 * t * 1 < 0 by omega), if_neg (by decide)]
  have er : remf 1 (keptA (Qx.a1 ⟨t, m1, w1, m2, w2⟩)) x = x - w1 * at1 (⟨t, m1, w1, m2, w2⟩, x) := by
    show remf 1 (if m1 = 1 then ((1 : Int), (0 : Int)) else (m1, w1 * t)) x = x - w1 * atf 1 (if m1 = 1 then ((1 : Int), (0 : Int)) else (m1, w1 * t)) x
    unfold remf
    by_cases hm : m1 = 1
    · rw [if_pos hm]
      unfold atf
      simp
    · rw [if_neg hm]
      rcases h3 with h3 | h3 <;> rw [h3]
      · rw [if_pos (show 0 < 1 * t * 1 by omega)]
        omega
      · rw [if_neg (show ¬ 0 < -1 * t * 1 by omega), if_pos (show -1 * t * 1 < 0 by omega)]
        omega
  have e2 : ∀ r, atf (-1) (keptA (Qx.a2 ⟨t, m1, w1, m2, w2⟩)) r = if w2 < 0 then max 0 (min (m2 - 1) r) else max 0 (min (m2 - 1) (0 - r)) := fun r => by
    show atf (-1) (if m2 = 1 then ((1 : Int), (0 : Int)) else (m2, w2 * t)) r = _
    unfold atf
    by_cases hm : m2 = 1
    · rw [if_pos hm, hm]
      simp
      split <;> omega
    · rw [if_neg hm]
      rcases h4 with h4 | h4 <;> rw [h4]
      · rw [if_neg (show ¬ 0 < 1 * t * -1 by omega), if_pos (show 1 * t * -1 < 0 by omega), if_neg (by decide)]
      · rw [if_pos (show 0 < -1 * t * -1 by omega), if_pos (by decide)]
  have e3 : at2 (⟨t, m1, w1, m2, w2⟩, x) = if w2 < 0 then max 0 (min (m2 - 1) (x - w1 * at1 (⟨t, m1, w1, m2, w2⟩, x))) else max 0 (min (m2 - 1) (0 - (x - w1 * at1 (⟨t, m1, w1, m2, w2⟩, x)))) := by
    show atf (-1) (keptA (Qx.a2 ⟨t, m1, w1, m2, w2⟩)) (remf 1 (keptA (Qx.a1 ⟨t, m1, w1, m2, w2⟩)) x) = _
    rw [er, e2]
  show (0 ≤ at1 (⟨t, m1, w1, m2, w2⟩, x) ∧ at1 (⟨t, m1, w1, m2, w2⟩, x) < m1) ∧ (0 ≤ at2 (⟨t, m1, w1, m2, w2⟩, x) ∧ at2 (⟨t, m1, w1, m2, w2⟩, x) < m2) ∧ w1 * at1 (⟨t, m1, w1, m2, w2⟩, x) - w2 * at2 (⟨t, m1, w1, m2, w2⟩, x) = x
  rw [e3, e1]
  rcases h3 with h3 | h3 <;> rcases h4 with h4 | h4 <;> subst h3 <;> subst h4 <;> simp at hi ⊢ <;> omega
theorem cell_sum : ∀ {Z : Zs}, (∀ p ∈ Z, p.1.Ok) → inZ Z → (Z.map ((fun p : Int × P2 => p.1 * p.2.2) ∘ fun p => (at1 p, p.1.a1))).sum = dotZ Z + (Z.map ((fun p : Int × P2 => p.1 * p.2.2) ∘ fun p => (at2 p, p.1.a2))).sum
  | [], _, _ => rfl
  | p :: Z, ok, hi => by
    have ih := cell_sum (Z := Z) (fun q hq => ok q (List.mem_cons_of_mem _ hq)) (fun q hq => hi q (List.mem_cons_of_mem _ hq))
    unfold dotZ at ih ⊢
    rw [List.map_cons, List.map_cons, List.map_cons, List.sum_cons, List.sum_cons, List.sum_cons, ih]
    have e := (at_ok (ok p List.mem_cons_self) (hi p List.mem_cons_self)).2.2
    show at1 p * (p.1.w1 * p.1.t) + _ = p.1.t * p.2 + _ + (at2 p * (p.1.w2 * p.1.t) + _)
    have e2 : at1 p * (p.1.w1 * p.1.t) = p.1.t * p.2 + at2 p * (p.1.w2 * p.1.t) := by
      rw [← e]
      grind
    rw [e2]
    omega
/-- the places of a solution -/
theorem places_ok {Y : List Qx} {Z : Zs} {c : List P2} {g : Int} (h : SIq Y) (hz : Z.map (·.1) = Y) (hi : inZ Z) (hg : dotZ Z = g) (ha : Agrees (numbersOf (tsOf Y) c) Z) :
    (placesBy (vA Y) (vB Y) (tsOf Y) c) = (Z.map at1, Z.map at2) ∧ PlaceOk (Z.map at1) (Y.map (·.a1)) ∧ PlaceOk (Z.map at2) (Y.map (·.a2)) ∧ cellOf 0 (Y.map (·.a1)) (Z.map at1) = cellOf g (Y.map (·.a2)) (Z.map at2) := by
  have ok : ∀ p ∈ Z, p.1.Ok := fun p hp => h.ok p.1 (by rw [← hz]; exact List.mem_map.mpr ⟨p, hp, rfl⟩)
  have dis : Apart Z := by
    have := h.desc
    rw [← hz, List.pairwise_map] at this
    exact this.imp fun h h1 h2 z => by have := h h1 h2; omega
  have eA : vA Y = Z.map fun p => keptA p.1.a1 := by unfold vA; rw [← hz, List.map_map]; rfl
  have eB : vB Y = (Z.map fun p => (p.1, remf 1 (keptA p.1.a1) p.2)).map fun p => keptA p.1.a2 := by unfold vB; rw [← hz, List.map_map, List.map_map]; rfl
  obtain ⟨i1, i2, _⟩ := placeBy_ok (sg := 1) (fun q => keptA q.a1) (.inl rfl) Z (numbersOf (tsOf Y) c) (fun p hp h0 => ⟨pres1 ((kept1 (ok p hp)).1.mp h0), (kept1 (ok p hp)).2 h0⟩) dis ha
  obtain ⟨j1, _, _⟩ := placeBy_ok (sg := -1) (fun q => keptA q.a2) (.inr rfl) (Z.map fun p => (p.1, remf 1 (keptA p.1.a1) p.2)) _ (fun p hp h0 => by
    obtain ⟨q, hq, rfl⟩ := List.mem_map.mp hp
    exact ⟨pres2 ((kept2 (ok q hq)).1.mp h0), (kept2 (ok q hq)).2 h0⟩) (by
    unfold Apart
    rw [List.pairwise_map]
    exact dis) i2
  have zip1 : ∀ {α : Type} (f : Qx × Int → Int) (k : Qx → α), (Z.map f).zip (Y.map k) = Z.map fun p => (f p, k p.1) := fun f k => by
    rw [← hz, List.map_map, List.zip_map']
    rfl
  refine ⟨?_, ⟨?_, ?_⟩, ⟨?_, ?_⟩, ?_⟩
  · unfold placesBy
    rw [eA, eB, i1, j1, List.map_map]
    rfl
  · rw [List.length_map, ← hz, List.length_map, List.length_map]
  · rw [zip1]
    intro y hy
    obtain ⟨p, hp, rfl⟩ := List.mem_map.mp hy
    exact (at_ok (ok p hp) (hi p hp)).1
  · rw [List.length_map, ← hz, List.length_map, List.length_map]
  · rw [zip1]
    intro y hy
    obtain ⟨p, hp, rfl⟩ := List.mem_map.mp hy
    exact (at_ok (ok p hp) (hi p hp)).2.1
  · unfold cellOf
    rw [zip1, zip1, List.map_map, List.map_map, ← hg, Int.zero_add]
    exact cell_sum ok hi
end Pm

set_option Elab.async false
set_option linter.all false
set_option maxHeartbeats 1000000
/-! Blocks of one whole: the axes, the views, when they meet. -/
namespace Pm
open Pc

structure Ax where
  size : Int
  step : Int
  s1 : Int
  m1 : Int
  w1 : Int
  s2 : Int
  m2 : Int
  w2 : Int
structure Ax.Good (x : Ax) : Prop where
  z1 : 1 ≤ x.size
  z2 : x.size ≤ 1000
  e1 : 1 ≤ x.step
  e2 : x.step ≤ 4
  a1 : 1 ≤ x.m1
  a2 : 1 ≤ x.m2
  h1 : 2 * ((x.m1 - 1) * x.step) ≤ x.size - 1
  h2 : 2 * ((x.m2 - 1) * x.step) ≤ x.size - 1
  b1 : 0 ≤ x.s1
  b2 : 0 ≤ x.s2
  c1 : x.s1 + (x.m1 - 1) * x.step ≤ x.size - 1
  c2 : x.s2 + (x.m2 - 1) * x.step ≤ x.size - 1
  w1 : x.w1 = 1 ∨ x.w1 = -1
  w2 : x.w2 = 1 ∨ x.w2 = -1
def Ax.sw (x : Ax) : Ax := ⟨x.size, x.step, x.s2, x.m2, x.w2, x.s1, x.m1, x.w1⟩
def Ax.dup (x : Ax) : Ax := ⟨x.size, x.step, x.s1, x.m1, x.w1, x.s1, x.m1, x.w1⟩
theorem Ax.Good.sw {x : Ax} (h : x.Good) : x.sw.Good := ⟨h.z1, h.z2, h.e1, h.e2, h.a2, h.a1, h.h2, h.h1, h.b2, h.b1, h.c2, h.c1, h.w2, h.w1⟩
theorem Ax.Good.dup {x : Ax} (h : x.Good) : x.dup.Good := ⟨h.z1, h.z2, h.e1, h.e2, h.a1, h.a1, h.h1, h.h1, h.b1, h.b1, h.c1, h.c1, h.w1, h.w1⟩
def AllG (X : List Ax) : Prop := ∀ x ∈ X, x.Good
theorem AllG.tail {x : Ax} {X : List Ax} (h : AllG (x :: X)) : AllG X := fun y hy => h y (List.mem_cons_of_mem _ hy)
theorem AllG.head {x : Ax} {X : List Ax} (h : AllG (x :: X)) : x.Good := h x List.mem_cons_self
def prodX : List Ax → Int
  | [] => 1
  | x :: X => prodX X * x.size
/-- the greatest pace first -/
def ysX : List Ax → List Qx
  | [] => []
  | x :: X => ⟨x.step * prodX X, x.m1, x.w1, x.m2, x.w2⟩ :: ysX X
/-- blocks, paces and steps, the greatest pace first -/
def zs1 : List Ax → List (T3 × Int × Int)
  | [] => []
  | x :: X => ((x.s1, x.m1, x.w1), prodX X, x.step) :: zs1 X
def zF1 (z : T3 × Int × Int) : Int := (if z.1.2.2 < 0 then z.1.1 + (z.1.2.1 - 1) * z.2.2 else z.1.1) * z.2.1
def zF2 (z : T3 × Int × Int) : P2 := (z.1.2.1, z.1.2.2 * z.2.2 * z.2.1)
def first1 (X : List Ax) : Int := ((zs1 X).map zF1).sum
theorem first1_cons (x : Ax) (X : List Ax) : first1 (x :: X) = (if x.w1 < 0 then x.s1 + (x.m1 - 1) * x.step else x.s1) * prodX X + first1 X := by
  unfold first1
  show (((_, _, _) :: zs1 X).map zF1).sum = _
  rw [List.map_cons, List.sum_cons]
  rfl
theorem axes1 : ∀ X : List Ax, (zs1 X).map zF2 = (ysX X).map (·.a1)
  | [] => rfl
  | x :: X => by
    show zF2 _ :: (zs1 X).map zF2 = Qx.a1 _ :: (ysX X).map (·.a1)
    rw [axes1 X]
    unfold zF2 Qx.a1
    rw [Int.mul_assoc]
theorem prod_pos : ∀ {X : List Ax}, AllG X → 1 ≤ prodX X
  | [], _ => Int.le_refl 1
  | x :: X, h => by
    have h1 := prod_pos h.tail
    have := Int.mul_le_mul h1 h.head.z1 (by decide) (by omega)
    show 1 ≤ prodX X * x.size
    omega
theorem prod_le : ∀ {X : List Ax}, AllG X → prodX X ≤ 1000 ^ X.length
  | [], _ => Int.le_refl 1
  | x :: X, h => by
    have h1 := prod_le h.tail
    have h2 := prod_pos h.tail
    have := Int.mul_le_mul h1 h.head.z2 (by have := h.head.z1; omega) (by omega)
    rw [List.length_cons, Int.pow_succ]
    exact this
theorem prod_map (f : Ax → Ax) (hf : ∀ x, (f x).size = x.size) : ∀ X : List Ax, prodX (X.map f) = prodX X
  | [] => rfl
  | x :: X => by
    show prodX (X.map f) * (f x).size = prodX X * x.size
    rw [prod_map f hf X, hf]
theorem ys_len : ∀ X : List Ax, (ysX X).length = X.length
  | [] => rfl
  | x :: X => by show (ysX X).length + 1 = X.length + 1; rw [ys_len X]
theorem zs_len : ∀ X : List Ax, (zs1 X).length = X.length
  | [] => rfl
  | x :: X => by show (zs1 X).length + 1 = X.length + 1; rw [zs_len X]
theorem ys_si : ∀ {X : List Ax}, AllG X → SIq (ysX X) ∧ W (ysX X) ≤ prodX X - 1
  | [], _ => ⟨trivial, Int.le_refl 0⟩
  | x :: X, h => by
    obtain ⟨i1, i2⟩ := ys_si h.tail
    have hp := prod_pos h.tail
    have g := h.head
    have ht : prodX X ≤ x.step * prodX X := by
      have := Int.mul_le_mul_of_nonneg_right g.e1 (show 0 ≤ prodX X by omega)
      omega
    refine ⟨⟨⟨?_, g.a1, g.a2, g.w1, g.w2⟩, fun _ => ?_, i1⟩, ?_⟩
    · show 0 < x.step * prodX X
      omega
    · show W (ysX X) < x.step * prodX X
      omega
    · show W (_ :: ysX X) ≤ prodX X * x.size - 1
      rw [W_cons]
      show ((x.m1 - 1) + (x.m2 - 1)) * (x.step * prodX X) + _ ≤ _
      have e1 := g.h1
      have e2 := g.h2
      have e3 := Int.mul_le_mul_of_nonneg_right (show (x.m1 - 1) * x.step + (x.m2 - 1) * x.step ≤ x.size - 1 by omega) (show 0 ≤ prodX X by omega)
      have e4 : ((x.m1 - 1) + (x.m2 - 1)) * (x.step * prodX X) = ((x.m1 - 1) * x.step + (x.m2 - 1) * x.step) * prodX X := by grind
      have e5 : (x.size - 1) * prodX X = prodX X * x.size - prodX X := by grind
      omega
/-- the cells of a view lie in the floor -/
theorem view_ok : ∀ {X : List Ax}, AllG X → 0 ≤ leastOf (first1 X) (vA (ysX X)) ∧ greatestOf (first1 X) (vA (ysX X)) < prodX X
  | [], _ => by
    show (0 : Int) ≤ 0 + 0 ∧ (0 : Int) + 0 < 1
    decide
  | x :: X, h => by
    obtain ⟨i1, i2⟩ := view_ok h.tail
    have hp := prod_pos h.tail
    have g := h.head
    unfold leastOf at i1
    unfold greatestOf at i2
    unfold leastOf greatestOf
    rw [first1_cons]
    show 0 ≤ _ + ((keptA (x.m1, x.w1 * (x.step * prodX X)) :: vA (ysX X)).map _).sum ∧ _ + ((keptA (x.m1, x.w1 * (x.step * prodX X)) :: vA (ysX X)).map _).sum < prodX X * x.size
    rw [List.map_cons, List.map_cons, List.sum_cons, List.sum_cons]
    generalize hP : prodX X = P at *
    generalize (List.map (fun a : P2 => if a.2 * (a.1 - 1) < 0 then a.2 * (a.1 - 1) else 0) (vA (ysX X))).sum = S1 at *
    generalize (List.map (fun a : P2 => if a.2 * (a.1 - 1) > 0 then a.2 * (a.1 - 1) else 0) (vA (ysX X))).sum = S2 at *
    generalize first1 X = f at *
    have ev : (keptA (x.m1, x.w1 * (x.step * P))).2 * ((keptA (x.m1, x.w1 * (x.step * P))).1 - 1) = x.w1 * ((x.m1 - 1) * x.step * P) := by
      unfold keptA
      by_cases hm : x.m1 = 1
      · rw [if_pos hm, hm]
        grind
      · rw [if_neg hm]
        grind
    rw [ev]
    have u0 : 0 ≤ (x.m1 - 1) * x.step := Int.mul_nonneg (by have := g.a1; omega) (by have := g.e1; omega)
    have u1 : 0 ≤ (x.m1 - 1) * x.step * P := Int.mul_nonneg u0 (by omega)
    have b1 : 0 ≤ x.s1 * P := Int.mul_nonneg g.b1 (by omega)
    have e3 := Int.mul_le_mul_of_nonneg_right g.c1 (show 0 ≤ P by omega)
    have e4 : (x.size - 1) * P = P * x.size - P := by grind
    have e5 : (x.s1 + (x.m1 - 1) * x.step) * P = x.s1 * P + (x.m1 - 1) * x.step * P := by grind
    generalize (x.m1 - 1) * x.step * P = u at *
    generalize P * x.size = R at *
    rcases g.w1 with w | w
    · rw [w, if_neg (show ¬ (1 : Int) < 0 by decide)]
      generalize x.s1 * P = s at *
      rw [Int.one_mul]
      refine ⟨?_, ?_⟩
      · rw [if_neg (by omega)]
        omega
      · split <;> omega
    · rw [w, if_pos (show (-1 : Int) < 0 by decide), e5]
      generalize x.s1 * P = s at *
      rw [show (-1 : Int) * u = -u by omega]
      refine ⟨?_, ?_⟩
      · split <;> omega
      · rw [if_neg (by omega)]
        omega
theorem ys_sw : ∀ X : List Ax, vB (ysX X) = vA (ysX (X.map Ax.sw)) ∧ vA (ysX X) = vB (ysX (X.map Ax.sw)) ∧ (ysX X).map (·.a2) = (ysX (X.map Ax.sw)).map (·.a1) ∧ (ysX X).map (·.a1) = (ysX (X.map Ax.sw)).map (·.a2)
  | [] => ⟨rfl, rfl, rfl, rfl⟩
  | x :: X => by
    obtain ⟨i1, i2, i3, i4⟩ := ys_sw X
    have hp : prodX (X.map Ax.sw) = prodX X := prod_map Ax.sw (fun _ => rfl) X
    refine ⟨?_, ?_, ?_, ?_⟩
    · show keptA (x.m2, x.w2 * (x.step * prodX X)) :: vB (ysX X) = keptA (x.m2, x.w2 * (x.step * prodX (X.map Ax.sw))) :: vA (ysX (X.map Ax.sw))
      rw [i1, hp]
    · show keptA (x.m1, x.w1 * (x.step * prodX X)) :: vA (ysX X) = keptA (x.m1, x.w1 * (x.step * prodX (X.map Ax.sw))) :: vB (ysX (X.map Ax.sw))
      rw [i2, hp]
    · show (x.m2, x.w2 * (x.step * prodX X)) :: (ysX X).map (·.a2) = (x.m2, x.w2 * (x.step * prodX (X.map Ax.sw))) :: (ysX (X.map Ax.sw)).map (·.a1)
      rw [i3, hp]
    · show (x.m1, x.w1 * (x.step * prodX X)) :: (ysX X).map (·.a1) = (x.m1, x.w1 * (x.step * prodX (X.map Ax.sw))) :: (ysX (X.map Ax.sw)).map (·.a2)
      rw [i4, hp]
theorem ys_dup : ∀ X : List Ax, vA (ysX X) = vA (ysX (X.map Ax.dup)) ∧ vA (ysX X) = vB (ysX (X.map Ax.dup)) ∧ (ysX X).map (·.a1) = (ysX (X.map Ax.dup)).map (·.a1) ∧ (ysX X).map (·.a1) = (ysX (X.map Ax.dup)).map (·.a2)
  | [] => ⟨rfl, rfl, rfl, rfl⟩
  | x :: X => by
    obtain ⟨i1, i2, i3, i4⟩ := ys_dup X
    have hp : prodX (X.map Ax.dup) = prodX X := prod_map Ax.dup (fun _ => rfl) X
    refine ⟨?_, ?_, ?_, ?_⟩
    · show keptA (x.m1, x.w1 * (x.step * prodX X)) :: vA (ysX X) = keptA (x.m1, x.w1 * (x.step * prodX (X.map Ax.dup))) :: vA (ysX (X.map Ax.dup))
      rw [i1, hp]
    · show keptA (x.m1, x.w1 * (x.step * prodX X)) :: vA (ysX X) = keptA (x.m1, x.w1 * (x.step * prodX (X.map Ax.dup))) :: vB (ysX (X.map Ax.dup))
      rw [i2, hp]
    · show (x.m1, x.w1 * (x.step * prodX X)) :: (ysX X).map (·.a1) = (x.m1, x.w1 * (x.step * prodX (X.map Ax.dup))) :: (ysX (X.map Ax.dup)).map (·.a1)
      rw [i3, hp]
    · show (x.m1, x.w1 * (x.step * prodX X)) :: (ysX X).map (·.a1) = (x.m1, x.w1 * (x.step * prodX (X.map Ax.dup))) :: (ysX (X.map Ax.dup)).map (·.a2)
      rw [i4, hp]
theorem ts_sw_len : ∀ X : List Ax, (tsOf (ysX (X.map Ax.sw))).length = (tsOf (ysX X)).length
  | [] => rfl
  | x :: X => by
    have ih := ts_sw_len X
    unfold tsOf at ih ⊢
    rw [List.length_map, List.length_map] at ih ⊢
    show (List.filter _ ((⟨x.step * prodX (X.map Ax.sw), x.m2, x.w2, x.m1, x.w1⟩ : Qx) :: ysX (X.map Ax.sw))).length = (List.filter _ ((⟨x.step * prodX X, x.m1, x.w1, x.m2, x.w2⟩ : Qx) :: ysX X)).length
    have e : (⟨x.step * prodX (X.map Ax.sw), x.m2, x.w2, x.m1, x.w1⟩ : Qx).pres = (⟨x.step * prodX X, x.m1, x.w1, x.m2, x.w2⟩ : Qx).pres := Bool.or_comm ..
    rw [List.filter_cons, List.filter_cons, e]
    split
    · rw [List.length_cons, List.length_cons, ih]
    · exact ih

/-! ### when blocks meet -/
def Ax.meets (x : Ax) : Bool := decide ((x.s1 - x.s2) % x.step = 0) && decide (max x.s1 x.s2 ≤ min (x.s1 + (x.m1 - 1) * x.step) (x.s2 + (x.m2 - 1) * x.step))
theorem meets_iff (x : Ax) : x.meets = true ↔ (x.s1 - x.s2) % x.step = 0 ∧ max x.s1 x.s2 ≤ min (x.s1 + (x.m1 - 1) * x.step) (x.s2 + (x.m2 - 1) * x.step) := by
  unfold Ax.meets
  rw [Bool.and_eq_true, decide_eq_true_eq, decide_eq_true_eq]
theorem meets_sw (x : Ax) : x.sw.meets = x.meets := by
  rw [Bool.eq_iff_iff, meets_iff, meets_iff]
  show (x.s2 - x.s1) % x.step = 0 ∧ max x.s2 x.s1 ≤ min (x.s2 + (x.m2 - 1) * x.step) (x.s1 + (x.m1 - 1) * x.step) ↔ _
  have e : (x.s2 - x.s1) % x.step = 0 ↔ (x.s1 - x.s2) % x.step = 0 := by
    rw [← Int.dvd_iff_emod_eq_zero, ← Int.dvd_iff_emod_eq_zero, ← Int.dvd_neg, show -(x.s2 - x.s1) = x.s1 - x.s2 by omega]
  rw [e, Int.max_comm, Int.min_comm]
def cW (s m w step : Int) : Int := if w < 0 then s + (m - 1) * step else s
def qOf (x : Ax) (P : Int) : Qx := ⟨x.step * P, x.m1, x.w1, x.m2, x.w2⟩
theorem off_lo {x : Ax} (g : x.Good) (P : Int) : cW x.s1 x.m1 x.w1 x.step - cW x.s2 x.m2 x.w2 x.step + x.step * (qOf x P).lo = x.s1 - x.s2 - (x.m2 - 1) * x.step := by
  unfold cW qOf Qx.lo
  rcases g.w1 with h1 | h1 <;> rcases g.w2 with h2 | h2 <;> simp only [h1, h2] <;> simp <;> grind
theorem off_wd {x : Ax} (g : x.Good) (P : Int) : (qOf x P).hi - (qOf x P).lo = (x.m1 - 1) + (x.m2 - 1) := by
  unfold qOf Qx.lo Qx.hi
  rcases g.w1 with h1 | h1 <;> rcases g.w2 with h2 | h2 <;> simp only [h1, h2] <;> simp <;> omega
/-- one axis -/
theorem one_axis {x : Ax} (g : x.Good) {P v d : Int} (h1 : (qOf x P).lo ≤ v) (h2 : v ≤ (qOf x P).hi) (hd : d = cW x.s1 x.m1 x.w1 x.step - cW x.s2 x.m2 x.w2 x.step + x.step * v) : -(x.size - 1) ≤ d ∧ d ≤ x.size - 1 ∧ (d = 0 → x.meets = true) := by
  have e1 := off_lo g P
  have e2 := off_wd g P
  generalize hl : (qOf x P).lo = l at *
  have e3 : x.step * v = x.step * l + x.step * (v - l) := by grind
  have e4 : 0 ≤ x.step * (v - l) := Int.mul_nonneg (by have := g.e1; omega) (by omega)
  have e5 : x.step * (v - l) ≤ (x.m1 - 1) * x.step + (x.m2 - 1) * x.step := by
    have := Int.mul_le_mul_of_nonneg_left (show v - l ≤ (x.m1 - 1) + (x.m2 - 1) by omega) (show 0 ≤ x.step by have := g.e1; omega)
    have e : x.step * ((x.m1 - 1) + (x.m2 - 1)) = (x.m1 - 1) * x.step + (x.m2 - 1) * x.step := by grind
    omega
  have e6 : d = x.s1 - x.s2 - (x.m2 - 1) * x.step + x.step * (v - l) := by omega
  have c1 := g.c1
  have c2 := g.c2
  have b1 := g.b1
  have b2 := g.b2
  have u1 : 0 ≤ (x.m1 - 1) * x.step := Int.mul_nonneg (by have := g.a1; omega) (by have := g.e1; omega)
  have u2 : 0 ≤ (x.m2 - 1) * x.step := Int.mul_nonneg (by have := g.a2; omega) (by have := g.e1; omega)
  refine ⟨by omega, by omega, fun z => ?_⟩
  rw [meets_iff]
  refine ⟨?_, by omega⟩
  apply Int.emod_eq_zero_of_dvd
  refine ⟨(x.m2 - 1) - (v - l), ?_⟩
  have e7 : x.step * ((x.m2 - 1) - (v - l)) = (x.m2 - 1) * x.step - x.step * (v - l) := by grind
  omega
theorem axis_meets {x : Ax} (g : x.Good) (P : Int) (h : x.meets = true) : ∃ v, (qOf x P).lo ≤ v ∧ v ≤ (qOf x P).hi ∧ cW x.s1 x.m1 x.w1 x.step - cW x.s2 x.m2 x.w2 x.step + x.step * v = 0 := by
  rw [meets_iff] at h
  obtain ⟨h1, h2⟩ := h
  obtain ⟨e, he⟩ := Int.dvd_of_emod_eq_zero h1
  have e1 := off_lo g P
  have e2 := off_wd g P
  have hs := g.e1
  generalize hl : (qOf x P).lo = l at *
  have k1 : e ≤ x.m2 - 1 := by
    refine Int.le_of_mul_le_mul_left (a := x.step) ?_ (by omega)
    rw [← he, Int.mul_comm x.step]
    omega
  have k2 : -(x.m1 - 1) ≤ e := by
    refine Int.le_of_mul_le_mul_left (a := x.step) ?_ (by omega)
    rw [← he, Int.mul_neg, Int.mul_comm x.step]
    omega
  refine ⟨l + ((x.m2 - 1) - e), by omega, by omega, ?_⟩
  have e3 : x.step * (l + ((x.m2 - 1) - e)) = x.step * l + (x.m2 - 1) * x.step - x.step * e := by grind
  omega
def first2 (X : List Ax) : Int := first1 (X.map Ax.sw)
theorem first2_cons (x : Ax) (X : List Ax) : first2 (x :: X) = cW x.s2 x.m2 x.w2 x.step * prodX X + first2 X := by
  unfold first2
  rw [List.map_cons, first1_cons, prod_map Ax.sw (fun _ => rfl)]
  rfl
theorem ys_cons (x : Ax) (X : List Ax) : ysX (x :: X) = qOf x (prodX X) :: ysX X := rfl
theorem sum_bound : ∀ {X : List Ax} {Z : Zs}, AllG X → Z.map (·.1) = ysX X → inZ Z → (-(prodX X - 1) ≤ first1 X - first2 X + dotZ Z ∧ first1 X - first2 X + dotZ Z ≤ prodX X - 1) ∧ (first1 X - first2 X + dotZ Z = 0 → ∀ x ∈ X, x.meets = true)
  | [], [], _, _, _ => ⟨by decide, fun _ x hx => by simp at hx⟩
  | x :: X, p :: Z, h, hz, hi => by
    rw [List.map_cons, ys_cons] at hz
    obtain ⟨hz1, hz2⟩ := List.cons.inj hz
    obtain ⟨⟨i1, i2⟩, i3⟩ := sum_bound h.tail hz2 fun q hq => hi q (List.mem_cons_of_mem _ hq)
    have hp := prod_pos h.tail
    have g := h.head
    have hp0 := hi p List.mem_cons_self
    rw [hz1] at hp0
    obtain ⟨d1, d2, d3⟩ := one_axis g hp0.1 hp0.2 rfl
    have e : first1 (x :: X) - first2 (x :: X) + dotZ (p :: Z) = prodX X * (cW x.s1 x.m1 x.w1 x.step - cW x.s2 x.m2 x.w2 x.step + x.step * p.2) + (first1 X - first2 X + dotZ Z) := by
      rw [first1_cons, first2_cons]
      have ed : dotZ (p :: Z) = p.1.t * p.2 + dotZ Z := by unfold dotZ; rw [List.map_cons, List.sum_cons]
      have et : p.1.t = x.step * prodX X := by rw [hz1]; rfl
      rw [ed, et]
      show cW x.s1 x.m1 x.w1 x.step * prodX X + first1 X - (cW x.s2 x.m2 x.w2 x.step * prodX X + first2 X) + (x.step * prodX X * p.2 + dotZ Z) = _
      grind
    rw [e]
    generalize cW x.s1 x.m1 x.w1 x.step - cW x.s2 x.m2 x.w2 x.step + x.step * p.2 = d at *
    generalize first1 X - first2 X + dotZ Z = S at *
    have f1 := Int.mul_le_mul_of_nonneg_left d1 (show 0 ≤ prodX X by omega)
    have f2 := Int.mul_le_mul_of_nonneg_left d2 (show 0 ≤ prodX X by omega)
    have f3 : prodX X * (x.size - 1) = prodX (x :: X) - prodX X := by
      show _ = prodX X * x.size - prodX X
      grind
    rw [Int.mul_neg] at f1
    refine ⟨⟨by omega, by omega⟩, fun z => ?_⟩
    have hd : d = 0 := by
      rcases Int.lt_trichotomy d 0 with q | q | q
      · have := Int.mul_le_mul_of_nonneg_left (show d ≤ -1 by omega) (show 0 ≤ prodX X by omega)
        omega
      · exact q
      · have := Int.mul_le_mul_of_nonneg_left (show 1 ≤ d by omega) (show 0 ≤ prodX X by omega)
        omega
    rw [hd, Int.mul_zero] at z
    intro y hy
    rcases List.mem_cons.mp hy with q | q
    · rw [q]
      exact d3 hd
    · exact i3 (by omega) y q
theorem sum_zero : ∀ {X : List Ax}, AllG X → (∀ x ∈ X, x.meets = true) → ∃ Z : Zs, Z.map (·.1) = ysX X ∧ inZ Z ∧ first1 X - first2 X + dotZ Z = 0
  | [], _, _ => ⟨[], rfl, fun p hp => (by simp at hp), rfl⟩
  | x :: X, h, hm => by
    obtain ⟨Z, h1, h2, h3⟩ := sum_zero h.tail fun y hy => hm y (List.mem_cons_of_mem _ hy)
    obtain ⟨v, v1, v2, v3⟩ := axis_meets h.head (prodX X) (hm x List.mem_cons_self)
    refine ⟨(qOf x (prodX X), v) :: Z, by rw [List.map_cons, h1, ys_cons], fun p hp => ?_, ?_⟩
    · rcases List.mem_cons.mp hp with q | q
      · rw [q]; exact ⟨v1, v2⟩
      · exact h2 p q
    · rw [first1_cons, first2_cons]
      have ed : dotZ ((qOf x (prodX X), v) :: Z) = x.step * prodX X * v + dotZ Z := by unfold dotZ; rw [List.map_cons, List.sum_cons]; rfl
      rw [ed]
      show cW x.s1 x.m1 x.w1 x.step * prodX X + first1 X - (cW x.s2 x.m2 x.w2 x.step * prodX X + first2 X) + (x.step * prodX X * v + dotZ Z) = 0
      have e : cW x.s1 x.m1 x.w1 x.step * prodX X - cW x.s2 x.m2 x.w2 x.step * prodX X + x.step * prodX X * v = prodX X * (cW x.s1 x.m1 x.w1 x.step - cW x.s2 x.m2 x.w2 x.step + x.step * v) := by grind
      rw [v3, Int.mul_zero] at e
      omega
theorem sol_iff {X : List Ax} (h : AllG X) : Sol (ysX X) (first2 X - first1 X) ↔ ∀ x ∈ X, x.meets = true := by
  constructor
  · rintro ⟨Z, h1, h2, h3⟩
    exact (sum_bound h h1 h2).2 (by omega)
  · intro hm
    obtain ⟨Z, h1, h2, h3⟩ := sum_zero h hm
    exact ⟨Z, h1, h2, by omega⟩
theorem sol_zero {Y : List Qx} (h : SIq Y) : Sol Y 0 := by
  refine ⟨Y.map fun q => (q, 0), by rw [List.map_map]; exact List.map_id' Y, fun p hp => ?_, ?_⟩
  · obtain ⟨q, hq, rfl⟩ := List.mem_map.mp hp
    exact lo_hi (h.ok q hq)
  · unfold dotZ
    rw [List.map_map]
    clear h
    induction Y with
    | nil => rfl
    | cons q Y ih =>
      rw [List.map_cons, List.sum_cons, ih]
      show q.t * 0 + 0 = 0
      omega
end Pm

set_option Elab.async false
set_option linter.all false
set_option maxRecDepth 100000
set_option maxHeartbeats 4000000
/-! the law: blocks, axes; rules for what it alone does. -/
namespace Pm
open Pc
def block (v size step : Int) : T3 := (v / 10000 % (size - (1 + v / 4 % ((size - 1) / 2 / step + 1) - 1) * step), 1 + v / 4 % ((size - 1) / 2 / step + 1), 1 - 2 * (v % 2))
def zOk (z : T3 × Int × Int) : Prop := 0 ≤ z.1.1 ∧ z.1.1 ≤ 1000 ∧ 1 ≤ z.1.2.1 ∧ z.1.2.1 ≤ 1000 ∧ (z.1.2.2 = 1 ∨ z.1.2.2 = -1) ∧ 1 ≤ z.2.2 ∧ z.2.2 ≤ 4
end Pm
namespace Pc
open PySem PySem.Spec PyProof.Rows L2 Pm

def R_l_block : List D → D → Prop := fun ds d => ∃ v size step : Int, 0 ≤ v ∧ v ≤ 1000000000 ∧ 1 ≤ size ∧ size ≤ 1000 ∧ 1 ≤ step ∧ step ≤ 4 ∧ ds = [.int v, .int size, .int step] ∧ d = tD (block v size step)
def R_l_meet : List D → D → Prop := fun ds d => ∃ (a b : T3) (step : Int), zOk (a, 1, step) ∧ zOk (b, 1, step) ∧ ds = [tD a, tD b, .int step] ∧ d = .bl (decide ((a.1 - b.1) % step = 0) && decide (max a.1 b.1 ≤ min (a.1 + (a.2.1 - 1) * step) (b.1 + (b.2.1 - 1) * step)))
abbrev Z3 := T3 × Int × Int
def spAxes : Sp := fun vs H Q _ => ∃ (L : List Addr) (Z : List Z3), Z.length ≤ 100 ∧ (∀ z ∈ Z, zOk z) ∧ (∀ z ∈ L, H z ≠ none) ∧ DtAll (hid L H) vs [.lst (Z.map fun z => tD z.1), .lst (Z.map fun z => .int z.2.1), .lst (Z.map fun z => .int z.2.2)] ∧
  ∀ (r p : Addr) (xs : List V) (H' : Hp), Same H H' → H p = none → H' r = some (.tup [.int (Z.map zF1).sum, .ref p]) → H' p = some (.lst xs) → DtAll (hid (p :: L) H') xs ((Z.map zF2).map pairD) → Q (.ref r) H'
theorem block_half {size step : Int} (h2 : 1 ≤ step) (h1 : 1 ≤ size) : 0 ≤ (size - 1) / 2 / step ∧ ((size - 1) / 2 / step) * step ≤ (size - 1) / 2 := by
  refine ⟨Int.ediv_nonneg (Int.ediv_nonneg (by omega) (by omega)) (by omega), ?_⟩
  have := Int.mul_ediv_self_le (x := (size - 1) / 2) (k := step) (by omega)
  rw [Int.mul_comm]
  exact this
theorem block_ok {v size step : Int} (h0 : 0 ≤ v) (h1 : 1 ≤ size) (h2 : 1 ≤ step) : 0 ≤ (block v size step).1 ∧ 1 ≤ (block v size step).2.1 ∧ 2 * (((block v size step).2.1 - 1) * step) ≤ size - 1 ∧ (block v size step).1 + ((block v size step).2.1 - 1) * step ≤ size - 1 ∧
    ((block v size step).2.2 = 1 ∨ (block v size step).2.2 = -1) := by
  obtain ⟨e1, e2⟩ := block_half h2 h1
  unfold block
  show 0 ≤ v / 10000 % (size - (1 + v / 4 % ((size - 1) / 2 / step + 1) - 1) * step) ∧ 1 ≤ 1 + v / 4 % ((size - 1) / 2 / step + 1) ∧ 2 * ((1 + v / 4 % ((size - 1) / 2 / step + 1) - 1) * step) ≤ size - 1 ∧ v / 10000 % (size - (1 + v / 4 % ((size - 1) / 2 / step + 1) - 1) * step) + (1 + v / 4 % ((size - 1) / 2 / step + 1) - 1) * step ≤ size - 1 ∧ (1 - 2 * (v % 2) = 1 ∨ 1 - 2 * (v % 2) = -1)
  generalize (size - 1) / 2 / step = h at *
  have f1 := Int.emod_nonneg (v / 4) (show h + 1 ≠ 0 by omega)
  have f2 := Int.emod_lt_of_pos (v / 4) (show 0 < h + 1 by omega)
  generalize v / 4 % (h + 1) = m at *
  rw [show 1 + m - 1 = m by omega]
  have f3 := Int.mul_le_mul_of_nonneg_right (show m ≤ h by omega) (show 0 ≤ step by omega)
  have f4 : 0 ≤ m * step := Int.mul_nonneg f1 (by omega)
  have g1 := Int.emod_nonneg (v / 10000) (show size - m * step ≠ 0 by omega)
  have g2 := Int.emod_lt_of_pos (v / 10000) (show 0 < size - m * step by omega)
  refine ⟨g1, by omega, by omega, by omega, by omega⟩
theorem max2 (a b : Int) : (if b > a then b else a) = max a b := by split <;> omega
theorem min2 (a b : Int) : (if b < a then b else a) = min a b := by split <;> omega

section
variable {H0 H H' B : Hp} {L0 : List Addr} {ms : List (Addr × Mu)} {es : List En} {te ta tb tk tm to : TE} {d : D} {ds : List D} {E : Ends} {us : TS} {K : PySem.W.Frag} {i j l : Nat} {n m : Int} {a p : Addr} {X : XK} {σ : L2.St} {xs : List V} {x : V}
theorem St0.ownAt (s : St0 H0 L0 ms es σ H) (e1 : Same H H') (hn : H p = none) (e2 : H' p = some (.lst xs)) (k1 : DtAll (hid (p :: hm L0 ms) H') xs ds) : St0 H0 L0 ((p, .l ds) :: ms) es σ H' := by
  have g := s.grow e1
  have np := s.new hn
  refine ⟨fun b o z => ?_, fun b hb => ?_, List.nodup_cons.mpr ⟨fun z => np (List.mem_append_left _ z), s.nd⟩, fun b hb => ?_, fun q hq => ?_, ?_⟩
  · have z1 := s.same b o z
    obtain ⟨z2, z3⟩ := hid_some z1
    have nb : b ≠ p := ne_of_none z3 hn
    rw [hid_out]
    · exact e1 _ _ z3
    · intro z4
      rcases List.mem_cons.mp z4 with z4 | z4
      · exact nb z4
      · exact z2 z4
  · rcases List.mem_cons.mp hb with e | e
    · rw [e, e2]; simp
    · exact g.trk b e
  · rcases List.mem_cons.mp hb with e | e
    · rw [e]; exact fun z => np (List.mem_append_right _ z)
    · exact s.dj b e
  · have w : Same (hid (hm L0 ms) H) (hid (hm L0 ((p, .l ds) :: ms)) H') := (hid_cons hn).trans (hid_mono e1)
    rcases List.mem_cons.mp hq with e | e
    · subst e
      exact ⟨xs, e2, k1⟩
    · exact (s.mu q e).mono w fun u z => e1 _ _ z
  · exact s.env.mono ((hid_cons hn).trans (hid_mono e1))
theorem St0.forget (j : Nat) (s : St0 H0 L0 ms es σ H) : St0 H0 L0 (ms.eraseIdx j) es σ H := run_forget (ts := fun _ σ H => St0 H0 L0 (ms.eraseIdx j) es σ H) (E := { nx := fun _ _ => True, rt := fun _ _ => True }) j (fun _ _ s => s) σ H s
theorem q_axes {Z : List Z3} {t : TA} (hl : Z.length ≤ 100) (hz : ∀ z ∈ Z, zOk z) (h : EvA H0 L0 ms es t [.lst (Z.map fun z => tD z.1), .lst (Z.map fun z => .int z.2.1), .lst (Z.map fun z => .int z.2.2)])
    (k : ∀ p, Run H0 L0 ((p, .l ((Z.map zF2).map pairD)) :: ms) ((es.set i (.d (.int (Z.map zF1).sum))).set j (.v (.ref p))) us E) : Run H0 L0 ms es (tSeq (tAsg (tCall spAxes [] X t) (gTup K 2 (gCons (gName i) (gCons (gName j) gNil)))) us) E := fun σ H s => by
  refine h σ H s _ fun vs H1 e1 k1 => ?_
  have s1 := s.grow e1
  refine ⟨hm L0 ms, Z, hl, hz, s1.trk, by rw [List.append_nil]; exact k1, fun r p xs H2 e2 hp hr hx hd => ?_⟩
  have s2 := s1.ownAt e2 hp hx hd
  exact ⟨r, _, rfl, .inl (.inl hr), rfl, _, _, rfl, _, _, rfl, rfl, k p _ H2 (St0.set (e := .v (.ref p)) (St0.set (e := .d (.int _)) s2 ⟨_, rfl, .int _⟩) rfl)⟩
/-- values as they are -/
theorem evv_ixO {xs : List V} (hi : es[i]? = some (.v (.ref a))) (hj : ms[j]? = some (a, .o (.lst xs))) (h : atI xs n = some x) (hb : Ev H0 L0 ms es tb (.int n)) : EvV H0 L0 ms es (tOp (rIxL K) (tVar i) tb) x := fun σ H s Q q => by
  refine ⟨.ref a, s.env.at_ i _ hi, hb σ H s _ fun v H1 e1 k1 => ?_⟩
  have h1 := (s.grow e1).mu _ (List.mem_of_getElem? hj)
  cases k1
  exact ⟨a, xs, n, x, rfl, rfl, .inl (.inl h1), h, q H1 e1⟩
theorem ev_ixV (ha : EvV H0 L0 ms es ta (.ref a)) (hj : ms[j]? = some (a, .l ds)) (h : atI ds n = some d) (hb : Ev H0 L0 ms es tb (.int n)) : Ev H0 L0 ms es (tOp (rIxL K) ta tb) d := fun σ H s Q q => by
  refine ha σ H s _ fun H1 e1 => hb σ H1 (s.grow e1) _ fun v H2 e2 k2 => ?_
  obtain ⟨xs, h1, h2⟩ := (s.grow (e1.trans e2)).mu _ (List.mem_of_getElem? hj)
  cases k2
  obtain ⟨v, g1, g2⟩ := ix_get h2 h
  exact ⟨a, xs, n, v, rfl, rfl, .inl (.inl h1), g1, q v H2 (e1.trans e2) g2⟩
theorem s_appV (ho : EvV H0 L0 ms es to (.ref a)) (hj : ms[j]? = some (a, .l ds)) (hz : ds.length < 1000) (h : Ev H0 L0 ms es te d) (k : Nx H0 L0 (ms.set j (a, .l (ds ++ [d]))) es E.nx) :
    Run H0 L0 ms es (tDrop (tBM K "list" rAppend to (tCons te tNil))) E := fun σ H s => by
  refine ho σ H s _ fun H1 e1 => ?_
  have s1 := s.grow e1
  obtain ⟨xs, h1, h2⟩ := s1.mu _ (List.mem_of_getElem? hj)
  refine ⟨.inl ⟨rfl, _, .inl (.inl h1)⟩, h σ H1 s1 _ fun v H2 e2 k2 => ⟨a, xs, v, rfl, rfl, e2 _ _ h1, by rw [h2.length]; exact small1000 (Nat.le_of_lt hz), ?_⟩⟩
  exact k σ _ ((s1.grow e2).mut hj ⟨_, upd_same, DtAll.append (h2.mo (hid_mono e2)) (.cons k2 .nil)⟩)
/-- [[], []] -/
theorem q_ownB (k : ∀ q p1 p2, Run H0 L0 ((q, .o (.lst [.ref p1, .ref p2])) :: (p2, .l []) :: (p1, .l []) :: ms) (es.set i (.v (.ref q))) us E) : Run H0 L0 ms es (tSeq (tAsg (tLst (tCons (tLst tNil) (tCons (tLst tNil) tNil))) (gName i)) us) E := fun σ H s => by
  refine ⟨by show 0 ≤ sizeLine; decide, fun p1 h1 => ⟨by show 0 ≤ sizeLine; decide, fun p2 h2 => ⟨by show 2 ≤ sizeLine; decide, fun q hq => ?_⟩⟩⟩
  have s1 := s.own0 (m := .l []) (o := .lst []) h1 ⟨[], upd_same, .nil⟩
  have s2 := s1.own0 (m := .l []) (o := .lst []) h2 ⟨[], upd_same, .nil⟩
  have s3 := s2.own0 (m := .o (.lst [.ref p1, .ref p2])) (o := .lst [.ref p1, .ref p2]) hq upd_same
  exact k q p1 p2 _ _ (s3.set rfl)
/-- lists in a list, as data -/
theorem run_freezeB {q p1 p2 : Addr} {b1 b2 : List D} (hi : es[i]? = some (.v (.ref q))) (k : Run H0 L0 ms (es.set i (.d (.lst [.lst b1, .lst b2]))) us E) : Run H0 L0 ((q, .o (.lst [.ref p1, .ref p2])) :: (p2, .l b2) :: (p1, .l b1) :: ms) es us E := fun σ H s => by
  have hq : H q = some (.lst [.ref p1, .ref p2]) := s.mu _ List.mem_cons_self
  obtain ⟨x2, e2, k2⟩ := s.mu _ (List.mem_cons_of_mem _ List.mem_cons_self)
  obtain ⟨x1, e1, k1⟩ := s.mu _ (List.mem_cons_of_mem _ (List.mem_cons_of_mem _ List.mem_cons_self))
  have sub : ∀ b, b ∈ hm L0 ms → b ∈ hm L0 ((q, .o (.lst [.ref p1, .ref p2])) :: (p2, .l b2) :: (p1, .l b1) :: ms) := fun b hb => List.mem_cons_of_mem _ (List.mem_cons_of_mem _ (List.mem_cons_of_mem _ hb))
  have w : Same (hid (hm L0 ((q, .o (.lst [.ref p1, .ref p2])) :: (p2, .l b2) :: (p1, .l b1) :: ms)) H) (hid (hm L0 ms) H) := hid_le sub
  have nd := s.nd
  have nq : q ∉ hm L0 ms := fun z => by
    rcases List.mem_append.mp z with z | z
    · exact (List.nodup_cons.mp nd).1 (List.mem_cons_of_mem _ (List.mem_cons_of_mem _ z))
    · exact s.dj q List.mem_cons_self z
  have n2 : p2 ∉ hm L0 ms := fun z => by
    rcases List.mem_append.mp z with z | z
    · exact (List.nodup_cons.mp (List.nodup_cons.mp nd).2).1 (List.mem_cons_of_mem _ z)
    · exact s.dj p2 (List.mem_cons_of_mem _ List.mem_cons_self) z
  have n1 : p1 ∉ hm L0 ms := fun z => by
    rcases List.mem_append.mp z with z | z
    · exact (List.nodup_cons.mp (List.nodup_cons.mp (List.nodup_cons.mp nd).2).2).1 z
    · exact s.dj p1 (List.mem_cons_of_mem _ (List.mem_cons_of_mem _ List.mem_cons_self)) z
  have kd : Dt (hid (hm L0 ms) H) (.ref q) (.lst [.lst b1, .lst b2]) := .lst (by rw [hid_out nq]; exact hq) (.cons (.lst (by rw [hid_out n1]; exact e1) (k1.mo w)) (.cons (.lst (by rw [hid_out n2]; exact e2) (k2.mo w)) .nil))
  have s3 : St0 H0 L0 ms es σ H := ((s.forget 0).forget 0).forget 0
  refine k σ H ⟨s3.same, s3.trk, s3.nd, s3.dj, s3.mu, ⟨by rw [List.length_set]; exact s3.env.len, fun j f hf => ?_⟩⟩
  by_cases hj : i = j
  · subst hj
    have hl := (List.getElem?_eq_some_iff.mp hi).1
    rw [List.getElem?_set_self hl] at hf
    cases hf
    exact ⟨_, s3.env.at_ i _ hi, kd⟩
  · rw [List.getElem?_set_ne hj] at hf
    exact s3.env.at_ j f hf
/-- list(reversed(l)), l of one's own -/
theorem ev_revM (hi : es[i]? = some (.v (.ref a))) (hj : ms[j]? = some (a, .l ds)) : Ev H0 L0 ms es (tListRev K (tVar i)) (.lst ds.reverse) := fun σ H s Q q => by
  obtain ⟨xs, h1, h2⟩ := s.mu _ (List.mem_of_getElem? hj)
  refine ⟨.ref a, s.env.at_ i _ hi, a, xs, rfl, .inl (.inl h1), fun p hp => q _ _ (same_new hp) ?_⟩
  have np := s.new hp
  exact .lst (by rw [hid_out np, upd_same]) (h2.reverse.mo (hid_mono (same_new hp)))
end

section
variable {P : Program} {w : World} {K : PySem.W.Frag} {mg : Str → Option Value} {base : Heap}

theorem ok_l_block (T : Txt mg) {f : Addr} {fd : FuncData} (F : Fun K "_law_block" "_law_block" s_l_block f fd) : FnOk P w K mg base CX0 1 f fd ["_law_cell_here", "_law_size", "_law_step"] (spP R_l_block) := by
  refine ok_of F sc_l_block (fun ds d h => ?_) (by decide) fun cdv A outer s H E hr => ⟨_, (pss_cons (ps_set (i := 3) sc_l_block.nd rfl (Or.inl rfl) (pe_op op_add pe_int (pe_op op_mod (pe_op op_fdiv (pv 0) pe_int) (pe_op op_add (pe_op op_fdiv (pe_op op_fdiv (pe_op op_sub (pv 1) pe_int) pe_int) (pv 2)) pe_int))))
    (pss_cons (ps_set (i := 4) sc_l_block.nd rfl (Or.inl rfl) (pe_op op_mod (pe_op op_fdiv (pv 0) (pe_op op_pow pe_int pe_int)) (pe_op op_sub (pv 1) (pe_op op_mul (pe_op op_sub (pv 3) pe_int) (pv 2)))))
    (pss_one (ps_ret (pe_tup (pa_cons (pv 4) (pa_cons (pv 3) (pa_cons (pe_op op_sub pe_int (pe_op op_mul pe_int (pe_op op_mod (pv 0) pe_int))) pa_nil)))))))), fun L ds d Q h k => ?_⟩
  · obtain ⟨v, size, step, _, _, _, _, _, _, rfl, _⟩ := h; rfl
  · obtain ⟨v, size, step, h0, h00, h1, h11, h2, h22, rfl, rfl⟩ := h
    have dv : ∀ (y z : Int), 1 ≤ z ∧ z ≤ 10000 → CDiv y z := fun y z q => ⟨by omega, by omega⟩
    obtain ⟨e1, e2⟩ := block_half h2 h1
    refine q_set (d := .int (1 + v / 4 % ((size - 1) / 2 / step + 1))) (ev_add ev_int (ev_mod (by omega) (ev_fdiv (dv _ _ (by decide)) (ev_var rfl) ev_int) (ev_add (ev_fdiv (dv _ _ ⟨h2, by omega⟩) (ev_fdiv (dv _ _ (by decide)) (ev_sub (ev_var rfl) ev_int) ev_int) (ev_var rfl)) ev_int))) ?_
    have f1 := Int.emod_nonneg (v / 4) (show (size - 1) / 2 / step + 1 ≠ 0 by omega)
    have f2 := Int.emod_lt_of_pos (v / 4) (show 0 < (size - 1) / 2 / step + 1 by omega)
    have f3 := Int.mul_le_mul_of_nonneg_right (show 1 + v / 4 % ((size - 1) / 2 / step + 1) - 1 ≤ (size - 1) / 2 / step by omega) (show 0 ≤ step by omega)
    refine q_set (d := .int (block v size step).1) (Ev.of (ev_mod (by omega) (ev_fdiv (m := 10000) (dv _ _ (by decide)) (ev_var rfl) (Ev.of (ev_pow (show CPow 10 4 from ⟨by decide, by decide, by decide⟩) ev_int ev_int) rfl)) (ev_sub (ev_var rfl) (ev_mul (.inr ⟨by omega, by omega⟩) (ev_sub (ev_var rfl) ev_int) (ev_var rfl)))) rfl) ?_
    refine s_ret (ev_tup (ea_cons (ev_var rfl) (ea_cons (ev_var rfl) (ea_cons (ev_sub ev_int (ev_mul (.inl (by decide)) ev_int (ev_mod (by decide) (ev_var rfl) ev_int))) ea_nil)))) k

theorem ok_l_meet (T : Txt mg) {f : Addr} {fd : FuncData} (F : Fun K "_law_meet" "_law_meet" s_l_meet f fd) : FnOk P w K mg base CX0 1 f fd ["_law_one", "_law_other", "_law_step"] (spP R_l_meet) := by
  refine ok_of F sc_l_meet (fun ds d h => ?_) (by decide) fun cdv A outer s H E hr => ⟨_, (pss_cons (ps_set (i := 3) sc_l_meet.nd rfl (Or.inl rfl) (pe_callB (call_max2 rfl) (by rfl) T.zmax (by decide +kernel) (pa_cons (pe_ix (ixT (K := K)) (pv 0) pe_int (fun _ _ => rfl)) (pa_cons (pe_ix (ixT (K := K)) (pv 1) pe_int (fun _ _ => rfl)) pa_nil))))
    (pss_cons (ps_set (i := 4) sc_l_meet.nd rfl (Or.inl rfl) (pe_callB (call_min2 rfl) (by rfl) T.zmin (by decide +kernel) (pa_cons (pe_op op_add (pe_ix (ixT (K := K)) (pv 0) pe_int (fun _ _ => rfl)) (pe_op op_mul (pe_op op_sub (pe_ix (ixT (K := K)) (pv 0) pe_int (fun _ _ => rfl)) pe_int) (pv 2))) (pa_cons (pe_op op_add (pe_ix (ixT (K := K)) (pv 1) pe_int (fun _ _ => rfl)) (pe_op op_mul (pe_op op_sub (pe_ix (ixT (K := K)) (pv 1) pe_int (fun _ _ => rfl)) pe_int) (pv 2))) pa_nil))))
    (pss_one (ps_ret (pe_and (pe_cmpR op_eq (pe_op op_mod (pe_op op_sub (pe_ix (ixT (K := K)) (pv 0) pe_int (fun _ _ => rfl)) (pe_ix (ixT (K := K)) (pv 1) pe_int (fun _ _ => rfl))) (pv 2)) pe_int (nomark _)) (pe_one (pe_cmpR op_le (pv 3) (pv 4) (nomark _)))))))), fun L ds d Q h k => ?_⟩
  · obtain ⟨a, b, step, _, _, rfl, _⟩ := h; rfl
  · obtain ⟨a, b, step, ha, hb, rfl, rfl⟩ := h
    obtain ⟨_, _, a1, a2, _, a3, a4⟩ := ha
    obtain ⟨_, _, b1, b2, _, b3, b4⟩ := hb
    replace a3 : 1 ≤ step := a3
    replace a4 : step ≤ 4 := a4
    refine q_set (d := .int (max a.1 b.1)) (Ev.of (ev_cb2 (ea_cons (ev_ixT atI0 (ev_var rfl) ev_int) (ea_cons (ev_ixT atI0 (ev_var rfl) ev_int) ea_nil))) (congrArg D.int (max2 a.1 b.1))) ?_
    refine q_set (d := .int (min (a.1 + (a.2.1 - 1) * step) (b.1 + (b.2.1 - 1) * step))) (Ev.of (ev_cb2 (ea_cons (ev_add (ev_ixT atI0 (ev_var rfl) ev_int) (ev_mul (.inr ⟨by omega, by omega⟩) (ev_sub (ev_ixT atI1 (ev_var rfl) ev_int) ev_int) (ev_var rfl))) (ea_cons (ev_add (ev_ixT atI0 (ev_var rfl) ev_int) (ev_mul (.inr ⟨by omega, by omega⟩) (ev_sub (ev_ixT atI1 (ev_var rfl) ev_int) ev_int) (ev_var rfl))) ea_nil))) (congrArg D.int (min2 _ _))) ?_
    refine s_ret (Ev.of (ev_andV (ev_eq rfl (ev_mod (by omega) (ev_sub (ev_ixT atI0 (ev_var rfl) ev_int) (ev_ixT atI0 (ev_var rfl) ev_int)) (ev_var rfl)) ev_int) fun _ => ev_le (ev_var rfl) (ev_var rfl)) ?_) k
    rfl

theorem ok_l_axes (T : Txt mg) {f : Addr} {fd : FuncData} (F : Fun K "_law_axes" "_law_axes" s_l_axes f fd) : FnOk P w K mg base CX0 1 f fd ["_law_blocks", "_law_paces", "_law_steps"] spAxes := by
  refine F.ok sc_l_axes (fun vs H Q E h => ?_) (fun cdv A outer s H vs Q E hr h => ?_)
  · obtain ⟨L, Z, _, _, _, hd, _⟩ := h
    rw [hd.length]
    rfl
  · obtain ⟨L, Z, hl, hz, tr, hd, q⟩ := h
    refine ⟨_, (pss_cons (ps_set (i := 3) sc_l_axes.nd rfl (Or.inl rfl) pe_int)
    (pss_cons (ps_set (i := 4) sc_l_axes.nd rfl (Or.inl rfl) (pe_lst pa_nil))
    (pss_cons (ps_for PassesOwn.never rfl (pi_range1 (by rfl) T.zrange (pa_cons (pe_callB call_len_seq (by rfl) T.zlen (by decide +kernel) (pa_cons (pv 0) pa_nil)) pa_nil)) (pg_name (i := 5) sc_l_axes.nd rfl (Or.inl rfl)) (pss_cons (ps_asg (pe_ix (ixL (K := K)) (pv 0) (pv 5) (fun _ _ => rfl)) (pg_tup rfl (pgs_cons (pg_name (i := 6) sc_l_axes.nd rfl (Or.inl rfl)) (pgs_cons (pg_name (i := 7) sc_l_axes.nd rfl (Or.inl rfl)) (pgs_cons (pg_name (i := 8) sc_l_axes.nd rfl (Or.inl rfl)) pgs_nil)))))
    (pss_cons (ps_if (pt_cmpR op_lt (pv 8) pe_int (nomark _)) (pss_one (ps_set (i := 6) sc_l_axes.nd rfl (Or.inl rfl) (pe_op op_add (pv 6) (pe_op op_mul (pe_op op_sub (pv 7) pe_int) (pe_ix (ixL (K := K)) (pv 2) (pv 5) (fun _ _ => rfl)))))) pss_nil)
    (pss_cons (ps_set (i := 3) sc_l_axes.nd rfl (Or.inl rfl) (pe_op op_add (pv 3) (pe_op op_mul (pv 6) (pe_ix (ixL (K := K)) (pv 1) (pv 5) (fun _ _ => rfl)))))
    (pss_one (ps_expr (pe_bm PySem.F.plainAttrs_list PySem.F.slot_list_append PySem.F.type_list_append mt_append (pv 4) (pa_cons (pe_tup (pa_cons (pv 7) (pa_cons (pe_op op_mul (pe_op op_mul (pv 8) (pe_ix (ixL (K := K)) (pv 2) (pv 5) (fun _ _ => rfl))) (pe_ix (ixL (K := K)) (pv 1) (pv 5) (fun _ _ => rfl))) pa_nil))) pa_nil))))))))
    (pss_one (ps_ret (pe_tup (pa_cons (pv 3) (pa_cons (pv 4) pa_nil)))))))), ?_⟩
    refine (?_ : Run H L [] _ _ _) _ _ (start_st (N := N_l_axes) hd tr (Nat.le_of_ble_eq_true rfl))
    have emp : ([] : List (Addr × Mu)) = [] := rfl
    refine q_set ev_int (q_own (en_lst ea_nil) fun p => ?_)
    refine q_for (α := Int × List P2) (fd_of (fd_range (k := (Z.map fun z => tD z.1).length) (by rw [List.length_map]; omega) (ea_cons (ev_lenL (ea_cons (ev_var rfl) ea_nil)) ea_nil)) (by rw [List.length_map])) (fun y => [(p, .l (y.2.map pairD))])
      (fun y => [.d (.lst (Z.map fun z => tD z.1)), .d (.lst (Z.map fun z => .int z.2.1)), .d (.lst (Z.map fun z => .int z.2.2)), .d (.int y.1), .v (.ref p), .no, .no, .no, .no]) (fun i y => y = (((Z.take i).map zF1).sum, (Z.take i).map zF2)) (0, []) rfl rfl (Wk.refl _) ?_ ?_
    · rintro B hB i d ⟨f0, ax⟩ hd hy
      rw [List.getElem?_map] at hd
      cases e : (List.range Z.length)[i]? with
      | none => rw [e] at hd; cases hd
      | some j =>
        rw [e] at hd
        cases hd
        obtain ⟨h1, h2⟩ := List.getElem?_eq_some_iff.mp e
        rw [List.length_range] at h1
        rw [List.getElem_range] at h2
        subst h2
        have hzi : Z[i]? = some Z[i] := List.getElem?_eq_getElem h1
        generalize hgz : Z[i] = z at hzi
        obtain ⟨⟨st, mn, wy⟩, pc, sp⟩ := z
        have hok := hz _ (List.mem_of_getElem? hzi)
        obtain ⟨c1, c2, c3, c4, c5, c6, c7⟩ := hok
        replace c1 : 0 ≤ st := c1
        replace c2 : st ≤ 1000 := c2
        replace c3 : 1 ≤ mn := c3
        replace c4 : mn ≤ 1000 := c4
        replace c5 : wy = 1 ∨ wy = -1 := c5
        replace c6 : 1 ≤ sp := c6
        replace c7 : sp ≤ 4 := c7
        have at0 : atI (Z.map fun z => tD z.1) (i : Int) = some (tD (st, mn, wy)) := atI_n' (by rw [List.getElem?_map, hzi]; rfl)
        have at1 : atI (Z.map fun z => D.int z.2.1) (i : Int) = some (.int pc) := atI_n' (by rw [List.getElem?_map, hzi]; rfl)
        have at2 : atI (Z.map fun z => D.int z.2.2) (i : Int) = some (.int sp) := atI_n' (by rw [List.getElem?_map, hzi]; rfl)
        have m1 := Int.mul_le_mul (show mn - 1 ≤ 999 by omega) c7 (by omega) (by decide)
        have m2 : 0 ≤ (mn - 1) * sp := Int.mul_nonneg (by omega) (by omega)
        have nxt : ∀ f1 : Int, (if wy < 0 then st + (mn - 1) * sp else st) = f1 → (f0 + f1 * pc, ax ++ [(mn, wy * sp * pc)]) = (((Z.take (i + 1)).map zF1).sum, (Z.take (i + 1)).map zF2) := fun f1 hf => by
          obtain ⟨y1, y2⟩ := Prod.mk.inj hy
          rw [List.take_add_one, hzi, List.map_append, List.map_append, List.sum_append, ← y1, ← y2, ← hf]
          show _ = (f0 + ([zF1 ((st, mn, wy), pc, sp)] : List Int).sum, _)
          rw [List.sum_cons, List.sum_nil, Int.add_zero]
          rfl
        have haxl : (ax.map pairD).length < 1000 := by
          have y2 := (Prod.mk.inj hy).2
          rw [List.length_map, y2, List.length_map, List.length_take]
          omega
        refine ⟨_, [5], as_name (by decide), fun N hN => ?_⟩
        have nm : ((st, mn, wy) : T3).2.1 = mn := rfl
        refine q_asg (ss := [6, 7, 8]) (ev_ixL at0 (ev_var rfl) (ev_var rfl)) (as_tup rfl (asl_cons (as_name (by decide)) (asl_cons (as_name (by decide)) (asl_cons (as_name (by decide)) asl_nil)))) ?_
        have tail : ∀ (f1 : Int), (if wy < 0 then st + (mn - 1) * sp else st) = f1 → -5000 ≤ f1 → f1 ≤ 5000 → Nx B L [(p, .l ((f0 + f1 * pc, ax ++ [(mn, wy * sp * pc)]).2.map pairD))] [.d (.lst (Z.map fun z => tD z.1)), .d (.lst (Z.map fun z => .int z.2.1)), .d (.lst (Z.map fun z => .int z.2.2)), .d (.int (f0 + f1 * pc)), .v (.ref p), .d (.int (i : Int)), .d (.int f1), .d (.int mn), .d (.int wy)] N :=
          fun f1 hf _ _ => hN _ (nxt f1 hf) _ (.keep (.keep (.keep (.keep (.keep (.drop (.drop (.drop (.drop .nil)))))))))
        have app : ∀ y : P2, ax.map pairD ++ [pairD y] = (ax ++ [y]).map pairD := fun y => by rw [List.map_append]; rfl
        refine q_if (et_test (ev_lt (ev_var rfl) ev_int)) (fun hb => ?_) fun hb => ?_
        · have hw : wy < 0 := of_decide_eq_true hb
          refine s_set (d := .int (st + (mn - 1) * sp)) (ev_add (ev_var rfl) (ev_mul (.inr ⟨by omega, by omega⟩) (ev_sub (ev_var rfl) ev_int) (ev_ixL at2 (ev_var rfl) (ev_var rfl)))) ?_
          refine q_set (ev_add (ev_var rfl) (ev_mul (.inl ⟨by omega, by omega⟩) (ev_var rfl) (ev_ixL at1 (ev_var rfl) (ev_var rfl)))) ?_
          refine s_app (j := 0) (ds := ax.map pairD) (d := pairD (mn, wy * sp * pc)) rfl rfl haxl (ev_tup (ea_cons (ev_var rfl) (ea_cons (ev_mul (.inl (by rcases c5 with h | h <;> rw [h] <;> omega)) (ev_mul (.inr ⟨by omega, by omega⟩) (ev_var rfl) (ev_ixL at2 (ev_var rfl) (ev_var rfl))) (ev_ixL at1 (ev_var rfl) (ev_var rfl))) ea_nil))) ?_
          rw [app]
          exact tail (st + (mn - 1) * sp) (if_pos hw) (by omega) (by omega)
        · have hw : ¬ wy < 0 := of_decide_eq_false hb
          refine s_next ?_
          refine q_set (ev_add (ev_var rfl) (ev_mul (.inl ⟨by omega, by omega⟩) (ev_var rfl) (ev_ixL at1 (ev_var rfl) (ev_var rfl)))) ?_
          refine s_app (j := 0) (ds := ax.map pairD) (d := pairD (mn, wy * sp * pc)) rfl rfl haxl (ev_tup (ea_cons (ev_var rfl) (ea_cons (ev_mul (.inl (by rcases c5 with h | h <;> rw [h] <;> omega)) (ev_mul (.inr ⟨by omega, by omega⟩) (ev_var rfl) (ev_ixL at2 (ev_var rfl) (ev_var rfl))) (ev_ixL at1 (ev_var rfl) (ev_var rfl))) ea_nil))) ?_
          rw [app]
          exact tail _ (if_neg hw) (by omega) (by omega)
    · rintro ⟨f0, ax⟩ hy σ H1 s1
      rw [List.length_map, List.length_range, List.take_of_length_le (Nat.le_refl _)] at hy
      obtain ⟨y1, y2⟩ := Prod.mk.inj hy
      obtain ⟨v, e3, k3⟩ := s1.env.at_ 3 _ rfl
      cases k3
      obtain ⟨xs, hx1, hx2⟩ := s1.mu _ List.mem_cons_self
      refine ⟨_, e3, .ref p, s1.env.at_ 4 _ rfl, by show 2 ≤ sizeLine; decide, fun r hr => ?_⟩
      have s2 := s1.grow (same_new (o := .tup [.int f0, .ref p]) hr)
      have hp0 : H p = none := by
        cases e : H p with
        | none => rfl
        | some o =>
          have := s1.same p o e
          rw [hid_in (show p ∈ mus [(p, Mu.l (List.map pairD (f0, ax).2))] from List.mem_cons_self)] at this
          cases this
      have nr : r ≠ p := fun z => by rw [z, hx1] at hr; cases hr
      refine q r p xs _ s2.same0 hp0 ?_ ?_ ?_
      · rw [upd_same, ← y1]
      · rw [upd_ne (Ne.symm nr)]
        exact hx1
      · rw [← y2]
        exact hx2.mo (hid_mono (same_new hr))
end
end Pc

set_option Elab.async false
set_option linter.all false
set_option maxRecDepth 100000
set_option maxHeartbeats 1000000
/-! What the law comes to, in plain. -/
namespace Pm
open Pc PySem PySem.Spec PyProof.Rows L2

/-- what sharing two views comes to -/
def outOf (Y : List Qx) (g : Int) (most : Nat) : D := outD (vA Y) (vB Y) (terms (vA Y) (vB Y)) (search (terms (vA Y) (vB Y)) g most [wholeCase (terms (vA Y) (vB Y))] [])
theorem pair_ok {Y : List Qx} (h : SIq Y) (hA : AxOk (Y.map (·.a1))) (hB : AxOk (Y.map (·.a2))) {g : Int} {most : Nat} (hm : 4 * (tsOf Y).length + 1 ≤ most) :
    (Sol Y g → R_l_met [outOf Y g most, .lst ((Y.map (·.a1)).map pairD), .lst ((Y.map (·.a2)).map pairD), .int g] (.bl true)) ∧
    (¬ Sol Y g → ∃ paper, outOf Y g most = .tup [.str "apart", .lst (paper.map stepD)] ∧ paper.length ≤ most ∧ readB (terms (vA Y) (vB Y)) g [wholeCase (terms (vA Y) (vB Y))] paper = true) := by
  unfold outOf
  rw [terms_eq h]
  rcases search_ok (g := g) (ts_sums h).2 hm with ⟨c, e, hl, hx, hg⟩ | ⟨paper, e, hl, hr, hn⟩
  · obtain ⟨Z, h1, h2, h3, h4⟩ := sol_of h hx
    have hz : dotZ Z = g := h3.trans hg
    refine ⟨fun _ => ?_, fun z => absurd ⟨Z, h1, h2, hz⟩ z⟩
    rw [e]
    obtain ⟨e1, e2, e3, e4⟩ := places_ok h h1 h2 hz (numbers_agree h h1 h4)
    refine ⟨Y.map (·.a1), Y.map (·.a2), Z.map at1, Z.map at2, g, hA, hB, e2, e3, e4, ?_, rfl⟩
    show [D.tup [.str "shared", .tup ((placesBy (vA Y) (vB Y) (tsOf Y) c).1.map D.int), .tup ((placesBy (vA Y) (vB Y) (tsOf Y) c).2.map D.int)], _, _, _] = _
    rw [e1]
  · refine ⟨fun z => ?_, fun _ => ⟨paper, by rw [e]; rfl, hl, hr⟩⟩
    obtain ⟨Z, h1, h2, h3⟩ := z
    have hs : SIq (Z.map (·.1)) := by rw [h1]; exact h
    obtain ⟨x, y1, y2⟩ := sol_to hs h2
    rw [h1] at y1 y2
    exact absurd (y2.trans h3) (hn x y1)

/-! ### what is drawn -/
def sizeOf' (ns : List Int) (k : Nat) : Int := 1 + draw ns (3 + 4 * (k : Int)) (if draw ns 1 2 = 0 then 6 else 1000)
def stepOf (ns : List Int) (k : Nat) : Int := 1 + draw ns (4 + 4 * (k : Int)) 4 / (1 + draw ns 2 3)
def blk (ns : List Int) (j k : Nat) : T3 := block (draw ns (5 + (j : Int) + 4 * (k : Int)) 1000000000) (sizeOf' ns k) (stepOf ns k)
def axOf (ns : List Int) (k : Nat) : Ax := ⟨sizeOf' ns k, stepOf ns k, (blk ns 0 k).1, (blk ns 0 k).2.1, (blk ns 0 k).2.2, (blk ns 1 k).1, (blk ns 1 k).2.1, (blk ns 1 k).2.2⟩
def xr (ns : List Int) : Nat → List Ax
  | 0 => []
  | i + 1 => axOf ns i :: xr ns i
theorem size_ok (ns : List Int) (k : Nat) : 1 ≤ sizeOf' ns k ∧ sizeOf' ns k ≤ 1000 := by
  unfold sizeOf'
  split
  · have := draw_range ns (k := 3 + 4 * (k : Int)) (m := 6) (by decide)
    omega
  · have := draw_range ns (k := 3 + 4 * (k : Int)) (m := 1000) (by decide)
    omega
theorem step_ok (ns : List Int) (k : Nat) : 1 ≤ stepOf ns k ∧ stepOf ns k ≤ 4 := by
  unfold stepOf
  have h1 := draw_range ns (k := 4 + 4 * (k : Int)) (m := 4) (by decide)
  have h2 := draw_range ns (k := 2) (m := 3) (by decide)
  have h3 := Int.ediv_nonneg h1.1 (show 0 ≤ 1 + draw ns 2 3 by omega)
  have h4 := Int.ediv_le_self (1 + draw ns 2 3) h1.1
  omega
theorem ax_good (ns : List Int) (k : Nat) : (axOf ns k).Good := by
  obtain ⟨z1, z2⟩ := size_ok ns k
  obtain ⟨e1, e2⟩ := step_ok ns k
  have b := fun j : Nat => block_ok (v := draw ns (5 + (j : Int) + 4 * (k : Int)) 1000000000) (draw_range ns (by decide)).1 z1 e1
  obtain ⟨p1, p2, p3, p4, p5⟩ := b 0
  obtain ⟨q1, q2, q3, q4, q5⟩ := b 1
  exact ⟨z1, z2, e1, e2, p2, q2, p3, q3, p1, q1, p4, q4, p5, q5⟩
theorem xr_good (ns : List Int) : ∀ n, AllG (xr ns n)
  | 0 => fun x hx => by simp [xr] at hx
  | n + 1 => fun x hx => by
    rcases List.mem_cons.mp hx with e | e
    · rw [e]; exact ax_good ns n
    · exact xr_good ns n x e
theorem xr_len (ns : List Int) : ∀ n, (xr ns n).length = n
  | 0 => rfl
  | n + 1 => by show (xr ns n).length + 1 = n + 1; rw [xr_len ns n]
theorem AllG.map_sw {X : List Ax} (h : AllG X) : AllG (X.map Ax.sw) := fun x hx => by
  obtain ⟨y, hy, rfl⟩ := List.mem_map.mp hx
  exact (h y hy).sw
theorem AllG.map_dup {X : List Ax} (h : AllG X) : AllG (X.map Ax.dup) := fun x hx => by
  obtain ⟨y, hy, rfl⟩ := List.mem_map.mp hx
  exact (h y hy).dup
theorem zs_ok : ∀ {X : List Ax}, AllG X → ∀ z ∈ zs1 X, zOk z
  | [], _, z, hz => by simp [zs1] at hz
  | x :: X, h, z, hz => by
    rcases List.mem_cons.mp hz with e | e
    · rw [e]
      have g := h.head
      have u0 : x.m1 - 1 ≤ (x.m1 - 1) * x.step := by
        have := Int.mul_le_mul_of_nonneg_left g.e1 (show 0 ≤ x.m1 - 1 by have := g.a1; omega)
        omega
      have c1 := g.c1
      have b1 := g.b1
      have z2 := g.z2
      have a1 := g.a1
      refine ⟨g.b1, ?_, g.a1, ?_, g.w1, g.e1, g.e2⟩
      · show x.s1 ≤ 1000
        omega
      · show x.m1 ≤ 1000
        omega
    · exact zs_ok h.tail z e
theorem zs_sw : ∀ X : List Ax, (zs1 (X.map Ax.sw)).map (·.2) = (zs1 X).map (·.2)
  | [] => rfl
  | x :: X => by
    show (prodX (X.map Ax.sw), x.step) :: (zs1 (X.map Ax.sw)).map (·.2) = (prodX X, x.step) :: (zs1 X).map (·.2)
    rw [zs_sw X, prod_map Ax.sw fun _ => rfl]
theorem sum_rev : ∀ l : List Int, l.reverse.sum = l.sum
  | [] => rfl
  | x :: l => by
    rw [List.reverse_cons, List.sum_append, sum_rev l, List.sum_cons, List.sum_cons, List.sum_nil]
    omega
theorem ax_ok {X : List Ax} (h : AllG X) (hl : X.length ≤ 8) : AxOk ((ysX X).map (·.a1)) ∧ AxOk ((ysX X).map (·.a2)) := by
  have go : ∀ X : List Ax, AllG X → ∀ q ∈ ysX X, (1 ≤ q.m1 ∧ q.m1 ≤ 1000000000) ∧ (1 ≤ q.m2 ∧ q.m2 ≤ 1000000000) := by
    intro X
    induction X with
    | nil => intro _ q hq; simp [ysX] at hq
    | cons x X ih =>
      intro h q hq
      rcases List.mem_cons.mp hq with e | e
      · rw [e]
        have g := h.head
        have u1 : x.m1 - 1 ≤ (x.m1 - 1) * x.step := by
          have := Int.mul_le_mul_of_nonneg_left g.e1 (show 0 ≤ x.m1 - 1 by have := g.a1; omega)
          omega
        have u2 : x.m2 - 1 ≤ (x.m2 - 1) * x.step := by
          have := Int.mul_le_mul_of_nonneg_left g.e1 (show 0 ≤ x.m2 - 1 by have := g.a2; omega)
          omega
        have h1 := g.h1
        have h2 := g.h2
        have z2 := g.z2
        have a1 := g.a1
        have a2 := g.a2
        refine ⟨⟨a1, ?_⟩, ⟨a2, ?_⟩⟩
        · show x.m1 ≤ 1000000000
          omega
        · show x.m2 ≤ 1000000000
          omega
      · exact ih h.tail q e
  refine ⟨⟨by rw [List.length_map, ys_len]; exact hl, fun a ha => ?_⟩, ⟨by rw [List.length_map, ys_len]; exact hl, fun a ha => ?_⟩⟩
  · obtain ⟨q, hq, rfl⟩ := List.mem_map.mp ha
    exact (go X h q hq).1
  · obtain ⟨q, hq, rfl⟩ := List.mem_map.mp ha
    exact (go X h q hq).2
theorem ts_len (Y : List Qx) : (tsOf Y).length ≤ Y.length := by
  unfold tsOf
  rw [List.length_map]
  exact List.length_filter_le _ _
theorem t_ok {X : List Ax} (h : AllG X) (hl : X.length ≤ 4) : ∀ q ∈ ysX X, 0 < q.t ∧ q.t < 2 ^ 64 := by
  have go : ∀ X : List Ax, AllG X → X.length ≤ 4 → ∀ q ∈ ysX X, 0 < q.t ∧ q.t < 2 ^ 64 := by
    intro X
    induction X with
    | nil => intro _ _ q hq; simp [ysX] at hq
    | cons x X ih =>
      intro h hl q hq
      rcases List.mem_cons.mp hq with e | e
      · rw [e]
        have g := h.head
        have hp := prod_pos h.tail
        have hp2 := prod_le h.tail
        rw [List.length_cons] at hl
        have hp3 : (1000 : Int) ^ X.length ≤ 1000 ^ 3 := by
          match X.length, hl with
          | 0, _ => decide
          | 1, _ => decide
          | 2, _ => decide
          | 3, _ => decide
          | n + 4, hl => omega
        have m1 := Int.mul_le_mul g.e2 (Int.le_trans hp2 hp3) (by omega) (by decide)
        have m2 := Int.mul_le_mul g.e1 hp (by decide) (by have := g.e1; omega)
        show 0 < x.step * prodX X ∧ x.step * prodX X < 2 ^ 64
        omega
      · rw [List.length_cons] at hl
        exact ih h.tail (by omega) q e
  exact go X h hl
theorem ts_tok {X : List Ax} (h : AllG X) (hl : X.length ≤ 4) : TOk (terms (vA (ysX X)) (vB (ysX X))) := by
  rw [terms_eq (ys_si h).1]
  refine ⟨?_, fun t ht => ?_⟩
  · have := ts_len (ysX X)
    rw [ys_len] at this
    omega
  · unfold tsOf at ht
    obtain ⟨q, hq, rfl⟩ := List.mem_map.mp ht
    exact t_ok h hl q (List.mem_filter.mp hq).1
theorem ts_keys {Y : List Qx} (h : SIq Y) : ∀ x, x ∈ vA Y ∨ x ∈ vB Y → x.2 ≠ 0 → iabs x.2 ∈ (terms (vA Y) (vB Y)).map (·.1) := by
  rw [terms_eq h]
  have mem : ∀ q ∈ Y, q.pres = true → q.t ∈ (tsOf Y).map (·.1) := fun q hq hp => List.mem_map.mpr ⟨q.T, List.mem_map.mpr ⟨q, List.mem_filter.mpr ⟨hq, hp⟩, rfl⟩, rfl⟩
  rintro x (hx | hx) h0
  · obtain ⟨q, hq, rfl⟩ := List.mem_map.mp hx
    have k := kept1 (h.ok q hq)
    rw [k.2 h0]
    exact mem q hq (pres1 (k.1.mp h0))
  · obtain ⟨q, hq, rfl⟩ := List.mem_map.mp hx
    have k := kept2 (h.ok q hq)
    rw [k.2 h0]
    exact mem q hq (pres2 (k.1.mp h0))
theorem vA_kept (Y : List Qx) : (Y.map (·.a1)).map keptA = vA Y := by unfold vA; rw [List.map_map]; rfl
theorem vB_kept (Y : List Qx) : (Y.map (·.a2)).map keptA = vB Y := by unfold vB; rw [List.map_map]; rfl
theorem v_len (Y : List Qx) : (vA Y).length = Y.length ∧ (vB Y).length = Y.length := ⟨List.length_map _, List.length_map _⟩
/-- all blocks meet -/
def meetAll (X : List Ax) : Bool := X.all (·.meets)
theorem meetAll_iff (X : List Ax) : meetAll X = true ↔ ∀ x ∈ X, x.meets = true := List.all_eq_true
theorem sought_ok {X : List Ax} (h : AllG X) (hl : X.length ≤ 4) {C : Addr} {r f1 f2 : Int} {most : Nat} (h1 : 1 ≤ most) (h2 : most ≤ 200) :
    R_sought C [.vw C r f1 (vA (ysX X)), .vw C r f2 (vB (ysX X)), .int (most : Int)] (outOf (ysX X) (f2 - f1) most) ∧ ∃ x y : D, ∃ m : Int, [.vw C r f1 (vA (ysX X)), .vw C r f2 (vB (ysX X)), .int (most : Int)] = [x, y, .int m] ∧ 1 ≤ m := by
  have si := (ys_si h).1
  refine ⟨⟨r, f1, f2, vA (ysX X), vB (ysX X), most, ?_, ?_, ts_tok h hl, ?_, h2, ts_keys si, rfl, rfl⟩, _, _, _, rfl, by omega⟩
  · rw [(v_len _).1, ys_len]; omega
  · rw [(v_len _).2, ys_len]; omega
  · rw [terms_eq si]
    have := ts_len (ysX X)
    rw [ys_len] at this
    omega
/-- what the law asks of a sharing -/
theorem right_ok {X : List Ax} (h : AllG X) (hl : X.length ≤ 4) {most : Nat} (hm : most = 1 + 4 * (tsOf (ysX X)).length) {b : Bool} (hb : b = meetAll X) :
    R_l_right [outOf (ysX X) (first2 X - first1 X) most, .lst (((ysX X).map (·.a1)).map pairD), .lst (((ysX X).map (·.a2)).map pairD), .int (first2 X - first1 X), .bl b] (.bl true) := by
  have si := (ys_si h).1
  obtain ⟨hA, hB⟩ := ax_ok h (by omega)
  obtain ⟨p1, p2⟩ := pair_ok si hA hB (g := first2 X - first1 X) (most := most) (by omega)
  have iff := sol_iff h
  refine ⟨_, (ysX X).map (·.a1), (ysX X).map (·.a2), _, _, hA, hB, rfl, rfl, fun z => ?_, fun z => ?_⟩
  · refine p1 (iff.mpr ?_)
    rw [← meetAll_iff, ← hb]
    exact z
  · rw [vA_kept, vB_kept]
    have hn : ¬ Sol (ysX X) (first2 X - first1 X) := fun q => by
      have := (meetAll_iff X).mpr (iff.mp q)
      rw [← hb, z] at this
      cases this
    obtain ⟨paper, e1, e2, e3⟩ := p2 hn
    have := ts_len (ysX X)
    rw [ys_len] at this
    refine ⟨ts_tok h hl, paper, e1, by omega, ?_, e3⟩
    rw [terms_eq si]
    omega
theorem apart_ok {X : List Ax} (h : AllG X) (hl : X.length ≤ 4) {C : Addr} {r f1 f2 : Int} {most : Nat} (hm : most = 1 + 4 * (tsOf (ysX X)).length) (hf1 : f1 = first1 X) (hf2 : f2 = first2 X) (hb : meetAll X = false) :
    ∃ ps : D, outOf (ysX X) (f2 - f1) most = .tup [.str "apart", ps] ∧ R_is_apart C [.vw C r f1 (vA (ysX X)), .vw C r f2 (vB (ysX X)), ps] (.bl true) := by
  have si := (ys_si h).1
  obtain ⟨hA, hB⟩ := ax_ok h (by omega)
  obtain ⟨_, p2⟩ := pair_ok si hA hB (g := f2 - f1) (most := most) (by omega)
  have iff := sol_iff h
  have hn : ¬ Sol (ysX X) (f2 - f1) := fun q => by
    rw [hf1, hf2] at q
    have := (meetAll_iff X).mpr (iff.mp q)
    rw [hb] at this
    cases this
  obtain ⟨paper, e1, e2, e3⟩ := p2 hn
  have := ts_len (ysX X)
  rw [ys_len] at this
  refine ⟨_, e1, r, f1, f2, _, _, paper, ?_, ?_, ts_tok h hl, by omega, readP_of e3, rfl, rfl⟩
  · rw [(v_len _).1, ys_len]; omega
  · rw [(v_len _).2, ys_len]; omega
theorem self_ok {X : List Ax} (h : AllG X) (hl : X.length ≤ 4) {most : Nat} (hm : 21 ≤ most) :
    R_l_met [outOf (ysX (X.map Ax.dup)) 0 most, .lst (((ysX X).map (·.a1)).map pairD), .lst (((ysX X).map (·.a1)).map pairD), .int 0] (.bl true) := by
  have hd := h.map_dup
  have si := (ys_si hd).1
  obtain ⟨hA, hB⟩ := ax_ok hd (by rw [List.length_map]; omega)
  have := ts_len (ysX (X.map Ax.dup))
  rw [ys_len, List.length_map] at this
  obtain ⟨p1, _⟩ := pair_ok si hA hB (g := 0) (most := most) (by omega)
  obtain ⟨_, _, e3, e4⟩ := ys_dup X
  have := p1 (sol_zero si)
  rw [← e3, ← e4] at this
  exact this
end Pm

set_option Elab.async false
set_option linter.all false
set_option maxRecDepth 100000
set_option maxHeartbeats 8000000
/-! the law. -/
namespace Pc
open PySem PySem.Spec PyProof.Rows L2 Pm

def spLaw (K : PySem.W.Frag) : Sp := fun vs H Q _ => ∃ (a : Addr) (ns : List Int), vs = [.ref a] ∧ SqL K H a (ns.map V.int) ∧ ns.length ≤ 63 ∧ ∀ H', Q (.bl true) H'
theorem atI_last {α : Type} (xs : List α) (x : α) : atI (xs ++ [x]) (-1) = some x := by
  unfold atI ixN
  rw [if_neg (by decide), if_pos (by rw [List.length_append, List.length_singleton]; omega)]
  show (xs ++ [x])[((-1 : Int) + ((xs ++ [x]).length : Nat)).toNat]? = _
  rw [List.length_append, List.length_singleton, show ((-1 : Int) + ((xs.length + 1 : Nat) : Int)).toNat = xs.length by omega, List.getElem?_append_right (Nat.le_refl _), Nat.sub_self]
  rfl
/-- the lists of the loop, in the order of the loop -/
def pacD (X : List Ax) : List D := (zs1 X).reverse.map fun z => .int z.2.1
def stpD (X : List Ax) : List D := (zs1 X).reverse.map fun z => .int z.2.2
def blkD (X : List Ax) : List D := (zs1 X).reverse.map fun z => tD z.1
theorem pac_cons (x : Ax) (X : List Ax) : pacD (x :: X) = pacD X ++ [.int (prodX X)] := by unfold pacD; show List.map _ (List.reverse (_ :: zs1 X)) = _; rw [List.reverse_cons, List.map_append]; rfl
theorem stp_cons (x : Ax) (X : List Ax) : stpD (x :: X) = stpD X ++ [.int x.step] := by unfold stpD; show List.map _ (List.reverse (_ :: zs1 X)) = _; rw [List.reverse_cons, List.map_append]; rfl
theorem blk_cons (x : Ax) (X : List Ax) : blkD (x :: X) = blkD X ++ [tD (x.s1, x.m1, x.w1)] := by unfold blkD; show List.map _ (List.reverse (_ :: zs1 X)) = _; rw [List.reverse_cons, List.map_append]; rfl
theorem pac_len (X : List Ax) : (pacD X).length = X.length := by unfold pacD; rw [List.length_map, List.length_reverse, zs_len]
theorem stp_len (X : List Ax) : (stpD X).length = X.length := by unfold stpD; rw [List.length_map, List.length_reverse, zs_len]
theorem blk_len (X : List Ax) : (blkD X).length = X.length := by unfold blkD; rw [List.length_map, List.length_reverse, zs_len]
theorem pac_sw (X : List Ax) : pacD (X.map Ax.sw) = pacD X := by
  have e := zs_sw X
  unfold pacD
  rw [List.map_reverse, List.map_reverse]
  have e2 := congrArg (List.map fun z : Int × Int => D.int z.1) e
  rw [List.map_map, List.map_map] at e2
  exact congrArg List.reverse e2
theorem stp_sw (X : List Ax) : stpD (X.map Ax.sw) = stpD X := by
  have e := zs_sw X
  unfold stpD
  rw [List.map_reverse, List.map_reverse]
  have e2 := congrArg (List.map fun z : Int × Int => D.int z.2) e
  rw [List.map_map, List.map_map] at e2
  exact congrArg List.reverse e2
theorem firsts (X : List Ax) : ((zs1 X).reverse.map zF1).sum = first1 X := by rw [List.map_reverse, sum_rev]; rfl
theorem axess (X : List Ax) : (((zs1 X).reverse.map zF2).map pairD).reverse = ((ysX X).map (·.a1)).map pairD := by
  rw [List.map_reverse, List.map_reverse, List.reverse_reverse, axes1]
/-- the inner loop: a block for each side -/
def addB (bs : List D) (b : T3) (c : Bool) : List D := if c = true then bs ++ [tD b] else bs

section
variable {P : Program} {w : World} {K : PySem.W.Frag} {mg : Str → Option Value} {base : Heap}

theorem ok_law {C : Addr} (T : Txt mg) (VC : VT K C) (C__law_draw : Fn P w K mg base 1 "_law_draw" ["_law_script", "_law_k", "_law_many"] (spDraw K)) (C__law_block : Fn P w K mg base 1 "_law_block" ["_law_cell_here", "_law_size", "_law_step"] (spP R_l_block))
    (C__law_meet : Fn P w K mg base 1 "_law_meet" ["_law_one", "_law_other", "_law_step"] (spP R_l_meet)) (C__law_axes : Fn P w K mg base 1 "_law_axes" ["_law_blocks", "_law_paces", "_law_steps"] spAxes) (CV : FnV P w K mg base 4 C (spInit C))
    (C__law_terms : Fn P w K mg base 1 "_law_terms" ["_law_one", "_law_other"] (spP R_l_terms)) (C_shares : Fn P w K mg base 6 "shares" ["one", "other", "most"] (spP fun ds d => R_sought C ds d ∧ ∃ x y, ∃ m : Int, ds = [x, y, .int m] ∧ 1 ≤ m))
    (C__law_right : Fn P w K mg base 6 "_law_right" ["_law_found", "_law_one", "_law_other", "_law_goal", "_law_meet_here"] (spP R_l_right)) (C_is_apart : Fn P w K mg base 4 "is_apart" ["one", "other", "paper"] (spP (R_is_apart C)))
    (C__law_met : Fn P w K mg base 3 "_law_met" ["_law_found", "_law_one", "_law_other", "_law_goal"] (spP R_l_met)) {f : Addr} {fd : FuncData} (F : Fun K "law" "law" s_law f fd) : FnOk P w K mg base CX0 7 f fd ["_law_script"] (spLaw K) := by
  obtain ⟨fV, fdV, MV, GV, gV, bV⟩ := CV.ex
  refine F.ok sc_law (fun vs H Q E h => ?_) (fun cdv A outer s H vs Q E hr h => ?_)
  · obtain ⟨a, ns, rfl, _⟩ := h; rfl
  · obtain ⟨a, ns, rfl, hS, hl, q⟩ := h
    refine ⟨_, (pss_cons (ps_set (i := 1) sc_law.nd rfl (Or.inl rfl) (pe_lst pa_nil))
    (pss_cons (ps_set (i := 2) sc_law.nd rfl (Or.inl rfl) (pe_lst pa_nil))
    (pss_cons (ps_set (i := 3) sc_law.nd rfl (Or.inl rfl) (pe_lst (pa_cons (pe_lst pa_nil) (pa_cons (pe_lst pa_nil) pa_nil))))
    (pss_cons (ps_set (i := 4) sc_law.nd rfl (Or.inl rfl) pe_int)
    (pss_cons (ps_set (i := 5) sc_law.nd rfl (Or.inl rfl) pe_bl)
    (pss_cons (ps_for PassesOwn.never rfl (pi_range1 (by rfl) T.zrange (pa_cons (pe_op op_add pe_int (pe_fn C__law_draw (hr.mono (by decide)) (by rfl) (pa_cons (pv 0) (pa_cons pe_int (pa_cons pe_int pa_nil))))) pa_nil)) (pg_name (i := 6) sc_law.nd rfl (Or.inl rfl)) (pss_cons (ps_set (i := 7) sc_law.nd rfl (Or.inl rfl) (pe_op op_add pe_int (pe_fn C__law_draw (hr.mono (by decide)) (by rfl) (pa_cons (pv 0) (pa_cons (pe_op op_add pe_int (pe_op op_mul pe_int (pv 6))) (pa_cons (pe_ix (ixL (K := K)) (pe_lst (pa_cons pe_int (pa_cons pe_int pa_nil))) (pe_fn C__law_draw (hr.mono (by decide)) (by rfl) (pa_cons (pv 0) (pa_cons pe_int (pa_cons pe_int pa_nil)))) (fun _ _ => rfl)) pa_nil))))))
    (pss_cons (ps_expr (pe_bm PySem.F.plainAttrs_list PySem.F.slot_list_append PySem.F.type_list_append mt_append (pv 2) (pa_cons (pe_op op_add pe_int (pe_op op_fdiv (pe_fn C__law_draw (hr.mono (by decide)) (by rfl) (pa_cons (pv 0) (pa_cons (pe_op op_add pe_int (pe_op op_mul pe_int (pv 6))) (pa_cons pe_int pa_nil)))) (pe_op op_add pe_int (pe_fn C__law_draw (hr.mono (by decide)) (by rfl) (pa_cons (pv 0) (pa_cons pe_int (pa_cons pe_int pa_nil))))))) pa_nil)))
    (pss_cons (ps_expr (pe_bm PySem.F.plainAttrs_list PySem.F.slot_list_append PySem.F.type_list_append mt_append (pv 1) (pa_cons (pv 4) pa_nil)))
    (pss_cons (ps_set (i := 4) sc_law.nd rfl (Or.inl rfl) (pe_op op_mul (pv 4) (pv 7)))
    (pss_cons (ps_for PassesOwn.never rfl (pi_range1 (by rfl) T.zrange (pa_cons pe_int pa_nil)) (pg_name (i := 8) sc_law.nd rfl (Or.inl rfl)) (pss_one (ps_expr (pe_bm PySem.F.plainAttrs_list PySem.F.slot_list_append PySem.F.type_list_append mt_append (pe_ix (ixL (K := K)) (pv 3) (pv 8) (fun _ _ => rfl)) (pa_cons (pe_fn C__law_block (hr.mono (by decide)) (by rfl) (pa_cons (pe_fn C__law_draw (hr.mono (by decide)) (by rfl) (pa_cons (pv 0) (pa_cons (pe_op op_add (pe_op op_add pe_int (pv 8)) (pe_op op_mul pe_int (pv 6))) (pa_cons (pe_op op_pow pe_int pe_int) pa_nil)))) (pa_cons (pv 7) (pa_cons (pe_ix (ixL (K := K)) (pv 2) (pe_un un_neg pe_int) (fun _ _ => rfl)) pa_nil)))) pa_nil)))))
    (pss_one (ps_set (i := 5) sc_law.nd rfl (Or.inl rfl) (pe_and (pv 5) (pe_one (pe_fn C__law_meet (hr.mono (by decide)) (by rfl) (pa_cons (pe_ix (ixL (K := K)) (pe_ix (ixL (K := K)) (pv 3) pe_int (fun _ _ => rfl)) (pe_un un_neg pe_int) (fun _ _ => rfl)) (pa_cons (pe_ix (ixL (K := K)) (pe_ix (ixL (K := K)) (pv 3) pe_int (fun _ _ => rfl)) (pe_un un_neg pe_int) (fun _ _ => rfl)) (pa_cons (pe_ix (ixL (K := K)) (pv 2) (pe_un un_neg pe_int) (fun _ _ => rfl)) pa_nil))))))))))))))
    (pss_cons (ps_asg (pe_fn C__law_axes (hr.mono (by decide)) (by rfl) (pa_cons (pe_ix (ixL (K := K)) (pv 3) pe_int (fun _ _ => rfl)) (pa_cons (pv 1) (pa_cons (pv 2) pa_nil)))) (pg_tup rfl (pgs_cons (pg_name (i := 9) sc_law.nd rfl (Or.inl rfl)) (pgs_cons (pg_name (i := 10) sc_law.nd rfl (Or.inl rfl)) pgs_nil))))
    (pss_cons (ps_asg (pe_fn C__law_axes (hr.mono (by decide)) (by rfl) (pa_cons (pe_ix (ixL (K := K)) (pv 3) pe_int (fun _ _ => rfl)) (pa_cons (pv 1) (pa_cons (pv 2) pa_nil)))) (pg_tup rfl (pgs_cons (pg_name (i := 11) sc_law.nd rfl (Or.inl rfl)) (pgs_cons (pg_name (i := 12) sc_law.nd rfl (Or.inl rfl)) pgs_nil))))
    (pss_cons (ps_set (i := 13) sc_law.nd rfl (Or.inl rfl) (pe_make MV GV (hr.mono (by decide)) (by rfl) gV bV .nil pass0 (pa_cons (pv 4) (pa_cons (pv 9) (pa_cons (pe_listRev rfl (by rfl) T.zlist (by rfl) T.zreversed (pv 10)) pa_nil)))))
    (pss_cons (ps_set (i := 14) sc_law.nd rfl (Or.inl rfl) (pe_make MV GV (hr.mono (by decide)) (by rfl) gV bV .nil pass0 (pa_cons (pv 4) (pa_cons (pv 11) (pa_cons (pe_listRev rfl (by rfl) T.zlist (by rfl) T.zreversed (pv 12)) pa_nil)))))
    (pss_cons (ps_expr (pe_bm0 PySem.F.plainAttrs_list PySem.F.slot_list_reverse PySem.F.type_list_reverse mt_reverse (pv 10)))
    (pss_cons (ps_expr (pe_bm0 PySem.F.plainAttrs_list PySem.F.slot_list_reverse PySem.F.type_list_reverse mt_reverse (pv 12)))
    (pss_cons (ps_set (i := 15) sc_law.nd rfl (Or.inl rfl) (pe_op op_add pe_int (pe_op op_mul pe_int (pe_callB call_len_seq (by rfl) T.zlen (by decide +kernel) (pa_cons (pe_fn C__law_terms (hr.mono (by decide)) (by rfl) (pa_cons (pv 10) (pa_cons (pv 12) pa_nil))) pa_nil)))))
    (pss_cons (ps_set (i := 16) sc_law.nd rfl (Or.inl rfl) (pe_fn C_shares (hr.mono (by decide)) (by rfl) (pa_cons (pv 13) (pa_cons (pv 14) (pa_cons (pv 15) pa_nil)))))
    (pss_cons (ps_if (pt_not (pt_val (pe_fn C__law_right (hr.mono (by decide)) (by rfl) (pa_cons (pv 16) (pa_cons (pv 10) (pa_cons (pv 12) (pa_cons (pe_op op_sub (pv 11) (pv 9)) (pa_cons (pv 5) pa_nil)))))))) (pss_one (ps_ret pe_bl)) pss_nil)
    (pss_cons (ps_if (PW.pt (pw_and (pt_not (pt_val (pv 5))) (pw_and1 (pt_cmpR op_notBl (pe_fn C_is_apart (hr.mono (by decide)) (by rfl) (pa_cons (pv 13) (pa_cons (pv 14) (pa_cons (pe_ix (ixT (K := K)) (pv 16) pe_int (fun _ _ => rfl)) pa_nil)))) pe_bl (nomark _))))) (pss_one (ps_ret pe_bl)) pss_nil)
    (pss_cons (ps_if (pt_not (pt_val (pe_fn C__law_met (hr.mono (by decide)) (by rfl) (pa_cons (pe_fn C_shares (hr.mono (by decide)) (by rfl) (pa_cons (pv 13) (pa_cons (pv 13) (pa_cons (pe_op op_add (pv 15) pe_int) pa_nil)))) (pa_cons (pv 10) (pa_cons (pv 10) (pa_cons pe_int pa_nil))))))) (pss_one (ps_ret pe_bl)) pss_nil)
    (pss_one (ps_ret (pe_fn C__law_right (hr.mono (by decide)) (by rfl) (pa_cons (pe_fn C_shares (hr.mono (by decide)) (by rfl) (pa_cons (pv 14) (pa_cons (pv 13) (pa_cons (pv 15) pa_nil)))) (pa_cons (pv 12) (pa_cons (pv 10) (pa_cons (pe_op op_sub (pv 9) (pv 11)) (pa_cons (pv 5) pa_nil))))))))))))))))))))))))), ?_⟩
    have st : St0 H [] [] [.v (.ref a), .no, .no, .no, .no, .no, .no, .no, .no, .no, .no, .no, .no, .no, .no, .no, .no] (L2.start N_law [.ref a]) H := by
      refine ⟨?_, fun b hb => (nomatch hb), List.nodup_nil, fun b hb => (nomatch hb), fun p hp => (nomatch hp), env_cons rfl (env_no (env_no (env_no (env_no (env_no (env_no (env_no (env_no (env_no (env_no (env_no (env_no (env_no (env_no (env_no (env_no env_nil))))))))))))))))⟩
      show Same H (hid [] H)
      rw [hid_nil]
      exact Same.refl H
    refine (?_ : Run H [] [] _ _ _) _ _ st
    have ret : Rt H [] { nx := fun _ H' => Q .non H', rt := Q } (.bl true) := fun u H' e k1 => by
      cases k1
      exact q H'
    refine q_own (en_lst ea_nil) fun p1 => q_own (en_lst ea_nil) fun p2 => q_ownB fun b0 b1 b2 => q_set ev_int (q_set ev_bl ?_)
    have dr := draw_range ns (k := 0) (m := 4) (by decide)
    obtain ⟨n, hn⟩ := Int.eq_ofNat_of_zero_le (show 0 ≤ 1 + draw ns 0 4 by omega)
    have hn4 : n ≤ 4 := by omega
    refine q_for (α := Nat) (fd_range (k := n) (by omega) (ea_cons (Ev.of (ev_add ev_int (ev_draw hS rfl hl (by decide) (by decide) (by decide) ev_int ev_int)) (congrArg D.int hn)) ea_nil))
      (fun i => [(b0, .o (.lst [.ref b1, .ref b2])), (b2, .l (blkD ((xr ns i).map Ax.sw))), (b1, .l (blkD (xr ns i))), (p2, .l (stpD (xr ns i))), (p1, .l (pacD (xr ns i)))])
      (fun i => [.v (.ref a), .v (.ref p1), .v (.ref p2), .v (.ref b0), .d (.int (prodX (xr ns i))), .d (.bl (meetAll (xr ns i))), .no, .no, .no, .no, .no, .no, .no, .no, .no, .no, .no]) (fun i j => j = i) 0 rfl rfl (Wk.refl _) ?_ ?_
    · intro B hB i d i' hd hi'
      subst hi'
      rw [List.getElem?_map] at hd
      cases e : (List.range n)[i']? with
      | none => rw [e] at hd; cases hd
      | some j =>
        rw [e] at hd
        cases hd
        obtain ⟨h1, h2⟩ := List.getElem?_eq_some_iff.mp e
        rw [List.length_range] at h1
        rw [List.getElem_range] at h2
        subst h2
        have hSB : SqL K B a (ns.map V.int) := hB.seq hS
        obtain ⟨z1, z2⟩ := size_ok ns i'
        obtain ⟨e1, e2⟩ := step_ok ns i'
        have hg := ax_good ns i'
        refine ⟨_, [6], as_name (by decide), fun N hN => ?_⟩
        have d12 := draw_range ns (k := 1) (m := 2) (by decide)
        have d23 := draw_range ns (k := 2) (m := 3) (by decide)
        have hk3 : Ev B [] [] [] (tC (.int 0)) (.int 0) := ev_int
        -- the size
        refine q_set (d := .int (sizeOf' ns i')) (Ev.of (ev_add ev_int (ev_draw (m := if draw ns 1 2 = 0 then 6 else 1000) hSB rfl hl (by omega) (by omega) (by split <;> decide) (ev_add ev_int (ev_mul (.inl (by decide)) ev_int (ev_var rfl)))
          (ev_ixL (ds := [.int 6, .int 1000]) (n := draw ns 1 2) ?_ (EvN.ev (en_lst (ea_cons ev_int (ea_cons ev_int ea_nil)))) (ev_draw hSB rfl hl (by decide) (by decide) (by decide) ev_int ev_int)))) rfl) ?_
        · by_cases h0 : draw ns 1 2 = 0
          · rw [if_pos h0, h0]
            exact atI0
          · rw [if_neg h0, show draw ns 1 2 = 1 by omega]
            exact atI1
        -- the step
        refine q_app (j := 3) (ds := stpD (xr ns i')) (d := .int (stepOf ns i')) rfl rfl (by rw [stp_len, xr_len]; omega) (Ev.of (ev_add ev_int (ev_fdiv (⟨by omega, by omega⟩ : CDiv _ (1 + draw ns 2 3)) (ev_draw hSB rfl hl (by omega) (by omega) (by decide) (ev_add ev_int (ev_mul (.inl (by decide)) ev_int (ev_var rfl))) ev_int) (ev_add ev_int (ev_draw hSB rfl hl (by decide) (by decide) (by decide) ev_int ev_int)))) rfl) ?_
        -- the pace
        refine q_app (j := 4) (ds := pacD (xr ns i')) (d := .int (prodX (xr ns i'))) rfl rfl (by rw [pac_len, xr_len]; omega) (ev_var rfl) ?_
        refine q_set (d := .int (prodX (xr ns (i' + 1)))) (ev_mul (.inr (show -(2 ^ 64) < sizeOf' ns i' ∧ sizeOf' ns i' < 2 ^ 64 from ⟨by omega, by omega⟩)) (ev_var rfl) (ev_var rfl)) ?_
        -- the blocks
        refine q_for (α := Nat) (fd_range (k := 2) (by decide) (ea_cons ev_int ea_nil))
          (fun j => [(b0, .o (.lst [.ref b1, .ref b2])), (b2, .l (addB (blkD ((xr ns i').map Ax.sw)) (blk ns 1 i') (decide (2 ≤ j)))), (b1, .l (addB (blkD (xr ns i')) (blk ns 0 i') (decide (1 ≤ j)))), (p2, .l (stpD (xr ns i') ++ [.int (stepOf ns i')])), (p1, .l (pacD (xr ns i') ++ [.int (prodX (xr ns i'))]))])
          (fun j => [.v (.ref a), .v (.ref p1), .v (.ref p2), .v (.ref b0), .d (.int (prodX (xr ns (i' + 1)))), .d (.bl (meetAll (xr ns i'))), .d (.int (i' : Int)), .d (.int (sizeOf' ns i')), .no, .no, .no, .no, .no, .no, .no, .no, .no]) (fun j j' => j' = j) 0 rfl rfl (Wk.refl _) ?_ ?_
        · intro B2 hB2 j d j' hd hj'
          subst hj'
          have hSB2 : SqL K B2 a (ns.map V.int) := hB2.seq hSB
          have hj : j' < 2 ∧ d = .int (j' : Int) := by
            rw [List.getElem?_map] at hd
            cases e : (List.range 2)[j']? with
            | none => rw [e] at hd; cases hd
            | some y =>
              rw [e] at hd
              cases hd
              obtain ⟨h1, h2⟩ := List.getElem?_eq_some_iff.mp e
              rw [List.length_range] at h1
              rw [List.getElem_range] at h2
              rw [← h2]
              exact ⟨h1, rfl⟩
          obtain ⟨hj2, rfl⟩ := hj
          refine ⟨_, [8], as_name (by decide), fun N hN => ?_⟩
          have dv := draw_range ns (k := 5 + (j' : Int) + 4 * (i' : Int)) (m := 1000000000) (by decide)
          have bl : ∀ (es : List En) (ms : List (Addr × Mu)), es[0]? = some (.v (.ref a)) → es[6]? = some (.d (.int (i' : Int))) → es[7]? = some (.d (.int (sizeOf' ns i'))) → es[8]? = some (.d (.int (j' : Int))) → es[2]? = some (.v (.ref p2)) → ms[3]? = some (p2, .l (stpD (xr ns i') ++ [.int (stepOf ns i')])) →
              Ev B2 [] ms es (tCall (spP R_l_block) [] E0 (tCons (tCall (spDraw K) [] E0 (tCons (tVar 0) (tCons (tOp (rI0 fun i j => .int (i + j)) (tOp (rI0 fun i j => .int (i + j)) (tC (.int 5)) (tVar 8)) (tOp (rI CMul fun i j => .int (i * j)) (tC (.int 4)) (tVar 6))) (tCons (tOp (rI CPow fun i j => .int (i ^ j.toNat)) (tC (.int 10)) (tC (.int 9))) tNil)))) (tCons (tVar 7) (tCons (tOp (rIxL K) (tVar 2) (tUn (rU fun i => .int (-i)) (tC (.int 1)))) tNil)))) (tD (blk ns j' i')) := fun es ms h0 h6 h7 h8 h2 hp =>
            ev_call (R := R_l_block) ⟨draw ns (5 + (j' : Int) + 4 * (i' : Int)) 1000000000, sizeOf' ns i', stepOf ns i', dv.1, by omega, z1, z2, e1, e2, rfl, rfl⟩
              (ea_cons (ev_draw hSB2 h0 hl (by omega) (by omega) (by decide) (ev_add (ev_add ev_int (ev_var h8)) (ev_mul (.inl (by decide)) ev_int (ev_var h6))) (Ev.of (ev_pow (show CPow 10 9 from ⟨by decide, by decide, by decide⟩) ev_int ev_int) rfl)) (ea_cons (ev_var h7) (ea_cons (ev_ixM (j := 3) h2 hp (atI_last _ _) (ev_neg ev_int)) ea_nil)))
          rcases (show j' = 0 ∨ j' = 1 by omega) with hj | hj
          · subst hj
            refine s_appV (j := 2) (a := b1) (ds := blkD (xr ns i')) (d := tD (blk ns 0 i')) (evv_ixO (j := 0) (xs := [.ref b1, .ref b2]) rfl rfl atI0 (ev_var rfl)) rfl (by rw [blk_len, xr_len]; omega) (bl _ _ rfl rfl rfl rfl rfl rfl) ?_
            exact hN 1 rfl _ (.keep (.keep (.keep (.keep (.keep (.keep (.keep (.keep (.drop (.keep (.keep (.keep (.keep (.keep (.keep (.keep (.keep .nil)))))))))))))))))
          · subst hj
            refine s_appV (j := 1) (a := b2) (ds := blkD ((xr ns i').map Ax.sw)) (d := tD (blk ns 1 i')) (evv_ixO (j := 0) (xs := [.ref b1, .ref b2]) rfl rfl atI1 (ev_var rfl)) rfl (by rw [blk_len, List.length_map, xr_len]; omega) (bl _ _ rfl rfl rfl rfl rfl rfl) ?_
            exact hN 2 rfl _ (.keep (.keep (.keep (.keep (.keep (.keep (.keep (.keep (.drop (.keep (.keep (.keep (.keep (.keep (.keep (.keep (.keep .nil)))))))))))))))))
        · intro j hj
          have hj2 : j = 2 := hj
          subst hj2
          have eb1 : addB (blkD (xr ns i')) (blk ns 0 i') (decide (1 ≤ 2)) = blkD (xr ns i') ++ [tD (blk ns 0 i')] := if_pos rfl
          have eb2 : addB (blkD ((xr ns i').map Ax.sw)) (blk ns 1 i') (decide (2 ≤ 2)) = blkD ((xr ns i').map Ax.sw) ++ [tD (blk ns 1 i')] := if_pos rfl
          rw [eb1, eb2]
          have zo1 : zOk (blk ns 0 i', 1, stepOf ns i') := zs_ok (X := [axOf ns i']) (fun x hx => by rw [List.mem_singleton.mp hx]; exact hg) _ List.mem_cons_self
          have zo2 : zOk (blk ns 1 i', 1, stepOf ns i') := zs_ok (X := [(axOf ns i').sw]) (fun x hx => by rw [List.mem_singleton.mp hx]; exact hg.sw) _ List.mem_cons_self
          have neg1 : ∀ (ms : List (Addr × Mu)) (es : List En), Ev B [] ms es (tUn (rU fun i => .int (-i)) (tC (.int 1))) (.int (-1)) := fun ms es => ev_neg ev_int
          refine s_set (d := .bl (meetAll (xr ns (i' + 1)))) (Ev.of (ev_andV (ev_var rfl) fun _ => ev_call (R := R_l_meet) ⟨blk ns 0 i', blk ns 1 i', stepOf ns i', zo1, zo2, rfl, rfl⟩
            (ea_cons (ev_ixV (j := 2) (evv_ixO (j := 0) (xs := [.ref b1, .ref b2]) rfl rfl atI0 ev_int) rfl (atI_last _ _) (neg1 _ _)) (ea_cons (ev_ixV (j := 1) (evv_ixO (j := 0) (xs := [.ref b1, .ref b2]) rfl rfl atI1 ev_int) rfl (atI_last _ _) (neg1 _ _)) (ea_cons (ev_ixM (j := 3) rfl rfl (atI_last _ _) (neg1 _ _)) ea_nil)))) (congrArg D.bl (Bool.and_comm _ _))) ?_
          have en : xr ns (i' + 1) = axOf ns i' :: xr ns i' := rfl
          have q1 : blkD (xr ns i') ++ [tD (blk ns 0 i')] = blkD (xr ns (i' + 1)) := (blk_cons (axOf ns i') (xr ns i')).symm
          have q2 : blkD ((xr ns i').map Ax.sw) ++ [tD (blk ns 1 i')] = blkD ((xr ns (i' + 1)).map Ax.sw) := (blk_cons (axOf ns i').sw ((xr ns i').map Ax.sw)).symm
          have q3 : stpD (xr ns i') ++ [.int (stepOf ns i')] = stpD (xr ns (i' + 1)) := (stp_cons (axOf ns i') (xr ns i')).symm
          have q4 : pacD (xr ns i') ++ [.int (prodX (xr ns i'))] = pacD (xr ns (i' + 1)) := (pac_cons (axOf ns i') (xr ns i')).symm
          rw [q1, q2, q3, q4]
          exact hN (i' + 1) rfl _ (.keep (.keep (.keep (.keep (.keep (.keep (.drop (.drop (.keep (.keep (.keep (.keep (.keep (.keep (.keep (.keep (.keep .nil)))))))))))))))))
    intro n' hn'
    have hn2 : n' = n := by rw [hn', List.length_map, List.length_range]
    subst hn2
    have hX := xr_good ns n'
    have hXl : (xr ns n').length ≤ 4 := by rw [xr_len]; exact hn4
    generalize hXd : xr ns n' = X at hX hXl
    have hXs := hX.map_sw
    have hXd2 := hX.map_dup
    have hsl : (X.map Ax.sw).length ≤ 4 := by rw [List.length_map]; exact hXl
    have hdl : (X.map Ax.dup).length ≤ 4 := by rw [List.length_map]; exact hXl
    obtain ⟨aA, aB⟩ := ax_ok hX (by omega)
    obtain ⟨w1, w2, w3, w4⟩ := ys_sw X
    obtain ⟨u1, u2, u3, u4⟩ := ys_dup X
    have hp0 := prod_pos hX
    have hp1 : prodX X ≤ 1000000000000000000 := by
      refine Int.le_trans (prod_le hX) ?_
      match X.length, hXl with
      | 0, _ => decide
      | 1, _ => decide
      | 2, _ => decide
      | 3, _ => decide
      | 4, _ => decide
      | n + 5, h => omega
    obtain ⟨v1, v2⟩ := view_ok hX
    obtain ⟨v3, v4⟩ := view_ok hXs
    have ps : prodX (X.map Ax.sw) = prodX X := prod_map Ax.sw (fun _ => rfl) X
    -- the lists as data
    refine run_freezeB (i := 3) rfl ?_
    refine run_freeze (j := 0) (i := 2) (a := p2) (ds := stpD X) rfl rfl ?_
    refine run_freeze (j := 0) (i := 1) (a := p1) (ds := pacD X) rfl rfl ?_
    refine q_axes (Z := (zs1 X).reverse) (by rw [List.length_reverse, zs_len]; omega) (fun z hz => zs_ok hX z (List.mem_reverse.mp hz)) (ea_cons (ev_ixL atI0 (ev_var rfl) ev_int) (ea_cons (ev_var rfl) (ea_cons (ev_var rfl) ea_nil))) fun o1 => ?_
    refine q_axes (Z := (zs1 (X.map Ax.sw)).reverse) (by rw [List.length_reverse, zs_len]; omega) (fun z hz => zs_ok hXs z (List.mem_reverse.mp hz)) (ea_cons (ev_ixL atI1 (ev_var rfl) ev_int) (ea_cons (Ev.of (ev_var rfl) (congrArg D.lst (pac_sw X).symm)) (ea_cons (Ev.of (ev_var rfl) (congrArg D.lst (stp_sw X).symm)) ea_nil))) fun o2 => ?_
    rw [firsts, firsts]
    have f2 : first1 (X.map Ax.sw) = first2 X := rfl
    rw [f2]
    -- the views
    refine q_set (d := .vw C (prodX X) (first1 X) (vA (ysX X))) (Ev.of (ev_make (A := (ysX X).map (·.a1)) aA hp0 hp1 (by rw [vA_kept]; exact v1) (by rw [vA_kept]; exact v2) (ea_cons (ev_var rfl) (ea_cons (ev_var rfl) (ea_cons (Ev.of (ev_revM (j := 1) rfl rfl) (congrArg D.lst (axess X))) ea_nil)))) (by rw [vA_kept])) ?_
    have ew : ((ysX (X.map Ax.sw)).map (·.a1)).map keptA = vB (ysX X) := by rw [vA_kept, w1]
    refine q_set (d := .vw C (prodX X) (first2 X) (vB (ysX X))) (Ev.of (ev_make (A := (ysX (X.map Ax.sw)).map (·.a1)) (by rw [← w3]; exact aB) hp0 hp1 (by rw [ew, w1]; exact v3) (by rw [ew, w1, ← ps]; exact v4) (ea_cons (ev_var rfl) (ea_cons (ev_var rfl) (ea_cons (Ev.of (ev_revM (j := 0) rfl rfl) (congrArg D.lst (axess (X.map Ax.sw)))) ea_nil)))) (by rw [ew])) ?_
    refine q_rev (j := 1) (a := o1) (ds := ((zs1 X).reverse.map zF2).map pairD) rfl rfl (q_rev (j := 0) (a := o2) (ds := ((zs1 (X.map Ax.sw)).reverse.map zF2).map pairD) rfl rfl ?_)
    rw [axess, axess, ← w3]
    refine run_freeze (j := 0) (i := 12) (a := o2) (ds := ((ysX X).map (·.a2)).map pairD) rfl rfl ?_
    refine run_freeze (j := 0) (i := 10) (a := o1) (ds := ((ysX X).map (·.a1)).map pairD) rfl rfl ?_
    -- how many cases
    generalize hmost : 1 + 4 * (tsOf (ysX X)).length = most
    have hmost2 : most = 1 + 4 * (tsOf (ysX (X.map Ax.sw))).length := by rw [ts_sw_len, hmost]
    have tl := ts_len (ysX X)
    rw [ys_len] at tl
    have eterm : terms (((ysX X).map (·.a1)).map keptA) (((ysX X).map (·.a2)).map keptA) = tsOf (ysX X) := by rw [vA_kept, vB_kept, terms_eq (ys_si hX).1]
    refine q_set (d := .int (most : Int)) (Ev.of (ev_add ev_int (ev_mul (.inl (by decide)) ev_int (ev_lenL (ds := (tsOf (ysX X)).map tD) (ea_cons (Ev.of (ev_call (R := R_l_terms) ⟨_, _, aA, aB, rfl, rfl⟩ (ea_cons (ev_var rfl) (ea_cons (ev_var rfl) ea_nil))) (by rw [eterm]; rfl)) ea_nil)))) (by rw [List.length_map, ← hmost]; rfl)) ?_
    -- here, there
    refine q_set (ev_call (R := fun ds d => R_sought C ds d ∧ ∃ x y, ∃ m : Int, ds = [x, y, .int m] ∧ 1 ≤ m) (d := outOf (ysX X) (first2 X - first1 X) most) (sought_ok hX hXl (by omega) (by omega)) (ea_cons (ev_var rfl) (ea_cons (ev_var rfl) (ea_cons (ev_var rfl) ea_nil)))) ?_
    refine q_pass (EvT.of (et_not (et_B (ev_call (R := R_l_right) (right_ok hX hXl hmost.symm rfl) (ea_cons (ev_var rfl) (ea_cons (ev_var rfl) (ea_cons (ev_var rfl) (ea_cons (ev_sub (ev_var rfl) (ev_var rfl)) (ea_cons (ev_var rfl) ea_nil)))))))) rfl) ?_
    refine q_pass (EvT.of (et_and (b := !meetAll X) (c := false) (et_not (et_B (ev_var rfl))) fun hb => ?_) (Bool.and_false _)) ?_
    · have hm : meetAll X = false := by simpa using hb
      obtain ⟨pp, ea, ra⟩ := apart_ok (C := C) (r := prodX X) hX hXl hmost.symm rfl rfl hm
      exact EvT.of (et_test (ev_notBl (fun b c H Q z => ⟨b, c, rfl, rfl, z⟩) (ev_call (R := R_is_apart C) ra (ea_cons (ev_var rfl) (ea_cons (ev_var rfl) (ea_cons (ev_ixT (ds := [.str "apart", pp]) atI1 (Ev.of (ev_var rfl) ea) ev_int) ea_nil)))) ev_bl)) rfl
    -- here, here
    refine q_pass (EvT.of (et_not (et_B (ev_call (R := R_l_met) (self_ok hX hXl (most := most + 20) (by omega)) (ea_cons (ev_call (R := fun ds d => R_sought C ds d ∧ ∃ x y, ∃ m : Int, ds = [x, y, .int m] ∧ 1 ≤ m) (d := outOf (ysX (X.map Ax.dup)) 0 (most + 20)) ?_ (ea_cons (ev_var rfl) (ea_cons (ev_var rfl) (ea_cons (ev_add (ev_var rfl) ev_int) ea_nil)))) (ea_cons (ev_var rfl) (ea_cons (ev_var rfl) (ea_cons ev_int ea_nil))))))) rfl) ?_
    · have := sought_ok (C := C) (r := prodX X) (f1 := first1 X) (f2 := first1 X) hXd2 hdl (most := most + 20) (by omega) (by omega)
      rw [← u1, ← u2, Int.sub_self] at this
      exact this
    -- there, here
    have rs := right_ok hXs hsl (b := meetAll X) hmost2 (by
      rw [Bool.eq_iff_iff, meetAll_iff, meetAll_iff]
      constructor
      · intro h y hy
        obtain ⟨x, hx, rfl⟩ := List.mem_map.mp hy
        rw [meets_sw]
        exact h x hx
      · intro h x hx
        rw [← meets_sw]
        exact h _ (List.mem_map.mpr ⟨x, hx, rfl⟩))
    have fs : first2 (X.map Ax.sw) = first1 X := by
      unfold first2
      rw [List.map_map, show (Ax.sw ∘ Ax.sw) = id from rfl, List.map_id]
    rw [fs, f2, ← w3, ← w4] at rs
    refine s_ret (ev_call (R := R_l_right) rs (ea_cons (ev_call (R := fun ds d => R_sought C ds d ∧ ∃ x y, ∃ m : Int, ds = [x, y, .int m] ∧ 1 ≤ m) (d := outOf (ysX (X.map Ax.sw)) (first1 X - first2 X) most) ?_ (ea_cons (ev_var rfl) (ea_cons (ev_var rfl) (ea_cons (ev_var rfl) ea_nil)))) (ea_cons (ev_var rfl) (ea_cons (ev_var rfl) (ea_cons (ev_sub (ev_var rfl) (ev_var rfl)) (ea_cons (ev_var rfl) ea_nil)))))) ret
    have := sought_ok (C := C) (r := prodX X) (f1 := first2 X) (f2 := first1 X) hXs hsl (most := most) (by omega) (by omega)
    rw [← w1, ← w2] at this
    exact this
end
end Pc

set_option Elab.async false
set_option linter.all false
set_option maxRecDepth 100000
set_option maxHeartbeats 4000000
/-! What the top has written makes the defs. -/
namespace Pc
open PySem PySem.Spec PyProof.Rows L2 Pm
theorem bind_shares {K : PySem.W.Frag} {f : Addr} {fd : FuncData} (F : FunD K "shares" "shares" (defArgs s_shares) (defBody s_shares) (defScope s_shares) [.int 1000] [] f fd) : Binds K fd ["one", "other", "most"] [] := by
  obtain ⟨ds, q1, q2⟩ := F.binds1 (ps := ["one", "other", "most"]) 3 1 (by simp) rfl fun _ _ _ _ _ _ _ us its hl hi => match us, its, hl, hi with | [_, _, _], [_], _, _ => ⟨_, rfl, rfl⟩
  cases q1
  exact q2
theorem all_mk {l : PySem.W.OpenLaw} {w : World} {K : PySem.W.Frag} {h : Heap} {mg : Str → Option Value} {fa C tS f_is_whole f_divisor f_divisor_of f_whole_case f_least_sum f_greatest_sum f_rest_of f_end_of f_widen f_gathered f_parted f_is_rest f_is_part f_is_end f_is_apart f_open_term f_part_at f_place_by f_places_by f_sought f_shares f_is_axis f_kept_axes f_V_init f_V_least f_V_greatest f_l_draw f_l_whole f_l_terms f_l_is_place f_l_cell f_l_met f_l_sums f_l_divisor f_l_ended f_l_rest f_l_behind f_l_left f_l_apart f_l_block f_l_meet f_l_axes f_l_right f_law : Addr} (X : K.In h) (G : h.Ns mainGlobals mg) (hfa : mg "law" = some (.ref fa))
    {td od_is_whole od_divisor od_divisor_of od_whole_case od_least_sum od_greatest_sum od_rest_of od_end_of od_widen od_gathered od_parted od_is_rest od_is_part od_is_end od_is_apart od_open_term od_part_at od_place_by od_places_by od_sought od_shares od_is_axis od_kept_axes od_V_init od_V_least od_V_greatest od_l_draw od_l_whole od_l_terms od_l_is_place od_l_cell od_l_met od_l_sums od_l_divisor od_l_ended od_l_rest od_l_behind od_l_left od_l_apart od_l_block od_l_meet od_l_axes od_l_right od_law an_is_whole an_divisor an_divisor_of an_whole_case an_least_sum an_greatest_sum an_rest_of an_end_of an_widen an_gathered an_parted an_is_rest an_is_part an_is_end an_is_apart an_open_term an_part_at an_place_by an_places_by an_sought an_shares an_is_axis an_kept_axes an_V_init an_V_least an_V_greatest an_l_draw an_l_whole an_l_terms an_l_is_place an_l_cell an_l_met an_l_sums an_l_divisor an_l_ended an_l_rest an_l_behind an_l_left an_l_apart an_l_block an_l_meet an_l_axes an_l_right an_law : Option Addr} {tsl sl_is_whole sl_divisor sl_divisor_of sl_whole_case sl_least_sum sl_greatest_sum sl_rest_of sl_end_of sl_widen sl_gathered sl_parted sl_is_rest sl_is_part sl_is_end sl_is_apart sl_open_term sl_part_at sl_place_by sl_places_by sl_sought sl_shares sl_is_axis sl_kept_axes sl_V_init sl_V_least sl_V_greatest sl_l_draw sl_l_whole sl_l_terms sl_l_is_place sl_l_cell sl_l_met sl_l_sums sl_l_divisor sl_l_ended sl_l_rest sl_l_behind sl_l_left sl_l_apart sl_l_block sl_l_meet sl_l_axes sl_l_right sl_law : Array (Option Value)} {tc oc_is_whole oc_divisor oc_divisor_of oc_whole_case oc_least_sum oc_greatest_sum oc_rest_of oc_end_of oc_widen oc_gathered oc_parted oc_is_rest oc_is_part oc_is_end oc_is_apart oc_open_term oc_part_at oc_place_by oc_places_by oc_sought oc_shares oc_is_axis oc_kept_axes oc_V_init oc_V_least oc_V_greatest oc_l_draw oc_l_whole oc_l_terms oc_l_is_place oc_l_cell oc_l_met oc_l_sums oc_l_divisor oc_l_ended oc_l_rest oc_l_behind oc_l_left oc_l_apart oc_l_block oc_l_meet oc_l_axes oc_l_right oc_law kV_is_whole kV_divisor kV_divisor_of kV_whole_case kV_least_sum kV_greatest_sum kV_rest_of kV_end_of kV_widen kV_gathered kV_parted kV_is_rest kV_is_part kV_is_end kV_is_apart kV_open_term kV_part_at kV_place_by kV_places_by kV_sought kV_shares kV_is_axis kV_kept_axes kV_V_init kV_V_least kV_V_greatest kV_l_draw kV_l_whole kV_l_terms kV_l_is_place kV_l_cell kV_l_met kV_l_sums kV_l_divisor kV_l_ended kV_l_rest kV_l_behind kV_l_left kV_l_apart kV_l_block kV_l_meet kV_l_axes kV_l_right kV_law dc_is_whole dc_divisor dc_divisor_of dc_whole_case dc_least_sum dc_greatest_sum dc_rest_of dc_end_of dc_widen dc_gathered dc_parted dc_is_rest dc_is_part dc_is_end dc_is_apart dc_open_term dc_part_at dc_place_by dc_places_by dc_sought dc_shares dc_is_axis dc_kept_axes dc_V_init dc_V_least dc_V_greatest dc_l_draw dc_l_whole dc_l_terms dc_l_is_place dc_l_cell dc_l_met dc_l_sums dc_l_divisor dc_l_ended dc_l_rest dc_l_behind dc_l_left dc_l_apart dc_l_block dc_l_meet dc_l_axes dc_l_right dc_law pm_is_whole pm_divisor pm_divisor_of pm_whole_case pm_least_sum pm_greatest_sum pm_rest_of pm_end_of pm_widen pm_gathered pm_parted pm_is_rest pm_is_part pm_is_end pm_is_apart pm_open_term pm_part_at pm_place_by pm_places_by pm_sought pm_shares pm_is_axis pm_kept_axes pm_V_init pm_V_least pm_V_greatest pm_l_draw pm_l_whole pm_l_terms pm_l_is_place pm_l_cell pm_l_met pm_l_sums pm_l_divisor pm_l_ended pm_l_rest pm_l_behind pm_l_left pm_l_apart pm_l_block pm_l_meet pm_l_axes pm_l_right pm_law cd_is_whole cd_divisor cd_divisor_of cd_whole_case cd_least_sum cd_greatest_sum cd_rest_of cd_end_of cd_widen cd_gathered cd_parted cd_is_rest cd_is_part cd_is_end cd_is_apart cd_open_term cd_part_at cd_place_by cd_places_by cd_sought cd_shares cd_is_axis cd_kept_axes cd_V_init cd_V_least cd_V_greatest cd_l_draw cd_l_whole cd_l_terms cd_l_is_place cd_l_cell cd_l_met cd_l_sums cd_l_divisor cd_l_ended cd_l_rest cd_l_behind cd_l_left cd_l_apart cd_l_block cd_l_meet cd_l_axes cd_l_right cd_law ct_is_whole ct_divisor ct_divisor_of ct_whole_case ct_least_sum ct_greatest_sum ct_rest_of ct_end_of ct_widen ct_gathered ct_parted ct_is_rest ct_is_part ct_is_end ct_is_apart ct_open_term ct_part_at ct_place_by ct_places_by ct_sought ct_shares ct_is_axis ct_kept_axes ct_V_init ct_V_least ct_V_greatest ct_l_draw ct_l_whole ct_l_terms ct_l_is_place ct_l_cell ct_l_met ct_l_sums ct_l_divisor ct_l_ended ct_l_rest ct_l_behind ct_l_left ct_l_apart ct_l_block ct_l_meet ct_l_axes ct_l_right ct_law : Value} {tn : Nat} {tk t_MOST_CASES t_MOST_ROOM t_MOST_AXES t_MOST_SIZE : Tok}
    (aC : PySem.W.nsIn K mainGlobals "View" = some (some (.ref C)))
    (a_is_whole : PySem.W.nsIn K mainGlobals "is_whole" = some (some (.ref f_is_whole)))
    (l_is_whole : K.lookup f_is_whole = some ⟨oc_is_whole, od_is_whole, .func (PySem.W.fnOf "is_whole" "is_whole" (defArgs s_is_whole) (defBody s_is_whole) (defScope s_is_whole) .none kV_is_whole dc_is_whole pm_is_whole an_is_whole cd_is_whole ct_is_whole), sl_is_whole⟩)
    (c_is_whole : PySem.W.codeIn K cd_is_whole "is_whole" = true)
    (k_is_whole : PySem.W.keepIn K (.ref f_is_whole) = true)
    (a_divisor : PySem.W.nsIn K mainGlobals "divisor" = some (some (.ref f_divisor)))
    (l_divisor : K.lookup f_divisor = some ⟨oc_divisor, od_divisor, .func (PySem.W.fnOf "divisor" "divisor" (defArgs s_divisor) (defBody s_divisor) (defScope s_divisor) .none kV_divisor dc_divisor pm_divisor an_divisor cd_divisor ct_divisor), sl_divisor⟩)
    (c_divisor : PySem.W.codeIn K cd_divisor "divisor" = true)
    (k_divisor : PySem.W.keepIn K (.ref f_divisor) = true)
    (a_divisor_of : PySem.W.nsIn K mainGlobals "divisor_of" = some (some (.ref f_divisor_of)))
    (l_divisor_of : K.lookup f_divisor_of = some ⟨oc_divisor_of, od_divisor_of, .func (PySem.W.fnOf "divisor_of" "divisor_of" (defArgs s_divisor_of) (defBody s_divisor_of) (defScope s_divisor_of) .none kV_divisor_of dc_divisor_of pm_divisor_of an_divisor_of cd_divisor_of ct_divisor_of), sl_divisor_of⟩)
    (c_divisor_of : PySem.W.codeIn K cd_divisor_of "divisor_of" = true)
    (k_divisor_of : PySem.W.keepIn K (.ref f_divisor_of) = true)
    (a_whole_case : PySem.W.nsIn K mainGlobals "whole_case" = some (some (.ref f_whole_case)))
    (l_whole_case : K.lookup f_whole_case = some ⟨oc_whole_case, od_whole_case, .func (PySem.W.fnOf "whole_case" "whole_case" (defArgs s_whole_case) (defBody s_whole_case) (defScope s_whole_case) .none kV_whole_case dc_whole_case pm_whole_case an_whole_case cd_whole_case ct_whole_case), sl_whole_case⟩)
    (c_whole_case : PySem.W.codeIn K cd_whole_case "whole_case" = true)
    (k_whole_case : PySem.W.keepIn K (.ref f_whole_case) = true)
    (a_least_sum : PySem.W.nsIn K mainGlobals "least_sum" = some (some (.ref f_least_sum)))
    (l_least_sum : K.lookup f_least_sum = some ⟨oc_least_sum, od_least_sum, .func (PySem.W.fnOf "least_sum" "least_sum" (defArgs s_least_sum) (defBody s_least_sum) (defScope s_least_sum) .none kV_least_sum dc_least_sum pm_least_sum an_least_sum cd_least_sum ct_least_sum), sl_least_sum⟩)
    (c_least_sum : PySem.W.codeIn K cd_least_sum "least_sum" = true)
    (k_least_sum : PySem.W.keepIn K (.ref f_least_sum) = true)
    (a_greatest_sum : PySem.W.nsIn K mainGlobals "greatest_sum" = some (some (.ref f_greatest_sum)))
    (l_greatest_sum : K.lookup f_greatest_sum = some ⟨oc_greatest_sum, od_greatest_sum, .func (PySem.W.fnOf "greatest_sum" "greatest_sum" (defArgs s_greatest_sum) (defBody s_greatest_sum) (defScope s_greatest_sum) .none kV_greatest_sum dc_greatest_sum pm_greatest_sum an_greatest_sum cd_greatest_sum ct_greatest_sum), sl_greatest_sum⟩)
    (c_greatest_sum : PySem.W.codeIn K cd_greatest_sum "greatest_sum" = true)
    (k_greatest_sum : PySem.W.keepIn K (.ref f_greatest_sum) = true)
    (a_rest_of : PySem.W.nsIn K mainGlobals "rest_of" = some (some (.ref f_rest_of)))
    (l_rest_of : K.lookup f_rest_of = some ⟨oc_rest_of, od_rest_of, .func (PySem.W.fnOf "rest_of" "rest_of" (defArgs s_rest_of) (defBody s_rest_of) (defScope s_rest_of) .none kV_rest_of dc_rest_of pm_rest_of an_rest_of cd_rest_of ct_rest_of), sl_rest_of⟩)
    (c_rest_of : PySem.W.codeIn K cd_rest_of "rest_of" = true)
    (k_rest_of : PySem.W.keepIn K (.ref f_rest_of) = true)
    (a_end_of : PySem.W.nsIn K mainGlobals "end_of" = some (some (.ref f_end_of)))
    (l_end_of : K.lookup f_end_of = some ⟨oc_end_of, od_end_of, .func (PySem.W.fnOf "end_of" "end_of" (defArgs s_end_of) (defBody s_end_of) (defScope s_end_of) .none kV_end_of dc_end_of pm_end_of an_end_of cd_end_of ct_end_of), sl_end_of⟩)
    (c_end_of : PySem.W.codeIn K cd_end_of "end_of" = true)
    (k_end_of : PySem.W.keepIn K (.ref f_end_of) = true)
    (a_widen : PySem.W.nsIn K mainGlobals "widen" = some (some (.ref f_widen)))
    (l_widen : K.lookup f_widen = some ⟨oc_widen, od_widen, .func (PySem.W.fnOf "widen" "widen" (defArgs s_widen) (defBody s_widen) (defScope s_widen) .none kV_widen dc_widen pm_widen an_widen cd_widen ct_widen), sl_widen⟩)
    (c_widen : PySem.W.codeIn K cd_widen "widen" = true)
    (k_widen : PySem.W.keepIn K (.ref f_widen) = true)
    (a_gathered : PySem.W.nsIn K mainGlobals "gathered" = some (some (.ref f_gathered)))
    (l_gathered : K.lookup f_gathered = some ⟨oc_gathered, od_gathered, .func (PySem.W.fnOf "gathered" "gathered" (defArgs s_gathered) (defBody s_gathered) (defScope s_gathered) .none kV_gathered dc_gathered pm_gathered an_gathered cd_gathered ct_gathered), sl_gathered⟩)
    (c_gathered : PySem.W.codeIn K cd_gathered "gathered" = true)
    (k_gathered : PySem.W.keepIn K (.ref f_gathered) = true)
    (a_parted : PySem.W.nsIn K mainGlobals "parted" = some (some (.ref f_parted)))
    (l_parted : K.lookup f_parted = some ⟨oc_parted, od_parted, .func (PySem.W.fnOf "parted" "parted" (defArgs s_parted) (defBody s_parted) (defScope s_parted) .none kV_parted dc_parted pm_parted an_parted cd_parted ct_parted), sl_parted⟩)
    (c_parted : PySem.W.codeIn K cd_parted "parted" = true)
    (k_parted : PySem.W.keepIn K (.ref f_parted) = true)
    (a_is_rest : PySem.W.nsIn K mainGlobals "is_rest" = some (some (.ref f_is_rest)))
    (l_is_rest : K.lookup f_is_rest = some ⟨oc_is_rest, od_is_rest, .func (PySem.W.fnOf "is_rest" "is_rest" (defArgs s_is_rest) (defBody s_is_rest) (defScope s_is_rest) .none kV_is_rest dc_is_rest pm_is_rest an_is_rest cd_is_rest ct_is_rest), sl_is_rest⟩)
    (c_is_rest : PySem.W.codeIn K cd_is_rest "is_rest" = true)
    (k_is_rest : PySem.W.keepIn K (.ref f_is_rest) = true)
    (a_is_part : PySem.W.nsIn K mainGlobals "is_part" = some (some (.ref f_is_part)))
    (l_is_part : K.lookup f_is_part = some ⟨oc_is_part, od_is_part, .func (PySem.W.fnOf "is_part" "is_part" (defArgs s_is_part) (defBody s_is_part) (defScope s_is_part) .none kV_is_part dc_is_part pm_is_part an_is_part cd_is_part ct_is_part), sl_is_part⟩)
    (c_is_part : PySem.W.codeIn K cd_is_part "is_part" = true)
    (k_is_part : PySem.W.keepIn K (.ref f_is_part) = true)
    (a_is_end : PySem.W.nsIn K mainGlobals "is_end" = some (some (.ref f_is_end)))
    (l_is_end : K.lookup f_is_end = some ⟨oc_is_end, od_is_end, .func (PySem.W.fnOf "is_end" "is_end" (defArgs s_is_end) (defBody s_is_end) (defScope s_is_end) .none kV_is_end dc_is_end pm_is_end an_is_end cd_is_end ct_is_end), sl_is_end⟩)
    (c_is_end : PySem.W.codeIn K cd_is_end "is_end" = true)
    (k_is_end : PySem.W.keepIn K (.ref f_is_end) = true)
    (a_is_apart : PySem.W.nsIn K mainGlobals "is_apart" = some (some (.ref f_is_apart)))
    (l_is_apart : K.lookup f_is_apart = some ⟨oc_is_apart, od_is_apart, .func (PySem.W.fnOf "is_apart" "is_apart" (defArgs s_is_apart) (defBody s_is_apart) (defScope s_is_apart) .none kV_is_apart dc_is_apart pm_is_apart an_is_apart cd_is_apart ct_is_apart), sl_is_apart⟩)
    (c_is_apart : PySem.W.codeIn K cd_is_apart "is_apart" = true)
    (k_is_apart : PySem.W.keepIn K (.ref f_is_apart) = true)
    (a_open_term : PySem.W.nsIn K mainGlobals "open_term" = some (some (.ref f_open_term)))
    (l_open_term : K.lookup f_open_term = some ⟨oc_open_term, od_open_term, .func (PySem.W.fnOf "open_term" "open_term" (defArgs s_open_term) (defBody s_open_term) (defScope s_open_term) .none kV_open_term dc_open_term pm_open_term an_open_term cd_open_term ct_open_term), sl_open_term⟩)
    (c_open_term : PySem.W.codeIn K cd_open_term "open_term" = true)
    (k_open_term : PySem.W.keepIn K (.ref f_open_term) = true)
    (a_part_at : PySem.W.nsIn K mainGlobals "part_at" = some (some (.ref f_part_at)))
    (l_part_at : K.lookup f_part_at = some ⟨oc_part_at, od_part_at, .func (PySem.W.fnOf "part_at" "part_at" (defArgs s_part_at) (defBody s_part_at) (defScope s_part_at) .none kV_part_at dc_part_at pm_part_at an_part_at cd_part_at ct_part_at), sl_part_at⟩)
    (c_part_at : PySem.W.codeIn K cd_part_at "part_at" = true)
    (k_part_at : PySem.W.keepIn K (.ref f_part_at) = true)
    (a_place_by : PySem.W.nsIn K mainGlobals "place_by" = some (some (.ref f_place_by)))
    (l_place_by : K.lookup f_place_by = some ⟨oc_place_by, od_place_by, .func (PySem.W.fnOf "place_by" "place_by" (defArgs s_place_by) (defBody s_place_by) (defScope s_place_by) .none kV_place_by dc_place_by pm_place_by an_place_by cd_place_by ct_place_by), sl_place_by⟩)
    (c_place_by : PySem.W.codeIn K cd_place_by "place_by" = true)
    (k_place_by : PySem.W.keepIn K (.ref f_place_by) = true)
    (a_places_by : PySem.W.nsIn K mainGlobals "places_by" = some (some (.ref f_places_by)))
    (l_places_by : K.lookup f_places_by = some ⟨oc_places_by, od_places_by, .func (PySem.W.fnOf "places_by" "places_by" (defArgs s_places_by) (defBody s_places_by) (defScope s_places_by) .none kV_places_by dc_places_by pm_places_by an_places_by cd_places_by ct_places_by), sl_places_by⟩)
    (c_places_by : PySem.W.codeIn K cd_places_by "places_by" = true)
    (k_places_by : PySem.W.keepIn K (.ref f_places_by) = true)
    (a_sought : PySem.W.nsIn K mainGlobals "sought" = some (some (.ref f_sought)))
    (l_sought : K.lookup f_sought = some ⟨oc_sought, od_sought, .func (PySem.W.fnOf "sought" "sought" (defArgs s_sought) (defBody s_sought) (defScope s_sought) .none kV_sought dc_sought pm_sought an_sought cd_sought ct_sought), sl_sought⟩)
    (c_sought : PySem.W.codeIn K cd_sought "sought" = true)
    (k_sought : PySem.W.keepIn K (.ref f_sought) = true)
    (a_shares : PySem.W.nsIn K mainGlobals "shares" = some (some (.ref f_shares)))
    (l_shares : K.lookup f_shares = some ⟨oc_shares, od_shares, .func (PySem.W.fnOf "shares" "shares" (defArgs s_shares) (defBody s_shares) (defScope s_shares) (.ref tS) kV_shares dc_shares pm_shares an_shares cd_shares ct_shares), sl_shares⟩)
    (c_shares : PySem.W.codeIn K cd_shares "shares" = true)
    (k_shares : PySem.W.keepIn K (.ref f_shares) = true)
    (a_is_axis : PySem.W.nsIn K mainGlobals "is_axis" = some (some (.ref f_is_axis)))
    (l_is_axis : K.lookup f_is_axis = some ⟨oc_is_axis, od_is_axis, .func (PySem.W.fnOf "is_axis" "is_axis" (defArgs s_is_axis) (defBody s_is_axis) (defScope s_is_axis) .none kV_is_axis dc_is_axis pm_is_axis an_is_axis cd_is_axis ct_is_axis), sl_is_axis⟩)
    (c_is_axis : PySem.W.codeIn K cd_is_axis "is_axis" = true)
    (k_is_axis : PySem.W.keepIn K (.ref f_is_axis) = true)
    (a_kept_axes : PySem.W.nsIn K mainGlobals "kept_axes" = some (some (.ref f_kept_axes)))
    (l_kept_axes : K.lookup f_kept_axes = some ⟨oc_kept_axes, od_kept_axes, .func (PySem.W.fnOf "kept_axes" "kept_axes" (defArgs s_kept_axes) (defBody s_kept_axes) (defScope s_kept_axes) .none kV_kept_axes dc_kept_axes pm_kept_axes an_kept_axes cd_kept_axes ct_kept_axes), sl_kept_axes⟩)
    (c_kept_axes : PySem.W.codeIn K cd_kept_axes "kept_axes" = true)
    (k_kept_axes : PySem.W.keepIn K (.ref f_kept_axes) = true)
    (a_V_init : PySem.W.findIn K (.ref C) "__init__" = some (some (.ref f_V_init)))
    (i_V_init : PySem.W.isFn K (.ref f_V_init) = true)
    (l_V_init : K.lookup f_V_init = some ⟨oc_V_init, od_V_init, .func (PySem.W.fnOf "__init__" "View.__init__" (defArgs s_V_init) (defBody s_V_init) (defScope s_V_init) .none kV_V_init dc_V_init pm_V_init an_V_init cd_V_init ct_V_init), sl_V_init⟩)
    (c_V_init : PySem.W.codeIn K cd_V_init "View.__init__" = true)
    (k_V_init : PySem.W.keepIn K (.ref f_V_init) = true)
    (a_V_least : PySem.W.findIn K (.ref C) "least" = some (some (.ref f_V_least)))
    (i_V_least : PySem.W.isFn K (.ref f_V_least) = true)
    (l_V_least : K.lookup f_V_least = some ⟨oc_V_least, od_V_least, .func (PySem.W.fnOf "least" "View.least" (defArgs s_V_least) (defBody s_V_least) (defScope s_V_least) .none kV_V_least dc_V_least pm_V_least an_V_least cd_V_least ct_V_least), sl_V_least⟩)
    (c_V_least : PySem.W.codeIn K cd_V_least "View.least" = true)
    (k_V_least : PySem.W.keepIn K (.ref f_V_least) = true)
    (a_V_greatest : PySem.W.findIn K (.ref C) "greatest" = some (some (.ref f_V_greatest)))
    (i_V_greatest : PySem.W.isFn K (.ref f_V_greatest) = true)
    (l_V_greatest : K.lookup f_V_greatest = some ⟨oc_V_greatest, od_V_greatest, .func (PySem.W.fnOf "greatest" "View.greatest" (defArgs s_V_greatest) (defBody s_V_greatest) (defScope s_V_greatest) .none kV_V_greatest dc_V_greatest pm_V_greatest an_V_greatest cd_V_greatest ct_V_greatest), sl_V_greatest⟩)
    (c_V_greatest : PySem.W.codeIn K cd_V_greatest "View.greatest" = true)
    (k_V_greatest : PySem.W.keepIn K (.ref f_V_greatest) = true)
    (a_l_draw : PySem.W.nsIn K mainGlobals "_law_draw" = some (some (.ref f_l_draw)))
    (l_l_draw : K.lookup f_l_draw = some ⟨oc_l_draw, od_l_draw, .func (PySem.W.fnOf "_law_draw" "_law_draw" (defArgs s_l_draw) (defBody s_l_draw) (defScope s_l_draw) .none kV_l_draw dc_l_draw pm_l_draw an_l_draw cd_l_draw ct_l_draw), sl_l_draw⟩)
    (c_l_draw : PySem.W.codeIn K cd_l_draw "_law_draw" = true)
    (k_l_draw : PySem.W.keepIn K (.ref f_l_draw) = true)
    (a_l_whole : PySem.W.nsIn K mainGlobals "_law_whole" = some (some (.ref f_l_whole)))
    (l_l_whole : K.lookup f_l_whole = some ⟨oc_l_whole, od_l_whole, .func (PySem.W.fnOf "_law_whole" "_law_whole" (defArgs s_l_whole) (defBody s_l_whole) (defScope s_l_whole) .none kV_l_whole dc_l_whole pm_l_whole an_l_whole cd_l_whole ct_l_whole), sl_l_whole⟩)
    (c_l_whole : PySem.W.codeIn K cd_l_whole "_law_whole" = true)
    (k_l_whole : PySem.W.keepIn K (.ref f_l_whole) = true)
    (a_l_terms : PySem.W.nsIn K mainGlobals "_law_terms" = some (some (.ref f_l_terms)))
    (l_l_terms : K.lookup f_l_terms = some ⟨oc_l_terms, od_l_terms, .func (PySem.W.fnOf "_law_terms" "_law_terms" (defArgs s_l_terms) (defBody s_l_terms) (defScope s_l_terms) .none kV_l_terms dc_l_terms pm_l_terms an_l_terms cd_l_terms ct_l_terms), sl_l_terms⟩)
    (c_l_terms : PySem.W.codeIn K cd_l_terms "_law_terms" = true)
    (k_l_terms : PySem.W.keepIn K (.ref f_l_terms) = true)
    (a_l_is_place : PySem.W.nsIn K mainGlobals "_law_is_place" = some (some (.ref f_l_is_place)))
    (l_l_is_place : K.lookup f_l_is_place = some ⟨oc_l_is_place, od_l_is_place, .func (PySem.W.fnOf "_law_is_place" "_law_is_place" (defArgs s_l_is_place) (defBody s_l_is_place) (defScope s_l_is_place) .none kV_l_is_place dc_l_is_place pm_l_is_place an_l_is_place cd_l_is_place ct_l_is_place), sl_l_is_place⟩)
    (c_l_is_place : PySem.W.codeIn K cd_l_is_place "_law_is_place" = true)
    (k_l_is_place : PySem.W.keepIn K (.ref f_l_is_place) = true)
    (a_l_cell : PySem.W.nsIn K mainGlobals "_law_cell" = some (some (.ref f_l_cell)))
    (l_l_cell : K.lookup f_l_cell = some ⟨oc_l_cell, od_l_cell, .func (PySem.W.fnOf "_law_cell" "_law_cell" (defArgs s_l_cell) (defBody s_l_cell) (defScope s_l_cell) .none kV_l_cell dc_l_cell pm_l_cell an_l_cell cd_l_cell ct_l_cell), sl_l_cell⟩)
    (c_l_cell : PySem.W.codeIn K cd_l_cell "_law_cell" = true)
    (k_l_cell : PySem.W.keepIn K (.ref f_l_cell) = true)
    (a_l_met : PySem.W.nsIn K mainGlobals "_law_met" = some (some (.ref f_l_met)))
    (l_l_met : K.lookup f_l_met = some ⟨oc_l_met, od_l_met, .func (PySem.W.fnOf "_law_met" "_law_met" (defArgs s_l_met) (defBody s_l_met) (defScope s_l_met) .none kV_l_met dc_l_met pm_l_met an_l_met cd_l_met ct_l_met), sl_l_met⟩)
    (c_l_met : PySem.W.codeIn K cd_l_met "_law_met" = true)
    (k_l_met : PySem.W.keepIn K (.ref f_l_met) = true)
    (a_l_sums : PySem.W.nsIn K mainGlobals "_law_sums" = some (some (.ref f_l_sums)))
    (l_l_sums : K.lookup f_l_sums = some ⟨oc_l_sums, od_l_sums, .func (PySem.W.fnOf "_law_sums" "_law_sums" (defArgs s_l_sums) (defBody s_l_sums) (defScope s_l_sums) .none kV_l_sums dc_l_sums pm_l_sums an_l_sums cd_l_sums ct_l_sums), sl_l_sums⟩)
    (c_l_sums : PySem.W.codeIn K cd_l_sums "_law_sums" = true)
    (k_l_sums : PySem.W.keepIn K (.ref f_l_sums) = true)
    (a_l_divisor : PySem.W.nsIn K mainGlobals "_law_divisor" = some (some (.ref f_l_divisor)))
    (l_l_divisor : K.lookup f_l_divisor = some ⟨oc_l_divisor, od_l_divisor, .func (PySem.W.fnOf "_law_divisor" "_law_divisor" (defArgs s_l_divisor) (defBody s_l_divisor) (defScope s_l_divisor) .none kV_l_divisor dc_l_divisor pm_l_divisor an_l_divisor cd_l_divisor ct_l_divisor), sl_l_divisor⟩)
    (c_l_divisor : PySem.W.codeIn K cd_l_divisor "_law_divisor" = true)
    (k_l_divisor : PySem.W.keepIn K (.ref f_l_divisor) = true)
    (a_l_ended : PySem.W.nsIn K mainGlobals "_law_ended" = some (some (.ref f_l_ended)))
    (l_l_ended : K.lookup f_l_ended = some ⟨oc_l_ended, od_l_ended, .func (PySem.W.fnOf "_law_ended" "_law_ended" (defArgs s_l_ended) (defBody s_l_ended) (defScope s_l_ended) .none kV_l_ended dc_l_ended pm_l_ended an_l_ended cd_l_ended ct_l_ended), sl_l_ended⟩)
    (c_l_ended : PySem.W.codeIn K cd_l_ended "_law_ended" = true)
    (k_l_ended : PySem.W.keepIn K (.ref f_l_ended) = true)
    (a_l_rest : PySem.W.nsIn K mainGlobals "_law_rest" = some (some (.ref f_l_rest)))
    (l_l_rest : K.lookup f_l_rest = some ⟨oc_l_rest, od_l_rest, .func (PySem.W.fnOf "_law_rest" "_law_rest" (defArgs s_l_rest) (defBody s_l_rest) (defScope s_l_rest) .none kV_l_rest dc_l_rest pm_l_rest an_l_rest cd_l_rest ct_l_rest), sl_l_rest⟩)
    (c_l_rest : PySem.W.codeIn K cd_l_rest "_law_rest" = true)
    (k_l_rest : PySem.W.keepIn K (.ref f_l_rest) = true)
    (a_l_behind : PySem.W.nsIn K mainGlobals "_law_behind" = some (some (.ref f_l_behind)))
    (l_l_behind : K.lookup f_l_behind = some ⟨oc_l_behind, od_l_behind, .func (PySem.W.fnOf "_law_behind" "_law_behind" (defArgs s_l_behind) (defBody s_l_behind) (defScope s_l_behind) .none kV_l_behind dc_l_behind pm_l_behind an_l_behind cd_l_behind ct_l_behind), sl_l_behind⟩)
    (c_l_behind : PySem.W.codeIn K cd_l_behind "_law_behind" = true)
    (k_l_behind : PySem.W.keepIn K (.ref f_l_behind) = true)
    (a_l_left : PySem.W.nsIn K mainGlobals "_law_left" = some (some (.ref f_l_left)))
    (l_l_left : K.lookup f_l_left = some ⟨oc_l_left, od_l_left, .func (PySem.W.fnOf "_law_left" "_law_left" (defArgs s_l_left) (defBody s_l_left) (defScope s_l_left) .none kV_l_left dc_l_left pm_l_left an_l_left cd_l_left ct_l_left), sl_l_left⟩)
    (c_l_left : PySem.W.codeIn K cd_l_left "_law_left" = true)
    (k_l_left : PySem.W.keepIn K (.ref f_l_left) = true)
    (a_l_apart : PySem.W.nsIn K mainGlobals "_law_apart" = some (some (.ref f_l_apart)))
    (l_l_apart : K.lookup f_l_apart = some ⟨oc_l_apart, od_l_apart, .func (PySem.W.fnOf "_law_apart" "_law_apart" (defArgs s_l_apart) (defBody s_l_apart) (defScope s_l_apart) .none kV_l_apart dc_l_apart pm_l_apart an_l_apart cd_l_apart ct_l_apart), sl_l_apart⟩)
    (c_l_apart : PySem.W.codeIn K cd_l_apart "_law_apart" = true)
    (k_l_apart : PySem.W.keepIn K (.ref f_l_apart) = true)
    (a_l_block : PySem.W.nsIn K mainGlobals "_law_block" = some (some (.ref f_l_block)))
    (l_l_block : K.lookup f_l_block = some ⟨oc_l_block, od_l_block, .func (PySem.W.fnOf "_law_block" "_law_block" (defArgs s_l_block) (defBody s_l_block) (defScope s_l_block) .none kV_l_block dc_l_block pm_l_block an_l_block cd_l_block ct_l_block), sl_l_block⟩)
    (c_l_block : PySem.W.codeIn K cd_l_block "_law_block" = true)
    (k_l_block : PySem.W.keepIn K (.ref f_l_block) = true)
    (a_l_meet : PySem.W.nsIn K mainGlobals "_law_meet" = some (some (.ref f_l_meet)))
    (l_l_meet : K.lookup f_l_meet = some ⟨oc_l_meet, od_l_meet, .func (PySem.W.fnOf "_law_meet" "_law_meet" (defArgs s_l_meet) (defBody s_l_meet) (defScope s_l_meet) .none kV_l_meet dc_l_meet pm_l_meet an_l_meet cd_l_meet ct_l_meet), sl_l_meet⟩)
    (c_l_meet : PySem.W.codeIn K cd_l_meet "_law_meet" = true)
    (k_l_meet : PySem.W.keepIn K (.ref f_l_meet) = true)
    (a_l_axes : PySem.W.nsIn K mainGlobals "_law_axes" = some (some (.ref f_l_axes)))
    (l_l_axes : K.lookup f_l_axes = some ⟨oc_l_axes, od_l_axes, .func (PySem.W.fnOf "_law_axes" "_law_axes" (defArgs s_l_axes) (defBody s_l_axes) (defScope s_l_axes) .none kV_l_axes dc_l_axes pm_l_axes an_l_axes cd_l_axes ct_l_axes), sl_l_axes⟩)
    (c_l_axes : PySem.W.codeIn K cd_l_axes "_law_axes" = true)
    (k_l_axes : PySem.W.keepIn K (.ref f_l_axes) = true)
    (a_l_right : PySem.W.nsIn K mainGlobals "_law_right" = some (some (.ref f_l_right)))
    (l_l_right : K.lookup f_l_right = some ⟨oc_l_right, od_l_right, .func (PySem.W.fnOf "_law_right" "_law_right" (defArgs s_l_right) (defBody s_l_right) (defScope s_l_right) .none kV_l_right dc_l_right pm_l_right an_l_right cd_l_right ct_l_right), sl_l_right⟩)
    (c_l_right : PySem.W.codeIn K cd_l_right "_law_right" = true)
    (k_l_right : PySem.W.keepIn K (.ref f_l_right) = true)
    (a_law : PySem.W.nsIn K mainGlobals "law" = some (some (.ref f_law)))
    (l_law : K.lookup f_law = some ⟨oc_law, od_law, .func (PySem.W.fnOf "law" "law" (defArgs s_law) (defBody s_law) (defScope s_law) .none kV_law dc_law pm_law an_law cd_law ct_law), sl_law⟩)
    (c_law : PySem.W.codeIn K cd_law "law" = true)
    (k_law : PySem.W.keepIn K (.ref f_law) = true)
    (tl : K.lookup tS = some ⟨tc, td, .seq (List.toArray [.int 1000 tk]) tn, tsl⟩)
    (pg : PySem.W.plainGet K C Str.empty = true)
    (hd : PySem.W.hasDictIn K C = true)
    (po : PySem.W.plainOver K C = true)
    (sa : PySem.W.findIn K (.ref C) "__setattr__" = some (some (.builtin "object.__setattr__")))
    (mk : PySem.W.makesIn K C = true)
    (kc : PySem.W.keepIn K (.ref C) = true)
    (n_room : PySem.W.findIn K (.ref C) "room" = some none)
    (n_first : PySem.W.findIn K (.ref C) "first" = some none)
    (n_axes : PySem.W.findIn K (.ref C) "axes" = some none)
    (z_abs : PySem.W.nsIn K mainGlobals "abs" = some none)
    (z_len : PySem.W.nsIn K mainGlobals "len" = some none)
    (z_sum : PySem.W.nsIn K mainGlobals "sum" = some none)
    (z_zip : PySem.W.nsIn K mainGlobals "zip" = some none)
    (z_max : PySem.W.nsIn K mainGlobals "max" = some none)
    (z_min : PySem.W.nsIn K mainGlobals "min" = some none)
    (z_range : PySem.W.nsIn K mainGlobals "range" = some none)
    (z_sorted : PySem.W.nsIn K mainGlobals "sorted" = some none)
    (z_reversed : PySem.W.nsIn K mainGlobals "reversed" = some none)
    (z_isinstance : PySem.W.nsIn K mainGlobals "isinstance" = some none)
    (z_int : PySem.W.nsIn K mainGlobals "int" = some none)
    (z_bool : PySem.W.nsIn K mainGlobals "bool" = some none)
    (z_list : PySem.W.nsIn K mainGlobals "list" = some none)
    (z_tuple : PySem.W.nsIn K mainGlobals "tuple" = some none)
    (v_MOST_CASES : PySem.W.nsIn K mainGlobals "MOST_CASES" = some (some (.int 100000 t_MOST_CASES)))
    (v_MOST_ROOM : PySem.W.nsIn K mainGlobals "MOST_ROOM" = some (some (.int 1000000000000000000 t_MOST_ROOM)))
    (v_MOST_AXES : PySem.W.nsIn K mainGlobals "MOST_AXES" = some (some (.int 8 t_MOST_AXES)))
    (v_MOST_SIZE : PySem.W.nsIn K mainGlobals "MOST_SIZE" = some (some (.int 1000000000 t_MOST_SIZE))) :
    ∃ fd : FuncData, (∀ (s : Shared) (v : Value), BindsTo s fd ⟨[v], []⟩ [("_law_script", v)]) ∧ ∀ base : Heap, K.In base → base.Ns mainGlobals mg → FnOk l.prog w K mg base CX0 7 fa fd ["_law_script"] (spLaw K) := by
  have e := hfa.symm.trans (PySem.W.mg_of X G a_law)
  cases e
  have T : Txt mg := ⟨PySem.W.mg_none_of X G z_abs, PySem.W.mg_none_of X G z_len, PySem.W.mg_none_of X G z_sum, PySem.W.mg_none_of X G z_zip, PySem.W.mg_none_of X G z_max, PySem.W.mg_none_of X G z_min, PySem.W.mg_none_of X G z_range, PySem.W.mg_none_of X G z_sorted, PySem.W.mg_none_of X G z_reversed, PySem.W.mg_none_of X G z_isinstance, PySem.W.mg_none_of X G z_int, PySem.W.mg_none_of X G z_bool, PySem.W.mg_none_of X G z_list, PySem.W.mg_none_of X G z_tuple, ⟨_, PySem.W.mg_of X G v_MOST_CASES⟩, ⟨_, PySem.W.mg_of X G v_MOST_ROOM⟩, ⟨_, PySem.W.mg_of X G v_MOST_AXES⟩, ⟨_, PySem.W.mg_of X G v_MOST_SIZE⟩⟩
  have VC : VT K C := ⟨⟨pg, hd, po, sa⟩, n_room, n_first, n_axes⟩
  have F_is_whole := fun_mk (st := s_is_whole) l_is_whole c_is_whole k_is_whole
  have b_is_whole := F_is_whole.binds (ps := ["thing"]) fun _ _ _ _ _ _ us hl => match us, hl with | [_], _ => rfl
  have F_divisor := fun_mk (st := s_divisor) l_divisor c_divisor k_divisor
  have b_divisor := F_divisor.binds (ps := ["one", "other"]) fun _ _ _ _ _ _ us hl => match us, hl with | [_, _], _ => rfl
  have F_divisor_of := fun_mk (st := s_divisor_of) l_divisor_of c_divisor_of k_divisor_of
  have b_divisor_of := F_divisor_of.binds (ps := ["numbers"]) fun _ _ _ _ _ _ us hl => match us, hl with | [_], _ => rfl
  have F_whole_case := fun_mk (st := s_whole_case) l_whole_case c_whole_case k_whole_case
  have b_whole_case := F_whole_case.binds (ps := ["terms"]) fun _ _ _ _ _ _ us hl => match us, hl with | [_], _ => rfl
  have F_least_sum := fun_mk (st := s_least_sum) l_least_sum c_least_sum k_least_sum
  have b_least_sum := F_least_sum.binds (ps := ["terms", "case"]) fun _ _ _ _ _ _ us hl => match us, hl with | [_, _], _ => rfl
  have F_greatest_sum := fun_mk (st := s_greatest_sum) l_greatest_sum c_greatest_sum k_greatest_sum
  have b_greatest_sum := F_greatest_sum.binds (ps := ["terms", "case"]) fun _ _ _ _ _ _ us hl => match us, hl with | [_, _], _ => rfl
  have F_rest_of := fun_mk (st := s_rest_of) l_rest_of c_rest_of k_rest_of
  have b_rest_of := F_rest_of.binds (ps := ["terms", "case"]) fun _ _ _ _ _ _ us hl => match us, hl with | [_, _], _ => rfl
  have F_end_of := fun_mk (st := s_end_of) l_end_of c_end_of k_end_of
  have b_end_of := F_end_of.binds (ps := ["terms", "goal", "case"]) fun _ _ _ _ _ _ us hl => match us, hl with | [_, _, _], _ => rfl
  have F_widen := fun_mk (st := s_widen) l_widen c_widen k_widen
  have b_widen := F_widen.binds (ps := ["ranges", "pace", "most"]) fun _ _ _ _ _ _ us hl => match us, hl with | [_, _, _], _ => rfl
  have F_gathered := fun_mk (st := s_gathered) l_gathered c_gathered k_gathered
  have b_gathered := F_gathered.binds (ps := ["one", "other"]) fun _ _ _ _ _ _ us hl => match us, hl with | [_, _], _ => rfl
  have F_parted := fun_mk (st := s_parted) l_parted c_parted k_parted
  have b_parted := F_parted.binds (ps := ["case", "k", "at"]) fun _ _ _ _ _ _ us hl => match us, hl with | [_, _, _], _ => rfl
  have F_is_rest := fun_mk (st := s_is_rest) l_is_rest c_is_rest k_is_rest
  have b_is_rest := F_is_rest.binds (ps := ["terms", "goal", "case", "by"]) fun _ _ _ _ _ _ us hl => match us, hl with | [_, _, _, _], _ => rfl
  have F_is_part := fun_mk (st := s_is_part) l_is_part c_is_part k_is_part
  have b_is_part := F_is_part.binds (ps := ["case", "step"]) fun _ _ _ _ _ _ us hl => match us, hl with | [_, _], _ => rfl
  have F_is_end := fun_mk (st := s_is_end) l_is_end c_is_end k_is_end
  have b_is_end := F_is_end.binds (ps := ["terms", "goal", "case", "step"]) fun _ _ _ _ _ _ us hl => match us, hl with | [_, _, _, _], _ => rfl
  have F_is_apart := fun_mk (st := s_is_apart) l_is_apart c_is_apart k_is_apart
  have b_is_apart := F_is_apart.binds (ps := ["one", "other", "paper"]) fun _ _ _ _ _ _ us hl => match us, hl with | [_, _, _], _ => rfl
  have F_open_term := fun_mk (st := s_open_term) l_open_term c_open_term k_open_term
  have b_open_term := F_open_term.binds (ps := ["case"]) fun _ _ _ _ _ _ us hl => match us, hl with | [_], _ => rfl
  have F_part_at := fun_mk (st := s_part_at) l_part_at c_part_at k_part_at
  have b_part_at := F_part_at.binds (ps := ["terms", "goal", "case", "k"]) fun _ _ _ _ _ _ us hl => match us, hl with | [_, _, _, _], _ => rfl
  have F_place_by := fun_mk (st := s_place_by) l_place_by c_place_by k_place_by
  have b_place_by := F_place_by.binds (ps := ["view", "sign", "numbers"]) fun _ _ _ _ _ _ us hl => match us, hl with | [_, _, _], _ => rfl
  have F_places_by := fun_mk (st := s_places_by) l_places_by c_places_by k_places_by
  have b_places_by := F_places_by.binds (ps := ["one", "other", "terms", "case"]) fun _ _ _ _ _ _ us hl => match us, hl with | [_, _, _, _], _ => rfl
  have F_sought := fun_mk (st := s_sought) l_sought c_sought k_sought
  have b_sought := F_sought.binds (ps := ["one", "other", "most"]) fun _ _ _ _ _ _ us hl => match us, hl with | [_, _, _], _ => rfl
  have F_shares : FunD K "shares" "shares" (defArgs s_shares) (defBody s_shares) (defScope s_shares) [.int 1000] [] f_shares (PySem.W.fnOf "shares" "shares" (defArgs s_shares) (defBody s_shares) (defScope s_shares) (.ref tS) kV_shares dc_shares pm_shares an_shares cd_shares ct_shares) := ⟨⟨_, _, _, _, _, _, _, _, _, _, rfl, l_shares, c_shares, .inr ⟨by simp, tS, _, [.int 1000 tk], tn, rfl, tl, rfl, .cons ⟨tk, rfl⟩ .nil⟩, .inl rfl⟩, k_shares⟩
  have b_shares := bind_shares F_shares
  have F_is_axis := fun_mk (st := s_is_axis) l_is_axis c_is_axis k_is_axis
  have b_is_axis := F_is_axis.binds (ps := ["thing"]) fun _ _ _ _ _ _ us hl => match us, hl with | [_], _ => rfl
  have F_kept_axes := fun_mk (st := s_kept_axes) l_kept_axes c_kept_axes k_kept_axes
  have b_kept_axes := F_kept_axes.binds (ps := ["axes"]) fun _ _ _ _ _ _ us hl => match us, hl with | [_], _ => rfl
  have F_V_init := fun_mk (st := s_V_init) l_V_init c_V_init k_V_init
  have b_V_init := F_V_init.binds (ps := ["self", "room", "first", "axes"]) fun _ _ _ _ _ _ us hl => match us, hl with | [_, _, _, _], _ => rfl
  have F_V_least := fun_mk (st := s_V_least) l_V_least c_V_least k_V_least
  have b_V_least := F_V_least.binds (ps := ["self"]) fun _ _ _ _ _ _ us hl => match us, hl with | [_], _ => rfl
  have F_V_greatest := fun_mk (st := s_V_greatest) l_V_greatest c_V_greatest k_V_greatest
  have b_V_greatest := F_V_greatest.binds (ps := ["self"]) fun _ _ _ _ _ _ us hl => match us, hl with | [_], _ => rfl
  have F_l_draw := fun_mk (st := s_l_draw) l_l_draw c_l_draw k_l_draw
  have b_l_draw := F_l_draw.binds (ps := ["_law_script", "_law_k", "_law_many"]) fun _ _ _ _ _ _ us hl => match us, hl with | [_, _, _], _ => rfl
  have F_l_whole := fun_mk (st := s_l_whole) l_l_whole c_l_whole k_l_whole
  have b_l_whole := F_l_whole.binds (ps := ["_law_found"]) fun _ _ _ _ _ _ us hl => match us, hl with | [_], _ => rfl
  have F_l_terms := fun_mk (st := s_l_terms) l_l_terms c_l_terms k_l_terms
  have b_l_terms := F_l_terms.binds (ps := ["_law_one", "_law_other"]) fun _ _ _ _ _ _ us hl => match us, hl with | [_, _], _ => rfl
  have F_l_is_place := fun_mk (st := s_l_is_place) l_l_is_place c_l_is_place k_l_is_place
  have b_l_is_place := F_l_is_place.binds (ps := ["_law_place", "_law_axes_here"]) fun _ _ _ _ _ _ us hl => match us, hl with | [_, _], _ => rfl
  have F_l_cell := fun_mk (st := s_l_cell) l_l_cell c_l_cell k_l_cell
  have b_l_cell := F_l_cell.binds (ps := ["_law_first", "_law_axes_here", "_law_place"]) fun _ _ _ _ _ _ us hl => match us, hl with | [_, _, _], _ => rfl
  have F_l_met := fun_mk (st := s_l_met) l_l_met c_l_met k_l_met
  have b_l_met := F_l_met.binds (ps := ["_law_found", "_law_one", "_law_other", "_law_goal"]) fun _ _ _ _ _ _ us hl => match us, hl with | [_, _, _, _], _ => rfl
  have F_l_sums := fun_mk (st := s_l_sums) l_l_sums c_l_sums k_l_sums
  have b_l_sums := F_l_sums.binds (ps := ["_law_terms_here", "_law_case"]) fun _ _ _ _ _ _ us hl => match us, hl with | [_, _], _ => rfl
  have F_l_divisor := fun_mk (st := s_l_divisor) l_l_divisor c_l_divisor k_l_divisor
  have b_l_divisor := F_l_divisor.binds (ps := ["_law_numbers"]) fun _ _ _ _ _ _ us hl => match us, hl with | [_], _ => rfl
  have F_l_ended := fun_mk (st := s_l_ended) l_l_ended c_l_ended k_l_ended
  have b_l_ended := F_l_ended.binds (ps := ["_law_terms_here", "_law_goal", "_law_case"]) fun _ _ _ _ _ _ us hl => match us, hl with | [_, _, _], _ => rfl
  have F_l_rest := fun_mk (st := s_l_rest) l_l_rest c_l_rest k_l_rest
  have b_l_rest := F_l_rest.binds (ps := ["_law_terms_here", "_law_goal", "_law_case", "_law_by"]) fun _ _ _ _ _ _ us hl => match us, hl with | [_, _, _, _], _ => rfl
  have F_l_behind := fun_mk (st := s_l_behind) l_l_behind c_l_behind k_l_behind
  have b_l_behind := F_l_behind.binds (ps := ["_law_terms_here", "_law_goal", "_law_case", "_law_step"]) fun _ _ _ _ _ _ us hl => match us, hl with | [_, _, _, _], _ => rfl
  have F_l_left := fun_mk (st := s_l_left) l_l_left c_l_left k_l_left
  have b_l_left := F_l_left.binds (ps := ["_law_terms_here", "_law_goal", "_law_paper", "_law_bare"]) fun _ _ _ _ _ _ us hl => match us, hl with | [_, _, _, _], _ => rfl
  have F_l_apart := fun_mk (st := s_l_apart) l_l_apart c_l_apart k_l_apart
  have b_l_apart := F_l_apart.binds (ps := ["_law_found", "_law_terms_here", "_law_goal", "_law_most"]) fun _ _ _ _ _ _ us hl => match us, hl with | [_, _, _, _], _ => rfl
  have F_l_block := fun_mk (st := s_l_block) l_l_block c_l_block k_l_block
  have b_l_block := F_l_block.binds (ps := ["_law_cell_here", "_law_size", "_law_step"]) fun _ _ _ _ _ _ us hl => match us, hl with | [_, _, _], _ => rfl
  have F_l_meet := fun_mk (st := s_l_meet) l_l_meet c_l_meet k_l_meet
  have b_l_meet := F_l_meet.binds (ps := ["_law_one", "_law_other", "_law_step"]) fun _ _ _ _ _ _ us hl => match us, hl with | [_, _, _], _ => rfl
  have F_l_axes := fun_mk (st := s_l_axes) l_l_axes c_l_axes k_l_axes
  have b_l_axes := F_l_axes.binds (ps := ["_law_blocks", "_law_paces", "_law_steps"]) fun _ _ _ _ _ _ us hl => match us, hl with | [_, _, _], _ => rfl
  have F_l_right := fun_mk (st := s_l_right) l_l_right c_l_right k_l_right
  have b_l_right := F_l_right.binds (ps := ["_law_found", "_law_one", "_law_other", "_law_goal", "_law_meet_here"]) fun _ _ _ _ _ _ us hl => match us, hl with | [_, _, _, _, _], _ => rfl
  have F_law := fun_mk (st := s_law) l_law c_law k_law
  refine ⟨PySem.W.fnOf "law" "law" (defArgs s_law) (defBody s_law) (defScope s_law) .none kV_law dc_law pm_law an_law cd_law ct_law, fun s v => .of_eq rfl, fun base KB GB => ?_⟩
  have C_is_whole : Fn l.prog w K mg base 1 "is_whole" ["thing"] (spP R_is_whole) := ⟨_, _, ok_is_whole T F_is_whole, PySem.W.mg_of X G a_is_whole, k_is_whole, b_is_whole⟩
  have C_divisor : Fn l.prog w K mg base 1 "divisor" ["one", "other"] (spP R_divisor) := ⟨_, _, ok_divisor T F_divisor, PySem.W.mg_of X G a_divisor, k_divisor, b_divisor⟩
  have C_divisor_of : Fn l.prog w K mg base 2 "divisor_of" ["numbers"] (spP R_divisor_of) := ⟨_, _, ok_divisor_of T C_divisor F_divisor_of, PySem.W.mg_of X G a_divisor_of, k_divisor_of, b_divisor_of⟩
  have C_whole_case : Fn l.prog w K mg base 1 "whole_case" ["terms"] (spP R_whole_case) := ⟨_, _, ok_whole_case T F_whole_case, PySem.W.mg_of X G a_whole_case, k_whole_case, b_whole_case⟩
  have C_least_sum : Fn l.prog w K mg base 1 "least_sum" ["terms", "case"] (spP R_least_sum) := ⟨_, _, ok_least_sum T F_least_sum, PySem.W.mg_of X G a_least_sum, k_least_sum, b_least_sum⟩
  have C_greatest_sum : Fn l.prog w K mg base 1 "greatest_sum" ["terms", "case"] (spP R_greatest_sum) := ⟨_, _, ok_greatest_sum T F_greatest_sum, PySem.W.mg_of X G a_greatest_sum, k_greatest_sum, b_greatest_sum⟩
  have C_rest_of : Fn l.prog w K mg base 3 "rest_of" ["terms", "case"] (spP R_rest_of) := ⟨_, _, ok_rest_of T C_divisor_of F_rest_of, PySem.W.mg_of X G a_rest_of, k_rest_of, b_rest_of⟩
  have C_end_of : Fn l.prog w K mg base 4 "end_of" ["terms", "goal", "case"] (spP R_end_of) := ⟨_, _, ok_end_of T C_least_sum C_greatest_sum C_rest_of F_end_of, PySem.W.mg_of X G a_end_of, k_end_of, b_end_of⟩
  have C_open_term : Fn l.prog w K mg base 1 "open_term" ["case"] (spP R_open_term) := ⟨_, _, ok_open_term T F_open_term, PySem.W.mg_of X G a_open_term, k_open_term, b_open_term⟩
  have C_part_at : Fn l.prog w K mg base 2 "part_at" ["terms", "goal", "case", "k"] (spP R_part_at) := ⟨_, _, ok_part_at T C_least_sum C_greatest_sum F_part_at, PySem.W.mg_of X G a_part_at, k_part_at, b_part_at⟩
  have C_parted : Fn l.prog w K mg base 1 "parted" ["case", "k", "at"] (spP R_parted) := ⟨_, _, ok_parted T F_parted, PySem.W.mg_of X G a_parted, k_parted, b_parted⟩
  have C_is_rest : Fn l.prog w K mg base 2 "is_rest" ["terms", "goal", "case", "by"] (spP R_is_rest) := ⟨_, _, ok_is_rest T C_is_whole C_least_sum F_is_rest, PySem.W.mg_of X G a_is_rest, k_is_rest, b_is_rest⟩
  have C_is_part : Fn l.prog w K mg base 2 "is_part" ["case", "step"] (spP R_is_part) := ⟨_, _, ok_is_part T C_is_whole F_is_part, PySem.W.mg_of X G a_is_part, k_is_part, b_is_part⟩
  have C_is_end : Fn l.prog w K mg base 3 "is_end" ["terms", "goal", "case", "step"] (spP R_is_end) := ⟨_, _, ok_is_end T C_least_sum C_greatest_sum C_is_rest F_is_end, PySem.W.mg_of X G a_is_end, k_is_end, b_is_end⟩
  have C_widen : Fn l.prog w K mg base 1 "widen" ["ranges", "pace", "most"] spWiden := ⟨_, _, ok_widen T F_widen, PySem.W.mg_of X G a_widen, k_widen, b_widen⟩
  have C_gathered : Fn l.prog w K mg base 2 "gathered" ["one", "other"] (spP (R_gathered C)) := ⟨_, _, ok_gathered T VC C_widen F_gathered, PySem.W.mg_of X G a_gathered, k_gathered, b_gathered⟩
  have C_place_by : Fn l.prog w K mg base 1 "place_by" ["view", "sign", "numbers"] (spPlace C) := ⟨_, _, ok_place_by T VC F_place_by, PySem.W.mg_of X G a_place_by, k_place_by, b_place_by⟩
  have C_places_by : Fn l.prog w K mg base 2 "places_by" ["one", "other", "terms", "case"] (spP (R_places_by C)) := ⟨_, _, ok_places_by T VC C_place_by F_places_by, PySem.W.mg_of X G a_places_by, k_places_by, b_places_by⟩
  have C_sought : Fn l.prog w K mg base 5 "sought" ["one", "other", "most"] (spP (R_sought C)) := ⟨_, _, ok_sought T C_gathered C_whole_case C_end_of C_open_term C_part_at C_parted C_places_by F_sought, PySem.W.mg_of X G a_sought, k_sought, b_sought⟩
  have C_shares : Fn l.prog w K mg base 6 "shares" ["one", "other", "most"] (spP fun ds d => R_sought C ds d ∧ ∃ x y : D, ∃ m : Int, ds = [x, y, .int m] ∧ 1 ≤ m) := ⟨_, _, ok_shares T C_gathered C_is_whole C_sought F_shares, PySem.W.mg_of X G a_shares, k_shares, b_shares⟩
  have C_is_apart : Fn l.prog w K mg base 4 "is_apart" ["one", "other", "paper"] (spP (R_is_apart C)) := ⟨_, _, ok_is_apart T C_gathered C_whole_case C_is_part C_parted C_is_end F_is_apart, PySem.W.mg_of X G a_is_apart, k_is_apart, b_is_apart⟩
  have C_is_axis : Fn l.prog w K mg base 2 "is_axis" ["thing"] (spP R_is_axis) := ⟨_, _, ok_is_axis T C_is_whole F_is_axis, PySem.W.mg_of X G a_is_axis, k_is_axis, b_is_axis⟩
  have C_kept_axes : Fn l.prog w K mg base 3 "kept_axes" ["axes"] (spP R_kept_axes) := ⟨_, _, ok_kept_axes T C_is_axis F_kept_axes, PySem.W.mg_of X G a_kept_axes, k_kept_axes, b_kept_axes⟩
  have CM_least : FnM l.prog w K mg base 1 C "least" ["self"] (spP (R_least C)) := ⟨_, _, ok_least T VC F_V_least, ⟨a_V_least, i_V_least, k_V_least⟩, b_V_least⟩
  have CM_greatest : FnM l.prog w K mg base 1 C "greatest" ["self"] (spP (R_greatest C)) := ⟨_, _, ok_greatest T VC F_V_greatest, ⟨a_V_greatest, i_V_greatest, k_V_greatest⟩, b_V_greatest⟩
  have CV : FnV l.prog w K mg base 4 C (spInit C) := ⟨_, _, ⟨mk, a_V_init, i_V_init, kc⟩, ok_init T VC C_is_whole C_kept_axes CM_least CM_greatest F_V_init, PySem.W.mg_of X G aC, b_V_init⟩
  have C__law_whole : Fn l.prog w K mg base 1 "_law_whole" ["_law_found"] (spP R_is_whole) := ⟨_, _, ok_l_whole T F_l_whole, PySem.W.mg_of X G a_l_whole, k_l_whole, b_l_whole⟩
  have C__law_draw : Fn l.prog w K mg base 1 "_law_draw" ["_law_script", "_law_k", "_law_many"] (spDraw K) := ⟨_, _, ok_l_draw T F_l_draw, PySem.W.mg_of X G a_l_draw, k_l_draw, b_l_draw⟩
  have C__law_is_place : Fn l.prog w K mg base 2 "_law_is_place" ["_law_place", "_law_axes_here"] (spP R_l_is_place) := ⟨_, _, ok_l_is_place T C__law_whole F_l_is_place, PySem.W.mg_of X G a_l_is_place, k_l_is_place, b_l_is_place⟩
  have C__law_cell : Fn l.prog w K mg base 1 "_law_cell" ["_law_first", "_law_axes_here", "_law_place"] (spP R_l_cell) := ⟨_, _, ok_l_cell T F_l_cell, PySem.W.mg_of X G a_l_cell, k_l_cell, b_l_cell⟩
  have C__law_met : Fn l.prog w K mg base 3 "_law_met" ["_law_found", "_law_one", "_law_other", "_law_goal"] (spP R_l_met) := ⟨_, _, ok_l_met T C__law_is_place C__law_cell F_l_met, PySem.W.mg_of X G a_l_met, k_l_met, b_l_met⟩
  have C__law_terms : Fn l.prog w K mg base 1 "_law_terms" ["_law_one", "_law_other"] (spP R_l_terms) := ⟨_, _, ok_l_terms T F_l_terms, PySem.W.mg_of X G a_l_terms, k_l_terms, b_l_terms⟩
  have C__law_sums : Fn l.prog w K mg base 1 "_law_sums" ["_law_terms_here", "_law_case"] (spP R_l_sums) := ⟨_, _, ok_l_sums T F_l_sums, PySem.W.mg_of X G a_l_sums, k_l_sums, b_l_sums⟩
  have C__law_divisor : Fn l.prog w K mg base 1 "_law_divisor" ["_law_numbers"] (spP R_l_divisor) := ⟨_, _, ok_l_divisor T F_l_divisor, PySem.W.mg_of X G a_l_divisor, k_l_divisor, b_l_divisor⟩
  have C__law_ended : Fn l.prog w K mg base 2 "_law_ended" ["_law_terms_here", "_law_goal", "_law_case"] (spP R_l_ended) := ⟨_, _, ok_l_ended T C__law_sums C__law_divisor F_l_ended, PySem.W.mg_of X G a_l_ended, k_l_ended, b_l_ended⟩
  have C__law_rest : Fn l.prog w K mg base 2 "_law_rest" ["_law_terms_here", "_law_goal", "_law_case", "_law_by"] (spP R_l_rest) := ⟨_, _, ok_l_rest T C__law_whole C__law_sums F_l_rest, PySem.W.mg_of X G a_l_rest, k_l_rest, b_l_rest⟩
  have C__law_behind : Fn l.prog w K mg base 3 "_law_behind" ["_law_terms_here", "_law_goal", "_law_case", "_law_step"] (spP R_l_behind) := ⟨_, _, ok_l_behind T C__law_whole C__law_sums C__law_rest F_l_behind, PySem.W.mg_of X G a_l_behind, k_l_behind, b_l_behind⟩
  have C__law_left : Fn l.prog w K mg base 4 "_law_left" ["_law_terms_here", "_law_goal", "_law_paper", "_law_bare"] (spP R_l_left) := ⟨_, _, ok_l_left T C__law_behind C__law_ended F_l_left, PySem.W.mg_of X G a_l_left, k_l_left, b_l_left⟩
  have C__law_apart : Fn l.prog w K mg base 5 "_law_apart" ["_law_found", "_law_terms_here", "_law_goal", "_law_most"] (spP R_l_apart) := ⟨_, _, ok_l_apart T C__law_left F_l_apart, PySem.W.mg_of X G a_l_apart, k_l_apart, b_l_apart⟩
  have C__law_right : Fn l.prog w K mg base 6 "_law_right" ["_law_found", "_law_one", "_law_other", "_law_goal", "_law_meet_here"] (spP R_l_right) := ⟨_, _, ok_l_right T C__law_met C__law_terms C__law_apart F_l_right, PySem.W.mg_of X G a_l_right, k_l_right, b_l_right⟩
  have C__law_block : Fn l.prog w K mg base 1 "_law_block" ["_law_cell_here", "_law_size", "_law_step"] (spP R_l_block) := ⟨_, _, ok_l_block T F_l_block, PySem.W.mg_of X G a_l_block, k_l_block, b_l_block⟩
  have C__law_meet : Fn l.prog w K mg base 1 "_law_meet" ["_law_one", "_law_other", "_law_step"] (spP R_l_meet) := ⟨_, _, ok_l_meet T F_l_meet, PySem.W.mg_of X G a_l_meet, k_l_meet, b_l_meet⟩
  have C__law_axes : Fn l.prog w K mg base 1 "_law_axes" ["_law_blocks", "_law_paces", "_law_steps"] spAxes := ⟨_, _, ok_l_axes T F_l_axes, PySem.W.mg_of X G a_l_axes, k_l_axes, b_l_axes⟩
  exact ok_law T VC C__law_draw C__law_block C__law_meet C__law_axes CV C__law_terms C_shares C__law_right C_is_apart C__law_met F_law
theorem walk {l : PySem.W.OpenLaw} {q : Program} {loose : List Str} {XP : (Str → Option Value) → Heap → Prop} {YP : World → Heap → Prop} {d : DefRec} {K : Params → PySem.W.Frag} (hn : l.most = some 63) (hdf : d.params.defaults = [])
    (hY : ∀ (w : World) (h : Heap), YP w h → (K w.params).In h)
    (F : ∀ (w : World) (mg : Str → Option Value) (fa : Addr) (h : Heap), (K w.params).In h → h.Ns mainGlobals mg → mg d.name = some (.ref fa) →
      ∃ fd : FuncData, (∀ (s : Shared) (u : Value), BindsTo s fd ⟨[u], []⟩ [("_law_script", u)]) ∧ ∀ base : Heap, (K w.params).In base → base.Ns mainGlobals mg → FnOk l.prog w (K w.params) mg base CX0 7 fa fd ["_law_script"] (spLaw (K w.params))) :
    PySem.W.WalkO q loose XP YP l.row.toRowW d [] (fun f vs => PySem.call f vs) :=
  L2.walk_of (n := 63) (k := 7) (x := "_law_script") (CX := fun _ => CX0) (sp := fun w => spLaw (K w.params)) hn (by decide) hdf ⟨rfl, by decide, by decide⟩ hY F (fun _ _ a ns hl _ hS => ⟨a, ns, rfl, hS, hl, fun _ => rfl⟩) fun _ _ _ _ _ z => z
end Pc

set_option Elab.async false
set_option linter.all false
open PySem PySem.W PyProof.Rows in
set_option maxRecDepth 100000 in
set_option maxHeartbeats 0 in
theorem PySem.Challenge.cw_pacehall_k59_whole_blocks_of_one_whole_holds : PySem.Challenge.rw_pacehall_k59_whole_blocks_of_one_whole.Holds := by
  w_on; o_law; k_head; (case hw => w_witness2)
  k_fill
  refine Pc.walk (l := PySem.Challenge.rw_pacehall_k59_whole_blocks_of_one_whole) rfl rfl (fun w h Y => PySem.W.kIn_of Y) ?F
  case F =>
    intro w mg fa h KX G hmg
    refine' Pc.all_mk KX G hmg ?aC ?a_is_whole ?l_is_whole ?c_is_whole ?k_is_whole ?a_divisor ?l_divisor ?c_divisor ?k_divisor ?a_divisor_of ?l_divisor_of ?c_divisor_of ?k_divisor_of ?a_whole_case ?l_whole_case ?c_whole_case ?k_whole_case ?a_least_sum ?l_least_sum ?c_least_sum ?k_least_sum ?a_greatest_sum ?l_greatest_sum ?c_greatest_sum ?k_greatest_sum ?a_rest_of ?l_rest_of ?c_rest_of ?k_rest_of ?a_end_of ?l_end_of ?c_end_of ?k_end_of ?a_widen ?l_widen ?c_widen ?k_widen ?a_gathered ?l_gathered ?c_gathered ?k_gathered ?a_parted ?l_parted ?c_parted ?k_parted ?a_is_rest ?l_is_rest ?c_is_rest ?k_is_rest ?a_is_part ?l_is_part ?c_is_part ?k_is_part ?a_is_end ?l_is_end ?c_is_end ?k_is_end ?a_is_apart ?l_is_apart ?c_is_apart ?k_is_apart ?a_open_term ?l_open_term ?c_open_term ?k_open_term ?a_part_at ?l_part_at ?c_part_at ?k_part_at ?a_place_by ?l_place_by ?c_place_by ?k_place_by ?a_places_by ?l_places_by ?c_places_by ?k_places_by ?a_sought ?l_sought ?c_sought ?k_sought ?a_shares ?l_shares ?c_shares ?k_shares ?a_is_axis ?l_is_axis ?c_is_axis ?k_is_axis ?a_kept_axes ?l_kept_axes ?c_kept_axes ?k_kept_axes ?a_V_init ?i_V_init ?l_V_init ?c_V_init ?k_V_init ?a_V_least ?i_V_least ?l_V_least ?c_V_least ?k_V_least ?a_V_greatest ?i_V_greatest ?l_V_greatest ?c_V_greatest ?k_V_greatest ?a_l_draw ?l_l_draw ?c_l_draw ?k_l_draw ?a_l_whole ?l_l_whole ?c_l_whole ?k_l_whole ?a_l_terms ?l_l_terms ?c_l_terms ?k_l_terms ?a_l_is_place ?l_l_is_place ?c_l_is_place ?k_l_is_place ?a_l_cell ?l_l_cell ?c_l_cell ?k_l_cell ?a_l_met ?l_l_met ?c_l_met ?k_l_met ?a_l_sums ?l_l_sums ?c_l_sums ?k_l_sums ?a_l_divisor ?l_l_divisor ?c_l_divisor ?k_l_divisor ?a_l_ended ?l_l_ended ?c_l_ended ?k_l_ended ?a_l_rest ?l_l_rest ?c_l_rest ?k_l_rest ?a_l_behind ?l_l_behind ?c_l_behind ?k_l_behind ?a_l_left ?l_l_left ?c_l_left ?k_l_left ?a_l_apart ?l_l_apart ?c_l_apart ?k_l_apart ?a_l_block ?l_l_block ?c_l_block ?k_l_block ?a_l_meet ?l_l_meet ?c_l_meet ?k_l_meet ?a_l_axes ?l_l_axes ?c_l_axes ?k_l_axes ?a_l_right ?l_l_right ?c_l_right ?k_l_right ?a_law ?l_law ?c_law ?k_law ?tl ?pg ?hd ?po ?sa ?mk ?kc ?n_room ?n_first ?n_axes ?z_abs ?z_len ?z_sum ?z_zip ?z_max ?z_min ?z_range ?z_sorted ?z_reversed ?z_isinstance ?z_int ?z_bool ?z_list ?z_tuple ?v_MOST_CASES ?v_MOST_ROOM ?v_MOST_AXES ?v_MOST_SIZE
    (case aC => k_is)
    (case a_is_whole => k_is)
    (case l_is_whole => k_is)
    (case c_is_whole => k_is)
    (case k_is_whole => k_is)
    (case a_divisor => k_is)
    (case l_divisor => k_is)
    (case c_divisor => k_is)
    (case k_divisor => k_is)
    (case a_divisor_of => k_is)
    (case l_divisor_of => k_is)
    (case c_divisor_of => k_is)
    (case k_divisor_of => k_is)
    (case a_whole_case => k_is)
    (case l_whole_case => k_is)
    (case c_whole_case => k_is)
    (case k_whole_case => k_is)
    (case a_least_sum => k_is)
    (case l_least_sum => k_is)
    (case c_least_sum => k_is)
    (case k_least_sum => k_is)
    (case a_greatest_sum => k_is)
    (case l_greatest_sum => k_is)
    (case c_greatest_sum => k_is)
    (case k_greatest_sum => k_is)
    (case a_rest_of => k_is)
    (case l_rest_of => k_is)
    (case c_rest_of => k_is)
    (case k_rest_of => k_is)
    (case a_end_of => k_is)
    (case l_end_of => k_is)
    (case c_end_of => k_is)
    (case k_end_of => k_is)
    (case a_widen => k_is)
    (case l_widen => k_is)
    (case c_widen => k_is)
    (case k_widen => k_is)
    (case a_gathered => k_is)
    (case l_gathered => k_is)
    (case c_gathered => k_is)
    (case k_gathered => k_is)
    (case a_parted => k_is)
    (case l_parted => k_is)
    (case c_parted => k_is)
    (case k_parted => k_is)
    (case a_is_rest => k_is)
    (case l_is_rest => k_is)
    (case c_is_rest => k_is)
    (case k_is_rest => k_is)
    (case a_is_part => k_is)
    (case l_is_part => k_is)
    (case c_is_part => k_is)
    (case k_is_part => k_is)
    (case a_is_end => k_is)
    (case l_is_end => k_is)
    (case c_is_end => k_is)
    (case k_is_end => k_is)
    (case a_is_apart => k_is)
    (case l_is_apart => k_is)
    (case c_is_apart => k_is)
    (case k_is_apart => k_is)
    (case a_open_term => k_is)
    (case l_open_term => k_is)
    (case c_open_term => k_is)
    (case k_open_term => k_is)
    (case a_part_at => k_is)
    (case l_part_at => k_is)
    (case c_part_at => k_is)
    (case k_part_at => k_is)
    (case a_place_by => k_is)
    (case l_place_by => k_is)
    (case c_place_by => k_is)
    (case k_place_by => k_is)
    (case a_places_by => k_is)
    (case l_places_by => k_is)
    (case c_places_by => k_is)
    (case k_places_by => k_is)
    (case a_sought => k_is)
    (case l_sought => k_is)
    (case c_sought => k_is)
    (case k_sought => k_is)
    (case a_shares => k_is)
    (case l_shares => k_is)
    (case c_shares => k_is)
    (case k_shares => k_is)
    (case a_is_axis => k_is)
    (case l_is_axis => k_is)
    (case c_is_axis => k_is)
    (case k_is_axis => k_is)
    (case a_kept_axes => k_is)
    (case l_kept_axes => k_is)
    (case c_kept_axes => k_is)
    (case k_kept_axes => k_is)
    (case a_V_init => k_is)
    (case i_V_init => k_is)
    (case l_V_init => k_is)
    (case c_V_init => k_is)
    (case k_V_init => k_is)
    (case a_V_least => k_is)
    (case i_V_least => k_is)
    (case l_V_least => k_is)
    (case c_V_least => k_is)
    (case k_V_least => k_is)
    (case a_V_greatest => k_is)
    (case i_V_greatest => k_is)
    (case l_V_greatest => k_is)
    (case c_V_greatest => k_is)
    (case k_V_greatest => k_is)
    (case a_l_draw => k_is)
    (case l_l_draw => k_is)
    (case c_l_draw => k_is)
    (case k_l_draw => k_is)
    (case a_l_whole => k_is)
    (case l_l_whole => k_is)
    (case c_l_whole => k_is)
    (case k_l_whole => k_is)
    (case a_l_terms => k_is)
    (case l_l_terms => k_is)
    (case c_l_terms => k_is)
    (case k_l_terms => k_is)
    (case a_l_is_place => k_is)
    (case l_l_is_place => k_is)
    (case c_l_is_place => k_is)
    (case k_l_is_place => k_is)
    (case a_l_cell => k_is)
    (case l_l_cell => k_is)
    (case c_l_cell => k_is)
    (case k_l_cell => k_is)
    (case a_l_met => k_is)
    (case l_l_met => k_is)
    (case c_l_met => k_is)
    (case k_l_met => k_is)
    (case a_l_sums => k_is)
    (case l_l_sums => k_is)
    (case c_l_sums => k_is)
    (case k_l_sums => k_is)
    (case a_l_divisor => k_is)
    (case l_l_divisor => k_is)
    (case c_l_divisor => k_is)
    (case k_l_divisor => k_is)
    (case a_l_ended => k_is)
    (case l_l_ended => k_is)
    (case c_l_ended => k_is)
    (case k_l_ended => k_is)
    (case a_l_rest => k_is)
    (case l_l_rest => k_is)
    (case c_l_rest => k_is)
    (case k_l_rest => k_is)
    (case a_l_behind => k_is)
    (case l_l_behind => k_is)
    (case c_l_behind => k_is)
    (case k_l_behind => k_is)
    (case a_l_left => k_is)
    (case l_l_left => k_is)
    (case c_l_left => k_is)
    (case k_l_left => k_is)
    (case a_l_apart => k_is)
    (case l_l_apart => k_is)
    (case c_l_apart => k_is)
    (case k_l_apart => k_is)
    (case a_l_block => k_is)
    (case l_l_block => k_is)
    (case c_l_block => k_is)
    (case k_l_block => k_is)
    (case a_l_meet => k_is)
    (case l_l_meet => k_is)
    (case c_l_meet => k_is)
    (case k_l_meet => k_is)
    (case a_l_axes => k_is)
    (case l_l_axes => k_is)
    (case c_l_axes => k_is)
    (case k_l_axes => k_is)
    (case a_l_right => k_is)
    (case l_l_right => k_is)
    (case c_l_right => k_is)
    (case k_l_right => k_is)
    (case a_law => k_is)
    (case l_law => k_is)
    (case c_law => k_is)
    (case k_law => k_is)
    (case tl => k_is)
    (case pg => k_is)
    (case hd => k_is)
    (case po => k_is)
    (case sa => k_is)
    (case mk => k_is)
    (case kc => k_is)
    (case n_room => k_is)
    (case n_first => k_is)
    (case n_axes => k_is)
    (case z_abs => k_is)
    (case z_len => k_is)
    (case z_sum => k_is)
    (case z_zip => k_is)
    (case z_max => k_is)
    (case z_min => k_is)
    (case z_range => k_is)
    (case z_sorted => k_is)
    (case z_reversed => k_is)
    (case z_isinstance => k_is)
    (case z_int => k_is)
    (case z_bool => k_is)
    (case z_list => k_is)
    (case z_tuple => k_is)
    (case v_MOST_CASES => k_is)
    (case v_MOST_ROOM => k_is)
    (case v_MOST_AXES => k_is)
    (case v_MOST_SIZE => k_is)
