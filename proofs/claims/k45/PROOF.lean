import PyProof.Rows.All
import Wide.All
import OpenK.AllK
import Wide.FinOn
import KE.KStateDown
import KE.DataMinMax
import KE.SortData
import PyProof.ReprRoads
import KE.GoesMore
import KE.GoesEnum
import HandS.ForMost
import HandS.Exc
import HandS.Defaults
import HandS.Flow
import HandS.Style
import HandS.IsInst
import HandS.Zip
import HandS.TupAny
import HandS.TupMul
import HandS.Conv
import HandS.Wide
import HandS.Deep
import HandS.TupLe
import HandS.Star
import HandS.SetFor
import HandS.Strs
import HandS.More
import HandS.Head0
import HandS.Head1
import HandS.Head2
import HandS.HeadEnd
import HandS.HeadHook1
import HandS.HeadHook2
import PySem.Challenge.RW_nobodywaitsbeyond_k45_whole_orders_turne
set_option Elab.async false
set_option linter.all false
set_option maxRecDepth 100000
set_option maxHeartbeats 4000000
namespace PL
open PySem PySem.Spec PyProof.Rows L2

/-! ### values: tuples and lists that nobody changes are trees; lists and dicts that are changed stand at an address -/
inductive D where
  | non | bl (b : Bool) | int (i : Int) | str (x : Str) | tup (ds : List D) | lst (ds : List D) | fz (ds : List D) | ref (a : Addr) | tpx (ds : List D)

/-- what stands at a tracked address -/
inductive MO where
  | lst (ds : List D)
  | dK (kvs : List (Key × D))
  | dT (kvs : List (List Key × D))

abbrev Sto := Addr → Option MO
def Sto.up (S : Sto) (a : Addr) (o : MO) : Sto := fun b => if b = a then some o else S b
theorem Sto.up_same {S : Sto} {a : Addr} {o : MO} : S.up a o a = some o := by unfold Sto.up; rw [if_pos rfl]
theorem Sto.up_ne {S : Sto} {a b : Addr} {o : MO} (h : b ≠ a) : S.up a o b = S b := by unfold Sto.up; rw [if_neg h]
theorem Sto.up_up {S : Sto} {a : Addr} {o u : MO} : (S.up a o).up a u = S.up a u := by
  funext b; unfold Sto.up; split <;> rfl
abbrev DEnv := List (Option D)

/-- a list that never changes: frozen, or of the written part -/
def KL (K : PySem.W.Frag) (H : Hp) (a : Addr) (xs : List V) : Prop := (∃ o, H a = some (.frz o (.lst xs))) ∨
  ∃ (o : Obj) (its : Array Value) (n : Nat), K.lookup a = some o ∧ o.cls = .type "list" ∧ o.dict = none ∧ o.data = .seq its n ∧ its.size ≤ sizeLine ∧ Vals xs its.toList
theorem KL.sq {K : PySem.W.Frag} {H : Hp} {a : Addr} {xs : List V} (h : KL K H a xs) : SqL K H a xs := h.imp .inr id
section
variable (K : PySem.W.Frag)
mutual
def RD (S : Sto) (H : Hp) : D → V → Prop
  | .non, v => v = .non
  | .bl b, v => v = .bl b
  | .int i, v => v = .int i
  | .str x, v => v = .str x
  | .ref a, v => v = .ref a
  | .tpx ds, v => ∃ a o vs, v = .ref a ∧ H a = some (.frz o (.tup vs)) ∧ o.dict = none ∧ RDs S H ds vs
  | .tup ds, v => ∃ a vs, v = .ref a ∧ SqT K H a vs ∧ RDs S H ds vs
  | .lst ds, v => ∃ a vs, v = .ref a ∧ S a = none ∧ H a = some (.lst vs) ∧ RDs S H ds vs
  | .fz ds, v => ∃ a vs, v = .ref a ∧ KL K H a vs ∧ RDs S H ds vs
def RDs (S : Sto) (H : Hp) : List D → List V → Prop
  | [], vs => vs = []
  | d :: ds, vs => ∃ v r, vs = v :: r ∧ RD S H d v ∧ RDs S H ds r
end
/-- the tuples, the lists that are not tracked are as they were -/
structure Tp (S : Sto) (H : Hp) (S' : Sto) (H' : Hp) : Prop where
  tup : ∀ a xs, H a = some (.tup xs) → H' a = some (.tup xs)
  frz : ∀ a o u, H a = some (.frz o u) → H' a = some (.frz o u)
  old : ∀ a o, S a = none → H a = some o → S' a = none ∧ H' a = some o
variable {K}
variable {S S' S1 S2 : Sto} {H H' H1 H2 : Hp}
theorem Tp.refl : Tp S H S H := ⟨fun _ _ h => h, fun _ _ _ h => h, fun _ _ a b => ⟨a, b⟩⟩
theorem Tp.trans (a : Tp S H S1 H1) (b : Tp S1 H1 S2 H2) : Tp S H S2 H2 :=
  ⟨fun x y h => b.tup x y (a.tup x y h), fun x y z h => b.frz x y z (a.frz x y z h), fun x o h1 h2 => let ⟨e1, e2⟩ := a.old x o h1 h2; b.old x o e1 e2⟩
theorem Tp.sqt {a : Addr} {xs : List V} (e : Tp S H S' H') (h : SqT K H a xs) : SqT K H' a xs := by
  rcases h with (h | ⟨o, h⟩) | h
  · exact .inl (.inl (e.tup _ _ h))
  · exact .inl (.inr ⟨o, e.frz _ _ _ h⟩)
  · exact .inr h
mutual
theorem RD.tp (e : Tp S H S' H') : ∀ {d : D} {v : V}, RD K S H d v → RD K S' H' d v
  | .non, _, h => by simpa only [RD] using h
  | .bl _, _, h => by simpa only [RD] using h
  | .int _, _, h => by simpa only [RD] using h
  | .str _, _, h => by simpa only [RD] using h
  | .ref _, _, h => by simpa only [RD] using h
  | .tpx ds, v, h => by
    rw [RD] at h ⊢
    obtain ⟨a, o, vs, h1, h2, h4, h3⟩ := h
    exact ⟨a, o, vs, h1, e.frz _ _ _ h2, h4, RDs.tp e h3⟩
  | .tup ds, v, h => by
    rw [RD] at h ⊢
    obtain ⟨a, vs, h1, h2, h3⟩ := h
    exact ⟨a, vs, h1, e.sqt h2, RDs.tp e h3⟩
  | .lst ds, v, h => by
    rw [RD] at h ⊢
    obtain ⟨a, vs, h1, h0, h2, h3⟩ := h
    obtain ⟨e1, e2⟩ := e.old _ _ h0 h2
    exact ⟨a, vs, h1, e1, e2, RDs.tp e h3⟩
  | .fz ds, v, h => by
    rw [RD] at h ⊢
    obtain ⟨a, vs, h1, h2, h3⟩ := h
    exact ⟨a, vs, h1, h2.imp (fun ⟨o, q⟩ => ⟨o, e.frz _ _ _ q⟩) id, RDs.tp e h3⟩
theorem RDs.tp (e : Tp S H S' H') : ∀ {ds : List D} {vs : List V}, RDs K S H ds vs → RDs K S' H' ds vs
  | [], _, h => by simpa only [RDs] using h
  | d :: ds, vs, h => by
    rw [RDs] at h ⊢
    obtain ⟨v, r, h1, h2, h3⟩ := h
    exact ⟨v, r, h1, RD.tp e h2, RDs.tp e h3⟩
end
theorem RDs.nil {vs : List V} : RDs K S H [] vs ↔ vs = [] := by rw [RDs]
theorem RDs.cons {d : D} {ds : List D} {v : V} {vs : List V} (h : RD K S H d v) (t : RDs K S H ds vs) : RDs K S H (d :: ds) (v :: vs) := by
  rw [RDs]; exact ⟨v, vs, rfl, h, t⟩
theorem RDs.one {d : D} {vs : List V} (h : RDs K S H [d] vs) : ∃ v, vs = [v] ∧ RD K S H d v := by
  rw [RDs] at h
  obtain ⟨v, r, rfl, h1, h2⟩ := h
  rw [RDs] at h2
  subst h2
  exact ⟨v, rfl, h1⟩
theorem RDs.two {d e : D} {vs : List V} (h : RDs K S H [d, e] vs) : ∃ v w, vs = [v, w] ∧ RD K S H d v ∧ RD K S H e w := by
  rw [RDs] at h
  obtain ⟨v, r, rfl, h1, h2⟩ := h
  obtain ⟨w, rfl, h3⟩ := h2.one
  exact ⟨v, w, rfl, h1, h3⟩
theorem RDs.len : ∀ {ds : List D} {vs : List V}, RDs K S H ds vs → vs.length = ds.length
  | [], _, h => by rw [RDs] at h; subst h; rfl
  | d :: ds, vs, h => by
    rw [RDs] at h
    obtain ⟨v, r, rfl, _, h3⟩ := h
    rw [List.length_cons, List.length_cons, RDs.len h3]
theorem RDs.get : ∀ {ds : List D} {vs : List V} {i : Nat} {d : D}, RDs K S H ds vs → ds[i]? = some d → ∃ v, vs[i]? = some v ∧ RD K S H d v
  | [], _, i, d, _, e => by simp at e
  | x :: ds, vs, i, d, h, e => by
    rw [RDs] at h
    obtain ⟨v, r, rfl, h2, h3⟩ := h
    cases i with
    | zero => simp at e; subst e; exact ⟨v, rfl, h2⟩
    | succ i =>
      obtain ⟨w, e1, e2⟩ := RDs.get h3 (i := i) (d := d) (by simpa using e)
      exact ⟨w, by simpa using e1, e2⟩
theorem RDs.getV : ∀ {ds : List D} {vs : List V} {i : Nat} {v : V}, RDs K S H ds vs → vs[i]? = some v → ∃ d, ds[i]? = some d ∧ RD K S H d v
  | [], vs, i, v, h, e => by rw [RDs] at h; subst h; simp at e
  | x :: ds, vs, i, v, h, e => by
    rw [RDs] at h
    obtain ⟨w, r, rfl, h2, h3⟩ := h
    cases i with
    | zero => simp at e; subst e; exact ⟨x, rfl, h2⟩
    | succ i =>
      obtain ⟨d, e1, e2⟩ := RDs.getV h3 (i := i) (v := v) (by simpa using e)
      exact ⟨d, by simpa using e1, e2⟩
theorem RDs.append : ∀ {ds es : List D} {vs ws : List V}, RDs K S H ds vs → RDs K S H es ws → RDs K S H (ds ++ es) (vs ++ ws)
  | [], _, _, _, h, t => by rw [RDs] at h; subst h; exact t
  | d :: ds, es, vs, ws, h, t => by
    rw [RDs] at h
    obtain ⟨v, r, rfl, h2, h3⟩ := h
    exact RDs.cons h2 (RDs.append h3 t)
theorem RDs.snoc {ds : List D} {vs : List V} {d : D} {v : V} (h : RDs K S H ds vs) (t : RD K S H d v) : RDs K S H (ds ++ [d]) (vs ++ [v]) := h.append (RDs.cons t (RDs.nil.mpr rfl))
theorem RDs.take : ∀ {ds : List D} {vs : List V} (n : Nat), RDs K S H ds vs → RDs K S H (ds.take n) (vs.take n)
  | _, _, 0, _ => by simp [RDs]
  | [], vs, _ + 1, h => by rw [RDs] at h; subst h; simp [RDs]
  | d :: ds, vs, n + 1, h => by
    rw [RDs] at h
    obtain ⟨v, r, rfl, h2, h3⟩ := h
    exact RDs.cons h2 (RDs.take n h3)
theorem RDs.drop : ∀ {ds : List D} {vs : List V} (n : Nat), RDs K S H ds vs → RDs K S H (ds.drop n) (vs.drop n)
  | _, _, 0, h => h
  | [], vs, _ + 1, h => by rw [RDs] at h; subst h; simp [RDs]
  | d :: ds, vs, n + 1, h => by
    rw [RDs] at h
    obtain ⟨v, r, rfl, h2, h3⟩ := h
    exact RDs.drop n h3
theorem RDs.set : ∀ {ds : List D} {vs : List V} {d : D} {v : V} (n : Nat), RDs K S H ds vs → RD K S H d v → RDs K S H (ds.set n d) (vs.set n v)
  | [], vs, _, _, _, h, _ => by rw [RDs] at h; subst h; simp [RDs]
  | x :: ds, vs, d, v, 0, h, t => by
    rw [RDs] at h
    obtain ⟨w, r, rfl, h2, h3⟩ := h
    exact RDs.cons t h3
  | x :: ds, vs, d, v, n + 1, h, t => by
    rw [RDs] at h
    obtain ⟨w, r, rfl, h2, h3⟩ := h
    exact RDs.cons h2 (RDs.set n h3 t)
theorem RDs.reverse : ∀ {ds : List D} {vs : List V}, RDs K S H ds vs → RDs K S H ds.reverse vs.reverse
  | [], _, h => by rw [RDs] at h; subst h; simp [RDs]
  | d :: ds, vs, h => by
    rw [RDs] at h
    obtain ⟨v, r, rfl, h2, h3⟩ := h
    rw [List.reverse_cons, List.reverse_cons]
    exact (RDs.reverse h3).snoc h2
theorem RDs.erase : ∀ {ds : List D} {vs : List V} (n : Nat), RDs K S H ds vs → RDs K S H (ds.eraseIdx n) (vs.eraseIdx n)
  | [], vs, _, h => by rw [RDs] at h; subst h; simp [RDs]
  | d :: ds, vs, 0, h => by
    rw [RDs] at h
    obtain ⟨v, r, rfl, h2, h3⟩ := h
    exact h3
  | d :: ds, vs, n + 1, h => by
    rw [RDs] at h
    obtain ⟨v, r, rfl, h2, h3⟩ := h
    exact RDs.cons h2 (RDs.erase n h3)
theorem RDs.rep {ds : List D} {vs : List V} (h : RDs K S H ds vs) : ∀ k : Nat, RDs K S H (List.replicate k ds).flatten (List.replicate k vs).flatten
  | 0 => by simp [RDs]
  | k + 1 => by
    rw [List.replicate_succ, List.replicate_succ, List.flatten_cons, List.flatten_cons]
    exact h.append (RDs.rep h k)

/-- a tracked object -/
def RM (K : PySem.W.Frag) (S : Sto) (H : Hp) (p : Addr) : MO → Prop
  | .lst ds => ∃ vs, H p = some (.lst vs) ∧ RDs K S H ds vs
  | .dK kvs => ∃ ws, H p = some (.dK ws) ∧ ws.map (·.1) = kvs.map (·.1) ∧ RDs K S H (kvs.map (·.2)) (ws.map (·.2))
  | .dT kvs => ∃ ws, H p = some (.dT ws) ∧ ws.map (·.1) = kvs.map (·.1) ∧ RDs K S H (kvs.map (·.2)) (ws.map (·.2))
def RS (K : PySem.W.Frag) (S : Sto) (H : Hp) : Prop := ∀ p mo, S p = some mo → RM K S H p mo
theorem RM.mv {p : Addr} {mo : MO} (e : Tp S H S' H') (k : ∀ o, H p = some o → H' p = some o) (h : RM K S H p mo) : RM K S' H' p mo := by
  cases mo with
  | lst ds => obtain ⟨vs, h1, h2⟩ := h; exact ⟨vs, k _ h1, h2.tp e⟩
  | dK kvs => obtain ⟨ws, h1, h2, h3⟩ := h; exact ⟨ws, k _ h1, h2, h3.tp e⟩
  | dT kvs => obtain ⟨ws, h1, h2, h3⟩ := h; exact ⟨ws, k _ h1, h2, h3.tp e⟩
theorem RM.mut {p : Addr} {mo : MO} (h : RM K S H p mo) : ∃ o, H p = some o ∧ (∀ xs, o ≠ .tup xs) ∧ ∀ ob u, o ≠ .frz ob u := by
  cases mo with
  | lst ds => obtain ⟨vs, h1, h2⟩ := h; exact ⟨_, h1, fun _ => nofun, fun _ _ => nofun⟩
  | dK kvs => obtain ⟨ws, h1, h2, h3⟩ := h; exact ⟨_, h1, fun _ => nofun, fun _ _ => nofun⟩
  | dT kvs => obtain ⟨ws, h1, h2, h3⟩ := h; exact ⟨_, h1, fun _ => nofun, fun _ _ => nofun⟩

/-- one stretch of the run -/
structure Go (K : PySem.W.Frag) (S : Sto) (H : Hp) (S' : Sto) (H' : Hp) : Prop where
  tp : Tp S H S' H'
  rs : RS K S' H'
theorem Go.refl (r : RS K S H) : Go K S H S H := ⟨Tp.refl, r⟩
theorem Go.trans (a : Go K S H S1 H1) (b : Go K S1 H1 S2 H2) : Go K S H S2 H2 := ⟨a.tp.trans b.tp, b.rs⟩
theorem RS.free {p : Addr} (r : RS K S H) (h : H p = none) : S p = none := by
  cases e : S p with
  | none => rfl
  | some mo => obtain ⟨o, h1, _⟩ := (r p mo e).mut; rw [h] at h1; cases h1
/-- a new object that the store does not know -/
theorem Go.fresh {p : Addr} {o : HO} (r : RS K S H) (h : H p = none) : Go K S H S (upd H p o) := by
  have tp : Tp S H S (upd H p o) := ⟨fun a xs e => by rw [upd_ne (ne_of_none e h)]; exact e, fun a ob u e => by rw [upd_ne (ne_of_none e h)]; exact e, fun a ob e1 e2 => ⟨e1, by rw [upd_ne (ne_of_none e2 h)]; exact e2⟩⟩
  exact ⟨tp, fun a mo e => (r a mo e).mv tp fun ob eb => by rw [upd_ne (ne_of_none eb h)]; exact eb⟩
/-- a new tracked object -/
theorem Go.made {p : Addr} {o : HO} {mo : MO} (r : RS K S H) (h : H p = none) (hm : ∀ S' H', Tp S H S' H' → H' p = some o → RM K S' H' p mo) : Go K S H (S.up p mo) (upd H p o) := by
  have tp : Tp S H (S.up p mo) (upd H p o) := ⟨fun a xs e => by rw [upd_ne (ne_of_none e h)]; exact e, fun a ob u e => by rw [upd_ne (ne_of_none e h)]; exact e,
    fun a ob e1 e2 => ⟨by rw [Sto.up_ne (ne_of_none e2 h)]; exact e1, by rw [upd_ne (ne_of_none e2 h)]; exact e2⟩⟩
  refine ⟨tp, fun a m e => ?_⟩
  by_cases ha : a = p
  · subst ha; rw [Sto.up_same] at e; cases e; exact hm _ _ tp upd_same
  · rw [Sto.up_ne ha] at e
    exact (r a m e).mv tp fun ob eb => by rw [upd_ne ha]; exact eb
/-- a tracked object changes -/
theorem Go.wrote {p : Addr} {o : HO} {mo mo' : MO} (r : RS K S H) (h : S p = some mo) (hm : ∀ S' H', Tp S H S' H' → H' p = some o → RM K S' H' p mo') : Go K S H (S.up p mo') (upd H p o) := by
  obtain ⟨ob, h1, h2, h3⟩ := (r p mo h).mut
  have tp : Tp S H (S.up p mo') (upd H p o) := ⟨fun a xs e => by
      rw [upd_ne]; exact e
      intro z; subst z; rw [h1] at e; cases e; exact h2 xs rfl, fun a oo u e => by
      rw [upd_ne]; exact e
      intro z; subst z; rw [h1] at e; cases e; exact h3 oo u rfl, fun a oa e1 e2 => by
      have ne : a ≠ p := fun z => by subst z; rw [h] at e1; cases e1
      rw [Sto.up_ne ne, upd_ne ne]; exact ⟨e1, e2⟩⟩
  refine ⟨tp, fun a m e => ?_⟩
  by_cases ha : a = p
  · subst ha; rw [Sto.up_same] at e; cases e; exact hm _ _ tp upd_same
  · rw [Sto.up_ne ha] at e
    exact (r a m e).mv tp fun ob eb => by rw [upd_ne ha]; exact eb
end

/-! ### environments -/
def RE (K : PySem.W.Frag) (S : Sto) (H : Hp) (ρ : DEnv) (σ : L2.St) : Prop := ρ.length = σ.length ∧ ∀ (i : Nat) (d : D), ρ[i]? = some (some d) → ∃ v, σ[i]? = some (some v) ∧ RD K S H d v
def wipeD (ρ : DEnv) : List Nat → DEnv
  | [] => ρ
  | v :: vs => (wipeD ρ vs).set v none
def startD (N : List Str) (ds : List D) : DEnv := ds.map some ++ List.replicate (N.length - ds.length) none
section
variable {K : PySem.W.Frag} {S S' : Sto} {H H' : Hp} {ρ : DEnv} {σ : L2.St}
theorem RE.tp (e : Tp S H S' H') (h : RE K S H ρ σ) : RE K S' H' ρ σ := ⟨h.1, fun i d x => let ⟨v, a, b⟩ := h.2 i d x; ⟨v, a, b.tp e⟩⟩
theorem RE.set {d : D} {v : V} (h : RE K S H ρ σ) (i : Nat) (r : RD K S H d v) : RE K S H (ρ.set i (some d)) (σ.set i (some v)) := by
  refine ⟨by simpa using h.1, fun j e x => ?_⟩
  by_cases hj : i = j
  · subst hj
    by_cases hl : i < ρ.length
    · rw [List.getElem?_set_self hl] at x
      cases x
      exact ⟨v, by rw [List.getElem?_set_self (by rw [← h.1]; exact hl)], r⟩
    · rw [List.getElem?_eq_none (by simpa using hl)] at x; cases x
  · rw [List.getElem?_set_ne hj] at x ⊢
    exact h.2 j e x
theorem RE.unset (h : RE K S H ρ σ) (i : Nat) (o : Option V) : RE K S H (ρ.set i none) (σ.set i o) := by
  refine ⟨by simpa using h.1, fun j e x => ?_⟩
  by_cases hj : i = j
  · subst hj
    by_cases hl : i < ρ.length
    · rw [List.getElem?_set_self hl] at x; cases x
    · rw [List.getElem?_eq_none (by simpa using hl)] at x; cases x
  · rw [List.getElem?_set_ne hj] at x ⊢
    exact h.2 j e x
theorem RE.wipe (h : RE K S H ρ σ) : ∀ vs : List Nat, RE K S H (wipeD ρ vs) (wipe σ vs)
  | [] => h
  | v :: vs => by unfold wipeD L2.wipe; exact (RE.wipe h vs).unset v none
theorem RE.start {N : List Str} {ds : List D} {vs : List V} (h : RDs K S H ds vs) : RE K S H (startD N ds) (start N vs) := by
  have hl := h.len
  refine ⟨by simp [startD, L2.start, hl], fun i d x => ?_⟩
  unfold startD at x
  unfold L2.start
  by_cases hi : i < ds.length
  · rw [List.getElem?_append_left (by simpa using hi), List.getElem?_map] at x
    cases e : ds[i]? with
    | none => rw [e] at x; cases x
    | some y =>
      rw [e] at x
      have : y = d := by simpa using x
      subst this
      obtain ⟨v, e1, e2⟩ := h.get e
      refine ⟨v, ?_, e2⟩
      rw [List.getElem?_append_left (by simpa [hl] using hi), List.getElem?_map, e1]; rfl
  · rw [List.getElem?_append_right (by simpa using hi), List.getElem?_replicate] at x
    split at x <;> cases x
end

/-! ### lifts -/
abbrev QD := D → Sto → Prop
abbrev TED := DEnv → Sto → QD → Prop
abbrev TTD := DEnv → Sto → (Bool → Sto → Prop) → Prop
abbrev TAD := DEnv → Sto → (List D → Sto → Prop) → Prop
structure EndsD where
  nx : DEnv → Sto → Prop
  rt : QD
  bk : DEnv → Sto → Prop := fun _ _ => False
  ct : DEnv → Sto → Prop := fun _ _ => False
abbrev TSD := EndsD → DEnv → Sto → Prop
section
variable (K : PySem.W.Frag)
/-- what is wanted behind, in V's words -/
def Aft (S : Sto) (H : Hp) (Qd : QD) (Q : VK) : Prop := ∀ d S' v H', Qd d S' → Go K S H S' H' → RD K S' H' d v → Q v H'
def AftL (S : Sto) (H : Hp) (Qd : List D → Sto → Prop) (Q : List V → Hp → Prop) : Prop := ∀ ds S' vs H', Qd ds S' → Go K S H S' H' → RDs K S' H' ds vs → Q vs H'
def LE (δ : TED) : TE := fun σ H Q => ∃ ρ S Qd, RE K S H ρ σ ∧ RS K S H ∧ δ ρ S Qd ∧ Aft K S H Qd Q
def LT (δ : TTD) : TT := fun σ H Q => ∃ ρ S Qd, RE K S H ρ σ ∧ RS K S H ∧ δ ρ S Qd ∧ ∀ b S' H', Qd b S' → Go K S H S' H' → Q b H'
def LA (δ : TAD) : TA := fun σ H Q => ∃ ρ S Qd, RE K S H ρ σ ∧ RS K S H ∧ δ ρ S Qd ∧ AftL K S H Qd Q
structure EndsOk (S : Sto) (H : Hp) (De : EndsD) (E : Ends) : Prop where
  nx : ∀ ρ' S' σ' H', De.nx ρ' S' → Go K S H S' H' → RE K S' H' ρ' σ' → E.nx σ' H'
  rt : ∀ d S' v H', De.rt d S' → Go K S H S' H' → RD K S' H' d v → E.rt v H'
  bk : ∀ ρ' S' σ' H', De.bk ρ' S' → Go K S H S' H' → RE K S' H' ρ' σ' → E.bk σ' H'
  ct : ∀ ρ' S' σ' H', De.ct ρ' S' → Go K S H S' H' → RE K S' H' ρ' σ' → E.ct σ' H'
def LS (τ : TSD) : TS := fun E σ H => ∃ ρ S De, RE K S H ρ σ ∧ RS K S H ∧ τ De ρ S ∧ EndsOk K S H De E
variable {K}
variable {S S' : Sto} {H H' : Hp}
theorem EndsOk.go {De : EndsD} {E : Ends} (h : EndsOk K S H De E) (g : Go K S H S' H') : EndsOk K S' H' De E :=
  ⟨fun a b c d x y z => h.nx a b c d x (g.trans y) z, fun a b c d x y z => h.rt a b c d x (g.trans y) z, fun a b c d x y z => h.bk a b c d x (g.trans y) z, fun a b c d x y z => h.ct a b c d x (g.trans y) z⟩
theorem Aft.go {Qd : QD} {Q : VK} (h : Aft K S H Qd Q) (g : Go K S H S' H') : Aft K S' H' Qd Q := fun a b c d x y z => h a b c d x (g.trans y) z
theorem AftL.go {Qd : List D → Sto → Prop} {Q : List V → Hp → Prop} (h : AftL K S H Qd Q) (g : Go K S H S' H') : AftL K S' H' Qd Q := fun a b c d x y z => h a b c d x (g.trans y) z
end
abbrev DE (X : Cx) (e : Expr) (δ : TED) : Prop := PE X e (LE X.K δ)
abbrev DT (X : Cx) (e : Expr) (δ : TTD) : Prop := PT X e (LT X.K δ)
abbrev DW (X : Cx) (e : Expr) (δ : TTD) : Prop := PW X e (LT X.K δ)
abbrev DA (X : Cx) (es : List Expr) (δ : TAD) : Prop := PA X es (LA X.K δ)
abbrev DS (X : Cx) (st : Stmt) (τ : TSD) : Prop := PS X st (LS X.K τ)
abbrev DSs (X : Cx) (st : List Stmt) (τ : TSD) : Prop := PSs X st (LS X.K τ)
section
variable {X : Cx}
theorem peW {e : Expr} {t t' : TE} (h : PE X e t) (w : ∀ σ H Q, t' σ H Q → t σ H Q) : PE X e t' := ⟨fun pins s σ H Q I q => h.run pins s σ H Q I (w σ H Q q)⟩
theorem ptW {e : Expr} {t t' : TT} (h : PT X e t) (w : ∀ σ H Q, t' σ H Q → t σ H Q) : PT X e t' := ⟨fun pins s σ H Q I q => h.run pins s σ H Q I (w σ H Q q)⟩
theorem pwW {e : Expr} {t t' : TT} (h : PW X e t) (w : ∀ σ H Q, t' σ H Q → t σ H Q) : PW X e t' := ⟨fun wh pins s σ H Q I q => h.run wh pins s σ H Q I (w σ H Q q)⟩
theorem paW {e : List Expr} {t t' : TA} (h : PA X e t) (w : ∀ σ H Q, t' σ H Q → t σ H Q) : PA X e t' := ⟨fun pos pins s σ H Q I q => h.run pos pins s σ H Q I (w σ H Q q)⟩
theorem psW {e : Stmt} {t t' : TS} (h : PS X e t) (w : ∀ D σ H, t' D σ H → t D σ H) : PS X e t' := ⟨fun pins s σ H D I q => h.run pins s σ H D I (w D σ H q)⟩
theorem pssW {e : List Stmt} {t t' : TS} (h : PSs X e t) (w : ∀ D σ H, t' D σ H → t D σ H) : PSs X e t' := ⟨fun pins s σ H D I q => h.run pins s σ H D I (w D σ H q)⟩
end
end PL
namespace PL
open PySem PySem.Spec PyProof.Rows L2

/-! ### lists: read, made -/
/-- the items of a list: one that nobody changes, one that is tracked -/
def Sto.list (S : Sto) : D → Option (List D)
  | .lst ds => some ds
  | .ref p => match S p with
    | some (.lst ds) => some ds
    | _ => none
  | _ => none
/-- of a list, a tuple -/
def Sto.seq (S : Sto) : D → Option (List D)
  | .tup ds => some ds
  | .tpx ds => some ds
  | .fz ds => some ds
  | .lst ds => some ds
  | .ref p => match S p with
    | some (.lst ds) => some ds
    | _ => none
  | _ => none
/-- a new list: tracked (r), or one that nobody will change -/
def newL (r : Bool) (ds : List D) (S : Sto) (Q : QD) : Prop := match r with
  | true => ∀ p, S p = none → Q (.ref p) (S.up p (.lst ds))
  | false => Q (.lst ds) S
section
variable {K : PySem.W.Frag} {S S' : Sto} {H H' : Hp} {d : D} {ds : List D} {v : V} {vs : List V}
theorem list_at (h : S.list d = some ds) (rd : RD K S H d v) (rs : RS K S H) : ∃ a vs, v = .ref a ∧ H a = some (.lst vs) ∧ RDs K S H ds vs := by
  cases d with
  | lst es =>
    have e : es = ds := Option.some.inj h
    subst e
    rw [RD] at rd
    obtain ⟨a, vs, h1, _, h2, h3⟩ := rd
    exact ⟨a, vs, h1, h2, h3⟩
  | ref p =>
    rw [RD] at rd
    have h' : (match S p with
      | some (.lst ds) => some ds
      | _ => none) = some ds := h
    split at h'
    · rename_i es he
      have e : es = ds := Option.some.inj h'
      subst e
      obtain ⟨vs, h1, h2⟩ := rs p _ he
      exact ⟨p, vs, rd, h1, h2⟩
    · cases h'
  | _ => cases h
theorem seq_at (h : S.seq d = some ds) (rd : RD K S H d v) (rs : RS K S H) : ∃ a vs, v = .ref a ∧ (SqL K H a vs ∨ SqT K H a vs) ∧ RDs K S H ds vs := by
  cases d with
  | tup es =>
    have e : es = ds := Option.some.inj h
    subst e
    rw [RD] at rd
    obtain ⟨a, vs, h1, h2, h3⟩ := rd
    exact ⟨a, vs, h1, .inr h2, h3⟩
  | tpx es =>
    have e : es = ds := Option.some.inj h
    subst e
    rw [RD] at rd
    obtain ⟨a, o, vs, h1, h2, _, h3⟩ := rd
    exact ⟨a, vs, h1, .inr (.inl (.inr ⟨o, h2⟩)), h3⟩
  | fz es =>
    have e : es = ds := Option.some.inj h
    subst e
    rw [RD] at rd
    obtain ⟨a, vs, h1, h2, h3⟩ := rd
    exact ⟨a, vs, h1, .inl h2.sq, h3⟩
  | lst es =>
    obtain ⟨a, vs, h1, h2, h3⟩ := list_at (d := .lst es) (ds := ds) h rd rs
    exact ⟨a, vs, h1, .inl (.of h2), h3⟩
  | ref p =>
    obtain ⟨a, vs, h1, h2, h3⟩ := list_at (d := .ref p) (ds := ds) h rd rs
    exact ⟨a, vs, h1, .inl (.of h2), h3⟩
  | _ => cases h
theorem Aft.here {Qd : QD} {Q : VK} (k : Aft K S H Qd Q) (rs : RS K S H) (q : Qd d S) (r : RD K S H d v) : Q v H := k _ _ _ _ q (.refl rs) r
theorem newL_ok {r : Bool} {Qd : QD} {Q : VK} (rs : RS K S H) (rd : RDs K S H ds vs) (n : newL r ds S Qd) (k : Aft K S H Qd Q) (p : Addr) (hp : H p = none) : Q (.ref p) (upd H p (.lst vs)) := by
  cases r with
  | true =>
    have g : Go K S H (S.up p (.lst ds)) (upd H p (.lst vs)) := Go.made rs hp fun S' H' tp e => ⟨vs, e, rd.tp tp⟩
    exact k _ _ _ _ (n p (rs.free hp)) g (by rw [RD])
  | false =>
    have g : Go K S H S (upd H p (.lst vs)) := Go.fresh rs hp
    refine k _ _ _ _ n g ?_
    rw [RD]
    exact ⟨p, vs, rfl, rs.free hp, upd_same, rd.tp g.tp⟩
theorem newT_ok {Qd : QD} {Q : VK} (rs : RS K S H) (rd : RDs K S H ds vs) (n : Qd (.tup ds) S) (k : Aft K S H Qd Q) (p : Addr) (hp : H p = none) : Q (.ref p) (upd H p (.tup vs)) := by
  have g : Go K S H S (upd H p (.tup vs)) := Go.fresh rs hp
  refine k _ _ _ _ n g ?_
  rw [RD]
  exact ⟨p, vs, rfl, .of upd_same, rd.tp g.tp⟩
end

/-! ### names, constants -/
section
variable {X : Cx} {e a b c : Expr} {es : List Expr} {pos : Pos} {δ δa δb δc : TED} {θ θ1 θ2 : TTD} {α : TAD}
def dVar (i : Nat) : TED := fun ρ S Q => match ρ[i]? with
  | some (some d) => Q d S
  | _ => False
theorem de_var {i : Nat} (h : PE X e (tVar i)) : DE X e (dVar i) := peW h fun σ H Q ⟨ρ, S, Qd, re, rs, q, k⟩ => by
  unfold dVar at q
  split at q
  · rename_i d hd
    obtain ⟨v, e1, e2⟩ := re.2 i d hd
    exact ⟨v, e1, k.here rs q e2⟩
  · exact q.elim
theorem dv (i : Nat) {x : Str} {pos : Pos} (hN : X.N[i]? = some x := by rfl) (hv : Vis X.env.scope x := by first | exact Or.inl rfl | exact Or.inr (Or.inl rfl) | exact Or.inr (Or.inr rfl)) (hd : (x == ("__debug__" : Str)) = false := by decide)
    (hcd : (x == ("__classdict__" : Str)) = false := by decide) : DE X (.Name x pos) (dVar i) := de_var (pe_var hN hv hd hcd)
def dC (d : D) : TED := fun _ S Q => Q d S
theorem de_c {d : D} {v : V} (h : PE X e (tC v)) (r : ∀ S H, RD X.K S H d v) : DE X e (dC d) := peW h fun σ H Q ⟨ρ, S, Qd, re, rs, q, k⟩ => k.here rs q (r S H)
theorem de_int {i j} : DE X (.Constant (.int i) j pos) (dC (.int i)) := de_c pe_int fun _ _ => by rw [RD]
theorem de_bl {b j} : DE X (.Constant (.bool b) j pos) (dC (.bl b)) := de_c pe_bl fun _ _ => by rw [RD]
theorem de_non {j} : DE X (.Constant .none j pos) (dC .non) := de_c pe_non fun _ _ => by rw [RD]
theorem de_str {x j} : DE X (.Constant (.str x) j pos) (dC (.str x)) := de_c pe_str fun _ _ => by rw [RD]
theorem de_gint {x : Str} {i : Int} (hm : ∃ t, X.mg x = some (.int i t)) (hg : Gl X x := by rfl) (hd : (x == ("__debug__" : Str)) = false := by decide) : DE X (.Name x pos) (dC (.int i)) := by
  obtain ⟨t, hm⟩ := hm
  exact de_c (pe_glob (v := .int i) hg hm ⟨t, rfl⟩ hd) fun _ _ => by rw [RD]
theorem de_gstr {x y : Str} (hm : ∃ t, X.mg x = some (.str y t)) (hg : Gl X x := by rfl) (hd : (x == ("__debug__" : Str)) = false := by decide) : DE X (.Name x pos) (dC (.str y)) := by
  obtain ⟨t, hm⟩ := hm
  exact de_c (pe_glob (v := .str y) hg hm ⟨t, rfl⟩ hd) fun _ _ => by rw [RD]

/-! ### operations by values -/
abbrev R2D := D → D → Sto → QD → Prop
def Lf2 (K : PySem.W.Frag) (o : R2D) : R2 := fun x y H Q => ∃ d e S Qd, RD K S H d x ∧ RD K S H e y ∧ RS K S H ∧ o d e S Qd ∧ Aft K S H Qd Q
abbrev OpD (X : Cx) (f : Value → Value → Sem Value) (o : R2D) : Prop := OpR X f (Lf2 X.K o)
theorem opW {f : Value → Value → Sem Value} {r r' : R2} (h : OpR X f r) (w : ∀ x y H Q, r' x y H Q → r x y H Q) : OpR X f r' := fun pins s σ H x y v u Q I rx ry q => h pins s σ H x y v u Q I rx ry (w _ _ _ _ q)
theorem opD_of {f : Value → Value → Sem Value} {r : R2} {o : R2D} (h : OpR X f r) (w : ∀ d e x y S H Qd Q, RD X.K S H d x → RD X.K S H e y → RS X.K S H → o d e S Qd → Aft X.K S H Qd Q → r x y H Q) : OpD X f o :=
  opW h fun x y H Q ⟨d, e, S, Qd, r1, r2, rs, q, k⟩ => w d e x y S H Qd Q r1 r2 rs q k
theorem opD_or {f : Value → Value → Sem Value} {o o' : R2D} (h : OpD X f o) (h' : OpD X f o') : OpD X f (fun d e S Q => o d e S Q ∨ o' d e S Q) :=
  opD_of (h.or h') fun d e x y S H Qd Q r1 r2 rs q k => q.imp (fun q => ⟨d, e, S, Qd, r1, r2, rs, q, k⟩) (fun q => ⟨d, e, S, Qd, r1, r2, rs, q, k⟩)
theorem opD_W {f : Value → Value → Sem Value} {o o' : R2D} (h : OpD X f o) (w : ∀ d e S Q, o' d e S Q → o d e S Q) : OpD X f o' :=
  opD_of h fun d e x y S H Qd Q r1 r2 rs q k => ⟨d, e, S, Qd, r1, r2, rs, w _ _ _ _ q, k⟩
def dOp (o : R2D) (δa δb : TED) : TED := fun ρ S Q => δa ρ S fun x S1 => δb ρ S1 fun y S2 => o x y S2 Q
theorem lift2 {o : R2D} {K : PySem.W.Frag} (σ : L2.St) (H : Hp) (Q : VK) (h : LE K (dOp o δa δb) σ H Q) : tOp (Lf2 K o) (LE K δa) (LE K δb) σ H Q := by
  obtain ⟨ρ, S, Qd, re, rs, q, k⟩ := h
  refine ⟨ρ, S, _, re, rs, q, fun x S1 v H1 q1 g1 r1 => ?_⟩
  refine ⟨ρ, S1, _, re.tp g1.tp, g1.rs, q1, fun y S2 w H2 q2 g2 r2 => ?_⟩
  exact ⟨x, y, S2, Qd, r1.tp g2.tp, r2, g2.rs, q2, k.go (g1.trans g2)⟩
theorem de_op {op : Operator} {o : R2D} (ho : OpD X (binaryOp op) o) (ha : DE X a δa) (hb : DE X b δb) : DE X (.BinOp a op b pos) (dOp o δa δb) := peW (pe_op ho ha hb) lift2
theorem de_cmp {op : CmpOp} {o : R2D} (ho : OpD X (compareOp op) o) (ha : DE X a δa) (hb : DE X b δb) (hm : behindInMarks op b = false) : DE X (.Compare a [op] [b] pos) (dOp o δa δb) := peW (pe_cmpR ho ha hb hm) lift2
/-- a bool, as a test -/
def dTest (δ : TED) : TTD := fun ρ S Q => δ ρ S fun x S1 => match x with
  | .bl b => Q b S1
  | _ => False
theorem liftT {K : PySem.W.Frag} (σ : L2.St) (H : Hp) (Q : Bool → Hp → Prop) (h : LT K (dTest δ) σ H Q) : LE K δ σ H (fun x H1 => ∃ k, x = .bl k ∧ Q k H1) := by
  obtain ⟨ρ, S, Qd, re, rs, q, k⟩ := h
  refine ⟨ρ, S, _, re, rs, q, fun x S1 v H1 q1 g1 r1 => ?_⟩
  try dsimp only at q1
  split at q1
  · rename_i b
    rw [RD] at r1
    exact ⟨b, r1, k _ _ _ q1 g1⟩
  · exact q1.elim
theorem dt_cmp {op : CmpOp} {o : R2D} (ho : OpD X (compareOp op) o) (ha : DE X a δa) (hb : DE X b δb) (hm : behindInMarks op b = false) : DT X (.Compare a [op] [b] pos) (dTest (dOp o δa δb)) :=
  ptW (pt_cmpR ho ha hb hm) fun σ H Q h => by
    have h2 := liftT σ H Q h
    exact lift2 σ H _ h2
theorem dt_val (h : DE X e δ) (he : ∀ whole, isTrue e X.env whole = (do let v ← whole; standAt e.pos; holding [v] (truthy v)) := by intro _; rfl) : DT X e (dTest δ) := ptW (pt_val h he) liftT
/-- a < b < c -/
def dChain (o o' : R2D) (δa δb δc : TED) : TED := fun ρ S Q => δa ρ S fun x S1 => δb ρ S1 fun y S2 => o x y S2 fun z S3 => match z with
  | .bl true => δc ρ S3 fun w S4 => o' y w S4 Q
  | .bl false => Q (.bl false) S3
  | _ => False
theorem liftC {o o' : R2D} {K : PySem.W.Frag} (σ : L2.St) (H : Hp) (Q : VK) (h : LE K (dChain o o' δa δb δc) σ H Q) : tChain (Lf2 K o) (Lf2 K o') (LE K δa) (LE K δb) (LE K δc) σ H Q := by
  obtain ⟨ρ, S, Qd, re, rs, q, k⟩ := h
  refine ⟨ρ, S, _, re, rs, q, fun x S1 v H1 q1 g1 r1 => ?_⟩
  refine ⟨ρ, S1, _, re.tp g1.tp, g1.rs, q1, fun y S2 w H2 q2 g2 r2 => ?_⟩
  refine ⟨x, y, S2, _, r1.tp g2.tp, r2, g2.rs, q2, fun z S3 u H3 q3 g3 r3 => ?_⟩
  try dsimp only at q3
  split at q3
  · rw [RD] at r3
    refine ⟨true, r3, ?_⟩
    rw [if_pos rfl]
    refine ⟨ρ, S3, _, (re.tp g1.tp).tp (g2.trans g3).tp, g3.rs, q3, fun w S4 u' H4 q4 g4 r4 => ?_⟩
    exact ⟨y, w, S4, Qd, (r2.tp g3.tp).tp g4.tp, r4, g4.rs, q4, k.go (((g1.trans g2).trans g3).trans g4)⟩
  · rw [RD] at r3
    refine ⟨false, r3, ?_⟩
    rw [if_neg Bool.false_ne_true]
    exact (k.go ((g1.trans g2).trans g3)).here g3.rs q3 (by rw [RD])
  · exact q3.elim
theorem de_chain {op op' : CmpOp} {o o' : R2D} (ho : OpD X (compareOp op) o) (ho' : OpD X (compareOp op') o') (ha : DE X a δa) (hb : DE X b δb) (hc : DE X c δc) (hm : lastMarks [op, op'] [b, c] = false := by with_unfolding_all rfl) : DE X (.Compare a [op, op'] [b, c] pos) (dChain o o' δa δb δc) := peW (pe_chain ho ho' ha hb hc hm) liftC
theorem dt_chain {op op' : CmpOp} {o o' : R2D} (ho : OpD X (compareOp op) o) (ho' : OpD X (compareOp op') o') (ha : DE X a δa) (hb : DE X b δb) (hc : DE X c δc) (hm : lastMarks [op, op'] [b, c] = false := by with_unfolding_all rfl) : DT X (.Compare a [op, op'] [b, c] pos) (dTest (dChain o o' δa δb δc)) :=
  ptW (pt_chain ho ho' ha hb hc hm) fun σ H Q h => by
    have h2 := liftT σ H Q h
    exact liftC σ H _ h2

/-! ### and, or, not, if -/
def dAnd (t u : TTD) : TTD := fun ρ S Q => t ρ S fun b S1 => match b with
  | true => u ρ S1 Q
  | false => Q false S1
def dOr (t u : TTD) : TTD := fun ρ S Q => t ρ S fun b S1 => match b with
  | true => Q true S1
  | false => u ρ S1 Q
def dNot (t : TTD) : TTD := fun ρ S Q => t ρ S fun b S1 => Q (!b) S1
variable {rest : List Expr}
theorem dw_and1 (ha : DT X a θ) : DW X (.BoolOp .And [a] pos) θ := pw_and1 ha
theorem dw_or1 (ha : DT X a θ) : DW X (.BoolOp .Or [a] pos) θ := pw_or1 ha
theorem dw_and (ha : DT X a θ1) (hb : DW X (.BoolOp .And (b :: rest) pos) θ2) : DW X (.BoolOp .And (a :: b :: rest) pos) (dAnd θ1 θ2) := pwW (pw_and ha hb) fun σ H Q h => by
  obtain ⟨ρ, S, Qd, re, rs, q, k⟩ := h
  refine ⟨ρ, S, _, re, rs, q, fun b S1 H1 q1 g1 => ?_⟩
  cases b with
  | true => exact ⟨ρ, S1, Qd, re.tp g1.tp, g1.rs, q1, fun b' S2 H2 q2 g2 => k _ _ _ q2 (g1.trans g2)⟩
  | false => exact k _ _ _ q1 g1
theorem dw_or (ha : DT X a θ1) (hb : DW X (.BoolOp .Or (b :: rest) pos) θ2) : DW X (.BoolOp .Or (a :: b :: rest) pos) (dOr θ1 θ2) := pwW (pw_or ha hb) fun σ H Q h => by
  obtain ⟨ρ, S, Qd, re, rs, q, k⟩ := h
  refine ⟨ρ, S, _, re, rs, q, fun b S1 H1 q1 g1 => ?_⟩
  cases b with
  | true => exact k _ _ _ q1 g1
  | false => exact ⟨ρ, S1, Qd, re.tp g1.tp, g1.rs, q1, fun b' S2 H2 q2 g2 => k _ _ _ q2 (g1.trans g2)⟩
theorem dt_w (h : DW X e θ) : DT X e θ := PW.pt h
theorem dt_not (ha : DT X a θ) : DT X (.UnaryOp .Not a pos) (dNot θ) := ptW (pt_not ha) fun σ H Q h => by
  obtain ⟨ρ, S, Qd, re, rs, q, k⟩ := h
  exact ⟨ρ, S, _, re, rs, q, fun b S1 H1 q1 g1 => k _ _ _ q1 g1⟩
/-- as values, all but the last one bools -/
def dAndV (δa δb : TED) : TED := fun ρ S Q => δa ρ S fun x S1 => match x with
  | .bl true => δb ρ S1 Q
  | .bl false => Q (.bl false) S1
  | _ => False
def dOrV (δa δb : TED) : TED := fun ρ S Q => δa ρ S fun x S1 => match x with
  | .bl true => Q (.bl true) S1
  | .bl false => δb ρ S1 Q
  | _ => False
def dNotV (δa : TED) : TED := fun ρ S Q => δa ρ S fun x S1 => match x with
  | .bl b => Q (.bl (!b)) S1
  | _ => False
theorem de_one {op} (h : DE X a δ) : DE X (.BoolOp op [a] pos) δ := pe_one h
theorem de_and (ha : DE X a δa) (hb : DE X (.BoolOp .And (b :: rest) pos) δb) : DE X (.BoolOp .And (a :: b :: rest) pos) (dAndV δa δb) := peW (pe_and ha hb) fun σ H Q h => by
  obtain ⟨ρ, S, Qd, re, rs, q, k⟩ := h
  refine ⟨ρ, S, _, re, rs, q, fun x S1 v H1 q1 g1 r1 => ?_⟩
  try dsimp only at q1
  split at q1
  · rw [RD] at r1
    refine ⟨true, r1, ?_⟩
    rw [if_pos rfl]
    exact ⟨ρ, S1, Qd, re.tp g1.tp, g1.rs, q1, k.go g1⟩
  · rw [RD] at r1
    refine ⟨false, r1, ?_⟩
    rw [if_neg Bool.false_ne_true]
    exact (k.go g1).here g1.rs q1 (by rw [RD])
  · exact q1.elim
theorem de_or (ha : DE X a δa) (hb : DE X (.BoolOp .Or (b :: rest) pos) δb) : DE X (.BoolOp .Or (a :: b :: rest) pos) (dOrV δa δb) := peW (pe_or ha hb) fun σ H Q h => by
  obtain ⟨ρ, S, Qd, re, rs, q, k⟩ := h
  refine ⟨ρ, S, _, re, rs, q, fun x S1 v H1 q1 g1 r1 => ?_⟩
  try dsimp only at q1
  split at q1
  · rw [RD] at r1
    refine ⟨true, r1, ?_⟩
    rw [if_pos rfl]
    exact (k.go g1).here g1.rs q1 (by rw [RD])
  · rw [RD] at r1
    refine ⟨false, r1, ?_⟩
    rw [if_neg Bool.false_ne_true]
    exact ⟨ρ, S1, Qd, re.tp g1.tp, g1.rs, q1, k.go g1⟩
  · exact q1.elim
theorem de_not (ha : DE X a δa) : DE X (.UnaryOp .Not a pos) (dNotV δa) := peW (pe_not ha) fun σ H Q h => by
  obtain ⟨ρ, S, Qd, re, rs, q, k⟩ := h
  refine ⟨ρ, S, _, re, rs, q, fun x S1 v H1 q1 g1 r1 => ?_⟩
  try dsimp only at q1
  split at q1
  · rw [RD] at r1
    exact ⟨_, r1, (k.go g1).here g1.rs q1 (by rw [RD])⟩
  · exact q1.elim
def dIf (t : TTD) (δa δb : TED) : TED := fun ρ S Q => t ρ S fun b S1 => match b with
  | true => δa ρ S1 Q
  | false => δb ρ S1 Q
theorem de_if (hc : DT X c θ) (ha : DE X a δa) (hb : DE X b δb) : DE X (.IfExp c a b pos) (dIf θ δa δb) := peW (pe_ifExp hc ha hb) fun σ H Q h => by
  obtain ⟨ρ, S, Qd, re, rs, q, k⟩ := h
  refine ⟨ρ, S, _, re, rs, q, fun b S1 H1 q1 g1 => ?_⟩
  cases b with
  | true => exact ⟨ρ, S1, Qd, re.tp g1.tp, g1.rs, q1, k.go g1⟩
  | false => exact ⟨ρ, S1, Qd, re.tp g1.tp, g1.rs, q1, k.go g1⟩

/-! ### arguments, displays -/
def dNil : TAD := fun _ S Q => Q [] S
def dCons (δ : TED) (α : TAD) : TAD := fun ρ S Q => δ ρ S fun x S1 => α ρ S1 fun xs S2 => Q (x :: xs) S2
theorem da_nil : DA X [] dNil := paW pa_nil fun σ H Q ⟨ρ, S, Qd, re, rs, q, k⟩ => k _ _ _ _ q (.refl rs) (RDs.nil.mpr rfl)
theorem da_cons (ha : DE X e δ) (hr : DA X es α) (hs : starEach (e :: es) X.env = (false, eval e X.env) :: starEach es X.env := by rfl) : DA X (e :: es) (dCons δ α) := paW (pa_cons ha hr hs) fun σ H Q h => by
  obtain ⟨ρ, S, Qd, re, rs, q, k⟩ := h
  refine ⟨ρ, S, _, re, rs, q, fun x S1 v H1 q1 g1 r1 => ?_⟩
  refine ⟨ρ, S1, _, re.tp g1.tp, g1.rs, q1, fun xs S2 vs H2 q2 g2 r2 => ?_⟩
  exact k _ _ _ _ q2 (g1.trans g2) (RDs.cons (r1.tp g2.tp) r2)
/-- *e among arguments, in a display -/
def dStar (δ : TED) (α : TAD) : TAD := fun ρ S Q => δ ρ S fun x S1 => ∃ ds, S1.seq x = some ds ∧ (α ρ S1 fun xs S2 => Q (ds ++ xs) S2)
def dTup (α : TAD) : TED := fun ρ S Q => α ρ S fun xs S1 => xs.length ≤ sizeLine ∧ Q (.tup xs) S1
def dLst (r : Bool) (α : TAD) : TED := fun ρ S Q => α ρ S fun xs S1 => xs.length ≤ sizeLine ∧ newL r xs S1 Q
theorem de_tup {x1} (h : DA X es α) : DE X (.Tuple es x1 pos) (dTup α) := peW (pe_tup h) fun σ H Q hh => by
  obtain ⟨ρ, S, Qd, re, rs, q, k⟩ := hh
  refine ⟨ρ, S, _, re, rs, q, fun xs S1 vs H1 q1 g1 r1 => ?_⟩
  obtain ⟨q1, q2⟩ := q1
  exact ⟨by rw [r1.len]; exact q1, fun p hp => newT_ok g1.rs r1 q2 (k.go g1) p hp⟩
theorem de_lst {r : Bool} (h : DA X es α) : DE X (.List es pos) (dLst r α) := peW (pe_lst h) fun σ H Q hh => by
  obtain ⟨ρ, S, Qd, re, rs, q, k⟩ := hh
  refine ⟨ρ, S, _, re, rs, q, fun xs S1 vs H1 q1 g1 r1 => ?_⟩
  obtain ⟨q1, q2⟩ := q1
  exact ⟨by rw [r1.len]; exact q1, fun p hp => newL_ok g1.rs r1 q2 (k.go g1) p hp⟩

/-! ### calls by values -/
abbrev RLD := List D → Sto → QD → Prop
def LfL (K : PySem.W.Frag) (o : RLD) : List V → Hp → VK → Prop := fun vs H Q => ∃ ds S Qd, RDs K S H ds vs ∧ RS K S H ∧ o ds S Qd ∧ Aft K S H Qd Q
abbrev CallD (X : Cx) (f : Value) (o : RLD) : Prop := CallR X f (LfL X.K o)
theorem callW {f : Value} {r r' : List V → Hp → VK → Prop} (h : CallR X f r) (w : ∀ vs H Q, r' vs H Q → r vs H Q) : CallR X f r' := fun pins s σ H vs us Q I rv q => h pins s σ H vs us Q I rv (w _ _ _ q)
theorem callD_of {f : Value} {r : List V → Hp → VK → Prop} {o : RLD} (h : CallR X f r) (w : ∀ ds vs S H Qd Q, RDs X.K S H ds vs → RS X.K S H → o ds S Qd → Aft X.K S H Qd Q → r vs H Q) : CallD X f o :=
  callW h fun vs H Q ⟨ds, S, Qd, r1, rs, q, k⟩ => w ds vs S H Qd Q r1 rs q k
theorem callD_or {f : Value} {o o' : RLD} (h : CallD X f o) (h' : CallD X f o') : CallD X f (fun ds S Q => o ds S Q ∨ o' ds S Q) :=
  callD_of (h.or h') fun ds vs S H Qd Q r1 rs q k => q.imp (fun q => ⟨ds, S, Qd, r1, rs, q, k⟩) (fun q => ⟨ds, S, Qd, r1, rs, q, k⟩)
theorem callD_W {f : Value} {o o' : RLD} (h : CallD X f o) (w : ∀ ds S Q, o' ds S Q → o ds S Q) : CallD X f o' :=
  callD_of h fun ds vs S H Qd Q r1 rs q k => ⟨ds, S, Qd, r1, rs, w _ _ _ q, k⟩
def dCB (o : RLD) (α : TAD) : TED := fun ρ S Q => α ρ S fun ds S1 => o ds S1 Q
theorem liftL {o : RLD} {K : PySem.W.Frag} (σ : L2.St) (H : Hp) (Q : VK) (h : LE K (dCB o α) σ H Q) : tCB (LfL K o) (LA K α) σ H Q := by
  obtain ⟨ρ, S, Qd, re, rs, q, k⟩ := h
  refine ⟨ρ, S, _, re, rs, q, fun xs S1 vs H1 q1 g1 r1 => ?_⟩
  exact ⟨xs, S1, Qd, r1, g1.rs, q1, k.go g1⟩
variable {x : Str} {p : Pos} {id T : String} {o : RLD}
theorem de_callB (hc : CallD X (.builtin id) o) (hm : X.mg x = none) (hv : bootBuiltins x = some (.builtin id)) (ha : DA X (e :: es) α) (hg : Gl X x := by rfl) (hn : x ≠ "__name__" := by decide) (hdb : (x == ("__debug__" : Str)) = false := by decide)
    (he : starEach (e :: es) X.env = (false, eval e X.env) :: starEach es X.env := by rfl) (hpl : (backTo pos (starEach es X.env)).any (·.1) = false := by rfl) : DE X (.Call (.Name x p) (e :: es) [] pos) (dCB o α) := peW (pe_callB hc hg hm hv ha hn hdb he hpl) liftL
theorem de_callTy (hc : CallD X (.type T) o) (hm : X.mg x = none) (hv : bootBuiltins x = some (.type T)) (ha : DA X (e :: es) α) (hg : Gl X x := by rfl) (hn : x ≠ "__name__" := by decide) (hdb : (x == ("__debug__" : Str)) = false := by decide)
    (he : starEach (e :: es) X.env = (false, eval e X.env) :: starEach es X.env := by rfl) (hpl : (backTo pos (starEach es X.env)).any (·.1) = false := by rfl) : DE X (.Call (.Name x p) (e :: es) [] pos) (dCB o α) := peW (pe_callTy hc hg hm hv ha hn hdb he hpl) liftL

/-! ### calls of the text's own defs -/
/-- a promise: arguments, store, what follows -/
abbrev DSp := List D → Sto → QD → Prop
def LSp (K : PySem.W.Frag) (sp : DSp) : Sp := fun vs H Q _ => ∃ ds S Qd, RDs K S H ds vs ∧ RS K S H ∧ sp ds S Qd ∧ Aft K S H Qd Q
def dCall (sp : DSp) (α : TAD) : TED := fun ρ S Q => α ρ S fun ds S1 => sp ds S1 Q
theorem liftCall {sp : DSp} {K : PySem.W.Frag} {E : XK} (σ : L2.St) (H : Hp) (Q : VK) (h : LE K (dCall sp α) σ H Q) : tCall (LSp K sp) [] E (LA K α) σ H Q := by
  obtain ⟨ρ, S, Qd, re, rs, q, k⟩ := h
  refine ⟨ρ, S, _, re, rs, q, fun xs S1 vs H1 q1 g1 r1 => ?_⟩
  show LSp K sp (vs ++ []) H1 Q E
  rw [List.append_nil]
  exact ⟨xs, S1, Qd, r1, g1.rs, q1, k.go g1⟩
variable {k : Nat} {f : Addr} {fd : FuncData} {ps : List Str} {sp : DSp} {CX : CXT} {E : XK}
theorem de_call (F : FnOk X.prog X.w X.K X.mg X.base CX k f fd ps (LSp X.K sp)) (hr : Room k X.A) (hm : X.mg x = some (.ref f)) (hk : PySem.W.keepIn X.K (.ref f) = true) (hb : Binds X.K fd ps []) (hx : Passes CX X E) (ha : DA X (e :: es) α)
    (hg : Gl X x := by rfl) (hdb : (x == ("__debug__" : Str)) = false := by decide) (he : starEach (e :: es) X.env = (false, eval e X.env) :: starEach es X.env := by rfl) (hpl : (backTo pos (starEach es X.env)).any (·.1) = false := by rfl) :
    DE X (.Call (.Name x p) (e :: es) [] pos) (dCall sp α) := peW (pe_call F hr hg hm hk hb .nil hx ha hdb he hpl) liftCall

/-! ### subscripts, slices, methods by values -/
abbrev IxD (X : Cx) (o : R2D) : Prop := IxR X (Lf2 X.K o)
theorem ixD_of {r : R2} {o : R2D} (h : IxR X r) (w : ∀ d e x y S H Qd Q, RD X.K S H d x → RD X.K S H e y → RS X.K S H → o d e S Qd → Aft X.K S H Qd Q → r x y H Q) : IxD X o :=
  fun va sl pins s σ H x y v u Q I rx ry ⟨d, e, S, Qd, r1, r2, rs, q, k⟩ => h va sl pins s σ H x y v u Q I rx ry (w d e x y S H Qd Q r1 r2 rs q k)
theorem ixD_or {o o' : R2D} (h : IxD X o) (h' : IxD X o') : IxD X (fun d e S Q => o d e S Q ∨ o' d e S Q) :=
  ixD_of (h.or h') fun d e x y S H Qd Q r1 r2 rs q k => q.imp (fun q => ⟨d, e, S, Qd, r1, r2, rs, q, k⟩) (fun q => ⟨d, e, S, Qd, r1, r2, rs, q, k⟩)
theorem ixD_W {o o' : R2D} (h : IxD X o) (w : ∀ d e S Q, o' d e S Q → o d e S Q) : IxD X o' :=
  ixD_of h fun d e x y S H Qd Q r1 r2 rs q k => ⟨d, e, S, Qd, r1, r2, rs, w _ _ _ _ q, k⟩
theorem de_ix {o : R2D} (hr : IxD X o) (ha : DE X a δa) (hb : DE X b δb) (hs : PlainIx b := by exact fun _ _ => rfl) : DE X (.Subscript a b pos) (dOp o δa δb) := peW (pe_ix hr ha hb hs) lift2
abbrev TOD := DEnv → Sto → (Option Int → Sto → Prop) → Prop
def LO (K : PySem.W.Frag) (δ : TOD) : TO := fun σ H Q => ∃ ρ S Qd, RE K S H ρ σ ∧ RS K S H ∧ δ ρ S Qd ∧ ∀ b S' H', Qd b S' → Go K S H S' H' → Q b H'
abbrev DO (X : Cx) (e : Option Expr) (δ : TOD) : Prop := PO X e (LO X.K δ)
def dNoPart : TOD := fun _ S Q => Q none S
def dPart (δ : TED) : TOD := fun ρ S Q => δ ρ S fun x S1 => match x with
  | .int i => Q (some i) S1
  | _ => False
theorem poW {e : Option Expr} {t t' : TO} (h : PO X e t) (w : ∀ σ H Q, t' σ H Q → t σ H Q) : PO X e t' := ⟨fun pins s σ H Q I q => h.run pins s σ H Q I (w σ H Q q)⟩
theorem do_none : DO X none dNoPart := poW po_none fun σ H Q ⟨ρ, S, Qd, re, rs, q, k⟩ => k _ _ _ q (.refl rs)
theorem do_some (h : DE X e δ) : DO X (some e) (dPart δ) := poW (po_some h) fun σ H Q hh => by
  obtain ⟨ρ, S, Qd, re, rs, q, k⟩ := hh
  refine ⟨ρ, S, _, re, rs, q, fun x S1 v H1 q1 g1 r1 => ?_⟩
  try dsimp only at q1
  split at q1
  · rw [RD] at r1
    exact ⟨_, r1, k _ _ _ q1 g1⟩
  · exact q1.elim
abbrev RSlD := D → Option Int → Option Int → Sto → QD → Prop
def LfSl (K : PySem.W.Frag) (o : RSlD) : V → Option Int → Option Int → Hp → VK → Prop := fun x lo hi H Q => ∃ d S Qd, RD K S H d x ∧ RS K S H ∧ o d lo hi S Qd ∧ Aft K S H Qd Q
abbrev SlD (X : Cx) (o : RSlD) : Prop := SlR X (LfSl X.K o)
theorem slD_of {r : V → Option Int → Option Int → Hp → VK → Prop} {o : RSlD} (h : SlR X r) (w : ∀ d x lo hi S H Qd Q, RD X.K S H d x → RS X.K S H → o d lo hi S Qd → Aft X.K S H Qd Q → r x lo hi H Q) : SlD X o :=
  fun pins s σ H x v vl vu lo hi sl Q I rx hs pl pu ⟨d, S, Qd, r1, rs, q, k⟩ => h pins s σ H x v vl vu lo hi sl Q I rx hs pl pu (w d x lo hi S H Qd Q r1 rs q k)
theorem slD_or {o o' : RSlD} (h : SlD X o) (h' : SlD X o') : SlD X (fun d lo hi S Q => o d lo hi S Q ∨ o' d lo hi S Q) :=
  slD_of (h.or h') fun d x lo hi S H Qd Q r1 rs q k => q.imp (fun q => ⟨d, S, Qd, r1, rs, q, k⟩) (fun q => ⟨d, S, Qd, r1, rs, q, k⟩)
theorem slD_W {o o' : RSlD} (h : SlD X o) (w : ∀ d lo hi S Q, o' d lo hi S Q → o d lo hi S Q) : SlD X o' :=
  slD_of h fun d x lo hi S H Qd Q r1 rs q k => ⟨d, S, Qd, r1, rs, w _ _ _ _ _ q, k⟩
def dSl (o : RSlD) (δ : TED) (l h : TOD) : TED := fun ρ S Q => δ ρ S fun x S1 => l ρ S1 fun lo S2 => h ρ S2 fun hi S3 => o x lo hi S3 Q
variable {ol oh : TOD} {lo hi : Option Expr} {p2 : Pos}
theorem de_slice {o : RSlD} (hr : SlD X o) (he : DE X e δ) (hl : DO X lo ol) (hu : DO X hi oh) : DE X (.Subscript e (.Slice lo hi none p2) pos) (dSl o δ ol oh) := peW (pe_slice hr he hl hu) fun σ H Q hh => by
  obtain ⟨ρ, S, Qd, re, rs, q, k⟩ := hh
  refine ⟨ρ, S, _, re, rs, q, fun x S1 v H1 q1 g1 r1 => ?_⟩
  refine ⟨ρ, S1, _, re.tp g1.tp, g1.rs, q1, fun l S2 H2 q2 g2 => ?_⟩
  refine ⟨ρ, S2, _, re.tp (g1.trans g2).tp, g2.rs, q2, fun h S3 H3 q3 g3 => ?_⟩
  exact ⟨x, S3, Qd, r1.tp (g2.trans g3).tp, g3.rs, q3, k.go ((g1.trans g2).trans g3)⟩

/-! ### methods of lists -/
abbrev RMD := D → List D → Sto → QD → Prop
def LfM (K : PySem.W.Frag) (o : RMD) : V → List V → Hp → VK → Prop := fun x xs H Q => ∃ d ds S Qd, RD K S H d x ∧ RDs K S H ds xs ∧ RS K S H ∧ o d ds S Qd ∧ Aft K S H Qd Q
abbrev MtD (X : Cx) (id : String) (o : RMD) : Prop := MtR X id (LfM X.K o)
theorem mtD_of {id : String} {r : V → List V → Hp → VK → Prop} {o : RMD} (h : MtR X id r) (w : ∀ d ds x xs S H Qd Q, RD X.K S H d x → RDs X.K S H ds xs → RS X.K S H → o d ds S Qd → Aft X.K S H Qd Q → r x xs H Q) : MtD X id o :=
  fun pins s σ H x xs v us Q I rx rxs ⟨d, ds, S, Qd, r1, r2, rs, q, k⟩ => h pins s σ H x xs v us Q I rx rxs (w d ds x xs S H Qd Q r1 r2 rs q k)
def dBM (o : RMD) (δ : TED) (α : TAD) : TED := fun ρ S Q => δ ρ S fun x S1 => (∃ ds, S1.list x = some ds) ∧ α ρ S1 fun xs S2 => o x xs S2 Q
variable {name : Str} {apos cpos : Pos} {ob : Expr}
theorem de_bm {o : RMD} (pa : PlainAttrs "list") (slot : Slot "list" name id) (hty : typeOf (.builtin id) = pure (.type "method_descriptor")) (hm : MtD X id o) (ho : DE X ob δ) (ha : DA X (e :: es) α)
    (hbase : attributeBase ob name X.env (eval ob X.env) = eval ob X.env := by rfl)
    (hfew : ((backTo cpos (starEach (e :: es) X.env)).all (fun x => !x.1) && (backToKw cpos (keywordEach [] X.env)).all (fun x => x.1.isSome)
      && decide ((e :: es).length + ([] : List Keyword).length + (if ([] : List Keyword).isEmpty then 0 else 1) < 30)) = true := by rfl)
    (hline : (apos.endLine == cpos.line) = true := by rfl) (hs : starEach (e :: es) X.env = (false, eval e X.env) :: starEach es X.env := by rfl) (hplain : (backTo cpos (starEach es X.env)).any (·.1) = false := by rfl) :
    DE X (.Call (.Attribute ob name apos) (e :: es) [] cpos) (dBM o δ α) := peW (pe_bm pa slot hty hm ho ha hbase hfew hline hs hplain) fun σ H Q hh => by
  obtain ⟨ρ, S, Qd, re, rs, q, k⟩ := hh
  refine ⟨ρ, S, _, re, rs, q, fun x S1 v H1 q1 g1 r1 => ?_⟩
  obtain ⟨⟨ds, hds⟩, q1⟩ := q1
  obtain ⟨a, vs, e1, e2, e3⟩ := list_at hds r1 g1.rs
  refine ⟨by rw [e1]; exact .inl ⟨rfl, vs, .of e2⟩, ρ, S1, _, re.tp g1.tp, g1.rs, q1, fun xs S2 ws H2 q2 g2 r2 => ?_⟩
  exact ⟨x, xs, S2, Qd, r1.tp g2.tp, r2, g2.rs, q2, k.go (g1.trans g2)⟩
theorem de_bm0 {o : RMD} (pa : PlainAttrs "list") (slot : Slot "list" name id) (hty : typeOf (.builtin id) = pure (.type "method_descriptor")) (hm : MtD X id o) (ho : DE X ob δ)
    (hbase : attributeBase ob name X.env (eval ob X.env) = eval ob X.env := by rfl) (hline : (apos.endLine == cpos.line) = true := by rfl) : DE X (.Call (.Attribute ob name apos) [] [] cpos) (dBM o δ dNil) := peW (pe_bm0 pa slot hty hm ho hbase hline) fun σ H Q hh => by
  obtain ⟨ρ, S, Qd, re, rs, q, k⟩ := hh
  refine ⟨ρ, S, _, re, rs, q, fun x S1 v H1 q1 g1 r1 => ?_⟩
  obtain ⟨⟨ds, hds⟩, q1⟩ := q1
  obtain ⟨a, vs, e1, e2, e3⟩ := list_at hds r1 g1.rs
  exact ⟨by rw [e1]; exact .inl ⟨rfl, vs, .of e2⟩, x, [], S1, Qd, r1, RDs.nil.mpr rfl, g1.rs, q1, k.go g1⟩
end
end PL
/-! zip of two, of three, enumerate: over lists and tuples in any mix -/
namespace PL
open PySem PySem.Spec PyProof.Rows L2

/-- a list (true) or a tuple (false) -/
def Sq (b : Bool) (K : PySem.W.Frag) (H : Hp) (a : Addr) (xs : List V) : Prop := match b with
  | true => SqL K H a xs
  | false => SqT K H a xs
def SqIs (b : Bool) (h : Heap) (a : Addr) (its : Array Value) : Prop := match b with
  | true => h.IsList a its
  | false => h.IsTuple a its
def SqIt (b : Bool) (h : Heap) (it a : Addr) (i : Nat) : Prop := match b with
  | true => h.IsListIter it a i
  | false => h.IsTupleIter it a i
def sqO (b : Bool) (a : Addr) : Obj := match b with
  | true => { cls := .type "list_iterator", data := .fields #[.ref a, .int 0 0] }
  | false => { cls := .type "tuple_iterator", data := .fields #[.ref a, .int 0 0] }
theorem sq_begins (b : Bool) (a : Addr) (its : Array Value) : Begins (.ref a) (sqO b a) (fun h => SqIs b h a its) := by
  cases b with
  | true => exact begins_list a its
  | false => exact begins_tuple a its
theorem sq_draws {prog : Program} {w : World} {A : Around} (b : Bool) (hh : A.handled = none) (it a : Addr) (hne : a ≠ it) (its : Array Value) :
    Draws prog w A it [it, a] its.size (fun i v => its[i]? = some v) (fun i h => SqIt b h it a i ∧ SqIs b h a its) := by
  cases b with
  | true => exact Draws.list hh it a hne its
  | false => exact Draws.tuple hh it a hne its
section
variable {X : Cx} {pins : List (Addr × Obj)} {σ : L2.St} {H : Hp} {s : Shared} {a : Addr} {xs ys : List V} {b : Bool}
theorem sq_get (I : Inv X pins σ H s) (h : Sq b X.K H a xs) : ∃ its : List Value, Vals xs its ∧ SqIs b s.heap a its.toArray ∧ a < s.heap.objs.size := by
  cases b with
  | true => obtain ⟨its, rv, p, _⟩ := I.list h; exact ⟨its, rv, p.isList, p.lt⟩
  | false => obtain ⟨its, rv, p, _⟩ := I.tuple h; obtain ⟨o, ho, r⟩ := id p; exact ⟨its, rv, ⟨o, ho, r⟩, Heap.lt_size ho⟩
theorem sq_inj (I : Inv X pins σ H s) (h : Sq b X.K H a xs) (h' : Sq b X.K H a ys) : xs = ys := by
  cases b with
  | true => exact I.list_inj h h'
  | false => exact I.tuple_inj h h'
theorem sqIt_obj {h : Heap} {it : Addr} {i : Nat} (st : SqIt b h it a i) : ∃ o, h.get? it = some o ∧ ∀ v, o.data ≠ .cell v := by
  cases b <;> (obtain ⟨o, e, _, d⟩ := st; exact ⟨o, e, fun v z => by rw [d] at z; cases z⟩)
theorem sqIt_at {h h' : Heap} {it : Addr} {i : Nat} (st : SqIt b h it a i) (k : ∀ o, h.get? it = some o → h'.get? it = some o) : SqIt b h' it a i := by
  cases b with
  | true => exact Heap.IsListIter.at st k
  | false => exact Heap.IsTupleIter.at st k
theorem sqIt_lt {h : Heap} {it : Addr} {i : Nat} (st : SqIt b h it a i) : it < h.objs.size := by obtain ⟨o, e, _⟩ := sqIt_obj st; exact Heap.lt_size e
theorem sqO_it {h : Heap} {it : Addr} (e : h.get? it = some (sqO b a)) : SqIt b h it a 0 := by
  cases b <;> exact ⟨_, e, rfl, rfl⟩
theorem sq_ne {K : PySem.W.Frag} {it : Addr} {h : Heap} {i : Nat} {its : Array Value} (st : SqIt b h it a i) (q : SqIs b h a its) : a ≠ it := by
  intro e; subst e
  cases b with
  | true =>
    obtain ⟨o, e, c, d⟩ := st
    obtain ⟨o', e', c', _⟩ := q
    rw [e] at e'; cases e'; rw [c] at c'; injection c' with z; exact absurd z (by decide)
  | false =>
    obtain ⟨o, e, c, d⟩ := st
    obtain ⟨o', e', c', _⟩ := q
    rw [e] at e'; cases e'; rw [c] at c'; injection c' with z; exact absurd z (by decide)
end

/-! ### enumerate -/
def ItE (b : Bool) (K : PySem.W.Frag) (a : Addr) : It :=
  ⟨fun i H => ∃ (xs : List V) (x : V), Sq b K H a xs ∧ xs[i]? = some x, fun i H v H' => ∃ T x, v = .ref T ∧ H T = none ∧ H' = upd H T (.tup [.int (i : Nat), x]) ∧ ∀ xs, Sq b K H a xs → xs[i]? = some x, fun i H => ∃ xs : List V, Sq b K H a xs ∧ xs.length = i⟩
theorem turn_E {P : Program} {w : World} {K : PySem.W.Frag} {elts : List Expr} {kk : Nat} {tpos : Pos} (b : Bool) (a e it : Addr) :
    Turn P w K (.Tuple elts kk tpos) (ItE b K a) [e, it] e (fun i h => (∃ old, IsEnum h e it ((i : Nat) : Int) old) ∧ SqIt b h it a i ∧ e ≠ it ∧ e ≠ a) where
  mem := by simp
  obj := fun i h st c hc => by
    obtain ⟨⟨old, he⟩, hi, _⟩ := st
    have e' : c = e ∨ c = it := by simpa using hc
    rcases e' with z | z
    · rw [z]; exact ⟨_, he, fun v q => nomatch q⟩
    · rw [z]; exact sqIt_obj hi
  keep := fun i h h' st k => let ⟨⟨old, he⟩, hi, hne⟩ := st; ⟨⟨old, k e (by simp) _ he⟩, sqIt_at hi fun o q => k it (by simp) o q, hne⟩
  item := by
    intro X hP hw hK hc i pins s σ H E I hf st hg
    subst hP hw hK
    obtain ⟨⟨old, he⟩, hit, hne, hea⟩ := st
    obtain ⟨xs, x, hq, hx⟩ := hg
    obtain ⟨its, rv, p, _⟩ := sq_get I hq
    obtain ⟨u, hu, ru⟩ := rv.get hx
    have hel : e < s.heap.objs.size := Heap.lt_size he
    have hil := sqIt_lt hit
    have hai : a ≠ it := sq_ne (K := X.K) hit p
    have hlt : i < its.toArray.size := by
      obtain ⟨h1, _⟩ := List.getElem?_eq_some_iff.mp hu
      simpa using h1
    refine wpAny_pyNext_enum_itemC (sq_draws (prog := X.prog) (w := X.w) (A := X.A.in1) b (I.ok.hd hc) it a hai its.toArray) he ⟨hit, p⟩ hlt hne (by simp [hne, hea]) fun y h' tk hy ho st' hT hsz hk => ?_
    have ey : y = u := by
      have h2 : its[i]? = some y := by simpa using hy
      rw [hu] at h2; exact (Option.some.inj h2).symm
    subst ey
    refine ⟨_, rfl, wpAny_letOwnedTupleGo_enum (s := { s with heap := h', toks := tk + 1 }) ho fun h'' he' sb => ?_⟩
    have hT2 : h''.get? s.heap.objs.size = some { cls := .type "tuple", data := .seq #[.int i tk, y] } := (sb.2 _ (Nat.ne_of_gt hel)).trans hT
    have new : ObjOk X.prog X.w (upd H s.heap.objs.size (.tup [.int (i : Nat), x])) h'' s.heap.objs.size (.tup [.int (i : Nat), x]) :=
      ⟨by show 2 ≤ sizeLine; decide, [.int i tk, y], .cons ⟨_, rfl⟩ (.cons ru .nil), ⟨_, hT2, rfl, _, rfl⟩⟩
    have I1 : Inv X pins σ (upd H s.heap.objs.size (.tup [.int (i : Nat), x])) { s with heap := h'', toks := tk + 1 } :=
      I.turnedNew (ch := [e, it]) (fun b ob hb q => (sb.2 b (fun z => hb (by simp [z]))).trans (hk b ob (fun z => hb (by simp [z])) (fun z => hb (by simp [z])) q)) hf (Nat.le_refl _) new
    refine ⟨.ref s.heap.objs.size, _, I1, rfl, ⟨_, x, rfl, I.hok.fresh (Nat.le_refl _), rfl, fun ys hy => by rw [sq_inj I hy hq]; exact hx⟩, ⟨⟨y, ?_⟩, sqIt_at st'.1 fun o q => (sb.2 it (Ne.symm hne)).trans q, hne, hea⟩, fun b hb => ?_⟩
    · have e1 : ((i + 1 : Nat) : Int) = (i : Int) + 1 := by omega
      rw [e1]; exact he'
    · have hb' : b < s.heap.objs.size := by
        have e' : b = e ∨ b = it := by simpa using hb
        rcases e' with z | z
        · rw [z]; exact hel
        · rw [z]; exact hil
      rw [upd_ne (Nat.ne_of_lt hb')]
      exact (hf b hb).1
  done := by
    intro X hP hw hK hc i pins s σ H E I hf st hg
    subst hP hw hK
    obtain ⟨⟨old, he⟩, hit, hne, hea⟩ := st
    obtain ⟨xs, hq, hx⟩ := hg
    obtain ⟨its, rv, p, _⟩ := sq_get I hq
    have hai : a ≠ it := sq_ne (K := X.K) hit p
    have hl : its.toArray.size = i := by
      have := rv.length
      simp; omega
    refine wpAny_pyNext_enum_endD (sq_draws (prog := X.prog) (w := X.w) (A := X.A.in1) b (I.ok.hd hc) it a hai its.toArray) he ⟨by rw [hl]; exact hit, p⟩ fun h' eb => ⟨rfl, ?_⟩
    obtain ⟨f0, f1, f2, f3, f4, f5⟩ := hf it (by simp)
    exact I.turned (t' := s.toks) (fun b o hb q => eb b o hb q) f0 f1 f3 f4 f5
  self := fun A i s Q E st h => let ⟨⟨_, he⟩, _⟩ := st; wpAny_pyIter_enum he h

theorem meets_enumerate_1B {v : Value} {o : Obj} {H : Heap → Prop} (B : Begins v o H) :
    Meets (Builtin.«enumerate.__new__» ⟨[.type "enumerate", v], []⟩) (fun _ R s => H s.heap ∧
      R (.ok (.ret (.ref (s.heap.push o).objs.size))) { s with heap := (s.heap.push o).push { cls := .type "enumerate", data := .fields #[.none, .bool false, .ref s.heap.objs.size, rawInt 0, .none, .none] } }) :=
  .of_wp fun prog w A R s h => by
    obtain ⟨hp, g, d, tk, os⟩ := s; obtain ⟨h1, h⟩ := h
    have hsub := sub_enumerate
    have q1 : ∀ {A' : Around} {E : Value → Shared → Prop} {Q : Value → Shared → Prop}, Q (.ref hp.objs.size) ⟨hp.push o, g, d, tk, os⟩ → wpAny (model prog w) A' (pyIter v) Q E ⟨hp, g, d, tk, os⟩ :=
      fun q => B.iter prog w _ _ ⟨hp, g, d, tk, os⟩ _ h1 q
    wp_walk using q1
    refine wpAny_stack_any fun st => wpAny_pure ?_
    split
    · rename_i c _ _ _ _ _
      cases (c == Value.type "enumerate")
      · wp_walk using q1
        exact ⟨_, rfl, h⟩
      · wp_walk using q1
        exact ⟨_, rfl, h⟩
    · wp_walk using q1
      exact ⟨_, rfl, h⟩
theorem enum_begins1 {prog : Program} {w : World} {A : Around} {E : Value → Shared → Prop} {s : Shared} {v : Value} {o : Obj} {H : Heap → Prop} {Q : Value → Shared → Prop} (B : Begins v o H) (h1 : H s.heap)
    (h : ∀ h', IsEnum h' (s.heap.objs.size + 1) s.heap.objs.size 0 .none → h'.get? s.heap.objs.size = some o → h'.objs.size = s.heap.objs.size + 2 →
      (∀ b o, s.heap.get? b = some o → h'.get? b = some o) → Q (.ref (s.heap.objs.size + 1)) { s with heap := h' }) :
    wpAny (model prog w) A (call (.type "enumerate") [v]) Q E s := by
  refine callType_new F.called_enumerate (by decide) (F.typeCall_enumerate_1 _) (F.newCall_enumerate_1 _) (fun obj => F.args_object_init_2 obj _) F.entry_enumerate_new
    (meets_enumerate_1B B) ⟨h1, ?_⟩
  have hz : (s.heap.push o).objs.size = s.heap.objs.size + 1 := Heap.size_push ..
  show _ ∧ _
  rw [hz]
  have he : IsEnum ((s.heap.push o).push { cls := .type "enumerate", data := .fields #[.none, .bool false, .ref s.heap.objs.size, rawInt 0, .none, .none] }) (s.heap.objs.size + 1) s.heap.objs.size 0 .none := by
    have := Heap.get?_push_size (s.heap.push o) (o := { cls := .type "enumerate", data := .fields #[.none, .bool false, .ref s.heap.objs.size, rawInt 0, .none, .none] }) rfl
    rw [hz] at this; exact this
  exact ⟨⟨_, he, rfl⟩, h _ he (Heap.get?_push_of_some _ (Heap.get?_push_size _ B.free)) (by rw [Heap.size_push, hz]) fun b o x => Heap.get?_push_of_some _ (Heap.get?_push_of_some _ x)⟩
def iE (K : PySem.W.Frag) (ta : TA) : TI := fun σ H R => ta σ H fun vs H1 => ∃ b a xs, vs = [.ref a] ∧ Sq b K H1 a xs ∧ R (ItE b K a) H1
theorem pi_E {X : Cx} {e : Expr} {ta : TA} {p pos tpos : Pos} {elts : List Expr} {kk : Nat} (hg : Gl X "enumerate") (hm : X.mg "enumerate" = none) (ha : PA X [e] ta) (hs : starEach [e] X.env = [(false, eval e X.env)] := by rfl) :
    PI X (.Tuple elts kk tpos) (.Call (.Name "enumerate" p) [e] [] pos) (iE X.K ta) := by
  refine ⟨fun pins s σ H R I h => ?_⟩
  refine Call_ (ld_blt I hg hm boot_enumerate (PyProof.Rows.callWith_type1 (thn (ha.run pos pins s σ H _ I h) fun us s1 ⟨vs, H1, I1, r1, q1⟩ => ?_) hs rfl))
  obtain ⟨b, a, xs, ex, hq, q⟩ := q1
  subst ex
  cases r1 with
  | cons r rr =>
    cases rr
    cases r
    obtain ⟨its, rv, p', lt⟩ := sq_get I1 hq
    refine enum_begins1 (sq_begins b a its.toArray) p' fun h' he hit hsz hk => wpAny_pyIter_enum he ?_
    have I2 : Inv X pins σ H1 { s1 with heap := h' } := I1.kept (t' := s1.toks) hk
    have hea : s1.heap.objs.size + 1 ≠ a := Nat.ne_of_gt (Nat.lt_succ_of_lt lt)
    refine ⟨s1.heap.objs.size + 1, [s1.heap.objs.size + 1, s1.heap.objs.size], _, _, H1, rfl, I2, turn_E b a (s1.heap.objs.size + 1) s1.heap.objs.size, ⟨⟨.none, he⟩, sqO_it hit, Nat.succ_ne_self _, hea⟩, fun c hc => ?_, q⟩
    have e' : c = s1.heap.objs.size + 1 ∨ c = s1.heap.objs.size := by simpa using hc
    have hle : s1.heap.objs.size ≤ c := by
      rcases e' with z | z
      · rw [z]; exact Nat.le_add_right _ _
      · rw [z]; exact Nat.le_refl _
    exact I1.fpOk hle (I1.hok.fresh hle)
/-! ### zip of two -/
def ItZ2 (b1 b2 : Bool) (K : PySem.W.Frag) (a1 a2 : Addr) : It :=
  ⟨fun i H => ∃ (xs ys : List V) (x y : V), Sq b1 K H a1 xs ∧ Sq b2 K H a2 ys ∧ xs[i]? = some x ∧ ys[i]? = some y,
    fun i H v H' => ∃ T x y, v = .ref T ∧ H T = none ∧ H' = upd H T (.tup [x, y]) ∧ (∀ xs, Sq b1 K H a1 xs → xs[i]? = some x) ∧ ∀ ys, Sq b2 K H a2 ys → ys[i]? = some y,
    fun i H => ∃ xs ys : List V, Sq b1 K H a1 xs ∧ Sq b2 K H a2 ys ∧ i ≤ xs.length ∧ i ≤ ys.length ∧ (xs.length = i ∨ ys.length = i)⟩
/-- the five cells of a zip lie apart, and from what it walks -/
structure Sep2 (z TI TO i1 i2 a1 a2 : Addr) : Prop where
  S : ZipSep2 z TI TO i1 i2 [i1, a1] [i2, a2]
theorem pr_ne (x i a : Nat) (e1 : x ≠ i) (e2 : x ≠ a) : x ∉ [i, a] := fun z => (List.mem_cons.mp z).elim e1 fun z => e2 (List.mem_singleton.mp z)
theorem ad_nn (n i j : Nat) (h : i ≠ j) : n + i ≠ n + j := by omega
theorem ad_n0 (n j : Nat) (h : 0 ≠ j) : n ≠ n + j := by omega
theorem ad_m0 (n j : Nat) (h : 0 ≠ j) : n + j ≠ n := by omega
theorem ad_a (n j a : Nat) (h : a < n) : n + j ≠ a := by omega
theorem ad_a0 (n a : Nat) (h : a < n) : n ≠ a := by omega
theorem sep2_nat (n a1 a2 : Nat) (h1 : a1 < n) (h2 : a2 < n) : @ZipSep2 (n + 4) (n + 2) (n + 3) n (n + 1) [n, a1] [n + 1, a2] :=
  ⟨ad_nn n 2 4 (by decide), ad_nn n 3 4 (by decide), ad_nn n 2 3 (by decide), ad_m0 n 2 (by decide), by simp, pr_ne _ _ _ (ad_m0 n 4 (by decide)) (ad_a n 4 _ h1), pr_ne _ _ _ (ad_m0 n 3 (by decide)) (ad_a n 3 _ h1),
    ad_nn n 2 1 (by decide), by simp, pr_ne _ _ _ (ad_nn n 4 1 (by decide)) (ad_a n 4 _ h2), pr_ne _ _ _ (ad_nn n 3 1 (by decide)) (ad_a n 3 _ h2), pr_ne _ _ _ (ad_n0 n 1 (by decide)) (ad_a0 n _ h2), pr_ne _ _ _ (ad_m0 n 1 (by decide)) (ad_a n 1 _ h1)⟩
theorem sep2_of {n a1 a2 : Addr} (h1 : a1 < n) (h2 : a2 < n) : Sep2 (n + 4) (n + 2) (n + 3) n (n + 1) a1 a2 := ⟨sep2_nat n a1 a2 h1 h2⟩
theorem turn_Z2 {P : Program} {w : World} {K : PySem.W.Frag} {elts : List Expr} {kk : Nat} {tpos : Pos} (b1 b2 : Bool) {a1 a2 z TI TO i1 i2 : Addr} (D : Sep2 z TI TO i1 i2 a1 a2) :
    Turn P w K (.Tuple elts kk tpos) (ItZ2 b1 b2 K a1 a2) [z, TI, TO, i1, i2] z (fun i h => IsZip h z TI TO .none ∧ IsTupOf2 h TI (.ref i1) (.ref i2) ∧ (∃ x y, IsTupOf2 h TO x y) ∧ SqIt b1 h i1 a1 i ∧ SqIt b2 h i2 a2 i) where
  mem := by simp
  obj := fun i h st c hc => by
    obtain ⟨hz, hTI, ⟨x, y, hTO⟩, h1, h2⟩ := st
    have e' : c = z ∨ c = TI ∨ c = TO ∨ c = i1 ∨ c = i2 := by simpa using hc
    rcases e' with q | q | q | q | q
    · rw [q]; exact ⟨_, hz, fun v q => nomatch q⟩
    · rw [q]; exact ⟨_, hTI, fun v q => nomatch q⟩
    · rw [q]; exact ⟨_, hTO, fun v q => nomatch q⟩
    · rw [q]; exact sqIt_obj h1
    · rw [q]; exact sqIt_obj h2
  keep := fun i h h' st k => by
    obtain ⟨hz, hTI, ⟨x, y, hTO⟩, h1, h2⟩ := st
    exact ⟨k z (by simp) _ hz, k TI (by simp) _ hTI, ⟨x, y, k TO (by simp) _ hTO⟩, sqIt_at h1 fun o q => k i1 (by simp) o q, sqIt_at h2 fun o q => k i2 (by simp) o q⟩
  item := by
    intro X hP hw hK hc i pins s σ H E I hf st hg
    subst hP hw hK
    obtain ⟨hz, hTI, ⟨x0, y0, hTO⟩, h1, h2⟩ := st
    obtain ⟨xs, ys, x, y, hqx, hqy, hx, hy⟩ := hg
    obtain ⟨its, rv, p, _⟩ := sq_get I hqx
    obtain ⟨its2, rv2, p2, _⟩ := sq_get I hqy
    obtain ⟨u, hu, ru⟩ := rv.get hx
    obtain ⟨u2, hu2, ru2⟩ := rv2.get hy
    have hzl : z < s.heap.objs.size := Heap.lt_size hz
    have l1 : i < its.toArray.size := by
      obtain ⟨h1, _⟩ := List.getElem?_eq_some_iff.mp hu
      simpa using h1
    have l2 : i < its2.toArray.size := by
      obtain ⟨h1, _⟩ := List.getElem?_eq_some_iff.mp hu2
      simpa using h1
    refine wpAny_pyNext_zipD2_item D.S (sq_draws (prog := X.prog) (w := X.w) (A := X.A.in1) b1 (I.ok.hd hc) i1 a1 (sq_ne (K := X.K) h1 p) its.toArray) (sq_draws (prog := X.prog) (w := X.w) (A := X.A.in1) b2 (I.ok.hd hc) i2 a2 (sq_ne (K := X.K) h2 p2) its2.toArray) hz hTI hTO ⟨h1, p⟩ ⟨h2, p2⟩ l1 l2 fun y1 y2 h' tk hy1 hy2 z' TO' h1' h2' hT hsz hk => ?_
    have ey : y1 = u := by
      have h2 : its[i]? = some y1 := by simpa using hy1
      rw [hu] at h2; exact (Option.some.inj h2).symm
    have ey2 : y2 = u2 := by
      have h2 : its2[i]? = some y2 := by simpa using hy2
      rw [hu2] at h2; exact (Option.some.inj h2).symm
    subst ey; subst ey2
    refine ⟨_, rfl, wpAny_letOwnedTupleGo_zip (s := { s with heap := h', toks := tk }) z' fun h'' z'' sb => ?_⟩
    have hT2 : h''.get? s.heap.objs.size = some { cls := .type "tuple", data := .seq #[y1, y2] } := (sb.2 _ (Nat.ne_of_gt hzl)).trans hT
    have new : ObjOk X.prog X.w (upd H s.heap.objs.size (.tup [x, y])) h'' s.heap.objs.size (.tup [x, y]) :=
      ⟨by show 2 ≤ sizeLine; decide, [y1, y2], .cons ru (.cons ru2 .nil), ⟨_, hT2, rfl, _, rfl⟩⟩
    have I1 : Inv X pins σ (upd H s.heap.objs.size (.tup [x, y])) { s with heap := h'', toks := tk } :=
      I.turnedNew (ch := [z, TI, TO, i1, i2]) (fun c o hb q => (sb.2 c (fun q' => hb (by simp [q']))).trans (hk c o (fun q' => hb (by simp [q'])) (fun q' => hb (by simp [q'])) (fun q' => hb (by simp [q'])) (fun q' => hb (by simp [q'])) q)) hf (Nat.le_refl _) new
    refine ⟨.ref s.heap.objs.size, _, I1, rfl, ⟨_, x, y, rfl, I.hok.fresh (Nat.le_refl _), rfl, fun l hl => by rw [sq_inj I hl hqx]; exact hx, fun l hl => by rw [sq_inj I hl hqy]; exact hy⟩, ⟨z'', ?_, ⟨y1, y2, ?_⟩, ?_, ?_⟩, fun c hcm => ?_⟩
    · exact (sb.2 _ D.S.TIz).trans (hk _ _ D.S.TIz D.S.TITO D.S.TIi1 D.S.TIi2 hTI)
    · exact (sb.2 _ D.S.TOz).trans TO'
    · exact sqIt_at h1'.1 fun o q => (sb.2 _ (Ne.symm D.S.zi1)).trans q
    · exact sqIt_at h2'.1 fun o q => (sb.2 _ (Ne.symm D.S.zi2)).trans q
    · have hlt : c < s.heap.objs.size := by
        have e' : c = z ∨ c = TI ∨ c = TO ∨ c = i1 ∨ c = i2 := by simpa using hcm
        rcases e' with q | q | q | q | q
        · rw [q]; exact hzl
        · rw [q]; exact Heap.lt_size hTI
        · rw [q]; exact Heap.lt_size hTO
        · rw [q]; exact sqIt_lt h1
        · rw [q]; exact sqIt_lt h2
      rw [upd_ne (Nat.ne_of_lt hlt)]
      exact (hf c hcm).1
  done := by
    intro X hP hw hK hc i pins s σ H E I hf st hg
    subst hP hw hK
    obtain ⟨hz, hTI, ⟨x0, y0, hTO⟩, h1, h2⟩ := st
    obtain ⟨xs, ys, hqx, hqy, le1, le2, hend⟩ := hg
    obtain ⟨its, rv, p, _⟩ := sq_get I hqx
    obtain ⟨its2, rv2, p2, _⟩ := sq_get I hqy
    have l1 := rv.length
    have l2 := rv2.length
    exact wpAny_pyNext_zipD2_end D.S (sq_draws (prog := X.prog) (w := X.w) (A := X.A.in1) b1 (I.ok.hd hc) i1 a1 (sq_ne (K := X.K) h1 p) its.toArray) (sq_draws (prog := X.prog) (w := X.w) (A := X.A.in1) b2 (I.ok.hd hc) i2 a2 (sq_ne (K := X.K) h2 p2) its2.toArray) hz hTI hTO ⟨h1, p⟩ ⟨h2, p2⟩
      (by simp; omega) (by simp; omega) (by simp; omega) fun h' tk hk => ⟨rfl, I.turnedL (ch := [z, TI, TO, i1, i2]) (fun c o hb q =>
      hk c o (fun q' => hb (by simp [q'])) (fun q' => hb (by simp [q'])) (fun q' => hb (by simp [q'])) (fun q' => hb (by simp [q'])) q) hf⟩
  self := fun A i s Q E st h => wpAny_pyIter_zip st.1 h
def iZ2 (K : PySem.W.Frag) (ta : TA) : TI := fun σ H R => ta σ H fun vs H1 => ∃ b1 b2 a1 a2 xs ys, vs = [.ref a1, .ref a2] ∧ Sq b1 K H1 a1 xs ∧ Sq b2 K H1 a2 ys ∧ R (ItZ2 b1 b2 K a1 a2) H1
theorem pi_Z2 {X : Cx} {e e2 : Expr} {ta : TA} {p pos tpos : Pos} {elts : List Expr} {kk : Nat} (hg : Gl X "zip") (hm : X.mg "zip" = none) (ha : PA X [e, e2] ta)
    (hs : starEach [e, e2] X.env = (false, eval e X.env) :: starEach [e2] X.env := by rfl) (hpl : (backTo pos (starEach [e2] X.env)).any (·.1) = false := by rfl) :
    PI X (.Tuple elts kk tpos) (.Call (.Name "zip" p) [e, e2] [] pos) (iZ2 X.K ta) := by
  refine ⟨fun pins s σ H R I h => ?_⟩
  refine Call_ (ld_blt I hg hm PyProof.Rows.boot_zip (PyProof.Rows.callWith_type1 (thn (ha.run pos pins s σ H _ I h) fun us s1 ⟨vs, H1, I1, r1, q1⟩ => ?_) hs hpl))
  obtain ⟨b1, b2, a1, a2, xs, ys, ex, hqx, hqy, q⟩ := q1
  subst ex
  cases r1 with
  | cons r rr =>
    cases rr with
    | cons r' rr =>
      cases rr
      cases r
      cases r'
      have fresh5 : ∀ c, c ∈ [s1.heap.objs.size + 4, s1.heap.objs.size + 2, s1.heap.objs.size + 3, s1.heap.objs.size, s1.heap.objs.size + 1] → FpOk X pins H1 c := fun c hcm => by
        have e' : c = s1.heap.objs.size + 4 ∨ c = s1.heap.objs.size + 2 ∨ c = s1.heap.objs.size + 3 ∨ c = s1.heap.objs.size ∨ c = s1.heap.objs.size + 1 := by simpa using hcm
        have hle : s1.heap.objs.size ≤ c := by
          rcases e' with z | z | z | z | z
          · rw [z]; exact Nat.le_add_right _ _
          · rw [z]; exact Nat.le_add_right _ _
          · rw [z]; exact Nat.le_add_right _ _
          · rw [z]; exact Nat.le_refl _
          · rw [z]; exact Nat.le_add_right _ _
        exact I1.fpOk hle (I1.hok.fresh hle)
      obtain ⟨its, rv, p1, lt1⟩ := sq_get I1 hqx
      obtain ⟨its2, rv2, p2, lt2⟩ := sq_get I1 hqy
      refine zip_begins2 (sq_begins b1 a1 its.toArray) (sq_begins b2 a2 its2.toArray) p1 p2 fun h' hz hTI hTO h1 h2 hsz hk => wpAny_pyIter_zip hz ?_
      have I2 : Inv X pins σ H1 { s1 with heap := h' } := I1.kept (t' := s1.toks) hk
      exact ⟨s1.heap.objs.size + 4, [s1.heap.objs.size + 4, s1.heap.objs.size + 2, s1.heap.objs.size + 3, s1.heap.objs.size, s1.heap.objs.size + 1], _, _, H1, rfl, I2, turn_Z2 b1 b2 (sep2_of lt1 lt2), ⟨hz, hTI, ⟨_, _, hTO⟩, sqO_it h1, sqO_it h2⟩, fresh5, q⟩

/-! ### zip of three -/
def ItZ3 (b1 b2 b3 : Bool) (K : PySem.W.Frag) (a1 a2 a3 : Addr) : It :=
  ⟨fun i H => ∃ (xs ys zs : List V) (x y z : V), Sq b1 K H a1 xs ∧ Sq b2 K H a2 ys ∧ Sq b3 K H a3 zs ∧ xs[i]? = some x ∧ ys[i]? = some y ∧ zs[i]? = some z,
    fun i H v H' => ∃ T x y z, v = .ref T ∧ H T = none ∧ H' = upd H T (.tup [x, y, z]) ∧ (∀ xs, Sq b1 K H a1 xs → xs[i]? = some x) ∧ (∀ ys, Sq b2 K H a2 ys → ys[i]? = some y) ∧ ∀ zs, Sq b3 K H a3 zs → zs[i]? = some z,
    fun i H => ∃ xs ys zs : List V, Sq b1 K H a1 xs ∧ Sq b2 K H a2 ys ∧ Sq b3 K H a3 zs ∧ i ≤ xs.length ∧ i ≤ ys.length ∧ i ≤ zs.length ∧ (xs.length = i ∨ ys.length = i ∨ zs.length = i)⟩
structure Sep3 (z TI TO i1 i2 i3 a1 a2 a3 : Addr) : Prop where
  S : ZipSep3 z TI TO i1 i2 i3 [i1, a1] [i2, a2] [i3, a3]
theorem sep3_nat (n a1 a2 a3 : Nat) (h1 : a1 < n) (h2 : a2 < n) (h3 : a3 < n) : @ZipSep3 (n + 5) (n + 3) (n + 4) n (n + 1) (n + 2) [n, a1] [n + 1, a2] [n + 2, a3] :=
  ⟨ad_nn n 3 5 (by decide), ad_nn n 4 5 (by decide), ad_nn n 3 4 (by decide),
    ad_m0 n 3 (by decide), by simp, pr_ne _ _ _ (ad_m0 n 5 (by decide)) (ad_a n 5 _ h1), pr_ne _ _ _ (ad_m0 n 4 (by decide)) (ad_a n 4 _ h1),
    ad_nn n 3 1 (by decide), by simp, pr_ne _ _ _ (ad_nn n 5 1 (by decide)) (ad_a n 5 _ h2), pr_ne _ _ _ (ad_nn n 4 1 (by decide)) (ad_a n 4 _ h2),
    ad_nn n 3 2 (by decide), by simp, pr_ne _ _ _ (ad_nn n 5 2 (by decide)) (ad_a n 5 _ h3), pr_ne _ _ _ (ad_nn n 4 2 (by decide)) (ad_a n 4 _ h3),
    pr_ne _ _ _ (ad_n0 n 1 (by decide)) (ad_a0 n _ h2), pr_ne _ _ _ (ad_n0 n 2 (by decide)) (ad_a0 n _ h3), pr_ne _ _ _ (ad_m0 n 1 (by decide)) (ad_a n 1 _ h1), pr_ne _ _ _ (ad_nn n 1 2 (by decide)) (ad_a n 1 _ h3), pr_ne _ _ _ (ad_m0 n 2 (by decide)) (ad_a n 2 _ h1), pr_ne _ _ _ (ad_nn n 2 1 (by decide)) (ad_a n 2 _ h2)⟩
theorem sep3_of {n a1 a2 a3 : Addr} (h1 : a1 < n) (h2 : a2 < n) (h3 : a3 < n) : Sep3 (n + 5) (n + 3) (n + 4) n (n + 1) (n + 2) a1 a2 a3 := ⟨sep3_nat n a1 a2 a3 h1 h2 h3⟩
theorem turn_Z3 {P : Program} {w : World} {K : PySem.W.Frag} {elts : List Expr} {kk : Nat} {tpos : Pos} (b1 b2 b3 : Bool) {a1 a2 a3 z TI TO i1 i2 i3 : Addr} (D : Sep3 z TI TO i1 i2 i3 a1 a2 a3) :
    Turn P w K (.Tuple elts kk tpos) (ItZ3 b1 b2 b3 K a1 a2 a3) [z, TI, TO, i1, i2, i3] z (fun i h => IsZip h z TI TO .none ∧ IsTupOf3 h TI (.ref i1) (.ref i2) (.ref i3) ∧ (∃ x y u, IsTupOf3 h TO x y u) ∧ SqIt b1 h i1 a1 i ∧ SqIt b2 h i2 a2 i ∧ SqIt b3 h i3 a3 i) where
  mem := by simp
  obj := fun i h st c hc => by
    obtain ⟨hz, hTI, ⟨x, y, u, hTO⟩, h1, h2, h3⟩ := st
    have e' : c = z ∨ c = TI ∨ c = TO ∨ c = i1 ∨ c = i2 ∨ c = i3 := by simpa using hc
    rcases e' with q | q | q | q | q | q
    · rw [q]; exact ⟨_, hz, fun v q => nomatch q⟩
    · rw [q]; exact ⟨_, hTI, fun v q => nomatch q⟩
    · rw [q]; exact ⟨_, hTO, fun v q => nomatch q⟩
    · rw [q]; exact sqIt_obj h1
    · rw [q]; exact sqIt_obj h2
    · rw [q]; exact sqIt_obj h3
  keep := fun i h h' st k => by
    obtain ⟨hz, hTI, ⟨x, y, u, hTO⟩, h1, h2, h3⟩ := st
    exact ⟨k z (by simp) _ hz, k TI (by simp) _ hTI, ⟨x, y, u, k TO (by simp) _ hTO⟩, sqIt_at h1 fun o q => k i1 (by simp) o q, sqIt_at h2 fun o q => k i2 (by simp) o q, sqIt_at h3 fun o q => k i3 (by simp) o q⟩
  item := by
    intro X hP hw hK hc i pins s σ H E I hf st hg
    subst hP hw hK
    obtain ⟨hz, hTI, ⟨x0, y0, z0, hTO⟩, h1, h2, h3⟩ := st
    obtain ⟨xs, ys, zs, x, y, zz, hqx, hqy, hqz, hx, hy, hzz⟩ := hg
    obtain ⟨its, rv, p, _⟩ := sq_get I hqx
    obtain ⟨its2, rv2, p2, _⟩ := sq_get I hqy
    obtain ⟨its3, rv3, p3, _⟩ := sq_get I hqz
    obtain ⟨u, hu, ru⟩ := rv.get hx
    obtain ⟨u2, hu2, ru2⟩ := rv2.get hy
    obtain ⟨u3, hu3, ru3⟩ := rv3.get hzz
    have hzl : z < s.heap.objs.size := Heap.lt_size hz
    have l1 : i < its.toArray.size := by
      obtain ⟨h1, _⟩ := List.getElem?_eq_some_iff.mp hu
      simpa using h1
    have l2 : i < its2.toArray.size := by
      obtain ⟨h1, _⟩ := List.getElem?_eq_some_iff.mp hu2
      simpa using h1
    have l3 : i < its3.toArray.size := by
      obtain ⟨h1, _⟩ := List.getElem?_eq_some_iff.mp hu3
      simpa using h1
    refine wpAny_pyNext_zipD3_item D.S (sq_draws (prog := X.prog) (w := X.w) (A := X.A.in1) b1 (I.ok.hd hc) i1 a1 (sq_ne (K := X.K) h1 p) its.toArray) (sq_draws (prog := X.prog) (w := X.w) (A := X.A.in1) b2 (I.ok.hd hc) i2 a2 (sq_ne (K := X.K) h2 p2) its2.toArray) (sq_draws (prog := X.prog) (w := X.w) (A := X.A.in1) b3 (I.ok.hd hc) i3 a3 (sq_ne (K := X.K) h3 p3) its3.toArray)
      hz hTI hTO ⟨h1, p⟩ ⟨h2, p2⟩ ⟨h3, p3⟩ l1 l2 l3 fun y1 y2 y3 h' tk hy1 hy2 hy3 z' TO' h1' h2' h3' hT hsz hk => ?_
    have ey : y1 = u := by
      have h2 : its[i]? = some y1 := by simpa using hy1
      rw [hu] at h2; exact (Option.some.inj h2).symm
    have ey2 : y2 = u2 := by
      have h2 : its2[i]? = some y2 := by simpa using hy2
      rw [hu2] at h2; exact (Option.some.inj h2).symm
    have ey3 : y3 = u3 := by
      have h2 : its3[i]? = some y3 := by simpa using hy3
      rw [hu3] at h2; exact (Option.some.inj h2).symm
    subst ey; subst ey2; subst ey3
    refine ⟨_, rfl, wpAny_letOwnedTupleGo_zip (s := { s with heap := h', toks := tk }) z' fun h'' z'' sb => ?_⟩
    have hT2 : h''.get? s.heap.objs.size = some { cls := .type "tuple", data := .seq #[y1, y2, y3] } := (sb.2 _ (Nat.ne_of_gt hzl)).trans hT
    have new : ObjOk X.prog X.w (upd H s.heap.objs.size (.tup [x, y, zz])) h'' s.heap.objs.size (.tup [x, y, zz]) :=
      ⟨by show 3 ≤ sizeLine; decide, [y1, y2, y3], .cons ru (.cons ru2 (.cons ru3 .nil)), ⟨_, hT2, rfl, _, rfl⟩⟩
    have I1 : Inv X pins σ (upd H s.heap.objs.size (.tup [x, y, zz])) { s with heap := h'', toks := tk } :=
      I.turnedNew (ch := [z, TI, TO, i1, i2, i3]) (fun c o hb q => (sb.2 c (fun q' => hb (by simp [q']))).trans (hk c o (fun q' => hb (by simp [q'])) (fun q' => hb (by simp [q'])) (fun q' => hb (by simp [q'])) (fun q' => hb (by simp [q'])) (fun q' => hb (by simp [q'])) q)) hf (Nat.le_refl _) new
    refine ⟨.ref s.heap.objs.size, _, I1, rfl, ⟨_, x, y, zz, rfl, I.hok.fresh (Nat.le_refl _), rfl, fun l hl => by rw [sq_inj I hl hqx]; exact hx, fun l hl => by rw [sq_inj I hl hqy]; exact hy, fun l hl => by rw [sq_inj I hl hqz]; exact hzz⟩, ⟨z'', ?_, ⟨y1, y2, y3, ?_⟩, ?_, ?_, ?_⟩, fun c hcm => ?_⟩
    · exact (sb.2 _ D.S.TIz).trans (hk _ _ D.S.TIz D.S.TITO D.S.TIi1 D.S.TIi2 D.S.TIi3 hTI)
    · exact (sb.2 _ D.S.TOz).trans TO'
    · exact sqIt_at h1'.1 fun o q => (sb.2 _ (Ne.symm D.S.zi1)).trans q
    · exact sqIt_at h2'.1 fun o q => (sb.2 _ (Ne.symm D.S.zi2)).trans q
    · exact sqIt_at h3'.1 fun o q => (sb.2 _ (Ne.symm D.S.zi3)).trans q
    · have hlt : c < s.heap.objs.size := by
        have e' : c = z ∨ c = TI ∨ c = TO ∨ c = i1 ∨ c = i2 ∨ c = i3 := by simpa using hcm
        rcases e' with q | q | q | q | q | q
        · rw [q]; exact hzl
        · rw [q]; exact Heap.lt_size hTI
        · rw [q]; exact Heap.lt_size hTO
        · rw [q]; exact sqIt_lt h1
        · rw [q]; exact sqIt_lt h2
        · rw [q]; exact sqIt_lt h3
      rw [upd_ne (Nat.ne_of_lt hlt)]
      exact (hf c hcm).1
  done := by
    intro X hP hw hK hc i pins s σ H E I hf st hg
    subst hP hw hK
    obtain ⟨hz, hTI, ⟨x0, y0, z0, hTO⟩, h1, h2, h3⟩ := st
    obtain ⟨xs, ys, zs, hqx, hqy, hqz, le1, le2, le3, hend⟩ := hg
    obtain ⟨its, rv, p, _⟩ := sq_get I hqx
    obtain ⟨its2, rv2, p2, _⟩ := sq_get I hqy
    obtain ⟨its3, rv3, p3, _⟩ := sq_get I hqz
    have l1 := rv.length
    have l2 := rv2.length
    have l3 := rv3.length
    exact wpAny_pyNext_zipD3_end D.S (sq_draws (prog := X.prog) (w := X.w) (A := X.A.in1) b1 (I.ok.hd hc) i1 a1 (sq_ne (K := X.K) h1 p) its.toArray) (sq_draws (prog := X.prog) (w := X.w) (A := X.A.in1) b2 (I.ok.hd hc) i2 a2 (sq_ne (K := X.K) h2 p2) its2.toArray) (sq_draws (prog := X.prog) (w := X.w) (A := X.A.in1) b3 (I.ok.hd hc) i3 a3 (sq_ne (K := X.K) h3 p3) its3.toArray) hz hTI hTO ⟨h1, p⟩ ⟨h2, p2⟩ ⟨h3, p3⟩
      (by simp; omega) (by simp; omega) (by simp; omega) (by simp; omega) fun h' tk hk => ⟨rfl, I.turnedL (ch := [z, TI, TO, i1, i2, i3]) (fun c o hb q =>
      hk c o (fun q' => hb (by simp [q'])) (fun q' => hb (by simp [q'])) (fun q' => hb (by simp [q'])) (fun q' => hb (by simp [q'])) (fun q' => hb (by simp [q'])) q) hf⟩
  self := fun A i s Q E st h => wpAny_pyIter_zip st.1 h
def iZ3 (K : PySem.W.Frag) (ta : TA) : TI := fun σ H R => ta σ H fun vs H1 => ∃ b1 b2 b3 a1 a2 a3 xs ys zs, vs = [.ref a1, .ref a2, .ref a3] ∧ Sq b1 K H1 a1 xs ∧ Sq b2 K H1 a2 ys ∧ Sq b3 K H1 a3 zs ∧ R (ItZ3 b1 b2 b3 K a1 a2 a3) H1
theorem pi_Z3 {X : Cx} {e e2 e3 : Expr} {ta : TA} {p pos tpos : Pos} {elts : List Expr} {kk : Nat} (hg : Gl X "zip") (hm : X.mg "zip" = none) (ha : PA X [e, e2, e3] ta)
    (hs : starEach [e, e2, e3] X.env = (false, eval e X.env) :: starEach [e2, e3] X.env := by rfl) (hpl : (backTo pos (starEach [e2, e3] X.env)).any (·.1) = false := by rfl) :
    PI X (.Tuple elts kk tpos) (.Call (.Name "zip" p) [e, e2, e3] [] pos) (iZ3 X.K ta) := by
  refine ⟨fun pins s σ H R I h => ?_⟩
  refine Call_ (ld_blt I hg hm PyProof.Rows.boot_zip (PyProof.Rows.callWith_type1 (thn (ha.run pos pins s σ H _ I h) fun us s1 ⟨vs, H1, I1, r1, q1⟩ => ?_) hs hpl))
  obtain ⟨b1, b2, b3, a1, a2, a3, xs, ys, zs, ex, hqx, hqy, hqz, q⟩ := q1
  subst ex
  cases r1 with
  | cons r rr =>
    cases rr with
    | cons r' rr =>
      cases rr with
      | cons r'' rr =>
        cases rr
        cases r
        cases r'
        cases r''
        have fresh6 : ∀ c, c ∈ [s1.heap.objs.size + 5, s1.heap.objs.size + 3, s1.heap.objs.size + 4, s1.heap.objs.size, s1.heap.objs.size + 1, s1.heap.objs.size + 2] → FpOk X pins H1 c := fun c hcm => by
          have e' : c = s1.heap.objs.size + 5 ∨ c = s1.heap.objs.size + 3 ∨ c = s1.heap.objs.size + 4 ∨ c = s1.heap.objs.size ∨ c = s1.heap.objs.size + 1 ∨ c = s1.heap.objs.size + 2 := by simpa using hcm
          have hle : s1.heap.objs.size ≤ c := by
            rcases e' with z | z | z | z | z | z
            · rw [z]; exact Nat.le_add_right _ _
            · rw [z]; exact Nat.le_add_right _ _
            · rw [z]; exact Nat.le_add_right _ _
            · rw [z]; exact Nat.le_refl _
            · rw [z]; exact Nat.le_add_right _ _
            · rw [z]; exact Nat.le_add_right _ _
          exact I1.fpOk hle (I1.hok.fresh hle)
        obtain ⟨its, rv, p1, lt1⟩ := sq_get I1 hqx
        obtain ⟨its2, rv2, p2, lt2⟩ := sq_get I1 hqy
        obtain ⟨its3, rv3, p3, lt3⟩ := sq_get I1 hqz
        refine zip_begins3 (sq_begins b1 a1 its.toArray) (sq_begins b2 a2 its2.toArray) (sq_begins b3 a3 its3.toArray) p1 p2 p3 fun h' hz hTI hTO h1 h2 h3 hsz hk => wpAny_pyIter_zip hz ?_
        have I2 : Inv X pins σ H1 { s1 with heap := h' } := I1.kept (t' := s1.toks) hk
        exact ⟨s1.heap.objs.size + 5, [s1.heap.objs.size + 5, s1.heap.objs.size + 3, s1.heap.objs.size + 4, s1.heap.objs.size, s1.heap.objs.size + 1, s1.heap.objs.size + 2], _, _, H1, rfl, I2, turn_Z3 b1 b2 b3 (sep3_of lt1 lt2 lt3), ⟨hz, hTI, ⟨_, _, _, hTO⟩, sqO_it h1, sqO_it h2, sqO_it h3⟩, fresh6, q⟩
end PL
/-! statements, loops, comprehensions, defs -/
namespace PL
open PySem PySem.Spec PyProof.Rows L2

section
variable {X : Cx} {e a b c : Expr} {es : List Expr} {pos : Pos} {δ δa δb δc : TED} {θ θ1 θ2 : TTD} {α : TAD} {st : Stmt} {rest body : List Stmt} {τ τ1 τ2 : TSD}

/-! ### blocks -/
def dNext : TSD := fun De ρ S => De.nx ρ S
def dSeq (t u : TSD) : TSD := fun De ρ S => t { De with nx := fun ρ' S' => u De ρ' S' } ρ S
theorem dss_nil : DSs X [] dNext := pssW pss_nil fun E σ H ⟨ρ, S, De, re, rs, q, k⟩ => k.nx _ _ _ _ q (.refl rs) re
theorem dss_cons (h1 : DS X st τ1) (h2 : DSs X rest τ2) : DSs X (st :: rest) (dSeq τ1 τ2) := pssW (pss_cons h1 h2) fun E σ H ⟨ρ, S, De, re, rs, q, k⟩ =>
  ⟨ρ, S, _, re, rs, q, ⟨fun ρ' S' σ' H' q' g' re' => ⟨ρ', S', De, re', g'.rs, q', k.go g'⟩, k.rt, k.bk, k.ct⟩⟩
theorem dss_one (h1 : DS X st τ) : DSs X [st] τ := pss_one h1
def dBreak : TSD := fun De ρ S => De.bk ρ S
def dCont : TSD := fun De ρ S => De.ct ρ S
def dNever : TSD := fun _ _ _ => False
theorem ds_pass : DS X (.Pass pos) dNext := psW ps_pass fun E σ H ⟨ρ, S, De, re, rs, q, k⟩ => k.nx _ _ _ _ q (.refl rs) re
theorem ds_break : DS X (.Break pos) dBreak := psW ps_break fun E σ H ⟨ρ, S, De, re, rs, q, k⟩ => k.bk _ _ _ _ q (.refl rs) re
theorem ds_continue : DS X (.Continue pos) dCont := psW ps_continue fun E σ H ⟨ρ, S, De, re, rs, q, k⟩ => k.ct _ _ _ _ q (.refl rs) re
theorem ds_never : DS X st dNever := psW ps_never fun E σ H ⟨ρ, S, De, re, rs, q, k⟩ => q.elim
theorem dss_never {sts : List Stmt} : DSs X sts dNever := pssW pss_never fun E σ H ⟨ρ, S, De, re, rs, q, k⟩ => q.elim
def dDrop (δ : TED) : TSD := fun De ρ S => δ ρ S fun _ S1 => De.nx ρ S1
theorem ds_expr (he : DE X e δ) (hs : swapsWith e none pos.line X.env = pure false := by rfl) : DS X (.Expr e pos) (dDrop δ) := psW (ps_expr he hs) fun E σ H ⟨ρ, S, De, re, rs, q, k⟩ =>
  ⟨ρ, S, _, re, rs, q, fun d S1 v H1 q1 g1 r1 => k.nx _ _ _ _ q1 g1 (re.tp g1.tp)⟩
def dRet (δ : TED) : TSD := fun De ρ S => δ ρ S De.rt
theorem ds_ret (he : DE X e δ) : DS X (.Return (some e) pos) (dRet δ) := psW (ps_ret he) fun E σ H ⟨ρ, S, De, re, rs, q, k⟩ =>
  ⟨ρ, S, _, re, rs, q, fun d S1 v H1 q1 g1 r1 => k.rt _ _ _ _ q1 g1 r1⟩
def dRetN : TSD := fun De ρ S => De.rt .non S
theorem ds_retN : DS X (.Return none pos) dRetN := psW ps_retN fun E σ H ⟨ρ, S, De, re, rs, q, k⟩ => k.rt _ _ _ _ q (.refl rs) (by rw [RD])
def dIfS (t : TTD) (u w : TSD) : TSD := fun De ρ S => t ρ S fun b S1 => match b with
  | true => u De ρ S1
  | false => w De ρ S1
theorem ds_if {sa sb : List Stmt} (hc : DT X c θ) (ha : DSs X sa τ1) (hb : DSs X sb τ2) : DS X (.If c sa sb pos) (dIfS θ τ1 τ2) := psW (ps_if hc ha hb) fun E σ H ⟨ρ, S, De, re, rs, q, k⟩ => by
  refine ⟨ρ, S, _, re, rs, q, fun b S1 H1 q1 g1 => ?_⟩
  cases b with
  | true => exact ⟨ρ, S1, De, re.tp g1.tp, g1.rs, q1, k.go g1⟩
  | false => exact ⟨ρ, S1, De, re.tp g1.tp, g1.rs, q1, k.go g1⟩

/-! ### stores -/
def dAsg (i : Nat) (δ : TED) : TSD := fun De ρ S => δ ρ S fun d S1 => De.nx (ρ.set i (some d)) S1
theorem ds_set (i : Nat) {x : Str} {pos' : Pos} (hN : X.N.Nodup) (he : DE X e δ) (hi : X.N[i]? = some x := by rfl) (hx : Loc X.env.scope x := by first | exact Or.inl rfl | exact Or.inr rfl) (hs : swapsWith e (some (.Name x pos')) pos.line X.env = pure false := by rfl)
    (hf : X.fn x = true ∨ X.env.scope.names.lookup x = some .local := by first | exact .inl rfl | exact .inr rfl | assumption) : DS X (.Assign [.Name x pos'] e pos) (dAsg i δ) :=
  psW (ps_set hN hi hx he hs hf) fun E σ H ⟨ρ, S, De, re, rs, q, k⟩ => ⟨ρ, S, _, re, rs, q, fun d S1 v H1 q1 g1 r1 => k.nx _ _ _ _ q1 g1 ((re.tp g1.tp).set i r1)⟩
abbrev TGD := D → DEnv → Sto → (DEnv → Sto → Prop) → Prop
abbrev TGsD := List D → DEnv → Sto → (DEnv → Sto → Prop) → Prop
/-- but for the slots in L as it was -/
def Alk (L : List Nat) (σ σ' : L2.St) : Prop := ∀ vs : List Nat, (∀ i ∈ L, i ∈ vs) → wipe σ' vs = wipe σ vs
theorem wipe_get (σ : L2.St) (j : Nat) : ∀ vs : List Nat, (wipe σ vs)[j]? = if j ∈ vs then σ[j]?.map (fun _ => none) else σ[j]?
  | [] => by simp [L2.wipe]
  | v :: vs => by
    have ih := wipe_get σ j vs
    unfold L2.wipe
    rw [List.getElem?_set]
    by_cases h : v = j
    · subst h
      rw [if_pos rfl, wipe_length, if_pos (List.mem_cons_self ..)]
      by_cases hl : v < σ.length
      · rw [if_pos hl, List.getElem?_eq_getElem hl]; rfl
      · rw [if_neg hl, List.getElem?_eq_none (by omega)]; rfl
    · rw [if_neg h, ih]
      have e : (j ∈ v :: vs) = (j ∈ vs) := by
        simp [Ne.symm h]
      simp only [e]
theorem alk_set (i : Nat) (σ : L2.St) (x : Option V) : Alk [i] σ (σ.set i x) := fun vs h => by
  apply List.ext_getElem?
  intro j
  rw [wipe_get, wipe_get]
  by_cases hj : j ∈ vs
  · rw [if_pos hj, if_pos hj, List.getElem?_set]
    by_cases h2 : i = j
    · subst h2
      rw [if_pos rfl]
      by_cases hl : i < σ.length
      · rw [if_pos hl, List.getElem?_eq_getElem hl]; rfl
      · rw [if_neg hl, List.getElem?_eq_none (by omega)]
    · rw [if_neg h2]
  · rw [if_neg hj, if_neg hj, List.getElem?_set_ne]
    intro z
    exact hj (z ▸ h i (List.mem_singleton.mpr rfl))
theorem Alk.refl (σ : L2.St) : Alk [] σ σ := fun _ _ => rfl
theorem Alk.trans {L M : List Nat} {σ σ1 σ2 : L2.St} (a : Alk L σ σ1) (b : Alk M σ1 σ2) : Alk (L ++ M) σ σ2 := fun vs h =>
  (b vs fun i hi => h i (List.mem_append_right _ hi)).trans (a vs fun i hi => h i (List.mem_append_left _ hi))
def AftG (K : PySem.W.Frag) (L : List Nat) (S : Sto) (H : Hp) (σ : L2.St) (Qd : DEnv → Sto → Prop) (Q : L2.St → Hp → Prop) : Prop := ∀ ρ' S' σ' H', Qd ρ' S' → Go K S H S' H' → RE K S' H' ρ' σ' → Alk L σ σ' → Q σ' H'
def LG (K : PySem.W.Frag) (L : List Nat) (γ : TGD) : TG := fun v σ H Q => ∃ d ρ S Qd, RD K S H d v ∧ RE K S H ρ σ ∧ RS K S H ∧ γ d ρ S Qd ∧ AftG K L S H σ Qd Q
def LGs (K : PySem.W.Frag) (L : List Nat) (γ : TGsD) : TGs := fun vs σ H Q => ∃ ds ρ S Qd, RDs K S H ds vs ∧ RE K S H ρ σ ∧ RS K S H ∧ γ ds ρ S Qd ∧ AftG K L S H σ Qd Q
abbrev DG (X : Cx) (t : Expr) (L : List Nat) (γ : TGD) : Prop := PG X t (LG X.K L γ)
abbrev DGs (X : Cx) (ts : List Expr) (L : List Nat) (γ : TGsD) : Prop := PGs X ts (LGs X.K L γ)
theorem pgW {t t' : TG} (h : PG X e t) (w : ∀ v σ H Q, t' v σ H Q → t v σ H Q) : PG X e t' := ⟨fun pins s σ H v u Q I r q => h.run pins s σ H v u Q I r (w v σ H Q q)⟩
theorem pgsW {t t' : TGs} (h : PGs X es t) (w : ∀ v σ H Q, t' v σ H Q → t v σ H Q) : PGs X es t' := ⟨fun pins s σ H v u Q I r q => h.run pins s σ H v u Q I r (w v σ H Q q)⟩
def gN (i : Nat) : TGD := fun d ρ S Q => Q (ρ.set i (some d)) S
theorem dg_name (i : Nat) {x : Str} (hN : X.N.Nodup) (hi : X.N[i]? = some x := by rfl) (hx : Loc X.env.scope x := by first | exact Or.inl rfl | exact Or.inr rfl) (hf : X.fn x = true ∨ X.env.scope.names.lookup x = some .local := by first | exact .inl rfl | exact .inr rfl | assumption) :
    DG X (.Name x pos) [i] (gN i) := pgW (pg_name hN hi hx hf) fun v σ H Q ⟨d, ρ, S, Qd, r, re, rs, q, k⟩ => k _ _ _ _ q (.refl rs) (re.set i r) (alk_set i σ _)
def gsNil : TGsD := fun ds ρ S Q => match ds with
  | [] => Q ρ S
  | _ => False
def gsCons (γ : TGD) (γs : TGsD) : TGsD := fun ds ρ S Q => match ds with
  | d :: r => γ d ρ S fun ρ' S' => γs r ρ' S' Q
  | [] => False
theorem dgs_nil : DGs X [] [] gsNil := pgsW pgs_nil fun v σ H Q ⟨ds, ρ, S, Qd, r, re, rs, q, k⟩ => by
  cases ds with
  | nil => exact ⟨RDs.nil.mp r, k _ _ _ _ q (.refl rs) re (Alk.refl σ)⟩
  | cons _ _ => exact q.elim
theorem dgs_cons {γ : TGD} {γs : TGsD} {L M : List Nat} (h1 : DG X e L γ) (h2 : DGs X es M γs) (hs : (assignEach (e :: es) X.env).map (·.2) = assign e X.env :: (assignEach es X.env).map (·.2) := by rfl) : DGs X (e :: es) (L ++ M) (gsCons γ γs) :=
  pgsW (pgs_cons h1 h2 hs) fun vs σ H Q ⟨ds, ρ, S, Qd, r, re, rs, q, k⟩ => by
    cases ds with
    | nil => exact q.elim
    | cons d ds =>
      rw [RDs] at r
      obtain ⟨v, vr, rfl, r1, r2⟩ := r
      refine ⟨v, vr, rfl, d, ρ, S, _, r1, re, rs, q, fun ρ' S' σ' H' q' g' re' al => ?_⟩
      exact ⟨ds, ρ', S', Qd, r2.tp g'.tp, re', g'.rs, q', fun a b c d x y z w => k a b c d x (g'.trans y) z (al.trans w)⟩
def gT (n : Nat) (γs : TGsD) : TGD := fun d ρ S Q => match d with
  | .tup ds => ds.length = n ∧ γs ds ρ S Q
  | _ => False
theorem dg_tup {γs : TGsD} {L : List Nat} {k n : Nat} (h : DGs X es L γs) (hc : X.calm = true := by rfl) (hn : (assignEach es X.env).length = n := by rfl) (hst : (assignEach es X.env).findIdx? (·.1) = none := by rfl) : DG X (.Tuple es k pos) L (gT n γs) :=
  pgW (pg_tup hc h hn hst) fun v σ H Q ⟨d, ρ, S, Qd, r, re, rs, q, kk⟩ => by
    cases d with
    | tup ds =>
      rw [RD] at r
      obtain ⟨a, vs, rfl, r1, r2⟩ := r
      exact ⟨a, vs, rfl, r1, by rw [r2.len]; exact q.1, ds, ρ, S, Qd, r2, re, rs, q.2, kk⟩
    | _ => exact q.elim
def dAsgG (γ : TGD) (δ : TED) : TSD := fun De ρ S => δ ρ S fun d S1 => γ d ρ S1 De.nx
theorem ds_asg {tg : Expr} {γ : TGD} {L : List Nat} (he : DE X e δ) (hg : DG X tg L γ) (hs : swapsWithSole [tg] e pos.line X.env = pure false := by rfl) (hw : swappedStores [tg] e X.env = pure none := by rfl)
    (h1 : (assignEach [tg] X.env).map (·.2) = [assign tg X.env] := by rfl) : DS X (.Assign [tg] e pos) (dAsgG γ δ) := psW (ps_asg he hg hs hw h1) fun E σ H ⟨ρ, S, De, re, rs, q, k⟩ =>
  ⟨ρ, S, _, re, rs, q, fun d S1 v H1 q1 g1 r1 => ⟨d, ρ, S1, _, r1, re.tp g1.tp, g1.rs, q1, fun a b c d x y z _ => k.nx a b c d x (g1.trans y) z⟩⟩
/-- a, b = x, y -/
def dPar2 (i j : Nat) (α : TAD) : TSD := fun De ρ S => α ρ S fun ds S1 => match ds with
  | [d, e] => De.nx ((ρ.set i (some d)).set j (some e)) S1
  | _ => False
theorem ds_par2 (i j : Nat) {x y : Str} {px py pt : Pos} {kt k2 pt2} (hN : X.N.Nodup) (ha : DA X [a, b] α) (hc : X.calm = true := by rfl) (hi : X.N[i]? = some x := by rfl) (hj : X.N[j]? = some y := by rfl) (hij : i ≠ j := by decide)
    (hx : X.env.scope.names.lookup x = some .local := by rfl) (hy : X.env.scope.names.lookup y = some .local := by rfl)
    (hw : swappedStores [.Tuple [.Name x px, .Name y py] kt pt] (.Tuple [a, b] k2 pt2) X.env = pure (some [x, y]) := by rfl)
    (hs : swapsWithSole [.Tuple [.Name x px, .Name y py] kt pt] (.Tuple [a, b] k2 pt2) pos.line X.env = pure false := by rfl) :
    DS X (.Assign [.Tuple [.Name x px, .Name y py] kt pt] (.Tuple [a, b] k2 pt2) pos) (dPar2 i j α) := psW (ps_par hc hN hi hj hij hx hy ha hw hs) fun E σ H ⟨ρ, S, De, re, rs, q, k⟩ => by
  refine ⟨ρ, S, _, re, rs, q, fun ds S1 vs H1 q1 g1 r1 => ?_⟩
  try dsimp only at q1
  split at q1
  · obtain ⟨v, w, rfl, r2, r3⟩ := r1.two
    exact ⟨v, w, rfl, k.nx _ _ _ _ q1 g1 (((re.tp g1.tp).set i r2).set j r3)⟩
  · exact q1.elim
def dPar3 (i j l : Nat) (α : TAD) : TSD := fun De ρ S => α ρ S fun ds S1 => match ds with
  | [d, e, f] => De.nx (((ρ.set i (some d)).set j (some e)).set l (some f)) S1
  | _ => False
/-- name op= e -/
def dAug (i : Nat) (o : R2D) (δ : TED) : TSD := fun De ρ S => match ρ[i]? with
  | some (some d) => δ ρ S fun e S1 => o d e S1 fun z S2 => De.nx (ρ.set i (some z)) S2
  | _ => False
theorem ds_aug (i : Nat) {x : Str} {op : Operator} {o : R2D} {pos' : Pos} (hN : X.N.Nodup) (ho : OpD X (inplaceOp op) o) (he : DE X e δ) (hi : X.N[i]? = some x := by rfl) (hx : Loc X.env.scope x := by first | exact Or.inl rfl | exact Or.inr rfl)
    (hf : X.fn x = true ∨ X.env.scope.names.lookup x = some .local := by first | exact .inl rfl | exact .inr rfl | assumption) : DS X (.AugAssign (.Name x pos') op e pos) (dAug i o δ) := psW (ps_aug hN hi hx he (ti := Lf2 X.K o) ho hf) fun E σ H ⟨ρ, S, De, re, rs, q, k⟩ => by
  unfold dAug at q
  split at q
  · rename_i d hd
    obtain ⟨v, e1, r1⟩ := re.2 i d hd
    refine ⟨v, e1, ρ, S, _, re, rs, q, fun e' S1 w H1 q1 g1 r2 => ?_⟩
    exact ⟨d, e', S1, _, r1.tp g1.tp, r2, g1.rs, q1, fun z S2 u H2 q2 g2 r3 => k.nx _ _ _ _ q2 (g1.trans g2) ((re.tp (g1.trans g2).tp).set i r3)⟩
  · exact q.elim
/-- o[i] = e; o[i] op= e -/
abbrev TSetD := D → D → D → Sto → (Sto → Prop) → Prop
def LfSet (K : PySem.W.Frag) (o : TSetD) : TSet := fun x y z H Q => ∃ d e f S Qd, RD K S H d x ∧ RD K S H e y ∧ RD K S H f z ∧ RS K S H ∧ o d e f S Qd ∧ ∀ S' H', Qd S' → Go K S H S' H' → Q H'
abbrev SetD (X : Cx) (o : TSetD) : Prop := PSet X (LfSet X.K o)
theorem setD_of {r : TSet} {o : TSetD} (h : PSet X r) (w : ∀ d e f x y z S H Qd Q, RD X.K S H d x → RD X.K S H e y → RD X.K S H f z → RS X.K S H → o d e f S Qd → (∀ S' H', Qd S' → Go X.K S H S' H' → Q H') → r x y z H Q) : SetD X o :=
  fun pins s σ H x y z ov iv u Q I r1 r2 r3 ⟨d, e, f, S, Qd, q1, q2, q3, rs, q, k⟩ => h pins s σ H x y z ov iv u Q I r1 r2 r3 (w d e f x y z S H Qd Q q1 q2 q3 rs q k)
theorem setD_or {o o' : TSetD} (h : SetD X o) (h' : SetD X o') : SetD X (fun d e f S Q => o d e f S Q ∨ o' d e f S Q) := by
  intro pins s σ H x y z ov iv u Q I r1 r2 r3 ⟨d, e, f, S, Qd, q1, q2, q3, rs, q, k⟩
  rcases q with q | q
  · exact h pins s σ H x y z ov iv u Q I r1 r2 r3 ⟨d, e, f, S, Qd, q1, q2, q3, rs, q, k⟩
  · exact h' pins s σ H x y z ov iv u Q I r1 r2 r3 ⟨d, e, f, S, Qd, q1, q2, q3, rs, q, k⟩
def gSb (δo δi : TED) (o : TSetD) : TGD := fun f ρ S Q => δo ρ S fun d S1 => δi ρ S1 fun e S2 => o d e f S2 fun S3 => Q ρ S3
theorem dg_sub {ob ix : Expr} {o : TSetD} {δo δi : TED} (ho : DE X ob δo) (hi : DE X ix δi) (hs : SetD X o)
    (ha : ∀ v, assign (.Subscript ob ix pos) X.env v = (do
      let ov ← holding [v] (eval ob X.env)
      let iv ← holding [v, ov] (eval ix X.env)
      standAt pos
      holding [v, ov, iv] (setItem ov iv v)
      release [v, ov, iv] []) := by intro _; rfl) : DG X (.Subscript ob ix pos) [] (gSb δo δi o) := pgW (pg_sub ho hi hs ha) fun v σ H Q ⟨f, ρ, S, Qd, r, re, rs, q, k⟩ => by
  refine ⟨ρ, S, _, re, rs, q, fun d S1 v1 H1 q1 g1 r1 => ?_⟩
  refine ⟨ρ, S1, _, re.tp g1.tp, g1.rs, q1, fun e S2 v2 H2 q2 g2 r2 => ?_⟩
  exact ⟨d, e, f, S2, _, r1.tp g2.tp, r2, r.tp (g1.trans g2).tp, g2.rs, q2, fun S3 H3 q3 g3 => k _ _ _ _ q3 ((g1.trans g2).trans g3) (re.tp ((g1.trans g2).trans g3).tp) (Alk.refl σ)⟩
/-- o[i], by values (for o[i] op= e) -/
abbrev GetD (X : Cx) (o : R2D) : Prop := PGet X (Lf2 X.K o)
def dAugS (δo δi δ : TED) (og oi : R2D) (os : TSetD) : TSD := fun De ρ S => δo ρ S fun d S1 => δi ρ S1 fun i S2 => og d i S2 fun x S3 => δ ρ S3 fun y S4 => oi x y S4 fun z S5 => os d i z S5 fun S6 => De.nx ρ S6
theorem ds_augS {ob ix : Expr} {δo δi : TED} {og oi : R2D} {os : TSetD} {op : Operator} {tpos : Pos} (ho : DE X ob δo) (hi : DE X ix δi) (hg : GetD X og) (he : DE X e δ) (hp : OpD X (inplaceOp op) oi) (hs : SetD X os)
    (ha : ∀ ov iv new, augStore ix ov iv new = (do holding [new, ov, iv] (setItem ov iv new); release [new, ov, iv] []; pure .next) := by intros; rfl) : DS X (.AugAssign (.Subscript ob ix tpos) op e pos) (dAugS δo δi δ og oi os) :=
  psW (ps_augS ho hi hg he (tip := Lf2 X.K oi) hp hs ha) fun E σ H ⟨ρ, S, De, re, rs, q, k⟩ => by
    refine ⟨ρ, S, _, re, rs, q, fun d S1 v1 H1 q1 g1 r1 => ?_⟩
    refine ⟨ρ, S1, _, re.tp g1.tp, g1.rs, q1, fun i S2 v2 H2 q2 g2 r2 => ?_⟩
    refine ⟨d, i, S2, _, r1.tp g2.tp, r2, g2.rs, q2, fun x S3 v3 H3 q3 g3 r3 => ?_⟩
    have g13 := (g1.trans g2).trans g3
    refine ⟨ρ, S3, _, re.tp g13.tp, g3.rs, q3, fun y S4 v4 H4 q4 g4 r4 => ?_⟩
    refine ⟨x, y, S4, _, r3.tp g4.tp, r4, g4.rs, q4, fun z S5 v5 H5 q5 g5 r5 => ?_⟩
    have g25 := (g2.trans g3).trans (g4.trans g5)
    refine ⟨d, i, z, S5, _, r1.tp g25.tp, r2.tp ((g3.trans g4).trans g5).tp, r5, g5.rs, q5, fun S6 H6 q6 g6 => ?_⟩
    exact k.nx _ _ _ _ q6 (g1.trans (g25.trans g6)) (re.tp (g1.trans (g25.trans g6)).tp)

/-! ### what is walked -/
structure ItD where
  xs : List D
  ok : Sto → Prop
structure Wk (K : PySem.W.Frag) (J : It) (it : ItD) (S : Sto) (H : Hp) : Prop where
  go : ∀ i x S' H', it.xs[i]? = some x → Tp S H S' H' → RS K S' H' → it.ok S' → J.go i H' ∧ ∀ v H2, J.yld i H' v H2 → Go K S' H' S' H2 ∧ RD K S' H2 x v
  stop : ∀ S' H', Tp S H S' H' → RS K S' H' → it.ok S' → J.stop it.xs.length H'
abbrev TID := DEnv → Sto → (ItD → Sto → Prop) → Prop
def LI (K : PySem.W.Frag) (ι : TID) : TI := fun σ H R => ∃ ρ S Qd, RE K S H ρ σ ∧ RS K S H ∧ ι ρ S Qd ∧ ∀ it S' H' J, Qd it S' → Go K S H S' H' → Wk K J it S' H' → R J H'
abbrev DI (X : Cx) (tg iter : Expr) (ι : TID) : Prop := PI X tg iter (LI X.K ι)
theorem piW {tg iter : Expr} {t t' : TI} (h : PI X tg iter t) (w : ∀ σ H Q, t' σ H Q → t σ H Q) : PI X tg iter t' := ⟨fun pins s σ H Q I q => h.run pins s σ H Q I (w σ H Q q)⟩
/-- a tuple, a list that nobody changes; a tracked list must stand -/
def Sto.itOf (S : Sto) : D → Option ItD
  | .tup ds => some ⟨ds, fun _ => True⟩
  | .tpx ds => some ⟨ds, fun _ => True⟩
  | .fz ds => some ⟨ds, fun _ => True⟩
  | .lst ds => some ⟨ds, fun _ => True⟩
  | .ref p => match S p with
    | some (.lst ds) => some ⟨ds, fun S' => S' p = some (.lst ds)⟩
    | _ => none
  | _ => none
/-- the source, seen from any later time -/
theorem src_at {K : PySem.W.Frag} {S : Sto} {H : Hp} {d : D} {v : V} {it : ItD} (h : S.itOf d = some it) (rd : RD K S H d v) (rs : RS K S H) :
    ∃ b a, v = .ref a ∧ it.ok S ∧ ∀ S' H', Tp S H S' H' → RS K S' H' → it.ok S' → ∃ vs, Sq b K H' a vs ∧ RDs K S' H' it.xs vs := by
  cases d with
  | tup es =>
    have e := Option.some.inj h
    subst e
    rw [RD] at rd
    obtain ⟨a, vs, h1, h2, h3⟩ := rd
    exact ⟨false, a, h1, trivial, fun S' H' tp _ _ => ⟨vs, tp.sqt h2, h3.tp tp⟩⟩
  | tpx es =>
    have e := Option.some.inj h
    subst e
    rw [RD] at rd
    obtain ⟨a, o, vs, h1, h2, _, h3⟩ := rd
    exact ⟨false, a, h1, trivial, fun S' H' tp _ _ => ⟨vs, .inl (.inr ⟨o, tp.frz _ _ _ h2⟩), h3.tp tp⟩⟩
  | fz es =>
    have e := Option.some.inj h
    subst e
    rw [RD] at rd
    obtain ⟨a, vs, h1, h2, h3⟩ := rd
    exact ⟨true, a, h1, trivial, fun S' H' tp _ _ => ⟨vs, KL.sq (h2.imp (fun ⟨o, q⟩ => ⟨o, tp.frz _ _ _ q⟩) id), h3.tp tp⟩⟩
  | lst es =>
    have e := Option.some.inj h
    subst e
    rw [RD] at rd
    obtain ⟨a, vs, h1, h0, h2, h3⟩ := rd
    exact ⟨true, a, h1, trivial, fun S' H' tp _ _ => ⟨vs, .inl (.inl (tp.old _ _ h0 h2).2), h3.tp tp⟩⟩
  | ref p =>
    rw [RD] at rd
    have h' : (match S p with
      | some (.lst ds) => some (⟨ds, fun S' => S' p = some (.lst ds)⟩ : ItD)
      | _ => none) = some it := h
    split at h'
    · rename_i es he
      have e := Option.some.inj h'
      subst e
      refine ⟨true, p, rd, he, fun S' H' tp rs' ok => ?_⟩
      obtain ⟨vs, h1, h2⟩ := rs' p _ ok
      exact ⟨vs, .inl (.inl h1), h2⟩
    · cases h'
  | _ => cases h
def itSq (b : Bool) (K : PySem.W.Frag) (a : Addr) : It := match b with
  | true => Itl K a
  | false => Itt K a
def iSq (K : PySem.W.Frag) (tl : TE) : TI := fun σ H R => tl σ H fun x H1 => ∃ b a, x = .ref a ∧ (∃ xs, Sq b K H1 a xs) ∧ R (itSq b K a) H1
theorem pi_sq {tg l : Expr} {tl : TE} (hl : PE X l tl) : PI X tg l (iSq X.K tl) := by
  refine ⟨fun pins s σ H R I h => ?_⟩
  refine thn (hl.run pins s σ H _ I h) fun v s1 ⟨x, H1, I1, r1, b, a, e, ⟨xs, hq⟩, q⟩ => ?_
  subst e
  cases b with
  | true =>
    cases r1
    obtain ⟨its, rv, p, hz⟩ := I1.list hq
    refine wpAny_pyIter_list p.isList ?_
    refine ⟨s1.heap.objs.size, [s1.heap.objs.size], _, _, H1, rfl, I1.kept (t' := s1.toks) fun b o e => Heap.get?_push_of_some _ e, turn_list a _, ⟨_, Heap.get?_push_size _ rfl, rfl, rfl⟩, fun b hb => ?_, q⟩
    have e : b = s1.heap.objs.size := by simpa using hb
    subst e
    exact I1.fpOk (Nat.le_refl _) (I1.hok.fresh (Nat.le_refl _))
  | false =>
    cases r1
    obtain ⟨its, rv, p, hz⟩ := I1.tuple hq
    refine wpAny_pyIter_tuple (show s1.heap.IsTuple a its.toArray from p) ?_
    refine ⟨s1.heap.objs.size, [s1.heap.objs.size], _, _, H1, rfl, I1.kept (t' := s1.toks) fun b o e => Heap.get?_push_of_some _ e, turn_tuple a _, ⟨_, Heap.get?_push_size _ rfl, rfl, rfl⟩, fun b hb => ?_, q⟩
    have e : b = s1.heap.objs.size := by simpa using hb
    subst e
    exact I1.fpOk (Nat.le_refl _) (I1.hok.fresh (Nat.le_refl _))

def dIt (δ : TED) : TID := fun ρ S Q => δ ρ S fun x S1 => match S1.itOf x with
  | some it => Q it S1
  | none => False
theorem wk_sq {K : PySem.W.Frag} {S : Sto} {H : Hp} {it : ItD} {b : Bool} {a : Addr} (h : ∀ S' H', Tp S H S' H' → RS K S' H' → it.ok S' → ∃ vs, Sq b K H' a vs ∧ RDs K S' H' it.xs vs) : Wk K (itSq b K a) it S H := by
  refine ⟨fun i x S' H' hx tp rs ok => ?_, fun S' H' tp rs ok => ?_⟩
  · obtain ⟨vs, h1, h2⟩ := h S' H' tp rs ok
    obtain ⟨v, e1, r1⟩ := h2.get hx
    cases b with
    | true =>
      refine ⟨⟨vs, v, h1, e1⟩, fun w H2 y => ?_⟩
      obtain ⟨rfl, y⟩ := y
      have e2 := y vs h1
      rw [e1] at e2; cases e2
      exact ⟨.refl rs, r1⟩
    | false =>
      refine ⟨⟨vs, v, h1, e1⟩, fun w H2 y => ?_⟩
      obtain ⟨rfl, y⟩ := y
      have e2 := y vs h1
      rw [e1] at e2; cases e2
      exact ⟨.refl rs, r1⟩
  · obtain ⟨vs, h1, h2⟩ := h S' H' tp rs ok
    cases b with
    | true => exact ⟨vs, h1, Nat.le_of_eq h2.len⟩
    | false => exact ⟨vs, h1, Nat.le_of_eq h2.len⟩
theorem di_sq {tg l : Expr} (hl : DE X l δ) : DI X tg l (dIt δ) := piW (pi_sq hl) fun σ H R ⟨ρ, S, Qd, re, rs, q, k⟩ => by
  refine ⟨ρ, S, _, re, rs, q, fun d S1 v H1 q1 g1 r1 => ?_⟩
  try dsimp only at q1
  split at q1
  · rename_i it hit
    obtain ⟨b, a, e, ok, sr⟩ := src_at hit r1 g1.rs
    obtain ⟨vs, h1, _⟩ := sr S1 H1 Tp.refl g1.rs ok
    exact ⟨b, a, e, ⟨vs, h1⟩, k _ _ _ _ q1 g1 (wk_sq sr)⟩
  · exact q1.elim
/-- enumerate(l) -/
def enumFrom (n : Nat) : List D → List D
  | [] => []
  | d :: ds => .tup [.int (n : Int), d] :: enumFrom (n + 1) ds
theorem enumFrom_get : ∀ (ds : List D) (n i : Nat), (enumFrom n ds)[i]? = ds[i]?.map fun d => .tup [.int ((n + i : Nat) : Int), d]
  | [], n, i => by simp [enumFrom]
  | d :: ds, n, 0 => by simp [enumFrom]
  | d :: ds, n, i + 1 => by
    rw [enumFrom, List.getElem?_cons_succ, List.getElem?_cons_succ, enumFrom_get ds (n + 1) i]
    have e : n + 1 + i = n + (i + 1) := by omega
    rw [e]
theorem enumFrom_len : ∀ (ds : List D) (n : Nat), (enumFrom n ds).length = ds.length
  | [], _ => rfl
  | d :: ds, n => by rw [enumFrom, List.length_cons, List.length_cons, enumFrom_len ds]
def dEnum (δ : TED) : TID := fun ρ S Q => δ ρ S fun x S1 => match S1.itOf x with
  | some it => Q ⟨enumFrom 0 it.xs, it.ok⟩ S1
  | none => False
theorem RD.int {K : PySem.W.Frag} {S : Sto} {H : Hp} {i : Int} : RD K S H (.int i) (.int i) := by rw [RD]
theorem RD.pair {K : PySem.W.Frag} {S : Sto} {H : Hp} {d e : D} {v w : V} {T : Addr} (hT : H T = some (.tup [v, w])) (h1 : RD K S H d v) (h2 : RD K S H e w) : RD K S H (.tup [d, e]) (.ref T) := by
  rw [RD]; exact ⟨T, [v, w], rfl, .of hT, RDs.cons h1 (RDs.cons h2 (RDs.nil.mpr rfl))⟩
theorem di_enum {elts : List Expr} {kk : Nat} {tpos p : Pos} (hm : X.mg "enumerate" = none) (hl : DE X e δ) (hg : Gl X "enumerate" := by rfl) (hs : starEach [e] X.env = [(false, eval e X.env)] := by rfl) :
    DI X (.Tuple elts kk tpos) (.Call (.Name "enumerate" p) [e] [] pos) (dEnum δ) := piW (pi_E hg hm (ha := pa_cons hl pa_nil hs) hs) fun σ H R ⟨ρ, S, Qd, re, rs, q, k⟩ => by
  refine ⟨ρ, S, _, re, rs, q, fun d S1 v H1 q1 g1 r1 => ?_⟩
  try dsimp only at q1
  split at q1
  · rename_i it hit
    obtain ⟨b, a, rfl, ok, sr⟩ := src_at hit r1 g1.rs
    obtain ⟨vs, h1, _⟩ := sr S1 H1 Tp.refl g1.rs ok
    refine ⟨b, a, vs, rfl, h1, k _ _ _ _ q1 g1 ⟨fun i x S' H' hx tp rs' ok' => ?_, fun S' H' tp rs' ok' => ?_⟩⟩
    · obtain ⟨vs', h1', h2'⟩ := sr S' H' tp rs' ok'
      rw [enumFrom_get] at hx
      cases e : it.xs[i]? with
      | none => rw [e] at hx; cases hx
      | some y =>
        rw [e] at hx
        cases hx
        obtain ⟨w, e1, rw1⟩ := h2'.get e
        refine ⟨⟨vs', w, h1', e1⟩, fun u H2 yy => ?_⟩
        obtain ⟨T, x', rfl, nT, rfl, hy⟩ := yy
        have e2 := hy vs' h1'
        rw [e1] at e2; cases e2
        have g : Go X.K S' H' S' (upd H' T (.tup [.int (i : Nat), w])) := Go.fresh rs' nT
        refine ⟨g, RD.pair upd_same ?_ (rw1.tp g.tp)⟩
        rw [Nat.zero_add]
        exact RD.int
    · obtain ⟨vs', h1', h2'⟩ := sr S' H' tp rs' ok'
      exact ⟨vs', h1', by rw [enumFrom_len]; exact h2'.len⟩
  · exact q1.elim
/-- zip(l, m) -/
def dZip2 (δa δb : TED) : TID := fun ρ S Q => δa ρ S fun x S1 => δb ρ S1 fun y S2 => match S2.itOf x, S2.itOf y with
  | some i, some j => Q ⟨List.zipWith (fun d e => .tup [d, e]) i.xs j.xs, fun S' => i.ok S' ∧ j.ok S'⟩ S2
  | _, _ => False
theorem di_zip2 {e2 : Expr} {elts : List Expr} {kk : Nat} {tpos p : Pos} (hm : X.mg "zip" = none) (hl : DE X e δa) (hl2 : DE X e2 δb) (hg : Gl X "zip" := by rfl) (hs2 : starEach [e2] X.env = (false, eval e2 X.env) :: starEach [] X.env := by rfl)
    (hs : starEach [e, e2] X.env = (false, eval e X.env) :: starEach [e2] X.env := by rfl) (hpl : (backTo pos (starEach [e2] X.env)).any (·.1) = false := by rfl) :
    DI X (.Tuple elts kk tpos) (.Call (.Name "zip" p) [e, e2] [] pos) (dZip2 δa δb) := piW (pi_Z2 hg hm (ha := pa_cons hl (pa_cons hl2 pa_nil hs2) hs) hs hpl) fun σ H R ⟨ρ, S, Qd, re, rs, q, k⟩ => by
  refine ⟨ρ, S, _, re, rs, q, fun d S1 v H1 q1 g1 r1 => ?_⟩
  refine ⟨ρ, S1, _, re.tp g1.tp, g1.rs, q1, fun d' S2 v' H2 q2 g2 r2 => ?_⟩
  try dsimp only at q2
  split at q2
  · rename_i it jt hit hjt
    obtain ⟨b, a, rfl, ok, sr⟩ := src_at hit (r1.tp g2.tp) g2.rs
    obtain ⟨b', a', rfl, ok2, sr2⟩ := src_at hjt r2 g2.rs
    obtain ⟨vs, h1, _⟩ := sr S2 H2 Tp.refl g2.rs ok
    obtain ⟨vs2, h12, _⟩ := sr2 S2 H2 Tp.refl g2.rs ok2
    refine ⟨b, b', a, a', vs, vs2, rfl, h1, h12, k _ _ _ _ q2 (g1.trans g2) ⟨fun i x S' H' hx tp rs' ok' => ?_, fun S' H' tp rs' ok' => ?_⟩⟩
    · obtain ⟨ws, s1, s2⟩ := sr S' H' tp rs' ok'.1
      obtain ⟨ws2, s12, s22⟩ := sr2 S' H' tp rs' ok'.2
      rw [List.getElem?_zipWith] at hx
      cases e1 : it.xs[i]? with
      | none => rw [e1] at hx; cases hx
      | some y =>
        cases e2 : jt.xs[i]? with
        | none => rw [e1, e2] at hx; cases hx
        | some y2 =>
          rw [e1, e2] at hx
          cases hx
          obtain ⟨w, f1, rw1⟩ := s2.get e1
          obtain ⟨w2, f2, rw2⟩ := s22.get e2
          refine ⟨⟨ws, ws2, w, w2, s1, s12, f1, f2⟩, fun u H3 yy => ?_⟩
          obtain ⟨T, x', y', rfl, nT, rfl, hy, hy2⟩ := yy
          have e3 := hy ws s1
          rw [f1] at e3; cases e3
          have e4 := hy2 ws2 s12
          rw [f2] at e4; cases e4
          have g : Go X.K S' H' S' (upd H' T (.tup [w, w2])) := Go.fresh rs' nT
          exact ⟨g, RD.pair upd_same (rw1.tp g.tp) (rw2.tp g.tp)⟩
    · obtain ⟨ws, s1, s2⟩ := sr S' H' tp rs' ok'.1
      obtain ⟨ws2, s12, s22⟩ := sr2 S' H' tp rs' ok'.2
      have l1 := s2.len
      have l2 := s22.len
      refine ⟨ws, ws2, s1, s12, ?_, ?_, ?_⟩ <;> rw [List.length_zipWith] <;> omega
  · exact q2.elim
def dZip3 (δa δb δc : TED) : TID := fun ρ S Q => δa ρ S fun x S1 => δb ρ S1 fun y S2 => δc ρ S2 fun z S3 => match S3.itOf x, S3.itOf y, S3.itOf z with
  | some i, some j, some l => Q ⟨List.zipWith (fun d (e : D × D) => .tup [d, e.1, e.2]) i.xs (List.zip j.xs l.xs), fun S' => i.ok S' ∧ j.ok S' ∧ l.ok S'⟩ S3
  | _, _, _ => False
theorem di_zip3 {e2 e3 : Expr} {elts : List Expr} {kk : Nat} {tpos p : Pos} (hm : X.mg "zip" = none) (hl : DE X e δa) (hl2 : DE X e2 δb) (hl3 : DE X e3 δc) (hg : Gl X "zip" := by rfl) (hs3 : starEach [e3] X.env = (false, eval e3 X.env) :: starEach [] X.env := by rfl)
    (hs2 : starEach [e2, e3] X.env = (false, eval e2 X.env) :: starEach [e3] X.env := by rfl)
    (hs : starEach [e, e2, e3] X.env = (false, eval e X.env) :: starEach [e2, e3] X.env := by rfl) (hpl : (backTo pos (starEach [e2, e3] X.env)).any (·.1) = false := by rfl) :
    DI X (.Tuple elts kk tpos) (.Call (.Name "zip" p) [e, e2, e3] [] pos) (dZip3 δa δb δc) := piW (pi_Z3 hg hm (ha := pa_cons hl (pa_cons hl2 (pa_cons hl3 pa_nil hs3) hs2) hs) hs hpl) fun σ H R ⟨ρ, S, Qd, re, rs, q, k⟩ => by
  refine ⟨ρ, S, _, re, rs, q, fun d S1 v H1 q1 g1 r1 => ?_⟩
  refine ⟨ρ, S1, _, re.tp g1.tp, g1.rs, q1, fun d' S2 v' H2 q2 g2 r2 => ?_⟩
  refine ⟨ρ, S2, _, re.tp (g1.trans g2).tp, g2.rs, q2, fun d'' S3 v'' H3 q3 g3 r3 => ?_⟩
  try dsimp only at q3
  split at q3
  · rename_i it jt lt hit hjt hlt
    obtain ⟨b, a, rfl, ok, sr⟩ := src_at hit (r1.tp (g2.trans g3).tp) g3.rs
    obtain ⟨b', a', rfl, ok2, sr2⟩ := src_at hjt (r2.tp g3.tp) g3.rs
    obtain ⟨b'', a'', rfl, ok3, sr3⟩ := src_at hlt r3 g3.rs
    obtain ⟨vs, h1, _⟩ := sr S3 H3 Tp.refl g3.rs ok
    obtain ⟨vs2, h12, _⟩ := sr2 S3 H3 Tp.refl g3.rs ok2
    obtain ⟨vs3, h13, _⟩ := sr3 S3 H3 Tp.refl g3.rs ok3
    refine ⟨b, b', b'', a, a', a'', vs, vs2, vs3, rfl, h1, h12, h13, k _ _ _ _ q3 ((g1.trans g2).trans g3) ⟨fun i x S' H' hx tp rs' ok' => ?_, fun S' H' tp rs' ok' => ?_⟩⟩
    · obtain ⟨ws, s1, s2⟩ := sr S' H' tp rs' ok'.1
      obtain ⟨ws2, s12, s22⟩ := sr2 S' H' tp rs' ok'.2.1
      obtain ⟨ws3, s13, s23⟩ := sr3 S' H' tp rs' ok'.2.2
      rw [List.getElem?_zipWith] at hx
      cases e1 : it.xs[i]? with
      | none => rw [e1] at hx; cases hx
      | some y =>
        cases e2 : (List.zip jt.xs lt.xs)[i]? with
        | none => rw [e1, e2] at hx; cases hx
        | some y2 =>
          rw [e1, e2] at hx
          cases hx
          rw [List.getElem?_zip_eq_some] at e2
          obtain ⟨w, f1, rw1⟩ := s2.get e1
          obtain ⟨w2, f2, rw2⟩ := s22.get e2.1
          obtain ⟨w3, f3, rw3⟩ := s23.get e2.2
          refine ⟨⟨ws, ws2, ws3, w, w2, w3, s1, s12, s13, f1, f2, f3⟩, fun u H3 yy => ?_⟩
          obtain ⟨T, x', y', z', rfl, nT, rfl, hy, hy2, hy3⟩ := yy
          have e3 := hy ws s1
          rw [f1] at e3; cases e3
          have e4 := hy2 ws2 s12
          rw [f2] at e4; cases e4
          have e5 := hy3 ws3 s13
          rw [f3] at e5; cases e5
          have g : Go X.K S' H' S' (upd H' T (.tup [w, w2, w3])) := Go.fresh rs' nT
          refine ⟨g, ?_⟩
          rw [RD]
          exact ⟨T, [w, w2, w3], rfl, .of upd_same, RDs.cons (rw1.tp g.tp) (RDs.cons (rw2.tp g.tp) (RDs.cons (rw3.tp g.tp) (RDs.nil.mpr rfl)))⟩
    · obtain ⟨ws, s1, s2⟩ := sr S' H' tp rs' ok'.1
      obtain ⟨ws2, s12, s22⟩ := sr2 S' H' tp rs' ok'.2.1
      obtain ⟨ws3, s13, s23⟩ := sr3 S' H' tp rs' ok'.2.2
      have l1 := s2.len
      have l2 := s22.len
      have l3 := s23.len
      refine ⟨ws, ws2, ws3, s1, s12, s13, ?_, ?_, ?_, ?_⟩ <;> rw [List.length_zipWith, List.length_zip] <;> omega
  · exact q3.elim
/-- range -/
def rangeD (lo : Int) (n : Nat) : List D := (List.range n).map fun (i : Nat) => .int (lo + i)
theorem rangeD_get (lo : Int) (n i : Nat) : (rangeD lo n)[i]? = if i < n then some (.int (lo + i)) else none := by
  unfold rangeD
  rw [List.getElem?_map]
  split
  · rw [List.getElem?_range (by assumption)]; rfl
  · rw [List.getElem?_eq_none (by simp; omega)]; rfl
theorem rangeD_len (lo : Int) (n : Nat) : (rangeD lo n).length = n := by unfold rangeD; simp
theorem wk_range {K : PySem.W.Frag} {S : Sto} {H : Hp} (lo : Int) (n : Nat) : Wk K (Itr lo n) ⟨rangeD lo n, fun _ => True⟩ S H := by
  refine ⟨fun i x S' H' hx tp rs ok => ?_, fun S' H' tp rs ok => ?_⟩
  · rw [rangeD_get] at hx
    split at hx
    · cases hx
      exact ⟨by assumption, fun v H2 y => by
        obtain ⟨rfl, rfl⟩ := y
        exact ⟨.refl rs, RD.int⟩⟩
    · cases hx
  · show n ≤ _
    rw [rangeD_len]
    exact Nat.le_refl _
def dRng1 (δ : TED) : TID := fun ρ S Q => δ ρ S fun x S1 => match x with
  | .int j => (-(2 ^ 62) ≤ j ∧ j < 2 ^ 62) ∧ Q ⟨rangeD 0 j.toNat, fun _ => True⟩ S1
  | _ => False
theorem di_range1 {tg : Expr} {p : Pos} (hm : X.mg "range" = none) (hl : DE X e δ) (hg : Gl X "range" := by rfl) (hs : starEach [e] X.env = [(false, eval e X.env)] := by rfl) :
    DI X tg (.Call (.Name "range" p) [e] [] pos) (dRng1 δ) := piW (pi_range1 hg hm (ha := pa_cons hl pa_nil hs) hs) fun σ H R ⟨ρ, S, Qd, re, rs, q, k⟩ => by
  refine ⟨ρ, S, _, re, rs, q, fun d S1 v H1 q1 g1 r1 => ?_⟩
  try dsimp only at q1
  split at q1
  · rw [RD] at r1
    subst r1
    exact ⟨_, rfl, q1.1.1, q1.1.2, k _ _ _ _ q1.2 g1 (wk_range _ _)⟩
  · exact q1.elim
def dRng2 (δa δb : TED) : TID := fun ρ S Q => δa ρ S fun x S1 => δb ρ S1 fun y S2 => match x, y with
  | .int i, .int j => (-(2 ^ 62) ≤ i ∧ i < 2 ^ 62 ∧ -(2 ^ 62) ≤ j ∧ j < 2 ^ 62) ∧ Q ⟨rangeD i (j - i).toNat, fun _ => True⟩ S2
  | _, _ => False
theorem di_range2 {tg e2 : Expr} {p : Pos} (hm : X.mg "range" = none) (hl : DE X e δa) (hl2 : DE X e2 δb) (hg : Gl X "range" := by rfl) (hs : starEach [e, e2] X.env = [(false, eval e X.env), (false, eval e2 X.env)] := by rfl) (hs2 : starEach [e2] X.env = [(false, eval e2 X.env)] := by rfl) :
    DI X tg (.Call (.Name "range" p) [e, e2] [] pos) (dRng2 δa δb) := piW (pi_range2 hg hm (ha := pa_cons hl (pa_cons hl2 pa_nil hs2) (by rw [hs, hs2])) hs hs2) fun σ H R ⟨ρ, S, Qd, re, rs, q, k⟩ => by
  refine ⟨ρ, S, _, re, rs, q, fun d S1 v H1 q1 g1 r1 => ?_⟩
  refine ⟨ρ, S1, _, re.tp g1.tp, g1.rs, q1, fun d' S2 v' H2 q2 g2 r2 => ?_⟩
  try dsimp only at q2
  split at q2
  · rw [RD] at r1 r2
    subst r1; subst r2
    exact ⟨_, _, rfl, q2.1, k _ _ _ _ q2.2 (g1.trans g2) (wk_range _ _)⟩
  · exact q2.elim
/-- range with a step: lo, lo + c, .. -/
def rangeC (lo c : Int) (n : Nat) : List D := (List.range n).map fun (i : Nat) => .int (lo + i * c)

/-! ### for -/
def loopD (ok : Sto → Prop) (f : D → TSD) : List D → TSD
  | [], De, ρ, S => De.nx ρ S
  | x :: xs, De, ρ, S => f x { nx := fun ρ' S' => ok S' ∧ loopD ok f xs De ρ' S', ct := fun ρ' S' => ok S' ∧ loopD ok f xs De ρ' S', bk := De.nx, rt := De.rt } ρ S
def dFor (ι : TID) (γ : TGD) (τ : TSD) : TSD := fun De ρ S => ι ρ S fun it S1 => it.ok S1 ∧ loopD it.ok (fun x De ρ S => γ x ρ S fun ρ' S' => τ De ρ' S') it.xs De ρ S1
theorem ds_for {tg iter : Expr} {ι : TID} {γ : TGD} {L : List Nat} (hp : PassesOwn (model X.prog X.w) X.A X.env X.xe) (hi : DI X tg iter ι) (hg : DG X tg L γ) (hb : DSs X body τ) (hc : X.calm = true := by rfl) (hs : ∀ x, foldedSetIterable iter X.env x = pure x := by intro _; rfl) :
    DS X (.For tg iter body [] pos) (dFor ι γ τ) := psW (ps_for hp hc hi hg hb hs) fun E σ H ⟨ρ, S, De, re, rs, q, k⟩ => by
  refine ⟨ρ, S, _, re, rs, q, fun it S1 H1 J q1 g1 wk => ?_⟩
  obtain ⟨ok1, q1⟩ := q1
  refine ⟨fun i m σ2 H2 => m = it.xs.length - i ∧ i ≤ it.xs.length ∧ ∃ ρ2 S2, Go X.K S1 H1 S2 H2 ∧ RE X.K S2 H2 ρ2 σ2 ∧ it.ok S2 ∧ loopD it.ok (fun x De ρ S => γ x ρ S fun ρ' S' => τ De ρ' S') (it.xs.drop i) De ρ2 S2, ⟨_, rfl, Nat.zero_le _, ρ, S1, .refl g1.rs, re.tp g1.tp, ok1, q1⟩, ?_⟩
  rintro i m σ2 H2 ⟨rfl, hi, ρ2, S2, g2, re2, ok2, q2⟩
  by_cases hlt : i < it.xs.length
  · have hx : it.xs[i]? = some it.xs[i] := List.getElem?_eq_getElem hlt
    have hd : it.xs.drop i = it.xs[i] :: it.xs.drop (i + 1) := List.drop_eq_getElem_cons hlt
    rw [hd] at q2
    obtain ⟨go, yl⟩ := wk.go i _ S2 H2 hx g2.tp g2.rs ok2
    refine .inr ⟨go, fun σ3 H3 => ∃ ρ3 S3, Go X.K S1 H1 S3 H3 ∧ RE X.K S3 H3 ρ3 σ3 ∧ it.ok S3 ∧ loopD it.ok (fun x De ρ S => γ x ρ S fun ρ' S' => τ De ρ' S') (it.xs.drop (i + 1)) De ρ3 S3, fun σ3 H3 h3 => ⟨it.xs.length - (i + 1), by omega, rfl, by omega, h3⟩, fun v H3 y => ?_⟩
    obtain ⟨g3, r3⟩ := yl v H3 y
    have g23 := g2.trans g3
    refine ⟨_, ρ2, S2, _, r3, re2.tp g3.tp, g3.rs, q2, fun ρ4 S4 σ4 H4 q4 g4 re4 _ => ?_⟩
    have g14 := g23.trans g4
    refine ⟨ρ4, S4, _, re4, g4.rs, q4, ⟨fun a b c d x y z => ?_, fun a b c d x y z => ?_, fun a b c d x y z => ?_, fun a b c d x y z => ?_⟩⟩
    · exact ⟨a, b, g14.trans y, z, x.1, x.2⟩
    · exact k.rt a b c d x ((g1.trans g14).trans y) z
    · exact k.nx a b c d x ((g1.trans g14).trans y) z
    · exact ⟨a, b, g14.trans y, z, x.1, x.2⟩
  · have e : i = it.xs.length := by omega
    subst e
    rw [List.drop_length] at q2
    exact .inl ⟨wk.stop S2 H2 g2.tp g2.rs ok2, k.nx _ _ _ _ q2 (g1.trans g2) re2⟩
/-- while: W with its measure -/
def dWhile (t : TTD) (τ : TSD) : TSD := fun De ρ S => ∃ W : Nat → DEnv → Sto → Prop, (∃ m, W m ρ S) ∧ ∀ m ρ S, W m ρ S →
  t ρ S fun b S1 => match b with
    | true => τ { nx := fun ρ' S' => ∃ m', m' < m ∧ W m' ρ' S', ct := fun ρ' S' => ∃ m', m' < m ∧ W m' ρ' S', bk := De.nx, rt := De.rt } ρ S1
    | false => De.nx ρ S1
theorem ds_while (hp : PassesOwn (model X.prog X.w) X.A X.env X.xe) (hc : DT X c θ) (hb : DSs X body τ) : DS X (.While c body [] pos) (dWhile θ τ) := psW (ps_while hp hc hb) fun E σ H ⟨ρ, S, De, re, rs, ⟨W, ⟨m0, w0⟩, turn⟩, k⟩ => by
  refine ⟨fun m σ2 H2 => ∃ ρ2 S2, Go X.K S H S2 H2 ∧ RE X.K S2 H2 ρ2 σ2 ∧ W m ρ2 S2, ⟨m0, ρ, S, .refl rs, re, w0⟩, ?_⟩
  rintro m σ2 H2 ⟨ρ2, S2, g2, re2, w2⟩
  refine ⟨ρ2, S2, _, re2, g2.rs, turn m ρ2 S2 w2, fun b S3 H3 q3 g3 => ?_⟩
  cases b with
  | true =>
    rw [if_pos rfl]
    refine ⟨fun σ4 H4 => ∃ m', m' < m ∧ ∃ ρ4 S4, Go X.K S H S4 H4 ∧ RE X.K S4 H4 ρ4 σ4 ∧ W m' ρ4 S4, fun σ4 H4 h => h, ?_⟩
    have g := g2.trans g3
    refine ⟨ρ2, S3, _, re2.tp g3.tp, g3.rs, q3, ⟨fun a b c d x y z => ?_, fun a b c d x y z => ?_, fun a b c d x y z => ?_, fun a b c d x y z => ?_⟩⟩
    · obtain ⟨m', hm, w⟩ := x
      exact ⟨m', hm, a, b, g.trans y, z, w⟩
    · exact k.rt a b c d x (g.trans y) z
    · exact k.nx a b c d x (g.trans y) z
    · obtain ⟨m', hm, w⟩ := x
      exact ⟨m', hm, a, b, g.trans y, z, w⟩
  | false =>
    rw [if_neg Bool.false_ne_true]
    exact k.nx _ _ _ _ q3 (g2.trans g3) (re2.tp g3.tp)

/-! ### comprehensions -/
def Sto.del (S : Sto) (a : Addr) : Sto := fun b => if b = a then none else S b
theorem Sto.del_same {S : Sto} {a : Addr} : S.del a a = none := by unfold Sto.del; rw [if_pos rfl]
theorem Sto.del_ne {S : Sto} {a b : Addr} (h : b ≠ a) : S.del a b = S b := by unfold Sto.del; rw [if_neg h]
theorem Sto.del_up {S : Sto} {a : Addr} {o : MO} (h : S a = none) : (S.up a o).del a = S := by
  funext b
  by_cases e : b = a
  · subst e; rw [Sto.del_same, h]
  · rw [Sto.del_ne e, Sto.up_ne e]
/-- what was tracked at a is not any more -/
theorem go_del {K : PySem.W.Frag} {S : Sto} {H : Hp} (rs : RS K S H) (a : Addr) : Go K S H (S.del a) H := by
  have tp : Tp S H (S.del a) H := ⟨fun _ _ h => h, fun _ _ _ h => h, fun b o h1 h2 => ⟨by
    by_cases e : b = a
    · subst e; exact Sto.del_same
    · rw [Sto.del_ne e]; exact h1, h2⟩⟩
  refine ⟨tp, fun b mo e => ?_⟩
  by_cases hb : b = a
  · subst hb; rw [Sto.del_same] at e; cases e
  · rw [Sto.del_ne hb] at e
    exact (rs b mo e).mv tp fun _ h => h
/-- the items from the left; acc: what is made so far, it stands at Dl -/
def lcD (Dl : Addr) (ok : Sto → Prop) (ρ : DEnv) (γ : TGD) (t : TTD) (el : TED) : List D → List D → Sto → (List D → Sto → Prop) → Prop
  | [], acc, S, Q => Q acc S
  | x :: xs, acc, S, Q => γ x ρ S fun ρ' S1 => t ρ' S1 fun b S2 => match b with
    | true => el ρ' S2 fun y S3 => S3 Dl = some (.lst acc) ∧ acc.length < sizeLine ∧ ok (S3.up Dl (.lst (acc ++ [y]))) ∧ lcD Dl ok ρ γ t el xs (acc ++ [y]) (S3.up Dl (.lst (acc ++ [y]))) Q
    | false => S2 Dl = some (.lst acc) ∧ ok S2 ∧ lcD Dl ok ρ γ t el xs acc S2 Q
/-- the list is done: it stays tracked (r), or nobody will change it -/
def endL (r : Bool) (Dl : Addr) (Q : QD) : List D → Sto → Prop := fun ds S2 => match r with
  | true => Q (.ref Dl) S2
  | false => Q (.lst ds) (S2.del Dl)
def dLc (r : Bool) (ι : TID) (γ : TGD) (t : TTD) (el : TED) (vs : List Nat) : TED := fun ρ S Q => ι ρ S fun it S1 => ∀ Dl, S1 Dl = none → it.ok (S1.up Dl (.lst [])) ∧ lcD Dl it.ok (wipeD ρ vs) γ t el it.xs [] (S1.up Dl (.lst [])) (endL r Dl Q)
abbrev DTs (X : Cx) (ifs : List Expr) (δ : TTD) : Prop := PTs X ifs (LT X.K δ)
def dYes : TTD := fun _ S Q => Q true S
theorem ptsW {ifs : List Expr} {t t' : TT} (h : PTs X ifs t) (w : ∀ σ H Q, t' σ H Q → t σ H Q) : PTs X ifs t' := ⟨fun pins s σ H Q I q => h.run pins s σ H Q I (w σ H Q q)⟩
theorem dts_nil : DTs X [] dYes := ptsW pts_nil fun σ H Q ⟨ρ, S, Qd, re, rs, q, k⟩ => k _ _ _ q (.refl rs)
theorem dts_one (h : DT X c θ) : DTs X [c] θ := pts_one h
theorem lc_lift {K : PySem.W.Frag} {J : It} {it : ItD} {Dl : Addr} {γ : TGD} {t : TTD} {el : TED} {L vs : List Nat} {r : Bool} {ρ : DEnv} {σ : L2.St} {S S1 : Sto} {H H1 : Hp} {Qd : QD} {Q : VK} (hL : ∀ i ∈ L, i ∈ vs) (re : RE K S1 H1 ρ σ) (g1 : Go K S H S1 H1) (wk : Wk K J it S1 H1) (hD : H1 Dl = none)
    (ok1 : it.ok (S1.up Dl (.lst []))) (q1 : lcD Dl it.ok (wipeD ρ vs) γ t el it.xs [] (S1.up Dl (.lst [])) (endL r Dl Qd)) (k : Aft K S H Qd Q) :
    ∃ W : Nat → Nat → Hp → Prop, (∃ m, W 0 m (upd H1 Dl (.lst []))) ∧ ∀ i m H, W i m H →
      (J.stop i H ∧ Q (.ref Dl) H) ∨ (J.go i H ∧ ∃ Nx : Hp → Prop, (∀ H', Nx H' → ∃ m', m' < m ∧ W (i + 1) m' H') ∧ ∀ x H', J.yld i H x H' → LG K L γ x (wipe σ vs) H' fun σ2 H2 => wipe σ2 vs = wipe σ vs ∧ LT K t σ2 H2 fun b H3 =>
        if b = true then LE K el σ2 H3 fun y H4 => ∃ acc, H4 Dl = some (.lst acc) ∧ acc.length < sizeLine ∧ Nx (upd H4 Dl (.lst (acc ++ [y]))) else Nx H3) := by
  have f1 : S1 Dl = none := g1.rs.free hD
  have gD : Go K S1 H1 (S1.up Dl (.lst [])) (upd H1 Dl (.lst [])) := Go.made g1.rs hD fun S' H' tp e => ⟨[], e, RDs.nil.mpr rfl⟩
  refine ⟨fun i m H2 => m = it.xs.length - i ∧ i ≤ it.xs.length ∧ ∃ acc S2, Go K S1 H1 S2 H2 ∧ S2 Dl = some (.lst acc) ∧ it.ok S2 ∧ lcD Dl it.ok (wipeD ρ vs) γ t el (it.xs.drop i) acc S2 (endL r Dl Qd),
    ⟨_, rfl, Nat.zero_le _, [], _, gD, Sto.up_same, ok1, q1⟩, ?_⟩
  rintro i m H2 ⟨rfl, hi, acc, S2, g2, d2, ok2, q2⟩
  by_cases hlt : i < it.xs.length
  · have hx : it.xs[i]? = some it.xs[i] := List.getElem?_eq_getElem hlt
    have hd : it.xs.drop i = it.xs[i] :: it.xs.drop (i + 1) := List.drop_eq_getElem_cons hlt
    rw [hd] at q2
    obtain ⟨go, yl⟩ := wk.go i _ S2 H2 hx g2.tp g2.rs ok2
    refine .inr ⟨go, fun H3 => ∃ acc3 S3, Go K S1 H1 S3 H3 ∧ S3 Dl = some (.lst acc3) ∧ it.ok S3 ∧ lcD Dl it.ok (wipeD ρ vs) γ t el (it.xs.drop (i + 1)) acc3 S3 (endL r Dl Qd), fun H3 h3 => ⟨it.xs.length - (i + 1), by omega, rfl, by omega, h3⟩, fun v H3 y => ?_⟩
    obtain ⟨g3, r3⟩ := yl v H3 y
    have g23 := g2.trans g3
    refine ⟨_, wipeD ρ vs, S2, _, r3, (re.tp g23.tp).wipe vs, g3.rs, q2, fun ρ4 S4 σ4 H4 q4 g4 re4 al => ⟨?_, ?_⟩⟩
    · have e := al vs hL
      rw [e]
      have ww : ∀ σ : L2.St, wipe (wipe σ vs) vs = wipe σ vs := fun σ => by
        apply List.ext_getElem?
        intro j
        rw [wipe_get, wipe_get]
        by_cases hj : j ∈ vs
        · rw [if_pos hj, if_pos hj, Option.map_map]; rfl
        · rw [if_neg hj, if_neg hj]
      exact ww σ
    refine ⟨ρ4, S4, _, re4, g4.rs, q4, fun b S5 H5 q5 g5 => ?_⟩
    cases b with
    | true =>
      rw [if_pos rfl]
      refine ⟨ρ4, S5, _, re4.tp g5.tp, g5.rs, q5, fun yd S6 yv H6 q6 g6 r6 => ?_⟩
      obtain ⟨d6, l6, ok6, q6⟩ := q6
      obtain ⟨ws, hw, rw1⟩ := g6.rs Dl _ d6
      have g26 := (g23.trans g4).trans (g5.trans g6)
      have gw : Go K S6 H6 (S6.up Dl (.lst (acc ++ [yd]))) (upd H6 Dl (.lst (ws ++ [yv]))) := Go.wrote g6.rs d6 fun S' H' tp e => ⟨_, e, (rw1.tp tp).snoc (r6.tp tp)⟩
      exact ⟨ws, hw, by rw [rw1.len]; exact l6, acc ++ [yd], _, g26.trans gw, Sto.up_same, ok6, q6⟩
    | false =>
      rw [if_neg Bool.false_ne_true]
      obtain ⟨d5, ok5, q5⟩ := q5
      exact ⟨acc, S5, (g23.trans g4).trans g5, d5, ok5, q5⟩
  · have e : i = it.xs.length := by omega
    subst e
    rw [List.drop_length] at q2
    refine .inl ⟨wk.stop S2 H2 g2.tp g2.rs ok2, ?_⟩
    have q2' : endL r Dl Qd acc S2 := q2
    cases r with
    | true => exact k _ _ _ _ q2' (g1.trans g2) (by rw [RD])
    | false =>
      obtain ⟨ws, hw, rw1⟩ := g2.rs Dl _ d2
      have gd := go_del g2.rs Dl
      refine k _ _ _ _ q2' ((g1.trans g2).trans gd) ?_
      rw [RD]
      exact ⟨Dl, ws, rfl, Sto.del_same, hw, rw1.tp gd.tp⟩
theorem de_lc {elt tg iter : Expr} {ifs : List Expr} {scope : Scope} {own : List (Str × Nat)} {ι : TID} {γ : TGD} {t : TTD} {el : TED} {L : List Nat} {r : Bool} (hN : X.N.Nodup) (hi : DI X tg iter ι) (ok : BlkOk X.N X.env.scope scope own) (hL : ∀ i ∈ L, i ∈ own.map (·.2))
    (hg : ∀ (s : Shared) (H : Hp) (C : Addr) (cl : List (Str × Addr)) (fp : List Addr), DG (X.blk s H scope (compEnvC scope cl C X.env) fp) tg L γ) (ht : ∀ (s : Shared) (H : Hp) (C : Addr) (cl : List (Str × Addr)) (fp : List Addr), DTs (X.blk s H scope (compEnvC scope cl C X.env) fp) ifs t)
    (he : ∀ (s : Shared) (H : Hp) (C : Addr) (cl : List (Str × Addr)) (fp : List Addr), DE (X.blk s H scope (compEnvC scope cl C X.env) fp) elt el) (hc : X.calm = true := by rfl) (hs : ∀ x, foldedSetIterable iter X.env x = pure x := by intro _; rfl) :
    DE X (.ListComp elt [⟨tg, iter, ifs, 0⟩] scope pos) (dLc r ι γ t el (own.map (·.2))) := peW (pe_lc hc hN hi ok hg ht he hs) fun σ H Q ⟨ρ, S, Qd, re, rs, q, k⟩ => by
  refine ⟨ρ, S, _, re, rs, q, fun it S1 H1 J q1 g1 wk => ?_⟩
  intro Dl hD
  obtain ⟨ok1, q1⟩ := q1 Dl (g1.rs.free hD)
  exact lc_lift hL (re.tp g1.tp) g1 wk hD ok1 q1 k
theorem ds_setLc (i : Nat) {y : Str} {py spos : Pos} {elt tg iter : Expr} {ifs : List Expr} {scope : Scope} {own : List (Str × Nat)} {ι : TID} {γ : TGD} {t : TTD} {el : TED} {L : List Nat} {r : Bool} (hN : X.N.Nodup) (hi : DI X tg iter ι) (ok : BlkOk X.N X.env.scope scope own) (hL : ∀ i ∈ L, i ∈ own.map (·.2))
    (hg : ∀ (s : Shared) (H : Hp) (C : Addr) (cl : List (Str × Addr)) (fp : List Addr), DG (X.blk s H scope (compEnvC scope cl C X.env) fp) tg L γ) (ht : ∀ (s : Shared) (H : Hp) (C : Addr) (cl : List (Str × Addr)) (fp : List Addr), DTs (X.blk s H scope (compEnvC scope cl C X.env) fp) ifs t)
    (he : ∀ (s : Shared) (H : Hp) (C : Addr) (cl : List (Str × Addr)) (fp : List Addr), DE (X.blk s H scope (compEnvC scope cl C X.env) fp) elt el) (hy : X.N[i]? = some y := by rfl) (hyl : X.env.scope.names.lookup y = some .local := by rfl)
    (hsw : swapsWith (.ListComp elt [⟨tg, iter, ifs, 0⟩] scope pos) (some (.Name y py)) spos.line X.env = pure true := by exact sw_true rfl rfl rfl (by decide +kernel)) (hc : X.calm = true := by rfl) (hs : ∀ x, foldedSetIterable iter X.env x = pure x := by intro _; rfl) :
    DS X (.Assign [.Name y py] (.ListComp elt [⟨tg, iter, ifs, 0⟩] scope pos) spos) (dAsg i (dLc r ι γ t el (own.map (·.2)))) := psW (ps_setLc hc hN hy hyl hsw hi ok hg ht he hs) fun E σ H ⟨ρ, S, De, re, rs, q, k⟩ => by
  show tLc _ _ _ _ _ σ H fun x H1 => gName i x σ H1 E.nx
  refine ⟨ρ, S, _, re, rs, q, fun it S1 H1 J q1 g1 wk => ?_⟩
  intro Dl hD
  obtain ⟨ok1, q1⟩ := q1 Dl (g1.rs.free hD)
  exact lc_lift hL (re.tp g1.tp) g1 wk hD ok1 q1 fun d S' v H' q' g' r' => k.nx _ _ _ _ q' g' ((re.tp g'.tp).set i r')
end

/-! ### defs -/
section
variable {P : Program} {w : World} {K : PySem.W.Frag} {mg : Str → Option Value} {base : Heap}
/-- a promise that stands over what the store forgets, and over a list that nobody will change any more -/
structure Fz (S' : Sto) (d' : D) (S : Sto) (d : D) : Prop where
  ok : ∀ (K : PySem.W.Frag) (H : Hp) (v : V), RS K S' H → RD K S' H d' v → Go K S' H S H ∧ RD K S H d v
theorem Fz.refl {S : Sto} {d : D} : Fz S d S d := ⟨fun K H v rs r => ⟨.refl rs, r⟩⟩
theorem Fz.trans {S S1 S2 : Sto} {d d1 d2 : D} (a : Fz S d S1 d1) (b : Fz S1 d1 S2 d2) : Fz S d S2 d2 := ⟨fun K H v rs r => let ⟨g1, r1⟩ := a.ok K H v rs r; let ⟨g2, r2⟩ := b.ok K H v g1.rs r1; ⟨g1.trans g2, r2⟩⟩
theorem Fz.del {S : Sto} {d : D} (a : Addr) : Fz S d (S.del a) d := ⟨fun K H v rs r => ⟨go_del rs a, r.tp (go_del rs a).tp⟩⟩
theorem Fz.freeze {S : Sto} {a : Addr} {ds : List D} (h : S a = some (.lst ds)) : Fz S (.ref a) (S.del a) (.lst ds) := ⟨fun K H v rs r => by
  have g := go_del rs a
  obtain ⟨ws, hw, r1⟩ := rs a _ h
  rw [RD] at r
  refine ⟨g, ?_⟩
  rw [RD]
  exact ⟨a, ws, r, Sto.del_same, hw, r1.tp g.tp⟩⟩
/-- forget a and all about it: the store is S again -/
theorem Fz.back {S : Sto} {d : D} {a : Addr} {o : MO} (h : S a = none) : Fz (S.up a o) d S d := by
  have := Fz.del (S := S.up a o) (d := d) a
  rw [Sto.del_up h] at this
  exact this
theorem Fz.backL {S : Sto} {a : Addr} {ds : List D} (h : S a = none) : Fz (S.up a (.lst ds)) (.ref a) S (.lst ds) := by
  have := Fz.freeze (S := S.up a (.lst ds)) (a := a) (ds := ds) Sto.up_same
  rw [Sto.del_up h] at this
  exact this
def FzQ (Q : QD) : QD := fun d' S' => ∃ d S, Q d S ∧ Fz S' d' S d
theorem FzQ.here {Q : QD} {d : D} {S : Sto} (h : Q d S) : FzQ Q d S := ⟨d, S, h, .refl⟩
theorem fnD {x qual : Str} {params : Arguments} {body : List Stmt} {scope : Scope} {f : Addr} {fd : FuncData} {CX : CXT} {N ps : List Str} {k : Nat} {sp : DSp} (F : FunD K x qual params body scope [] [] f fd) (Sc : FnScope N ps scope) (len : ∀ ds S Q, sp ds S Q → ds.length = ps.length)
    (hbody : ∀ (cdv : Value) (A : Around) (outer : List Env) (s : Shared) (H : Hp) (E : XK), Room k (A.deeper (envOfC qual scope s.heap.objs.size f cdv)) →
      ∃ τ, DSs (cxOf CX P w K mg base N qual scope f cdv A outer s H E) body τ ∧ ∀ ds S Q, sp ds S Q → τ { nx := fun _ S' => FzQ Q .non S', rt := FzQ Q } (startD N ds) S) : FnOk P w K mg base CX (k + 1) f fd ps (LSp K sp) := by
  refine F.ok Sc (fun vs H Q E ⟨ds, S, Qd, r1, rs, q, kk⟩ => ?_) (fun cdv A outer s H vs Q E hr ⟨ds, S, Qd, r1, rs, q, kk⟩ => ?_)
  · rw [r1.len]; exact len _ _ _ q
  · obtain ⟨τ, h1, h2⟩ := hbody cdv A outer s H E hr
    refine ⟨LS K τ, h1, startD N ds, S, _, RE.start r1, rs, h2 ds S Qd q, ⟨fun ρ' S' σ' H' ⟨d, S0, q', fz⟩ g' re' => ?_, fun d' S' v H' ⟨d, S0, q', fz⟩ g' r' => ?_, fun _ _ _ _ z => z.elim, fun _ _ _ _ z => z.elim⟩⟩
    · obtain ⟨g2, r2⟩ := fz.ok K H' .non g'.rs (by rw [RD])
      exact kk _ _ _ _ q' (g'.trans g2) r2
    · obtain ⟨g2, r2⟩ := fz.ok K H' v g'.rs r'
      exact kk _ _ _ _ q' (g'.trans g2) r2
end
end PL
/-! operations by values -/
namespace PL
open PySem PySem.Spec PyProof.Rows L2

/-! ### data -/
mutual
def D.py : D → PyData
  | .non => .none
  | .bl b => .bool b
  | .int i => .int i
  | .str x => .str x
  | .tup ds => .tuple (D.pys ds)
  | .tpx ds => .tuple (D.pys ds)
  | .lst ds => .list (D.pys ds)
  | .fz ds => .list (D.pys ds)
  | .ref _ => .none
def D.pys : List D → List PyData
  | [] => []
  | d :: ds => D.py d :: D.pys ds
end
theorem D.pys_eq : ∀ ds : List D, D.pys ds = ds.map D.py
  | [] => by rw [D.pys]; rfl
  | d :: ds => by rw [D.pys, D.pys_eq ds]; rfl
/-- plain data, at most n deep -/
def D.okn : Nat → D → Bool
  | _, .non => true
  | _, .bl _ => true
  | _, .int _ => true
  | _, .str x => PyData.strOk x
  | 0, _ => false
  | n + 1, .tup ds => ds.all (D.okn n)
  | n + 1, .tpx ds => ds.all (D.okn n)
  | n + 1, .lst ds => ds.all (D.okn n)
  | _ + 1, .fz _ => false
  | _ + 1, .ref _ => false
theorem D.okn_lay : ∀ (n : Nat) (d : D), D.okn n d = true → (D.py d).canLay0 = true ∧ (D.py d).depth ≤ n := by
  intro n
  induction n with
  | zero =>
    intro d h
    cases d <;> first | (simp [D.okn] at h; done) | (simp [D.py, PyData.canLay0, PyData.depth]; done) | skip
    simp only [D.okn] at h
    simp [D.py, PyData.canLay0, PyData.depth, h]
  | succ n ih =>
    have all : ∀ ds : List D, ds.all (D.okn n) = true → PyData.canLayAll0 (D.pys ds) = true ∧ PyData.depthAll (D.pys ds) ≤ n := by
      intro ds
      induction ds with
      | nil => intro _; simp [D.pys, PyData.canLayAll0, PyData.depthAll]
      | cons d ds ihd =>
        intro h
        rw [List.all_cons, Bool.and_eq_true] at h
        obtain ⟨a1, a2⟩ := ih d h.1
        obtain ⟨b1, b2⟩ := ihd h.2
        rw [D.pys, PyData.canLayAll0, PyData.depthAll, a1, b1]
        exact ⟨rfl, Nat.max_le.mpr ⟨a2, b2⟩⟩
    intro d h
    cases d with
    | tup ds =>
      obtain ⟨a, b⟩ := all ds (by simpa [D.okn] using h)
      rw [D.py, PyData.canLay0, PyData.depth]
      exact ⟨a, by omega⟩
    | tpx ds =>
      obtain ⟨a, b⟩ := all ds (by simpa [D.okn] using h)
      rw [D.py, PyData.canLay0, PyData.depth]
      exact ⟨a, by omega⟩
    | lst ds =>
      obtain ⟨a, b⟩ := all ds (by simpa [D.okn] using h)
      rw [D.py, PyData.canLay0, PyData.depth]
      exact ⟨a, by omega⟩
    | str x =>
      simp only [D.okn] at h
      simp [D.py, PyData.canLay0, PyData.depth, h]
    | fz ds => simp [D.okn] at h
    | ref a => simp [D.okn] at h
    | _ => simp [D.py, PyData.canLay0, PyData.depth]
theorem D.okn_shaped {n : Nat} {d : D} (h : D.okn n d = true) (hn : n ≤ 64) : SeqAt.shaped (D.py d) = true := by
  obtain ⟨a, b⟩ := D.okn_lay n d h
  unfold SeqAt.shaped
  rw [a, Bool.true_and]
  exact decide_eq_true (Nat.le_trans b hn)
section
variable {K : PySem.W.Frag} {S : Sto} {H : Hp}
theorem D.okn_dp : ∀ (n : Nat) (d : D) (v : V), D.okn n d = true → RD K S H d v → Dp K H v (D.py d) := by
  intro n
  induction n with
  | zero =>
    intro d v h r
    cases d <;> first | (simp [D.okn] at h; done) | (rw [RD] at r; subst r; rw [D.py]; constructor)
  | succ n ih =>
    have all : ∀ (ds : List D) (vs : List V), ds.all (D.okn n) = true → RDs K S H ds vs → DpAll K H vs (D.pys ds) := by
      intro ds
      induction ds with
      | nil => intro vs _ r; rw [RDs.nil.mp r, D.pys]; exact .nil
      | cons d ds ihd =>
        intro vs h r
        rw [List.all_cons, Bool.and_eq_true] at h
        rw [RDs] at r
        obtain ⟨v, w, rfl, r1, r2⟩ := r
        rw [D.pys]
        exact .cons (ih d v h.1 r1) (ihd w h.2 r2)
    intro d v h r
    cases d with
    | tup ds =>
      rw [RD] at r
      obtain ⟨a, vs, rfl, r1, r2⟩ := r
      rw [D.py]
      exact .tup r1 (all ds vs (by simpa [D.okn] using h) r2)
    | tpx ds =>
      rw [RD] at r
      obtain ⟨a, o, vs, rfl, r1, _, r2⟩ := r
      rw [D.py]
      exact .tup (.inl (.inr ⟨o, r1⟩)) (all ds vs (by simpa [D.okn] using h) r2)
    | lst ds =>
      rw [RD] at r
      obtain ⟨a, vs, rfl, _, r1, r2⟩ := r
      rw [D.py]
      exact .lst (.of r1) (all ds vs (by simpa [D.okn] using h) r2)
    | fz ds => simp [D.okn] at h
    | ref a => simp [D.okn] at h
    | _ => (rw [RD] at r; subst r; rw [D.py]; constructor)
theorem okn_all_dp {n : Nat} {ds : List D} {vs : List V} (h : ds.all (D.okn n) = true) (r : RDs K S H ds vs) : DpAll K H vs (D.pys ds) := by
  induction ds generalizing vs with
  | nil => rw [RDs.nil.mp r, D.pys]; exact .nil
  | cons d ds ihd =>
    rw [List.all_cons, Bool.and_eq_true] at h
    rw [RDs] at r
    obtain ⟨v, w, rfl, r1, r2⟩ := r
    rw [D.pys]
    exact .cons (D.okn_dp n d v h.1 r1) (ihd h.2 r2)
/-- a tracked list as the data that it is now -/
def Sto.now (S : Sto) : D → D
  | .ref p => match S p with
    | some (.lst ds) => .lst ds
    | _ => .ref p
  | d => d
theorem now_dp {n : Nat} {d : D} {v : V} (h : D.okn (n + 1) (S.now d) = true) (r : RD K S H d v) (rs : RS K S H) : Dp K H v (D.py (S.now d)) := by
  cases d with
  | ref p =>
    have e : S.now (.ref p) = (match S p with
      | some (.lst ds) => D.lst ds
      | _ => .ref p) := rfl
    rw [e] at h ⊢
    split at h
    · rename_i ds hp
      obtain ⟨vs, h1, h2⟩ := rs p _ hp
      rw [RD] at r
      subst r
      rw [D.py]
      exact .lst (.of h1) (okn_all_dp (n := n) (by simpa [D.okn] using h) h2)
    · simp [D.okn] at h
  | _ => exact D.okn_dp (n + 1) _ v h r
end

section
variable {X : Cx}
/-! ### == and != -/
def eqD (d e : D) : Bool := PyData.eqv (D.py d) (D.py e)
def oEq : R2D := fun d e S Q => (D.okn 8 (S.now d) = true ∧ D.okn 8 (S.now e) = true) ∧ Q (.bl (eqD (S.now d) (S.now e))) S
def oNe : R2D := fun d e S Q => (D.okn 8 (S.now d) = true ∧ D.okn 8 (S.now e) = true) ∧ Q (.bl (!eqD (S.now d) (S.now e))) S
theorem RD.bl {K : PySem.W.Frag} {S : Sto} {H : Hp} {b : Bool} : RD K S H (.bl b) (.bl b) := by rw [RD]
theorem RD.non {K : PySem.W.Frag} {S : Sto} {H : Hp} : RD K S H .non .non := by rw [RD]
theorem RD.str {K : PySem.W.Frag} {S : Sto} {H : Hp} {b : Str} : RD K S H (.str b) (.str b) := by rw [RD]
theorem p_eq (hu : X.A.units + 64 < cLine) : OpD X (compareOp .Eq) oEq := opD_of (op_eqD hu) fun d e x y S H Qd Q r1 r2 rs ⟨⟨q1, q2⟩, q⟩ k =>
  ⟨_, _, now_dp q1 r1 rs, now_dp q2 r2 rs, D.okn_shaped q1 (by decide), D.okn_shaped q2 (by decide), k.here rs q RD.bl⟩
theorem p_ne (hu : X.A.units + 64 < cLine) : OpD X (compareOp .NotEq) oNe := opD_of (op_neD hu) fun d e x y S H Qd Q r1 r2 rs ⟨⟨q1, q2⟩, q⟩ k =>
  ⟨_, _, now_dp q1 r1 rs, now_dp q2 r2 rs, D.okn_shaped q1 (by decide), D.okn_shaped q2 (by decide), k.here rs q RD.bl⟩

/-! ### ints -/
def oI (C : Int → Int → Prop) (g : Int → Int → D) : R2D := fun d e S Q => match d, e with
  | .int i, .int j => C i j ∧ Q (g i j) S
  | _, _ => False
def oI0 (g : Int → Int → D) : R2D := fun d e S Q => match d, e with
  | .int i, .int j => Q (g i j) S
  | _, _ => False
theorem oI_int {C : Int → Int → Prop} {g : Int → Int → D} {d e : D} {S : Sto} {Q : QD} (h : oI C g d e S Q) : ∃ i j, d = .int i ∧ e = .int j ∧ C i j ∧ Q (g i j) S := by
  unfold oI at h; split at h
  · exact ⟨_, _, rfl, rfl, h⟩
  · exact h.elim
theorem oI0_int {g : Int → Int → D} {d e : D} {S : Sto} {Q : QD} (h : oI0 g d e S Q) : ∃ i j, d = .int i ∧ e = .int j ∧ Q (g i j) S := by
  unfold oI0 at h; split at h
  · exact ⟨_, _, rfl, rfl, h⟩
  · exact h.elim
theorem p_I {f : Value → Value → Sem Value} {C : Int → Int → Prop} {g : Int → Int → Int} (h : OpR X f (rI C fun i j => .int (g i j))) : OpD X f (oI C fun i j => .int (g i j)) := opD_of h fun d e x y S H Qd Q r1 r2 rs q k => by
  obtain ⟨i, j, rfl, rfl, c, q⟩ := oI_int q
  rw [RD] at r1 r2
  exact ⟨i, j, r1, r2, c, k.here rs q RD.int⟩
theorem p_I0 {f : Value → Value → Sem Value} {g : Int → Int → Int} (h : OpR X f (rI0 fun i j => .int (g i j))) : OpD X f (oI0 fun i j => .int (g i j)) := opD_of h fun d e x y S H Qd Q r1 r2 rs q k => by
  obtain ⟨i, j, rfl, rfl, q⟩ := oI0_int q
  rw [RD] at r1 r2
  exact ⟨i, j, r1, r2, k.here rs q RD.int⟩
theorem p_B0 {f : Value → Value → Sem Value} {g : Int → Int → Bool} (h : OpR X f (rI0 fun i j => .bl (g i j))) : OpD X f (oI0 fun i j => .bl (g i j)) := opD_of h fun d e x y S H Qd Q r1 r2 rs q k => by
  obtain ⟨i, j, rfl, rfl, q⟩ := oI0_int q
  rw [RD] at r1 r2
  exact ⟨i, j, r1, r2, k.here rs q RD.bl⟩
abbrev oSub : R2D := oI0 fun i j => .int (i - j)
theorem p_sub : OpD X (binaryOp .Sub) oSub := p_I0 op_sub
theorem p_isub : OpD X (inplaceOp .Sub) oSub := p_I0 iop_sub
abbrev oFdiv : R2D := oI CDiv fun i j => .int (i / j)
theorem p_fdiv : OpD X (binaryOp .FloorDiv) oFdiv := p_I op_fdiv
abbrev oFdivW : R2D := oI CDivW fun i j => .int (i / j)
theorem p_fdivW : OpD X (binaryOp .FloorDiv) oFdivW := p_I op_fdivW
abbrev oMod : R2D := oI (fun _ j => 0 < j) fun i j => .int (i % j)
theorem p_mod : OpD X (binaryOp .Mod) oMod := p_I op_mod
theorem p_imul : OpD X (inplaceOp .Mult) (oI CMul fun i j => .int (i * j)) := p_I iop_mul
/-- powers -/
def CPowW (i j : Int) : Prop := 0 ≤ j ∧ j ≤ 1000 ∧ i.natAbs < 2 ^ 1000
theorem op_powW : OpR X (binaryOp .Pow) (rI CPowW fun i j => .int (i ^ j.toNat)) := opI fun a b t u Q' s E hc q => by
  obtain ⟨h0, h1, h2⟩ := hc
  refine pow_int h0 ?_ q
  have hb : Builtin.Int.intBits a ≤ 1000 := by
    unfold Builtin.Int.intBits
    split
    · omega
    · have := PySem.Flt.log2_lt_of (by decide) h2
      omega
  have h3 : (Builtin.Int.intBits a : Int) * b ≤ 1000 * b := Int.mul_le_mul_of_nonneg_right (by omega) h0
  omega
abbrev oPow : R2D := oI CPowW fun i j => .int (i ^ j.toNat)
theorem p_pow : OpD X (binaryOp .Pow) oPow := p_I op_powW
abbrev oLt : R2D := oI0 fun i j => .bl (decide (i < j))
abbrev oLe : R2D := oI0 fun i j => .bl (decide (i ≤ j))
abbrev oGt : R2D := oI0 fun i j => .bl (decide (j < i))
abbrev oGe : R2D := oI0 fun i j => .bl (decide (j ≤ i))
theorem p_lt : OpD X (compareOp .Lt) oLt := p_B0 op_lt
theorem p_le : OpD X (compareOp .LtE) oLe := p_B0 op_le
theorem p_gt : OpD X (compareOp .Gt) oGt := p_B0 op_gt
theorem p_ge : OpD X (compareOp .GtE) oGe := p_B0 op_ge
/-- +: ints, tuples, lists, texts -/
def oAdd (r : Bool) : R2D := fun d e S Q => match d, e with
  | .int i, .int j => Q (.int (i + j)) S
  | .tup a, .tup b => a.length + b.length ≤ sizeLine ∧ Q (.tup (a ++ b)) S
  | .str x, .str y => x.length + y.length ≤ sizeLine ∧ Q (.str (x ++ y)) S
  | d, e => match S.list d, S.list e with
    | some a, some b => a.length + b.length ≤ sizeLine ∧ newL r (a ++ b) S Q
    | _, _ => False
theorem vals_nil_iff {K : PySem.W.Frag} {S : Sto} {H : Hp} {ds : List D} {vs : List V} (r : RDs K S H ds vs) : vs = [] ↔ ds = [] := by
  have h := r.len
  constructor
  · intro e; subst e; exact List.eq_nil_of_length_eq_zero h.symm
  · intro e; subst e; exact List.eq_nil_of_length_eq_zero h
theorem p_add {r : Bool} : OpD X (binaryOp .Add) (oAdd r) := opD_of (op_add.or (op_catA.or (op_add_str.or op_cat))) fun d e x y S H Qd Q r1 r2 rs q k => by
  unfold oAdd at q
  split at q
  · rw [RD] at r1 r2
    exact .inl ⟨_, _, r1, r2, k.here rs q RD.int⟩
  · rw [RD] at r1 r2
    obtain ⟨a, vs, rfl, t1, s1⟩ := r1
    obtain ⟨b, ws, rfl, t2, s2⟩ := r2
    obtain ⟨hl, q⟩ := q
    refine .inr (.inl ⟨a, b, vs, ws, rfl, rfl, t1, t2, by rw [s1.len, s2.len]; exact hl, fun e => ?_, fun e e2 => ?_, fun e e2 p hp => ?_⟩)
    · rw [(vals_nil_iff s1).mp e, List.nil_append] at q
      exact k.here rs q (by rw [RD]; exact ⟨b, ws, rfl, t2, s2⟩)
    · rw [(vals_nil_iff s2).mp e2, List.append_nil] at q
      exact k.here rs q (by rw [RD]; exact ⟨a, vs, rfl, t1, s1⟩)
    · exact newT_ok rs (s1.append s2) q k p hp
  · rw [RD] at r1 r2
    exact .inr (.inr (.inl ⟨_, _, r1, r2, q.1, k.here rs q.2 RD.str⟩))
  · split at q
    · rename_i a b ha hb
      obtain ⟨p1, vs, rfl, t1, s1⟩ := list_at ha r1 rs
      obtain ⟨p2, ws, rfl, t2, s2⟩ := list_at hb r2 rs
      exact .inr (.inr (.inr ⟨p1, p2, vs, ws, rfl, rfl, t1, t2, by rw [s1.len, s2.len]; exact q.1, fun p hp => newL_ok rs (s1.append s2) q.2 k p hp⟩))
    · exact q.elim
abbrev oAddI : R2D := oI0 fun i j => .int (i + j)
theorem p_iadd : OpD X (inplaceOp .Add) oAddI := p_I0 iop_add
/-- int + bool -/
def oAddB : R2D := fun d e S Q => match d, e with
  | .int i, .bl b => Q (.int (i + b2i b)) S
  | _, _ => False
/-- *: ints; a list, a tuple times an int -/
def CMul' (i j : Int) : Prop := (i.natAbs < 2 ^ 1000 ∧ j.natAbs < 2 ^ 1000)
theorem cmul' {i j : Int} (h : CMul' i j) : CMulW i j := wide_mul h.1 h.2 (by decide) (by decide) (by decide)
def oMul (r : Bool) : R2D := fun d e S Q => match e with
  | .int k => match d with
    | .int i => CMul' i k ∧ Q (.int (i * k)) S
    | .tup a => (a ≠ [] ∧ 2 ≤ k ∧ k ≤ 1000 ∧ a.length ≤ 1000) ∧ Q (.tup (List.replicate k.toNat a).flatten) S
    | d => match S.list d with
      | some a => (0 ≤ k ∧ k < 2 ^ 62 ∧ a.length * k.toNat ≤ sizeLine) ∧ newL r (List.replicate k.toNat a).flatten S Q
      | none => False
  | _ => False
theorem p_mul {r : Bool} : OpD X (binaryOp .Mult) (oMul r) := opD_of (op_mulW.or (op_repT.or op_rep)) fun d e x y S H Qd Q r1 r2 rs q k => by
  cases e with
  | int kk =>
    rw [RD] at r2
    subst r2
    cases d with
    | int i =>
      rw [RD] at r1
      exact .inl ⟨i, kk, r1, rfl, cmul' q.1, k.here rs q.2 RD.int⟩
    | tup a =>
      rw [RD] at r1
      obtain ⟨p1, vs, rfl, t1, s1⟩ := r1
      obtain ⟨⟨c0, c1, c2, c3⟩, q⟩ := q
      exact .inr (.inl ⟨p1, kk, vs, rfl, rfl, t1, fun z => c0 ((vals_nil_iff s1).mp z), c1, c2, by rw [s1.len]; exact c3, fun p hp => newT_ok rs (s1.rep _) q k p hp⟩)
    | lst a =>
      obtain ⟨p1, vs, rfl, t1, s1⟩ := list_at (d := .lst a) (ds := a) rfl r1 rs
      obtain ⟨⟨c0, c1, c2⟩, q⟩ := q
      exact .inr (.inr ⟨p1, kk, vs, rfl, rfl, t1, by omega, by omega, by rw [s1.len]; exact c2, fun p hp => newL_ok rs (s1.rep _) q k p hp⟩)
    | ref b =>
      have q' : (match S.list (.ref b) with
        | some a => (0 ≤ kk ∧ kk < 2 ^ 62 ∧ a.length * kk.toNat ≤ sizeLine) ∧ newL r (List.replicate kk.toNat a).flatten S Qd
        | none => False) := q
      split at q'
      · rename_i a ha
        obtain ⟨p1, vs, rfl, t1, s1⟩ := list_at ha r1 rs
        obtain ⟨⟨c0, c1, c2⟩, q⟩ := q'
        exact .inr (.inr ⟨p1, kk, vs, rfl, rfl, t1, by omega, by omega, by rw [s1.len]; exact c2, fun p hp => newL_ok rs (s1.rep _) q k p hp⟩)
      · exact q'.elim
    | _ => exact q.elim
  | _ => exact q.elim
/-- is None, is not None; is True .. -/
def D.isNon : D → Bool
  | .non => true
  | _ => false
def oIsN : R2D := fun d e S Q => match e with
  | .non => Q (.bl d.isNon) S
  | _ => False
def oNotN : R2D := fun d e S Q => match e with
  | .non => Q (.bl (!d.isNon)) S
  | _ => False
theorem rd_non_iff {K : PySem.W.Frag} {S : Sto} {H : Hp} {d : D} {v : V} (r : RD K S H d v) : decide (v = V.non) = d.isNon := by
  cases d <;> rw [RD] at r
  · subst r; rfl
  · subst r; rfl
  · subst r; rfl
  · subst r; rfl
  · obtain ⟨a, vs, rfl, _⟩ := r; rfl
  · obtain ⟨a, vs, rfl, _⟩ := r; rfl
  · obtain ⟨a, vs, rfl, _⟩ := r; rfl
  · subst r; rfl
  · obtain ⟨a, o, vs, rfl, _⟩ := r; rfl
theorem p_isN : OpD X (compareOp .Is) oIsN := opD_of op_isN fun d e x y S H Qd Q r1 r2 rs q k => by
  unfold oIsN at q
  split at q
  · rw [RD] at r2
    refine ⟨r2, ?_⟩
    rw [rd_non_iff r1]
    exact k.here rs q RD.bl
  · exact q.elim
theorem p_notN : OpD X (compareOp .IsNot) oNotN := opD_of op_notN fun d e x y S H Qd Q r1 r2 rs q k => by
  unfold oNotN at q
  split at q
  · rw [RD] at r2
    refine ⟨r2, ?_⟩
    rw [rd_non_iff r1]
    exact k.here rs q RD.bl
  · exact q.elim
def oIsB : R2D := fun d e S Q => match d, e with
  | .bl a, .bl b => Q (.bl (decide (a = b))) S
  | _, _ => False
def oNotB : R2D := fun d e S Q => match d, e with
  | .bl a, .bl b => Q (.bl (!decide (a = b))) S
  | _, _ => False
theorem p_isB : OpD X (compareOp .Is) oIsB := opD_of op_isBl fun d e x y S H Qd Q r1 r2 rs q k => by
  unfold oIsB at q
  split at q
  · rw [RD] at r1 r2
    exact ⟨_, _, r1, r2, k.here rs q RD.bl⟩
  · exact q.elim
theorem p_notB : OpD X (compareOp .IsNot) oNotB := opD_of op_notBl fun d e x y S H Qd Q r1 r2 rs q k => by
  unfold oNotB at q
  split at q
  · rw [RD] at r1 r2
    exact ⟨_, _, r1, r2, k.here rs q RD.bl⟩
  · exact q.elim
/-- x in t, flat items -/
def D.flat : D → Bool
  | .non => true
  | .bl _ => true
  | .int _ => true
  | .str _ => true
  | _ => false

/-! ### subscripts -/
def oIx : R2D := fun d e S Q => match e with
  | .int i => match S.seq d with
    | some ds => match atI ds i with
      | some x => Q x S
      | none => False
    | none => False
  | _ => False
theorem atI_rd {K : PySem.W.Frag} {S : Sto} {H : Hp} {ds : List D} {vs : List V} {i : Int} {d : D} (r : RDs K S H ds vs) (h : atI ds i = some d) : ∃ v, atI vs i = some v ∧ RD K S H d v := by
  unfold atI at h ⊢
  rw [r.len]
  cases e : ixN ds.length i with
  | none => rw [e] at h; cases h
  | some j =>
    rw [e] at h
    obtain ⟨v, e1, e2⟩ := r.get (show ds[j]? = some d from h)
    exact ⟨v, e1, e2⟩
theorem p_ix : IxD X oIx := ixD_of (ix_list.or ix_tup) fun d e x y S H Qd Q r1 r2 rs q k => by
  unfold oIx at q
  split at q
  · split at q
    · rename_i ds hs
      split at q
      · rename_i z hz
        rw [RD] at r2
        obtain ⟨a, vs, rfl, t1, s1⟩ := seq_at hs r1 rs
        obtain ⟨v, e1, e2⟩ := atI_rd s1 hz
        rcases t1 with t1 | t1
        · exact .inl ⟨a, vs, _, v, rfl, r2, t1, e1, k.here rs q e2⟩
        · exact .inr ⟨a, vs, _, v, rfl, r2, t1, e1, k.here rs q e2⟩
      · exact q.elim
    · exact q.elim
  · exact q.elim
/-- t[lo:hi] -/
def cutD (ds : List D) (lo hi : Option Int) : List D := (ds.drop (HT.sIx ds.length 0 lo)).take (HT.sIx ds.length ds.length hi - HT.sIx ds.length 0 lo)
/-- of a list of any kind -/
def Sto.lsts (S : Sto) : D → Option (List D)
  | .lst ds => some ds
  | .fz ds => some ds
  | .ref p => match S p with
    | some (.lst ds) => some ds
    | _ => none
  | _ => none
theorem lsts_at {K : PySem.W.Frag} {S : Sto} {H : Hp} {d : D} {ds : List D} {v : V} (h : S.lsts d = some ds) (rd : RD K S H d v) (rs : RS K S H) : ∃ a vs, v = .ref a ∧ SqL K H a vs ∧ RDs K S H ds vs := by
  cases d with
  | fz es =>
    have e : es = ds := Option.some.inj h
    subst e
    rw [RD] at rd
    obtain ⟨a, vs, h1, h2, h3⟩ := rd
    exact ⟨a, vs, h1, h2.sq, h3⟩
  | lst es =>
    obtain ⟨a, vs, h1, h2, h3⟩ := list_at (d := .lst es) (ds := ds) h rd rs
    exact ⟨a, vs, h1, .of h2, h3⟩
  | ref p =>
    obtain ⟨a, vs, h1, h2, h3⟩ := list_at (d := .ref p) (ds := ds) h rd rs
    exact ⟨a, vs, h1, .of h2, h3⟩
  | _ => cases h
def oSl (r : Bool) : RSlD := fun d lo hi S Q => match d with
  | .tup ds => Q (.tup (cutD ds lo hi)) S
  | .tpx ds => Q (.tup (cutD ds lo hi)) S
  | d => match S.lsts d with
    | some ds => newL r (cutD ds lo hi) S Q
    | none => False
theorem cut_rd {K : PySem.W.Frag} {S : Sto} {H : Hp} {ds : List D} {vs : List V} {lo hi : Option Int} (r : RDs K S H ds vs) : RDs K S H (cutD ds lo hi) (cutV vs lo hi) := by
  unfold cutD cutV
  rw [r.len]
  exact (r.drop _).take _
theorem p_sl {r : Bool} : SlD X (oSl r) := slD_of (sl_list.or sl_tupA) fun d x lo hi S H Qd Q r1 rs q k => by
  unfold oSl at q
  split at q
  · rename_i ds
    rw [RD] at r1
    obtain ⟨a, vs, rfl, t1, s1⟩ := r1
    refine .inr ⟨a, vs, rfl, t1, fun ⟨c1, c2⟩ => ?_, fun _ p hp => newT_ok rs (cut_rd s1) q k p hp⟩
    have e : cutD ds lo hi = ds := by
      unfold cutD
      rw [← s1.len, c1, c2, List.drop_zero, Nat.sub_zero, s1.len, List.take_length]
    rw [e] at q
    exact k.here rs q (by rw [RD]; exact ⟨a, vs, rfl, t1, s1⟩)
  · rename_i ds
    rw [RD] at r1
    obtain ⟨a, o, vs, rfl, t1, _, s1⟩ := r1
    have t1' : SqT X.K H a vs := .inl (.inr ⟨o, t1⟩)
    refine .inr ⟨a, vs, rfl, t1', fun ⟨c1, c2⟩ => ?_, fun _ p hp => newT_ok rs (cut_rd s1) q k p hp⟩
    have e : cutD ds lo hi = ds := by
      unfold cutD
      rw [← s1.len, c1, c2, List.drop_zero, Nat.sub_zero, s1.len, List.take_length]
    rw [e] at q
    exact k.here rs q (by rw [RD]; exact ⟨a, vs, rfl, t1', s1⟩)
  · rename_i h
    split at q
    · rename_i ds hs
      obtain ⟨a, vs, rfl, t1, s1⟩ := lsts_at hs r1 rs
      exact .inl ⟨a, vs, rfl, t1, fun p hp => newL_ok rs (cut_rd s1) q k p hp⟩
    · exact q.elim
end
end PL
/-! built-in functions, list methods, membership, items -/
namespace PL
open PySem PySem.Spec PyProof.Rows L2
section
variable {X : Cx}
/-! ### items of lists: set, get -/
def oSet : TSetD := fun d e f S Q => match e with
  | .int k => match d with
    | .ref p => match S p with
      | some (.lst ds) => ∃ j, ixN ds.length k = some j ∧ Q (S.up p (.lst (ds.set j f)))
      | _ => False
    | _ => False
  | _ => False
theorem oSet_is {d e f : D} {S : Sto} {Q : Sto → Prop} (h : oSet d e f S Q) : ∃ k p ds j, e = .int k ∧ d = .ref p ∧ S p = some (.lst ds) ∧ ixN ds.length k = some j ∧ Q (S.up p (.lst (ds.set j f))) := by
  unfold oSet at h
  split at h
  · split at h
    · split at h
      · rename_i ds hs
        obtain ⟨j, h1, h2⟩ := h
        exact ⟨_, _, ds, j, rfl, rfl, hs, h1, h2⟩
      · exact h.elim
    · exact h.elim
  · exact h.elim
theorem p_set : SetD X oSet := setD_of set_list fun d e f x y z S H Qd Q r1 r2 r3 rs q k => by
  obtain ⟨i, p, ds, j, rfl, rfl, hs, hj, q⟩ := oSet_is q
  obtain ⟨vs, h1, h2⟩ := rs p _ hs
  have r1' := r1
  have r2' := r2
  rw [RD] at r1'
  rw [RD] at r2'
  refine ⟨p, vs, i, j, r1', r2', h1, by rw [h2.len]; exact hj, k _ _ q ?_⟩
  exact Go.wrote rs hs fun S' H' tp e => ⟨_, e, (h2.tp tp).set j (r3.tp tp)⟩
theorem get_list : PGet X (rIxL X.K) := by
  intro pins s σ H x y v u Q I rx ry h
  obtain ⟨p, xs, i, z, rfl, rfl, hq, he, q⟩ := h
  cases rx
  obtain ⟨t, rfl⟩ := ry
  obtain ⟨its, r, pl, hz⟩ := I.list hq
  obtain ⟨j, h1, h2, h3, h4, h5⟩ := atI_get he
  obtain ⟨w, ew, rw'⟩ := r.get h2
  have hl := r.length
  have hn := line63
  have fin : EP X pins σ Q w s := ⟨z, H, I, rw', q⟩
  by_cases h0 : 0 ≤ i
  · have hj : i.toNat = j := by
      rw [seqIndex_of h0 h5] at h1
      exact Option.some.inj h1
    exact wpAny_getItem_list pl.isList h0 (by omega) (by rw [hj]; simpa using ew) fin
  · have hj : (i + (its.toArray.size : Int)).toNat = j := by
      rw [seqIndex_neg (by omega) h4] at h1
      rw [List.size_toArray, ← hl]
      exact Option.some.inj h1
    exact wpAny_getItem_list_neg pl.isList (by omega) (by rw [List.size_toArray] <;> omega) (by omega) (by rw [hj]; simpa using ew) fin
def oGet : R2D := fun d e S Q => match e with
  | .int i => match S.lsts d with
    | some ds => match atI ds i with
      | some x => Q x S
      | none => False
    | none => False
  | _ => False
theorem p_get : GetD X oGet := fun pins s σ H x y v u Q I rx ry h => get_list pins s σ H x y v u Q I rx ry (by
  obtain ⟨d, e, S, Qd, r1, r2, rs, q, k⟩ := h
  unfold oGet at q
  split at q
  · split at q
    · rename_i ds hs
      split at q
      · rename_i z hz
        rw [RD] at r2
        obtain ⟨a, vs, rfl, t1, s1⟩ := lsts_at hs r1 rs
        obtain ⟨v, e1, e2⟩ := atI_rd s1 hz
        exact ⟨a, vs, _, v, rfl, r2, t1, e1, k.here rs q e2⟩
      · exact q.elim
    · exact q.elim
  · exact q.elim)

/-! ### len -/
theorem one_rd {K : PySem.W.Frag} {S : Sto} {H : Hp} {d : D} {vs : List V} (r : RDs K S H [d] vs) : ∃ v, vs = [v] ∧ RD K S H d v := r.one
def oLen : RLD := fun ds S Q => match ds with
  | [d] => match S.seq d with
    | some es => Q (.int (es.length : Nat)) S
    | none => False
  | _ => False
theorem p_len : CallD X (.builtin "len") oLen := callD_of call_len_seq fun ds vs S H Qd Q r rs q k => by
  unfold oLen at q
  split at q
  · split at q
    · rename_i es hs
      obtain ⟨v, rfl, r1⟩ := r.one
      obtain ⟨a, ws, rfl, t1, s1⟩ := seq_at hs r1 rs
      exact ⟨a, ws, rfl, t1, by rw [s1.len]; exact k.here rs q RD.int⟩
    · exact q.elim
  · exact q.elim

/-! ### sum, min, max of ints -/
theorem rds_ints {K : PySem.W.Frag} {S : Sto} {H : Hp} : ∀ {ns : List Int} {vs : List V}, RDs K S H (ns.map D.int) vs → vs = ns.map V.int
  | [], vs, h => RDs.nil.mp h
  | n :: ns, vs, h => by
    rw [List.map_cons, RDs] at h
    obtain ⟨v, r, rfl, h1, h2⟩ := h
    rw [RD] at h1
    rw [h1, rds_ints h2]; rfl
theorem rds_bls {K : PySem.W.Frag} {S : Sto} {H : Hp} : ∀ {ns : List Bool} {vs : List V}, RDs K S H (ns.map D.bl) vs → vs = ns.map V.bl
  | [], vs, h => RDs.nil.mp h
  | n :: ns, vs, h => by
    rw [List.map_cons, RDs] at h
    obtain ⟨v, r, rfl, h1, h2⟩ := h
    rw [RD] at h1
    rw [h1, rds_bls h2]; rfl
theorem ints_rds {K : PySem.W.Frag} {S : Sto} {H : Hp} : ∀ (ns : List Int), RDs K S H (ns.map D.int) (ns.map V.int)
  | [] => RDs.nil.mpr rfl
  | n :: ns => RDs.cons RD.int (ints_rds ns)
/-- sum of ints in a list; in a tuple -/
def oSum : RLD := fun ds S Q => match ds with
  | [d] => ∃ ns : List Int, S.seq d = some (ns.map D.int) ∧ Q (.int ns.sum) S
  | _ => False
/-- all, any over a list of bools -/
def oAll : RLD := fun ds S Q => match ds with
  | [d] => ∃ bs : List Bool, S.lsts d = some (bs.map D.bl) ∧ Q (.bl (bs.all id)) S
  | _ => False
def oAny : RLD := fun ds S Q => match ds with
  | [d] => ∃ bs : List Bool, S.lsts d = some (bs.map D.bl) ∧ Q (.bl (bs.any id)) S
  | _ => False
theorem p_all (hc : X.calm = true) : CallD X (.builtin "all") oAll := callD_of (cr_all hc) fun ds vs S H Qd Q r rs q k => by
  unfold oAll at q
  split at q
  · obtain ⟨bs, hs, q⟩ := q
    obtain ⟨v, rfl, r1⟩ := r.one
    obtain ⟨a, ws, rfl, t1, s1⟩ := lsts_at hs r1 rs
    rw [rds_bls s1] at t1
    exact ⟨a, bs, rfl, t1, k.here rs q RD.bl⟩
  · exact q.elim
theorem p_any (hc : X.calm = true) : CallD X (.builtin "any") oAny := callD_of (cr_any hc) fun ds vs S H Qd Q r rs q k => by
  unfold oAny at q
  split at q
  · obtain ⟨bs, hs, q⟩ := q
    obtain ⟨v, rfl, r1⟩ := r.one
    obtain ⟨a, ws, rfl, t1, s1⟩ := lsts_at hs r1 rs
    rw [rds_bls s1] at t1
    exact ⟨a, bs, rfl, t1, k.here rs q RD.bl⟩
  · exact q.elim
/-! ### abs, min, max of two, int, bool -/
def o1I (g : Int → Int) : RLD := fun ds S Q => match ds with
  | [.int i] => Q (.int (g i)) S
  | _ => False
def o2I (g : Int → Int → Int) : RLD := fun ds S Q => match ds with
  | [.int i, .int j] => Q (.int (g i j)) S
  | _ => False
abbrev oAbs : RLD := o1I fun i => if i < 0 then -i else i
theorem p_abs : CallD X (.builtin "abs") oAbs := callD_of call_abs fun ds vs S H Qd Q r rs q k => by
  unfold oAbs o1I at q
  split at q
  · obtain ⟨v, rfl, r1⟩ := r.one
    rw [RD] at r1
    exact ⟨_, by rw [r1], k.here rs q RD.int⟩
  · exact q.elim
abbrev oMax2 : RLD := o2I fun i j => if j > i then j else i
abbrev oMin2 : RLD := o2I fun i j => if j < i then j else i
theorem p_max2 (hc : X.calm = true) : CallD X (.builtin "max") oMax2 := callD_of (call_max2 hc) fun ds vs S H Qd Q r rs q k => by
  unfold oMax2 o2I at q
  split at q
  · obtain ⟨v, w, rfl, r1, r2⟩ := r.two
    rw [RD] at r1 r2
    exact ⟨_, _, by rw [r1, r2], k.here rs q RD.int⟩
  · exact q.elim
theorem p_min2 (hc : X.calm = true) : CallD X (.builtin "min") oMin2 := callD_of (call_min2 hc) fun ds vs S H Qd Q r rs q k => by
  unfold oMin2 o2I at q
  split at q
  · obtain ⟨v, w, rfl, r1, r2⟩ := r.two
    rw [RD] at r1 r2
    exact ⟨_, _, by rw [r1, r2], k.here rs q RD.int⟩
  · exact q.elim
def oInt : RLD := fun ds S Q => match ds with
  | [.int i] => Q (.int i) S
  | [.bl b] => Q (.int (if b then 1 else 0)) S
  | _ => False
theorem p_int : CallD X (.type "int") oInt := callD_of call_int1 fun ds vs S H Qd Q r rs q k => by
  unfold oInt at q
  split at q
  · obtain ⟨v, rfl, r1⟩ := r.one
    rw [RD] at r1
    exact .inl ⟨_, by rw [r1], k.here rs q RD.int⟩
  · obtain ⟨v, rfl, r1⟩ := r.one
    rw [RD] at r1
    exact .inr ⟨_, by rw [r1], k.here rs q RD.int⟩
  · exact q.elim
def oBool : RLD := fun ds S Q => match ds with
  | [.int i] => Q (.bl (i != 0)) S
  | [.bl b] => Q (.bl b) S
  | _ => False
theorem p_bool : CallD X (.type "bool") oBool := callD_of call_bool1 fun ds vs S H Qd Q r rs q k => by
  unfold oBool at q
  split at q
  · obtain ⟨v, rfl, r1⟩ := r.one
    rw [RD] at r1
    exact .inl ⟨_, by rw [r1], k.here rs q RD.bl⟩
  · obtain ⟨v, rfl, r1⟩ := r.one
    rw [RD] at r1
    exact .inr ⟨_, by rw [r1], k.here rs q RD.bl⟩
  · exact q.elim
/-! ### list(x), tuple(x) -/
def oList (r : Bool) : RLD := fun ds S Q => match ds with
  | [d] => match S.seq d with
    | some es => newL r es S Q
    | none => False
  | _ => False
theorem p_list {r : Bool} : CallD X (.type "list") (oList r) := callD_of call_list_of fun ds vs S H Qd Q rr rs q k => by
  unfold oList at q
  split at q
  · split at q
    · rename_i es hs
      obtain ⟨v, rfl, r1⟩ := rr.one
      obtain ⟨a, ws, rfl, t1, s1⟩ := seq_at hs r1 rs
      exact ⟨a, ws, rfl, t1, fun p hp => newL_ok rs s1 q k p hp⟩
    · exact q.elim
  · exact q.elim
def oTuple : RLD := fun ds S Q => match ds with
  | [d] => match S.seq d with
    | some es => Q (.tup es) S
    | none => False
  | _ => False
theorem p_tuple : CallD X (.type "tuple") oTuple := callD_of call_tuple_of fun ds vs S H Qd Q rr rs q k => by
  unfold oTuple at q
  split at q
  · split at q
    · rename_i es hs
      obtain ⟨v, rfl, r1⟩ := rr.one
      obtain ⟨a, ws, rfl, t1, s1⟩ := seq_at hs r1 rs
      refine ⟨a, ws, rfl, ?_⟩
      rcases t1 with t1 | t1
      · exact .inl ⟨t1, fun p hp => newT_ok rs s1 q k p hp⟩
      · exact .inr ⟨t1, k.here rs q (by rw [RD]; exact ⟨a, ws, rfl, t1, s1⟩)⟩
    · exact q.elim
  · exact q.elim
end

/-! ### range(..) as an argument of list, tuple -/
section
variable {X : Cx} {a b e : Expr} {δa δb : TED} {p pos : Pos}
abbrev TRD := DEnv → Sto → (Int → Int → Sto → Prop) → Prop
def LR (K : PySem.W.Frag) (δ : TRD) : L2.St → Hp → (Int → Int → Hp → Prop) → Prop := fun σ H Q => ∃ ρ S Qd, RE K S H ρ σ ∧ RS K S H ∧ δ ρ S Qd ∧ ∀ i j S' H', Qd i j S' → Go K S H S' H' → Q i j H'
abbrev DRg (X : Cx) (e : Expr) (δ : TRD) : Prop := PRg X e (LR X.K δ)
theorem prgW {t t' : L2.St → Hp → (Int → Int → Hp → Prop) → Prop} (h : PRg X e t) (w : ∀ σ H Q, t' σ H Q → t σ H Q) : PRg X e t' := fun pins s σ H Q I q => h pins s σ H Q I (w σ H Q q)
def dRg1 (δ : TED) : TRD := fun ρ S Q => δ ρ S fun x S1 => match x with
  | .int n => Q 0 n S1
  | _ => False
def dRg2 (δa δb : TED) : TRD := fun ρ S Q => δa ρ S fun x S1 => δb ρ S1 fun y S2 => match x, y with
  | .int i, .int j => Q i j S2
  | _, _ => False
theorem drg_1 (hm : X.mg "range" = none) (ha : DE X a δa) (hg : Gl X "range" := by rfl) (na : starEach [a] X.env = (false, eval a X.env) :: starEach [] X.env := by rfl) : DRg X (.Call (.Name "range" p) [a] [] pos) (dRg1 δa) :=
  prgW (prg_1 hg hm ha na) fun σ H Q ⟨ρ, S, Qd, re, rs, q, k⟩ => by
    refine ⟨ρ, S, _, re, rs, q, fun x S1 v H1 q1 g1 r1 => ?_⟩
    try dsimp only at q1
    split at q1
    · rw [RD] at r1
      exact ⟨_, r1, k _ _ _ _ q1 g1⟩
    · exact q1.elim
theorem drg_2 (hm : X.mg "range" = none) (ha : DE X a δa) (hb : DE X b δb) (hg : Gl X "range" := by rfl) (na : starEach [a, b] X.env = (false, eval a X.env) :: starEach [b] X.env := by rfl)
    (nb : starEach [b] X.env = (false, eval b X.env) :: starEach [] X.env := by rfl) (hp : (backTo pos (starEach [b] X.env)).any (·.1) = false := by rfl) : DRg X (.Call (.Name "range" p) [a, b] [] pos) (dRg2 δa δb) :=
  prgW (prg_2 hg hm ha hb na nb hp) fun σ H Q ⟨ρ, S, Qd, re, rs, q, k⟩ => by
    refine ⟨ρ, S, _, re, rs, q, fun x S1 v H1 q1 g1 r1 => ?_⟩
    refine ⟨ρ, S1, _, re.tp g1.tp, g1.rs, q1, fun y S2 w H2 q2 g2 r2 => ?_⟩
    try dsimp only at q2
    split at q2
    · rw [RD] at r1 r2
      exact ⟨_, _, r1, r2, k _ _ _ _ q2 (g1.trans g2)⟩
    · exact q2.elim
def rgD (a b : Int) : List D := (List.range (b - a).toNat).map fun i => .int (a + (i : Nat))
theorem rgD_rd {K : PySem.W.Frag} {S : Sto} {H : Hp} (a b : Int) : RDs K S H (rgD a b) (rgV a b) := by
  have h := ints_rds (K := K) (S := S) (H := H) ((List.range (b - a).toNat).map fun i => a + (i : Nat))
  rw [List.map_map, List.map_map] at h
  exact h
def dListRg (r : Bool) (δ : TRD) : TED := fun ρ S Q => δ ρ S fun i j S1 => RgOk i j ∧ newL r (rgD i j) S1 Q
def dTupRg (δ : TRD) : TED := fun ρ S Q => δ ρ S fun i j S1 => RgOk i j ∧ Q (.tup (rgD i j)) S1
theorem de_listRg {r : Bool} {δ : TRD} (hc : X.calm = true) (hm : X.mg "list" = none) (he : DRg X e δ) (hg : Gl X "list" := by rfl) (na : starEach [e] X.env = (false, eval e X.env) :: starEach [] X.env := by rfl) : DE X (.Call (.Name "list" p) [e] [] pos) (dListRg r δ) :=
  peW (pe_listRg hc hg hm he na) fun σ H Q ⟨ρ, S, Qd, re, rs, q, k⟩ =>
    ⟨ρ, S, _, re, rs, q, fun i j S1 H1 ⟨q1, q2⟩ g1 => ⟨q1, fun p hp => newL_ok g1.rs (rgD_rd i j) q2 (k.go g1) p hp⟩⟩
theorem de_tupRg {δ : TRD} (hc : X.calm = true) (hm : X.mg "tuple" = none) (he : DRg X e δ) (hg : Gl X "tuple" := by rfl) (na : starEach [e] X.env = (false, eval e X.env) :: starEach [] X.env := by rfl) : DE X (.Call (.Name "tuple" p) [e] [] pos) (dTupRg δ) :=
  peW (pe_tupRg hc hg hm he na) fun σ H Q ⟨ρ, S, Qd, re, rs, q, k⟩ =>
    ⟨ρ, S, _, re, rs, q, fun i j S1 H1 ⟨q1, q2⟩ g1 => ⟨q1, fun p hp => newT_ok g1.rs (rgD_rd i j) q2 (k.go g1) p hp⟩⟩
end
end PL
/-! least, greatest, sorted; isinstance; list methods; membership -/
namespace PL
open PySem PySem.Spec PySem.W PyProof.Rows L2

/-! ### the order -/
def ltD (d e : D) : Bool := dataLt (D.py d) (D.py e)
theorem minD_least : ∀ (xs : List PyData) (x : PyData), minD x xs ∈ x :: xs ∧ ∀ y ∈ x :: xs, dataLt y (minD x xs) = false
  | [], x => ⟨List.mem_cons_self, fun y hy => by
    rw [List.mem_singleton.mp hy]
    exact lex_irrefl _⟩
  | z :: zs, x => by
    unfold minD
    rw [List.foldl_cons]
    by_cases h : dataLt z x = true
    · rw [if_pos h]
      obtain ⟨m1, m2⟩ := minD_least zs z
      unfold minD at m1 m2
      refine ⟨List.mem_cons_of_mem _ m1, fun y hy => ?_⟩
      rcases List.mem_cons.mp hy with rfl | hy
      · cases c : dataLt y (List.foldl (fun a y => if dataLt y a = true then y else a) z zs) with
        | false => rfl
        | true =>
          have := lex_trans _ _ _ h c
          have q : dataLt z (List.foldl (fun a y => if dataLt y a = true then y else a) z zs) = true := this
          rw [m2 z List.mem_cons_self] at q
          cases q
      · exact m2 y hy
    · rw [if_neg h]
      obtain ⟨m1, m2⟩ := minD_least zs x
      unfold minD at m1 m2
      refine ⟨?_, fun y hy => ?_⟩
      · rcases List.mem_cons.mp m1 with e | e
        · rw [e]; exact List.mem_cons_self
        · exact List.mem_cons_of_mem _ (List.mem_cons_of_mem _ e)
      · rcases List.mem_cons.mp hy with rfl | hy
        · exact m2 y List.mem_cons_self
        · rcases List.mem_cons.mp hy with rfl | hy
          · cases c : dataLt y (List.foldl (fun a y => if dataLt y a = true then y else a) x zs) with
            | false => rfl
            | true =>
              rcases lex_negTrans _ (keyToks x) _ c with q | q
              · exact absurd q h
              · have q' : dataLt x (List.foldl (fun a y => if dataLt y a = true then y else a) x zs) = true := q
                rw [m2 x List.mem_cons_self] at q'
                cases q'
          · exact m2 y (List.mem_cons_of_mem _ hy)
theorem maxD_most : ∀ (xs : List PyData) (x : PyData), maxD x xs ∈ x :: xs ∧ ∀ y ∈ x :: xs, dataLt (maxD x xs) y = false
  | [], x => ⟨List.mem_cons_self, fun y hy => by
    rw [List.mem_singleton.mp hy]
    exact lex_irrefl _⟩
  | z :: zs, x => by
    unfold maxD
    rw [List.foldl_cons]
    by_cases h : dataLt x z = true
    · rw [if_pos h]
      obtain ⟨m1, m2⟩ := maxD_most zs z
      unfold maxD at m1 m2
      refine ⟨List.mem_cons_of_mem _ m1, fun y hy => ?_⟩
      rcases List.mem_cons.mp hy with rfl | hy
      · cases c : dataLt (List.foldl (fun a y => if dataLt a y = true then y else a) z zs) y with
        | false => rfl
        | true =>
          have q : dataLt (List.foldl (fun a y => if dataLt a y = true then y else a) z zs) z = true := lex_trans _ _ _ c h
          rw [m2 z List.mem_cons_self] at q
          cases q
      · exact m2 y hy
    · rw [if_neg h]
      obtain ⟨m1, m2⟩ := maxD_most zs x
      unfold maxD at m1 m2
      refine ⟨?_, fun y hy => ?_⟩
      · rcases List.mem_cons.mp m1 with e | e
        · rw [e]; exact List.mem_cons_self
        · exact List.mem_cons_of_mem _ (List.mem_cons_of_mem _ e)
      · rcases List.mem_cons.mp hy with rfl | hy
        · exact m2 y List.mem_cons_self
        · rcases List.mem_cons.mp hy with rfl | hy
          · cases c : dataLt (List.foldl (fun a y => if dataLt a y = true then y else a) x zs) y with
            | false => rfl
            | true =>
              rcases lex_negTrans _ (keyToks x) _ c with q | q
              · have q' : dataLt (List.foldl (fun a y => if dataLt a y = true then y else a) x zs) x = true := q
                rw [m2 x List.mem_cons_self] at q'
                cases q'
              · exact absurd q h
          · exact m2 y (List.mem_cons_of_mem _ hy)
section
variable {X : Cx}
/-- what data items of a list are read from -/
theorem reads_of {K : PySem.W.Frag} {P : Program} {w : World} {H : Hp} {s : Shared} {pins : List (Addr × Obj)} {σ : L2.St} {X : Cx} {S : Sto} {n : Nat} {ds : List D} {vs : List V} {us : List Value} (I : Inv X pins σ H s) (h : ds.all (D.okn n) = true) (r : RDs X.K S H ds vs) (rv : Vals vs us) :
    ∃ as, ReadsAll s.heap us (D.pys ds) as := Dp.readsAll I _ _ _ (okn_all_dp h r) rv
theorem depth_all {n : Nat} : ∀ {ds : List D}, ds.all (D.okn n) = true → PyData.depthAll (D.pys ds) ≤ n ∧ PyData.canLayAll0 (D.pys ds) = true
  | [], _ => by simp [D.pys, PyData.depthAll, PyData.canLayAll0]
  | d :: ds, h => by
    rw [List.all_cons, Bool.and_eq_true] at h
    obtain ⟨a1, a2⟩ := D.okn_lay n d h.1
    obtain ⟨b1, b2⟩ := depth_all h.2
    rw [D.pys, PyData.depthAll, PyData.canLayAll0, a1, b2]
    exact ⟨Nat.max_le.mpr ⟨a2, b1⟩, rfl⟩
/-- the items are of one kind -/
def akin (ds : List D) : Prop := ∀ d ∈ ds, ∀ e ∈ ds, alike (D.py d) (D.py e) = true ∧ D.py d ≠ .none
theorem akin_all {ds : List D} (h : akin ds) : AlikeAll (D.pys ds) := by
  rw [D.pys_eq]
  refine ⟨fun x hx y hy => ?_, fun x hx => ?_⟩
  · obtain ⟨d, hd, rfl⟩ := List.mem_map.mp hx
    obtain ⟨e, he, rfl⟩ := List.mem_map.mp hy
    exact (h d hd e he).1
  · obtain ⟨d, hd, rfl⟩ := List.mem_map.mp hx
    exact (h d hd d hd).2
def oMinL : RLD := fun ds S Q => match ds with
  | [d] => match S.seq d with
    | some es => (es ≠ [] ∧ es.all (D.okn 8) = true ∧ akin es) ∧ ∀ m ∈ es, (∀ y ∈ es, ltD y m = false) → Q m S
    | none => False
  | _ => False
def oMaxL : RLD := fun ds S Q => match ds with
  | [d] => match S.seq d with
    | some es => (es ≠ [] ∧ es.all (D.okn 8) = true ∧ akin es) ∧ ∀ m ∈ es, (∀ y ∈ es, ltD m y = false) → Q m S
    | none => False
  | _ => False
theorem pick_of {K : PySem.W.Frag} {S : Sto} {H : Hp} {s' : Shared} {pins : List (Addr × Obj)} {σ : L2.St} {X : Cx} {es : List D} {ws : List V} {its : List Value} {m : PyData} {i : Nat} {v : Value} {h' : Heap} {bs : List Addr} (I' : Inv X pins σ H s') (eh : s'.heap = h')
    (he : es.all (D.okn 8) = true) (s1 : RDs X.K S H es ws) (rv : Vals ws its) (hv : its.toArray[i]? = some v) (hr : Reads h' v m bs) : ∃ d ∈ es, ∃ x, RelV x v ∧ RD X.K S H d x ∧ D.py d = m := by
  have hv' : its[i]? = some v := by simpa using hv
  have hl := rv.length
  have hl2 := s1.len
  have hlt : i < its.length := by
    obtain ⟨h1, _⟩ := List.getElem?_eq_some_iff.mp hv'
    exact h1
  have hx : ws[i]? = some ws[i] := List.getElem?_eq_getElem (by omega)
  obtain ⟨d, hd, rd⟩ := s1.getV hx
  obtain ⟨u, hu, ru⟩ := rv.get hx
  rw [hv'] at hu
  cases hu
  have hm : d ∈ es := List.mem_of_getElem? hd
  have ok : D.okn 8 d = true := List.all_eq_true.mp he d hm
  obtain ⟨as, r⟩ := Dp.reads I' _ _ _ (D.okn_dp 8 d _ ok rd) ru
  rw [eh] at r
  exact ⟨d, hm, _, ru, rd, PySem.SeqAt.Reads.unique _ _ _ _ _ (D.okn_lay 8 d ok).1 r hr⟩
theorem p_minL (hu : X.A.units + 64 < cLine) (hc : X.calm = true) : CallD X (.builtin "min") oMinL := by
  intro pins s σ H vs us Q I r ⟨ds, S, Qd, rr, rs, q, k⟩
  unfold oMinL at q
  split at q
  · split at q
    · rename_i es hs
      obtain ⟨⟨ne, ok, ak⟩, q⟩ := q
      obtain ⟨v, rfl, r1⟩ := rr.one
      obtain ⟨a, ws, rfl, t1, s1⟩ := seq_at hs r1 rs
      rw [Vals.ref1 r]
      obtain ⟨e0, er, rfl⟩ := List.exists_cons_of_ne_nil ne
      have hd := (depth_all ok).1
      have fin : ∀ (its : List Value) (rv : Vals ws its) (i : Nat) v h' tk bs, its.toArray[i]? = some v → Reads h' v (minD (D.py e0) (D.pys er)) bs → (∀ b o, s.heap.get? b = some o → h'.get? b = some o) → EP X pins σ Q v { s with heap := h', toks := tk } := by
        intro its rv i v h' tk bs hv hr hk
        have I' : Inv X pins σ H { s with heap := h', toks := tk } := I.kept hk
        obtain ⟨d, hm, x, rx, rd, e⟩ := pick_of (K := X.K) I' rfl ok s1 rv hv hr
        refine ⟨x, H, I', rx, k.here rs (q d hm fun y hy => ?_) rd⟩
        unfold ltD
        rw [e]
        refine (minD_least _ _).2 _ ?_
        have : D.py y ∈ D.pys (e0 :: er) := by rw [D.pys_eq]; exact List.mem_map.mpr ⟨y, hy, rfl⟩
        rw [D.pys] at this
        exact this
      rcases t1 with t1 | t1
      · obtain ⟨its, rv, pl, hz⟩ := I.list t1
        obtain ⟨as, ra⟩ := reads_of (K := X.K) (P := X.prog) (w := X.w) I ok s1 rv
        rw [D.pys] at ra
        exact min_list_data (I.ok.hd hc) pl.isList (by simpa using ra) (by have := akin_all ak; rw [D.pys] at this; exact this) (by rw [D.pys] at hd; omega) fun i v h' tk bs hv hr hk => fin its rv i v h' tk bs hv hr hk
      · obtain ⟨its, rv, pl, hz⟩ := I.tuple t1
        obtain ⟨as, ra⟩ := reads_of (K := X.K) (P := X.prog) (w := X.w) I ok s1 rv
        rw [D.pys] at ra
        exact min_tuple_data (I.ok.hd hc) (show s.heap.IsTuple a its.toArray from pl) (by simpa using ra) (by have := akin_all ak; rw [D.pys] at this; exact this) (by rw [D.pys] at hd; omega) fun i v h' tk bs hv hr hk => fin its rv i v h' tk bs hv hr hk
    · exact q.elim
  · exact q.elim
theorem p_maxL (hu : X.A.units + 64 < cLine) (hc : X.calm = true) : CallD X (.builtin "max") oMaxL := by
  intro pins s σ H vs us Q I r ⟨ds, S, Qd, rr, rs, q, k⟩
  unfold oMaxL at q
  split at q
  · split at q
    · rename_i es hs
      obtain ⟨⟨ne, ok, ak⟩, q⟩ := q
      obtain ⟨v, rfl, r1⟩ := rr.one
      obtain ⟨a, ws, rfl, t1, s1⟩ := seq_at hs r1 rs
      rw [Vals.ref1 r]
      obtain ⟨e0, er, rfl⟩ := List.exists_cons_of_ne_nil ne
      have hd := (depth_all ok).1
      have fin : ∀ (its : List Value) (rv : Vals ws its) (i : Nat) v h' tk bs, its.toArray[i]? = some v → Reads h' v (maxD (D.py e0) (D.pys er)) bs → (∀ b o, s.heap.get? b = some o → h'.get? b = some o) → EP X pins σ Q v { s with heap := h', toks := tk } := by
        intro its rv i v h' tk bs hv hr hk
        have I' : Inv X pins σ H { s with heap := h', toks := tk } := I.kept hk
        obtain ⟨d, hm, x, rx, rd, e⟩ := pick_of (K := X.K) I' rfl ok s1 rv hv hr
        refine ⟨x, H, I', rx, k.here rs (q d hm fun y hy => ?_) rd⟩
        unfold ltD
        rw [e]
        refine (maxD_most _ _).2 _ ?_
        have : D.py y ∈ D.pys (e0 :: er) := by rw [D.pys_eq]; exact List.mem_map.mpr ⟨y, hy, rfl⟩
        rw [D.pys] at this
        exact this
      rcases t1 with t1 | t1
      · obtain ⟨its, rv, pl, hz⟩ := I.list t1
        obtain ⟨as, ra⟩ := reads_of (K := X.K) (P := X.prog) (w := X.w) I ok s1 rv
        rw [D.pys] at ra
        exact max_list_data (I.ok.hd hc) pl.isList (by simpa using ra) (by have := akin_all ak; rw [D.pys] at this; exact this) (by rw [D.pys] at hd; omega) fun i v h' tk bs hv hr hk => fin its rv i v h' tk bs hv hr hk
      · obtain ⟨its, rv, pl, hz⟩ := I.tuple t1
        obtain ⟨as, ra⟩ := reads_of (K := X.K) (P := X.prog) (w := X.w) I ok s1 rv
        rw [D.pys] at ra
        exact max_tuple_data (I.ok.hd hc) (show s.heap.IsTuple a its.toArray from pl) (by simpa using ra) (by have := akin_all ak; rw [D.pys] at this; exact this) (by rw [D.pys] at hd; omega) fun i v h' tk bs hv hr hk => fin its rv i v h' tk bs hv hr hk
    · exact q.elim
  · exact q.elim
/-- min, max: of two ints, or of the items -/
def oMin : RLD := fun ds S Q => match ds with
  | [_] => oMinL ds S Q
  | _ => oMin2 ds S Q
def oMax : RLD := fun ds S Q => match ds with
  | [_] => oMaxL ds S Q
  | _ => oMax2 ds S Q
theorem p_min (hu : X.A.units + 64 < cLine) (hc : X.calm = true) : CallD X (.builtin "min") oMin := callD_W (callD_or (p_minL hu hc) (p_min2 hc)) fun ds S Q q => by
  unfold oMin at q
  split at q
  · exact .inl q
  · exact .inr q
theorem p_max (hu : X.A.units + 64 < cLine) (hc : X.calm = true) : CallD X (.builtin "max") oMax := callD_W (callD_or (p_maxL hu hc) (p_max2 hc)) fun ds S Q q => by
  unfold oMax at q
  split at q
  · exact .inl q
  · exact .inr q

/-! ### sorted -/
def leD (d e : D) : Bool := dataLe false D.py d e
def oSorted (r : Bool) : RLD := fun ds S Q => match ds with
  | [d] => match S.lsts d with
    | some es => (es.all (D.okn 8) = true ∧ akin es ∧ Sortable (es.map D.py) ∧ es.length ≤ sizeLine) ∧ newL r (es.mergeSort leD) S Q
    | none => False
  | _ => False

theorem each_rd {K : PySem.W.Frag} {S : Sto} {H : Hp} {s : Shared} {pins : List (Addr × Obj)} {σ : L2.St} {X : Cx} (I : Inv X pins σ H s) : ∀ {es : List D} {ws : List V} {us : List Value}, es.all (D.okn 8) = true → RDs X.K S H es ws → Vals ws us →
    EachIs (fun v d => ∃ x, RelV x v ∧ RD X.K S H d x) us es ∧ EachIs (fun v d => ∃ as, Reads s.heap v (D.py d) as) us es
  | [], ws, us, _, r, rv => by
    rw [RDs.nil.mp r] at rv
    cases rv
    exact ⟨.nil, .nil⟩
  | e :: es, ws, us, h, r, rv => by
    rw [List.all_cons, Bool.and_eq_true] at h
    rw [RDs] at r
    obtain ⟨w, wr, rfl, r1, r2⟩ := r
    cases rv with
    | cons a b =>
      obtain ⟨i1, i2⟩ := each_rd (K := K) I h.2 r2 b
      exact ⟨.cons ⟨_, a, r1⟩ i1, .cons (Dp.reads I _ _ _ (D.okn_dp 8 e _ h.1 r1) a) i2⟩
theorem rd_each {K : PySem.W.Frag} {S : Sto} {H : Hp} : ∀ {es : List D} {us : List Value}, EachIs (fun v d => ∃ x, RelV x v ∧ RD K S H d x) us es → ∃ ws, Vals ws us ∧ RDs K S H es ws
  | _, _, .nil => ⟨[], .nil, RDs.nil.mpr rfl⟩
  | _, _, .cons ⟨x, a, b⟩ t => by
    obtain ⟨ws, h1, h2⟩ := rd_each t
    exact ⟨x :: ws, .cons a h1, RDs.cons b h2⟩
theorem p_sorted (hu : X.A.units + 64 < cLine) {r : Bool} : CallD X (.builtin "sorted") (oSorted r) := by
  intro pins s σ H vs us Q I rr0 ⟨ds, S, Qd, rr, rs, q, k⟩
  unfold oSorted at q
  split at q
  · split at q
    · rename_i es hs
      obtain ⟨⟨ok, ak, so, hz⟩, q⟩ := q
      obtain ⟨v, rfl, r1⟩ := rr.one
      obtain ⟨a, ws, rfl, t1, s1⟩ := lsts_at hs r1 rs
      rw [Vals.ref1 rr0]
      obtain ⟨its, rv, pl, hz2⟩ := I.list t1
      obtain ⟨e1, e2⟩ := each_rd (K := X.K) I ok s1 rv
      have ak' : AllAlike (es.map D.py) := by have := (akin_all ak).1; rw [D.pys_eq] at this; exact this
      refine sorted_data (vs := its) (bs := es) (enc := D.py) (by exact pl.isList) e1 e2 ak' so hz (fun b hb => ?_) fun out hlen eo => ?_
      · have := (D.okn_lay 8 b (List.all_eq_true.mp ok b hb)).2
        omega
      · obtain ⟨ys, v1, v2⟩ := rd_each eo
        obtain ⟨ep, he'⟩ := PyProof.Rows.sortedAll_at s.heap its out.toArray
        have hl : ys.length ≤ sizeLine := by rw [v2.len, List.length_mergeSort]; exact hz
        exact ⟨.ref _, upd H (s.heap.objs.size + 1) (.lst ys), I.laid (t' := s.toks) (fun _ _ => PyProof.Rows.sortedAll_old) (Nat.le_succ _) ⟨hl, out, ep, v1, he'⟩, rfl, newL_ok rs v2 q k _ (I.hok.fresh (Nat.le_succ _))⟩
    · exact q.elim
  · exact q.elim
end
end PL
/-! isinstance, methods, membership, tuple * int, * in displays, [::-1], sum -/
namespace PL
open PySem PySem.Spec PySem.W PyProof.Rows L2

/-! ### isinstance -/
def D.tyN (S : Sto) : D → Option String
  | .non => some "NoneType"
  | .bl _ => some "bool"
  | .int _ => some "int"
  | .str _ => some "str"
  | .tup _ => some "tuple"
  | .tpx _ => some "tuple"
  | .lst _ => some "list"
  | .fz _ => some "list"
  | .ref p => match S p with
    | some (.lst _) => some "list"
    | some _ => some "dict"
    | none => none
theorem tyX_of {K : PySem.W.Frag} {S : Sto} {H : Hp} {d : D} {v : V} {n : String} (r : RD K S H d v) (rs : RS K S H) (h : d.tyN S = some n) : TyX K H v (.type n) := by
  cases d with
  | non => rw [RD] at r; subst r; cases h; exact .base .non
  | bl b => rw [RD] at r; subst r; cases h; exact .base (.bl b)
  | int b => rw [RD] at r; subst r; cases h; exact .base (.int b)
  | str b => rw [RD] at r; subst r; cases h; exact .base (.str b)
  | tup ds =>
    rw [RD] at r
    obtain ⟨a, vs, rfl, t, _⟩ := r
    cases h
    rcases t with (t | ⟨o, t⟩) | ⟨o, its, n, h1, h2, _⟩
    · exact .base (.tup t)
    · exact .fTuple t
    · exact .kTuple h1 h2
  | tpx ds =>
    rw [RD] at r
    obtain ⟨a, o, vs, rfl, t, _⟩ := r
    cases h
    exact .fTuple t
  | lst ds =>
    rw [RD] at r
    obtain ⟨a, vs, rfl, _, t, _⟩ := r
    cases h
    exact .base (.lst t)
  | fz ds =>
    rw [RD] at r
    obtain ⟨a, vs, rfl, t, _⟩ := r
    cases h
    rcases t with ⟨o, t⟩ | ⟨o, its, n, t1, t2, _⟩
    · exact .base (.frz t)
    · exact .kList t1 t2
  | ref p =>
    rw [RD] at r
    subst r
    have h' : (match S p with
      | some (.lst _) => some "list"
      | some _ => some "dict"
      | none => none) = some n := h
    split at h'
    · rename_i ds e
      cases h'
      obtain ⟨vs, h1, _⟩ := rs p _ e
      exact .base (.lst h1)
    · rename_i mo e2 e
      cases h'
      cases mo with
      | lst ds => exact absurd rfl (e2 ds)
      | dK kvs => obtain ⟨ws, h1, _⟩ := rs p _ e; exact .base (.dK h1)
      | dT kvs => obtain ⟨ws, h1, _⟩ := rs p _ e; exact .base (.dT h1)
    · cases h'
section
variable {X : Cx} {e : Expr} {δ : TED} {p p2 pos : Pos} {es : List Expr} {α : TAD}
/-- isinstance(e, T), T a built-in type's name -/
def dIsi (T : String) (δ : TED) : TED := fun ρ S Q => δ ρ S fun x S1 => match x.tyN S1 with
  | some n => ∃ b, kitB n T = some b ∧ Q (.bl b) S1
  | none => False
theorem de_isi {x : Str} (T : String) (hm : X.mg "isinstance" = none) (hm2 : X.mg x = none) (hv : bootBuiltins x = some (.type T)) (ha : DE X e δ) (hg : Gl X "isinstance" := by rfl) (hg2 : Gl X x := by rfl) (hn : x ≠ "__name__" := by decide) (hd : (x == ("__debug__" : Str)) = false := by decide)
    (hs : starEach [e, .Name x p2] X.env = (false, eval e X.env) :: starEach [.Name x p2] X.env := by rfl) (hs2 : starEach [.Name x p2] X.env = (false, eval (.Name x p2) X.env) :: starEach [] X.env := by rfl) (hpl : (backTo pos (starEach [.Name x p2] X.env)).any (·.1) = false := by rfl) :
    DE X (.Call (.Name "isinstance" p) [e, .Name x p2] [] pos) (dIsi T δ) := by
  have hb : bootBuiltins "isinstance" = some (.builtin "isinstance") := by decide +kernel
  refine peW (pe_callB call_isi hg hm hb (pa_cons ha (pa_cons (pe_bltn (v := .ty T) hg2 hm2 hv rfl hn hd) pa_nil hs2) hs) (by decide) (by decide) hs hpl) fun σ H Q ⟨ρ, S, Qd, re, rs, q, k⟩ => ?_
  refine ⟨ρ, S, _, re, rs, q, fun d S1 v H1 q1 g1 r1 => ?_⟩
  try dsimp only at q1
  split at q1
  · rename_i n hn
    obtain ⟨b, hb, q1⟩ := q1
    exact ⟨v, .ty T, _, _, b, rfl, .ty T, tyX_of r1 g1.rs hn, kit_ty hb, (k.go g1).here g1.rs q1 RD.bl⟩
  · exact q1.elim

/-! ### methods of lists -/
theorem mtM_of {id : String} {r : V → List V → Hp → VK → Prop} {o : RMD} (h : MtM X id r) (w : ∀ d ds x xs S H Qd Q, RD X.K S H d x → RDs X.K S H ds xs → RS X.K S H → o d ds S Qd → Aft X.K S H Qd Q → r x xs H Q) : MtD X id o :=
  fun pins s σ H x xs v us Q I rx rxs ⟨d, ds, S, Qd, r1, r2, rs, q, k⟩ => h pins s σ H x xs v us Q I rx rxs (w d ds x xs S H Qd Q r1 r2 rs q k)
def Sto.trk (S : Sto) : D → Option (Addr × List D)
  | .ref p => match S p with
    | some (.lst ds) => some (p, ds)
    | _ => none
  | _ => none
theorem trk_is {S : Sto} {d : D} {p : Addr} {ds : List D} (h : S.trk d = some (p, ds)) : d = .ref p ∧ S p = some (.lst ds) := by
  cases d with
  | ref q =>
    have h' : (match S q with
      | some (.lst ds) => some (q, ds)
      | _ => none) = some (p, ds) := h
    split at h'
    · rename_i es e
      cases h'
      exact ⟨rfl, e⟩
    · cases h'
  | _ => cases h
def oAppend : RMD := fun d ds S Q => match S.trk d, ds with
  | some (p, es), [x] => es.length < sizeLine ∧ Q .non (S.up p (.lst (es ++ [x])))
  | _, _ => False
theorem m_append : MtD X "list.append" oAppend := mtM_of mt_append fun d ds x xs S H Qd Q r1 r2 rs q k => by
  unfold oAppend at q
  split at q
  · rename_i y p es z ht
    obtain ⟨rfl, hs⟩ := trk_is ht
    obtain ⟨v, rfl, r3⟩ := r2.one
    obtain ⟨vs, h1, h2⟩ := rs p _ hs
    rw [RD] at r1
    have g := Go.wrote (mo' := .lst (es ++ [z])) rs hs fun S' H' tp e => ⟨_, e, (h2.tp tp).snoc (r3.tp tp)⟩
    exact ⟨p, vs, v, r1, rfl, h1, by rw [h2.len]; exact q.1, k _ _ _ _ q.2 g RD.non⟩
  · exact q.elim
def oExtend : RMD := fun d ds S Q => match S.trk d, ds with
  | some (p, es), [x] => match S.list x with
    | some zs => es.length + zs.length ≤ sizeLine ∧ Q .non (S.up p (.lst (es ++ zs)))
    | none => False
  | _, _ => False
theorem m_extend : MtD X "list.extend" oExtend := mtM_of mt_extend fun d ds x xs S H Qd Q r1 r2 rs q k => by
  unfold oExtend at q
  split at q
  · rename_i y p es z ht
    split at q
    · rename_i zs hz
      obtain ⟨rfl, hs⟩ := trk_is ht
      obtain ⟨v, rfl, r3⟩ := r2.one
      obtain ⟨vs, h1, h2⟩ := rs p _ hs
      obtain ⟨b, ws, rfl, h3, h4⟩ := list_at hz r3 rs
      rw [RD] at r1
      have g := Go.wrote (mo' := .lst (es ++ zs)) rs hs fun S' H' tp e => ⟨_, e, (h2.tp tp).append (h4.tp tp)⟩
      exact ⟨p, b, vs, ws, r1, rfl, h1, h3, by rw [h2.len, h4.len]; exact q.1, k _ _ _ _ q.2 g RD.non⟩
    · exact q.elim
  · exact q.elim
theorem RDs.dropLast {K : PySem.W.Frag} {S : Sto} {H : Hp} {ds : List D} {vs : List V} (h : RDs K S H ds vs) : RDs K S H ds.dropLast vs.dropLast := by
  rw [List.dropLast_eq_take, List.dropLast_eq_take, h.len]
  exact h.take _
def oPop : RMD := fun d ds S Q => match S.trk d, ds with
  | some (p, es), [] => ∃ y, es[es.length - 1]? = some y ∧ Q y (S.up p (.lst es.dropLast))
  | _, _ => False
theorem m_pop : MtD X "list.pop" oPop := mtM_of mt_pop fun d ds x xs S H Qd Q r1 r2 rs q k => by
  unfold oPop at q
  split at q
  · rename_i y p es ht
    obtain ⟨y, hy, q⟩ := q
    obtain ⟨rfl, hs⟩ := trk_is ht
    obtain ⟨vs, h1, h2⟩ := rs p _ hs
    obtain ⟨v, e1, e2⟩ := h2.get hy
    rw [RD] at r1
    have g := Go.wrote (mo' := .lst es.dropLast) rs hs fun S' H' tp e => ⟨_, e, (h2.tp tp).dropLast⟩
    exact ⟨p, vs, v, r1, RDs.nil.mp r2, h1, by rw [h2.len]; exact e1, k _ _ _ _ q g (e2.tp g.tp)⟩
  · exact q.elim
def oPopAt : RMD := fun d ds S Q => match S.trk d, ds with
  | some (p, es), [.int i] => es.length ≤ sizeLine ∧ ∃ j y, ixN es.length i = some j ∧ es[j]? = some y ∧ Q y (S.up p (.lst (es.eraseIdx j)))
  | _, _ => False
theorem m_popAt : MtD X "list.pop" oPopAt := mtM_of mt_popAt fun d ds x xs S H Qd Q r1 r2 rs q k => by
  unfold oPopAt at q
  split at q
  · rename_i y p es i ht
    obtain ⟨hz, j, y, hj, hy, q⟩ := q
    have hsl := sizeLine_eq
    obtain ⟨rfl, hs⟩ := trk_is ht
    obtain ⟨vs, h1, h2⟩ := rs p _ hs
    obtain ⟨v, e1, e2⟩ := h2.get hy
    obtain ⟨w, rfl, r3⟩ := r2.one
    rw [RD] at r1 
    rw [RD] at r3
    subst r3
    have g := Go.wrote (mo' := .lst (es.eraseIdx j)) rs hs fun S' H' tp e => ⟨_, e, (h2.tp tp).erase j⟩
    obtain ⟨a1, a2, a3, a4⟩ := ixN_seq hj
    obtain ⟨b1, _⟩ := List.getElem?_eq_some_iff.mp e1
    refine ⟨p, vs, i, j, v, r1, rfl, h1, ?_, ?_, by rw [h2.len]; exact a1, e1, k _ _ _ _ q g (e2.tp g.tp)⟩
    · omega
    · omega
  · exact q.elim

/-! ### x in t, x not in t: data -/
def oIn (neg : Bool) : R2D := fun d e S Q => match S.seq e with
  | some es => (D.okn 8 d = true ∧ es.all (D.okn 8) = true) ∧ Q (.bl (if neg then !(es.any fun z => eqD z d) else es.any fun z => eqD z d)) S
  | none => False
theorem any_pys (d : D) : ∀ es : List D, (D.pys es).any (fun y => PyData.eqv y (D.py d)) = es.any fun z => eqD z d
  | [] => by rw [D.pys]; rfl
  | e :: es => by rw [D.pys, List.any_cons, List.any_cons, any_pys d es]; rfl
theorem in_go {S : Sto} {H : Hp} {s : Shared} {pins : List (Addr × Obj)} {σ : L2.St} {d : D} {es : List D} {a : Addr} {ws : List V} {x : V} {v : Value} {Q : Value → Shared → Prop} (neg : Bool) (hu : X.A.units + 64 < cLine) (I : Inv X pins σ H s) (h1 : D.okn 8 d = true) (h2 : es.all (D.okn 8) = true)
    (rx : RelV x v) (r1 : RD X.K S H d x) (t : SqL X.K H a ws ∨ SqT X.K H a ws) (s1 : RDs X.K S H es ws) (hq : Q (.bool (if neg then !(es.any fun z => eqD z d) else es.any fun z => eqD z d)) s) :
    wpAny (model X.prog X.w) X.A (compareOp (if neg then .NotIn else .In) v (.ref a)) Q X.xe s := by
  obtain ⟨as, ra⟩ := Dp.reads I _ _ _ (D.okn_dp 8 d _ h1 r1) rx
  obtain ⟨c1, c2⟩ := D.okn_lay 8 d h1
  obtain ⟨b1, b2⟩ := depth_all h2
  have hm : X.A.units + 1 + min (PyData.depthAll (D.pys es)) (D.py d).depth < cLine := by
    have := Nat.min_le_left (PyData.depthAll (D.pys es)) (D.py d).depth
    omega
  rcases t with t | t
  · obtain ⟨its, rv, pl, hz⟩ := I.list t
    obtain ⟨bs, rb⟩ := reads_of (K := X.K) (P := X.prog) (w := X.w) I h2 s1 rv
    cases neg with
    | true =>
      rw [if_pos rfl] at hq ⊢
      refine PySem.SeqAt.notIn_listAt _ pl.isList (PySem.SeqAt.items_eqAt (show ReadsAll s.heap its.toArray.toList _ _ by simpa using rb) ra b2 c1 hm) ?_
      rw [PySem.SeqAt.any_by_data (show ReadsAll s.heap its.toArray.toList _ _ by simpa using rb) b2, any_pys]
      exact hq
    | false =>
      rw [if_neg Bool.false_ne_true] at hq ⊢
      refine PySem.SeqAt.in_listAt _ pl.isList (PySem.SeqAt.items_eqAt (show ReadsAll s.heap its.toArray.toList _ _ by simpa using rb) ra b2 c1 hm) ?_
      rw [PySem.SeqAt.any_by_data (show ReadsAll s.heap its.toArray.toList _ _ by simpa using rb) b2, any_pys]
      exact hq
  · obtain ⟨its, rv, pl, hz⟩ := I.tuple t
    obtain ⟨bs, rb⟩ := reads_of (K := X.K) (P := X.prog) (w := X.w) I h2 s1 rv
    cases neg with
    | true =>
      rw [if_pos rfl] at hq ⊢
      refine PySem.SeqAt.notIn_tupleAt _ (show s.heap.IsTuple a its.toArray from pl) (PySem.SeqAt.items_eqAt (show ReadsAll s.heap its.toArray.toList _ _ by simpa using rb) ra b2 c1 hm) ?_
      rw [PySem.SeqAt.any_by_data (show ReadsAll s.heap its.toArray.toList _ _ by simpa using rb) b2, any_pys]
      exact hq
    | false =>
      rw [if_neg Bool.false_ne_true] at hq ⊢
      refine PySem.SeqAt.in_tupleAt _ (show s.heap.IsTuple a its.toArray from pl) (PySem.SeqAt.items_eqAt (show ReadsAll s.heap its.toArray.toList _ _ by simpa using rb) ra b2 c1 hm) ?_
      rw [PySem.SeqAt.any_by_data (show ReadsAll s.heap its.toArray.toList _ _ by simpa using rb) b2, any_pys]
      exact hq
theorem p_in (hu : X.A.units + 64 < cLine) : OpD X (compareOp .In) (oIn false) := by
  intro pins s σ H x y v u Q I rx ry ⟨d, e, S, Qd, r1, r2, rs, q, k⟩
  unfold oIn at q
  split at q
  · rename_i es hs
    obtain ⟨a, ws, rfl, t1, s1⟩ := seq_at hs r2 rs
    cases ry
    exact in_go false hu I q.1.1 q.1.2 rx r1 t1 s1 ⟨.bl _, H, I, rfl, k.here rs q.2 RD.bl⟩
  · exact q.elim
theorem p_notIn (hu : X.A.units + 64 < cLine) : OpD X (compareOp .NotIn) (oIn true) := by
  intro pins s σ H x y v u Q I rx ry ⟨d, e, S, Qd, r1, r2, rs, q, k⟩
  unfold oIn at q
  split at q
  · rename_i es hs
    obtain ⟨a, ws, rfl, t1, s1⟩ := seq_at hs r2 rs
    cases ry
    exact in_go true hu I q.1.1 q.1.2 rx r1 t1 s1 ⟨.bl _, H, I, rfl, k.here rs q.2 RD.bl⟩
  · exact q.elim

/-! ### * in displays and calls -/
theorem da_star (he : DE X e δ) (hr : DA X es α) (hs : starEach (.Starred e p :: es) X.env = (true, eval e X.env) :: starEach es X.env := by rfl) : DA X (.Starred e p :: es) (dStar δ α) := paW (StX.pa_star he hr hs) fun σ H Q ⟨ρ, S, Qd, re, rs, q, k⟩ => by
  refine ⟨ρ, S, _, re, rs, q, fun x S1 v H1 q1 g1 r1 => ?_⟩
  obtain ⟨ds, hds, q1⟩ := q1
  obtain ⟨a, vs, e1, e2, e3⟩ := seq_at hds r1 g1.rs
  exact ⟨a, vs, e1, e2.symm, ρ, S1, _, re.tp g1.tp, g1.rs, q1, fun xs S2 ws H2 q2 g2 r2 => k _ _ _ _ q2 (g1.trans g2) ((e3.tp g2.tp).append r2)⟩

/-! ### t[::-1] -/
def dRev (r : Bool) (δ : TED) : TED := fun ρ S Q => δ ρ S fun x S1 => match x with
  | .tup ds => Q (.tup ds.reverse) S1
  | .tpx ds => Q (.tup ds.reverse) S1
  | x => match S1.lsts x with
    | some ds => newL r ds.reverse S1 Q
    | none => False
theorem adjust_rev (n : Nat) : Builtin.Slice.sliceAdjust none none (-1) (n : Int) = ((n : Int) - 1, -1) := by
  unfold Builtin.Slice.sliceAdjust
  rfl
theorem places_rev (n : Nat) : Builtin.Slice.slicePlaces ((n : Int) - 1) (-1) (-1) = n := by
  unfold Builtin.Slice.slicePlaces
  rw [if_neg (by decide)]
  split
  · have : (((n : Int) - 1 - -1 - 1) / (- -1) + 1) = n := by
      rw [show (- -1 : Int) = 1 by decide, Int.ediv_one]; omega
    rw [this]; rfl
  · omega
end
section
variable {prog : Program} {w : World} {A : Around} {E : Value → Shared → Prop} {s : Shared}
theorem sliceApplied_rev {sl : Addr} {vs : Value} {n : Nat} {Q : Int × Int × Nat → Shared → Prop} (hs : s.heap.IsSliceOf sl .none .none vs) (ps : IsPart vs (some (-1)))
    (h : Q ((n : Int) - 1, -1, n) s) : wpAny (model prog w) A (Builtin.Slice.sliceApplied (.ref sl) (pure (n : Int))) Q E s := by
  obtain ⟨os, hos, hcs, hds⟩ := id hs
  unfold Builtin.Slice.sliceApplied Builtin.Slice.sliceFields
  refine wpAny_bind (wpAny_bind (wpAny_field hos hds (x := .none) rfl (wpAny_bind (wpAny_field hos hds (x := .none) rfl (wpAny_bind (wpAny_field hos hds (x := vs) rfl (wpAny_pure ?_)))))))
  refine wpAny_bind (HT.slicePart_ ps ?_)
  show wpAny _ _ (if ((-1 : Int) == 0) = true then _ else _) _ _ s
  rw [if_neg (by decide)]
  refine wpAny_bind (HT.slicePart_ .none (wpAny_bind (HT.slicePart_ .none (wpAny_bind (wpAny_pure ?_)))))
  show wpAny _ _ (match Builtin.Slice.sliceAdjust none none (-1) (n : Int) with | (lo, hi) => pure (lo, (-1 : Int), Builtin.Slice.slicePlaces lo hi (-1))) _ _ s
  rw [adjust_rev n]
  show wpAny _ _ (pure ((n : Int) - 1, (-1 : Int), Builtin.Slice.slicePlaces ((n : Int) - 1) (-1) (-1))) _ _ s
  rw [places_rev]
  exact wpAny_pure h
theorem range_all : ∀ l : List Value, (List.range l.length).filterMap (fun i => l[i]?) = l
  | [] => rfl
  | x :: l => by
    rw [List.length_cons, List.range_succ_eq_map, List.filterMap_cons]
    show x :: _ = _
    rw [List.filterMap_map]
    exact congrArg (x :: ·) (range_all l)
theorem pick_rev (xs : Array Value) : ((List.range xs.size).filterMap fun (m : Nat) => xs[((xs.size : Int) - 1 + (m : Int) * -1).toNat]?).toArray = xs.toList.reverse.toArray := by
  congr 1
  have e : (fun (m : Nat) => xs[((xs.size : Int) - 1 + (m : Int) * -1).toNat]?) = fun m => xs[(xs.size - 1 - m)]? := by
    funext m
    congr 1
    omega
  rw [e]
  have e2 : (fun m => xs[(xs.size - 1 - m)]?) = (fun i => xs[i]?) ∘ fun k => xs.size - 1 - k := rfl
  rw [e2, ← List.filterMap_map, krv_range, List.filterMap_reverse]
  congr 1
  have h := range_all xs.toList
  rw [Array.length_toList] at h
  have e3 : (fun i : Nat => xs[i]?) = fun i => xs.toList[i]? := by funext i; rw [Array.getElem?_toList]
  rw [e3]
  exact h
theorem getItem_tuple_rev {t sl : Addr} {items : Array Value} {vs : Value} {Q : Value → Shared → Prop} (ht : IsTup s.heap t items) (hs : s.heap.IsSliceOf sl .none .none vs) (ps : IsPart vs (some (-1)))
    (h : Q (.ref s.heap.objs.size) { s with heap := s.heap.push { cls := .type "tuple", data := .seq items.toList.reverse.toArray } })
    (hsz : items.size ≤ sizeLine) : wpAny (model prog w) A (getItem (.ref t) (.ref sl)) Q E s := by
  have htake : sizeOk (.seq items.toList.reverse.toArray) := by
    show items.toList.reverse.toArray.size ≤ sizeLine
    rw [List.size_toArray, List.length_reverse, Array.length_toList]
    exact hsz
  obtain ⟨os, hos, hcs, hds⟩ := id hs
  have hTs : s.TypeIs (.ref sl) "slice" := ⟨os, hos, hcs⟩
  unfold getItem
  try with_reducible refine wpAny_holding ?_
  first | refine wpAny_bind (wpAny_pure ?_) | skip
  refine wpAny_bind (wpAny_sequenceKey ht.typeIs (by decide) ?_)
  refine wpAny_bind (wpAny_callSpecial?_slot (name := Str.ofString "__getitem__") ht.typeIs PyProof.Rows.slot_tuple_getitem
    (wpAny_call_entry PyProof.Rows.slot_tuple_getitem ht.typeIs PyProof.Rows.entry_tuple_getitem ?_ (PyProof.Rows.args_tuple_getitem _ _)))
  show wpAny _ _ (Builtin.Tuple.tupleItemsOf (.ref t) >>= _) _ _ s
  refine wpAny_bind (tupleItemsOf_ ht ?_)
  refine wpAny_bind (wpAny_typeOf hTs ?_)
  rw [if_pos (by decide)]
  refine wpAny_bind (sliceApplied_rev hs ps ?_)
  have hno : ¬ (((items.size : Int) - 1 == 0 && (-1 : Int) == 1 && items.size == items.size) = true) := by
    intro q
    rw [Bool.and_eq_true, Bool.and_eq_true] at q
    exact absurd q.1.2 (by decide)
  show wpAny _ _ (if ((items.size : Int) - 1 == 0 && (-1 : Int) == 1 && items.size == items.size) = true then _ else _) _ _ s
  rw [if_neg hno, pick_rev]
  first
    | exact wpAny_bind (m := Builtin.Tuple.tupleExact _) (wpAny_newObj_type (wpAny_pure ⟨_, rfl, wpAny_pure h⟩) htake)
    | exact wpAny_bind (m := Builtin.Tuple.tupleExact _) (wpAny_newObj_type (wpAny_bind (wpAny_pure (wpAny_pure ⟨_, rfl, wpAny_pure h⟩))) htake)
    | exact wpAny_bind (wpAny_bind (m := Builtin.Tuple.tupleExact _) (wpAny_newObj_type (wpAny_pure (wpAny_pure ⟨_, rfl, wpAny_pure h⟩)) htake))
    | exact wpAny_bind (wpAny_bind (m := Builtin.Tuple.tupleExact _) (wpAny_newObj_type (wpAny_pure ⟨_, rfl, wpAny_pure h⟩) htake))
end

section
variable {X : Cx} {e : Expr} {δ : TED} {p p2 pos : Pos} {es : List Expr} {α : TAD}
theorem de_rev {r : Bool} {k : Nat} {p1 p2 p3 : Pos} (he : DE X e δ) : DE X (.Subscript e (.Slice none none (some (.UnaryOp .USub (.Constant (.int 1) k p1) p2)) p3) pos) (dRev r δ) := by
  refine peW (t := fun σ H Q => LE X.K δ σ H fun x H1 => ∃ a xs, x = .ref a ∧ ((SqL X.K H1 a xs ∧ ∀ p, H1 p = none → Q (.ref p) (upd H1 p (.lst xs.reverse))) ∨ (SqT X.K H1 a xs ∧ ∀ p, H1 p = none → Q (.ref p) (upd H1 p (.tup xs.reverse))))) ⟨fun pins s σ H Q I h => ?_⟩ fun σ H Q ⟨ρ, S, Qd, re, rs, q, k⟩ => ?_
  · refine Subscript_ (thn (he.run pins s σ H _ I h) fun v s1 ⟨x, H1, I1, r1, q1⟩ => ?_)
    obtain ⟨a, xs, ex, q⟩ := q1
    subst ex
    cases r1
    have hst : PO X (some (.UnaryOp .USub (.Constant (.int 1) k p1) p2)) (tPart (tUn (rU fun i => .int (-i)) (tC (.int 1)))) := po_some (pe_un un_neg pe_int)
    refine wpAny_Slice (thn (po_none.run pins s1 σ H1 (fun o H2 => o = none ∧ H2 = H1) I1 ⟨rfl, rfl⟩) fun vl s2 ⟨l, H2, I2, pl, el, e2⟩ => ?_)
    subst el e2
    refine thn (po_none.run pins s2 σ H2 (fun o H3 => o = none ∧ H3 = H2) I2 ⟨rfl, rfl⟩) fun vu s3 ⟨u, H3, I3, pu, eu, e3⟩ => ?_
    subst eu e3
    refine thn (hst.run pins s3 σ H3 (fun o H4 => o = some (-1) ∧ H4 = H3) I3 ⟨1, rfl, -1, rfl, rfl, rfl⟩) fun vs s4 ⟨o, H4, I4, ps, eo, e4⟩ => ?_
    subst eo e4
    have I5 : Inv X pins σ H4 { s4 with heap := s4.heap.push { cls := .type "slice", data := .fields #[vl, vu, vs] } } := I4.kept (t' := s4.toks) fun b ob q => Heap.get?_push_of_some _ q
    show wpAny (model X.prog X.w) X.A (subscriptTail e (.Slice none none (some (.UnaryOp .USub (.Constant (.int 1) k p1) p2)) p3) (.ref a) (.ref s4.heap.objs.size)) (EP X pins σ Q) X.xe { s4 with heap := s4.heap.push { cls := .type "slice", data := .fields #[vl, vu, vs] } }
    rcases q with ⟨hx, q⟩ | ⟨hx, q⟩
    · obtain ⟨its, r, ht, hz⟩ := I5.list hx
      have hlen := r.length
      refine tail_any (ops := [.ref a, .ref s4.heap.objs.size]) ht.isList.typeIs (PySem.slot_list_getitem.lookup) ?_ (by with_unfolding_all rfl)
      refine wpAny_getItem_list_slice ht.isList (Heap.IsSliceOf.new _ vl vu vs) pl pu ps (by decide) ?_ (by rw [List.size_toArray]; omega)
      rw [PySem.W.krv_pick]
      refine ⟨.ref _, _, I5.laid (t' := s4.toks) (o := .lst xs.reverse) (fun b ob q => Heap.get?_push_of_some _ q) (Nat.le_refl _) ?_, rfl, q _ (I5.hok.fresh (Nat.le_refl _))⟩
      exact ⟨by rw [List.length_reverse]; exact hz, _, 0, r.reverse, Heap.get?_push_size _ rfl⟩
    · obtain ⟨its, r, ht, hz⟩ := I5.tuple hx
      have hlen := r.length
      cases pl
      cases pu
      refine tail_any (ops := [.ref a, .ref s4.heap.objs.size]) ht.typeIs (PyProof.Rows.slot_tuple_getitem.lookup) ?_ (by with_unfolding_all rfl)
      refine getItem_tuple_rev ht (Heap.IsSliceOf.new _ .none .none vs) ps ?_ (by rw [List.size_toArray]; omega)
      refine ⟨.ref _, _, I5.laid (t' := s4.toks) (o := .tup xs.reverse) (fun b ob q => Heap.get?_push_of_some _ q) (Nat.le_refl _) ?_, rfl, q _ (I5.hok.fresh (Nat.le_refl _))⟩
      exact ⟨by rw [List.length_reverse]; exact hz, _, r.reverse, IsTup.new _ _⟩
  · refine ⟨ρ, S, _, re, rs, q, fun x S1 v H1 q1 g1 r1 => ?_⟩
    try dsimp only at q1
    split at q1
    · rw [RD] at r1
      obtain ⟨a, vs, rfl, t1, s1⟩ := r1
      exact ⟨a, vs, rfl, .inr ⟨t1, fun p hp => newT_ok g1.rs s1.reverse q1 (k.go g1) p hp⟩⟩
    · rw [RD] at r1
      obtain ⟨a, o, vs, rfl, t1, _, s1⟩ := r1
      exact ⟨a, vs, rfl, .inr ⟨.inl (.inr ⟨o, t1⟩), fun p hp => newT_ok g1.rs s1.reverse q1 (k.go g1) p hp⟩⟩
    · split at q1
      · rename_i ds hs
        obtain ⟨a, vs, rfl, t1, s1⟩ := lsts_at hs r1 g1.rs
        exact ⟨a, vs, rfl, .inl ⟨t1, fun p hp => newL_ok g1.rs s1.reverse q1 (k.go g1) p hp⟩⟩
      · exact q1.elim

/-! ### sum -/
theorem preSum_take (ns : List Int) : ∀ i, i ≤ ns.length → preSum (fun i => ns.getD i 0) i = (ns.take i).sum
  | 0, _ => rfl
  | i + 1, h => by
    have hlt : i < ns.length := h
    rw [preSum, preSum_take ns i (by omega), List.take_succ, List.getElem?_eq_getElem hlt, List.sum_append]
    have e : ns.getD i 0 = ns[i] := by rw [List.getD_eq_getElem?_getD, List.getElem?_eq_getElem hlt]; rfl
    show _ + ns.getD i 0 = _ + ([ns[i]] : List Int).sum
    rw [e, List.sum_singleton]
theorem sum_go {its : List Value} {ns : List Int} (h : IntsAre its ns) : ∀ (i : Nat) (v : Value), its.toArray[i]? = some v → ∃ t, v = .int (ns.getD i 0) t := by
  induction h with
  | nil => intro i v hv; simp at hv
  | cons n k r ih =>
    intro i v hv
    cases i with
    | zero => 
      have e : Value.int n k = v := by simpa using hv
      exact ⟨k, e.symm⟩
    | succ i =>
      obtain ⟨t, e⟩ := ih i v (by simpa using hv)
      exact ⟨t, e⟩
theorem p_sum (hc : X.calm = true) : CallD X (.builtin "sum") oSum := by
  intro pins s σ H vs us Q I r ⟨ds, S, Qd, rr, rs, q, k⟩
  unfold oSum at q
  split at q
  · obtain ⟨ns, hs, q⟩ := q
    obtain ⟨v, rfl, r1⟩ := rr.one
    obtain ⟨a, ws, rfl, t1, s1⟩ := seq_at hs r1 rs
    rw [Vals.ref1 r]
    have e := rds_ints s1
    subst e
    have fin : ∀ (its : List Value), Vals (ns.map V.int) its → ∀ (h' : Heap) tk t', (∀ b o, s.heap.get? b = some o → h'.get? b = some o) → EP X pins σ Q (.int (preSum (fun i => ns.getD i 0) its.toArray.size) t') { s with heap := h', toks := tk } := by
      intro its rv h' tk t' hk
      have hl : its.toArray.size = ns.length := by rw [List.size_toArray, ← rv.length, List.length_map]
      rw [hl, preSum_take ns ns.length (Nat.le_refl _), List.take_length]
      exact ⟨.int ns.sum, H, I.kept hk, ⟨_, rfl⟩, k.here rs q RD.int⟩
    rcases t1 with t1 | t1
    · obtain ⟨its, rv, pl, hz⟩ := I.list t1
      refine call_sum_walkAnyS (iter_listW (A := X.A.in1) (I.ok.hd hc) pl.isList fun s₂ e W st hfp hw hk => ?_)
      refine ⟨_, _, _, _, _, _, _, fun i => ns.getD i 0, rfl, W, st, hfp, sum_go rv.ints, fun s' t' m => ?_⟩
      obtain ⟨h', tk, rfl, hk'⟩ := moved_old e rfl m
      exact fin its rv h' tk t' hk'
    · obtain ⟨its, rv, pl, hz⟩ := I.tuple t1
      refine call_sum_walkAnyS (iter_tupleW (A := X.A.in1) (I.ok.hd hc) (show s.heap.IsTuple a its.toArray from pl) fun s₂ e W st hfp hw hk => ?_)
      refine ⟨_, _, _, _, _, _, _, fun i => ns.getD i 0, rfl, W, st, hfp, sum_go rv.ints, fun s' t' m => ?_⟩
      obtain ⟨h', tk, rfl, hk'⟩ := moved_old e rfl m
      exact fin its rv h' tk t' hk'
  · exact q.elim

/-! ### tuple * 0, tuple * 1 -/
end
section
theorem tuple_mul1 (l : Addr) (items : Array Value) (n : Nat) (dd : Option Addr) (sl : Array (Option Value)) (u : Tok) :
    Meets (Builtin.«tuple.__mul__» ⟨[.ref l, .int 1 u], []⟩) (fun _ R s => s.heap.get? l = some { cls := .type "tuple", dict := dd, data := .seq items n, slots := sl } ∧ R (.ok (.ret (Value.ref l))) s) :=
  .of_wp fun prog w A R s h => by
    obtain ⟨hp, g, d, tk, os⟩ := s
    obtain ⟨hl, h⟩ := h
    have f1 := AutoSeq1.idx_int
    wp_walk using wpAny_loadPart' hl
    exact ⟨_, rfl, h⟩
theorem tuple_mul0 (l : Addr) (items : Array Value) (n : Nat) (dd : Option Addr) (sl : Array (Option Value)) (u : Tok) (c1 : items.isEmpty = false) :
    Meets (Builtin.«tuple.__mul__» ⟨[.ref l, .int 0 u], []⟩) (fun _ R s => s.heap.get? l = some { cls := .type "tuple", dict := dd, data := .seq items n, slots := sl } ∧
      R (.ok (.ret (Value.ref s.heap.objs.size))) { s with heap := s.heap.push { cls := Value.type "tuple", data := Data.seq #[] }, toks := s.toks }) :=
  .of_wp fun prog w A R s h => by
    obtain ⟨hp, g, d, tk, os⟩ := s
    obtain ⟨hl, h⟩ := h
    have f1 := AutoSeq1.idx_int
    have c2 : (items.isEmpty || (0 : Int) == 1) = false := by rw [c1]; rfl
    wp_walk using wpAny_loadPart' hl
    repeat (first
      | (refine wpAny_ite_false (decide_eq_false (by rw [c2]; exact Bool.false_ne_true)) ?_; wp_walk using wpAny_loadPart' hl)
      | (rw [c1]; wp_walk using wpAny_loadPart' hl))
    exact ⟨_, rfl, h⟩
section
variable {X : Cx}
def rRepS (K : PySem.W.Frag) : R2 := fun x y H Q => ∃ l xs, x = .ref l ∧ SqT K H l xs ∧ ((y = .int 1 ∧ Q (.ref l) H) ∨ (y = .int 0 ∧ xs ≠ [] ∧ ∀ p, H p = none → Q (.ref p) (upd H p (.tup []))))
theorem op_repS : OpR X (binaryOp .Mult) (rRepS X.K) := by
  intro pins s σ H x y v u Q I rx ry h
  obtain ⟨l, xs, rfl, hT, h⟩ := h
  cases rx
  obtain ⟨its, r, ⟨⟨cls, dd, data, sl⟩, ho, hc, n, hd⟩, hs⟩ := I.tuple hT
  simp only at hc hd
  subst hc hd
  rcases h with ⟨rfl, q⟩ | ⟨rfl, hne, q⟩
  · obtain ⟨t, rfl⟩ := ry
    refine wpAny_binaryOp_repeat_ref (T := "tuple") (U := "int") (by decide) ⟨_, ho, rfl⟩ (fun s' => typeIs_int s' 1 t) noFill_tuple_mul F.fills_int_mul F.slot_int_rmul repeat_tuple F.slot_int_index.lookup
      (call_meets F.slot_int_rmul (typeIs_int s 1 t) F.entry_int_rmul (F.args_int_rmul_2 _ _) (int_rmul_tuple 1 t l its.toArray n dd sl)
        ⟨ho, rfl, ⟨_, ho, rfl⟩, call_meets F.slot_tuple_mul ⟨_, ho, rfl⟩ F.entry_tuple_mul (F.args_tuple_mul_2 _ _) (tuple_mul1 l its.toArray n dd sl t) ⟨ho, ?_⟩⟩)
    exact ⟨.ref l, H, I, rfl, q⟩
  · obtain ⟨t, rfl⟩ := ry
    have hi : its.toArray.isEmpty = false := by
      cases its with
      | nil => cases r; exact absurd rfl hne
      | cons a b => rfl
    refine wpAny_binaryOp_repeat_ref (T := "tuple") (U := "int") (by decide) ⟨_, ho, rfl⟩ (fun s' => typeIs_int s' 0 t) noFill_tuple_mul F.fills_int_mul F.slot_int_rmul repeat_tuple F.slot_int_index.lookup
      (call_meets F.slot_int_rmul (typeIs_int s 0 t) F.entry_int_rmul (F.args_int_rmul_2 _ _) (int_rmul_tuple 0 t l its.toArray n dd sl)
        ⟨ho, rfl, ⟨_, ho, rfl⟩, call_meets F.slot_tuple_mul ⟨_, ho, rfl⟩ F.entry_tuple_mul (F.args_tuple_mul_2 _ _) (tuple_mul0 l its.toArray n dd sl t hi) ⟨ho, ?_⟩⟩)
    refine ⟨.ref s.heap.objs.size, _, I.laid (t' := s.toks) (o := .tup []) (fun b ob q => Heap.get?_push_of_some _ q) (Nat.le_refl _) ?_, rfl, q _ (I.hok.fresh (Nat.le_refl _))⟩
    exact ⟨Nat.zero_le _, [], .nil, IsTup.new _ _⟩
/-- tuple * int, any count; ints; lists -/
def oMulA (r : Bool) : R2D := fun d e S Q => match e with
  | .int k => match d with
    | .int i => CMul' i k ∧ Q (.int (i * k)) S
    | .tup a => (a ≠ [] ∧ 0 ≤ k ∧ k ≤ 1000 ∧ a.length ≤ 1000) ∧ Q (.tup (List.replicate k.toNat a).flatten) S
    | d => match S.list d with
      | some a => (0 ≤ k ∧ k < 2 ^ 62 ∧ a.length * k.toNat ≤ sizeLine) ∧ newL r (List.replicate k.toNat a).flatten S Q
      | none => False
  | _ => False
theorem p_mulA {r : Bool} : OpD X (binaryOp .Mult) (oMulA r) := by
  have small : OpD X (binaryOp .Mult) (fun d e S Q => ∃ a, d = .tup a ∧ a ≠ [] ∧ ((e = .int 0 ∧ Q (.tup []) S) ∨ (e = .int 1 ∧ Q (.tup a) S))) := opD_of op_repS fun d e x y S H Qd Q r1 r2 rs q k => by
    obtain ⟨a, rfl, hne, q⟩ := q
    rw [RD] at r1
    have r1' := r1
    obtain ⟨b, vs, rfl, t1, s1⟩ := r1
    refine ⟨b, vs, rfl, t1, ?_⟩
    rcases q with ⟨rfl, q⟩ | ⟨rfl, q⟩
    · rw [RD] at r2
      exact .inr ⟨r2, fun z => hne ((vals_nil_iff s1).mp z), fun p hp => newT_ok rs (RDs.nil.mpr rfl) q k p hp⟩
    · rw [RD] at r2
      exact .inl ⟨r2, k.here rs q (by rw [RD]; exact ⟨b, vs, rfl, t1, s1⟩)⟩
  refine opD_W (opD_or (p_mul (r := r)) small) fun d e S Q q => ?_
  cases e with
  | int kk =>
    cases d with
    | tup a =>
      obtain ⟨⟨c0, c1, c2, c3⟩, q⟩ := q
      by_cases h0 : kk = 0
      · subst h0
        exact .inr ⟨a, rfl, c0, .inl ⟨rfl, q⟩⟩
      · by_cases h1 : kk = 1
        · subst h1
          have e : (List.replicate (Int.toNat 1) a).flatten = a := by simp
          rw [e] at q
          exact .inr ⟨a, rfl, c0, .inr ⟨rfl, q⟩⟩
        · exact .inl ⟨⟨c0, by omega, c2, c3⟩, q⟩
    | _ => exact .inl q
  | _ => exact q.elim
end
end
end PL
/-! plain reasoning over the readings -/
namespace PL
open PySem PySem.Spec PySem.W PyProof.Rows L2

def Ext (S S' : Sto) : Prop := ∀ p o, S p = some o → S' p = some o
theorem Ext.refl {S : Sto} : Ext S S := fun _ _ h => h
theorem Ext.trans {S S1 S2 : Sto} (a : Ext S S1) (b : Ext S1 S2) : Ext S S2 := fun p o h => b p o (a p o h)
theorem Ext.up {S : Sto} {p : Addr} {o : MO} (h : S p = none) : Ext S (S.up p o) := fun q u e => by rw [Sto.up_ne (fun z => by subst z; rw [h] at e; cases e)]; exact e

/-! ### loops -/
theorem loopD_inv {ok : Sto → Prop} {f : D → TSD} {De : EndsD} (I : List D → DEnv → Sto → Prop)
    (step : ∀ x xs ρ S, I (x :: xs) ρ S → ok S → ∀ N : DEnv → Sto → Prop, (∀ ρ' S', ok S' → I xs ρ' S' → N ρ' S') → f x { nx := N, ct := N, bk := De.nx, rt := De.rt } ρ S)
    (fin : ∀ ρ S, I [] ρ S → De.nx ρ S) : ∀ (xs : List D) (ρ : DEnv) (S : Sto), I xs ρ S → ok S → loopD ok f xs De ρ S
  | [], ρ, S, h, _ => fin ρ S h
  | x :: xs, ρ, S, h, o => step x xs ρ S h o _ fun ρ' S' o' h' => ⟨o', loopD_inv I step fin xs ρ' S' h' o'⟩

theorem lcD_inv {Dl : Addr} {ok : Sto → Prop} {ρ : DEnv} {γ : TGD} {t : TTD} {el : TED} (I : List D → List D → Sto → Prop)
    (step : ∀ x xs acc S, I (x :: xs) acc S → S Dl = some (.lst acc) → ok S → ∀ N : List D → Sto → Prop, (∀ acc' S', S' Dl = some (.lst acc') → ok S' → I xs acc' S' → N acc' S') →
      γ x ρ S fun ρ' S1 => t ρ' S1 fun b S2 => match b with
        | true => el ρ' S2 fun y S3 => S3 Dl = some (.lst acc) ∧ acc.length < sizeLine ∧ ok (S3.up Dl (.lst (acc ++ [y]))) ∧ N (acc ++ [y]) (S3.up Dl (.lst (acc ++ [y])))
        | false => S2 Dl = some (.lst acc) ∧ ok S2 ∧ N acc S2) {Q : List D → Sto → Prop} (fin : ∀ acc S, I [] acc S → S Dl = some (.lst acc) → Q acc S) :
    ∀ (xs acc : List D) (S : Sto), I xs acc S → S Dl = some (.lst acc) → ok S → lcD Dl ok ρ γ t el xs acc S Q
  | [], acc, S, h, d, _ => fin acc S h d
  | x :: xs, acc, S, h, d, o => step x xs acc S h d o (fun acc S => lcD Dl ok ρ γ t el xs acc S Q) fun acc' S' d' o' h' => lcD_inv I step fin xs acc' S' h' d' o'

theorem newL_of {r : Bool} {ds : List D} {S : Sto} {Q : QD} {Dl : Addr} (h : newL r ds S Q) (hD : S Dl = none) : endL r Dl Q ds (S.up Dl (.lst ds)) := by
  cases r with
  | true => exact h Dl hD
  | false =>
    show Q (.lst ds) ((S.up Dl (.lst ds)).del Dl)
    rw [Sto.del_up hD]
    exact h
/-- a comprehension that changes nothing -/
theorem lc_map {r : Bool} {ρ0 : DEnv} {γ : TGD} {t : TTD} {el : TED} {it : ItD} {S : Sto} {Q : QD} (keep : D → Bool) (f : D → D) (hok : ∀ S', Ext S S' → it.ok S') (hlen : it.xs.length ≤ sizeLine)
    (hx : ∀ x ∈ it.xs, ∀ S', Ext S S' → ∀ (N : D → Sto → Prop) (M : Sto → Prop), (keep x = true → N (f x) S') → (keep x = false → M S') → γ x ρ0 S' fun ρ' S1 => t ρ' S1 fun b S2 => match b with
      | true => el ρ' S2 N
      | false => M S2)
    (q : newL r ((it.xs.filter keep).map f) S Q) : ∀ Dl, S Dl = none → it.ok (S.up Dl (.lst [])) ∧ lcD Dl it.ok ρ0 γ t el it.xs [] (S.up Dl (.lst [])) (endL r Dl Q) := by
  intro Dl hD
  refine ⟨hok _ (Ext.up hD), lcD_inv (fun xs acc S' => S' = S.up Dl (.lst acc) ∧ ∃ dn, dn ++ xs = it.xs ∧ acc = (dn.filter keep).map f) ?_ ?_ it.xs [] _ ⟨rfl, [], rfl, rfl⟩ Sto.up_same (hok _ (Ext.up hD))⟩
  · rintro x xs acc S' ⟨rfl, dn, e, rfl⟩ d o N n
    have hm : x ∈ it.xs := by rw [← e]; simp
    have hl : ((dn.filter keep).map f).length < sizeLine := by
      rw [List.length_map]
      have h1 : (dn.filter keep).length ≤ dn.length := List.length_filter_le _ _
      have h2 : dn.length + (x :: xs).length = it.xs.length := by rw [← e, List.length_append]
      rw [List.length_cons] at h2
      omega
    refine hx x hm _ (Ext.up hD) _ _ (fun hk => ?_) (fun hk => ?_)
    · refine ⟨Sto.up_same, hl, ?_, ?_⟩
      · rw [Sto.up_up]; exact hok _ (Ext.up hD)
      · refine n _ _ Sto.up_same ?_ ⟨Sto.up_up, dn ++ [x], by simpa using e, ?_⟩
        · rw [Sto.up_up]; exact hok _ (Ext.up hD)
        · rw [List.filter_append, List.map_append, List.filter_cons_of_pos hk]; rfl
    · refine ⟨Sto.up_same, hok _ (Ext.up hD), n _ _ Sto.up_same (hok _ (Ext.up hD)) ⟨rfl, dn ++ [x], by simpa using e, ?_⟩⟩
      rw [List.filter_append, List.filter_cons_of_neg (by rw [hk]; exact Bool.false_ne_true)]
      simp
  · rintro acc S' ⟨rfl, dn, e, rfl⟩ d
    rw [List.append_nil] at e
    subst e
    exact newL_of q hD
/-- of all items -/
theorem lc_mapA {r : Bool} {ρ0 : DEnv} {γ : TGD} {t : TTD} {el : TED} {it : ItD} {S : Sto} {Q : QD} (f : D → D) (hok : ∀ S', Ext S S' → it.ok S') (hlen : it.xs.length ≤ sizeLine)
    (hx : ∀ x ∈ it.xs, ∀ S', Ext S S' → ∀ (N : D → Sto → Prop) (M : Sto → Prop), N (f x) S' → γ x ρ0 S' fun ρ' S1 => t ρ' S1 fun b S2 => match b with
      | true => el ρ' S2 N
      | false => M S2)
    (q : newL r (it.xs.map f) S Q) : ∀ Dl, S Dl = none → it.ok (S.up Dl (.lst [])) ∧ lcD Dl it.ok ρ0 γ t el it.xs [] (S.up Dl (.lst [])) (endL r Dl Q) :=
  lc_map (fun _ => true) f hok hlen (fun x hm S' e N M h1 _ => hx x hm S' e N M (h1 rfl)) (by rw [List.filter_eq_self.mpr (fun _ _ => rfl)]; exact q)
/-- a comprehension whose element changes the store elsewhere: I says how it stands behind the items so far -/
theorem lc_run {r : Bool} {ρ0 : DEnv} {γ : TGD} {t : TTD} {el : TED} {it : ItD} {S : Sto} {Q : QD} (I : List D → List D → Sto → Prop) (hok : ∀ S', it.ok S') (hlen : it.xs.length ≤ sizeLine)
    (h0 : ∀ Dl, S Dl = none → I it.xs [] (S.up Dl (.lst [])))
    (hx : ∀ x xs acc S', (∃ dn, dn ++ x :: xs = it.xs) → I (x :: xs) acc S' → ∀ Dl, S Dl = none → S' Dl = some (.lst acc) → ∀ (N : D → Sto → Prop) (M : Sto → Prop), (∀ y S2, S2 Dl = some (.lst acc) → acc.length < sizeLine → I xs (acc ++ [y]) (S2.up Dl (.lst (acc ++ [y]))) → N y S2) → γ x ρ0 S' fun ρ' S1 => t ρ' S1 fun b S2 => match b with
      | true => el ρ' S2 N
      | false => M S2)
    (hlenA : ∀ x xs acc S', I (x :: xs) acc S' → acc.length + (x :: xs).length ≤ it.xs.length)
    (q : ∀ Dl acc S', S Dl = none → I [] acc S' → S' Dl = some (.lst acc) → endL r Dl Q acc S') : ∀ Dl, S Dl = none → it.ok (S.up Dl (.lst [])) ∧ lcD Dl it.ok ρ0 γ t el it.xs [] (S.up Dl (.lst [])) (endL r Dl Q) := by
  intro Dl hD
  refine ⟨hok _, lcD_inv (fun xs acc S' => I xs acc S' ∧ ∃ dn, dn ++ xs = it.xs) ?_ ?_ it.xs [] _ ⟨h0 Dl hD, [], rfl⟩ Sto.up_same (hok _)⟩
  · rintro x xs acc S' ⟨i, dn, e⟩ d o N n
    have hl := hlenA x xs acc S' i
    rw [List.length_cons] at hl
    refine hx x xs acc S' ⟨dn, e⟩ i Dl hD d _ _ (fun y S2 d2 l2 i2 => ⟨d2, l2, hok _, n _ _ Sto.up_same (hok _) ⟨i2, dn ++ [x], by simpa using e⟩⟩)
  · rintro acc S' ⟨i, _⟩ d
    exact q Dl acc S' hD i d
end PL
/-! defs by name -/
namespace PL
open PySem PySem.Spec PySem.W PyProof.Rows L2
abbrev FnP (K : PySem.W.Frag) (x : Str) (st : Stmt) (f : Addr) (fd : FuncData) : Prop := FunD K x x (defArgs st) (defBody st) (defScope st) [] [] f fd
/-- the def x of the text stands -/
def Own (K : PySem.W.Frag) (mg : Str → Option Value) (x : Str) (st : Stmt) : Prop := ∃ f fd, FnP K x st f fd ∧ mg x = some (.ref f)
/-- x keeps the promise sp -/
structure Has (P : Program) (w : World) (K : PySem.W.Frag) (mg : Str → Option Value) (base : Heap) (k : Nat) (x : Str) (ps : List Str) (sp : DSp) : Prop where
  ex : ∃ f fd, FnOk P w K mg base CX0 k f fd ps (LSp K sp) ∧ mg x = some (.ref f) ∧ PySem.W.keepIn K (.ref f) = true ∧ Binds K fd ps []
section
variable {X : Cx} {e : Expr} {es : List Expr} {α : TAD} {δ : TED} {x : Str} {p pos : Pos} {k j : Nat} {ps : List Str} {sp : DSp}
theorem de_own (h : Has X.prog X.w X.K X.mg X.base j x ps sp) (hr : Room k X.A) (ha : DA X (e :: es) α) (hj : j ≤ k := by decide)
    (hg : Gl X x := by rfl) (hdb : (x == ("__debug__" : Str)) = false := by decide) (he : starEach (e :: es) X.env = (false, eval e X.env) :: starEach es X.env := by rfl) (hpl : (backTo pos (starEach es X.env)).any (·.1) = false := by rfl) :
    DE X (.Call (.Name x p) (e :: es) [] pos) (dCall sp α) := by
  obtain ⟨f, fd, F, hm, hk, hb⟩ := h.ex
  exact de_call (E := fun _ _ _ => False) F (hr.mono hj) hm hk hb (fun _ _ _ _ _ _ _ h => h.elim) ha hg hdb he hpl
def dNeg (δ : TED) : TED := fun ρ S Q => δ ρ S fun x S1 => match x with
  | .int i => Q (.int (-i)) S1
  | _ => False
theorem de_neg (ha : DE X e δ) : DE X (.UnaryOp .USub e pos) (dNeg δ) := peW (pe_un un_neg ha) fun σ H Q ⟨ρ, S, Qd, re, rs, q, k⟩ => by
  refine ⟨ρ, S, _, re, rs, q, fun x S1 v H1 q1 g1 r1 => ?_⟩
  try dsimp only at q1
  split at q1
  · rw [RD] at r1
    exact ⟨_, r1, (k.go g1).here g1.rs q1 RD.int⟩
  · exact q1.elim
end
section
variable {P : Program} {w : World} {K : PySem.W.Frag} {mg : Str → Option Value} {base : Heap}
theorem has_of {x : Str} {st : Stmt} {N ps : List Str} {k : Nat} {sp : DSp} {τ : TSD} (O : Own K mg x st) (Sc : FnScope N ps (defScope st)) (len : ∀ ds S Q, sp ds S Q → ds.length = ps.length)
    (hb : ∀ (kV doc pm : Value) (an : Option Addr) (cdv ct : Value) (us : List Value), us.length = ps.length → bindArgs (PySem.W.fnOf x x (defArgs st) (defBody st) (defScope st) .none kV doc pm an cdv ct) ⟨us, []⟩ = pure (ps.zip us))
    (hbody : ∀ (f : Addr) (cdv : Value) (A : Around) (outer : List Env) (s : Shared) (H : Hp) (E : XK), Room k (A.deeper (envOfC x (defScope st) s.heap.objs.size f cdv)) →
      DSs (cxOf CX0 P w K mg base N x (defScope st) f cdv A outer s H E).nox (defBody st) τ) (hq : ∀ ds S Q, sp ds S Q → τ { nx := fun _ S' => FzQ Q .non S', rt := FzQ Q } (startD N ds) S) : Has P w K mg base (k + 1) x ps sp := by
  obtain ⟨f, fd, F, hm⟩ := O
  exact ⟨f, fd, fnD F Sc len fun cdv A outer s H E hr => ⟨τ, PSs.nox (hbody f cdv A outer s H E hr), hq⟩, hm, F.kp, F.bindsN hb⟩
end
def blkB (N : List Str) (sn : List (Str × NameKind)) (scope : Scope) (own : List (Str × Nat)) : Bool :=
  scope.kind == .function && (scope.names.all fun y => scope.names.lookup y.1 == some y.2) && (own.all fun p => N[p.2]? == some p.1) &&
  (scope.names.all fun y => y.2 != .free || (sn.lookup y.1 == some .cell || sn.lookup y.1 == some .free)) &&
  (scope.names.all fun y => !(y.2 == .local || y.2 == .cell) || ((own.map (·.1)).contains y.1 || !N.contains y.1))
theorem kind_beq {a b : NameKind} (h : (a == b) = true) : a = b := by cases a <;> cases b <;> first | rfl | (exact absurd h (by decide))
theorem kind_bne {a b : NameKind} (h : (a != b) = true) : a ≠ b := fun e => by subst e; cases a <;> exact absurd h (by decide)
theorem kind_refl (a : NameKind) : (a == a) = true := by cases a <;> decide
theorem okind_beq {a b : Option NameKind} (h : (a == b) = true) : a = b := by
  cases a with
  | none => cases b with
    | none => rfl
    | some y => exact absurd h (by cases y <;> decide)
  | some x => cases b with
    | none => exact absurd h (by cases x <;> decide)
    | some y => exact congrArg some (kind_beq h)
theorem blk_of {N : List Str} {sc scope : Scope} {own : List (Str × Nat)} (h : blkB N sc.names scope own = true) : BlkOk N sc scope own := by
  unfold blkB at h
  rw [Bool.and_eq_true, Bool.and_eq_true, Bool.and_eq_true, Bool.and_eq_true] at h
  obtain ⟨⟨⟨⟨h1, h2⟩, h3⟩, h4⟩, h5⟩ := h
  refine ⟨?_, fun y hy => ?_, fun p hp => ?_, fun y hy hf => ?_, fun y hy hl => ?_⟩
  · cases e : scope.kind <;> first | rfl | (rw [e] at h1; exact absurd h1 (by decide))
  · exact okind_beq (List.all_eq_true.mp h2 y hy)
  · exact eq_of_beq (List.all_eq_true.mp h3 p hp)
  · have := List.all_eq_true.mp h4 y hy
    rw [hf] at this
    rcases (Bool.or_eq_true _ _).mp this with z | z
    · exact absurd z (by decide)
    · rcases (Bool.or_eq_true _ _).mp z with z | z
      · exact .inl (okind_beq z)
      · exact .inr (okind_beq z)
  · have := List.all_eq_true.mp h5 y hy
    have t : (y.2 == .local || y.2 == .cell) = true := by
      rcases hl with e | e <;> rw [e] <;> decide
    rw [t] at this
    have z : ((own.map (·.1)).contains y.1 || !N.contains y.1) = true := by simpa using this
    rcases (Bool.or_eq_true _ _).mp z with z | z
    · exact .inl (List.contains_iff_mem.mp z)
    · exact .inr fun m => by
        rw [List.contains_iff_mem.mpr m] at z
        exact absurd z (by decide)
end PL
/-! plain reasoning over mapped lists -/
namespace PL
open PySem PySem.Spec PySem.W PyProof.Rows L2
theorem kb_ii : kitB "int" "int" = some true := by decide +kernel
theorem kb_ib : kitB "int" "bool" = some false := by decide +kernel
theorem kb_it : kitB "int" "tuple" = some false := by decide +kernel
theorem kb_is : kitB "int" "str" = some false := by decide +kernel
theorem kb_bi : kitB "bool" "int" = some true := by decide +kernel
theorem kb_bb : kitB "bool" "bool" = some true := by decide +kernel
theorem kb_bt : kitB "bool" "tuple" = some false := by decide +kernel
theorem kb_bs : kitB "bool" "str" = some false := by decide +kernel
theorem kb_tt : kitB "tuple" "tuple" = some true := by decide +kernel
theorem kb_ti : kitB "tuple" "int" = some false := by decide +kernel
theorem kb_ts : kitB "tuple" "str" = some false := by decide +kernel
theorem kb_ss : kitB "str" "str" = some true := by decide +kernel
theorem kb_si : kitB "str" "int" = some false := by decide +kernel
theorem kb_st : kitB "str" "tuple" = some false := by decide +kernel
theorem kb_nt : kitB "NoneType" "tuple" = some false := by decide +kernel
theorem kb_ni : kitB "NoneType" "int" = some false := by decide +kernel
theorem kb_ns : kitB "NoneType" "str" = some false := by decide +kernel
theorem kb_lt : kitB "list" "tuple" = some false := by decide +kernel
theorem kb_li : kitB "list" "int" = some false := by decide +kernel
theorem kb_ls : kitB "list" "str" = some false := by decide +kernel
theorem ex_some {α : Type} {a : α} {P : α → Prop} : (∃ b, some a = some b ∧ P b) ↔ P a := ⟨fun ⟨b, e, h⟩ => by cases e; exact h, fun h => ⟨a, rfl, h⟩⟩

/-! ### comprehensions over mapped lists -/
theorem lc_mapK {α : Type} {r : Bool} {ρ0 : DEnv} {γ : TGD} {t : TTD} {el : TED} {ok : Sto → Prop} {S : Sto} {Q : QD} (l : List α) (enc : α → D) (keep : α → Bool) (f : α → D) (hok : ∀ S', Ext S S' → ok S') (hlen : l.length ≤ sizeLine)
    (hx : ∀ x ∈ l, ∀ S', Ext S S' → ∀ (N : D → Sto → Prop) (M : Sto → Prop), (keep x = true → N (f x) S') → (keep x = false → M S') → γ (enc x) ρ0 S' fun ρ' S1 => t ρ' S1 fun b S2 => match b with
      | true => el ρ' S2 N
      | false => M S2)
    (q : newL r ((l.filter keep).map f) S Q) : ∀ Dl, S Dl = none → ok (S.up Dl (.lst [])) ∧ lcD Dl ok ρ0 γ t el (l.map enc) [] (S.up Dl (.lst [])) (endL r Dl Q) := by
  intro Dl hD
  refine ⟨hok _ (Ext.up hD), lcD_inv (fun xs acc S' => S' = S.up Dl (.lst acc) ∧ ∃ dn re, xs = re.map enc ∧ dn ++ re = l ∧ acc = (dn.filter keep).map f) ?_ ?_ (l.map enc) [] _ ⟨rfl, [], l, rfl, rfl, rfl⟩ Sto.up_same (hok _ (Ext.up hD))⟩
  · rintro x xs acc S' ⟨rfl, dn, re, e1, e, rfl⟩ d o N n
    cases re with
    | nil => cases e1
    | cons a re =>
    rw [List.map_cons] at e1
    obtain ⟨rfl, rfl⟩ := List.cons.inj e1
    have hm : a ∈ l := by rw [← e]; simp
    have hl : ((dn.filter keep).map f).length < sizeLine := by
      rw [List.length_map]
      have h1 : (dn.filter keep).length ≤ dn.length := List.length_filter_le _ _
      have h2 : dn.length + (a :: re).length = l.length := by rw [← e, List.length_append]
      rw [List.length_cons] at h2
      omega
    refine hx a hm _ (Ext.up hD) _ _ (fun hk => ?_) (fun hk => ?_)
    · refine ⟨Sto.up_same, hl, ?_, ?_⟩
      · rw [Sto.up_up]; exact hok _ (Ext.up hD)
      · refine n _ _ Sto.up_same ?_ ⟨Sto.up_up, dn ++ [a], re, rfl, by simpa using e, ?_⟩
        · rw [Sto.up_up]; exact hok _ (Ext.up hD)
        · rw [List.filter_append, List.map_append, List.filter_cons_of_pos hk]; rfl
    · refine ⟨Sto.up_same, hok _ (Ext.up hD), n _ _ Sto.up_same (hok _ (Ext.up hD)) ⟨rfl, dn ++ [a], re, rfl, by simpa using e, ?_⟩⟩
      rw [List.filter_append, List.filter_cons_of_neg (by rw [hk]; exact Bool.false_ne_true)]
      simp
  · rintro acc S' ⟨rfl, dn, re, e1, e, rfl⟩ d
    have : re = [] := by cases re with
      | nil => rfl
      | cons a re => cases e1
    subst this
    rw [List.append_nil] at e
    subst e
    exact newL_of q hD
theorem lc_mapE {α : Type} {r : Bool} {ρ0 : DEnv} {γ : TGD} {t : TTD} {el : TED} {ok : Sto → Prop} {S : Sto} {Q : QD} (l : List α) (enc : α → D) (f : α → D) (hok : ∀ S', Ext S S' → ok S') (hlen : l.length ≤ sizeLine)
    (hx : ∀ x ∈ l, ∀ S', Ext S S' → ∀ (N : D → Sto → Prop) (M : Sto → Prop), N (f x) S' → γ (enc x) ρ0 S' fun ρ' S1 => t ρ' S1 fun b S2 => match b with
      | true => el ρ' S2 N
      | false => M S2)
    (q : newL r (l.map f) S Q) : ∀ Dl, S Dl = none → ok (S.up Dl (.lst [])) ∧ lcD Dl ok ρ0 γ t el (l.map enc) [] (S.up Dl (.lst [])) (endL r Dl Q) :=
  lc_mapK l enc (fun _ => true) f hok hlen (fun x hm S' e N M h1 _ => hx x hm S' e N M (h1 rfl)) (by rw [List.filter_eq_self.mpr (fun _ _ => rfl)]; exact q)
theorem loopD_invE {α : Type} {ok : Sto → Prop} {f : D → TSD} {De : EndsD} (enc : α → D) (I : List α → DEnv → Sto → Prop)
    (step : ∀ x xs ρ S, I (x :: xs) ρ S → ok S → ∀ N : DEnv → Sto → Prop, (∀ ρ' S', ok S' → I xs ρ' S' → N ρ' S') → f (enc x) { nx := N, ct := N, bk := De.nx, rt := De.rt } ρ S)
    (fin : ∀ ρ S, I [] ρ S → De.nx ρ S) : ∀ (xs : List α) (ρ : DEnv) (S : Sto), I xs ρ S → ok S → loopD ok f (xs.map enc) De ρ S
  | [], ρ, S, h, _ => fin ρ S h
  | x :: xs, ρ, S, h, o => step x xs ρ S h o _ fun ρ' S' o' h' => ⟨o', loopD_invE enc I step fin xs ρ' S' h' o'⟩
/-! ### sources -/
theorem enum_map {α : Type} (enc : α → D) : ∀ (xs : List α) (n : Nat), enumFrom n (xs.map enc) = (xs.zipIdx n).map fun p => .tup [.int (p.2 : Nat), enc p.1]
  | [], n => rfl
  | x :: xs, n => by
    rw [List.map_cons, enumFrom, List.zipIdx_cons, List.map_cons, enum_map enc xs (n + 1)]
theorem zip_map2 {α β : Type} (e1 : α → D) (e2 : β → D) : ∀ (xs : List α) (ys : List β), List.zipWith (fun d e => D.tup [d, e]) (xs.map e1) (ys.map e2) = (List.zip xs ys).map fun p => .tup [e1 p.1, e2 p.2]
  | [], _ => by simp
  | _ :: _, [] => by simp
  | x :: xs, y :: ys => by
    rw [List.map_cons, List.map_cons, List.zipWith_cons_cons, zip_map2 e1 e2 xs ys, List.zip_cons_cons, List.map_cons]
/-! ### items -/
theorem atI_map {α β : Type} (f : α → β) (xs : List α) (i : Int) : atI (xs.map f) i = (atI xs i).map f := by
  unfold atI
  rw [List.length_map]
  cases ixN xs.length i with
  | none => rfl
  | some j => simp
theorem ixN_nn {n : Nat} {i : Int} (h0 : 0 ≤ i) (h1 : i < n) : ixN n i = some i.toNat := by unfold ixN; rw [if_pos h0, if_pos h1]
theorem atI_nn {α : Type} [Inhabited α] {xs : List α} {i : Int} (d : α) (h0 : 0 ≤ i) (h1 : i < xs.length) : atI xs i = some (xs.getD i.toNat d) := by
  unfold atI
  rw [ixN_nn h0 h1]
  have : i.toNat < xs.length := by omega
  simp [List.getD_eq_getElem?_getD, List.getElem?_eq_getElem this]
theorem atI_last {α : Type} {xs : List α} (h : xs ≠ []) : atI xs (-1) = some (xs.getLast h) := by
  have hp : 0 < xs.length := List.length_pos_iff.mpr h
  have e : ixN xs.length (-1) = some (xs.length - 1) := by
    unfold ixN
    rw [if_neg (by omega), if_pos (by omega)]
    congr 1
    omega
  unfold atI
  rw [e]
  simp [List.getLast_eq_getElem]
theorem ix_int {xs : List Int} {i : Int} (h0 : 0 ≤ i) (h1 : i < xs.length) : atI (xs.map D.int) i = some (.int (xs.getD i.toNat 0)) := by
  rw [atI_map, atI_nn 0 h0 h1]; rfl
/-! ### forgetting -/
theorem go_ext {K : PySem.W.Frag} {S S' : Sto} {H : Hp} (h : Ext S S') (rs : RS K S' H) : Go K S' H S H := by
  have tp : Tp S' H S H := ⟨fun _ _ h => h, fun _ _ _ h => h, fun a o h1 h2 => ⟨by
    cases e : S a with
    | none => rfl
    | some mo => exact absurd ((h a mo e).symm.trans h1) (by simp), h2⟩⟩
  exact ⟨tp, fun p mo e => (rs p mo (h p mo e)).mv tp fun _ h => h⟩
theorem Fz.ext {S S' : Sto} {d : D} (h : Ext S S') : Fz S' d S d := ⟨fun K H v rs r => ⟨go_ext h rs, r.tp (go_ext h rs).tp⟩⟩
theorem Fz.extL {S S' : Sto} {a : Addr} {ds : List D} (h : Ext S S') (ha : S' a = some (.lst ds)) (hn : S a = none) : Fz S' (.ref a) S (.lst ds) := ⟨fun K H v rs r => by
  have g := go_ext h rs
  obtain ⟨ws, hw, r1⟩ := rs a _ ha
  rw [RD] at r
  refine ⟨g, ?_⟩
  rw [RD]
  exact ⟨a, ws, r, hn, hw, r1.tp g.tp⟩⟩
theorem FzQ.ext {Q : QD} {d : D} {S S' : Sto} (h : Ext S S') (q : Q d S) : FzQ Q d S' := ⟨d, S, q, Fz.ext h⟩
theorem FzQ.extL {Q : QD} {a : Addr} {ds : List D} {S S' : Sto} (h : Ext S S') (ha : S' a = some (.lst ds)) (hn : S a = none) (q : Q (.lst ds) S) : FzQ Q (.ref a) S' := ⟨_, S, q, Fz.extL h ha hn⟩
end PL
/-! data, equality, orders: small facts -/
namespace PL
open PySem PySem.Spec PySem.W PyProof.Rows L2
theorem okn_int {n : Nat} {i : Int} : D.okn n (.int i) = true := by cases n <;> simp [D.okn]
theorem okn_bl {n : Nat} {i : Bool} : D.okn n (.bl i) = true := by cases n <;> simp [D.okn]
theorem okn_non {n : Nat} : D.okn n .non = true := by cases n <;> simp [D.okn]
theorem okn_str {n : Nat} {x : Str} (h : PyData.strOk x = true) : D.okn n (.str x) = true := by cases n <;> simp [D.okn, h]
theorem okn_tup {n : Nat} {ds : List D} : D.okn (n + 1) (.tup ds) = ds.all (D.okn n) := by simp [D.okn]
theorem okn_lst {n : Nat} {ds : List D} : D.okn (n + 1) (.lst ds) = ds.all (D.okn n) := by simp [D.okn]
theorem okn_ints {n : Nat} {xs : List Int} : (xs.map D.int).all (D.okn n) = true := by
  rw [List.all_map, List.all_eq_true]; intro x _; exact okn_int
theorem okn_eI {n : Nat} {xs : List Int} : D.okn (n + 1) (.tup (xs.map D.int)) = true := by rw [okn_tup, okn_ints]
theorem now_int {S : Sto} {i : Int} : S.now (.int i) = .int i := rfl
theorem now_tup {S : Sto} {i : List D} : S.now (.tup i) = .tup i := rfl
theorem now_lst {S : Sto} {i : List D} : S.now (.lst i) = .lst i := rfl
theorem now_str {S : Sto} {i : Str} : S.now (.str i) = .str i := rfl
theorem now_bl {S : Sto} {i : Bool} : S.now (.bl i) = .bl i := rfl
theorem now_non {S : Sto} : S.now .non = .non := rfl
theorem eqD_int {a b : Int} : eqD (.int a) (.int b) = decide (a = b) := by
  unfold eqD
  rw [D.py, D.py, PyData.eqv]
  by_cases h : a = b <;> simp [h]
theorem eqD_refl {d : D} {n : Nat} (h : D.okn n d = true) : eqD d d = true := PySem.SeqAt.eqv_refl _ (D.okn_lay n d h).1
theorem ltD_int {a b : Int} : ltD (.int a) (.int b) = decide (a < b) := by
  unfold ltD; rw [D.py, D.py, dataLt_int]
theorem ltD_ii {a b c d : Int} : ltD (.tup [.int a, .int b]) (.tup [.int c, .int d]) = decide (a < c ∨ (a = c ∧ b < d)) := by
  unfold ltD; simp only [D.py, D.pys]; exact dataLt_ii a b c d
theorem ltD_fst {a c : Int} {x y : D} (hk : alike (D.py x) (D.py y) = true) (h : ltD (.tup [.int a, x]) (.tup [.int c, y]) = false) : c ≤ a := by
  unfold ltD at h
  simp only [D.py, D.pys] at h
  rw [dataLt_pair (by rfl) hk] at h
  have e : PyData.eqv (.int a) (.int c) = decide (a = c) := by
    rw [PyData.eqv]; by_cases h : a = c <;> simp [h]
  rw [e] at h
  by_cases q : a = c
  · omega
  · rw [decide_eq_false q, if_neg Bool.false_ne_true, dataLt_int] at h
    have := of_decide_eq_false h
    omega
theorem leD_int {a b : Int} : leD (.int a) (.int b) = decide (a ≤ b) := by
  unfold leD
  rw [dataLe_eq]
  simp only [D.py, dataLt_int, cond_false]
  by_cases h : a ≤ b <;> simp [h] <;> omega
theorem akin_ints {xs : List Int} : akin (xs.map D.int) := by
  intro d hd e he
  obtain ⟨a, _, rfl⟩ := List.mem_map.mp hd
  obtain ⟨b, _, rfl⟩ := List.mem_map.mp he
  simp only [D.py]
  exact ⟨by rfl, fun h => nomatch h⟩
theorem sortable_ints {xs : List Int} : Sortable ((xs.map D.int).map D.py) := .inr fun d hd => by
  rw [List.map_map] at hd
  obtain ⟨a, _, rfl⟩ := List.mem_map.mp hd
  simp only [Function.comp, D.py]
  exact ⟨nofun, fun xs => nofun⟩
theorem sort_ints {xs : List Int} : (xs.map D.int).mergeSort leD = (xs.mergeSort fun a b => decide (a ≤ b)).map D.int :=
  (sort_maps D.int fun a _ b _ => leD_int.symm).symm
theorem sorted_pair {xs : List Int} : (xs.mergeSort fun a b => decide (a ≤ b)).Pairwise (· ≤ ·) := by
  have := List.pairwise_mergeSort (le := fun a b : Int => decide (a ≤ b)) (fun a b c h1 h2 => by simp at *; omega) (fun a b => by simp; omega) xs
  exact this.imp fun h => by simpa using h
theorem akin_pairs {ps : List (Int × Int)} : akin (ps.map fun p => .tup [.int p.1, .int p.2]) := by
  intro d hd e he
  obtain ⟨a, _, rfl⟩ := List.mem_map.mp hd
  obtain ⟨b, _, rfl⟩ := List.mem_map.mp he
  simp only [D.py, D.pys]
  exact ⟨by rfl, fun h => nomatch h⟩
theorem okn_pairs {n : Nat} {ps : List (Int × Int)} : (ps.map fun p => D.tup [.int p.1, .int p.2]).all (D.okn (n + 1)) = true := by
  rw [List.all_map, List.all_eq_true]; intro x _; simp [okn_tup, okn_int, Function.comp]
theorem alikeAll_ints : ∀ xs ys : List Int, alike (D.py (.tup (xs.map D.int))) (D.py (.tup (ys.map D.int))) = true := by
  intro xs ys
  simp only [D.py, D.pys_eq, List.map_map]
  have e : ∀ l : List Int, l.map (D.py ∘ D.int) = l.map PyData.int := fun l => by
    apply List.map_congr_left; intro a _; simp only [Function.comp, D.py]
  rw [e, e]
  exact alike_ints xs ys
/-! ### the least, the greatest of ints -/
theorem mem_int {xs : List Int} {m : D} (h : m ∈ xs.map D.int) : ∃ a ∈ xs, m = .int a := by
  obtain ⟨a, h1, rfl⟩ := List.mem_map.mp h
  exact ⟨a, h1, rfl⟩

/-! ### looks into the store -/
section
variable {S S' : Sto} {ds : List D} {p : Addr} {d : D}
theorem seq_tup : S.seq (.tup ds) = some ds := rfl
theorem seq_tpx : S.seq (.tpx ds) = some ds := rfl
theorem seq_lst : S.seq (.lst ds) = some ds := rfl
theorem seq_fz : S.seq (.fz ds) = some ds := rfl
theorem seq_ref (h : S p = some (.lst ds)) : S.seq (.ref p) = some ds := by show (match S p with | some (.lst ds) => some ds | _ => none) = _; rw [h]
theorem list_lst : S.list (.lst ds) = some ds := rfl
theorem list_ref (h : S p = some (.lst ds)) : S.list (.ref p) = some ds := by show (match S p with | some (.lst ds) => some ds | _ => none) = _; rw [h]
theorem lsts_lst : S.lsts (.lst ds) = some ds := rfl
theorem lsts_fz : S.lsts (.fz ds) = some ds := rfl
theorem lsts_ref (h : S p = some (.lst ds)) : S.lsts (.ref p) = some ds := by show (match S p with | some (.lst ds) => some ds | _ => none) = _; rw [h]
theorem itOf_tup : S.itOf (.tup ds) = some ⟨ds, fun _ => True⟩ := rfl
theorem itOf_tpx : S.itOf (.tpx ds) = some ⟨ds, fun _ => True⟩ := rfl
theorem itOf_lst : S.itOf (.lst ds) = some ⟨ds, fun _ => True⟩ := rfl
theorem itOf_fz : S.itOf (.fz ds) = some ⟨ds, fun _ => True⟩ := rfl
theorem itOf_ref (h : S p = some (.lst ds)) : S.itOf (.ref p) = some ⟨ds, fun S' => S' p = some (.lst ds)⟩ := by show (match S p with | some (.lst ds) => some _ | _ => none) = _; rw [h]
theorem trk_ref (h : S p = some (.lst ds)) : S.trk (.ref p) = some (p, ds) := by show (match S p with | some (.lst ds) => some _ | _ => none) = _; rw [h]
theorem now_ref (h : S p = some (.lst ds)) : S.now (.ref p) = .lst ds := by show (match S p with | some (.lst ds) => D.lst ds | _ => .ref p) = _; rw [h]
theorem seq_ext (e : Ext S S') (h : S.seq d = some ds) : S'.seq d = some ds := by
  cases d with
  | ref q =>
    have h' : (match S q with | some (.lst ds) => some ds | _ => none) = some ds := h
    split at h'
    · rename_i es he
      rw [seq_ref (e _ _ he)]; exact h'
    · cases h'
  | _ => exact h
theorem Ext.set {T : Sto} {o : MO} (h : Ext T S) (hp : T p = none) : Ext T (S.up p o) := fun q u e => by
  rw [Sto.up_ne (fun z => by subst z; rw [hp] at e; cases e)]; exact h q u e
theorem Ext.none (h : Ext S S') (hp : S' p = none) : S p = none := by
  cases e : S p with
  | none => rfl
  | some o => rw [h p o e] at hp; cases hp
theorem ne_of_in {o : MO} {q : Addr} (h1 : S p = some o) (h2 : S q = none) : p ≠ q := fun z => by subst z; rw [h1] at h2; cases h2
end
theorem isNon_non : D.isNon .non = true := rfl
theorem isNon_int {i : Int} : D.isNon (.int i) = false := rfl
theorem isNon_tup {i : List D} : D.isNon (.tup i) = false := rfl
theorem isNon_lst {i : List D} : D.isNon (.lst i) = false := rfl
theorem isNon_ref {i : Addr} : D.isNon (.ref i) = false := rfl
theorem isNon_str {i : Str} : D.isNon (.str i) = false := rfl
theorem isNon_bl {i : Bool} : D.isNon (.bl i) = false := rfl
section
variable {P : Program} {w : World} {K : PySem.W.Frag} {mg : Str → Option Value} {base : Heap}
theorem fn_def {x : Str} {st : Stmt} {N ps : List Str} {k : Nat} {sp : DSp} {τ : TSD} {f : Addr} {fd : FuncData} (F : FnP K x st f fd) (Sc : FnScope N ps (defScope st)) (len : ∀ ds S Q, sp ds S Q → ds.length = ps.length)
    (hbody : ∀ (f : Addr) (cdv : Value) (A : Around) (outer : List Env) (s : Shared) (H : Hp) (E : XK), Room k (A.deeper (envOfC x (defScope st) s.heap.objs.size f cdv)) →
      DSs (cxOf CX0 P w K mg base N x (defScope st) f cdv A outer s H E).nox (defBody st) τ) (hq : ∀ ds S Q, sp ds S Q → τ { nx := fun _ S' => FzQ Q .non S', rt := FzQ Q } (startD N ds) S) : FnOk P w K mg base CX0 (k + 1) f fd ps (LSp K sp) :=
  fnD F Sc len fun cdv A outer s H E hr => ⟨τ, PSs.nox (hbody f cdv A outer s H E hr), hq⟩
/-- the script, at the law's call -/
theorem script_rd {H : Hp} {a : Addr} {ns : List Int} (hO : Only H) (h : SqL K H a (ns.map V.int)) : RDs K (fun _ => none) H [.fz (ns.map D.int)] [.ref a] := by
  refine RDs.cons ?_ (RDs.nil.mpr rfl)
  rw [RD]
  refine ⟨a, ns.map V.int, rfl, ?_, ints_rds ns⟩
  rcases h with (h | ⟨o, h⟩) | h
  · rcases hO a with z | ⟨o, xs, z⟩
    · rw [z] at h; cases h
    · rw [z] at h; cases h
  · exact .inl ⟨o, h⟩
  · exact .inr h
theorem rs_empty {H : Hp} : RS K (fun _ => none) H := fun p mo h => by cases h
end
end PL
/-! tuples whose object is known, their methods; more methods of lists; len(set(..)); a, b, c = x, y, z -/
namespace PL
open PySem PySem.Spec PySem.W PyProof.Rows L2
section
variable {X : Cx} {e : Expr} {δ : TED} {p p2 q pos : Pos} {es : List Expr} {α : TAD}
/-- tuple(e), e a list: the new tuple's object is known -/
def dTupX (δ : TED) : TED := fun ρ S Q => δ ρ S fun x S1 => match S1.lsts x with
  | some ds => Q (.tpx ds) S1
  | none => False
theorem newX_ok {K : PySem.W.Frag} {S : Sto} {H : Hp} {ds : List D} {vs : List V} {Qd : QD} {Q : VK} {o : Obj} (rs : RS K S H) (rd : RDs K S H ds vs) (n : Qd (.tpx ds) S) (k : Aft K S H Qd Q) (ho : o.dict = none) (p : Addr) (hp : H p = none) : Q (.ref p) (upd H p (.frz o (.tup vs))) := by
  have g : Go K S H S (upd H p (.frz o (.tup vs))) := Go.fresh rs hp
  refine k _ _ _ _ n g ?_
  rw [RD]
  exact ⟨p, o, vs, rfl, upd_same, ho, rd.tp g.tp⟩
theorem de_tupX (hm : X.mg "tuple" = none) (ha : DE X e δ) (hg : Gl X "tuple" := by rfl) (na : starEach [e] X.env = (false, eval e X.env) :: starEach [] X.env := by rfl) : DE X (.Call (.Name "tuple" p) [e] [] pos) (dTupX δ) := by
  refine peW (t := fun σ H Q => LE X.K δ σ H fun x H1 => ∃ a xs, x = .ref a ∧ SqL X.K H1 a xs ∧ ∀ p o, o.dict = none → H1 p = none → Q (.ref p) (upd H1 p (.frz o (.tup xs)))) ⟨fun pins s σ H Q I h => ?_⟩ fun σ H Q ⟨ρ, S, Qd, re, rs, q, k⟩ => ?_
  · refine Call_ (ld_blt I hg hm boot_tuple (PyProof.Rows.callWith_type1 (one_arg ha I h (fun v s2 x H2 I2 r q => ?_) na) na))
    obtain ⟨a, xs, rfl, hs, q⟩ := q
    obtain rfl : v = .ref a := r
    obtain ⟨its, rv, pl, hz⟩ := I2.list hs
    refine call_tuple_list pl.isList (fun h' hk => ?_) (by rw [List.size_toArray, ← rv.length]; exact hz)
    have I1 : Inv X pins σ H2 { s2 with heap := h' } := I2.kept (t' := s2.toks) hk
    have e1 : (h'.push { cls := .type "tuple", data := .seq its.toArray }).get? h'.objs.size = some ({ cls := .type "tuple", data := .seq its.toArray } : Obj) := Heap.get?_push_size _ rfl
    have I3 : Inv X pins σ (upd H2 h'.objs.size (.frz { cls := .type "tuple", data := .seq its.toArray } (.tup xs))) { s2 with heap := h'.push { cls := .type "tuple", data := .seq its.toArray } } :=
      I1.laid (t' := s2.toks) (fun b o e => Heap.get?_push_of_some _ e) (Nat.le_refl _) ⟨e1, hz, its, rv, IsTup.new _ _⟩
    exact ⟨.ref h'.objs.size, _, I3, rfl, q _ _ rfl (I1.hok.fresh (Nat.le_refl _))⟩
  · refine ⟨ρ, S, _, re, rs, q, fun x S1 v H1 q1 g1 r1 => ?_⟩
    try dsimp only at q1
    split at q1
    · rename_i ds hd
      obtain ⟨a, vs, rfl, t1, s1⟩ := lsts_at hd r1 g1.rs
      exact ⟨a, vs, rfl, t1, fun p o ho hp => newX_ok g1.rs s1 q1 (k.go g1) ho p hp⟩
    · exact q1.elim
/-- a method of such a tuple -/
def dBMX (o : RMD) (δ : TED) (α : TAD) : TED := fun ρ S Q => δ ρ S fun x S1 => (∃ ds, x = .tpx ds) ∧ α ρ S1 fun xs S2 => o x xs S2 Q
theorem de_bmX {o : RMD} {name : Str} {id : String} {apos cpos : Pos} {ob : Expr} (pa : PlainAttrs "tuple") (slot : Slot "tuple" name id) (hty : typeOf (.builtin id) = pure (.type "method_descriptor")) (hm : MtD X id o) (ho : DE X ob δ) (ha : DA X (e :: es) α)
    (hbase : attributeBase ob name X.env (eval ob X.env) = eval ob X.env := by rfl)
    (hfew : ((backTo cpos (starEach (e :: es) X.env)).all (fun x => !x.1) && (backToKw cpos (keywordEach [] X.env)).all (fun x => x.1.isSome)
      && decide ((e :: es).length + ([] : List Keyword).length + (if ([] : List Keyword).isEmpty then 0 else 1) < 30)) = true := by rfl)
    (hline : (apos.endLine == cpos.line) = true := by rfl) (hs : starEach (e :: es) X.env = (false, eval e X.env) :: starEach es X.env := by rfl) (hplain : (backTo cpos (starEach es X.env)).any (·.1) = false := by rfl) :
    DE X (.Call (.Attribute ob name apos) (e :: es) [] cpos) (dBMX o δ α) := by
  refine peW (t := fun σ H Q => LE X.K δ σ H fun x H1 => (∃ a oo vs, x = .ref a ∧ H1 a = some (.frz oo (.tup vs)) ∧ oo.dict = none) ∧ LA X.K α σ H1 fun xs H2 => LfM X.K o x xs H2 Q) ⟨fun pins s σ H Q I h => ?_⟩ fun σ H Q hh => ?_
  · refine wpAny_Call_method_late hbase hfew hline rfl (thn (ho.run pins s σ H _ I h) fun v s1 ⟨x, H1, I1, r1, ⟨a, oo, vs, ex, hx, hd⟩, q1⟩ => ?_)
    subst ex
    obtain rfl : v = .ref a := r1
    obtain ⟨h1, _, _, _, _, h2, h3, _⟩ := I1.hok a _ hx
    rw [h1] at h2
    have h4 := Option.some.inj h2
    subst h4
    refine ⟨"tuple", id, pa, slot, hty, ⟨_, h1, h3⟩, fun b eb => ?_, ?_⟩
    · cases eb
      exact ⟨_, h1, hd⟩
    have hA := ha.run cpos pins s1 σ H1 _ I1 q1
    rw [hs] at hA ⊢
    refine Calls.callWith_builtin (by show (false || (backTo cpos (starEach es X.env)).any (·.1)) = false; rw [hplain] <;> rfl) (Calls.evalArgs_plain ?_)
    exact thn hA fun us s2 ⟨vs, H2, I2, r2, q2⟩ => hm pins s2 σ H2 (.ref a) vs _ us Q I2 rfl r2 q2
  · obtain ⟨ρ, S, Qd, re, rs, q, k⟩ := hh
    refine ⟨ρ, S, _, re, rs, q, fun x S1 v H1 q1 g1 r1 => ?_⟩
    obtain ⟨⟨ds, rfl⟩, q1⟩ := q1
    have r1' := r1
    rw [RD] at r1'
    obtain ⟨a, oo, vs, e1, e2, e3, e4⟩ := r1'
    refine ⟨⟨a, oo, vs, e1, e2, e3⟩, ρ, S1, _, re.tp g1.tp, g1.rs, q1, fun xs S2 ws H2 q2 g2 r2 => ?_⟩
    exact ⟨_, xs, S2, Qd, r1.tp g2.tp, r2, g2.rs, q2, k.go (g1.trans g2)⟩
end

section
variable {X : Cx}
/-- the first place of an int -/
def firstAt (ns : List Int) (z : Int) (j : Nat) : Prop := ns[j]? = some z ∧ ∀ m, m < j → ns[m]? ≠ some z
theorem flat_ints (ns : List Int) : (ns.map V.int).all flatV = true := by
  rw [List.all_map]
  exact List.all_eq_true.mpr fun _ _ => rfl
theorem tup_index_ints : MtR X "tuple.index" (fun x xs H Q => ∃ p, ∃ ys : List Int, ∃ z j, x = .ref p ∧ xs = [.int z] ∧ SqT X.K H p (ys.map V.int) ∧ firstAt ys z j ∧ Q (.int (j : Nat)) H) := by
  intro pins s σ H x xs v us Q I rx rs h
  obtain ⟨p, ys, z, j, rfl, rfl, hq, ⟨hy, hno⟩, q⟩ := h
  cases rx
  obtain ⟨u, rfl, t, rfl⟩ := vals1 rs
  obtain ⟨its, r, pl, hz⟩ := I.tuple hq
  obtain ⟨⟨cls, dd, dt, sl⟩, ho, hc, n, hd⟩ := pl
  simp only at hc hd
  subst hc
  subst hd
  have hl : its.toArray.size = ys.length := by rw [List.size_toArray, ← r.length, List.length_map]
  have hj : j < its.toArray.size := by rw [hl]; exact (List.getElem?_eq_some_iff.mp hy).1
  have at' : ∀ (m : Nat) (hm : m < its.toArray.size), ∃ y t', ys[m]? = some y ∧ its.toArray[m] = Value.int y t' := fun m hm => by
    have hm' : m < ys.length := by rw [← hl]; exact hm
    obtain ⟨w, hw, t', hw'⟩ := r.get (i := m) (x := .int ys[m]) (by simp [hm'])
    refine ⟨ys[m], t', List.getElem?_eq_getElem hm', ?_⟩
    have e := (List.getElem?_eq_some_iff.mp hw).2
    rw [← hw', ← e]
    simp
  refine call_meets PySem.F.slot_tuple_index ⟨_, ho, rfl⟩ PySem.F.entry_tuple_index (PySem.F.args_tuple_index_2 _ _) (TI.tuple_indexAt p its.toArray n dd sl (.int z t) (eqU (.int z)) j hj ?_ ?_)
    ⟨ho, fun w hw => mem_eqAt (x := .int z) ⟨t, rfl⟩ rfl r (flat_ints ys) w (by simpa using hw), ⟨.int (j : Nat), H, I.tok _, ⟨_, rfl⟩, q⟩⟩
  · obtain ⟨y, t', h1, h2⟩ := at' j hj
    rw [hy] at h1
    cases h1
    rw [h2]
    show (z == z) = true
    exact beq_self_eq_true z
  · intro m hm hmj
    obtain ⟨y, t', h1, h2⟩ := at' m hm
    rw [h2]
    show (y == z) = false
    exact beq_eq_false_iff_ne.mpr fun e => hno m hmj (e ▸ h1)
/-- t.index(z), a tuple of ints; l.index(z), a list of ints -/
def oIndex : RMD := fun d ds S Q => match ds with
  | [.int z] => ∃ ns j, S.seq d = some (ns.map D.int) ∧ firstAt ns z j ∧ Q (.int (j : Nat)) S
  | _ => False
def oIndexL : RMD := fun d ds S Q => match ds with
  | [.int z] => ∃ ns j, S.lsts d = some (ns.map D.int) ∧ firstAt ns z j ∧ Q (.int (j : Nat)) S
  | _ => False
def oIndexT : RMD := fun d ds S Q => match ds with
  | [.int z] => ∃ ns j, d = .tpx (ns.map D.int) ∧ firstAt ns z j ∧ Q (.int (j : Nat)) S
  | _ => False
theorem m_indexT : MtD X "tuple.index" oIndexT := mtD_of tup_index_ints fun d ds x xs S H Qd Q r1 r2 rs q k => by
  unfold oIndexT at q
  split at q
  · obtain ⟨ns, j, rfl, hf, q⟩ := q
    obtain ⟨v, rfl, r3⟩ := r2.one
    rw [RD] at r1
    rw [RD] at r3
    obtain ⟨a, o, vs, rfl, h1, _, h2⟩ := r1
    have e := rds_ints h2
    subst e
    subst r3
    exact ⟨a, ns, _, j, rfl, rfl, .inl (.inr ⟨o, h1⟩), hf, k.here rs q RD.int⟩
  · exact q.elim
theorem m_index : MtD X "list.index" oIndexL := mtD_of mt_index fun d ds x xs S H Qd Q r1 r2 rs q k => by
  unfold oIndexL at q
  split at q
  · obtain ⟨ns, j, hs, ⟨hy, hno⟩, q⟩ := q
    obtain ⟨v, rfl, r3⟩ := r2.one
    obtain ⟨a, vs, rfl, h1, h2⟩ := lsts_at hs r1 rs
    have e := rds_ints h2
    subst e
    rw [RD] at r3
    subst r3
    refine ⟨a, ns.map V.int, _, j, _, rfl, rfl, h1, rfl, flat_ints ns, by rw [List.getElem?_map, hy]; rfl, by unfold eqV; exact beq_self_eq_true _, fun m z' hm hz' => ?_, k.here rs q RD.int⟩
    rw [List.getElem?_map] at hz'
    cases e : ns[m]? with
    | none => rw [e] at hz'; cases hz'
    | some y =>
      rw [e] at hz'
      cases hz'
      show (y == _) = false
      exact beq_eq_false_iff_ne.mpr fun z => hno m hm (z ▸ e)
  · exact q.elim
/-- xs.insert(i, y); xs.remove(k) of ints -/
def oInsert : RMD := fun d ds S Q => match S.trk d, ds with
  | some (p, es), [.int i, x] => (es.length < sizeLine ∧ 0 ≤ i ∧ i < 2 ^ 63) ∧ Q .non (S.up p (.lst (es.take i.toNat ++ [x] ++ es.drop i.toNat)))
  | _, _ => False
theorem m_insert : MtD X "list.insert" oInsert := mtD_of mt_insert fun d ds x xs S H Qd Q r1 r2 rs q k => by
  unfold oInsert at q
  split at q
  · rename_i y p es i z ht
    obtain ⟨rfl, hs⟩ := trk_is ht
    obtain ⟨v, w, rfl, r3, r4⟩ := r2.two
    obtain ⟨vs, h1, h2⟩ := rs p _ hs
    rw [RD] at r1
    rw [RD] at r3
    subst r3
    have g := Go.wrote (mo' := .lst (es.take i.toNat ++ [z] ++ es.drop i.toNat)) rs hs fun S' H' tp e => ⟨_, e, (((h2.tp tp).take i.toNat).snoc (r4.tp tp)).append ((h2.tp tp).drop i.toNat)⟩
    exact ⟨p, vs, i, w, r1, rfl, h1, by rw [h2.len]; exact q.1.1, q.1.2.1, q.1.2.2, k _ _ _ _ q.2 g RD.non⟩
  · exact q.elim
def oRemove : RMD := fun d ds S Q => match S.trk d, ds with
  | some (p, es), [.int z] => ∃ ns j, es = ns.map D.int ∧ firstAt ns z j ∧ Q .non (S.up p (.lst ((ns.eraseIdx j).map D.int)))
  | _, _ => False
theorem m_remove : MtD X "list.remove" oRemove := mtM_of mt_remove fun d ds x xs S H Qd Q r1 r2 rs q k => by
  unfold oRemove at q
  split at q
  · rename_i y p es z ht
    obtain ⟨ns, j, rfl, ⟨hy, hno⟩, q⟩ := q
    obtain ⟨rfl, hs⟩ := trk_is ht
    obtain ⟨v, rfl, r3⟩ := r2.one
    obtain ⟨vs, h1, h2⟩ := rs p _ hs
    have e := rds_ints h2
    subst e
    rw [RD] at r1
    rw [RD] at r3
    subst r3
    have g := Go.wrote (mo' := .lst ((ns.eraseIdx j).map D.int)) rs hs fun S' H' tp e => ⟨_, e, ints_rds _⟩
    exact ⟨p, ns, z, j, r1, rfl, h1, hy, hno, k _ _ _ _ q g RD.non⟩
  · exact q.elim
/-! ### len(set(x)), distinct ints -/
variable {e : Expr} {δ : TED} {p p2 q pos : Pos}
def dLenSet (δ : TED) : TED := fun ρ S Q => δ ρ S fun x S1 => ∃ ns : List Int, S1.seq x = some (ns.map D.int) ∧ ns.Nodup ∧ ns.length ≤ 2000 ∧ Q (.int (ns.length : Nat)) S1
theorem set_size {w : World} {h : Heap} {a : Addr} {ns : List Int} {c : Nat} (R : SetR w h a (fun j => decide (j ∈ ns)) c) (hn : ns.Nodup) : c = ns.length := by
  obtain ⟨o, es, ep, t, ho, hex, hd, hg, hnd, hmem, hb, hf, hsz, _⟩ := R
  have hp : (es.toList.map keyOf).Perm ns := (List.perm_ext_iff_of_nodup hnd hn).mpr fun k => by
    rw [← hmem k]; simp
  have := hp.length_eq
  rw [List.length_map, Array.length_toList, hsz] at this
  exact this
theorem de_lenSet (hm : X.mg "len" = none) (hm2 : X.mg "set" = none) (ha : DE X e δ) (hg : Gl X "len" := by rfl) (hg2 : Gl X "set" := by rfl) (hc : X.calm = true := by rfl) (na : starEach [e] X.env = (false, eval e X.env) :: starEach [] X.env := by rfl) :
    DE X (.Call (.Name "len" p) [.Call (.Name "set" p2) [e] [] q] [] pos) (dLenSet δ) := by
  refine peW (t := fun σ H Q => LE X.K δ σ H fun x H1 => ∃ (l : Addr) (ns : List Int), x = .ref l ∧ (SqL X.K H1 l (ns.map V.int) ∨ SqT X.K H1 l (ns.map V.int)) ∧ ns.Nodup ∧ ns.length ≤ 2000 ∧ Q (.int (ns.length : Nat)) H1) ⟨fun pins s σ H Q I h => ?_⟩ fun σ H Q ⟨ρ, S, Qd, re, rs, q, k⟩ => ?_
  · refine Call_ (ld_blt I hg hm PySem.boot_len ?_)
    refine PyProof.Rows.callWith_builtin1 (PyProof.Rows.args_cons ?_ rfl) rfl rfl
    refine Call_ (ld_blt I hg2 hm2 PyProof.Rows.boot_set ?_)
    refine PyProof.Rows.callWith_type1 (PyProof.Rows.args_cons (thn (ha.run pins s σ H _ I h) fun v s1 ⟨x, H1, I1, r1, q1⟩ => PyProof.Rows.args_nil ?_) na) na rfl
    obtain ⟨l, ns, rfl, hq, hnd, hl, q1⟩ := q1
    cases r1
    rcases hq with hq | hq
    · obtain ⟨its, r, pl, hz⟩ := I1.list hq
      have hlen : its.toArray.size = ns.length := by rw [List.size_toArray, ← r.length, List.length_map]
      refine call_set_list (I1.ok.hd hc) pl.isList (ns := ns) (by simpa using r.ints) (by rw [hlen]; unfold scanBound; omega) fun h' tk hS hk => ?_
      refine PyProof.Rows.args_nil ?_
      rw [hlen, RZ.firstMet_nodup hnd ns.length (Nat.le_refl _), List.take_length] at hS
      obtain ⟨o, es, ep, t, ho, hex, hd, _, _, _, hf, hn⟩ := hS
      have I2 : Inv X pins σ H1 { s1 with heap := h', toks := tk } := I1.kept fun b o e => hk b o (Heap.lt_size e) e
      exact call_len_set ho hex hd hf (by rw [hn] <;> omega) ⟨.int ns.length, H1, I2.tok _, ⟨_, by rw [hn]⟩, q1⟩
    · obtain ⟨its, r, pl, hz⟩ := I1.tuple hq
      refine call_set_tupI ns (I1.ok.hd hc) (show s1.heap.IsTuple l its.toArray from pl) (by simpa using r.ints) (by unfold scanBound; omega) fun h' tk c hS hcle hk => ?_
      refine PyProof.Rows.args_nil ?_
      have hcn := set_size hS hnd
      obtain ⟨o, es, ep, t, ho, hex, hd, _, _, _, hb, hf, hn, _⟩ := hS
      have I2 : Inv X pins σ H1 { s1 with heap := h', toks := tk } := I1.kept hk
      exact call_len_set ho hex hd hf (by rw [hn] <;> omega) ⟨.int ns.length, H1, I2.tok _, ⟨_, by rw [hn, hcn]⟩, q1⟩
  · refine ⟨ρ, S, _, re, rs, q, fun x S1 v H1 q1 g1 r1 => ?_⟩
    obtain ⟨ns, hs, hnd, hl, q1⟩ := q1
    obtain ⟨a, vs, rfl, t1, s1⟩ := seq_at hs r1 g1.rs
    rw [rds_ints s1] at t1
    exact ⟨a, ns, rfl, t1, hnd, hl, (k.go g1).here g1.rs q1 RD.int⟩
/-! ### a, b, c = x, y, z -/
variable {a b c : Expr} {α : TAD}
theorem RDs.three {K : PySem.W.Frag} {S : Sto} {H : Hp} {d e f : D} {vs : List V} (h : RDs K S H [d, e, f] vs) : ∃ u v w, vs = [u, v, w] ∧ RD K S H d u ∧ RD K S H e v ∧ RD K S H f w := by
  rw [RDs] at h
  obtain ⟨v, r, rfl, h1, h2⟩ := h
  obtain ⟨u, w, rfl, h3, h4⟩ := h2.two
  exact ⟨v, u, w, rfl, h1, h3, h4⟩
theorem ds_par3 (i j l : Nat) {x y z : Str} {px py pz pt : Pos} {kt k2 pt2} (hN : X.N.Nodup) (ha : DA X [a, b, c] α) (hc : X.calm = true := by rfl) (hi : X.N[i]? = some x := by rfl) (hj : X.N[j]? = some y := by rfl) (hl : X.N[l]? = some z := by rfl) (hij : i ≠ j := by decide) (hil : i ≠ l := by decide) (hjl : j ≠ l := by decide)
    (hx : X.env.scope.names.lookup x = some .local := by rfl) (hy : X.env.scope.names.lookup y = some .local := by rfl) (hz : X.env.scope.names.lookup z = some .local := by rfl)
    (hw : swappedStores [.Tuple [.Name x px, .Name y py, .Name z pz] kt pt] (.Tuple [a, b, c] k2 pt2) X.env = pure (some [x, y, z]) := by rfl)
    (hs : swapsWithSole [.Tuple [.Name x px, .Name y py, .Name z pz] kt pt] (.Tuple [a, b, c] k2 pt2) pos.line X.env = pure false := by rfl) :
    DS X (.Assign [.Tuple [.Name x px, .Name y py, .Name z pz] kt pt] (.Tuple [a, b, c] k2 pt2) pos) (dPar3 i j l α) := psW (ps_par3 hc hN hi hj hl hij hil hjl hx hy hz ha hw hs) fun E σ H ⟨ρ, S, De, re, rs, q, k⟩ => by
  refine ⟨ρ, S, _, re, rs, q, fun ds S1 vs H1 q1 g1 r1 => ?_⟩
  try dsimp only at q1
  split at q1
  · obtain ⟨u, v, w, rfl, r2, r3, r4⟩ := r1.three
    exact ⟨u, v, w, rfl, k.nx _ _ _ _ q1 g1 ((((re.tp g1.tp).set i r2).set j r3).set l r4)⟩
  · exact q1.elim
/-! ### calls: a tuple whose object is known is a tuple -/
inductive Wks : List D → List D → Prop where
  | nil : Wks [] []
  | same {d : D} {ds es : List D} : Wks ds es → Wks (d :: ds) (d :: es)
  | tpx {xs ds es : List D} : Wks ds es → Wks (.tpx xs :: ds) (.tup xs :: es)
theorem Wks.rds {K : PySem.W.Frag} {S : Sto} {H : Hp} : ∀ {ds es : List D} {vs : List V}, Wks ds es → RDs K S H ds vs → RDs K S H es vs
  | _, _, _, .nil, h => h
  | _, _, vs, .same w, h => by
    rw [RDs] at h ⊢
    obtain ⟨v, r, e, h1, h2⟩ := h
    exact ⟨v, r, e, h1, w.rds h2⟩
  | _, _, vs, .tpx w, h => by
    rw [RDs] at h ⊢
    obtain ⟨v, r, e, h1, h2⟩ := h
    refine ⟨v, r, e, ?_, w.rds h2⟩
    rw [RD] at h1
    obtain ⟨a, o, us, e1, e2, _, e3⟩ := h1
    rw [RD]
    exact ⟨a, us, e1, .inl (.inr ⟨o, e2⟩), e3⟩
/-- a promise that takes such tuples too -/
def spW (sp : DSp) : DSp := fun ds S Q => ∃ es, Wks ds es ∧ sp es S Q
theorem lsp_W {K : PySem.W.Frag} {sp : DSp} {vs : List V} {H : Hp} {Q : VK} {E : XK} (h : LSp K (spW sp) vs H Q E) : LSp K sp vs H Q E := by
  obtain ⟨ds, S, Qd, r, rs, ⟨es, w, q⟩, k⟩ := h
  exact ⟨es, S, Qd, w.rds r, rs, q, k⟩
theorem Has.weak {P : Program} {w : World} {K : PySem.W.Frag} {mg : Str → Option Value} {base : Heap} {k : Nat} {x : Str} {ps : List Str} {sp : DSp} (h : Has P w K mg base k x ps sp) : Has P w K mg base k x ps (spW sp) := by
  obtain ⟨f, fd, F, r⟩ := h
  refine ⟨f, fd, ?_, r⟩
  exact F.imp fun vs H Q E h => lsp_W h
end
end PL
/-! plain facts for the laws: draws, frames, blocks -/
namespace PL
open PySem PySem.Spec PySem.W PyProof.Rows L2
abbrev DeN (Q : QD) : EndsD := { nx := fun _ S' => FzQ Q .non S', rt := FzQ Q }
def eI (xs : List Int) : D := .tup (xs.map .int)
theorem cut_tail (r : List Int) : PL.cutD (r.map D.int) (some 1) none = r.tail.map D.int := by
  unfold PL.cutD
  cases r with
  | nil => rfl
  | cons x r =>
    have h1 : HT.sIx ((x :: r).map D.int).length 0 (some 1) = 1 := by simp [HT.sIx]
    have h2 : HT.sIx ((x :: r).map D.int).length ((x :: r).map D.int).length none = ((x :: r).map D.int).length := rfl
    rw [h1, h2]
    simp [List.take_of_length_le]
theorem pair_le : ∀ {r : List Int} {p : Int × Int}, r.Pairwise (· ≤ ·) → p ∈ List.zip r r.tail → p.1 ≤ p.2
  | [], p, _, h => by simp at h
  | [x], p, _, h => by simp at h
  | x :: y :: r, p, o, h => by
    rw [List.tail_cons, List.zip_cons_cons] at h
    rcases List.mem_cons.mp h with rfl | h
    · exact (List.pairwise_cons.mp o).1 y (List.mem_cons_self ..)
    · exact pair_le (List.pairwise_cons.mp o).2 h
theorem small {n : Nat} (h : n ≤ 1000000) : n ≤ sizeLine := by rw [sizeLine_eq]; omega
theorem nn_sum : ∀ {c : List Int}, (∀ x ∈ c, 0 ≤ x) → 0 ≤ c.sum ∧ ∀ x ∈ c, x ≤ c.sum
  | [], _ => ⟨by simp, by simp⟩
  | y :: c, h => by
    obtain ⟨h1, h2⟩ := nn_sum (c := c) fun x hx => h x (List.mem_cons_of_mem _ hx)
    have := h y List.mem_cons_self
    rw [List.sum_cons]
    refine ⟨by omega, fun x hx => ?_⟩
    rcases List.mem_cons.mp hx with rfl | hx
    · omega
    · have := h2 x hx; omega
def cA (c : List Int) (i : Nat) : Int := c.getD i 0
theorem cA_mem {c : List Int} {i : Nat} (h : i < c.length) : cA c i ∈ c := by
  unfold cA; rw [List.getD_eq_getElem?_getD, List.getElem?_eq_getElem h]; exact List.getElem_mem h
theorem cA_set_same {c : List Int} {i : Nat} {x : Int} (h : i < c.length) : cA (c.set i x) i = x := by
  unfold cA; rw [List.getD_eq_getElem?_getD, List.getElem?_set_self h]; rfl
theorem cA_set_ne {c : List Int} {i j : Nat} {x : Int} (h : i ≠ j) : cA (c.set i x) j = cA c j := by
  unfold cA; rw [List.getD_eq_getElem?_getD, List.getD_eq_getElem?_getD, List.getElem?_set_ne h]
theorem sum_setA {c : List Int} {i : Nat} {x : Int} (h : i < c.length) : (c.set i x).sum = c.sum - cA c i + x := by
  induction c generalizing i with
  | nil => simp at h
  | cons y c ih =>
    cases i with
    | zero => simp [cA]; omega
    | succ i =>
      rw [List.set_cons_succ, List.sum_cons, List.sum_cons, ih (by simpa using h)]
      have : cA (y :: c) (i + 1) = cA c i := rfl
      rw [this]; omega
theorem sorted_at {r : List Int} (o : r.Pairwise (· ≤ ·)) {a b : Nat} (h : a ≤ b) (hb : b < r.length) : r.getD a 0 ≤ r.getD b 0 := by
  rw [List.getD_eq_getElem?_getD, List.getD_eq_getElem?_getD, List.getElem?_eq_getElem hb, List.getElem?_eq_getElem (by omega)]
  show r[a] ≤ r[b]
  by_cases e : a = b
  · subst e; exact Int.le_refl _
  · exact List.pairwise_iff_getElem.mp o a b (by omega) hb (by omega)
theorem rep_zero (n : Nat) : (List.replicate n [D.int 0]).flatten = (List.replicate n (0 : Int)).map D.int := by
  induction n with
  | zero => rfl
  | succ n ih => rw [List.replicate_succ, List.replicate_succ, List.flatten_cons, List.map_cons, ih]; rfl
theorem drop_at {α : Type} {l : List α} {k : Nat} {x : α} {xs : List α} (h : x :: xs = l.drop k) : ∃ hk : k < l.length, x = l[k] ∧ xs = l.drop (k + 1) := by
  have hk : k < l.length := by
    have := congrArg List.length h
    rw [List.length_cons, List.length_drop] at this
    omega
  rw [List.drop_eq_getElem_cons hk] at h
  obtain ⟨h1, h2⟩ := List.cons.inj h
  exact ⟨hk, h1, h2⟩
theorem drop_nil {α : Type} {l : List α} {k : Nat} (h : [] = l.drop k) : l.length ≤ k := by
  have := congrArg List.length h
  rw [List.length_nil, List.length_drop] at this
  omega
def PotO (b : Nat) (o : MO) : Prop := ∃ own small c : Int, o = .lst [.int own, .int small, .int c] ∧ 0 ≤ own ∧ 0 ≤ small ∧ small < 2 ^ 62 ∧ 0 ≤ c ∧ c ≤ b
theorem PotO.mono {b b' : Nat} {o : MO} (h : PotO b o) (hb : b ≤ b') : PotO b' o := by
  obtain ⟨own, small, c, e, h1, h2, h3, h4, h5⟩ := h
  exact ⟨own, small, c, e, h1, h2, h3, h4, by omega⟩
theorem cmul_small {a b : Int} {n m : Nat} (h1 : a.natAbs ≤ n) (h2 : b.natAbs ≤ m) (hn : n < 2 ^ 1000) (hm : m < 2 ^ 1000) : CMul' a b := ⟨Nat.lt_of_le_of_lt h1 hn, Nat.lt_of_le_of_lt h2 hm⟩
theorem cut_one (ns : List Int) : PL.cutD (ns.map D.int) none (some 1) = (ns.take 1).map D.int := by
  unfold PL.cutD
  cases ns with
  | nil => rfl
  | cons x ns =>
    have h1 : HT.sIx ((x :: ns).map D.int).length 0 none = 0 := rfl
    have h2 : HT.sIx ((x :: ns).map D.int).length ((x :: ns).map D.int).length (some 1) = 1 := by simp [HT.sIx]
    rw [h1, h2]; rfl
theorem cut_take (r : List Int) (k : Int) (h0 : 0 ≤ k) : PL.cutD (r.map D.int) none (some k) = (r.take k.toNat).map D.int := by
  unfold PL.cutD
  have h1 : HT.sIx (r.map D.int).length 0 none = 0 := rfl
  have h2 : HT.sIx (r.map D.int).length (r.map D.int).length (some k) = min k.toNat r.length := by
    unfold HT.sIx; simp only [if_neg (Int.not_lt.mpr h0), List.length_map]
  rw [h1, h2, List.drop_zero, Nat.sub_zero, List.map_take]
  rw [← List.length_map (as := r) (f := D.int), ← List.take_eq_take_min]
theorem take_next {r : List Int} {n : Nat} (h : n < r.length) : (r.take (n + 1)).sum = (r.take n).sum + r.getD n 0 := by
  rw [List.take_succ, List.getElem?_eq_getElem h, List.sum_append, List.getD_eq_getElem?_getD, List.getElem?_eq_getElem h]; simp
theorem eqD_nil {ds : List D} : eqD (.lst ds) (.lst []) = ds.isEmpty := by
  unfold eqD
  cases ds with
  | nil => simp [D.py, D.pys, PyData.eqv, PyData.eqvAll]
  | cons d ds => simp [D.py, D.pys, PyData.eqv, PyData.eqvAll]

theorem atI_head {α : Type} {l : List α} {x : α} (h : l.head? = some x) : atI l 0 = some x := by
  cases l with
  | nil => cases h
  | cons a l =>
    have e : ixN (a :: l).length 0 = some 0 := ixN_nn (by decide) (by rw [List.length_cons]; omega)
    unfold atI
    rw [e]
    exact h
theorem pair_gt : ∀ {r : List Int} {p : Int × Int}, r.Pairwise (· > ·) → p ∈ List.zip r r.tail → p.2 < p.1
  | [], p, _, h => by simp at h
  | [x], p, _, h => by simp at h
  | x :: y :: r, p, o, h => by
    rw [List.tail_cons, List.zip_cons_cons] at h
    rcases List.mem_cons.mp h with rfl | h
    · exact (List.pairwise_cons.mp o).1 y (List.mem_cons_self ..)
    · exact pair_gt (List.pairwise_cons.mp o).2 h
/-- all but p as it was -/
def Fr (p : Addr) (S S' : Sto) : Prop := ∀ q u, q ≠ p → S q = some u → S' q = some u
theorem Fr.refl {p : Addr} {S : Sto} : Fr p S S := fun _ _ _ h => h
theorem Fr.trans {p : Addr} {S S1 S2 : Sto} (a : Fr p S S1) (b : Fr p S1 S2) : Fr p S S2 := fun q u n h => b q u n (a q u n h)
theorem Fr.new {p x : Addr} {S S' : Sto} {o : MO} (a : Fr p S S') (h : S' x = none) : Fr p S (S'.up x o) := fun q u n e => by
  have := a q u n e
  rw [Sto.up_ne (fun z => by subst z; rw [h] at this; cases this)]; exact this
theorem Fr.old {p x : Addr} {S S' : Sto} {o : MO} (a : Fr p S S') (h : S x = none) : Fr p S (S'.up x o) := fun q u n e => by
  rw [Sto.up_ne (fun z => by subst z; rw [h] at e; cases e)]; exact a q u n e
theorem Fr.del {p x : Addr} {S S' : Sto} (a : Fr p S S') (h : S x = none) : Fr p S (S'.del x) := fun q u n e => by
  rw [Sto.del_ne (fun z => by subst z; rw [h] at e; cases e)]; exact a q u n e
theorem Fr.own {p : Addr} {S S' : Sto} {o : MO} (a : Fr p S S') : Fr p S (S'.up p o) := fun q u n e => by
  rw [Sto.up_ne n]; exact a q u n e
theorem Fr.none {p x : Addr} {S S' : Sto} (a : Fr p S S') (hx : x ≠ p) (h : S' x = none) : S x = none := by
  cases e : S x with
  | none => rfl
  | some u => rw [a x u hx e] at h; cases h
/-- draws in a comprehension: [int(take(pot, n)) for _ in range(k)] -/
theorem lc_draws {p : Addr} {n : Int} {b : Nat} {o : MO} {S : Sto} {Q : QD} {ρ0 : DEnv} {γ : TGD} {el : TED} (l : List D) (hS : S p = some o) (hp : PotO b o) (hl : l.length ≤ 1000)
    (f : Int → D) (hγ : ∀ x S' N o0 b0, S' p = some o0 → PotO b0 o0 → b0 ≤ 1000000 → (∀ k o', 0 ≤ k → k < n → PotO (b0 + 1) o' → N (f k) (S'.up p o')) → γ x ρ0 S' fun ρ' S1 => el ρ' S1 N)
    (hb : b ≤ 100000) (q : ∀ (vs : List Int) o' S', vs.length = l.length → (∀ v ∈ vs, 0 ≤ v ∧ v < n) → S' p = some o' → PotO (b + l.length) o' → Fr p S S' → Q (.lst (vs.map f)) S') :
    ∀ Dl, S Dl = none → True ∧ lcD Dl (fun _ => True) ρ0 γ dYes el l [] (S.up Dl (.lst [])) (endL false Dl Q) := by
  have inv := lc_run (r := false) (ρ0 := ρ0) (γ := γ) (t := dYes) (el := el) (it := ⟨l, fun _ => True⟩) (S := S) (Q := Q) (fun xs acc S' => ∃ (vs : List Int) (o' : MO), acc = vs.map f ∧ vs.length + xs.length = l.length ∧ (∀ v ∈ vs, 0 ≤ v ∧ v < n) ∧ S' p = some o' ∧ PotO (b + vs.length) o' ∧ Fr p S S')
    (fun _ => trivial) (small (by show l.length ≤ _; omega)) (fun Dl hD => ⟨[], o, rfl, by simp, by simp, by rw [Sto.up_ne (ne_of_in hS hD)]; exact hS, hp, Fr.refl.new hD⟩) ?_ ?_ ?_
  · exact inv
  · rintro x xs acc S' _ ⟨vs, o', rfl, hlen, hv, hS', hp', hfr⟩ Dl hD hDl N M hN
    have hDp : Dl ≠ p := fun z => by subst z; rw [hD] at hS; cases hS
    simp only [dYes]
    rw [List.length_cons] at hlen
    refine hγ x S' N o' (b + vs.length) hS' hp' (by omega) (fun k o2 h0 h1 h2 => ?_)
    refine hN _ _ (by rw [Sto.up_ne hDp]; exact hDl) (by rw [List.length_map, sizeLine_eq]; omega) ⟨vs ++ [k], o2, by rw [List.map_append]; rfl, by simp; omega, fun v hv' => ?_, ?_, ?_, ?_⟩
    · rcases List.mem_append.mp hv' with z | z
      · exact hv v z
      · rw [List.mem_singleton.mp z]; exact ⟨h0, h1⟩
    · rw [Sto.up_ne (Ne.symm hDp)]; exact Sto.up_same
    · rw [List.length_append]; exact h2
    · exact (hfr.own).old hD
  · rintro x xs acc S' ⟨vs, o', rfl, hlen, _⟩
    rw [List.length_map]
    show _ ≤ l.length
    omega
  · rintro Dl acc S' hD ⟨vs, o', rfl, hlen, hv, hS', hp', hfr⟩ hDl
    have hDp : Dl ≠ p := fun z => by subst z; rw [hD] at hS; cases hS
    rw [List.length_nil, Nat.add_zero] at hlen
    rw [hlen] at hp'
    show Q (.lst _) _
    exact q vs o' _ hlen hv (by rw [Sto.del_ne (Ne.symm hDp)]; exact hS') hp' (hfr.del hD)
theorem seqG {t u : TSD} {De : EndsD} {ρ : DEnv} {S : Sto} (h : ∀ v : TSD, v = u → dSeq t v De ρ S) : dSeq t u De ρ S := h u rfl
theorem forG {ι : TID} {γ : TGD} {τ : TSD} {De : EndsD} {ρ : DEnv} {S : Sto} (h : ∀ v : TSD, v = τ → dFor ι γ v De ρ S) : dFor ι γ τ De ρ S := h τ rfl
theorem rep_map {α : Type} (f : α → D) (x : α) (n : Nat) : (List.replicate n [f x]).flatten = (List.replicate n x).map f := by
  induction n with
  | zero => rfl
  | succ n ih => rw [List.replicate_succ, List.replicate_succ, List.flatten_cons, List.map_cons, ih]; rfl
theorem getD_rev {α : Type} {l : List α} {i : Nat} (d : α) (h : i < l.length) : l.reverse.getD i d = l.getD (l.length - 1 - i) d := by
  rw [List.getD_eq_getElem?_getD, List.getD_eq_getElem?_getD, List.getElem?_reverse h]
end PL
namespace L45
open PySem PySem.Spec PySem.W PyProof.Rows L2 PL
abbrev N_is_int : List Str := ["value", "low", "high"]
def t_is_int  : TSD := (dRet (dAndV (dIsi "int" (dVar 0)) (dAndV (dNotV (dIsi "bool" (dVar 0))) (dChain oLe oLe (dVar 1) (dVar 0) (dVar 2)))))
abbrev N_are_ints : List Str := ["value", "low", "high", "one"]
def t_are_ints (sp_is_int : DSp) : TSD := (dRet (dAndV (dIsi "tuple" (dVar 0)) (dCB oAll (dCons (dLc false (dIt (dVar 0)) (gN 3) dYes (dCall sp_is_int (dCons (dVar 3) (dCons (dVar 1) (dCons (dVar 2) dNil)))) [3]) dNil))))
abbrev N_is_told : List Str := ["value", "sizes"]
def t_is_told  : TSD := (dRet (dAndV (dIsi "tuple" (dVar 0)) (dAndV (dOp (oIn false) (dCB oLen (dCons (dVar 0) dNil)) (dVar 1)) (dIsi "str" (dOp oIx (dVar 0) (dC (.int 0)))))))
abbrev N_is_order : List Str := ["value", "many"]
def t_is_order (sp_are_ints : DSp) : TSD := (dRet (dAndV (dCall sp_are_ints (dCons (dVar 0) (dCons (dC (.int 0)) (dCons (dOp oSub (dVar 1) (dC (.int 1))) dNil)))) (dAndV (dOp oEq (dCB oLen (dCons (dVar 0) dNil)) (dVar 1)) (dOp oEq (dLenSet (dVar 0)) (dVar 1)))))
abbrev N_is_job : List Str := ["value"]
def t_is_job (sp_are_ints : DSp) : TSD := (dSeq (dIfS (dOr (dNot (dTest (dCall sp_are_ints (dCons (dVar 0) (dCons (dC (.int 0)) (dCons (dC (.int 1000000)) dNil)))))) (dTest (dOp oNe (dCB oLen (dCons (dVar 0) dNil)) (dC (.int 3))))) (dRet (dC (.bl false))) dNext)
  (dRet (dAndV (dChain oLe oLe (dC (.int 1)) (dOp oIx (dVar 0) (dC (.int 0))) (dC (.int 10000))) (dOp oLe (dOp oIx (dVar 0) (dC (.int 1))) (dC (.int 10000))))))
abbrev N_are_jobs : List Str := ["value", "job"]
def t_are_jobs (sp_is_job : DSp) : TSD := (dRet (dAndV (dIsi "tuple" (dVar 0)) (dAndV (dOp oLe (dCB oLen (dCons (dVar 0) dNil)) (dC (.int 60))) (dCB oAll (dCons (dLc false (dIt (dVar 0)) (gN 1) dYes (dCall sp_is_job (dCons (dVar 1) dNil)) [1]) dNil)))))
abbrev N_look_at_jobs : List Str := ["jobs"]
def t_look_at_jobs (sp_are_jobs : DSp) : TSD := (dIfS (dNot (dTest (dCall sp_are_jobs (dCons (dVar 0) dNil)))) dNever dNext)
abbrev N_look_at_order : List Str := ["jobs", "order"]
def t_look_at_order (sp_look_at_jobs : DSp) (sp_is_order : DSp) : TSD := (dSeq (dDrop (dCall sp_look_at_jobs (dCons (dVar 0) dNil)))
  (dIfS (dNot (dTest (dCall sp_is_order (dCons (dVar 1) (dCons (dCB oLen (dCons (dVar 0) dNil)) dNil))))) dNever dNext))
abbrev N_told_ends : List Str := ["jobs", "order", "found", "here", "at"]
def t_told_ends  : TSD := (dSeq (dPar2 2 3 (dCons (dLst true dNil) (dCons (dC (.int 0)) dNil)))
  (dSeq (dFor (dIt (dVar 1)) (gN 4)
  (dSeq (dAug 3 oAddI (dOp oIx (dOp oIx (dVar 0) (dVar 4)) (dC (.int 0))))
  (dDrop (dBM oAppend (dVar 2) (dCons (dVar 3) dNil)))))
  (dRet (dVar 2))))
abbrev N_ends_of : List Str := ["jobs", "order"]
def t_ends_of (sp_look_at_order : DSp) (sp_told_ends : DSp) : TSD := (dSeq (dDrop (dCall sp_look_at_order (dCons (dVar 0) (dCons (dVar 1) dNil))))
  (dRet (dCB oTuple (dCons (dCall sp_told_ends (dCons (dVar 0) (dCons (dVar 1) dNil))) dNil))))
abbrev N_by_due : List Str := ["jobs", "due", "at", "job"]
def t_by_due  : TSD := (dRet (dLc false (dIt (dCB (oSorted false) (dCons (dLc false (dEnum (dVar 0)) (gT 2 (gsCons (gN 2) (gsCons (gN 3) gsNil))) dYes (dTup (dCons (dOp oIx (dVar 3) (dC (.int 2))) (dCons (dVar 2) dNil))) [2, 3]) dNil))) (gT 2 (gsCons (gN 1) (gsCons (gN 2) gsNil))) dYes (dVar 2) [1, 2]))
abbrev N_told_bar : List Str := ["jobs", "order", "at", "end"]
def t_told_bar (sp_by_due : DSp) (sp_told_ends : DSp) : TSD := (dSeq (dAsg 1 (dCall sp_by_due (dCons (dVar 0) dNil)))
  (dSeq (dFor (dZip2 (dVar 1) (dCall sp_told_ends (dCons (dVar 0) (dCons (dVar 1) dNil)))) (gT 2 (gsCons (gN 2) (gsCons (gN 3) gsNil)))
  (dIfS (dTest (dOp oGt (dVar 3) (dOp oIx (dOp oIx (dVar 0) (dVar 2)) (dC (.int 2))))) (dRet (dOp oIx (dOp oIx (dVar 0) (dVar 2)) (dC (.int 2)))) dNext))
  (dRet (dC .non))))
abbrev N_all_in_time : List Str := ["jobs", "bar"]
def t_all_in_time (sp_look_at_jobs : DSp) (sp_told_bar : DSp) (sp_by_due : DSp) : TSD := (dSeq (dDrop (dCall sp_look_at_jobs (dCons (dVar 0) dNil)))
  (dSeq (dAsg 1 (dCall sp_told_bar (dCons (dVar 0) dNil)))
  (dRet (dIf (dTest (dOp oIsN (dVar 1) (dC .non))) (dTup (dCons (dC (.str "order")) (dCons (dCB oTuple (dCons (dCall sp_by_due (dCons (dVar 0) dNil)) dNil)) dNil))) (dTup (dCons (dC (.str "by")) (dCons (dVar 1) dNil)))))))
abbrev N_shows_all_in_time : List Str := ["jobs", "value", "at", "end", "job"]
def t_shows_all_in_time (sp_look_at_jobs : DSp) (sp_is_told : DSp) (sp_is_order : DSp) (sp_told_ends : DSp) (sp_is_int : DSp) : TSD := (dSeq (dDrop (dCall sp_look_at_jobs (dCons (dVar 0) dNil)))
  (dSeq (dIfS (dNot (dTest (dCall sp_is_told (dCons (dVar 1) (dCons (dTup (dCons (dC (.int 2)) dNil)) dNil))))) (dRet (dC (.bl false))) dNext)
  (dSeq (dIfS (dTest (dOp oEq (dOp oIx (dVar 1) (dC (.int 0))) (dC (.str "order")))) (dSeq (dIfS (dNot (dTest (dCall sp_is_order (dCons (dOp oIx (dVar 1) (dC (.int 1))) (dCons (dCB oLen (dCons (dVar 0) dNil)) dNil))))) (dRet (dC (.bl false))) dNext)
  (dRet (dCB oAll (dCons (dLc false (dZip2 (dOp oIx (dVar 1) (dC (.int 1))) (dCall sp_told_ends (dCons (dVar 0) (dCons (dOp oIx (dVar 1) (dC (.int 1))) dNil)))) (gT 2 (gsCons (gN 2) (gsCons (gN 3) gsNil))) dYes (dOp oLe (dVar 3) (dOp oIx (dOp oIx (dVar 0) (dVar 2)) (dC (.int 2)))) [2, 3]) dNil)))) dNext)
  (dSeq (dIfS (dOr (dTest (dOp oNe (dOp oIx (dVar 1) (dC (.int 0))) (dC (.str "by")))) (dNot (dTest (dCall sp_is_int (dCons (dOp oIx (dVar 1) (dC (.int 1))) (dCons (dC (.int 0)) (dCons (dC (.int 1000000)) dNil))))))) (dRet (dC (.bl false))) dNext)
  (dRet (dOp oGt (dCB oSum (dCons (dLc false (dIt (dVar 0)) (gN 4) (dTest (dOp oLe (dOp oIx (dVar 4) (dC (.int 2))) (dOp oIx (dVar 1) (dC (.int 1))))) (dOp oIx (dVar 4) (dC (.int 0))) [4]) dNil)) (dOp oIx (dVar 1) (dC (.int 1)))))))))
abbrev N_least_lateness : List Str := ["jobs", "order", "late", "at", "end"]
def t_least_lateness (sp_look_at_jobs : DSp) (sp_by_due : DSp) (sp_told_ends : DSp) : TSD := (dSeq (dDrop (dCall sp_look_at_jobs (dCons (dVar 0) dNil)))
  (dSeq (dAsg 1 (dCall sp_by_due (dCons (dVar 0) dNil)))
  (dSeq (dAsg 2 (dLc false (dZip2 (dVar 1) (dCall sp_told_ends (dCons (dVar 0) (dCons (dVar 1) dNil)))) (gT 2 (gsCons (gN 3) (gsCons (gN 4) gsNil))) dYes (dOp oSub (dVar 4) (dOp oIx (dOp oIx (dVar 0) (dVar 3)) (dC (.int 2)))) [3, 4]))
  (dRet (dIf (dTest (dOp oNe (dVar 2) (dLst false dNil))) (dCB oMax (dCons (dVar 2) dNil)) (dC .non))))))
abbrev N_told_late : List Str := ["jobs", "kept", "here", "late", "at", "longest", "one"]
def t_told_late (sp_by_due : DSp) : TSD := (dSeq (dPar3 1 2 3 (dCons (dLst true dNil) (dCons (dC (.int 0)) (dCons (dLst true dNil) dNil))))
  (dSeq (dFor (dIt (dCall sp_by_due (dCons (dVar 0) dNil))) (gN 4)
  (dSeq (dDrop (dBM oAppend (dVar 1) (dCons (dVar 4) dNil)))
  (dSeq (dAug 2 oAddI (dOp oIx (dOp oIx (dVar 0) (dVar 4)) (dC (.int 0))))
  (dIfS (dTest (dOp oGt (dVar 2) (dOp oIx (dOp oIx (dVar 0) (dVar 4)) (dC (.int 2))))) (dSeq (dAsg 5 (dOp oIx (dCB oMax (dCons (dLc false (dIt (dVar 1)) (gN 6) dYes (dTup (dCons (dOp oIx (dOp oIx (dVar 0) (dVar 6)) (dC (.int 0))) (dCons (dVar 6) dNil))) [6]) dNil)) (dC (.int 1))))
  (dSeq (dDrop (dBM oRemove (dVar 1) (dCons (dVar 5) dNil)))
  (dSeq (dDrop (dBM oAppend (dVar 3) (dCons (dVar 5) dNil)))
  (dAug 2 oSub (dOp oIx (dOp oIx (dVar 0) (dVar 5)) (dC (.int 0))))))) dNext))))
  (dRet (dVar 3))))
abbrev N_fewest_late : List Str := ["jobs", "late", "at"]
def t_fewest_late (sp_look_at_jobs : DSp) (sp_told_late : DSp) (sp_by_due : DSp) : TSD := (dSeq (dDrop (dCall sp_look_at_jobs (dCons (dVar 0) dNil)))
  (dSeq (dAsg 1 (dCall sp_told_late (dCons (dVar 0) dNil)))
  (dRet (dTup (dCons (dC (.str "late")) (dCons (dCB oLen (dCons (dVar 1) dNil)) (dCons (dCB oTuple (dCons (dLst false (dStar (dLc false (dIt (dCall sp_by_due (dCons (dVar 0) dNil))) (gN 2) (dTest (dOp (oIn true) (dVar 2) (dVar 1))) (dVar 2) [2]) (dStar (dCB (oSorted false) (dCons (dVar 1) dNil)) dNil))) dNil)) dNil)))))))
abbrev N_late_in : List Str := ["jobs", "order", "at", "end"]
def t_late_in (sp_look_at_order : DSp) (sp_told_ends : DSp) : TSD := (dSeq (dDrop (dCall sp_look_at_order (dCons (dVar 0) (dCons (dVar 1) dNil))))
  (dRet (dCB oTuple (dCons (dCB (oSorted false) (dCons (dLc false (dZip2 (dVar 1) (dCall sp_told_ends (dCons (dVar 0) (dCons (dVar 1) dNil)))) (gT 2 (gsCons (gN 2) (gsCons (gN 3) gsNil))) (dTest (dOp oGt (dVar 3) (dOp oIx (dOp oIx (dVar 0) (dVar 2)) (dC (.int 2))))) (dVar 2) [2, 3]) dNil)) dNil))))
abbrev N_shows_fewest_late : List Str := ["jobs", "value", "few"]
def t_shows_fewest_late (sp_look_at_jobs : DSp) (sp_is_told : DSp) (sp_is_order : DSp) (sp_told_late : DSp) (sp_late_in : DSp) (sp_is_int : DSp) : TSD := (dSeq (dDrop (dCall sp_look_at_jobs (dCons (dVar 0) dNil)))
  (dSeq (dIfS (dOr (dNot (dTest (dCall sp_is_told (dCons (dVar 1) (dCons (dTup (dCons (dC (.int 3)) dNil)) dNil))))) (dOr (dTest (dOp oNe (dOp oIx (dVar 1) (dC (.int 0))) (dC (.str "late")))) (dNot (dTest (dCall sp_is_order (dCons (dOp oIx (dVar 1) (dC (.int 2))) (dCons (dCB oLen (dCons (dVar 0) dNil)) dNil))))))) (dRet (dC (.bl false))) dNext)
  (dSeq (dAsg 2 (dCB oLen (dCons (dCall sp_told_late (dCons (dVar 0) dNil)) dNil)))
  (dRet (dAndV (dCall sp_is_int (dCons (dOp oIx (dVar 1) (dC (.int 1))) (dCons (dVar 2) (dCons (dVar 2) dNil)))) (dOp oEq (dCB oLen (dCons (dCall sp_late_in (dCons (dVar 0) (dCons (dOp oIx (dVar 1) (dC (.int 2))) dNil))) dNil)) (dVar 2)))))))
abbrev N_told_total : List Str := ["jobs", "order", "at", "end"]
def t_told_total (sp_told_ends : DSp) : TSD := (dRet (dCB oSum (dCons (dLc false (dZip2 (dVar 1) (dCall sp_told_ends (dCons (dVar 0) (dCons (dVar 1) dNil)))) (gT 2 (gsCons (gN 2) (gsCons (gN 3) gsNil))) dYes (dOp (oMulA false) (dOp oIx (dOp oIx (dVar 0) (dVar 2)) (dC (.int 1))) (dVar 3)) [2, 3]) dNil)))
abbrev N_total_wait : List Str := ["jobs", "order"]
def t_total_wait (sp_look_at_order : DSp) (sp_told_total : DSp) : TSD := (dSeq (dDrop (dCall sp_look_at_order (dCons (dVar 0) (dCons (dVar 1) dNil))))
  (dRet (dCall sp_told_total (dCons (dVar 0) (dCons (dVar 1) dNil)))))
abbrev N_told_lightest : List Str := ["jobs", "found", "at", "ticks", "weight", "due", "spot"]
def t_told_lightest  : TSD := (dSeq (dAsg 1 (dLst true dNil))
  (dSeq (dFor (dEnum (dVar 0)) (gT 2 (gsCons (gN 2) (gsCons (gT 3 (gsCons (gN 3) (gsCons (gN 4) (gsCons (gN 5) gsNil)))) gsNil)))
  (dSeq (dAsg 6 (dC (.int 0)))
  (dSeq (dWhile (dAnd (dTest (dOp oLt (dVar 6) (dCB oLen (dCons (dVar 1) dNil)))) (dTest (dOp oLe (dOp (oMulA false) (dVar 4) (dOp oIx (dOp oIx (dVar 0) (dOp oIx (dVar 1) (dVar 6))) (dC (.int 0)))) (dOp (oMulA false) (dOp oIx (dOp oIx (dVar 0) (dOp oIx (dVar 1) (dVar 6))) (dC (.int 1))) (dVar 3)))))
  (dAug 6 oAddI (dC (.int 1))))
  (dDrop (dBM oInsert (dVar 1) (dCons (dVar 6) (dCons (dVar 2) dNil)))))))
  (dRet (dVar 1))))
abbrev N_least_wait : List Str := ["jobs", "order"]
def t_least_wait (sp_look_at_jobs : DSp) (sp_told_lightest : DSp) (sp_told_total : DSp) : TSD := (dSeq (dDrop (dCall sp_look_at_jobs (dCons (dVar 0) dNil)))
  (dSeq (dAsg 1 (dCall sp_told_lightest (dCons (dVar 0) dNil)))
  (dRet (dTup (dCons (dC (.str "order")) (dCons (dCall sp_told_total (dCons (dVar 0) (dCons (dVar 1) dNil))) (dCons (dCB oTuple (dCons (dVar 1) dNil)) dNil)))))))
abbrev N_shows_least_wait : List Str := ["jobs", "value", "least"]
def t_shows_least_wait (sp_look_at_jobs : DSp) (sp_is_told : DSp) (sp_is_order : DSp) (sp_told_total : DSp) (sp_told_lightest : DSp) (sp_is_int : DSp) : TSD := (dSeq (dDrop (dCall sp_look_at_jobs (dCons (dVar 0) dNil)))
  (dSeq (dIfS (dOr (dNot (dTest (dCall sp_is_told (dCons (dVar 1) (dCons (dTup (dCons (dC (.int 3)) dNil)) dNil))))) (dOr (dTest (dOp oNe (dOp oIx (dVar 1) (dC (.int 0))) (dC (.str "order")))) (dNot (dTest (dCall sp_is_order (dCons (dOp oIx (dVar 1) (dC (.int 2))) (dCons (dCB oLen (dCons (dVar 0) dNil)) dNil))))))) (dRet (dC (.bl false))) dNext)
  (dSeq (dAsg 2 (dCall sp_told_total (dCons (dVar 0) (dCons (dCall sp_told_lightest (dCons (dVar 0) dNil)) dNil))))
  (dRet (dAndV (dCall sp_is_int (dCons (dOp oIx (dVar 1) (dC (.int 1))) (dCons (dVar 2) (dCons (dVar 2) dNil)))) (dOp oEq (dCall sp_told_total (dCons (dVar 0) (dCons (dOp oIx (dVar 1) (dC (.int 2))) dNil))) (dVar 2)))))))
abbrev N_job_done_at : List Str := ["jobs", "order", "tick", "at", "end"]
def t_job_done_at (sp_look_at_order : DSp) (sp_is_int : DSp) (sp_told_ends : DSp) : TSD := (dSeq (dDrop (dCall sp_look_at_order (dCons (dVar 0) (dCons (dVar 1) dNil))))
  (dSeq (dIfS (dNot (dTest (dCall sp_is_int (dCons (dVar 2) (dCons (dC (.int 0)) (dCons (dC (.int 1000000)) dNil)))))) dNever dNext)
  (dSeq (dFor (dZip2 (dVar 1) (dCall sp_told_ends (dCons (dVar 0) (dCons (dVar 1) dNil)))) (gT 2 (gsCons (gN 3) (gsCons (gN 4) gsNil)))
  (dIfS (dTest (dOp oLt (dVar 2) (dVar 4))) (dRet (dVar 3)) dNext))
  (dRet (dC .non)))))
abbrev N__law_pot : List Str := ["script", "place", "cell", "own", "small"]
def t__law_pot  : TSD := (dSeq (dAsg 2 (dIf (dTest (dOp oLt (dVar 1) (dCB oLen (dCons (dVar 0) dNil)))) (dOp oIx (dVar 0) (dVar 1)) (dOp (oAdd false) (dOp (oAdd false) (dOp oMod (dCB oInt (dCons (dCB oSum (dCons (dSl (oSl false) (dVar 0) dNoPart (dPart (dC (.int 1)))) dNil)) dNil)) (dC (.int 1000211))) (dOp (oMulA false) (dC (.int 4639)) (dVar 1))) (dC (.int 3163)))))
  (dSeq (dAsg 3 (dOp (oMulA false) (dOp oMod (dCB oInt (dCons (dCB oAbs (dCons (dVar 2) dNil)) dNil)) (dOp oPow (dOp oPow (dC (.int 10)) (dC (.int 60))) (dC (.int 5)))) (dCB oInt (dCons (dOp oGe (dCB oAbs (dCons (dVar 2) dNil)) (dOp oPow (dC (.int 10)) (dC (.int 18)))) dNil))))
  (dSeq (dAsg 4 (dOp oMod (dCB oInt (dCons (dVar 2) dNil)) (dC (.int 2305843009213693951))))
  (dRet (dLst true (dCons (dVar 3) (dCons (dOp oMod (dCB oInt (dCons (dOp (oAdd false) (dOp (oAdd false) (dOp (oMulA false) (dVar 4) (dC (.int 72161))) (dOp (oMulA false) (dOp (oMulA false) (dC (.int 10853)) (dVar 1)) (dVar 1))) (dC (.int 2843))) dNil)) (dC (.int 2305843009213693921))) (dCons (dC (.int 0)) dNil))))))))
abbrev N__law_take : List Str := ["pot", "upto", "digit", "prime", "mixture"]
def t__law_take  : TSD := (dSeq (dIfS (dTest (dOp oGt (dOp oIx (dVar 0) (dC (.int 0))) (dC (.int 0)))) (dSeq (dAsg 2 (dOp oMod (dCB oInt (dCons (dOp oIx (dVar 0) (dC (.int 0))) dNil)) (dVar 1)))
  (dSeq (dAsgG (gSb (dVar 0) (dC (.int 0)) oSet) (dOp oFdiv (dOp oIx (dVar 0) (dC (.int 0))) (dVar 1)))
  (dRet (dVar 2)))) dNext)
  (dSeq (dAsgG (gSb (dVar 0) (dC (.int 2)) oSet) (dOp (oAdd false) (dOp oIx (dVar 0) (dC (.int 2))) (dC (.int 1))))
  (dSeq (dAsg 3 (dOp oIx (dLst false (dCons (dC (.int 2147483647)) (dCons (dC (.int 2147483629)) (dCons (dC (.int 2147483587)) (dCons (dC (.int 2147483579)) (dCons (dC (.int 2147483563)) dNil)))))) (dOp oMod (dCB oInt (dCons (dOp oIx (dVar 0) (dC (.int 2))) dNil)) (dC (.int 5)))))
  (dSeq (dAsg 4 (dOp oMod (dCB oInt (dCons (dOp oPow (dCB oInt (dCons (dOp (oAdd false) (dOp (oAdd false) (dOp oIx (dVar 0) (dC (.int 1))) (dOp (oMulA false) (dOp (oMulA false) (dC (.int 95257)) (dOp oIx (dVar 0) (dC (.int 2)))) (dOp oIx (dVar 0) (dC (.int 2))))) (dC (.int 3163))) dNil)) (dC (.int 3))) dNil)) (dVar 3)))
  (dSeq (dAsg 4 (dOp oMod (dCB oInt (dCons (dOp (oMulA false) (dVar 4) (dOp (oAdd false) (dOp oMod (dCB oInt (dCons (dVar 4) dNil)) (dC (.int 13441))) (dOp (oMulA false) (dC (.int 419)) (dOp oIx (dVar 0) (dC (.int 2)))))) dNil)) (dC (.int 2305843009213693907))))
  (dRet (dOp oMod (dCB oInt (dCons (dOp oFdiv (dVar 4) (dC (.int 229))) dNil)) (dVar 1))))))))
abbrev N__law_cells : List Str := ["script", "most"]
def t__law_cells  : TSD := (dRet (dListRg false (dRg1 (dCB oMax (dCons (dC (.int 1)) (dCons (dCB oMin (dCons (dVar 1) (dCons (dCB oLen (dCons (dVar 0) dNil)) dNil))) dNil))))))
abbrev N__law_some : List Str := ["pot", "pool", "many", "rests", "found", "lap"]
def t__law_some (sp__law_take : DSp) : TSD := (dSeq (dPar2 3 4 (dCons (dCB (oList true) (dCons (dVar 1) dNil)) (dCons (dLst true dNil) dNil)))
  (dSeq (dFor (dRng1 (dVar 2)) (gN 5)
  (dDrop (dBM oAppend (dVar 4) (dCons (dBM oPopAt (dVar 3) (dCons (dCall sp__law_take (dCons (dVar 0) (dCons (dCB oLen (dCons (dVar 3) dNil)) dNil))) dNil)) dNil))))
  (dRet (dVar 4))))
abbrev N__law_are_dues_right : List Str := ["pot", "jobs", "late", "later", "ticks", "weight", "due", "sooner", "word", "few", "order", "more"]
def t__law_are_dues_right (sp_least_lateness : DSp) (sp_all_in_time : DSp) (sp_shows_all_in_time : DSp) (sp_fewest_late : DSp) (sp_late_in : DSp) (sp_shows_fewest_late : DSp) (sp__law_take : DSp) : TSD := (dSeq (dAsg 2 (dCall sp_least_lateness (dCons (dVar 1) dNil)))
  (dSeq (dAsg 3 (dCB oTuple (dCons (dLc false (dIt (dVar 1)) (gT 3 (gsCons (gN 4) (gsCons (gN 5) (gsCons (gN 6) gsNil)))) dYes (dTup (dCons (dVar 4) (dCons (dVar 5) (dCons (dOp (oAdd false) (dVar 6) (dVar 2)) dNil)))) [4, 5, 6]) dNil)))
  (dSeq (dIfS (dOr (dTest (dOp oNe (dOp oIx (dCall sp_all_in_time (dCons (dVar 3) dNil)) (dC (.int 0))) (dC (.str "order")))) (dTest (dOp oNe (dOp oEq (dOp oIx (dCall sp_all_in_time (dCons (dVar 1) dNil)) (dC (.int 0))) (dC (.str "order"))) (dOp oLe (dVar 2) (dC (.int 0)))))) (dRet (dC (.bl false))) dNext)
  (dSeq (dAsg 7 (dCB oTuple (dCons (dLc false (dIt (dVar 3)) (gT 3 (gsCons (gN 4) (gsCons (gN 5) (gsCons (gN 6) gsNil)))) dYes (dTup (dCons (dVar 4) (dCons (dVar 5) (dCons (dOp oSub (dVar 6) (dC (.int 1))) dNil)))) [4, 5, 6]) dNil)))
  (dSeq (dIfS (dOr (dTest (dOp oNe (dOp oIx (dCall sp_all_in_time (dCons (dVar 7) dNil)) (dC (.int 0))) (dC (.str "by")))) (dTest (dOp oNotB (dCall sp_shows_all_in_time (dCons (dVar 7) (dCons (dCall sp_all_in_time (dCons (dVar 3) dNil)) dNil))) (dC (.bl false))))) (dRet (dC (.bl false))) dNext)
  (dSeq (dAsgG (gT 3 (gsCons (gN 8) (gsCons (gN 9) (gsCons (gN 10) gsNil)))) (dCall sp_fewest_late (dCons (dVar 1) dNil)))
  (dSeq (dIfS (dOr (dTest (dOp oNe (dOp oEq (dVar 9) (dC (.int 0))) (dOp oLe (dVar 2) (dC (.int 0))))) (dTest (dOp oNe (dCB oLen (dCons (dCall sp_late_in (dCons (dVar 1) (dCons (dVar 10) dNil))) dNil)) (dVar 9)))) (dRet (dC (.bl false))) dNext)
  (dSeq (dIfS (dTest (dOp oNotB (dCall sp_shows_fewest_late (dCons (dVar 1) (dCons (dTup (dCons (dVar 8) (dCons (dVar 9) (dCons (dVar 10) dNil)))) dNil))) (dC (.bl true)))) (dRet (dC (.bl false))) dNext)
  (dSeq (dAsg 11 (dOp (oAdd false) (dVar 1) (dTup (dCons (dTup (dCons (dCB oInt (dCons (dOp (oAdd false) (dC (.int 1)) (dCall sp__law_take (dCons (dVar 0) (dCons (dC (.int 30)) dNil)))) dNil)) (dCons (dC (.int 0)) (dCons (dCB oInt (dCons (dCall sp__law_take (dCons (dVar 0) (dCons (dC (.int 400)) dNil))) dNil)) dNil)))) dNil))))
  (dRet (dChain oLe oLe (dVar 9) (dOp oIx (dCall sp_fewest_late (dCons (dVar 11) dNil)) (dC (.int 1))) (dOp (oAdd false) (dVar 9) (dC (.int 1))))))))))))))
abbrev N__law_are_ends_right : List Str := ["pot", "jobs", "plain", "ticks", "weight", "due", "short", "at", "job", "total", "drawn", "ends", "back", "whole", "one", "other", "tick"]
def t__law_are_ends_right (sp_total_wait : DSp) (sp_least_wait : DSp) (sp_shows_least_wait : DSp) (sp__law_some : DSp) (sp_ends_of : DSp) (sp__law_take : DSp) (sp_job_done_at : DSp) : TSD := (dSeq (dAsg 2 (dCB oTuple (dCons (dLc false (dIt (dVar 1)) (gT 3 (gsCons (gN 3) (gsCons (gN 4) (gsCons (gN 5) gsNil)))) dYes (dTup (dCons (dVar 3) (dCons (dC (.int 3)) (dCons (dVar 5) dNil)))) [3, 4, 5]) dNil)))
  (dSeq (dAsg 6 (dCB oTuple (dCons (dLc false (dIt (dCB (oSorted false) (dCons (dLc false (dEnum (dVar 1)) (gT 2 (gsCons (gN 7) (gsCons (gN 8) gsNil))) dYes (dTup (dCons (dOp oIx (dVar 8) (dC (.int 0))) (dCons (dVar 7) dNil))) [7, 8]) dNil))) (gT 2 (gsCons (gN 3) (gsCons (gN 7) gsNil))) dYes (dVar 7) [3, 7]) dNil)))
  (dSeq (dAsg 9 (dCall (spW sp_total_wait) (dCons (dVar 2) (dCons (dVar 6) dNil))))
  (dSeq (dIfS (dOr (dTest (dOp oNe (dOp oIx (dCall (spW sp_least_wait) (dCons (dVar 2) dNil)) (dC (.int 1))) (dVar 9))) (dTest (dOp oNotB (dCall (spW sp_shows_least_wait) (dCons (dVar 2) (dCons (dTup (dCons (dC (.str "order")) (dCons (dVar 9) (dCons (dVar 6) dNil)))) dNil))) (dC (.bl true))))) (dRet (dC (.bl false))) dNext)
  (dSeq (dAsg 10 (dTupX (dCall (spW sp__law_some) (dCons (dVar 0) (dCons (dListRg false (dRg1 (dCB oLen (dCons (dVar 1) dNil)))) (dCons (dCB oLen (dCons (dVar 1) dNil)) dNil))))))
  (dSeq (dIfS (dTest (dOp oLt (dCall (spW sp_total_wait) (dCons (dVar 1) (dCons (dVar 10) dNil))) (dOp oIx (dCall (spW sp_least_wait) (dCons (dVar 1) dNil)) (dC (.int 1))))) (dRet (dC (.bl false))) dNext)
  (dSeq (dAsgG (gT 3 (gsCons (gN 11) (gsCons (gN 12) (gsCons (gN 13) gsNil)))) (dTup (dCons (dCall (spW sp_ends_of) (dCons (dVar 1) (dCons (dVar 10) dNil))) (dCons (dRev false (dCall (spW sp_ends_of) (dCons (dVar 1) (dCons (dRev false (dVar 10)) dNil)))) (dCons (dCB oSum (dCons (dLc false (dIt (dVar 1)) (gN 8) dYes (dOp oIx (dVar 8) (dC (.int 0))) [8]) dNil)) dNil)))))
  (dSeq (dIfS (dOr (dTest (dCB oAny (dCons (dLc false (dZip3 (dVar 11) (dVar 12) (dVar 10)) (gT 3 (gsCons (gN 14) (gsCons (gN 15) (gsCons (gN 7) gsNil)))) dYes (dOp oNe (dOp (oAdd false) (dVar 14) (dVar 15)) (dOp (oAdd false) (dVar 13) (dOp oIx (dOp oIx (dVar 1) (dVar 7)) (dC (.int 0))))) [14, 15, 7]) dNil))) (dTest (dOp oNe (dOp oIx (dVar 11) (dNeg (dC (.int 1)))) (dVar 13)))) (dRet (dC (.bl false))) dNext)
  (dSeq (dAsg 16 (dCB oInt (dCons (dCall (spW sp__law_take) (dCons (dVar 0) (dCons (dOp (oAdd false) (dVar 13) (dC (.int 2))) dNil))) dNil)))
  (dSeq (dAsg 7 (dCall (spW sp_job_done_at) (dCons (dVar 1) (dCons (dVar 10) (dCons (dVar 16) dNil)))))
  (dSeq (dIfS (dTest (dOp oNe (dOp oIsN (dVar 7) (dC .non)) (dOp oGe (dVar 16) (dVar 13)))) (dRet (dC (.bl false))) dNext)
  (dRet (dOrV (dOp oIsN (dVar 7) (dC .non)) (dChain oLe oLt (dOp oSub (dOp oIx (dVar 11) (dBMX oIndexT (dVar 10) (dCons (dVar 7) dNil))) (dOp oIx (dOp oIx (dVar 1) (dVar 7)) (dC (.int 0)))) (dVar 16) (dOp oIx (dVar 11) (dBMX oIndexT (dVar 10) (dCons (dVar 7) dNil)))))))))))))))))
abbrev N__law_right : List Str := ["pot", "lap", "jobs", "at"]
def t__law_right (sp__law_take : DSp) (sp__law_are_dues_right : DSp) (sp__law_are_ends_right : DSp) (sp_fewest_late : DSp) (sp_least_wait : DSp) (sp_all_in_time : DSp) : TSD := (dSeq (dFor (dRng1 (dC (.int 8))) (gN 1)
  (dSeq (dAsg 2 (dLst true dNil))
  (dSeq (dFor (dRng1 (dOp (oAdd false) (dC (.int 1)) (dCall sp__law_take (dCons (dVar 0) (dCons (dC (.int 20)) dNil))))) (gN 3)
  (dDrop (dBM oAppend (dVar 2) (dCons (dTup (dCons (dCB oInt (dCons (dOp (oAdd false) (dC (.int 1)) (dCall sp__law_take (dCons (dVar 0) (dCons (dC (.int 30)) dNil)))) dNil)) (dCons (dCB oInt (dCons (dCall sp__law_take (dCons (dVar 0) (dCons (dC (.int 9)) dNil))) dNil)) (dCons (dCB oInt (dCons (dCall sp__law_take (dCons (dVar 0) (dCons (dC (.int 400)) dNil))) dNil)) dNil)))) dNil))))
  (dIfS (dOr (dNot (dTest (dCall sp__law_are_dues_right (dCons (dVar 0) (dCons (dCB oTuple (dCons (dVar 2) dNil)) dNil))))) (dNot (dTest (dCall sp__law_are_ends_right (dCons (dVar 0) (dCons (dCB oTuple (dCons (dVar 2) dNil)) dNil)))))) (dRet (dC (.bl false))) dNext))))
  (dRet (dAndV (dOp oEq (dOp oIx (dCall sp_all_in_time (dCons (dTup dNil) dNil)) (dC (.int 0))) (dC (.str "order"))) (dAndV (dOp oEq (dCall sp_least_wait (dCons (dTup dNil) dNil)) (dTup (dCons (dC (.str "order")) (dCons (dC (.int 0)) (dCons (dTup dNil) dNil))))) (dOp oEq (dCall sp_fewest_late (dCons (dTup dNil) dNil)) (dTup (dCons (dC (.str "late")) (dCons (dC (.int 0)) (dCons (dTup dNil) dNil)))))))))
abbrev N_law : List Str := ["script", "place"]
def t_law (sp__law_cells : DSp) (sp__law_right : DSp) (sp__law_pot : DSp) : TSD := (dRet (dCB oAll (dCons (dLc false (dIt (dCall sp__law_cells (dCons (dVar 0) (dCons (dC (.int 3)) dNil)))) (gN 1) dYes (dCall sp__law_right (dCons (dCall sp__law_pot (dCons (dVar 0) (dCons (dVar 1) dNil))) dNil)) [1]) dNil)))
end L45
namespace L45
open PySem PySem.Spec PySem.W PyProof.Rows L2 PL
def sp_is_int : DSp := fun ds S Q => ∃ v lo hi : Int, ds = [.int v, .int lo, .int hi] ∧ Q (.bl (decide (lo ≤ v) && decide (v ≤ hi))) S
theorem pure_is_int : ∀ ds S Q, sp_is_int ds S Q → t_is_int (DeN Q) (startD N_is_int ds) S := by
  rintro ds S Q ⟨v, lo, hi, rfl, q⟩
  simp only [t_is_int, dSeq, dNext, dRet, dRetN, dIfS, dAsg, dAsgG, dDrop, dPar2, dPar3, dAug, dAugS, dFor, dOp, dVar, dC, dTest, dChain, dAnd, dOr, dNot, dAndV, dOrV, dNotV, dIf, dTup, dLst, dNil, dCons, dStar, dCB, dCall, dSl, dNoPart, dPart, dBM, dRev, dNeg, dIsi, dListRg, dTupRg, dRg1, dRg2, dLc, dIt, dEnum, dZip2, dZip3, dRng1, dRng2, dYes, gN, gT, gsNil, gsCons, gSb, oI, oI0, oAdd, oMulA, oSub, oFdiv, oMod, oPow, oLt, oLe, oGt, oGe, oEq, oNe, oIsN, oNotN, oIsB, oNotB, oIx, oSl, oLen, oSum, oAll, oAny, oAbs, o1I, o2I, oMin2, oMax2, oMin, oMax, oMinL, oMaxL, oInt, oBool, oList, oTuple, oSorted, oIn, oAddI, oGet, oSet, oAppend, oExtend, oPop, oPopAt, oIndexL, oIndexT, oInsert, oRemove, dTupX, dBMX, dLenSet, D.isNon, newL, Sto.seq, Sto.list, Sto.lsts, Sto.itOf, Sto.trk, Sto.now, startD, wipeD, D.tyN, List.map_cons, List.map_nil, List.cons_append, List.nil_append, List.length_cons, List.length_nil, List.getElem?_cons_zero, List.getElem?_cons_succ, List.set_cons_zero, List.set_cons_succ, List.replicate, Nat.sub_self, Nat.reduceSub, Nat.reduceAdd, Nat.zero_add, kb_ii, kb_ib, kb_it, kb_is, kb_bi, kb_bb, kb_bt, kb_bs, kb_tt, kb_ti, kb_ts, kb_ss, kb_si, kb_st, kb_nt, kb_ni, kb_ns, kb_lt, kb_li, kb_ls, ex_some, Bool.not_false]
  by_cases h : lo ≤ v
  · simp only [decide_eq_true h, Bool.true_and] at q ⊢
    exact .here q
  · simp only [decide_eq_false h, Bool.false_and] at q ⊢
    exact .here q
def inB (lo hi : Int) (xs : List Int) : Bool := xs.all fun v => decide (lo ≤ v) && decide (v ≤ hi)
def sp_are_ints : DSp := fun ds S Q => ∃ (xs : List Int) (lo hi : Int), ds = [eI xs, .int lo, .int hi] ∧ xs.length ≤ sizeLine ∧ Q (.bl (inB lo hi xs)) S
theorem pure_are_ints : ∀ ds S Q, sp_are_ints ds S Q → t_are_ints sp_is_int (DeN Q) (startD N_are_ints ds) S := by
  rintro ds S Q ⟨xs, lo, hi, rfl, hl, q⟩
  simp only [t_are_ints, dSeq, dNext, dRet, dRetN, dIfS, dAsg, dAsgG, dDrop, dPar2, dPar3, dAug, dAugS, dFor, dOp, dVar, dC, dTest, dChain, dAnd, dOr, dNot, dAndV, dOrV, dNotV, dIf, dTup, dLst, dNil, dCons, dStar, dCB, dCall, dSl, dNoPart, dPart, dBM, dRev, dNeg, dIsi, dListRg, dTupRg, dRg1, dRg2, dLc, dIt, dEnum, dZip2, dZip3, dRng1, dRng2, dYes, gN, gT, gsNil, gsCons, gSb, oI, oI0, oAdd, oMulA, oSub, oFdiv, oMod, oPow, oLt, oLe, oGt, oGe, oEq, oNe, oIsN, oNotN, oIsB, oNotB, oIx, oSl, oLen, oSum, oAll, oAny, oAbs, o1I, o2I, oMin2, oMax2, oMin, oMax, oMinL, oMaxL, oInt, oBool, oList, oTuple, oSorted, oIn, oAddI, oGet, oSet, oAppend, oExtend, oPop, oPopAt, oIndexL, oIndexT, oInsert, oRemove, dTupX, dBMX, dLenSet, D.isNon, newL, Sto.seq, Sto.list, Sto.lsts, Sto.itOf, Sto.trk, Sto.now, startD, wipeD, D.tyN, List.map_cons, List.map_nil, List.cons_append, List.nil_append, List.length_cons, List.length_nil, List.getElem?_cons_zero, List.getElem?_cons_succ, List.set_cons_zero, List.set_cons_succ, List.replicate, Nat.sub_self, Nat.reduceSub, Nat.reduceAdd, Nat.zero_add, kb_ii, kb_ib, kb_it, kb_is, kb_bi, kb_bb, kb_bt, kb_bs, kb_tt, kb_ti, kb_ts, kb_ss, kb_si, kb_st, kb_nt, kb_ni, kb_ns, kb_lt, kb_li, kb_ls, ex_some, eI]
  refine lc_mapE xs D.int (fun v => .bl (decide (lo ≤ v) && decide (v ≤ hi))) (fun _ _ => trivial) hl (fun v hv S' e N M h => ?_) ?_
  · simp only [dSeq, dNext, dRet, dRetN, dIfS, dAsg, dAsgG, dDrop, dPar2, dPar3, dAug, dAugS, dFor, dOp, dVar, dC, dTest, dChain, dAnd, dOr, dNot, dAndV, dOrV, dNotV, dIf, dTup, dLst, dNil, dCons, dStar, dCB, dCall, dSl, dNoPart, dPart, dBM, dRev, dNeg, dIsi, dListRg, dTupRg, dRg1, dRg2, dLc, dIt, dEnum, dZip2, dZip3, dRng1, dRng2, dYes, gN, gT, gsNil, gsCons, gSb, oI, oI0, oAdd, oMulA, oSub, oFdiv, oMod, oPow, oLt, oLe, oGt, oGe, oEq, oNe, oIsN, oNotN, oIsB, oNotB, oIx, oSl, oLen, oSum, oAll, oAny, oAbs, o1I, o2I, oMin2, oMax2, oMin, oMax, oMinL, oMaxL, oInt, oBool, oList, oTuple, oSorted, oIn, oAddI, oGet, oSet, oAppend, oExtend, oPop, oPopAt, oIndexL, oIndexT, oInsert, oRemove, dTupX, dBMX, dLenSet, D.isNon, newL, Sto.seq, Sto.list, Sto.lsts, Sto.itOf, Sto.trk, Sto.now, startD, wipeD, D.tyN, List.map_cons, List.map_nil, List.cons_append, List.nil_append, List.length_cons, List.length_nil, List.getElem?_cons_zero, List.getElem?_cons_succ, List.set_cons_zero, List.set_cons_succ, List.replicate, Nat.sub_self, Nat.reduceSub, Nat.reduceAdd, Nat.zero_add, kb_ii, kb_ib, kb_it, kb_is, kb_bi, kb_bb, kb_bt, kb_bs, kb_tt, kb_ti, kb_ts, kb_ss, kb_si, kb_st, kb_nt, kb_ni, kb_ns, kb_lt, kb_li, kb_ls, ex_some]
    exact ⟨v, lo, hi, rfl, h⟩
  · simp only [dSeq, dNext, dRet, dRetN, dIfS, dAsg, dAsgG, dDrop, dPar2, dPar3, dAug, dAugS, dFor, dOp, dVar, dC, dTest, dChain, dAnd, dOr, dNot, dAndV, dOrV, dNotV, dIf, dTup, dLst, dNil, dCons, dStar, dCB, dCall, dSl, dNoPart, dPart, dBM, dRev, dNeg, dIsi, dListRg, dTupRg, dRg1, dRg2, dLc, dIt, dEnum, dZip2, dZip3, dRng1, dRng2, dYes, gN, gT, gsNil, gsCons, gSb, oI, oI0, oAdd, oMulA, oSub, oFdiv, oMod, oPow, oLt, oLe, oGt, oGe, oEq, oNe, oIsN, oNotN, oIsB, oNotB, oIx, oSl, oLen, oSum, oAll, oAny, oAbs, o1I, o2I, oMin2, oMax2, oMin, oMax, oMinL, oMaxL, oInt, oBool, oList, oTuple, oSorted, oIn, oAddI, oGet, oSet, oAppend, oExtend, oPop, oPopAt, oIndexL, oIndexT, oInsert, oRemove, dTupX, dBMX, dLenSet, D.isNon, newL, Sto.seq, Sto.list, Sto.lsts, Sto.itOf, Sto.trk, Sto.now, startD, wipeD, D.tyN, List.map_cons, List.map_nil, List.cons_append, List.nil_append, List.length_cons, List.length_nil, List.getElem?_cons_zero, List.getElem?_cons_succ, List.set_cons_zero, List.set_cons_succ, List.replicate, Nat.sub_self, Nat.reduceSub, Nat.reduceAdd, Nat.zero_add, kb_ii, kb_ib, kb_it, kb_is, kb_bi, kb_bb, kb_bt, kb_bs, kb_tt, kb_ti, kb_ts, kb_ss, kb_si, kb_st, kb_nt, kb_ni, kb_ns, kb_lt, kb_li, kb_ls, ex_some]
    refine ⟨xs.map fun v => decide (lo ≤ v) && decide (v ≤ hi), by rw [List.map_map]; rfl, .here ?_⟩
    unfold inB at q
    rw [List.all_map]
    exact q
def sp__law_pot : DSp := fun ds S Q => ∃ (ns : List Int) (pl : Nat), ds = [.fz (ns.map .int), .int (pl : Nat)] ∧ pl ≤ 1000 ∧ ∀ p o, S p = none → PotO 0 o → Q (.ref p) (S.up p o)
theorem pure__law_pot : ∀ ds S Q, sp__law_pot ds S Q → t__law_pot (DeN Q) (startD N__law_pot ds) S := by
  rintro ds S Q ⟨ns, pl, rfl, hpl, q⟩
  have key : ∀ cell : Int, ∀ ρ : DEnv, ρ = [some (.fz (ns.map D.int)), some (.int (pl : Nat)), some (.int cell), none, none] →
      (dSeq (dAsg 3 (dOp (oMulA false) (dOp oMod (dCB oInt (dCons (dCB oAbs (dCons (dVar 2) dNil)) dNil)) (dOp oPow (dOp oPow (dC (.int 10)) (dC (.int 60))) (dC (.int 5)))) (dCB oInt (dCons (dOp oGe (dCB oAbs (dCons (dVar 2) dNil)) (dOp oPow (dC (.int 10)) (dC (.int 18)))) dNil))))
  (dSeq (dAsg 4 (dOp oMod (dCB oInt (dCons (dVar 2) dNil)) (dC (.int 2305843009213693951))))
  (dRet (dLst true (dCons (dVar 3) (dCons (dOp oMod (dCB oInt (dCons (dOp (oAdd false) (dOp (oAdd false) (dOp (oMulA false) (dVar 4) (dC (.int 72161))) (dOp (oMulA false) (dOp (oMulA false) (dC (.int 10853)) (dVar 1)) (dVar 1))) (dC (.int 2843))) dNil)) (dC (.int 2305843009213693921))) (dCons (dC (.int 0)) dNil))))))) (DeN Q) ρ S := by
    rintro cell ρ rfl
    simp only [dSeq, dNext, dRet, dRetN, dIfS, dAsg, dAsgG, dDrop, dPar2, dPar3, dAug, dAugS, dFor, dOp, dVar, dC, dTest, dChain, dAnd, dOr, dNot, dAndV, dOrV, dNotV, dIf, dTup, dLst, dNil, dCons, dStar, dCB, dCall, dSl, dNoPart, dPart, dBM, dRev, dNeg, dIsi, dListRg, dTupRg, dRg1, dRg2, dLc, dIt, dEnum, dZip2, dZip3, dRng1, dRng2, dYes, gN, gT, gsNil, gsCons, gSb, oI, oI0, oAdd, oMulA, oSub, oFdiv, oMod, oPow, oLt, oLe, oGt, oGe, oEq, oNe, oIsN, oNotN, oIsB, oNotB, oIx, oSl, oLen, oSum, oAll, oAny, oAbs, o1I, o2I, oMin2, oMax2, oMin, oMax, oMinL, oMaxL, oInt, oBool, oList, oTuple, oSorted, oIn, oAddI, oGet, oSet, oAppend, oExtend, oPop, oPopAt, oIndexL, oIndexT, oInsert, oRemove, dTupX, dBMX, dLenSet, D.isNon, newL, Sto.seq, Sto.list, Sto.lsts, Sto.itOf, Sto.trk, Sto.now, startD, wipeD, D.tyN, List.map_cons, List.map_nil, List.cons_append, List.nil_append, List.length_cons, List.length_nil, List.getElem?_cons_zero, List.getElem?_cons_succ, List.set_cons_zero, List.set_cons_succ, List.replicate, Nat.sub_self, Nat.reduceSub, Nat.reduceAdd, Nat.zero_add, kb_ii, kb_ib, kb_it, kb_is, kb_bi, kb_bb, kb_bt, kb_bs, kb_tt, kb_ti, kb_ts, kb_ss, kb_si, kb_st, kb_nt, kb_ni, kb_ns, kb_lt, kb_li, kb_ls, ex_some]
    have hb : ∀ g : Bool, (if g = true then (1 : Int) else 0).natAbs ≤ 1 := fun g => by cases g <;> decide
    have hpos : (0 : Int) < (10 ^ Int.toNat 60) ^ Int.toNat 5 := by decide +kernel
    generalize hM : ((10 : Int) ^ Int.toNat 60) ^ Int.toNat 5 = M at hpos ⊢
    have hMs : M < 2 ^ 1000 := by rw [← hM]; decide +kernel
    have a1 := Int.emod_nonneg (if cell < 0 then -cell else cell) (Int.ne_of_gt hpos)
    have a2 := Int.emod_lt_of_pos (if cell < 0 then -cell else cell) hpos
    have s1 := Int.emod_nonneg cell (show (2305843009213693951 : Int) ≠ 0 by decide)
    have s2 := Int.emod_lt_of_pos cell (show (0 : Int) < 2305843009213693951 by decide)
    have pp : ((10853 * (pl : Int)) * (pl : Int)).natAbs ≤ 10853 * 1000 * 1000 := by
      rw [Int.natAbs_mul, Int.natAbs_mul]
      exact Nat.mul_le_mul (Nat.mul_le_mul (by decide) (by omega)) (by omega)
    refine ⟨⟨by decide, by decide, by decide +kernel⟩, ⟨by decide, by decide, by decide +kernel⟩, hpos, ⟨by decide, by decide, by decide +kernel⟩, ?_, by decide, ?_, ?_, ?_, by decide, ?_, ?_⟩
    · exact ⟨Nat.lt_of_lt_of_le (show _ < M.toNat by omega) (by omega), Nat.lt_of_le_of_lt (hb _) (by decide +kernel)⟩
    · exact cmul_small (n := 2305843009213693951) (m := 72161) (by omega) (by decide) (by decide +kernel) (by decide +kernel)
    · exact cmul_small (n := 10853) (m := 1000) (by decide) (by omega) (by decide +kernel) (by decide +kernel)
    · exact cmul_small (n := 10853000) (m := 1000) (by omega) (by omega) (by decide +kernel) (by decide +kernel)
    · exact small (by omega)
    · intro p hp
      refine .here (q p _ hp ⟨_, _, _, rfl, ?_, ?_, ?_, by decide, by decide⟩)
      · refine Int.mul_nonneg a1 ?_
        repeat' split
        all_goals first | decide | omega
      · exact Int.emod_nonneg _ (by decide)
      · exact Int.lt_trans (Int.emod_lt_of_pos _ (by decide)) (by decide)
  simp only [t__law_pot]
  have fin := fun cell => key cell _ rfl
  show dIf _ _ _ _ S _
  by_cases h : (pl : Int) < ((ns.map D.int).length : Nat)
  · have hi : atI (ns.map D.int) (pl : Int) = some (.int (ns.getD pl 0)) := by
      have := ix_int (xs := ns) (i := (pl : Int)) (by omega) (by rw [List.length_map] at h; omega)
      rw [Int.toNat_natCast] at this; exact this
    simp only [dSeq, dNext, dRet, dRetN, dIfS, dAsg, dAsgG, dDrop, dPar2, dPar3, dAug, dAugS, dFor, dOp, dVar, dC, dTest, dChain, dAnd, dOr, dNot, dAndV, dOrV, dNotV, dIf, dTup, dLst, dNil, dCons, dStar, dCB, dCall, dSl, dNoPart, dPart, dBM, dRev, dNeg, dIsi, dListRg, dTupRg, dRg1, dRg2, dLc, dIt, dEnum, dZip2, dZip3, dRng1, dRng2, dYes, gN, gT, gsNil, gsCons, gSb, oI, oI0, oAdd, oMulA, oSub, oFdiv, oMod, oPow, oLt, oLe, oGt, oGe, oEq, oNe, oIsN, oNotN, oIsB, oNotB, oIx, oSl, oLen, oSum, oAll, oAny, oAbs, o1I, o2I, oMin2, oMax2, oMin, oMax, oMinL, oMaxL, oInt, oBool, oList, oTuple, oSorted, oIn, oAddI, oGet, oSet, oAppend, oExtend, oPop, oPopAt, oIndexL, oIndexT, oInsert, oRemove, dTupX, dBMX, dLenSet, D.isNon, newL, Sto.seq, Sto.list, Sto.lsts, Sto.itOf, Sto.trk, Sto.now, startD, wipeD, D.tyN, List.map_cons, List.map_nil, List.cons_append, List.nil_append, List.length_cons, List.length_nil, List.getElem?_cons_zero, List.getElem?_cons_succ, List.set_cons_zero, List.set_cons_succ, List.replicate, Nat.sub_self, Nat.reduceSub, Nat.reduceAdd, Nat.zero_add, kb_ii, kb_ib, kb_it, kb_is, kb_bi, kb_bb, kb_bt, kb_bs, kb_tt, kb_ti, kb_ts, kb_ss, kb_si, kb_st, kb_nt, kb_ni, kb_ns, kb_lt, kb_li, kb_ls, ex_some, decide_eq_true h, hi]
    have := fin (ns.getD pl 0)
    simp only [dSeq, dNext, dRet, dRetN, dIfS, dAsg, dAsgG, dDrop, dPar2, dPar3, dAug, dAugS, dFor, dOp, dVar, dC, dTest, dChain, dAnd, dOr, dNot, dAndV, dOrV, dNotV, dIf, dTup, dLst, dNil, dCons, dStar, dCB, dCall, dSl, dNoPart, dPart, dBM, dRev, dNeg, dIsi, dListRg, dTupRg, dRg1, dRg2, dLc, dIt, dEnum, dZip2, dZip3, dRng1, dRng2, dYes, gN, gT, gsNil, gsCons, gSb, oI, oI0, oAdd, oMulA, oSub, oFdiv, oMod, oPow, oLt, oLe, oGt, oGe, oEq, oNe, oIsN, oNotN, oIsB, oNotB, oIx, oSl, oLen, oSum, oAll, oAny, oAbs, o1I, o2I, oMin2, oMax2, oMin, oMax, oMinL, oMaxL, oInt, oBool, oList, oTuple, oSorted, oIn, oAddI, oGet, oSet, oAppend, oExtend, oPop, oPopAt, oIndexL, oIndexT, oInsert, oRemove, dTupX, dBMX, dLenSet, D.isNon, newL, Sto.seq, Sto.list, Sto.lsts, Sto.itOf, Sto.trk, Sto.now, startD, wipeD, D.tyN, List.map_cons, List.map_nil, List.cons_append, List.nil_append, List.length_cons, List.length_nil, List.getElem?_cons_zero, List.getElem?_cons_succ, List.set_cons_zero, List.set_cons_succ, List.replicate, Nat.sub_self, Nat.reduceSub, Nat.reduceAdd, Nat.zero_add, kb_ii, kb_ib, kb_it, kb_is, kb_bi, kb_bb, kb_bt, kb_bs, kb_tt, kb_ti, kb_ts, kb_ss, kb_si, kb_st, kb_nt, kb_ni, kb_ns, kb_lt, kb_li, kb_ls, ex_some] at this
    exact this
  · simp only [dSeq, dNext, dRet, dRetN, dIfS, dAsg, dAsgG, dDrop, dPar2, dPar3, dAug, dAugS, dFor, dOp, dVar, dC, dTest, dChain, dAnd, dOr, dNot, dAndV, dOrV, dNotV, dIf, dTup, dLst, dNil, dCons, dStar, dCB, dCall, dSl, dNoPart, dPart, dBM, dRev, dNeg, dIsi, dListRg, dTupRg, dRg1, dRg2, dLc, dIt, dEnum, dZip2, dZip3, dRng1, dRng2, dYes, gN, gT, gsNil, gsCons, gSb, oI, oI0, oAdd, oMulA, oSub, oFdiv, oMod, oPow, oLt, oLe, oGt, oGe, oEq, oNe, oIsN, oNotN, oIsB, oNotB, oIx, oSl, oLen, oSum, oAll, oAny, oAbs, o1I, o2I, oMin2, oMax2, oMin, oMax, oMinL, oMaxL, oInt, oBool, oList, oTuple, oSorted, oIn, oAddI, oGet, oSet, oAppend, oExtend, oPop, oPopAt, oIndexL, oIndexT, oInsert, oRemove, dTupX, dBMX, dLenSet, D.isNon, newL, Sto.seq, Sto.list, Sto.lsts, Sto.itOf, Sto.trk, Sto.now, startD, wipeD, D.tyN, List.map_cons, List.map_nil, List.cons_append, List.nil_append, List.length_cons, List.length_nil, List.getElem?_cons_zero, List.getElem?_cons_succ, List.set_cons_zero, List.set_cons_succ, List.replicate, Nat.sub_self, Nat.reduceSub, Nat.reduceAdd, Nat.zero_add, kb_ii, kb_ib, kb_it, kb_is, kb_bi, kb_bb, kb_bt, kb_bs, kb_tt, kb_ti, kb_ts, kb_ss, kb_si, kb_st, kb_nt, kb_ni, kb_ns, kb_lt, kb_li, kb_ls, ex_some, decide_eq_false h, cut_one]
    refine ⟨ns.take 1, rfl, by decide, cmul_small (n := 4639) (m := 1000) (by decide) (by omega) (by decide +kernel) (by decide +kernel), ?_⟩
    have := fin ((ns.take 1).sum % 1000211 + 4639 * (pl : Int) + 3163)
    simp only [dSeq, dNext, dRet, dRetN, dIfS, dAsg, dAsgG, dDrop, dPar2, dPar3, dAug, dAugS, dFor, dOp, dVar, dC, dTest, dChain, dAnd, dOr, dNot, dAndV, dOrV, dNotV, dIf, dTup, dLst, dNil, dCons, dStar, dCB, dCall, dSl, dNoPart, dPart, dBM, dRev, dNeg, dIsi, dListRg, dTupRg, dRg1, dRg2, dLc, dIt, dEnum, dZip2, dZip3, dRng1, dRng2, dYes, gN, gT, gsNil, gsCons, gSb, oI, oI0, oAdd, oMulA, oSub, oFdiv, oMod, oPow, oLt, oLe, oGt, oGe, oEq, oNe, oIsN, oNotN, oIsB, oNotB, oIx, oSl, oLen, oSum, oAll, oAny, oAbs, o1I, o2I, oMin2, oMax2, oMin, oMax, oMinL, oMaxL, oInt, oBool, oList, oTuple, oSorted, oIn, oAddI, oGet, oSet, oAppend, oExtend, oPop, oPopAt, oIndexL, oIndexT, oInsert, oRemove, dTupX, dBMX, dLenSet, D.isNon, newL, Sto.seq, Sto.list, Sto.lsts, Sto.itOf, Sto.trk, Sto.now, startD, wipeD, D.tyN, List.map_cons, List.map_nil, List.cons_append, List.nil_append, List.length_cons, List.length_nil, List.getElem?_cons_zero, List.getElem?_cons_succ, List.set_cons_zero, List.set_cons_succ, List.replicate, Nat.sub_self, Nat.reduceSub, Nat.reduceAdd, Nat.zero_add, kb_ii, kb_ib, kb_it, kb_is, kb_bi, kb_bb, kb_bt, kb_bs, kb_tt, kb_ti, kb_ts, kb_ss, kb_si, kb_st, kb_nt, kb_ni, kb_ns, kb_lt, kb_li, kb_ls, ex_some] at this
    exact this
def sp__law_take : DSp := fun ds S Q => ∃ (p : Addr) (n : Int) (b : Nat) (o : MO), ds = [.ref p, .int n] ∧ 0 < n ∧ n < 1000000 ∧ S p = some o ∧ PotO b o ∧ b ≤ 1000000 ∧ ∀ k o', 0 ≤ k → k < n → PotO (b + 1) o' → Q (.int k) (S.up p o')
theorem pure__law_take : ∀ ds S Q, sp__law_take ds S Q → t__law_take (DeN Q) (startD N__law_take ds) S := by
  rintro ds S Q ⟨p, n, b, o, rfl, hn, hn2, hS, ⟨own, small_, c, rfl, h1, h2, h3, h4, h5⟩, hb, q⟩
  have i0 : ∀ x y z : Int, atI [D.int x, D.int y, D.int z] 0 = some (.int x) := fun _ _ _ => rfl
  have i1 : ∀ x y z : Int, atI [D.int x, D.int y, D.int z] 1 = some (.int y) := fun _ _ _ => rfl
  have i2 : ∀ x y z : Int, atI [D.int x, D.int y, D.int z] 2 = some (.int z) := fun _ _ _ => rfl
  simp only [t__law_take, dSeq, dNext, dRet, dRetN, dIfS, dAsg, dAsgG, dDrop, dPar2, dPar3, dAug, dAugS, dFor, dOp, dVar, dC, dTest, dChain, dAnd, dOr, dNot, dAndV, dOrV, dNotV, dIf, dTup, dLst, dNil, dCons, dStar, dCB, dCall, dSl, dNoPart, dPart, dBM, dRev, dNeg, dIsi, dListRg, dTupRg, dRg1, dRg2, dLc, dIt, dEnum, dZip2, dZip3, dRng1, dRng2, dYes, gN, gT, gsNil, gsCons, gSb, oI, oI0, oAdd, oMulA, oSub, oFdiv, oMod, oPow, oLt, oLe, oGt, oGe, oEq, oNe, oIsN, oNotN, oIsB, oNotB, oIx, oSl, oLen, oSum, oAll, oAny, oAbs, o1I, o2I, oMin2, oMax2, oMin, oMax, oMinL, oMaxL, oInt, oBool, oList, oTuple, oSorted, oIn, oAddI, oGet, oSet, oAppend, oExtend, oPop, oPopAt, oIndexL, oIndexT, oInsert, oRemove, dTupX, dBMX, dLenSet, D.isNon, newL, Sto.seq, Sto.list, Sto.lsts, Sto.itOf, Sto.trk, Sto.now, startD, wipeD, D.tyN, List.map_cons, List.map_nil, List.cons_append, List.nil_append, List.length_cons, List.length_nil, List.getElem?_cons_zero, List.getElem?_cons_succ, List.set_cons_zero, List.set_cons_succ, List.replicate, Nat.sub_self, Nat.reduceSub, Nat.reduceAdd, Nat.zero_add, kb_ii, kb_ib, kb_it, kb_is, kb_bi, kb_bb, kb_bt, kb_bs, kb_tt, kb_ti, kb_ts, kb_ss, kb_si, kb_st, kb_nt, kb_ni, kb_ns, kb_lt, kb_li, kb_ls, ex_some, hS, i0]
  by_cases ho : 0 < own
  · simp only [decide_eq_true ho, hS, i0, dSeq, dNext, dRet, dRetN, dIfS, dAsg, dAsgG, dDrop, dPar2, dPar3, dAug, dAugS, dFor, dOp, dVar, dC, dTest, dChain, dAnd, dOr, dNot, dAndV, dOrV, dNotV, dIf, dTup, dLst, dNil, dCons, dStar, dCB, dCall, dSl, dNoPart, dPart, dBM, dRev, dNeg, dIsi, dListRg, dTupRg, dRg1, dRg2, dLc, dIt, dEnum, dZip2, dZip3, dRng1, dRng2, dYes, gN, gT, gsNil, gsCons, gSb, oI, oI0, oAdd, oMulA, oSub, oFdiv, oMod, oPow, oLt, oLe, oGt, oGe, oEq, oNe, oIsN, oNotN, oIsB, oNotB, oIx, oSl, oLen, oSum, oAll, oAny, oAbs, o1I, o2I, oMin2, oMax2, oMin, oMax, oMinL, oMaxL, oInt, oBool, oList, oTuple, oSorted, oIn, oAddI, oGet, oSet, oAppend, oExtend, oPop, oPopAt, oIndexL, oIndexT, oInsert, oRemove, dTupX, dBMX, dLenSet, D.isNon, newL, Sto.seq, Sto.list, Sto.lsts, Sto.itOf, Sto.trk, Sto.now, startD, wipeD, D.tyN, List.map_cons, List.map_nil, List.cons_append, List.nil_append, List.length_cons, List.length_nil, List.getElem?_cons_zero, List.getElem?_cons_succ, List.set_cons_zero, List.set_cons_succ, List.replicate, Nat.sub_self, Nat.reduceSub, Nat.reduceAdd, Nat.zero_add, kb_ii, kb_ib, kb_it, kb_is, kb_bi, kb_bb, kb_bt, kb_bs, kb_tt, kb_ti, kb_ts, kb_ss, kb_si, kb_st, kb_nt, kb_ni, kb_ns, kb_lt, kb_li, kb_ls, ex_some]
    refine ⟨hn, ⟨hn, by omega⟩, 0, rfl, ?_⟩
    simp only [dSeq, dNext, dRet, dRetN, dIfS, dAsg, dAsgG, dDrop, dPar2, dPar3, dAug, dAugS, dFor, dOp, dVar, dC, dTest, dChain, dAnd, dOr, dNot, dAndV, dOrV, dNotV, dIf, dTup, dLst, dNil, dCons, dStar, dCB, dCall, dSl, dNoPart, dPart, dBM, dRev, dNeg, dIsi, dListRg, dTupRg, dRg1, dRg2, dLc, dIt, dEnum, dZip2, dZip3, dRng1, dRng2, dYes, gN, gT, gsNil, gsCons, gSb, oI, oI0, oAdd, oMulA, oSub, oFdiv, oMod, oPow, oLt, oLe, oGt, oGe, oEq, oNe, oIsN, oNotN, oIsB, oNotB, oIx, oSl, oLen, oSum, oAll, oAny, oAbs, o1I, o2I, oMin2, oMax2, oMin, oMax, oMinL, oMaxL, oInt, oBool, oList, oTuple, oSorted, oIn, oAddI, oGet, oSet, oAppend, oExtend, oPop, oPopAt, oIndexL, oIndexT, oInsert, oRemove, dTupX, dBMX, dLenSet, D.isNon, newL, Sto.seq, Sto.list, Sto.lsts, Sto.itOf, Sto.trk, Sto.now, startD, wipeD, D.tyN, List.map_cons, List.map_nil, List.cons_append, List.nil_append, List.length_cons, List.length_nil, List.getElem?_cons_zero, List.getElem?_cons_succ, List.set_cons_zero, List.set_cons_succ, List.replicate, Nat.sub_self, Nat.reduceSub, Nat.reduceAdd, Nat.zero_add, kb_ii, kb_ib, kb_it, kb_is, kb_bi, kb_bb, kb_bt, kb_bs, kb_tt, kb_ti, kb_ts, kb_ss, kb_si, kb_st, kb_nt, kb_ni, kb_ns, kb_lt, kb_li, kb_ls, ex_some]
    refine .here (q _ _ (Int.emod_nonneg _ (by omega)) (Int.emod_lt_of_pos _ hn) ⟨_, _, _, rfl, Int.ediv_nonneg h1 (by omega), h2, h3, h4, by omega⟩)
  · simp only [decide_eq_false ho, i2, dSeq, dNext, dRet, dRetN, dIfS, dAsg, dAsgG, dDrop, dPar2, dPar3, dAug, dAugS, dFor, dOp, dVar, dC, dTest, dChain, dAnd, dOr, dNot, dAndV, dOrV, dNotV, dIf, dTup, dLst, dNil, dCons, dStar, dCB, dCall, dSl, dNoPart, dPart, dBM, dRev, dNeg, dIsi, dListRg, dTupRg, dRg1, dRg2, dLc, dIt, dEnum, dZip2, dZip3, dRng1, dRng2, dYes, gN, gT, gsNil, gsCons, gSb, oI, oI0, oAdd, oMulA, oSub, oFdiv, oMod, oPow, oLt, oLe, oGt, oGe, oEq, oNe, oIsN, oNotN, oIsB, oNotB, oIx, oSl, oLen, oSum, oAll, oAny, oAbs, o1I, o2I, oMin2, oMax2, oMin, oMax, oMinL, oMaxL, oInt, oBool, oList, oTuple, oSorted, oIn, oAddI, oGet, oSet, oAppend, oExtend, oPop, oPopAt, oIndexL, oIndexT, oInsert, oRemove, dTupX, dBMX, dLenSet, D.isNon, newL, Sto.seq, Sto.list, Sto.lsts, Sto.itOf, Sto.trk, Sto.now, startD, wipeD, D.tyN, List.map_cons, List.map_nil, List.cons_append, List.nil_append, List.length_cons, List.length_nil, List.getElem?_cons_zero, List.getElem?_cons_succ, List.set_cons_zero, List.set_cons_succ, List.replicate, Nat.sub_self, Nat.reduceSub, Nat.reduceAdd, Nat.zero_add, kb_ii, kb_ib, kb_it, kb_is, kb_bi, kb_bb, kb_bt, kb_bs, kb_tt, kb_ti, kb_ts, kb_ss, kb_si, kb_st, kb_nt, kb_ni, kb_ns, kb_lt, kb_li, kb_ls, ex_some]
    refine ⟨2, rfl, ?_⟩
    simp only [Sto.up_same, dSeq, dNext, dRet, dRetN, dIfS, dAsg, dAsgG, dDrop, dPar2, dPar3, dAug, dAugS, dFor, dOp, dVar, dC, dTest, dChain, dAnd, dOr, dNot, dAndV, dOrV, dNotV, dIf, dTup, dLst, dNil, dCons, dStar, dCB, dCall, dSl, dNoPart, dPart, dBM, dRev, dNeg, dIsi, dListRg, dTupRg, dRg1, dRg2, dLc, dIt, dEnum, dZip2, dZip3, dRng1, dRng2, dYes, gN, gT, gsNil, gsCons, gSb, oI, oI0, oAdd, oMulA, oSub, oFdiv, oMod, oPow, oLt, oLe, oGt, oGe, oEq, oNe, oIsN, oNotN, oIsB, oNotB, oIx, oSl, oLen, oSum, oAll, oAny, oAbs, o1I, o2I, oMin2, oMax2, oMin, oMax, oMinL, oMaxL, oInt, oBool, oList, oTuple, oSorted, oIn, oAddI, oGet, oSet, oAppend, oExtend, oPop, oPopAt, oIndexL, oIndexT, oInsert, oRemove, dTupX, dBMX, dLenSet, D.isNon, newL, Sto.seq, Sto.list, Sto.lsts, Sto.itOf, Sto.trk, Sto.now, startD, wipeD, D.tyN, List.map_cons, List.map_nil, List.cons_append, List.nil_append, List.length_cons, List.length_nil, List.getElem?_cons_zero, List.getElem?_cons_succ, List.set_cons_zero, List.set_cons_succ, List.replicate, Nat.sub_self, Nat.reduceSub, Nat.reduceAdd, Nat.zero_add, kb_ii, kb_ib, kb_it, kb_is, kb_bi, kb_bb, kb_bt, kb_bs, kb_tt, kb_ti, kb_ts, kb_ss, kb_si, kb_st, kb_nt, kb_ni, kb_ns, kb_lt, kb_li, kb_ls, ex_some, i2, i1]
    refine ⟨small (by omega), by decide, ?_⟩
    have hm0 := Int.emod_nonneg (c + 1) (show (5 : Int) ≠ 0 by decide)
    have hm1 := Int.emod_lt_of_pos (c + 1) (show (0 : Int) < 5 by decide)
    have hpr : ∃ P : Int, 0 < P ∧ P ≤ 2147483647 ∧ atI [D.int 2147483647, D.int 2147483629, D.int 2147483587, D.int 2147483579, D.int 2147483563] ((c + 1) % 5) = some (.int P) := by
      have : (c + 1) % 5 = 0 ∨ (c + 1) % 5 = 1 ∨ (c + 1) % 5 = 2 ∨ (c + 1) % 5 = 3 ∨ (c + 1) % 5 = 4 := by omega
      rcases this with e | e | e | e | e <;> rw [e]
      · exact ⟨2147483647, by decide, by decide, rfl⟩
      · exact ⟨2147483629, by decide, by decide, rfl⟩
      · exact ⟨2147483587, by decide, by decide, rfl⟩
      · exact ⟨2147483579, by decide, by decide, rfl⟩
      · exact ⟨2147483563, by decide, by decide, rfl⟩
    obtain ⟨P, hP0, hP1, hP⟩ := hpr
    have cc : ((95257 * (c + 1)) * (c + 1)).natAbs ≤ 95257 * 1000001 * 1000001 := by
      rw [Int.natAbs_mul, Int.natAbs_mul]
      exact Nat.mul_le_mul (Nat.mul_le_mul (by decide) (by omega)) (by omega)
    simp only [hP, Sto.up_same, i2, i1, dSeq, dNext, dRet, dRetN, dIfS, dAsg, dAsgG, dDrop, dPar2, dPar3, dAug, dAugS, dFor, dOp, dVar, dC, dTest, dChain, dAnd, dOr, dNot, dAndV, dOrV, dNotV, dIf, dTup, dLst, dNil, dCons, dStar, dCB, dCall, dSl, dNoPart, dPart, dBM, dRev, dNeg, dIsi, dListRg, dTupRg, dRg1, dRg2, dLc, dIt, dEnum, dZip2, dZip3, dRng1, dRng2, dYes, gN, gT, gsNil, gsCons, gSb, oI, oI0, oAdd, oMulA, oSub, oFdiv, oMod, oPow, oLt, oLe, oGt, oGe, oEq, oNe, oIsN, oNotN, oIsB, oNotB, oIx, oSl, oLen, oSum, oAll, oAny, oAbs, o1I, o2I, oMin2, oMax2, oMin, oMax, oMinL, oMaxL, oInt, oBool, oList, oTuple, oSorted, oIn, oAddI, oGet, oSet, oAppend, oExtend, oPop, oPopAt, oIndexL, oIndexT, oInsert, oRemove, dTupX, dBMX, dLenSet, D.isNon, newL, Sto.seq, Sto.list, Sto.lsts, Sto.itOf, Sto.trk, Sto.now, startD, wipeD, D.tyN, List.map_cons, List.map_nil, List.cons_append, List.nil_append, List.length_cons, List.length_nil, List.getElem?_cons_zero, List.getElem?_cons_succ, List.set_cons_zero, List.set_cons_succ, List.replicate, Nat.sub_self, Nat.reduceSub, Nat.reduceAdd, Nat.zero_add, kb_ii, kb_ib, kb_it, kb_is, kb_bi, kb_bb, kb_bt, kb_bs, kb_tt, kb_ti, kb_ts, kb_ss, kb_si, kb_st, kb_nt, kb_ni, kb_ns, kb_lt, kb_li, kb_ls, ex_some]
    generalize hX : ((small_ + 95257 * (c + 1) * (c + 1) + 3163 : Int)) ^ Int.toNat 3 = X
    have m0 := Int.emod_nonneg X (Int.ne_of_gt hP0)
    have m1 := Int.emod_lt_of_pos X hP0
    have k0 := Int.emod_nonneg (X % P) (show (13441 : Int) ≠ 0 by decide)
    have k1 := Int.emod_lt_of_pos (X % P) (show (0 : Int) < 13441 by decide)
    refine ⟨cmul_small (n := 95257) (m := 1000001) (by decide) (by omega) (by decide +kernel) (by decide +kernel), cmul_small (n := 95257 * 1000001) (m := 1000001) (by omega) (by omega) (by decide +kernel) (by decide +kernel),
      ⟨by decide, by decide, Nat.lt_of_le_of_lt (show _ ≤ 2 ^ 70 by omega) (by decide +kernel)⟩, hP0, by decide,
      cmul_small (n := 419) (m := 1000001) (by decide) (by omega) (by decide +kernel) (by decide +kernel), cmul_small (n := 2147483647) (m := 2 ^ 40) (by omega) (by omega) (by decide +kernel) (by decide +kernel), by decide, ⟨by decide, by decide⟩, hn, ?_⟩
    refine .here (q _ _ (Int.emod_nonneg _ (by omega)) (Int.emod_lt_of_pos _ hn) ⟨own, small_, c + 1, rfl, h1, h2, h3, by omega, by omega⟩)
def sp__law_cells : DSp := fun ds S Q => ∃ (ns : List Int), ds = [.fz (ns.map .int), .int 3] ∧ ns.length ≤ 1000 ∧ ∀ n : Nat, n ≤ 3 → Q (.lst ((List.range n).map fun (i : Nat) => .int ((0 : Int) + (i : Nat)))) S
theorem pure__law_cells : ∀ ds S Q, sp__law_cells ds S Q → t__law_cells (DeN Q) (startD N__law_cells ds) S := by
  rintro ds S Q ⟨ns, rfl, hl, q⟩
  simp only [t__law_cells, dSeq, dNext, dRet, dRetN, dIfS, dAsg, dAsgG, dDrop, dPar2, dPar3, dAug, dAugS, dFor, dOp, dVar, dC, dTest, dChain, dAnd, dOr, dNot, dAndV, dOrV, dNotV, dIf, dTup, dLst, dNil, dCons, dStar, dCB, dCall, dSl, dNoPart, dPart, dBM, dRev, dNeg, dIsi, dListRg, dTupRg, dRg1, dRg2, dLc, dIt, dEnum, dZip2, dZip3, dRng1, dRng2, dYes, gN, gT, gsNil, gsCons, gSb, oI, oI0, oAdd, oMulA, oSub, oFdiv, oMod, oPow, oLt, oLe, oGt, oGe, oEq, oNe, oIsN, oNotN, oIsB, oNotB, oIx, oSl, oLen, oSum, oAll, oAny, oAbs, o1I, o2I, oMin2, oMax2, oMin, oMax, oMinL, oMaxL, oInt, oBool, oList, oTuple, oSorted, oIn, oAddI, oGet, oSet, oAppend, oExtend, oPop, oPopAt, oIndexL, oIndexT, oInsert, oRemove, dTupX, dBMX, dLenSet, D.isNon, newL, Sto.seq, Sto.list, Sto.lsts, Sto.itOf, Sto.trk, Sto.now, startD, wipeD, D.tyN, List.map_cons, List.map_nil, List.cons_append, List.nil_append, List.length_cons, List.length_nil, List.getElem?_cons_zero, List.getElem?_cons_succ, List.set_cons_zero, List.set_cons_succ, List.replicate, Nat.sub_self, Nat.reduceSub, Nat.reduceAdd, Nat.zero_add, kb_ii, kb_ib, kb_it, kb_is, kb_bi, kb_bb, kb_bt, kb_bs, kb_tt, kb_ti, kb_ts, kb_ss, kb_si, kb_st, kb_nt, kb_ni, kb_ns, kb_lt, kb_li, kb_ls, ex_some]
  have key : ∀ k : Int, 0 ≤ k → k ≤ 3 → RgOk 0 k ∧ FzQ Q (.lst (rgD 0 k)) S := fun k h0 h1 => by
    refine ⟨.of_le (by decide) (by omega) (by decide) h0, .here ?_⟩
    unfold rgD
    rw [show (k - 0).toNat = k.toNat by omega]
    exact q k.toNat (by omega)
  by_cases h1 : (((ns.map D.int).length : Nat) : Int) < 3
  · simp only [if_pos h1]
    by_cases h2 : (((ns.map D.int).length : Nat) : Int) > 1
    · simp only [if_pos h2]; exact key _ (by omega) (by omega)
    · simp only [if_neg h2]; exact key 1 (by decide) (by decide)
  · simp only [if_neg h1]
    have : (3 : Int) > 1 := by decide
    simp only [if_pos this]; exact key 3 (by decide) (by decide)
end L45
namespace L45
open PySem PySem.Spec PySem.W PyProof.Rows L2 PL
structure Job where
  p : Int
  w : Int
  d : Int
instance : Inhabited Job := ⟨⟨1, 0, 0⟩⟩
def eJ (j : Job) : D := .tup [.int j.p, .int j.w, .int j.d]
def eJs (J : List Job) : D := .tup (J.map eJ)
def nI (i : Nat) : D := .int (i : Int)
theorem nI_map (o : List Nat) : o.map nI = (o.map fun (i : Nat) => (i : Int)).map D.int := by rw [List.map_map]; rfl
structure GJ (J : List Job) : Prop where
  few : J.length ≤ 60
  p1 : ∀ j ∈ J, 1 ≤ j.p ∧ j.p ≤ 10000
  w0 : ∀ j ∈ J, 0 ≤ j.w ∧ j.w ≤ 10000
  d0 : ∀ j ∈ J, 0 ≤ j.d ∧ j.d ≤ 1000000
/-- an order of n -/
def Perm_ (n : Nat) (o : List Nat) : Prop := o.Perm (List.range n)
def gj (J : List Job) (i : Nat) : Job := J.getD i default
theorem gj_mem {J : List Job} {i : Nat} (h : i < J.length) : gj J i ∈ J := by
  unfold gj; rw [List.getD_eq_getElem?_getD, List.getElem?_eq_getElem h]; exact List.getElem_mem h
theorem ix_job {J : List Job} {i : Nat} (h : i < J.length) : atI (J.map eJ) ((i : Nat) : Int) = some (eJ (gj J i)) := by
  rw [atI_map, atI_nn (default : Job) (by omega) (by omega), Int.toNat_natCast]; rfl
theorem a30 {a b c : D} : atI [a, b, c] 0 = some a := rfl
theorem a31 {a b c : D} : atI [a, b, c] 1 = some b := rfl
theorem a32 {a b c : D} : atI [a, b, c] 2 = some c := rfl
theorem a20 {a b : D} : atI [a, b] 0 = some a := rfl
theorem a21 {a b : D} : atI [a, b] 1 = some b := rfl
theorem ok_one {n : Nat} : D.okn 8 (.tup [.int n]) = true := by rw [okn_tup, List.all_cons, okn_int]; rfl
def sp_is_told : DSp := fun ds S Q => ∃ (x : Str) (xs : List D) (n : Nat), ds = [.tup (.str x :: xs), .tup [.int (n : Nat)]] ∧ xs.length + 1 = n ∧ Q (.bl true) S
theorem pure_is_told : ∀ ds S Q, sp_is_told ds S Q → t_is_told (DeN Q) (startD N_is_told ds) S := by
  rintro ds S Q ⟨x, xs, n, rfl, hn, q⟩
  simp only [t_is_told, dSeq, dNext, dRet, dRetN, dIfS, dAsg, dAsgG, dDrop, dPar2, dPar3, dAug, dAugS, dFor, dOp, dVar, dC, dTest, dChain, dAnd, dOr, dNot, dAndV, dOrV, dNotV, dIf, dTup, dLst, dNil, dCons, dStar, dCB, dCall, dSl, dNoPart, dPart, dBM, dRev, dNeg, dIsi, dListRg, dTupRg, dRg1, dRg2, dLc, dIt, dEnum, dZip2, dZip3, dRng1, dRng2, dYes, gN, gT, gsNil, gsCons, gSb, oI, oI0, oAdd, oMulA, oSub, oFdiv, oMod, oPow, oLt, oLe, oGt, oGe, oEq, oNe, oIsN, oNotN, oIsB, oNotB, oIx, oSl, oLen, oSum, oAll, oAny, oAbs, o1I, o2I, oMin2, oMax2, oMin, oMax, oMinL, oMaxL, oInt, oBool, oList, oTuple, oSorted, oIn, oAddI, oGet, oSet, oAppend, oExtend, oPop, oPopAt, oIndexL, oIndexT, oInsert, oRemove, dTupX, dBMX, dLenSet, newL, startD, wipeD, D.tyN, List.map_cons, List.map_nil, List.cons_append, List.nil_append, List.length_cons, List.length_nil, List.getElem?_cons_zero, List.getElem?_cons_succ, List.set_cons_zero, List.set_cons_succ, List.replicate, Nat.sub_self, Nat.reduceSub, Nat.reduceAdd, Nat.zero_add, kb_ii, kb_ib, kb_it, kb_is, kb_bi, kb_bb, kb_bt, kb_bs, kb_tt, kb_ti, kb_ts, kb_ss, kb_si, kb_st, kb_nt, kb_ni, kb_ns, kb_lt, kb_li, kb_ls, ex_some, seq_tup, seq_tpx, itOf_tpx, seq_lst, seq_fz, list_lst, lsts_lst, lsts_fz, itOf_tup, itOf_lst, itOf_fz, now_int, now_bl, now_non, now_str, now_tup, now_lst, isNon_non, isNon_int, isNon_tup, isNon_ref, isNon_lst, isNon_str, isNon_bl]
  refine ⟨⟨okn_int, by rw [List.all_cons, okn_int]; rfl⟩, ?_⟩
  have h0 : atI (D.str x :: xs) 0 = some (.str x) := atI_head rfl
  have e : ([D.int (n : Nat)].any fun z => eqD z (.int ((xs.length + 1 : Nat) : Int))) = true := by
    rw [List.any_cons, eqD_int, decide_eq_true (by omega)]; rfl
  simp only [e, h0, dSeq, dNext, dRet, dRetN, dIfS, dAsg, dAsgG, dDrop, dPar2, dPar3, dAug, dAugS, dFor, dOp, dVar, dC, dTest, dChain, dAnd, dOr, dNot, dAndV, dOrV, dNotV, dIf, dTup, dLst, dNil, dCons, dStar, dCB, dCall, dSl, dNoPart, dPart, dBM, dRev, dNeg, dIsi, dListRg, dTupRg, dRg1, dRg2, dLc, dIt, dEnum, dZip2, dZip3, dRng1, dRng2, dYes, gN, gT, gsNil, gsCons, gSb, oI, oI0, oAdd, oMulA, oSub, oFdiv, oMod, oPow, oLt, oLe, oGt, oGe, oEq, oNe, oIsN, oNotN, oIsB, oNotB, oIx, oSl, oLen, oSum, oAll, oAny, oAbs, o1I, o2I, oMin2, oMax2, oMin, oMax, oMinL, oMaxL, oInt, oBool, oList, oTuple, oSorted, oIn, oAddI, oGet, oSet, oAppend, oExtend, oPop, oPopAt, oIndexL, oIndexT, oInsert, oRemove, dTupX, dBMX, dLenSet, newL, startD, wipeD, D.tyN, List.map_cons, List.map_nil, List.cons_append, List.nil_append, List.length_cons, List.length_nil, List.getElem?_cons_zero, List.getElem?_cons_succ, List.set_cons_zero, List.set_cons_succ, List.replicate, Nat.sub_self, Nat.reduceSub, Nat.reduceAdd, Nat.zero_add, kb_ii, kb_ib, kb_it, kb_is, kb_bi, kb_bb, kb_bt, kb_bs, kb_tt, kb_ti, kb_ts, kb_ss, kb_si, kb_st, kb_nt, kb_ni, kb_ns, kb_lt, kb_li, kb_ls, ex_some, seq_tup, seq_tpx, itOf_tpx, seq_lst, seq_fz, list_lst, lsts_lst, lsts_fz, itOf_tup, itOf_lst, itOf_fz, now_int, now_bl, now_non, now_str, now_tup, now_lst, isNon_non, isNon_int, isNon_tup, isNon_ref, isNon_lst, isNon_str, isNon_bl, if_neg Bool.false_ne_true]
  exact .here q
def sp_is_order : DSp := fun ds S Q => ∃ (o : List Nat) (n : Nat), ds = [.tup (o.map nI), .int (n : Nat)] ∧ Perm_ n o ∧ n ≤ 1000 ∧ Q (.bl true) S
theorem Perm_.len {n : Nat} {o : List Nat} (h : Perm_ n o) : o.length = n := by have := h.length_eq; rw [List.length_range] at this; exact this
theorem Perm_.lt {n : Nat} {o : List Nat} (h : Perm_ n o) {i : Nat} (hi : i ∈ o) : i < n := List.mem_range.mp (h.mem_iff.mp hi)
theorem Perm_.nd {n : Nat} {o : List Nat} (h : Perm_ n o) : o.Nodup := h.nodup_iff.mpr List.nodup_range
theorem cast_nd {o : List Nat} (h : o.Nodup) : (o.map fun (i : Nat) => (i : Int)).Nodup := by
  refine List.Pairwise.map _ (fun a b hab => ?_) h
  intro z; exact hab (by omega)
theorem pure_is_order : ∀ ds S Q, sp_is_order ds S Q → t_is_order sp_are_ints (DeN Q) (startD N_is_order ds) S := by
  rintro ds S Q ⟨o, n, rfl, h, hn, q⟩
  simp only [t_is_order, dSeq, dNext, dRet, dRetN, dIfS, dAsg, dAsgG, dDrop, dPar2, dPar3, dAug, dAugS, dFor, dOp, dVar, dC, dTest, dChain, dAnd, dOr, dNot, dAndV, dOrV, dNotV, dIf, dTup, dLst, dNil, dCons, dStar, dCB, dCall, dSl, dNoPart, dPart, dBM, dRev, dNeg, dIsi, dListRg, dTupRg, dRg1, dRg2, dLc, dIt, dEnum, dZip2, dZip3, dRng1, dRng2, dYes, gN, gT, gsNil, gsCons, gSb, oI, oI0, oAdd, oMulA, oSub, oFdiv, oMod, oPow, oLt, oLe, oGt, oGe, oEq, oNe, oIsN, oNotN, oIsB, oNotB, oIx, oSl, oLen, oSum, oAll, oAny, oAbs, o1I, o2I, oMin2, oMax2, oMin, oMax, oMinL, oMaxL, oInt, oBool, oList, oTuple, oSorted, oIn, oAddI, oGet, oSet, oAppend, oExtend, oPop, oPopAt, oIndexL, oIndexT, oInsert, oRemove, dTupX, dBMX, dLenSet, newL, startD, wipeD, D.tyN, List.map_cons, List.map_nil, List.cons_append, List.nil_append, List.length_cons, List.length_nil, List.getElem?_cons_zero, List.getElem?_cons_succ, List.set_cons_zero, List.set_cons_succ, List.replicate, Nat.sub_self, Nat.reduceSub, Nat.reduceAdd, Nat.zero_add, kb_ii, kb_ib, kb_it, kb_is, kb_bi, kb_bb, kb_bt, kb_bs, kb_tt, kb_ti, kb_ts, kb_ss, kb_si, kb_st, kb_nt, kb_ni, kb_ns, kb_lt, kb_li, kb_ls, ex_some, seq_tup, seq_tpx, itOf_tpx, seq_lst, seq_fz, list_lst, lsts_lst, lsts_fz, itOf_tup, itOf_lst, itOf_fz, now_int, now_bl, now_non, now_str, now_tup, now_lst, isNon_non, isNon_int, isNon_tup, isNon_ref, isNon_lst, isNon_str, isNon_bl, nI_map]
  refine ⟨_, 0, (n : Int) - 1, rfl, small (by rw [List.length_map, h.len]; omega), ?_⟩
  have : inB 0 ((n : Int) - 1) (o.map fun (i : Nat) => (i : Int)) = true := List.all_eq_true.mpr fun x hx => by
    obtain ⟨i, hi, rfl⟩ := List.mem_map.mp hx
    have := h.lt hi
    have h1 : (0 : Int) ≤ (i : Int) := by omega
    have h2 : (i : Int) ≤ (n : Int) - 1 := by omega
    simp [h1, h2]
  rw [this]
  simp only [dSeq, dNext, dRet, dRetN, dIfS, dAsg, dAsgG, dDrop, dPar2, dPar3, dAug, dAugS, dFor, dOp, dVar, dC, dTest, dChain, dAnd, dOr, dNot, dAndV, dOrV, dNotV, dIf, dTup, dLst, dNil, dCons, dStar, dCB, dCall, dSl, dNoPart, dPart, dBM, dRev, dNeg, dIsi, dListRg, dTupRg, dRg1, dRg2, dLc, dIt, dEnum, dZip2, dZip3, dRng1, dRng2, dYes, gN, gT, gsNil, gsCons, gSb, oI, oI0, oAdd, oMulA, oSub, oFdiv, oMod, oPow, oLt, oLe, oGt, oGe, oEq, oNe, oIsN, oNotN, oIsB, oNotB, oIx, oSl, oLen, oSum, oAll, oAny, oAbs, o1I, o2I, oMin2, oMax2, oMin, oMax, oMinL, oMaxL, oInt, oBool, oList, oTuple, oSorted, oIn, oAddI, oGet, oSet, oAppend, oExtend, oPop, oPopAt, oIndexL, oIndexT, oInsert, oRemove, dTupX, dBMX, dLenSet, newL, startD, wipeD, D.tyN, List.map_cons, List.map_nil, List.cons_append, List.nil_append, List.length_cons, List.length_nil, List.getElem?_cons_zero, List.getElem?_cons_succ, List.set_cons_zero, List.set_cons_succ, List.replicate, Nat.sub_self, Nat.reduceSub, Nat.reduceAdd, Nat.zero_add, kb_ii, kb_ib, kb_it, kb_is, kb_bi, kb_bb, kb_bt, kb_bs, kb_tt, kb_ti, kb_ts, kb_ss, kb_si, kb_st, kb_nt, kb_ni, kb_ns, kb_lt, kb_li, kb_ls, ex_some, seq_tup, seq_tpx, itOf_tpx, seq_lst, seq_fz, list_lst, lsts_lst, lsts_fz, itOf_tup, itOf_lst, itOf_fz, now_int, now_bl, now_non, now_str, now_tup, now_lst, isNon_non, isNon_int, isNon_tup, isNon_ref, isNon_lst, isNon_str, isNon_bl]
  refine ⟨⟨okn_int, okn_int⟩, ?_⟩
  rw [eqD_int, List.length_map, List.length_map, h.len, decide_eq_true rfl]
  simp only []
  refine ⟨_, rfl, cast_nd h.nd, by rw [List.length_map, h.len]; omega, ⟨okn_int, okn_int⟩, ?_⟩
  rw [eqD_int, List.length_map, h.len, decide_eq_true rfl]
  exact .here q
def sp_is_job : DSp := fun ds S Q => ∃ j : Job, ds = [eJ j] ∧ (1 ≤ j.p ∧ j.p ≤ 10000) ∧ (0 ≤ j.w ∧ j.w ≤ 10000) ∧ (0 ≤ j.d ∧ j.d ≤ 1000000) ∧ Q (.bl true) S
theorem pure_is_job : ∀ ds S Q, sp_is_job ds S Q → t_is_job sp_are_ints (DeN Q) (startD N_is_job ds) S := by
  rintro ds S Q ⟨j, rfl, hp, hw, hd, q⟩
  simp only [t_is_job, dSeq, dNext, dRet, dRetN, dIfS, dAsg, dAsgG, dDrop, dPar2, dPar3, dAug, dAugS, dFor, dOp, dVar, dC, dTest, dChain, dAnd, dOr, dNot, dAndV, dOrV, dNotV, dIf, dTup, dLst, dNil, dCons, dStar, dCB, dCall, dSl, dNoPart, dPart, dBM, dRev, dNeg, dIsi, dListRg, dTupRg, dRg1, dRg2, dLc, dIt, dEnum, dZip2, dZip3, dRng1, dRng2, dYes, gN, gT, gsNil, gsCons, gSb, oI, oI0, oAdd, oMulA, oSub, oFdiv, oMod, oPow, oLt, oLe, oGt, oGe, oEq, oNe, oIsN, oNotN, oIsB, oNotB, oIx, oSl, oLen, oSum, oAll, oAny, oAbs, o1I, o2I, oMin2, oMax2, oMin, oMax, oMinL, oMaxL, oInt, oBool, oList, oTuple, oSorted, oIn, oAddI, oGet, oSet, oAppend, oExtend, oPop, oPopAt, oIndexL, oIndexT, oInsert, oRemove, dTupX, dBMX, dLenSet, newL, startD, wipeD, D.tyN, List.map_cons, List.map_nil, List.cons_append, List.nil_append, List.length_cons, List.length_nil, List.getElem?_cons_zero, List.getElem?_cons_succ, List.set_cons_zero, List.set_cons_succ, List.replicate, Nat.sub_self, Nat.reduceSub, Nat.reduceAdd, Nat.zero_add, kb_ii, kb_ib, kb_it, kb_is, kb_bi, kb_bb, kb_bt, kb_bs, kb_tt, kb_ti, kb_ts, kb_ss, kb_si, kb_st, kb_nt, kb_ni, kb_ns, kb_lt, kb_li, kb_ls, ex_some, seq_tup, seq_tpx, itOf_tpx, seq_lst, seq_fz, list_lst, lsts_lst, lsts_fz, itOf_tup, itOf_lst, itOf_fz, now_int, now_bl, now_non, now_str, now_tup, now_lst, isNon_non, isNon_int, isNon_tup, isNon_ref, isNon_lst, isNon_str, isNon_bl, eJ]
  refine ⟨[j.p, j.w, j.d], 0, 1000000, rfl, small (by simp), ?_⟩
  have : inB 0 1000000 [j.p, j.w, j.d] = true := by
    unfold inB
    simp only [List.all_cons, List.all_nil, Bool.and_true, Bool.and_eq_true, decide_eq_true_eq]
    omega
  rw [this]
  simp only [dSeq, dNext, dRet, dRetN, dIfS, dAsg, dAsgG, dDrop, dPar2, dPar3, dAug, dAugS, dFor, dOp, dVar, dC, dTest, dChain, dAnd, dOr, dNot, dAndV, dOrV, dNotV, dIf, dTup, dLst, dNil, dCons, dStar, dCB, dCall, dSl, dNoPart, dPart, dBM, dRev, dNeg, dIsi, dListRg, dTupRg, dRg1, dRg2, dLc, dIt, dEnum, dZip2, dZip3, dRng1, dRng2, dYes, gN, gT, gsNil, gsCons, gSb, oI, oI0, oAdd, oMulA, oSub, oFdiv, oMod, oPow, oLt, oLe, oGt, oGe, oEq, oNe, oIsN, oNotN, oIsB, oNotB, oIx, oSl, oLen, oSum, oAll, oAny, oAbs, o1I, o2I, oMin2, oMax2, oMin, oMax, oMinL, oMaxL, oInt, oBool, oList, oTuple, oSorted, oIn, oAddI, oGet, oSet, oAppend, oExtend, oPop, oPopAt, oIndexL, oIndexT, oInsert, oRemove, dTupX, dBMX, dLenSet, newL, startD, wipeD, D.tyN, List.map_cons, List.map_nil, List.cons_append, List.nil_append, List.length_cons, List.length_nil, List.getElem?_cons_zero, List.getElem?_cons_succ, List.set_cons_zero, List.set_cons_succ, List.replicate, Nat.sub_self, Nat.reduceSub, Nat.reduceAdd, Nat.zero_add, kb_ii, kb_ib, kb_it, kb_is, kb_bi, kb_bb, kb_bt, kb_bs, kb_tt, kb_ti, kb_ts, kb_ss, kb_si, kb_st, kb_nt, kb_ni, kb_ns, kb_lt, kb_li, kb_ls, ex_some, seq_tup, seq_tpx, itOf_tpx, seq_lst, seq_fz, list_lst, lsts_lst, lsts_fz, itOf_tup, itOf_lst, itOf_fz, now_int, now_bl, now_non, now_str, now_tup, now_lst, isNon_non, isNon_int, isNon_tup, isNon_ref, isNon_lst, isNon_str, isNon_bl, Bool.not_true]
  refine ⟨⟨okn_int, okn_int⟩, ?_⟩
  rw [eqD_int]
  simp only [a30, a31, dSeq, dNext, dRet, dRetN, dIfS, dAsg, dAsgG, dDrop, dPar2, dPar3, dAug, dAugS, dFor, dOp, dVar, dC, dTest, dChain, dAnd, dOr, dNot, dAndV, dOrV, dNotV, dIf, dTup, dLst, dNil, dCons, dStar, dCB, dCall, dSl, dNoPart, dPart, dBM, dRev, dNeg, dIsi, dListRg, dTupRg, dRg1, dRg2, dLc, dIt, dEnum, dZip2, dZip3, dRng1, dRng2, dYes, gN, gT, gsNil, gsCons, gSb, oI, oI0, oAdd, oMulA, oSub, oFdiv, oMod, oPow, oLt, oLe, oGt, oGe, oEq, oNe, oIsN, oNotN, oIsB, oNotB, oIx, oSl, oLen, oSum, oAll, oAny, oAbs, o1I, o2I, oMin2, oMax2, oMin, oMax, oMinL, oMaxL, oInt, oBool, oList, oTuple, oSorted, oIn, oAddI, oGet, oSet, oAppend, oExtend, oPop, oPopAt, oIndexL, oIndexT, oInsert, oRemove, dTupX, dBMX, dLenSet, newL, startD, wipeD, D.tyN, List.map_cons, List.map_nil, List.cons_append, List.nil_append, List.length_cons, List.length_nil, List.getElem?_cons_zero, List.getElem?_cons_succ, List.set_cons_zero, List.set_cons_succ, List.replicate, Nat.sub_self, Nat.reduceSub, Nat.reduceAdd, Nat.zero_add, kb_ii, kb_ib, kb_it, kb_is, kb_bi, kb_bb, kb_bt, kb_bs, kb_tt, kb_ti, kb_ts, kb_ss, kb_si, kb_st, kb_nt, kb_ni, kb_ns, kb_lt, kb_li, kb_ls, ex_some, seq_tup, seq_tpx, itOf_tpx, seq_lst, seq_fz, list_lst, lsts_lst, lsts_fz, itOf_tup, itOf_lst, itOf_fz, now_int, now_bl, now_non, now_str, now_tup, now_lst, isNon_non, isNon_int, isNon_tup, isNon_ref, isNon_lst, isNon_str, isNon_bl, decide_eq_true hp.1, decide_eq_true hp.2, decide_eq_true hw.2, show decide (((3 : Nat) : Int) = 3) = true by decide, Bool.not_true]
  exact .here q
def sp_are_jobs : DSp := fun ds S Q => ∃ J : List Job, ds = [eJs J] ∧ GJ J ∧ Q (.bl true) S
theorem pure_are_jobs : ∀ ds S Q, sp_are_jobs ds S Q → t_are_jobs sp_is_job (DeN Q) (startD N_are_jobs ds) S := by
  rintro ds S Q ⟨J, rfl, g, q⟩
  simp only [t_are_jobs, dSeq, dNext, dRet, dRetN, dIfS, dAsg, dAsgG, dDrop, dPar2, dPar3, dAug, dAugS, dFor, dOp, dVar, dC, dTest, dChain, dAnd, dOr, dNot, dAndV, dOrV, dNotV, dIf, dTup, dLst, dNil, dCons, dStar, dCB, dCall, dSl, dNoPart, dPart, dBM, dRev, dNeg, dIsi, dListRg, dTupRg, dRg1, dRg2, dLc, dIt, dEnum, dZip2, dZip3, dRng1, dRng2, dYes, gN, gT, gsNil, gsCons, gSb, oI, oI0, oAdd, oMulA, oSub, oFdiv, oMod, oPow, oLt, oLe, oGt, oGe, oEq, oNe, oIsN, oNotN, oIsB, oNotB, oIx, oSl, oLen, oSum, oAll, oAny, oAbs, o1I, o2I, oMin2, oMax2, oMin, oMax, oMinL, oMaxL, oInt, oBool, oList, oTuple, oSorted, oIn, oAddI, oGet, oSet, oAppend, oExtend, oPop, oPopAt, oIndexL, oIndexT, oInsert, oRemove, dTupX, dBMX, dLenSet, newL, startD, wipeD, D.tyN, List.map_cons, List.map_nil, List.cons_append, List.nil_append, List.length_cons, List.length_nil, List.getElem?_cons_zero, List.getElem?_cons_succ, List.set_cons_zero, List.set_cons_succ, List.replicate, Nat.sub_self, Nat.reduceSub, Nat.reduceAdd, Nat.zero_add, kb_ii, kb_ib, kb_it, kb_is, kb_bi, kb_bb, kb_bt, kb_bs, kb_tt, kb_ti, kb_ts, kb_ss, kb_si, kb_st, kb_nt, kb_ni, kb_ns, kb_lt, kb_li, kb_ls, ex_some, seq_tup, seq_tpx, itOf_tpx, seq_lst, seq_fz, list_lst, lsts_lst, lsts_fz, itOf_tup, itOf_lst, itOf_fz, now_int, now_bl, now_non, now_str, now_tup, now_lst, isNon_non, isNon_int, isNon_tup, isNon_ref, isNon_lst, isNon_str, isNon_bl, eJs]
  rw [decide_eq_true (by rw [List.length_map]; have := g.few; omega)]
  simp only []
  refine lc_mapE J eJ (fun _ => .bl true) (fun _ _ => trivial) (small (by have := g.few; omega)) (fun j hj S' e N M h => ?_) ?_
  · simp only [dSeq, dNext, dRet, dRetN, dIfS, dAsg, dAsgG, dDrop, dPar2, dPar3, dAug, dAugS, dFor, dOp, dVar, dC, dTest, dChain, dAnd, dOr, dNot, dAndV, dOrV, dNotV, dIf, dTup, dLst, dNil, dCons, dStar, dCB, dCall, dSl, dNoPart, dPart, dBM, dRev, dNeg, dIsi, dListRg, dTupRg, dRg1, dRg2, dLc, dIt, dEnum, dZip2, dZip3, dRng1, dRng2, dYes, gN, gT, gsNil, gsCons, gSb, oI, oI0, oAdd, oMulA, oSub, oFdiv, oMod, oPow, oLt, oLe, oGt, oGe, oEq, oNe, oIsN, oNotN, oIsB, oNotB, oIx, oSl, oLen, oSum, oAll, oAny, oAbs, o1I, o2I, oMin2, oMax2, oMin, oMax, oMinL, oMaxL, oInt, oBool, oList, oTuple, oSorted, oIn, oAddI, oGet, oSet, oAppend, oExtend, oPop, oPopAt, oIndexL, oIndexT, oInsert, oRemove, dTupX, dBMX, dLenSet, newL, startD, wipeD, D.tyN, List.map_cons, List.map_nil, List.cons_append, List.nil_append, List.length_cons, List.length_nil, List.getElem?_cons_zero, List.getElem?_cons_succ, List.set_cons_zero, List.set_cons_succ, List.replicate, Nat.sub_self, Nat.reduceSub, Nat.reduceAdd, Nat.zero_add, kb_ii, kb_ib, kb_it, kb_is, kb_bi, kb_bb, kb_bt, kb_bs, kb_tt, kb_ti, kb_ts, kb_ss, kb_si, kb_st, kb_nt, kb_ni, kb_ns, kb_lt, kb_li, kb_ls, ex_some, seq_tup, seq_tpx, itOf_tpx, seq_lst, seq_fz, list_lst, lsts_lst, lsts_fz, itOf_tup, itOf_lst, itOf_fz, now_int, now_bl, now_non, now_str, now_tup, now_lst, isNon_non, isNon_int, isNon_tup, isNon_ref, isNon_lst, isNon_str, isNon_bl]
    exact ⟨j, rfl, g.p1 j hj, g.w0 j hj, g.d0 j hj, h⟩
  simp only [dSeq, dNext, dRet, dRetN, dIfS, dAsg, dAsgG, dDrop, dPar2, dPar3, dAug, dAugS, dFor, dOp, dVar, dC, dTest, dChain, dAnd, dOr, dNot, dAndV, dOrV, dNotV, dIf, dTup, dLst, dNil, dCons, dStar, dCB, dCall, dSl, dNoPart, dPart, dBM, dRev, dNeg, dIsi, dListRg, dTupRg, dRg1, dRg2, dLc, dIt, dEnum, dZip2, dZip3, dRng1, dRng2, dYes, gN, gT, gsNil, gsCons, gSb, oI, oI0, oAdd, oMulA, oSub, oFdiv, oMod, oPow, oLt, oLe, oGt, oGe, oEq, oNe, oIsN, oNotN, oIsB, oNotB, oIx, oSl, oLen, oSum, oAll, oAny, oAbs, o1I, o2I, oMin2, oMax2, oMin, oMax, oMinL, oMaxL, oInt, oBool, oList, oTuple, oSorted, oIn, oAddI, oGet, oSet, oAppend, oExtend, oPop, oPopAt, oIndexL, oIndexT, oInsert, oRemove, dTupX, dBMX, dLenSet, newL, startD, wipeD, D.tyN, List.map_cons, List.map_nil, List.cons_append, List.nil_append, List.length_cons, List.length_nil, List.getElem?_cons_zero, List.getElem?_cons_succ, List.set_cons_zero, List.set_cons_succ, List.replicate, Nat.sub_self, Nat.reduceSub, Nat.reduceAdd, Nat.zero_add, kb_ii, kb_ib, kb_it, kb_is, kb_bi, kb_bb, kb_bt, kb_bs, kb_tt, kb_ti, kb_ts, kb_ss, kb_si, kb_st, kb_nt, kb_ni, kb_ns, kb_lt, kb_li, kb_ls, ex_some, seq_tup, seq_tpx, itOf_tpx, seq_lst, seq_fz, list_lst, lsts_lst, lsts_fz, itOf_tup, itOf_lst, itOf_fz, now_int, now_bl, now_non, now_str, now_tup, now_lst, isNon_non, isNon_int, isNon_tup, isNon_ref, isNon_lst, isNon_str, isNon_bl]
  refine ⟨J.map fun _ => true, by rw [List.map_map]; rfl, ?_⟩
  have : (J.map fun _ => true).all id = true := by simp
  rw [this]
  exact .here q
def sp_look_at_jobs : DSp := fun ds S Q => ∃ J : List Job, ds = [eJs J] ∧ GJ J ∧ Q .non S
theorem pure_look_at_jobs : ∀ ds S Q, sp_look_at_jobs ds S Q → t_look_at_jobs sp_are_jobs (DeN Q) (startD N_look_at_jobs ds) S := by
  rintro ds S Q ⟨J, rfl, g, q⟩
  simp only [t_look_at_jobs, dSeq, dNext, dRet, dRetN, dIfS, dAsg, dAsgG, dDrop, dPar2, dPar3, dAug, dAugS, dFor, dOp, dVar, dC, dTest, dChain, dAnd, dOr, dNot, dAndV, dOrV, dNotV, dIf, dTup, dLst, dNil, dCons, dStar, dCB, dCall, dSl, dNoPart, dPart, dBM, dRev, dNeg, dIsi, dListRg, dTupRg, dRg1, dRg2, dLc, dIt, dEnum, dZip2, dZip3, dRng1, dRng2, dYes, gN, gT, gsNil, gsCons, gSb, oI, oI0, oAdd, oMulA, oSub, oFdiv, oMod, oPow, oLt, oLe, oGt, oGe, oEq, oNe, oIsN, oNotN, oIsB, oNotB, oIx, oSl, oLen, oSum, oAll, oAny, oAbs, o1I, o2I, oMin2, oMax2, oMin, oMax, oMinL, oMaxL, oInt, oBool, oList, oTuple, oSorted, oIn, oAddI, oGet, oSet, oAppend, oExtend, oPop, oPopAt, oIndexL, oIndexT, oInsert, oRemove, dTupX, dBMX, dLenSet, newL, startD, wipeD, D.tyN, List.map_cons, List.map_nil, List.cons_append, List.nil_append, List.length_cons, List.length_nil, List.getElem?_cons_zero, List.getElem?_cons_succ, List.set_cons_zero, List.set_cons_succ, List.replicate, Nat.sub_self, Nat.reduceSub, Nat.reduceAdd, Nat.zero_add, kb_ii, kb_ib, kb_it, kb_is, kb_bi, kb_bb, kb_bt, kb_bs, kb_tt, kb_ti, kb_ts, kb_ss, kb_si, kb_st, kb_nt, kb_ni, kb_ns, kb_lt, kb_li, kb_ls, ex_some, seq_tup, seq_tpx, itOf_tpx, seq_lst, seq_fz, list_lst, lsts_lst, lsts_fz, itOf_tup, itOf_lst, itOf_fz, now_int, now_bl, now_non, now_str, now_tup, now_lst, isNon_non, isNon_int, isNon_tup, isNon_ref, isNon_lst, isNon_str, isNon_bl]
  refine ⟨J, rfl, g, ?_⟩
  simp only [Bool.not_true]
  exact .here q
def eO (o : List Nat) : D := .tup (o.map nI)
def sp_look_at_order : DSp := fun ds S Q => ∃ (J : List Job) (o : List Nat), ds = [eJs J, eO o] ∧ GJ J ∧ Perm_ J.length o ∧ Q .non S
theorem pure_look_at_order : ∀ ds S Q, sp_look_at_order ds S Q → t_look_at_order sp_look_at_jobs sp_is_order (DeN Q) (startD N_look_at_order ds) S := by
  rintro ds S Q ⟨J, o, rfl, g, h, q⟩
  simp only [t_look_at_order, dSeq, dNext, dRet, dRetN, dIfS, dAsg, dAsgG, dDrop, dPar2, dPar3, dAug, dAugS, dFor, dOp, dVar, dC, dTest, dChain, dAnd, dOr, dNot, dAndV, dOrV, dNotV, dIf, dTup, dLst, dNil, dCons, dStar, dCB, dCall, dSl, dNoPart, dPart, dBM, dRev, dNeg, dIsi, dListRg, dTupRg, dRg1, dRg2, dLc, dIt, dEnum, dZip2, dZip3, dRng1, dRng2, dYes, gN, gT, gsNil, gsCons, gSb, oI, oI0, oAdd, oMulA, oSub, oFdiv, oMod, oPow, oLt, oLe, oGt, oGe, oEq, oNe, oIsN, oNotN, oIsB, oNotB, oIx, oSl, oLen, oSum, oAll, oAny, oAbs, o1I, o2I, oMin2, oMax2, oMin, oMax, oMinL, oMaxL, oInt, oBool, oList, oTuple, oSorted, oIn, oAddI, oGet, oSet, oAppend, oExtend, oPop, oPopAt, oIndexL, oIndexT, oInsert, oRemove, dTupX, dBMX, dLenSet, newL, startD, wipeD, D.tyN, List.map_cons, List.map_nil, List.cons_append, List.nil_append, List.length_cons, List.length_nil, List.getElem?_cons_zero, List.getElem?_cons_succ, List.set_cons_zero, List.set_cons_succ, List.replicate, Nat.sub_self, Nat.reduceSub, Nat.reduceAdd, Nat.zero_add, kb_ii, kb_ib, kb_it, kb_is, kb_bi, kb_bb, kb_bt, kb_bs, kb_tt, kb_ti, kb_ts, kb_ss, kb_si, kb_st, kb_nt, kb_ni, kb_ns, kb_lt, kb_li, kb_ls, ex_some, seq_tup, seq_tpx, itOf_tpx, seq_lst, seq_fz, list_lst, lsts_lst, lsts_fz, itOf_tup, itOf_lst, itOf_fz, now_int, now_bl, now_non, now_str, now_tup, now_lst, isNon_non, isNon_int, isNon_tup, isNon_ref, isNon_lst, isNon_str, isNon_bl]
  refine ⟨J, rfl, g, ?_⟩
  simp only [dSeq, dNext, dRet, dRetN, dIfS, dAsg, dAsgG, dDrop, dPar2, dPar3, dAug, dAugS, dFor, dOp, dVar, dC, dTest, dChain, dAnd, dOr, dNot, dAndV, dOrV, dNotV, dIf, dTup, dLst, dNil, dCons, dStar, dCB, dCall, dSl, dNoPart, dPart, dBM, dRev, dNeg, dIsi, dListRg, dTupRg, dRg1, dRg2, dLc, dIt, dEnum, dZip2, dZip3, dRng1, dRng2, dYes, gN, gT, gsNil, gsCons, gSb, oI, oI0, oAdd, oMulA, oSub, oFdiv, oMod, oPow, oLt, oLe, oGt, oGe, oEq, oNe, oIsN, oNotN, oIsB, oNotB, oIx, oSl, oLen, oSum, oAll, oAny, oAbs, o1I, o2I, oMin2, oMax2, oMin, oMax, oMinL, oMaxL, oInt, oBool, oList, oTuple, oSorted, oIn, oAddI, oGet, oSet, oAppend, oExtend, oPop, oPopAt, oIndexL, oIndexT, oInsert, oRemove, dTupX, dBMX, dLenSet, newL, startD, wipeD, D.tyN, List.map_cons, List.map_nil, List.cons_append, List.nil_append, List.length_cons, List.length_nil, List.getElem?_cons_zero, List.getElem?_cons_succ, List.set_cons_zero, List.set_cons_succ, List.replicate, Nat.sub_self, Nat.reduceSub, Nat.reduceAdd, Nat.zero_add, kb_ii, kb_ib, kb_it, kb_is, kb_bi, kb_bb, kb_bt, kb_bs, kb_tt, kb_ti, kb_ts, kb_ss, kb_si, kb_st, kb_nt, kb_ni, kb_ns, kb_lt, kb_li, kb_ls, ex_some, seq_tup, seq_tpx, itOf_tpx, seq_lst, seq_fz, list_lst, lsts_lst, lsts_fz, itOf_tup, itOf_lst, itOf_fz, now_int, now_bl, now_non, now_str, now_tup, now_lst, isNon_non, isNon_int, isNon_tup, isNon_ref, isNon_lst, isNon_str, isNon_bl, eJs, eO]
  refine ⟨o, J.length, by rw [List.length_map], h, by have := g.few; omega, ?_⟩
  simp only [Bool.not_true]
  exact .here q
/-! ### ends -/
def ends (J : List Job) : Int → List Nat → List Int
  | _, [] => []
  | h, a :: o => (h + (gj J a).p) :: ends J (h + (gj J a).p) o
theorem ends_len (J : List Job) : ∀ (o : List Nat) (h : Int), (ends J h o).length = o.length
  | [], _ => rfl
  | a :: o, h => by rw [ends, List.length_cons, List.length_cons, ends_len J o]
theorem ends_snoc (J : List Job) : ∀ (o : List Nat) (h : Int) (a : Nat), ends J h (o ++ [a]) = ends J h o ++ [h + (o.map fun i => (gj J i).p).sum + (gj J a).p]
  | [], h, a => by simp [ends]
  | b :: o, h, a => by
    rw [List.cons_append, ends, ends_snoc J o, ends, List.cons_append, List.map_cons, List.sum_cons]
    congr 3
    omega
def psum (J : List Job) (o : List Nat) : Int := (o.map fun i => (gj J i).p).sum
def sp_told_ends : DSp := fun ds S Q => ∃ (J : List Job) (o : List Nat) (os : D), ds = [eJs J, os] ∧ (os = eO o ∨ os = .lst (o.map nI) ∨ os = .tpx (o.map nI)) ∧ (∀ i ∈ o, i < J.length) ∧ o.length ≤ 1000 ∧ Q (.lst ((ends J 0 o).map .int)) S
theorem pure_told_ends : ∀ ds S Q, sp_told_ends ds S Q → t_told_ends (DeN Q) (startD N_told_ends ds) S := by
  rintro ds S0 Q ⟨J, o, os, rfl, hos, hlt, hl, q⟩
  have key : S0.itOf os = some ⟨o.map nI, fun _ => True⟩ := by rcases hos with rfl | rfl | rfl <;> rfl
  have key2 : ∀ S : Sto, S.itOf os = some ⟨o.map nI, fun _ => True⟩ := by intro S; rcases hos with rfl | rfl | rfl <;> rfl
  unfold t_told_ends
  refine seqG fun v hv => ?_
  simp only [dSeq, dNext, dRet, dRetN, dIfS, dAsg, dAsgG, dDrop, dPar2, dPar3, dAug, dAugS, dFor, dOp, dVar, dC, dTest, dChain, dAnd, dOr, dNot, dAndV, dOrV, dNotV, dIf, dTup, dLst, dNil, dCons, dStar, dCB, dCall, dSl, dNoPart, dPart, dBM, dRev, dNeg, dIsi, dListRg, dTupRg, dRg1, dRg2, dLc, dIt, dEnum, dZip2, dZip3, dRng1, dRng2, dYes, gN, gT, gsNil, gsCons, gSb, oI, oI0, oAdd, oMulA, oSub, oFdiv, oMod, oPow, oLt, oLe, oGt, oGe, oEq, oNe, oIsN, oNotN, oIsB, oNotB, oIx, oSl, oLen, oSum, oAll, oAny, oAbs, o1I, o2I, oMin2, oMax2, oMin, oMax, oMinL, oMaxL, oInt, oBool, oList, oTuple, oSorted, oIn, oAddI, oGet, oSet, oAppend, oExtend, oPop, oPopAt, oIndexL, oIndexT, oInsert, oRemove, dTupX, dBMX, dLenSet, newL, startD, wipeD, D.tyN, List.map_cons, List.map_nil, List.cons_append, List.nil_append, List.length_cons, List.length_nil, List.getElem?_cons_zero, List.getElem?_cons_succ, List.set_cons_zero, List.set_cons_succ, List.replicate, Nat.sub_self, Nat.reduceSub, Nat.reduceAdd, Nat.zero_add, kb_ii, kb_ib, kb_it, kb_is, kb_bi, kb_bb, kb_bt, kb_bs, kb_tt, kb_ti, kb_ts, kb_ss, kb_si, kb_st, kb_nt, kb_ni, kb_ns, kb_lt, kb_li, kb_ls, ex_some, seq_tup, seq_tpx, itOf_tpx, seq_lst, seq_fz, list_lst, lsts_lst, lsts_fz, itOf_tup, itOf_lst, itOf_fz, now_int, now_bl, now_non, now_str, now_tup, now_lst, isNon_non, isNon_int, isNon_tup, isNon_ref, isNon_lst, isNon_str, isNon_bl, eJs]
  refine ⟨Nat.zero_le _, fun p hp => ?_⟩
  subst hv
  refine seqG fun v2 hv2 => ?_
  refine forG fun τ hτ => ?_
  simp only [dSeq, dNext, dRet, dRetN, dIfS, dAsg, dAsgG, dDrop, dPar2, dPar3, dAug, dAugS, dFor, dOp, dVar, dC, dTest, dChain, dAnd, dOr, dNot, dAndV, dOrV, dNotV, dIf, dTup, dLst, dNil, dCons, dStar, dCB, dCall, dSl, dNoPart, dPart, dBM, dRev, dNeg, dIsi, dListRg, dTupRg, dRg1, dRg2, dLc, dIt, dEnum, dZip2, dZip3, dRng1, dRng2, dYes, gN, gT, gsNil, gsCons, gSb, oI, oI0, oAdd, oMulA, oSub, oFdiv, oMod, oPow, oLt, oLe, oGt, oGe, oEq, oNe, oIsN, oNotN, oIsB, oNotB, oIx, oSl, oLen, oSum, oAll, oAny, oAbs, o1I, o2I, oMin2, oMax2, oMin, oMax, oMinL, oMaxL, oInt, oBool, oList, oTuple, oSorted, oIn, oAddI, oGet, oSet, oAppend, oExtend, oPop, oPopAt, oIndexL, oIndexT, oInsert, oRemove, dTupX, dBMX, dLenSet, newL, startD, wipeD, D.tyN, List.map_cons, List.map_nil, List.cons_append, List.nil_append, List.length_cons, List.length_nil, List.getElem?_cons_zero, List.getElem?_cons_succ, List.set_cons_zero, List.set_cons_succ, List.replicate, Nat.sub_self, Nat.reduceSub, Nat.reduceAdd, Nat.zero_add, kb_ii, kb_ib, kb_it, kb_is, kb_bi, kb_bb, kb_bt, kb_bs, kb_tt, kb_ti, kb_ts, kb_ss, kb_si, kb_st, kb_nt, kb_ni, kb_ns, kb_lt, kb_li, kb_ls, ex_some, seq_tup, seq_tpx, itOf_tpx, seq_lst, seq_fz, list_lst, lsts_lst, lsts_fz, itOf_tup, itOf_lst, itOf_fz, now_int, now_bl, now_non, now_str, now_tup, now_lst, isNon_non, isNon_int, isNon_tup, isNon_ref, isNon_lst, isNon_str, isNon_bl, key2]
  refine ⟨trivial, ?_⟩
  refine loopD_invE (α := Nat) nI (fun xs ρ S => ∃ o4 dn, ρ = [some (D.tup (J.map eJ)), some os, some (.ref p), some (.int (psum J dn)), o4] ∧ dn ++ xs = o ∧ Ext S0 S ∧ S p = some (.lst ((ends J 0 dn).map D.int))) ?_ ?_ _ _ _ ⟨none, [], rfl, rfl, Ext.up hp, Sto.up_same⟩ trivial
  · rintro a xs ρ S ⟨o4, dn, rfl, ho, hE, hS⟩ _ N hN
    have hal : a < J.length := hlt a (by rw [← ho]; simp)
    have hdl : dn.length < o.length := by rw [← ho]; simp
    subst hτ
    simp only [gN, List.set_cons_zero, List.set_cons_succ]
    simp only [dSeq, dNext, dRet, dRetN, dIfS, dAsg, dAsgG, dDrop, dPar2, dPar3, dAug, dAugS, dFor, dOp, dVar, dC, dTest, dChain, dAnd, dOr, dNot, dAndV, dOrV, dNotV, dIf, dTup, dLst, dNil, dCons, dStar, dCB, dCall, dSl, dNoPart, dPart, dBM, dRev, dNeg, dIsi, dListRg, dTupRg, dRg1, dRg2, dLc, dIt, dEnum, dZip2, dZip3, dRng1, dRng2, dYes, gN, gT, gsNil, gsCons, gSb, oI, oI0, oAdd, oMulA, oSub, oFdiv, oMod, oPow, oLt, oLe, oGt, oGe, oEq, oNe, oIsN, oNotN, oIsB, oNotB, oIx, oSl, oLen, oSum, oAll, oAny, oAbs, o1I, o2I, oMin2, oMax2, oMin, oMax, oMinL, oMaxL, oInt, oBool, oList, oTuple, oSorted, oIn, oAddI, oGet, oSet, oAppend, oExtend, oPop, oPopAt, oIndexL, oIndexT, oInsert, oRemove, dTupX, dBMX, dLenSet, newL, startD, wipeD, D.tyN, List.map_cons, List.map_nil, List.cons_append, List.nil_append, List.length_cons, List.length_nil, List.getElem?_cons_zero, List.getElem?_cons_succ, List.set_cons_zero, List.set_cons_succ, List.replicate, Nat.sub_self, Nat.reduceSub, Nat.reduceAdd, Nat.zero_add, kb_ii, kb_ib, kb_it, kb_is, kb_bi, kb_bb, kb_bt, kb_bs, kb_tt, kb_ti, kb_ts, kb_ss, kb_si, kb_st, kb_nt, kb_ni, kb_ns, kb_lt, kb_li, kb_ls, ex_some, seq_tup, seq_tpx, itOf_tpx, seq_lst, seq_fz, list_lst, lsts_lst, lsts_fz, itOf_tup, itOf_lst, itOf_fz, now_int, now_bl, now_non, now_str, now_tup, now_lst, isNon_non, isNon_int, isNon_tup, isNon_ref, isNon_lst, isNon_str, isNon_bl, nI, ix_job hal, eJ, a30, list_ref hS, trk_ref hS]
    have ps : psum J (dn ++ [a]) = psum J dn + (gj J a).p := by unfold psum; rw [List.map_append, List.sum_append]; simp
    refine ⟨⟨_, rfl⟩, by rw [List.length_map, ends_len, sizeLine_eq]; omega, hN _ _ trivial ⟨some (.int (a : Int)), dn ++ [a], by rw [ps], by simpa using ho, hE.set hp, ?_⟩⟩
    · rw [Sto.up_same, ends_snoc, List.map_append]
      have : (0 : Int) + (dn.map fun i => (gj J i).p).sum + (gj J a).p = psum J dn + (gj J a).p := by unfold psum; omega
      rw [this]; rfl
  · rintro ρ S ⟨o4, dn, rfl, ho, hE, hS⟩
    rw [List.append_nil] at ho
    subst ho
    show v2 _ _ _
    subst hv2
    simp only [dSeq, dNext, dRet, dRetN, dIfS, dAsg, dAsgG, dDrop, dPar2, dPar3, dAug, dAugS, dFor, dOp, dVar, dC, dTest, dChain, dAnd, dOr, dNot, dAndV, dOrV, dNotV, dIf, dTup, dLst, dNil, dCons, dStar, dCB, dCall, dSl, dNoPart, dPart, dBM, dRev, dNeg, dIsi, dListRg, dTupRg, dRg1, dRg2, dLc, dIt, dEnum, dZip2, dZip3, dRng1, dRng2, dYes, gN, gT, gsNil, gsCons, gSb, oI, oI0, oAdd, oMulA, oSub, oFdiv, oMod, oPow, oLt, oLe, oGt, oGe, oEq, oNe, oIsN, oNotN, oIsB, oNotB, oIx, oSl, oLen, oSum, oAll, oAny, oAbs, o1I, o2I, oMin2, oMax2, oMin, oMax, oMinL, oMaxL, oInt, oBool, oList, oTuple, oSorted, oIn, oAddI, oGet, oSet, oAppend, oExtend, oPop, oPopAt, oIndexL, oIndexT, oInsert, oRemove, dTupX, dBMX, dLenSet, newL, startD, wipeD, D.tyN, List.map_cons, List.map_nil, List.cons_append, List.nil_append, List.length_cons, List.length_nil, List.getElem?_cons_zero, List.getElem?_cons_succ, List.set_cons_zero, List.set_cons_succ, List.replicate, Nat.sub_self, Nat.reduceSub, Nat.reduceAdd, Nat.zero_add, kb_ii, kb_ib, kb_it, kb_is, kb_bi, kb_bb, kb_bt, kb_bs, kb_tt, kb_ti, kb_ts, kb_ss, kb_si, kb_st, kb_nt, kb_ni, kb_ns, kb_lt, kb_li, kb_ls, ex_some, seq_tup, seq_tpx, itOf_tpx, seq_lst, seq_fz, list_lst, lsts_lst, lsts_fz, itOf_tup, itOf_lst, itOf_fz, now_int, now_bl, now_non, now_str, now_tup, now_lst, isNon_non, isNon_int, isNon_tup, isNon_ref, isNon_lst, isNon_str, isNon_bl]
    exact FzQ.extL hE hS hp q
def sp_ends_of : DSp := fun ds S Q => ∃ (J : List Job) (o : List Nat), ds = [eJs J, eO o] ∧ GJ J ∧ Perm_ J.length o ∧ Q (eI (ends J 0 o)) S
theorem pure_ends_of : ∀ ds S Q, sp_ends_of ds S Q → t_ends_of sp_look_at_order sp_told_ends (DeN Q) (startD N_ends_of ds) S := by
  rintro ds S Q ⟨J, o, rfl, g, h, q⟩
  simp only [t_ends_of, dSeq, dNext, dRet, dRetN, dIfS, dAsg, dAsgG, dDrop, dPar2, dPar3, dAug, dAugS, dFor, dOp, dVar, dC, dTest, dChain, dAnd, dOr, dNot, dAndV, dOrV, dNotV, dIf, dTup, dLst, dNil, dCons, dStar, dCB, dCall, dSl, dNoPart, dPart, dBM, dRev, dNeg, dIsi, dListRg, dTupRg, dRg1, dRg2, dLc, dIt, dEnum, dZip2, dZip3, dRng1, dRng2, dYes, gN, gT, gsNil, gsCons, gSb, oI, oI0, oAdd, oMulA, oSub, oFdiv, oMod, oPow, oLt, oLe, oGt, oGe, oEq, oNe, oIsN, oNotN, oIsB, oNotB, oIx, oSl, oLen, oSum, oAll, oAny, oAbs, o1I, o2I, oMin2, oMax2, oMin, oMax, oMinL, oMaxL, oInt, oBool, oList, oTuple, oSorted, oIn, oAddI, oGet, oSet, oAppend, oExtend, oPop, oPopAt, oIndexL, oIndexT, oInsert, oRemove, dTupX, dBMX, dLenSet, newL, startD, wipeD, D.tyN, List.map_cons, List.map_nil, List.cons_append, List.nil_append, List.length_cons, List.length_nil, List.getElem?_cons_zero, List.getElem?_cons_succ, List.set_cons_zero, List.set_cons_succ, List.replicate, Nat.sub_self, Nat.reduceSub, Nat.reduceAdd, Nat.zero_add, kb_ii, kb_ib, kb_it, kb_is, kb_bi, kb_bb, kb_bt, kb_bs, kb_tt, kb_ti, kb_ts, kb_ss, kb_si, kb_st, kb_nt, kb_ni, kb_ns, kb_lt, kb_li, kb_ls, ex_some, seq_tup, seq_tpx, itOf_tpx, seq_lst, seq_fz, list_lst, lsts_lst, lsts_fz, itOf_tup, itOf_lst, itOf_fz, now_int, now_bl, now_non, now_str, now_tup, now_lst, isNon_non, isNon_int, isNon_tup, isNon_ref, isNon_lst, isNon_str, isNon_bl]
  refine ⟨J, o, rfl, g, h, J, o, _, rfl, .inl rfl, fun i hi => h.lt hi, by rw [h.len]; have := g.few; omega, ?_⟩
  simp only [dSeq, dNext, dRet, dRetN, dIfS, dAsg, dAsgG, dDrop, dPar2, dPar3, dAug, dAugS, dFor, dOp, dVar, dC, dTest, dChain, dAnd, dOr, dNot, dAndV, dOrV, dNotV, dIf, dTup, dLst, dNil, dCons, dStar, dCB, dCall, dSl, dNoPart, dPart, dBM, dRev, dNeg, dIsi, dListRg, dTupRg, dRg1, dRg2, dLc, dIt, dEnum, dZip2, dZip3, dRng1, dRng2, dYes, gN, gT, gsNil, gsCons, gSb, oI, oI0, oAdd, oMulA, oSub, oFdiv, oMod, oPow, oLt, oLe, oGt, oGe, oEq, oNe, oIsN, oNotN, oIsB, oNotB, oIx, oSl, oLen, oSum, oAll, oAny, oAbs, o1I, o2I, oMin2, oMax2, oMin, oMax, oMinL, oMaxL, oInt, oBool, oList, oTuple, oSorted, oIn, oAddI, oGet, oSet, oAppend, oExtend, oPop, oPopAt, oIndexL, oIndexT, oInsert, oRemove, dTupX, dBMX, dLenSet, newL, startD, wipeD, D.tyN, List.map_cons, List.map_nil, List.cons_append, List.nil_append, List.length_cons, List.length_nil, List.getElem?_cons_zero, List.getElem?_cons_succ, List.set_cons_zero, List.set_cons_succ, List.replicate, Nat.sub_self, Nat.reduceSub, Nat.reduceAdd, Nat.zero_add, kb_ii, kb_ib, kb_it, kb_is, kb_bi, kb_bb, kb_bt, kb_bs, kb_tt, kb_ti, kb_ts, kb_ss, kb_si, kb_st, kb_nt, kb_ni, kb_ns, kb_lt, kb_li, kb_ls, ex_some, seq_tup, seq_tpx, itOf_tpx, seq_lst, seq_fz, list_lst, lsts_lst, lsts_fz, itOf_tup, itOf_lst, itOf_fz, now_int, now_bl, now_non, now_str, now_tup, now_lst, isNon_non, isNon_int, isNon_tup, isNon_ref, isNon_lst, isNon_str, isNon_bl]
  exact .here q
end L45
namespace L45
open PySem PySem.Spec PySem.W PyProof.Rows L2 PL
/-! ### sorted by a key, then by place -/
def leP (p q : Int × Int) : Bool := decide (p.1 < q.1 ∨ (p.1 = q.1 ∧ p.2 ≤ q.2))
def eP (p : Int × Int) : D := .tup [.int p.1, .int p.2]
theorem leD_P {p q : Int × Int} : leD (eP p) (eP q) = leP p q := by
  unfold leD leP eP
  rw [dataLe_eq]
  simp only [D.py, D.pys, dataLt_ii, cond_false]
  by_cases h : p.1 < q.1 ∨ (p.1 = q.1 ∧ p.2 ≤ q.2)
  · rw [decide_eq_true h, decide_eq_false (by omega)]; rfl
  · rw [decide_eq_false h, decide_eq_true (by omega)]; rfl
theorem sort_pairs {ps : List (Int × Int)} : (ps.map eP).mergeSort leD = (ps.mergeSort leP).map eP := (sort_maps eP fun a _ b _ => leD_P.symm).symm
theorem sortable_pairs {ps : List (Int × Int)} : Sortable ((ps.map eP).map D.py) := .inl fun d hd => by
  rw [List.map_map] at hd
  obtain ⟨a, _, rfl⟩ := List.mem_map.mp hd
  simp only [Function.comp, eP, D.py, D.pys]
  exact ⟨_, _, rfl⟩
def leK (k : Nat → Int) (i j : Nat) : Bool := decide (k i < k j ∨ (k i = k j ∧ i ≤ j))
def sortBy (k : Nat → Int) (n : Nat) : List Nat := (List.range n).mergeSort (leK k)
theorem sortBy_perm (k : Nat → Int) (n : Nat) : Perm_ n (sortBy k n) := List.mergeSort_perm _ _
theorem sortBy_sorted (k : Nat → Int) (n : Nat) : (sortBy k n).Pairwise fun i j => k i < k j ∨ (k i = k j ∧ i ≤ j) := by
  have := List.pairwise_mergeSort (le := leK k) (fun a b c h1 h2 => by simp only [leK, decide_eq_true_eq] at *; omega) (fun a b => by simp only [leK, Bool.or_eq_true, decide_eq_true_eq]; omega) (List.range n)
  exact this.imp fun h => by simpa [leK] using h
theorem sortBy_shift (k : Nat → Int) (c : Int) (n : Nat) : sortBy (fun i => k i + c) n = sortBy k n := by
  unfold sortBy
  congr 1
  funext i j
  unfold leK
  congr 1
  apply propext
  show (k i + c < k j + c ∨ k i + c = k j + c ∧ i ≤ j) ↔ (k i < k j ∨ k i = k j ∧ i ≤ j)
  omega
theorem sortBy_pairs (k : Nat → Int) (n : Nat) : ((List.range n).map fun i => (k i, (i : Int))).mergeSort leP = (sortBy k n).map fun i => (k i, (i : Int)) := by
  unfold sortBy
  refine (sort_maps (fun i : Nat => (k i, (i : Int))) fun a _ b _ => ?_).symm
  unfold leK leP
  congr 1
  apply propext
  simp only
  omega
theorem zipIdx_range (J : List Job) (f : Job → Int) : (J.zipIdx 0).map (fun q => (f q.1, ((q.2 : Nat) : Int))) = (List.range J.length).map fun i => (f (gj J i), (i : Int)) := by
  apply List.ext_getElem?
  intro i
  rw [List.getElem?_map, List.getElem?_map, List.getElem?_zipIdx]
  by_cases h : i < J.length
  · rw [List.getElem?_range h, List.getElem?_eq_getElem h]
    have : gj J i = J[i] := by unfold gj; rw [List.getD_eq_getElem?_getD, List.getElem?_eq_getElem h]; rfl
    simp [this]
  · rw [List.getElem?_eq_none (by omega), List.getElem?_eq_none (by simp; omega)]; rfl
def kd (J : List Job) (i : Nat) : Int := (gj J i).d
def bd (J : List Job) : List Nat := sortBy (kd J) J.length
theorem bd_perm (J : List Job) : Perm_ J.length (bd J) := sortBy_perm _ _
def sp_by_due : DSp := fun ds S Q => ∃ J : List Job, ds = [eJs J] ∧ J.length ≤ 100 ∧ Q (.lst ((bd J).map nI)) S
theorem pure_by_due : ∀ ds S Q, sp_by_due ds S Q → t_by_due (DeN Q) (startD N_by_due ds) S := by
  rintro ds S Q ⟨J, rfl, hl, q⟩
  simp only [t_by_due, dSeq, dNext, dRet, dRetN, dIfS, dAsg, dAsgG, dDrop, dPar2, dPar3, dAug, dAugS, dFor, dOp, dVar, dC, dTest, dChain, dAnd, dOr, dNot, dAndV, dOrV, dNotV, dIf, dTup, dLst, dNil, dCons, dStar, dCB, dCall, dSl, dNoPart, dPart, dBM, dRev, dNeg, dIsi, dListRg, dTupRg, dRg1, dRg2, dLc, dIt, dEnum, dZip2, dZip3, dRng1, dRng2, dYes, gN, gT, gsNil, gsCons, gSb, oI, oI0, oAdd, oMulA, oSub, oFdiv, oMod, oPow, oLt, oLe, oGt, oGe, oEq, oNe, oIsN, oNotN, oIsB, oNotB, oIx, oSl, oLen, oSum, oAll, oAny, oAbs, o1I, o2I, oMin2, oMax2, oMin, oMax, oMinL, oMaxL, oInt, oBool, oList, oTuple, oSorted, oIn, oAddI, oGet, oSet, oAppend, oExtend, oPop, oPopAt, oIndexL, oIndexT, oInsert, oRemove, dTupX, dBMX, dLenSet, newL, startD, wipeD, D.tyN, List.map_cons, List.map_nil, List.cons_append, List.nil_append, List.length_cons, List.length_nil, List.getElem?_cons_zero, List.getElem?_cons_succ, List.set_cons_zero, List.set_cons_succ, List.replicate, Nat.sub_self, Nat.reduceSub, Nat.reduceAdd, Nat.zero_add, kb_ii, kb_ib, kb_it, kb_is, kb_bi, kb_bb, kb_bt, kb_bs, kb_tt, kb_ti, kb_ts, kb_ss, kb_si, kb_st, kb_nt, kb_ni, kb_ns, kb_lt, kb_li, kb_ls, ex_some, seq_tup, seq_tpx, itOf_tpx, seq_lst, seq_fz, list_lst, lsts_lst, lsts_fz, itOf_tup, itOf_lst, itOf_fz, now_int, now_bl, now_non, now_str, now_tup, now_lst, isNon_non, isNon_int, isNon_tup, isNon_ref, isNon_lst, isNon_str, isNon_bl, eJs, enum_map]
  refine lc_mapE (J.zipIdx 0) (fun q => D.tup [.int (q.2 : Nat), eJ q.1]) (fun q => eP (q.1.d, ((q.2 : Nat) : Int))) (fun _ _ => trivial) (small (by simp; omega)) (fun q hq S' e N M h => ?_) ?_
  · simp only [dSeq, dNext, dRet, dRetN, dIfS, dAsg, dAsgG, dDrop, dPar2, dPar3, dAug, dAugS, dFor, dOp, dVar, dC, dTest, dChain, dAnd, dOr, dNot, dAndV, dOrV, dNotV, dIf, dTup, dLst, dNil, dCons, dStar, dCB, dCall, dSl, dNoPart, dPart, dBM, dRev, dNeg, dIsi, dListRg, dTupRg, dRg1, dRg2, dLc, dIt, dEnum, dZip2, dZip3, dRng1, dRng2, dYes, gN, gT, gsNil, gsCons, gSb, oI, oI0, oAdd, oMulA, oSub, oFdiv, oMod, oPow, oLt, oLe, oGt, oGe, oEq, oNe, oIsN, oNotN, oIsB, oNotB, oIx, oSl, oLen, oSum, oAll, oAny, oAbs, o1I, o2I, oMin2, oMax2, oMin, oMax, oMinL, oMaxL, oInt, oBool, oList, oTuple, oSorted, oIn, oAddI, oGet, oSet, oAppend, oExtend, oPop, oPopAt, oIndexL, oIndexT, oInsert, oRemove, dTupX, dBMX, dLenSet, newL, startD, wipeD, D.tyN, List.map_cons, List.map_nil, List.cons_append, List.nil_append, List.length_cons, List.length_nil, List.getElem?_cons_zero, List.getElem?_cons_succ, List.set_cons_zero, List.set_cons_succ, List.replicate, Nat.sub_self, Nat.reduceSub, Nat.reduceAdd, Nat.zero_add, kb_ii, kb_ib, kb_it, kb_is, kb_bi, kb_bb, kb_bt, kb_bs, kb_tt, kb_ti, kb_ts, kb_ss, kb_si, kb_st, kb_nt, kb_ni, kb_ns, kb_lt, kb_li, kb_ls, ex_some, seq_tup, seq_tpx, itOf_tpx, seq_lst, seq_fz, list_lst, lsts_lst, lsts_fz, itOf_tup, itOf_lst, itOf_fz, now_int, now_bl, now_non, now_str, now_tup, now_lst, isNon_non, isNon_int, isNon_tup, isNon_ref, isNon_lst, isNon_str, isNon_bl, eJ, a32]
    exact ⟨trivial, small (by simp), h⟩
  have em : (J.zipIdx 0).map (fun q => eP (q.1.d, ((q.2 : Nat) : Int))) = ((List.range J.length).map fun i => (kd J i, (i : Int))).map eP := by
    rw [show (List.range J.length).map (fun i => (kd J i, (i : Int))) = (J.zipIdx 0).map (fun q => (q.1.d, ((q.2 : Nat) : Int))) from (zipIdx_range J (fun j => j.d)).symm, List.map_map]; rfl
  simp only [dSeq, dNext, dRet, dRetN, dIfS, dAsg, dAsgG, dDrop, dPar2, dPar3, dAug, dAugS, dFor, dOp, dVar, dC, dTest, dChain, dAnd, dOr, dNot, dAndV, dOrV, dNotV, dIf, dTup, dLst, dNil, dCons, dStar, dCB, dCall, dSl, dNoPart, dPart, dBM, dRev, dNeg, dIsi, dListRg, dTupRg, dRg1, dRg2, dLc, dIt, dEnum, dZip2, dZip3, dRng1, dRng2, dYes, gN, gT, gsNil, gsCons, gSb, oI, oI0, oAdd, oMulA, oSub, oFdiv, oMod, oPow, oLt, oLe, oGt, oGe, oEq, oNe, oIsN, oNotN, oIsB, oNotB, oIx, oSl, oLen, oSum, oAll, oAny, oAbs, o1I, o2I, oMin2, oMax2, oMin, oMax, oMinL, oMaxL, oInt, oBool, oList, oTuple, oSorted, oIn, oAddI, oGet, oSet, oAppend, oExtend, oPop, oPopAt, oIndexL, oIndexT, oInsert, oRemove, dTupX, dBMX, dLenSet, newL, startD, wipeD, D.tyN, List.map_cons, List.map_nil, List.cons_append, List.nil_append, List.length_cons, List.length_nil, List.getElem?_cons_zero, List.getElem?_cons_succ, List.set_cons_zero, List.set_cons_succ, List.replicate, Nat.sub_self, Nat.reduceSub, Nat.reduceAdd, Nat.zero_add, kb_ii, kb_ib, kb_it, kb_is, kb_bi, kb_bb, kb_bt, kb_bs, kb_tt, kb_ti, kb_ts, kb_ss, kb_si, kb_st, kb_nt, kb_ni, kb_ns, kb_lt, kb_li, kb_ls, ex_some, seq_tup, seq_tpx, itOf_tpx, seq_lst, seq_fz, list_lst, lsts_lst, lsts_fz, itOf_tup, itOf_lst, itOf_fz, now_int, now_bl, now_non, now_str, now_tup, now_lst, isNon_non, isNon_int, isNon_tup, isNon_ref, isNon_lst, isNon_str, isNon_bl]
  rw [em, sort_pairs, sortBy_pairs]
  refine ⟨⟨okn_pairs, akin_pairs, sortable_pairs, small (by simp; omega)⟩, ?_⟩
  rw [List.map_map]
  refine lc_mapE (sortBy (kd J) J.length) (eP ∘ fun i => (kd J i, (i : Int))) nI (fun _ _ => trivial) (small (by rw [(sortBy_perm (kd J) J.length).len]; omega)) (fun i hi S' e N M h => ?_) ?_
  · simp only [dSeq, dNext, dRet, dRetN, dIfS, dAsg, dAsgG, dDrop, dPar2, dPar3, dAug, dAugS, dFor, dOp, dVar, dC, dTest, dChain, dAnd, dOr, dNot, dAndV, dOrV, dNotV, dIf, dTup, dLst, dNil, dCons, dStar, dCB, dCall, dSl, dNoPart, dPart, dBM, dRev, dNeg, dIsi, dListRg, dTupRg, dRg1, dRg2, dLc, dIt, dEnum, dZip2, dZip3, dRng1, dRng2, dYes, gN, gT, gsNil, gsCons, gSb, oI, oI0, oAdd, oMulA, oSub, oFdiv, oMod, oPow, oLt, oLe, oGt, oGe, oEq, oNe, oIsN, oNotN, oIsB, oNotB, oIx, oSl, oLen, oSum, oAll, oAny, oAbs, o1I, o2I, oMin2, oMax2, oMin, oMax, oMinL, oMaxL, oInt, oBool, oList, oTuple, oSorted, oIn, oAddI, oGet, oSet, oAppend, oExtend, oPop, oPopAt, oIndexL, oIndexT, oInsert, oRemove, dTupX, dBMX, dLenSet, newL, startD, wipeD, D.tyN, List.map_cons, List.map_nil, List.cons_append, List.nil_append, List.length_cons, List.length_nil, List.getElem?_cons_zero, List.getElem?_cons_succ, List.set_cons_zero, List.set_cons_succ, List.replicate, Nat.sub_self, Nat.reduceSub, Nat.reduceAdd, Nat.zero_add, kb_ii, kb_ib, kb_it, kb_is, kb_bi, kb_bb, kb_bt, kb_bs, kb_tt, kb_ti, kb_ts, kb_ss, kb_si, kb_st, kb_nt, kb_ni, kb_ns, kb_lt, kb_li, kb_ls, ex_some, seq_tup, seq_tpx, itOf_tpx, seq_lst, seq_fz, list_lst, lsts_lst, lsts_fz, itOf_tup, itOf_lst, itOf_fz, now_int, now_bl, now_non, now_str, now_tup, now_lst, isNon_non, isNon_int, isNon_tup, isNon_ref, isNon_lst, isNon_str, isNon_bl, Function.comp, eP]
    exact ⟨trivial, h⟩
  simp only [dSeq, dNext, dRet, dRetN, dIfS, dAsg, dAsgG, dDrop, dPar2, dPar3, dAug, dAugS, dFor, dOp, dVar, dC, dTest, dChain, dAnd, dOr, dNot, dAndV, dOrV, dNotV, dIf, dTup, dLst, dNil, dCons, dStar, dCB, dCall, dSl, dNoPart, dPart, dBM, dRev, dNeg, dIsi, dListRg, dTupRg, dRg1, dRg2, dLc, dIt, dEnum, dZip2, dZip3, dRng1, dRng2, dYes, gN, gT, gsNil, gsCons, gSb, oI, oI0, oAdd, oMulA, oSub, oFdiv, oMod, oPow, oLt, oLe, oGt, oGe, oEq, oNe, oIsN, oNotN, oIsB, oNotB, oIx, oSl, oLen, oSum, oAll, oAny, oAbs, o1I, o2I, oMin2, oMax2, oMin, oMax, oMinL, oMaxL, oInt, oBool, oList, oTuple, oSorted, oIn, oAddI, oGet, oSet, oAppend, oExtend, oPop, oPopAt, oIndexL, oIndexT, oInsert, oRemove, dTupX, dBMX, dLenSet, newL, startD, wipeD, D.tyN, List.map_cons, List.map_nil, List.cons_append, List.nil_append, List.length_cons, List.length_nil, List.getElem?_cons_zero, List.getElem?_cons_succ, List.set_cons_zero, List.set_cons_succ, List.replicate, Nat.sub_self, Nat.reduceSub, Nat.reduceAdd, Nat.zero_add, kb_ii, kb_ib, kb_it, kb_is, kb_bi, kb_bb, kb_bt, kb_bs, kb_tt, kb_ti, kb_ts, kb_ss, kb_si, kb_st, kb_nt, kb_ni, kb_ns, kb_lt, kb_li, kb_ls, ex_some, seq_tup, seq_tpx, itOf_tpx, seq_lst, seq_fz, list_lst, lsts_lst, lsts_fz, itOf_tup, itOf_lst, itOf_fz, now_int, now_bl, now_non, now_str, now_tup, now_lst, isNon_non, isNon_int, isNon_tup, isNon_ref, isNon_lst, isNon_str, isNon_bl]
  exact .here q
/-! ### in time -/
def dOf (J : List Job) (i : Nat) : Int := (gj J i).d
def lates (J : List Job) (o : List Nat) : List Int := (List.zip o (ends J 0 o)).map fun p => p.2 - dOf J p.1
theorem lates_len (J : List Job) (o : List Nat) : (lates J o).length = o.length := by unfold lates; rw [List.length_map, List.length_zip, ends_len]; omega
theorem zip_lst (J : List Job) (o : List Nat) : List.zipWith (fun d e => D.tup [d, e]) (o.map nI) ((ends J 0 o).map D.int) = (List.zip o (ends J 0 o)).map fun p => D.tup [nI p.1, .int p.2] := zip_map2 nI D.int o (ends J 0 o)
def sp_told_bar : DSp := fun ds S Q => ∃ J : List Job, ds = [eJs J] ∧ GJ J ∧ ((∀ x ∈ lates J (bd J), x ≤ 0) → Q .non S) ∧ ((∃ x ∈ lates J (bd J), 0 < x) → ∀ b : Int, 0 ≤ b → b ≤ 1000000 → Q (.int b) S)
theorem pure_told_bar : ∀ ds S Q, sp_told_bar ds S Q → t_told_bar sp_by_due sp_told_ends (DeN Q) (startD N_told_bar ds) S := by
  rintro ds S Q ⟨J, rfl, g, q1, q2⟩
  have hf := g.few
  have hp := bd_perm J
  simp only [t_told_bar, dSeq, dNext, dRet, dRetN, dIfS, dAsg, dAsgG, dDrop, dPar2, dPar3, dAug, dAugS, dFor, dOp, dVar, dC, dTest, dChain, dAnd, dOr, dNot, dAndV, dOrV, dNotV, dIf, dTup, dLst, dNil, dCons, dStar, dCB, dCall, dSl, dNoPart, dPart, dBM, dRev, dNeg, dIsi, dListRg, dTupRg, dRg1, dRg2, dLc, dIt, dEnum, dZip2, dZip3, dRng1, dRng2, dYes, gN, gT, gsNil, gsCons, gSb, oI, oI0, oAdd, oMulA, oSub, oFdiv, oMod, oPow, oLt, oLe, oGt, oGe, oEq, oNe, oIsN, oNotN, oIsB, oNotB, oIx, oSl, oLen, oSum, oAll, oAny, oAbs, o1I, o2I, oMin2, oMax2, oMin, oMax, oMinL, oMaxL, oInt, oBool, oList, oTuple, oSorted, oIn, oAddI, oGet, oSet, oAppend, oExtend, oPop, oPopAt, oIndexL, oIndexT, oInsert, oRemove, dTupX, dBMX, dLenSet, newL, startD, wipeD, D.tyN, List.map_cons, List.map_nil, List.cons_append, List.nil_append, List.length_cons, List.length_nil, List.getElem?_cons_zero, List.getElem?_cons_succ, List.set_cons_zero, List.set_cons_succ, List.replicate, Nat.sub_self, Nat.reduceSub, Nat.reduceAdd, Nat.zero_add, kb_ii, kb_ib, kb_it, kb_is, kb_bi, kb_bb, kb_bt, kb_bs, kb_tt, kb_ti, kb_ts, kb_ss, kb_si, kb_st, kb_nt, kb_ni, kb_ns, kb_lt, kb_li, kb_ls, ex_some, seq_tup, seq_tpx, itOf_tpx, seq_lst, seq_fz, list_lst, lsts_lst, lsts_fz, itOf_tup, itOf_lst, itOf_fz, now_int, now_bl, now_non, now_str, now_tup, now_lst, isNon_non, isNon_int, isNon_tup, isNon_ref, isNon_lst, isNon_str, isNon_bl]
  refine ⟨J, rfl, by omega, J, bd J, _, rfl, .inr (.inl rfl), fun i hi => hp.lt hi, by rw [hp.len]; omega, ?_⟩
  simp only [dSeq, dNext, dRet, dRetN, dIfS, dAsg, dAsgG, dDrop, dPar2, dPar3, dAug, dAugS, dFor, dOp, dVar, dC, dTest, dChain, dAnd, dOr, dNot, dAndV, dOrV, dNotV, dIf, dTup, dLst, dNil, dCons, dStar, dCB, dCall, dSl, dNoPart, dPart, dBM, dRev, dNeg, dIsi, dListRg, dTupRg, dRg1, dRg2, dLc, dIt, dEnum, dZip2, dZip3, dRng1, dRng2, dYes, gN, gT, gsNil, gsCons, gSb, oI, oI0, oAdd, oMulA, oSub, oFdiv, oMod, oPow, oLt, oLe, oGt, oGe, oEq, oNe, oIsN, oNotN, oIsB, oNotB, oIx, oSl, oLen, oSum, oAll, oAny, oAbs, o1I, o2I, oMin2, oMax2, oMin, oMax, oMinL, oMaxL, oInt, oBool, oList, oTuple, oSorted, oIn, oAddI, oGet, oSet, oAppend, oExtend, oPop, oPopAt, oIndexL, oIndexT, oInsert, oRemove, dTupX, dBMX, dLenSet, newL, startD, wipeD, D.tyN, List.map_cons, List.map_nil, List.cons_append, List.nil_append, List.length_cons, List.length_nil, List.getElem?_cons_zero, List.getElem?_cons_succ, List.set_cons_zero, List.set_cons_succ, List.replicate, Nat.sub_self, Nat.reduceSub, Nat.reduceAdd, Nat.zero_add, kb_ii, kb_ib, kb_it, kb_is, kb_bi, kb_bb, kb_bt, kb_bs, kb_tt, kb_ti, kb_ts, kb_ss, kb_si, kb_st, kb_nt, kb_ni, kb_ns, kb_lt, kb_li, kb_ls, ex_some, seq_tup, seq_tpx, itOf_tpx, seq_lst, seq_fz, list_lst, lsts_lst, lsts_fz, itOf_tup, itOf_lst, itOf_fz, now_int, now_bl, now_non, now_str, now_tup, now_lst, isNon_non, isNon_int, isNon_tup, isNon_ref, isNon_lst, isNon_str, isNon_bl, zip_lst]
  refine ⟨⟨trivial, trivial⟩, ?_⟩
  refine loopD_invE (α := Nat × Int) (ok := fun _ => True ∧ True) (fun p => D.tup [nI p.1, .int p.2]) (fun xs ρ S' => ∃ o2 o3 dn, ρ = [some (eJs J), some (.lst ((bd J).map nI)), o2, o3] ∧ S = S' ∧ dn ++ xs = List.zip (bd J) (ends J 0 (bd J)) ∧ ∀ p ∈ dn, p.2 - dOf J p.1 ≤ 0) ?_ ?_ _ _ _ ⟨none, none, [], rfl, rfl, rfl, by simp⟩ ⟨trivial, trivial⟩
  · rintro ⟨a, e⟩ xs ρ S' ⟨o2, o3, dn, rfl, rfl, hdn, hno⟩ _ N hN
    have hin : (a, e) ∈ List.zip (bd J) (ends J 0 (bd J)) := by rw [← hdn]; simp
    have hal := hp.lt (List.of_mem_zip hin).1
    simp only [dSeq, dNext, dRet, dRetN, dIfS, dAsg, dAsgG, dDrop, dPar2, dPar3, dAug, dAugS, dFor, dOp, dVar, dC, dTest, dChain, dAnd, dOr, dNot, dAndV, dOrV, dNotV, dIf, dTup, dLst, dNil, dCons, dStar, dCB, dCall, dSl, dNoPart, dPart, dBM, dRev, dNeg, dIsi, dListRg, dTupRg, dRg1, dRg2, dLc, dIt, dEnum, dZip2, dZip3, dRng1, dRng2, dYes, gN, gT, gsNil, gsCons, gSb, oI, oI0, oAdd, oMulA, oSub, oFdiv, oMod, oPow, oLt, oLe, oGt, oGe, oEq, oNe, oIsN, oNotN, oIsB, oNotB, oIx, oSl, oLen, oSum, oAll, oAny, oAbs, o1I, o2I, oMin2, oMax2, oMin, oMax, oMinL, oMaxL, oInt, oBool, oList, oTuple, oSorted, oIn, oAddI, oGet, oSet, oAppend, oExtend, oPop, oPopAt, oIndexL, oIndexT, oInsert, oRemove, dTupX, dBMX, dLenSet, newL, startD, wipeD, D.tyN, List.map_cons, List.map_nil, List.cons_append, List.nil_append, List.length_cons, List.length_nil, List.getElem?_cons_zero, List.getElem?_cons_succ, List.set_cons_zero, List.set_cons_succ, List.replicate, Nat.sub_self, Nat.reduceSub, Nat.reduceAdd, Nat.zero_add, kb_ii, kb_ib, kb_it, kb_is, kb_bi, kb_bb, kb_bt, kb_bs, kb_tt, kb_ti, kb_ts, kb_ss, kb_si, kb_st, kb_nt, kb_ni, kb_ns, kb_lt, kb_li, kb_ls, ex_some, seq_tup, seq_tpx, itOf_tpx, seq_lst, seq_fz, list_lst, lsts_lst, lsts_fz, itOf_tup, itOf_lst, itOf_fz, now_int, now_bl, now_non, now_str, now_tup, now_lst, isNon_non, isNon_int, isNon_tup, isNon_ref, isNon_lst, isNon_str, isNon_bl, nI, eJs, ix_job hal, eJ, a32]
    refine ⟨trivial, ?_⟩
    by_cases h : (gj J a).d < e
    · simp only [decide_eq_true h]
      have hd := g.d0 _ (gj_mem hal)
      refine .here (q2 ⟨e - dOf J a, List.mem_map.mpr ⟨(a, e), hin, rfl⟩, by unfold dOf; omega⟩ _ hd.1 hd.2)
    · simp only [decide_eq_false h]
      refine hN _ _ ⟨trivial, trivial⟩ ⟨_, _, dn ++ [(a, e)], rfl, rfl, by simpa using hdn, fun p hp' => ?_⟩
      rcases List.mem_append.mp hp' with z | z
      · exact hno p z
      · rw [List.mem_singleton.mp z]
        show e - dOf J a ≤ 0
        unfold dOf; omega
  · rintro ρ S' ⟨o2, o3, dn, rfl, rfl, hdn, hno⟩
    rw [List.append_nil] at hdn
    simp only [dSeq, dNext, dRet, dRetN, dIfS, dAsg, dAsgG, dDrop, dPar2, dPar3, dAug, dAugS, dFor, dOp, dVar, dC, dTest, dChain, dAnd, dOr, dNot, dAndV, dOrV, dNotV, dIf, dTup, dLst, dNil, dCons, dStar, dCB, dCall, dSl, dNoPart, dPart, dBM, dRev, dNeg, dIsi, dListRg, dTupRg, dRg1, dRg2, dLc, dIt, dEnum, dZip2, dZip3, dRng1, dRng2, dYes, gN, gT, gsNil, gsCons, gSb, oI, oI0, oAdd, oMulA, oSub, oFdiv, oMod, oPow, oLt, oLe, oGt, oGe, oEq, oNe, oIsN, oNotN, oIsB, oNotB, oIx, oSl, oLen, oSum, oAll, oAny, oAbs, o1I, o2I, oMin2, oMax2, oMin, oMax, oMinL, oMaxL, oInt, oBool, oList, oTuple, oSorted, oIn, oAddI, oGet, oSet, oAppend, oExtend, oPop, oPopAt, oIndexL, oIndexT, oInsert, oRemove, dTupX, dBMX, dLenSet, newL, startD, wipeD, D.tyN, List.map_cons, List.map_nil, List.cons_append, List.nil_append, List.length_cons, List.length_nil, List.getElem?_cons_zero, List.getElem?_cons_succ, List.set_cons_zero, List.set_cons_succ, List.replicate, Nat.sub_self, Nat.reduceSub, Nat.reduceAdd, Nat.zero_add, kb_ii, kb_ib, kb_it, kb_is, kb_bi, kb_bb, kb_bt, kb_bs, kb_tt, kb_ti, kb_ts, kb_ss, kb_si, kb_st, kb_nt, kb_ni, kb_ns, kb_lt, kb_li, kb_ls, ex_some, seq_tup, seq_tpx, itOf_tpx, seq_lst, seq_fz, list_lst, lsts_lst, lsts_fz, itOf_tup, itOf_lst, itOf_fz, now_int, now_bl, now_non, now_str, now_tup, now_lst, isNon_non, isNon_int, isNon_tup, isNon_ref, isNon_lst, isNon_str, isNon_bl]
    refine .here (q1 fun x hx => ?_)
    obtain ⟨p, hp', rfl⟩ := List.mem_map.mp hx
    exact hno p (hdn ▸ hp')
def InT (J : List Job) : Prop := ∀ x ∈ lates J (bd J), x ≤ 0
theorem not_InT {J : List Job} (h : ¬ InT J) : ∃ x ∈ lates J (bd J), 0 < x := by
  false_or_by_contra
  rename_i z
  exact h fun x hx => Int.not_lt.mp fun hl => z ⟨x, hx, hl⟩
def sp_all_in_time : DSp := fun ds S Q => ∃ J : List Job, ds = [eJs J] ∧ GJ J ∧ (InT J → Q (.tup [.str "order", eO (bd J)]) S) ∧ (¬ InT J → ∀ b : Int, 0 ≤ b → b ≤ 1000000 → Q (.tup [.str "by", .int b]) S)
theorem pure_all_in_time : ∀ ds S Q, sp_all_in_time ds S Q → t_all_in_time sp_look_at_jobs sp_told_bar sp_by_due (DeN Q) (startD N_all_in_time ds) S := by
  rintro ds S Q ⟨J, rfl, g, q1, q2⟩
  have hf := g.few
  simp only [t_all_in_time, dSeq, dNext, dRet, dRetN, dIfS, dAsg, dAsgG, dDrop, dPar2, dPar3, dAug, dAugS, dFor, dOp, dVar, dC, dTest, dChain, dAnd, dOr, dNot, dAndV, dOrV, dNotV, dIf, dTup, dLst, dNil, dCons, dStar, dCB, dCall, dSl, dNoPart, dPart, dBM, dRev, dNeg, dIsi, dListRg, dTupRg, dRg1, dRg2, dLc, dIt, dEnum, dZip2, dZip3, dRng1, dRng2, dYes, gN, gT, gsNil, gsCons, gSb, oI, oI0, oAdd, oMulA, oSub, oFdiv, oMod, oPow, oLt, oLe, oGt, oGe, oEq, oNe, oIsN, oNotN, oIsB, oNotB, oIx, oSl, oLen, oSum, oAll, oAny, oAbs, o1I, o2I, oMin2, oMax2, oMin, oMax, oMinL, oMaxL, oInt, oBool, oList, oTuple, oSorted, oIn, oAddI, oGet, oSet, oAppend, oExtend, oPop, oPopAt, oIndexL, oIndexT, oInsert, oRemove, dTupX, dBMX, dLenSet, newL, startD, wipeD, D.tyN, List.map_cons, List.map_nil, List.cons_append, List.nil_append, List.length_cons, List.length_nil, List.getElem?_cons_zero, List.getElem?_cons_succ, List.set_cons_zero, List.set_cons_succ, List.replicate, Nat.sub_self, Nat.reduceSub, Nat.reduceAdd, Nat.zero_add, kb_ii, kb_ib, kb_it, kb_is, kb_bi, kb_bb, kb_bt, kb_bs, kb_tt, kb_ti, kb_ts, kb_ss, kb_si, kb_st, kb_nt, kb_ni, kb_ns, kb_lt, kb_li, kb_ls, ex_some, seq_tup, seq_tpx, itOf_tpx, seq_lst, seq_fz, list_lst, lsts_lst, lsts_fz, itOf_tup, itOf_lst, itOf_fz, now_int, now_bl, now_non, now_str, now_tup, now_lst, isNon_non, isNon_int, isNon_tup, isNon_ref, isNon_lst, isNon_str, isNon_bl]
  refine ⟨J, rfl, g, J, rfl, g, fun h => ?_, fun h b b0 b1 => ?_⟩
  · simp only [dSeq, dNext, dRet, dRetN, dIfS, dAsg, dAsgG, dDrop, dPar2, dPar3, dAug, dAugS, dFor, dOp, dVar, dC, dTest, dChain, dAnd, dOr, dNot, dAndV, dOrV, dNotV, dIf, dTup, dLst, dNil, dCons, dStar, dCB, dCall, dSl, dNoPart, dPart, dBM, dRev, dNeg, dIsi, dListRg, dTupRg, dRg1, dRg2, dLc, dIt, dEnum, dZip2, dZip3, dRng1, dRng2, dYes, gN, gT, gsNil, gsCons, gSb, oI, oI0, oAdd, oMulA, oSub, oFdiv, oMod, oPow, oLt, oLe, oGt, oGe, oEq, oNe, oIsN, oNotN, oIsB, oNotB, oIx, oSl, oLen, oSum, oAll, oAny, oAbs, o1I, o2I, oMin2, oMax2, oMin, oMax, oMinL, oMaxL, oInt, oBool, oList, oTuple, oSorted, oIn, oAddI, oGet, oSet, oAppend, oExtend, oPop, oPopAt, oIndexL, oIndexT, oInsert, oRemove, dTupX, dBMX, dLenSet, newL, startD, wipeD, D.tyN, List.map_cons, List.map_nil, List.cons_append, List.nil_append, List.length_cons, List.length_nil, List.getElem?_cons_zero, List.getElem?_cons_succ, List.set_cons_zero, List.set_cons_succ, List.replicate, Nat.sub_self, Nat.reduceSub, Nat.reduceAdd, Nat.zero_add, kb_ii, kb_ib, kb_it, kb_is, kb_bi, kb_bb, kb_bt, kb_bs, kb_tt, kb_ti, kb_ts, kb_ss, kb_si, kb_st, kb_nt, kb_ni, kb_ns, kb_lt, kb_li, kb_ls, ex_some, seq_tup, seq_tpx, itOf_tpx, seq_lst, seq_fz, list_lst, lsts_lst, lsts_fz, itOf_tup, itOf_lst, itOf_fz, now_int, now_bl, now_non, now_str, now_tup, now_lst, isNon_non, isNon_int, isNon_tup, isNon_ref, isNon_lst, isNon_str, isNon_bl]
    refine ⟨J, rfl, by omega, ?_⟩
    simp only [dSeq, dNext, dRet, dRetN, dIfS, dAsg, dAsgG, dDrop, dPar2, dPar3, dAug, dAugS, dFor, dOp, dVar, dC, dTest, dChain, dAnd, dOr, dNot, dAndV, dOrV, dNotV, dIf, dTup, dLst, dNil, dCons, dStar, dCB, dCall, dSl, dNoPart, dPart, dBM, dRev, dNeg, dIsi, dListRg, dTupRg, dRg1, dRg2, dLc, dIt, dEnum, dZip2, dZip3, dRng1, dRng2, dYes, gN, gT, gsNil, gsCons, gSb, oI, oI0, oAdd, oMulA, oSub, oFdiv, oMod, oPow, oLt, oLe, oGt, oGe, oEq, oNe, oIsN, oNotN, oIsB, oNotB, oIx, oSl, oLen, oSum, oAll, oAny, oAbs, o1I, o2I, oMin2, oMax2, oMin, oMax, oMinL, oMaxL, oInt, oBool, oList, oTuple, oSorted, oIn, oAddI, oGet, oSet, oAppend, oExtend, oPop, oPopAt, oIndexL, oIndexT, oInsert, oRemove, dTupX, dBMX, dLenSet, newL, startD, wipeD, D.tyN, List.map_cons, List.map_nil, List.cons_append, List.nil_append, List.length_cons, List.length_nil, List.getElem?_cons_zero, List.getElem?_cons_succ, List.set_cons_zero, List.set_cons_succ, List.replicate, Nat.sub_self, Nat.reduceSub, Nat.reduceAdd, Nat.zero_add, kb_ii, kb_ib, kb_it, kb_is, kb_bi, kb_bb, kb_bt, kb_bs, kb_tt, kb_ti, kb_ts, kb_ss, kb_si, kb_st, kb_nt, kb_ni, kb_ns, kb_lt, kb_li, kb_ls, ex_some, seq_tup, seq_tpx, itOf_tpx, seq_lst, seq_fz, list_lst, lsts_lst, lsts_fz, itOf_tup, itOf_lst, itOf_fz, now_int, now_bl, now_non, now_str, now_tup, now_lst, isNon_non, isNon_int, isNon_tup, isNon_ref, isNon_lst, isNon_str, isNon_bl]
    exact ⟨small (by omega), .here (q1 h)⟩
  · simp only [dSeq, dNext, dRet, dRetN, dIfS, dAsg, dAsgG, dDrop, dPar2, dPar3, dAug, dAugS, dFor, dOp, dVar, dC, dTest, dChain, dAnd, dOr, dNot, dAndV, dOrV, dNotV, dIf, dTup, dLst, dNil, dCons, dStar, dCB, dCall, dSl, dNoPart, dPart, dBM, dRev, dNeg, dIsi, dListRg, dTupRg, dRg1, dRg2, dLc, dIt, dEnum, dZip2, dZip3, dRng1, dRng2, dYes, gN, gT, gsNil, gsCons, gSb, oI, oI0, oAdd, oMulA, oSub, oFdiv, oMod, oPow, oLt, oLe, oGt, oGe, oEq, oNe, oIsN, oNotN, oIsB, oNotB, oIx, oSl, oLen, oSum, oAll, oAny, oAbs, o1I, o2I, oMin2, oMax2, oMin, oMax, oMinL, oMaxL, oInt, oBool, oList, oTuple, oSorted, oIn, oAddI, oGet, oSet, oAppend, oExtend, oPop, oPopAt, oIndexL, oIndexT, oInsert, oRemove, dTupX, dBMX, dLenSet, newL, startD, wipeD, D.tyN, List.map_cons, List.map_nil, List.cons_append, List.nil_append, List.length_cons, List.length_nil, List.getElem?_cons_zero, List.getElem?_cons_succ, List.set_cons_zero, List.set_cons_succ, List.replicate, Nat.sub_self, Nat.reduceSub, Nat.reduceAdd, Nat.zero_add, kb_ii, kb_ib, kb_it, kb_is, kb_bi, kb_bb, kb_bt, kb_bs, kb_tt, kb_ti, kb_ts, kb_ss, kb_si, kb_st, kb_nt, kb_ni, kb_ns, kb_lt, kb_li, kb_ls, ex_some, seq_tup, seq_tpx, itOf_tpx, seq_lst, seq_fz, list_lst, lsts_lst, lsts_fz, itOf_tup, itOf_lst, itOf_fz, now_int, now_bl, now_non, now_str, now_tup, now_lst, isNon_non, isNon_int, isNon_tup, isNon_ref, isNon_lst, isNon_str, isNon_bl]
    exact ⟨small (by omega), .here (q2 (fun z => by obtain ⟨x, hx, h0⟩ := h; have := z x hx; omega) b b0 b1)⟩
def inT (J : List Job) (o : List Nat) : Bool := (lates J o).all fun x => decide (x ≤ 0)
def sp_shows_all_in_time : DSp := fun ds S Q => ∃ (J : List Job) (o : List Nat), ds = [eJs J, .tup [.str "order", eO o]] ∧ GJ J ∧ Perm_ J.length o ∧ Q (.bl (inT J o)) S
theorem pure_shows_all_in_time : ∀ ds S Q, sp_shows_all_in_time ds S Q → t_shows_all_in_time sp_look_at_jobs sp_is_told sp_is_order sp_told_ends sp_is_int (DeN Q) (startD N_shows_all_in_time ds) S := by
  rintro ds S Q ⟨J, o, rfl, g, h, q⟩
  have hf := g.few
  simp only [t_shows_all_in_time, dSeq, dNext, dRet, dRetN, dIfS, dAsg, dAsgG, dDrop, dPar2, dPar3, dAug, dAugS, dFor, dOp, dVar, dC, dTest, dChain, dAnd, dOr, dNot, dAndV, dOrV, dNotV, dIf, dTup, dLst, dNil, dCons, dStar, dCB, dCall, dSl, dNoPart, dPart, dBM, dRev, dNeg, dIsi, dListRg, dTupRg, dRg1, dRg2, dLc, dIt, dEnum, dZip2, dZip3, dRng1, dRng2, dYes, gN, gT, gsNil, gsCons, gSb, oI, oI0, oAdd, oMulA, oSub, oFdiv, oMod, oPow, oLt, oLe, oGt, oGe, oEq, oNe, oIsN, oNotN, oIsB, oNotB, oIx, oSl, oLen, oSum, oAll, oAny, oAbs, o1I, o2I, oMin2, oMax2, oMin, oMax, oMinL, oMaxL, oInt, oBool, oList, oTuple, oSorted, oIn, oAddI, oGet, oSet, oAppend, oExtend, oPop, oPopAt, oIndexL, oIndexT, oInsert, oRemove, dTupX, dBMX, dLenSet, newL, startD, wipeD, D.tyN, List.map_cons, List.map_nil, List.cons_append, List.nil_append, List.length_cons, List.length_nil, List.getElem?_cons_zero, List.getElem?_cons_succ, List.set_cons_zero, List.set_cons_succ, List.replicate, Nat.sub_self, Nat.reduceSub, Nat.reduceAdd, Nat.zero_add, kb_ii, kb_ib, kb_it, kb_is, kb_bi, kb_bb, kb_bt, kb_bs, kb_tt, kb_ti, kb_ts, kb_ss, kb_si, kb_st, kb_nt, kb_ni, kb_ns, kb_lt, kb_li, kb_ls, ex_some, seq_tup, seq_tpx, itOf_tpx, seq_lst, seq_fz, list_lst, lsts_lst, lsts_fz, itOf_tup, itOf_lst, itOf_fz, now_int, now_bl, now_non, now_str, now_tup, now_lst, isNon_non, isNon_int, isNon_tup, isNon_ref, isNon_lst, isNon_str, isNon_bl]
  refine ⟨J, rfl, g, small (by omega), "order", [eO o], 2, rfl, rfl, ?_⟩
  simp only [Bool.not_true, a20, a21, dSeq, dNext, dRet, dRetN, dIfS, dAsg, dAsgG, dDrop, dPar2, dPar3, dAug, dAugS, dFor, dOp, dVar, dC, dTest, dChain, dAnd, dOr, dNot, dAndV, dOrV, dNotV, dIf, dTup, dLst, dNil, dCons, dStar, dCB, dCall, dSl, dNoPart, dPart, dBM, dRev, dNeg, dIsi, dListRg, dTupRg, dRg1, dRg2, dLc, dIt, dEnum, dZip2, dZip3, dRng1, dRng2, dYes, gN, gT, gsNil, gsCons, gSb, oI, oI0, oAdd, oMulA, oSub, oFdiv, oMod, oPow, oLt, oLe, oGt, oGe, oEq, oNe, oIsN, oNotN, oIsB, oNotB, oIx, oSl, oLen, oSum, oAll, oAny, oAbs, o1I, o2I, oMin2, oMax2, oMin, oMax, oMinL, oMaxL, oInt, oBool, oList, oTuple, oSorted, oIn, oAddI, oGet, oSet, oAppend, oExtend, oPop, oPopAt, oIndexL, oIndexT, oInsert, oRemove, dTupX, dBMX, dLenSet, newL, startD, wipeD, D.tyN, List.map_cons, List.map_nil, List.cons_append, List.nil_append, List.length_cons, List.length_nil, List.getElem?_cons_zero, List.getElem?_cons_succ, List.set_cons_zero, List.set_cons_succ, List.replicate, Nat.sub_self, Nat.reduceSub, Nat.reduceAdd, Nat.zero_add, kb_ii, kb_ib, kb_it, kb_is, kb_bi, kb_bb, kb_bt, kb_bs, kb_tt, kb_ti, kb_ts, kb_ss, kb_si, kb_st, kb_nt, kb_ni, kb_ns, kb_lt, kb_li, kb_ls, ex_some, seq_tup, seq_tpx, itOf_tpx, seq_lst, seq_fz, list_lst, lsts_lst, lsts_fz, itOf_tup, itOf_lst, itOf_fz, now_int, now_bl, now_non, now_str, now_tup, now_lst, isNon_non, isNon_int, isNon_tup, isNon_ref, isNon_lst, isNon_str, isNon_bl]
  refine ⟨⟨okn_str (by decide +kernel), okn_str (by decide +kernel)⟩, ?_⟩
  rw [eqD_refl (n := 8) (okn_str (by decide +kernel))]
  simp only [dSeq, dNext, dRet, dRetN, dIfS, dAsg, dAsgG, dDrop, dPar2, dPar3, dAug, dAugS, dFor, dOp, dVar, dC, dTest, dChain, dAnd, dOr, dNot, dAndV, dOrV, dNotV, dIf, dTup, dLst, dNil, dCons, dStar, dCB, dCall, dSl, dNoPart, dPart, dBM, dRev, dNeg, dIsi, dListRg, dTupRg, dRg1, dRg2, dLc, dIt, dEnum, dZip2, dZip3, dRng1, dRng2, dYes, gN, gT, gsNil, gsCons, gSb, oI, oI0, oAdd, oMulA, oSub, oFdiv, oMod, oPow, oLt, oLe, oGt, oGe, oEq, oNe, oIsN, oNotN, oIsB, oNotB, oIx, oSl, oLen, oSum, oAll, oAny, oAbs, o1I, o2I, oMin2, oMax2, oMin, oMax, oMinL, oMaxL, oInt, oBool, oList, oTuple, oSorted, oIn, oAddI, oGet, oSet, oAppend, oExtend, oPop, oPopAt, oIndexL, oIndexT, oInsert, oRemove, dTupX, dBMX, dLenSet, newL, startD, wipeD, D.tyN, List.map_cons, List.map_nil, List.cons_append, List.nil_append, List.length_cons, List.length_nil, List.getElem?_cons_zero, List.getElem?_cons_succ, List.set_cons_zero, List.set_cons_succ, List.replicate, Nat.sub_self, Nat.reduceSub, Nat.reduceAdd, Nat.zero_add, kb_ii, kb_ib, kb_it, kb_is, kb_bi, kb_bb, kb_bt, kb_bs, kb_tt, kb_ti, kb_ts, kb_ss, kb_si, kb_st, kb_nt, kb_ni, kb_ns, kb_lt, kb_li, kb_ls, ex_some, seq_tup, seq_tpx, itOf_tpx, seq_lst, seq_fz, list_lst, lsts_lst, lsts_fz, itOf_tup, itOf_lst, itOf_fz, now_int, now_bl, now_non, now_str, now_tup, now_lst, isNon_non, isNon_int, isNon_tup, isNon_ref, isNon_lst, isNon_str, isNon_bl, eJs]
  refine ⟨o, J.length, by rw [List.length_map]; rfl, h, by omega, ?_⟩
  simp only [Bool.not_true, dSeq, dNext, dRet, dRetN, dIfS, dAsg, dAsgG, dDrop, dPar2, dPar3, dAug, dAugS, dFor, dOp, dVar, dC, dTest, dChain, dAnd, dOr, dNot, dAndV, dOrV, dNotV, dIf, dTup, dLst, dNil, dCons, dStar, dCB, dCall, dSl, dNoPart, dPart, dBM, dRev, dNeg, dIsi, dListRg, dTupRg, dRg1, dRg2, dLc, dIt, dEnum, dZip2, dZip3, dRng1, dRng2, dYes, gN, gT, gsNil, gsCons, gSb, oI, oI0, oAdd, oMulA, oSub, oFdiv, oMod, oPow, oLt, oLe, oGt, oGe, oEq, oNe, oIsN, oNotN, oIsB, oNotB, oIx, oSl, oLen, oSum, oAll, oAny, oAbs, o1I, o2I, oMin2, oMax2, oMin, oMax, oMinL, oMaxL, oInt, oBool, oList, oTuple, oSorted, oIn, oAddI, oGet, oSet, oAppend, oExtend, oPop, oPopAt, oIndexL, oIndexT, oInsert, oRemove, dTupX, dBMX, dLenSet, newL, startD, wipeD, D.tyN, List.map_cons, List.map_nil, List.cons_append, List.nil_append, List.length_cons, List.length_nil, List.getElem?_cons_zero, List.getElem?_cons_succ, List.set_cons_zero, List.set_cons_succ, List.replicate, Nat.sub_self, Nat.reduceSub, Nat.reduceAdd, Nat.zero_add, kb_ii, kb_ib, kb_it, kb_is, kb_bi, kb_bb, kb_bt, kb_bs, kb_tt, kb_ti, kb_ts, kb_ss, kb_si, kb_st, kb_nt, kb_ni, kb_ns, kb_lt, kb_li, kb_ls, ex_some, seq_tup, seq_tpx, itOf_tpx, seq_lst, seq_fz, list_lst, lsts_lst, lsts_fz, itOf_tup, itOf_lst, itOf_fz, now_int, now_bl, now_non, now_str, now_tup, now_lst, isNon_non, isNon_int, isNon_tup, isNon_ref, isNon_lst, isNon_str, isNon_bl, eO]
  refine ⟨J, o, _, rfl, .inl rfl, fun i hi => h.lt hi, by rw [h.len]; omega, ?_⟩
  simp only [dSeq, dNext, dRet, dRetN, dIfS, dAsg, dAsgG, dDrop, dPar2, dPar3, dAug, dAugS, dFor, dOp, dVar, dC, dTest, dChain, dAnd, dOr, dNot, dAndV, dOrV, dNotV, dIf, dTup, dLst, dNil, dCons, dStar, dCB, dCall, dSl, dNoPart, dPart, dBM, dRev, dNeg, dIsi, dListRg, dTupRg, dRg1, dRg2, dLc, dIt, dEnum, dZip2, dZip3, dRng1, dRng2, dYes, gN, gT, gsNil, gsCons, gSb, oI, oI0, oAdd, oMulA, oSub, oFdiv, oMod, oPow, oLt, oLe, oGt, oGe, oEq, oNe, oIsN, oNotN, oIsB, oNotB, oIx, oSl, oLen, oSum, oAll, oAny, oAbs, o1I, o2I, oMin2, oMax2, oMin, oMax, oMinL, oMaxL, oInt, oBool, oList, oTuple, oSorted, oIn, oAddI, oGet, oSet, oAppend, oExtend, oPop, oPopAt, oIndexL, oIndexT, oInsert, oRemove, dTupX, dBMX, dLenSet, newL, startD, wipeD, D.tyN, List.map_cons, List.map_nil, List.cons_append, List.nil_append, List.length_cons, List.length_nil, List.getElem?_cons_zero, List.getElem?_cons_succ, List.set_cons_zero, List.set_cons_succ, List.replicate, Nat.sub_self, Nat.reduceSub, Nat.reduceAdd, Nat.zero_add, kb_ii, kb_ib, kb_it, kb_is, kb_bi, kb_bb, kb_bt, kb_bs, kb_tt, kb_ti, kb_ts, kb_ss, kb_si, kb_st, kb_nt, kb_ni, kb_ns, kb_lt, kb_li, kb_ls, ex_some, seq_tup, seq_tpx, itOf_tpx, seq_lst, seq_fz, list_lst, lsts_lst, lsts_fz, itOf_tup, itOf_lst, itOf_fz, now_int, now_bl, now_non, now_str, now_tup, now_lst, isNon_non, isNon_int, isNon_tup, isNon_ref, isNon_lst, isNon_str, isNon_bl, zip_lst]
  refine lc_mapE (ok := fun _ => True ∧ True) (List.zip o (ends J 0 o)) (fun p => D.tup [nI p.1, .int p.2]) (fun p => .bl (decide (p.2 - dOf J p.1 ≤ 0))) (fun _ _ => ⟨trivial, trivial⟩) (small (by rw [List.length_zip, h.len]; omega)) (fun p hp S' e N M hh => ?_) ?_
  · have hal := h.lt (List.of_mem_zip hp).1
    simp only [dSeq, dNext, dRet, dRetN, dIfS, dAsg, dAsgG, dDrop, dPar2, dPar3, dAug, dAugS, dFor, dOp, dVar, dC, dTest, dChain, dAnd, dOr, dNot, dAndV, dOrV, dNotV, dIf, dTup, dLst, dNil, dCons, dStar, dCB, dCall, dSl, dNoPart, dPart, dBM, dRev, dNeg, dIsi, dListRg, dTupRg, dRg1, dRg2, dLc, dIt, dEnum, dZip2, dZip3, dRng1, dRng2, dYes, gN, gT, gsNil, gsCons, gSb, oI, oI0, oAdd, oMulA, oSub, oFdiv, oMod, oPow, oLt, oLe, oGt, oGe, oEq, oNe, oIsN, oNotN, oIsB, oNotB, oIx, oSl, oLen, oSum, oAll, oAny, oAbs, o1I, o2I, oMin2, oMax2, oMin, oMax, oMinL, oMaxL, oInt, oBool, oList, oTuple, oSorted, oIn, oAddI, oGet, oSet, oAppend, oExtend, oPop, oPopAt, oIndexL, oIndexT, oInsert, oRemove, dTupX, dBMX, dLenSet, newL, startD, wipeD, D.tyN, List.map_cons, List.map_nil, List.cons_append, List.nil_append, List.length_cons, List.length_nil, List.getElem?_cons_zero, List.getElem?_cons_succ, List.set_cons_zero, List.set_cons_succ, List.replicate, Nat.sub_self, Nat.reduceSub, Nat.reduceAdd, Nat.zero_add, kb_ii, kb_ib, kb_it, kb_is, kb_bi, kb_bb, kb_bt, kb_bs, kb_tt, kb_ti, kb_ts, kb_ss, kb_si, kb_st, kb_nt, kb_ni, kb_ns, kb_lt, kb_li, kb_ls, ex_some, seq_tup, seq_tpx, itOf_tpx, seq_lst, seq_fz, list_lst, lsts_lst, lsts_fz, itOf_tup, itOf_lst, itOf_fz, now_int, now_bl, now_non, now_str, now_tup, now_lst, isNon_non, isNon_int, isNon_tup, isNon_ref, isNon_lst, isNon_str, isNon_bl, nI, ix_job hal, eJ, a32]
    refine ⟨trivial, ?_⟩
    have : decide (p.2 ≤ (gj J p.1).d) = decide (p.2 - dOf J p.1 ≤ 0) := by unfold dOf; congr 1; apply propext; omega
    rw [this]; exact hh
  simp only [dSeq, dNext, dRet, dRetN, dIfS, dAsg, dAsgG, dDrop, dPar2, dPar3, dAug, dAugS, dFor, dOp, dVar, dC, dTest, dChain, dAnd, dOr, dNot, dAndV, dOrV, dNotV, dIf, dTup, dLst, dNil, dCons, dStar, dCB, dCall, dSl, dNoPart, dPart, dBM, dRev, dNeg, dIsi, dListRg, dTupRg, dRg1, dRg2, dLc, dIt, dEnum, dZip2, dZip3, dRng1, dRng2, dYes, gN, gT, gsNil, gsCons, gSb, oI, oI0, oAdd, oMulA, oSub, oFdiv, oMod, oPow, oLt, oLe, oGt, oGe, oEq, oNe, oIsN, oNotN, oIsB, oNotB, oIx, oSl, oLen, oSum, oAll, oAny, oAbs, o1I, o2I, oMin2, oMax2, oMin, oMax, oMinL, oMaxL, oInt, oBool, oList, oTuple, oSorted, oIn, oAddI, oGet, oSet, oAppend, oExtend, oPop, oPopAt, oIndexL, oIndexT, oInsert, oRemove, dTupX, dBMX, dLenSet, newL, startD, wipeD, D.tyN, List.map_cons, List.map_nil, List.cons_append, List.nil_append, List.length_cons, List.length_nil, List.getElem?_cons_zero, List.getElem?_cons_succ, List.set_cons_zero, List.set_cons_succ, List.replicate, Nat.sub_self, Nat.reduceSub, Nat.reduceAdd, Nat.zero_add, kb_ii, kb_ib, kb_it, kb_is, kb_bi, kb_bb, kb_bt, kb_bs, kb_tt, kb_ti, kb_ts, kb_ss, kb_si, kb_st, kb_nt, kb_ni, kb_ns, kb_lt, kb_li, kb_ls, ex_some, seq_tup, seq_tpx, itOf_tpx, seq_lst, seq_fz, list_lst, lsts_lst, lsts_fz, itOf_tup, itOf_lst, itOf_fz, now_int, now_bl, now_non, now_str, now_tup, now_lst, isNon_non, isNon_int, isNon_tup, isNon_ref, isNon_lst, isNon_str, isNon_bl]
  refine ⟨(List.zip o (ends J 0 o)).map fun p => decide (p.2 - dOf J p.1 ≤ 0), by rw [List.map_map]; rfl, .here ?_⟩
  have : ((List.zip o (ends J 0 o)).map fun p => decide (p.2 - dOf J p.1 ≤ 0)).all id = inT J o := by
    unfold inT lates
    rw [List.all_map, List.all_map]; rfl
  rw [this]
  exact q
/-- the most of the latenesses -/
structure Lat (J : List Job) (x : Int) : Prop where
  in_ : x ∈ lates J (bd J)
  most : ∀ y ∈ lates J (bd J), y ≤ x
def sp_least_lateness : DSp := fun ds S Q => ∃ J : List Job, ds = [eJs J] ∧ GJ J ∧ J ≠ [] ∧ ∀ x, Lat J x → Q (.int x) S
theorem pure_least_lateness : ∀ ds S Q, sp_least_lateness ds S Q → t_least_lateness sp_look_at_jobs sp_by_due sp_told_ends (DeN Q) (startD N_least_lateness ds) S := by
  rintro ds S Q ⟨J, rfl, g, hne, q⟩
  have hf := g.few
  have hp := bd_perm J
  have hpos : 0 < J.length := List.length_pos_iff.mpr hne
  simp only [t_least_lateness, dSeq, dNext, dRet, dRetN, dIfS, dAsg, dAsgG, dDrop, dPar2, dPar3, dAug, dAugS, dFor, dOp, dVar, dC, dTest, dChain, dAnd, dOr, dNot, dAndV, dOrV, dNotV, dIf, dTup, dLst, dNil, dCons, dStar, dCB, dCall, dSl, dNoPart, dPart, dBM, dRev, dNeg, dIsi, dListRg, dTupRg, dRg1, dRg2, dLc, dIt, dEnum, dZip2, dZip3, dRng1, dRng2, dYes, gN, gT, gsNil, gsCons, gSb, oI, oI0, oAdd, oMulA, oSub, oFdiv, oMod, oPow, oLt, oLe, oGt, oGe, oEq, oNe, oIsN, oNotN, oIsB, oNotB, oIx, oSl, oLen, oSum, oAll, oAny, oAbs, o1I, o2I, oMin2, oMax2, oMin, oMax, oMinL, oMaxL, oInt, oBool, oList, oTuple, oSorted, oIn, oAddI, oGet, oSet, oAppend, oExtend, oPop, oPopAt, oIndexL, oIndexT, oInsert, oRemove, dTupX, dBMX, dLenSet, newL, startD, wipeD, D.tyN, List.map_cons, List.map_nil, List.cons_append, List.nil_append, List.length_cons, List.length_nil, List.getElem?_cons_zero, List.getElem?_cons_succ, List.set_cons_zero, List.set_cons_succ, List.replicate, Nat.sub_self, Nat.reduceSub, Nat.reduceAdd, Nat.zero_add, kb_ii, kb_ib, kb_it, kb_is, kb_bi, kb_bb, kb_bt, kb_bs, kb_tt, kb_ti, kb_ts, kb_ss, kb_si, kb_st, kb_nt, kb_ni, kb_ns, kb_lt, kb_li, kb_ls, ex_some, seq_tup, seq_tpx, itOf_tpx, seq_lst, seq_fz, list_lst, lsts_lst, lsts_fz, itOf_tup, itOf_lst, itOf_fz, now_int, now_bl, now_non, now_str, now_tup, now_lst, isNon_non, isNon_int, isNon_tup, isNon_ref, isNon_lst, isNon_str, isNon_bl]
  refine ⟨J, rfl, g, J, rfl, by omega, J, bd J, _, rfl, .inr (.inl rfl), fun i hi => hp.lt hi, by rw [hp.len]; omega, ?_⟩
  simp only [dSeq, dNext, dRet, dRetN, dIfS, dAsg, dAsgG, dDrop, dPar2, dPar3, dAug, dAugS, dFor, dOp, dVar, dC, dTest, dChain, dAnd, dOr, dNot, dAndV, dOrV, dNotV, dIf, dTup, dLst, dNil, dCons, dStar, dCB, dCall, dSl, dNoPart, dPart, dBM, dRev, dNeg, dIsi, dListRg, dTupRg, dRg1, dRg2, dLc, dIt, dEnum, dZip2, dZip3, dRng1, dRng2, dYes, gN, gT, gsNil, gsCons, gSb, oI, oI0, oAdd, oMulA, oSub, oFdiv, oMod, oPow, oLt, oLe, oGt, oGe, oEq, oNe, oIsN, oNotN, oIsB, oNotB, oIx, oSl, oLen, oSum, oAll, oAny, oAbs, o1I, o2I, oMin2, oMax2, oMin, oMax, oMinL, oMaxL, oInt, oBool, oList, oTuple, oSorted, oIn, oAddI, oGet, oSet, oAppend, oExtend, oPop, oPopAt, oIndexL, oIndexT, oInsert, oRemove, dTupX, dBMX, dLenSet, newL, startD, wipeD, D.tyN, List.map_cons, List.map_nil, List.cons_append, List.nil_append, List.length_cons, List.length_nil, List.getElem?_cons_zero, List.getElem?_cons_succ, List.set_cons_zero, List.set_cons_succ, List.replicate, Nat.sub_self, Nat.reduceSub, Nat.reduceAdd, Nat.zero_add, kb_ii, kb_ib, kb_it, kb_is, kb_bi, kb_bb, kb_bt, kb_bs, kb_tt, kb_ti, kb_ts, kb_ss, kb_si, kb_st, kb_nt, kb_ni, kb_ns, kb_lt, kb_li, kb_ls, ex_some, seq_tup, seq_tpx, itOf_tpx, seq_lst, seq_fz, list_lst, lsts_lst, lsts_fz, itOf_tup, itOf_lst, itOf_fz, now_int, now_bl, now_non, now_str, now_tup, now_lst, isNon_non, isNon_int, isNon_tup, isNon_ref, isNon_lst, isNon_str, isNon_bl, zip_lst]
  refine lc_mapE (ok := fun _ => True ∧ True) (List.zip (bd J) (ends J 0 (bd J))) (fun p => D.tup [nI p.1, .int p.2]) (fun p => .int (p.2 - dOf J p.1)) (fun _ _ => ⟨trivial, trivial⟩) (small (by rw [List.length_zip, hp.len]; omega)) (fun p hp' S' e N M hh => ?_) ?_
  · have hal := hp.lt (List.of_mem_zip hp').1
    simp only [dSeq, dNext, dRet, dRetN, dIfS, dAsg, dAsgG, dDrop, dPar2, dPar3, dAug, dAugS, dFor, dOp, dVar, dC, dTest, dChain, dAnd, dOr, dNot, dAndV, dOrV, dNotV, dIf, dTup, dLst, dNil, dCons, dStar, dCB, dCall, dSl, dNoPart, dPart, dBM, dRev, dNeg, dIsi, dListRg, dTupRg, dRg1, dRg2, dLc, dIt, dEnum, dZip2, dZip3, dRng1, dRng2, dYes, gN, gT, gsNil, gsCons, gSb, oI, oI0, oAdd, oMulA, oSub, oFdiv, oMod, oPow, oLt, oLe, oGt, oGe, oEq, oNe, oIsN, oNotN, oIsB, oNotB, oIx, oSl, oLen, oSum, oAll, oAny, oAbs, o1I, o2I, oMin2, oMax2, oMin, oMax, oMinL, oMaxL, oInt, oBool, oList, oTuple, oSorted, oIn, oAddI, oGet, oSet, oAppend, oExtend, oPop, oPopAt, oIndexL, oIndexT, oInsert, oRemove, dTupX, dBMX, dLenSet, newL, startD, wipeD, D.tyN, List.map_cons, List.map_nil, List.cons_append, List.nil_append, List.length_cons, List.length_nil, List.getElem?_cons_zero, List.getElem?_cons_succ, List.set_cons_zero, List.set_cons_succ, List.replicate, Nat.sub_self, Nat.reduceSub, Nat.reduceAdd, Nat.zero_add, kb_ii, kb_ib, kb_it, kb_is, kb_bi, kb_bb, kb_bt, kb_bs, kb_tt, kb_ti, kb_ts, kb_ss, kb_si, kb_st, kb_nt, kb_ni, kb_ns, kb_lt, kb_li, kb_ls, ex_some, seq_tup, seq_tpx, itOf_tpx, seq_lst, seq_fz, list_lst, lsts_lst, lsts_fz, itOf_tup, itOf_lst, itOf_fz, now_int, now_bl, now_non, now_str, now_tup, now_lst, isNon_non, isNon_int, isNon_tup, isNon_ref, isNon_lst, isNon_str, isNon_bl, nI, eJs, ix_job hal, eJ, a32]
    exact ⟨trivial, hh⟩
  have em : (List.zip (bd J) (ends J 0 (bd J))).map (fun p => D.int (p.2 - dOf J p.1)) = (lates J (bd J)).map D.int := by unfold lates; rw [List.map_map]; rfl
  have hln : lates J (bd J) ≠ [] := fun z => by have := lates_len J (bd J); rw [z, hp.len] at this; simp at this; omega
  simp only [dSeq, dNext, dRet, dRetN, dIfS, dAsg, dAsgG, dDrop, dPar2, dPar3, dAug, dAugS, dFor, dOp, dVar, dC, dTest, dChain, dAnd, dOr, dNot, dAndV, dOrV, dNotV, dIf, dTup, dLst, dNil, dCons, dStar, dCB, dCall, dSl, dNoPart, dPart, dBM, dRev, dNeg, dIsi, dListRg, dTupRg, dRg1, dRg2, dLc, dIt, dEnum, dZip2, dZip3, dRng1, dRng2, dYes, gN, gT, gsNil, gsCons, gSb, oI, oI0, oAdd, oMulA, oSub, oFdiv, oMod, oPow, oLt, oLe, oGt, oGe, oEq, oNe, oIsN, oNotN, oIsB, oNotB, oIx, oSl, oLen, oSum, oAll, oAny, oAbs, o1I, o2I, oMin2, oMax2, oMin, oMax, oMinL, oMaxL, oInt, oBool, oList, oTuple, oSorted, oIn, oAddI, oGet, oSet, oAppend, oExtend, oPop, oPopAt, oIndexL, oIndexT, oInsert, oRemove, dTupX, dBMX, dLenSet, newL, startD, wipeD, D.tyN, List.map_cons, List.map_nil, List.cons_append, List.nil_append, List.length_cons, List.length_nil, List.getElem?_cons_zero, List.getElem?_cons_succ, List.set_cons_zero, List.set_cons_succ, List.replicate, Nat.sub_self, Nat.reduceSub, Nat.reduceAdd, Nat.zero_add, kb_ii, kb_ib, kb_it, kb_is, kb_bi, kb_bb, kb_bt, kb_bs, kb_tt, kb_ti, kb_ts, kb_ss, kb_si, kb_st, kb_nt, kb_ni, kb_ns, kb_lt, kb_li, kb_ls, ex_some, seq_tup, seq_tpx, itOf_tpx, seq_lst, seq_fz, list_lst, lsts_lst, lsts_fz, itOf_tup, itOf_lst, itOf_fz, now_int, now_bl, now_non, now_str, now_tup, now_lst, isNon_non, isNon_int, isNon_tup, isNon_ref, isNon_lst, isNon_str, isNon_bl]
  rw [em]
  have he : eqD (.lst ((lates J (bd J)).map D.int)) (.lst []) = false := by
    rw [eqD_nil]
    cases hq : lates J (bd J) with
    | nil => exact absurd hq hln
    | cons a b => rfl
  refine ⟨Nat.zero_le _, ⟨by rw [okn_lst, okn_ints], by decide⟩, ?_⟩
  rw [he]
  simp only [Bool.not_false]
  refine ⟨⟨fun z => hln (List.map_eq_nil_iff.mp z), okn_ints, akin_ints⟩, fun m hm hmost => ?_⟩
  obtain ⟨x, hx, rfl⟩ := mem_int hm
  refine .here (q x ⟨hx, fun y hy => ?_⟩)
  have := hmost _ (List.mem_map.mpr ⟨y, hy, rfl⟩)
  rw [ltD_int] at this
  have := of_decide_eq_false this
  omega
end L45
namespace L45
open PySem PySem.Spec PySem.W PyProof.Rows L2 PL
/-! ### Moore, Hodgson: the plain law -/
def pr (J : List Job) (i : Nat) : Int := (gj J i).p
theorem psum_nil (J : List Job) : psum J [] = 0 := rfl
theorem psum_cons (J : List Job) (a : Nat) (o : List Nat) : psum J (a :: o) = pr J a + psum J o := by unfold psum pr; rw [List.map_cons, List.sum_cons]
theorem psum_append (J : List Job) (a b : List Nat) : psum J (a ++ b) = psum J a + psum J b := by unfold psum; rw [List.map_append, List.sum_append]
theorem psum_perm {J : List Job} {a b : List Nat} (h : a.Perm b) : psum J a = psum J b := by
  induction h with
  | nil => rfl
  | cons x _ ih => rw [psum_cons, psum_cons, ih]
  | swap x y l => rw [psum_cons, psum_cons, psum_cons, psum_cons]; omega
  | trans _ _ ih1 ih2 => rw [ih1, ih2]
theorem sub_one {s : List Nat} {a : Nat} (h : s.Sublist [a]) : s = [] ∨ s = [a] := by
  cases h with
  | cons _ h => exact .inl (List.sublist_nil.mp h)
  | cons_cons _ h => rw [List.sublist_nil.mp h]; exact .inr rfl
theorem nodup_len : ∀ {l m : List Nat}, l.Nodup → (∀ x ∈ l, x ∈ m) → l.length ≤ m.length
  | [], _, _, _ => Nat.zero_le _
  | a :: l, m, hn, h => by
    obtain ⟨h1, h2⟩ := List.nodup_cons.mp hn
    have ha := h a List.mem_cons_self
    have := nodup_len (l := l) (m := m.erase a) h2 fun x hx => (List.mem_erase_of_ne (fun e => h1 (by rw [← e]; exact hx))).mpr (h x (List.mem_cons_of_mem _ hx))
    rw [List.length_erase_of_mem ha] at this
    have := List.length_pos_of_mem ha
    rw [List.length_cons]
    omega
/-- nothing of K, done in its order from h on, is late -/
def Fs (J : List Job) : Int → List Nat → Prop
  | _, [] => True
  | h, a :: o => h + pr J a ≤ dOf J a ∧ Fs J (h + pr J a) o
theorem Fs.mono {J : List Job} : ∀ {o : List Nat} {h h' : Int}, h' ≤ h → Fs J h o → Fs J h' o
  | [], _, _, _, _ => trivial
  | a :: o, h, h', hl, ⟨h1, h2⟩ => ⟨by omega, Fs.mono (by omega) h2⟩
theorem Fs_append {J : List Job} : ∀ {a b : List Nat} {h : Int}, Fs J h (a ++ b) ↔ Fs J h a ∧ Fs J (h + psum J a) b
  | [], b, h => by simp [Fs, psum]
  | x :: a, b, h => by
    rw [List.cons_append, Fs, Fs, Fs_append, psum_cons, and_assoc]
    have : h + pr J x + psum J a = h + (pr J x + psum J a) := by omega
    rw [this]
/-- each of these takes some time -/
def Pos (J : List Job) (o : List Nat) : Prop := ∀ i ∈ o, 0 ≤ pr J i
theorem Pos.sum {J : List Job} : ∀ {o : List Nat}, Pos J o → 0 ≤ psum J o
  | [], _ => by simp [psum]
  | a :: o, h => by
    rw [psum_cons]
    have := h a List.mem_cons_self
    have := Pos.sum (o := o) fun i hi => h i (List.mem_cons_of_mem _ hi)
    omega
theorem psum_sub {J : List Job} {s l : List Nat} (h : s.Sublist l) (hp : Pos J l) : psum J s ≤ psum J l := by
  induction h with
  | slnil => exact Int.le_refl _
  | cons a _ ih =>
    rw [psum_cons]
    have := ih fun i hi => hp i (List.mem_cons_of_mem _ hi)
    have := hp a List.mem_cons_self
    omega
  | cons_cons a _ ih =>
    rw [psum_cons, psum_cons]
    have := ih fun i hi => hp i (List.mem_cons_of_mem _ hi)
    omega
/-- all the kept are sorted by their dues -/
def Dued (J : List Job) (o : List Nat) : Prop := o.Pairwise fun i j => dOf J i ≤ dOf J j
/-- the best of all that can be done in time -/
def Opt (J : List Job) (dn K : List Nat) : Prop := ∀ S, S.Sublist dn → Fs J 0 S → ∃ T, T.Sublist K ∧ T.length = S.length ∧ psum J T ≤ psum J S
theorem fs_last {J : List Job} {K : List Nat} {a : Nat} (h : Fs J 0 (K ++ [a])) : psum J (K ++ [a]) ≤ dOf J a := by
  obtain ⟨_, h2, _⟩ := Fs_append.mp h
  rw [psum_append, psum_cons, psum_nil]
  omega
theorem opt_more {J : List Job} {dn K : List Nat} {a : Nat} (h : Opt J dn K) : Opt J (dn ++ [a]) (K ++ [a]) := by
  intro S hS hF
  obtain ⟨s1, s2, rfl, h1, h2⟩ := List.sublist_append_iff.mp hS
  obtain ⟨T, t1, t2, t3⟩ := h s1 h1 (Fs_append.mp hF).1
  refine ⟨T ++ s2, t1.append h2, by rw [List.length_append, List.length_append, t2], by rw [psum_append, psum_append]; omega⟩
theorem fs_erase {J : List Job} {K : List Nat} {a l : Nat} (hF : Fs J 0 K) (hD : Dued J (K ++ [a])) (hl : l ∈ K ++ [a]) (hnd : (K ++ [a]).Nodup) (hmax : ∀ i ∈ K ++ [a], pr J i ≤ pr J l) (hpos : Pos J (K ++ [a])) : Fs J 0 ((K ++ [a]).erase l) := by
  by_cases q : l ∈ K
  · obtain ⟨A, B, rfl⟩ := List.append_of_mem q
    have hlA : l ∉ A := fun z => by
      have h1 := hnd
      rw [List.append_assoc] at h1
      exact (List.nodup_append.mp h1).2.2 l z l (by simp) rfl
    rw [List.append_assoc, List.erase_append_right _ hlA, List.cons_append, List.erase_cons_head]
    obtain ⟨f1, f2, f3⟩ := Fs_append.mp hF
    refine Fs_append.mpr ⟨f1, Fs_append.mpr ⟨Fs.mono ?_ f3, ?_, trivial⟩⟩
    · have := hpos l hl; omega
    · have ha := hmax a (by simp)
      have hA : dOf J (((A ++ l :: B)).getLast (by simp)) ≤ dOf J a := (List.pairwise_append.mp hD).2.2 _ (List.getLast_mem _) a (by simp)
      have hK : psum J (A ++ l :: B) ≤ dOf J ((A ++ l :: B).getLast (by simp)) := by
        have e := List.dropLast_concat_getLast (l := A ++ l :: B) (by simp)
        have := hF
        rw [← e] at this
        have := fs_last this
        rw [e] at this
        exact this
      rw [psum_append, psum_cons] at hK
      omega
  · have e : l = a := by
      rcases List.mem_append.mp hl with z | z
      · exact absurd z q
      · exact List.mem_singleton.mp z
    subst e
    rw [List.erase_append_right _ q, List.erase_cons_head, List.append_nil]
    exact hF
theorem opt_less {J : List Job} {dn K : List Nat} {a l : Nat} (h : Opt J dn K) (hl : l ∈ K ++ [a]) (hnd : (K ++ [a]).Nodup) (hmax : ∀ i ∈ K ++ [a], pr J i ≤ pr J l) (hpos : Pos J (K ++ [a])) (hgt : dOf J a < psum J (K ++ [a])) : Opt J (dn ++ [a]) ((K ++ [a]).erase l) := by
  intro S hS hF
  obtain ⟨T, t1, t2, t3⟩ := opt_more (a := a) h S hS hF
  by_cases q : l ∈ T
  · -- one of K is not in T
    have hne : T.length < (K ++ [a]).length := by
      refine Nat.lt_of_le_of_ne t1.length_le fun z => ?_
      have e := t1.eq_of_length z
      subst e
      obtain ⟨s1, s2, rfl, h1, h2⟩ := List.sublist_append_iff.mp hS
      rcases sub_one h2 with rfl | rfl
      · obtain ⟨T0, u1, u2, u3⟩ := h s1 h1 (by rw [List.append_nil] at hF; exact hF)
        have := u1.length_le
        rw [List.append_nil] at t2
        rw [List.length_append, List.length_singleton] at t2
        omega
      · have := fs_last hF
        omega
    have hT : T.Nodup := hnd.sublist t1
    obtain ⟨x, hxK, hxT⟩ : ∃ x ∈ K ++ [a], x ∉ T := by
      false_or_by_contra
      rename_i z
      have hsub : ∀ y ∈ K ++ [a], y ∈ T := fun y hy => by
        false_or_by_contra
        rename_i z2
        exact z ⟨y, hy, z2⟩
      have := nodup_len hnd hsub
      omega
    have hxl : x ≠ l := fun e => hxT (e ▸ q)
    refine ⟨((K ++ [a]).erase l).filter fun y => decide (y ∈ T) || decide (y = x), List.filter_sublist, ?_⟩
    have hperm : (((K ++ [a]).erase l).filter fun y => decide (y ∈ T) || decide (y = x)).Perm (x :: T.erase l) := by
      refine (List.perm_ext_iff_of_nodup ((hnd.erase l).filter _) (List.nodup_cons.mpr ⟨fun z => hxT (List.mem_of_mem_erase z), hT.erase l⟩)).mpr fun y => ?_
      rw [List.mem_filter, hnd.mem_erase_iff, List.mem_cons, hT.mem_erase_iff]
      constructor
      · rintro ⟨⟨h1, h2⟩, h3⟩
        simp only [Bool.or_eq_true, decide_eq_true_eq] at h3
        rcases h3 with h3 | h3
        · exact .inr ⟨h1, h3⟩
        · exact .inl h3
      · rintro (rfl | ⟨h1, h2⟩)
        · exact ⟨⟨hxl, hxK⟩, by simp⟩
        · exact ⟨⟨h1, t1.subset h2⟩, by simp [h2]⟩
    have e1 := List.length_erase_of_mem q
    have pT := psum_perm (J := J) (List.perm_cons_erase q)
    rw [psum_cons] at pT
    refine ⟨?_, ?_⟩
    · rw [hperm.length_eq, List.length_cons, e1]
      have := List.length_pos_of_mem q
      omega
    · rw [psum_perm hperm, psum_cons]
      have := hmax x hxK
      omega
  · refine ⟨T, ?_, t2, t3⟩
    have := t1.erase l
    rw [List.erase_of_not_mem q] at this
    exact this
/-- one turn -/
structure MH (J : List Job) (dn K R : List Nat) : Prop where
  sub : K.Sublist dn
  perm : (K ++ R).Perm dn
  fs : Fs J 0 K
  opt : Opt J dn K
theorem mh_nil (J : List Job) : MH J [] [] [] := ⟨List.Sublist.refl _, List.Perm.refl _, trivial, fun S hS _ => ⟨[], List.Sublist.refl _, by rw [List.sublist_nil.mp hS], by rw [List.sublist_nil.mp hS]; exact Int.le_refl _⟩⟩
theorem mh_keep {J : List Job} {dn K R : List Nat} {a : Nat} (h : MH J dn K R) (hle : psum J (K ++ [a]) ≤ dOf J a) : MH J (dn ++ [a]) (K ++ [a]) R := by
  refine ⟨h.sub.append (List.Sublist.refl _), ?_, Fs_append.mpr ⟨h.fs, ?_, trivial⟩, opt_more h.opt⟩
  · refine List.Perm.trans ?_ (h.perm.append_right [a])
    rw [List.append_assoc, List.append_assoc]
    exact List.Perm.append_left K List.perm_append_comm
  · rw [psum_append, psum_cons, psum_nil] at hle; omega
theorem mh_drop {J : List Job} {dn K R : List Nat} {a l : Nat} (h : MH J dn K R) (hnd : (dn ++ [a]).Nodup) (hD : Dued J (dn ++ [a])) (hl : l ∈ K ++ [a]) (hmax : ∀ i ∈ K ++ [a], pr J i ≤ pr J l) (hpos : Pos J (dn ++ [a])) (hgt : dOf J a < psum J (K ++ [a])) : MH J (dn ++ [a]) ((K ++ [a]).erase l) (R ++ [l]) := by
  have hs : (K ++ [a]).Sublist (dn ++ [a]) := h.sub.append (List.Sublist.refl _)
  have hnd' := hnd.sublist hs
  have hpos' : Pos J (K ++ [a]) := fun i hi => hpos i (hs.subset hi)
  refine ⟨List.erase_sublist.trans hs, ?_, fs_erase h.fs (hD.sublist hs) hl hnd' hmax hpos', opt_less h.opt hl hnd' hmax hpos' hgt⟩
  have p1 := List.perm_cons_erase hl
  refine List.Perm.trans ?_ (h.perm.append_right [a])
  have : (((K ++ [a]).erase l) ++ (R ++ [l])).Perm ((K ++ [a]) ++ R) := by
    refine List.Perm.trans ?_ (p1.append_right R).symm
    rw [← List.append_assoc]
    exact List.perm_append_comm
  refine this.trans ?_
  rw [List.append_assoc, List.append_assoc]
  exact List.Perm.append_left K List.perm_append_comm
end L45
namespace L45
open PySem PySem.Spec PySem.W PyProof.Rows L2 PL
theorem psum_subset {J : List Job} : ∀ {X Y : List Nat}, X.Nodup → (∀ x ∈ X, x ∈ Y) → Pos J Y → psum J X ≤ psum J Y
  | [], Y, _, _, hp => by rw [psum_nil]; exact hp.sum
  | a :: X, Y, hn, h, hp => by
    obtain ⟨h1, h2⟩ := List.nodup_cons.mp hn
    have ha := h a List.mem_cons_self
    have := psum_subset (J := J) (X := X) (Y := Y.erase a) h2 (fun x hx => (List.mem_erase_of_ne (fun e => h1 (by rw [← e]; exact hx))).mpr (h x (List.mem_cons_of_mem _ hx))) fun i hi => hp i (List.mem_of_mem_erase hi)
    have e := psum_perm (J := J) (List.perm_cons_erase ha)
    rw [psum_cons] at e ⊢
    omega
theorem fs_of {J : List Job} : ∀ {X : List Nat} {h : Int}, (∀ A j B, X = A ++ j :: B → h + psum J (A ++ [j]) ≤ dOf J j) → Fs J h X
  | [], _, _ => trivial
  | x :: X, h, H => by
    refine ⟨?_, fs_of fun A j B e => ?_⟩
    · have := H [] x X rfl
      rw [List.nil_append, psum_cons, psum_nil] at this; omega
    · have := H (x :: A) j B (by rw [e]; rfl)
      rw [List.cons_append, psum_cons] at this; omega
/-- those in time, those late, in an order -/
def onT (J : List Job) : Int → List Nat → List Nat
  | _, [] => []
  | h, a :: o => if h + pr J a ≤ dOf J a then a :: onT J (h + pr J a) o else onT J (h + pr J a) o
def lateN (J : List Job) : Int → List Nat → List Nat
  | _, [] => []
  | h, a :: o => if h + pr J a ≤ dOf J a then lateN J (h + pr J a) o else a :: lateN J (h + pr J a) o
theorem onT_late (J : List Job) : ∀ (o : List Nat) (h : Int), (onT J h o).length + (lateN J h o).length = o.length
  | [], _ => rfl
  | a :: o, h => by
    have := onT_late J o (h + pr J a)
    unfold onT lateN
    split <;> simp <;> omega
theorem onT_sub (J : List Job) : ∀ (o : List Nat) (h : Int), (onT J h o).Sublist o
  | [], _ => List.Sublist.refl _
  | a :: o, h => by
    unfold onT
    split
    · exact (onT_sub J o _).cons_cons a
    · exact (onT_sub J o _).cons a
theorem lateN_sub (J : List Job) : ∀ (o : List Nat) (h : Int), (lateN J h o).Sublist o
  | [], _ => List.Sublist.refl _
  | a :: o, h => by
    unfold lateN
    split
    · exact (lateN_sub J o _).cons a
    · exact (lateN_sub J o _).cons_cons a
theorem lateN_zip (J : List Job) : ∀ (o : List Nat) (h : Int), ((List.zip o (ends J h o)).filter fun p => decide (dOf J p.1 < p.2)).map (·.1) = lateN J h o
  | [], _ => rfl
  | a :: o, h => by
    have ih := lateN_zip J o (h + pr J a)
    have e : ends J h (a :: o) = (h + pr J a) :: ends J (h + pr J a) o := rfl
    rw [e, List.zip_cons_cons]
    unfold lateN
    by_cases q : h + pr J a ≤ dOf J a
    · rw [if_pos q, List.filter_cons_of_neg (by simpa using q)]; exact ih
    · rw [if_neg q, List.filter_cons_of_pos (by simp; omega), List.map_cons, ih]
theorem onT_spec (J : List Job) : ∀ {o o1 o2 : List Nat} {m : Nat} {h : Int}, m ∈ onT J h o → o = o1 ++ m :: o2 → o.Nodup → h + psum J (o1 ++ [m]) ≤ dOf J m
  | [], o1, o2, m, h, hm, e, _ => by simp [onT] at hm
  | a :: o, [], o2, m, h, hm, e, hn => by
    rw [List.nil_append] at e
    obtain ⟨rfl, rfl⟩ := List.cons.inj e
    unfold onT at hm
    rw [List.nil_append, psum_cons, psum_nil]
    split at hm
    · omega
    · exact absurd ((onT_sub J _ _).subset hm) (List.nodup_cons.mp hn).1
  | a :: o, b :: o1, o2, m, h, hm, e, hn => by
    rw [List.cons_append] at e
    obtain ⟨rfl, e2⟩ := List.cons.inj e
    have hma : m ≠ a := fun z => (List.nodup_cons.mp hn).1 (by rw [e2, ← z]; simp)
    have hm2 : m ∈ onT J (h + pr J a) o := by
      unfold onT at hm
      split at hm
      · rcases List.mem_cons.mp hm with z | z
        · exact absurd z hma
        · exact z
      · exact hm
    have := onT_spec J hm2 e2 (List.nodup_cons.mp hn).2
    rw [List.cons_append, psum_cons]
    omega
theorem last_in (P : List Nat) : ∀ (o : List Nat), (∃ x ∈ o, x ∈ P) → ∃ o1 m o2, o = o1 ++ m :: o2 ∧ m ∈ P ∧ ∀ y ∈ o2, y ∉ P
  | [], h => by obtain ⟨x, hx, _⟩ := h; cases hx
  | a :: o, h => by
    by_cases q : ∃ x ∈ o, x ∈ P
    · obtain ⟨o1, m, o2, e, hm, h2⟩ := last_in P o q
      exact ⟨a :: o1, m, o2, by rw [e]; rfl, hm, h2⟩
    · obtain ⟨x, hx, hxP⟩ := h
      rcases List.mem_cons.mp hx with rfl | hx
      · exact ⟨[], x, o, rfl, hxP, fun y hy hyP => q ⟨y, hy, hyP⟩⟩
      · exact absurd ⟨x, hx, hxP⟩ q
theorem ot_fs {J : List Job} {o b : List Nat} (hn : o.Nodup) (hp : Pos J o) (hb : b.Nodup) (hD : Dued J b) : Fs J 0 (b.filter fun i => decide (i ∈ onT J 0 o)) := by
  refine fs_of fun A j B e => ?_
  have hX : (A ++ j :: B).Nodup := by rw [← e]; exact hb.filter _
  have hXD : Dued J (A ++ j :: B) := by rw [← e]; exact hD.sublist List.filter_sublist
  have hP : (A ++ [j]).Nodup := hX.sublist (by
    refine List.Sublist.append_left ?_ A
    exact (List.nil_sublist B).cons_cons j)
  have hin : ∀ x ∈ A ++ [j], x ∈ onT J 0 o := fun x hx => by
    have : x ∈ A ++ j :: B := by
      rcases List.mem_append.mp hx with z | z
      · exact List.mem_append_left _ z
      · rw [List.mem_singleton.mp z]; simp
    rw [← e] at this
    simpa using (List.mem_filter.mp this).2
  obtain ⟨o1, m, o2, eo, hm, ho2⟩ := last_in (A ++ [j]) o ⟨j, (onT_sub J o 0).subset (hin j (by simp)), by simp⟩
  have hsub : ∀ x ∈ A ++ [j], x ∈ o1 ++ [m] := fun x hx => by
    have h1 := (onT_sub J o 0).subset (hin x hx)
    rw [eo] at h1
    rcases List.mem_append.mp h1 with z | z
    · exact List.mem_append_left _ z
    · rcases List.mem_cons.mp z with z | z
      · rw [z]; simp
      · exact absurd hx (ho2 x z)
  have a1 := psum_subset (J := J) hP hsub fun i hi => hp i (by
    rw [eo]
    rcases List.mem_append.mp hi with z | z
    · exact List.mem_append_left _ z
    · rw [List.mem_singleton.mp z]; simp)
  have a2 := onT_spec J (hin m hm) eo hn
  have a3 : dOf J m ≤ dOf J j := by
    rcases List.mem_append.mp hm with z | z
    · exact (List.pairwise_append.mp hXD).2.2 m z j (by simp)
    · rw [List.mem_singleton.mp z]; exact Int.le_refl _
  omega
theorem ot_len {J : List Job} {o b K R : List Nat} (h : MH J b K R) (hob : o.Perm b) (hb : b.Nodup) (hp : Pos J b) (hD : Dued J b) : (onT J 0 o).length ≤ K.length := by
  have hn : o.Nodup := hob.nodup_iff.mpr hb
  have hpo : Pos J o := fun i hi => hp i (hob.mem_iff.mp hi)
  obtain ⟨T, t1, t2, _⟩ := h.opt _ List.filter_sublist (ot_fs hn hpo hb hD)
  have hperm : (b.filter fun i => decide (i ∈ onT J 0 o)).Perm (onT J 0 o) := by
    refine (List.perm_ext_iff_of_nodup (hb.filter _) (hn.sublist (onT_sub J o 0))).mpr fun y => ?_
    rw [List.mem_filter]
    constructor
    · rintro ⟨_, h2⟩; simpa using h2
    · intro h2
      exact ⟨hob.mem_iff.mp ((onT_sub J o 0).subset h2), by simpa using h2⟩
  have := t1.length_le
  rw [t2, hperm.length_eq] at this
  exact this
theorem onT_fs {J : List Job} : ∀ {K R : List Nat} {h : Int}, Fs J h K → onT J h (K ++ R) = K ++ onT J (h + psum J K) R
  | [], R, h, _ => by rw [List.nil_append, psum_nil, Int.add_zero]; rfl
  | a :: K, R, h, ⟨h1, h2⟩ => by
    rw [List.cons_append, onT, if_pos h1, onT_fs h2, psum_cons, List.cons_append, Int.add_assoc]
/-- the order told has as many late ones as were dropped -/
theorem few_late {J : List Job} {b K R R' : List Nat} (h : MH J b K R) (hR : R'.Perm R) (hb : b.Nodup) (hp : Pos J b) (hD : Dued J b) : (lateN J 0 (K ++ R')).length = R.length := by
  have hperm : (K ++ R').Perm b := (hR.append_left K).trans h.perm
  have h1 := ot_len h hperm hb hp hD
  rw [onT_fs h.fs, List.length_append] at h1
  have h2 := onT_late J (K ++ R') 0
  rw [onT_fs h.fs, List.length_append, List.length_append, hR.length_eq] at h2
  omega
theorem fs_sub {J : List Job} {s l : List Nat} (h : s.Sublist l) : ∀ {x : Int}, Pos J l → Fs J x l → Fs J x s := by
  induction h with
  | slnil => intro x _ h; exact h
  | cons a _ ih =>
    intro x hp ⟨h1, h2⟩
    have := hp a List.mem_cons_self
    exact ih (fun i hi => hp i (List.mem_cons_of_mem _ hi)) (Fs.mono (by omega) h2)
  | cons_cons a _ ih =>
    intro x hp ⟨h1, h2⟩
    exact ⟨h1, ih (fun i hi => hp i (List.mem_cons_of_mem _ hi)) h2⟩
theorem gj_more {J : List Job} {x : Job} {i : Nat} (h : i < J.length) : gj (J ++ [x]) i = gj J i := by
  unfold gj
  rw [List.getD_eq_getElem?_getD, List.getD_eq_getElem?_getD, List.getElem?_append_left h]
theorem fs_more {J : List Job} {x : Job} : ∀ {o : List Nat} {h : Int}, (∀ i ∈ o, i < J.length) → (Fs (J ++ [x]) h o ↔ Fs J h o)
  | [], _, _ => Iff.rfl
  | a :: o, h, hl => by
    have e := gj_more (x := x) (hl a List.mem_cons_self)
    have e1 : pr (J ++ [x]) a = pr J a := by unfold pr; rw [e]
    have e2 : dOf (J ++ [x]) a = dOf J a := by unfold dOf; rw [e]
    rw [Fs, Fs, e1, e2, fs_more fun i hi => hl i (List.mem_cons_of_mem _ hi)]
/-- the whole of it, for a text of jobs -/
structure Best (J : List Job) (K R : List Nat) : Prop where
  mh : MH J (bd J) K R
theorem bd_nd (J : List Job) : (bd J).Nodup := (bd_perm J).nd
theorem bd_due (J : List Job) : Dued J (bd J) := (sortBy_sorted (kd J) J.length).imp fun h => by
  show (gj J _).d ≤ (gj J _).d
  unfold kd at h
  omega
theorem bd_pos {J : List Job} (hp : ∀ j ∈ J, 0 ≤ j.p) : Pos J (bd J) := fun i hi => hp _ (gj_mem ((bd_perm J).lt hi))
theorem best_len {J : List Job} {K R : List Nat} (h : Best J K R) : K.length + R.length = J.length := by
  have := h.mh.perm.length_eq
  rw [List.length_append, (bd_perm J).len] at this
  exact this
theorem best_any {J : List Job} {K R o : List Nat} (h : Best J K R) (hp : ∀ j ∈ J, 0 ≤ j.p) (ho : Perm_ J.length o) : (onT J 0 o).length ≤ K.length :=
  ot_len h.mh (List.Perm.trans ho (bd_perm J).symm) (bd_nd J) (bd_pos hp) (bd_due J)
/-- an order that begins with X -/
theorem order_from {n : Nat} {X : List Nat} (hn : X.Nodup) (hl : ∀ i ∈ X, i < n) : ∃ R, Perm_ n (X ++ R) := by
  refine ⟨(List.range n).filter fun i => decide (i ∉ X), ?_⟩
  refine (List.perm_ext_iff_of_nodup (List.nodup_append.mpr ⟨hn, List.nodup_range.filter _, fun a ha b hb e => ?_⟩) List.nodup_range).mpr fun y => ?_
  · subst e
    have := (List.mem_filter.mp hb).2
    simp at this
    exact this ha
  · rw [List.mem_append, List.mem_filter, List.mem_range]
    constructor
    · rintro (h | ⟨h, _⟩)
      · exact hl y h
      · exact h
    · intro h
      by_cases q : y ∈ X
      · exact .inl q
      · exact .inr ⟨h, by simpa using q⟩
theorem best_more {J : List Job} {x : Job} {K R K' R' : List Nat} (h : Best J K R) (h' : Best (J ++ [x]) K' R') (hp : ∀ j ∈ J ++ [x], 0 ≤ j.p) : R.length ≤ R'.length ∧ R'.length ≤ R.length + 1 := by
  have l1 := best_len h
  have l2 := best_len h'
  rw [List.length_append, List.length_singleton] at l2
  have hpJ : ∀ j ∈ J, 0 ≤ j.p := fun j hj => hp j (List.mem_append_left _ hj)
  have kl : ∀ i ∈ K, i < J.length := fun i hi => (bd_perm J).lt (h.mh.sub.subset hi)
  have kl' : ∀ i ∈ K', i < J.length + 1 := fun i hi => by
    have := (bd_perm (J ++ [x])).lt (h'.mh.sub.subset hi)
    rwa [List.length_append, List.length_singleton] at this
  constructor
  · -- the kept ones but for the new one
    have hX : (K'.filter fun i => decide (i ≠ J.length)).Sublist K' := List.filter_sublist
    have hn' : K'.Nodup := (bd_nd _).sublist h'.mh.sub
    have hFX : Fs J 0 (K'.filter fun i => decide (i ≠ J.length)) := by
      have hl : ∀ i ∈ K'.filter (fun i => decide (i ≠ J.length)), i < J.length := fun i hi => by
        obtain ⟨a, b⟩ := List.mem_filter.mp hi
        have := kl' i a
        simp at b
        omega
      refine (fs_more (x := x) hl).mp (fs_sub hX (fun i hi => ?_) h'.mh.fs)
      exact bd_pos hp i (h'.mh.sub.subset hi)
    obtain ⟨Z, hZ⟩ := order_from (n := J.length) (hn'.sublist hX) fun i hi => by
      obtain ⟨a, b⟩ := List.mem_filter.mp hi
      have := kl' i a
      simp at b
      omega
    have := best_any h hpJ hZ
    rw [onT_fs hFX, List.length_append] at this
    have hlen : K'.length ≤ (K'.filter fun i => decide (i ≠ J.length)).length + 1 := by
      have := nodup_len (l := K') (m := J.length :: K'.filter fun i => decide (i ≠ J.length)) hn' fun y hy => by
        by_cases q : y = J.length
        · rw [q]; exact List.mem_cons_self
        · exact List.mem_cons_of_mem _ (List.mem_filter.mpr ⟨hy, by simpa using q⟩)
      rw [List.length_cons] at this
      exact this
    omega
  · obtain ⟨Z, hZ⟩ := order_from (n := (J ++ [x]).length) ((bd_nd J).sublist h.mh.sub) fun i hi => by
      have := kl i hi
      rw [List.length_append]; omega
    have := best_any h' hp hZ
    rw [onT_fs ((fs_more kl).mpr h.mh.fs), List.length_append] at this
    omega
end L45
namespace L45
open PySem PySem.Spec PySem.W PyProof.Rows L2 PL
def cI (o : List Nat) : List Int := o.map fun (i : Nat) => (i : Int)
theorem nI_c (o : List Nat) : o.map nI = (cI o).map D.int := nI_map o
theorem first_erase : ∀ {K : List Nat} {l : Nat}, l ∈ K → ∃ j, firstAt (cI K) (l : Int) j ∧ (cI K).eraseIdx j = cI (K.erase l)
  | [], _, h => by cases h
  | x :: K, l, h => by
    by_cases q : x = l
    · subst q
      exact ⟨0, ⟨rfl, fun m hm => absurd hm (by omega)⟩, by rw [List.erase_cons_head]; rfl⟩
    · have h2 : l ∈ K := by
        rcases List.mem_cons.mp h with z | z
        · exact absurd z.symm q
        · exact z
      obtain ⟨j, ⟨f1, f2⟩, f3⟩ := first_erase h2
      refine ⟨j + 1, ⟨f1, fun m hm => ?_⟩, ?_⟩
      · cases m with
        | zero =>
          intro z
          have : (x : Int) = (l : Int) := Option.some.inj z
          omega
        | succ m => exact f2 m (by omega)
      · rw [List.erase_cons_tail (by simpa using q)]
        show (x : Int) :: (cI K).eraseIdx j = _
        rw [f3]; rfl
theorem GJ.pos {J : List Job} (g : GJ J) : ∀ j ∈ J, 0 ≤ j.p := fun j hj => by have := g.p1 j hj; omega
def sp_told_late : DSp := fun ds S Q => ∃ J : List Job, ds = [eJs J] ∧ GJ J ∧ ∀ K R, Best J K R → Q (.lst (R.map nI)) S
theorem pure_told_late : ∀ ds S Q, sp_told_late ds S Q → t_told_late sp_by_due (DeN Q) (startD N_told_late ds) S := by
  rintro ds S0 Q ⟨J, rfl, g, q⟩
  have hf := g.few
  unfold t_told_late
  refine seqG fun v hv => ?_
  simp only [dSeq, dNext, dRet, dRetN, dIfS, dAsg, dAsgG, dDrop, dPar2, dPar3, dAug, dAugS, dFor, dOp, dVar, dC, dTest, dChain, dAnd, dOr, dNot, dAndV, dOrV, dNotV, dIf, dTup, dLst, dNil, dCons, dStar, dCB, dCall, dSl, dNoPart, dPart, dBM, dRev, dNeg, dIsi, dListRg, dTupRg, dRg1, dRg2, dLc, dIt, dEnum, dZip2, dZip3, dRng1, dRng2, dYes, gN, gT, gsNil, gsCons, gSb, oI, oI0, oAdd, oMulA, oSub, oFdiv, oMod, oPow, oLt, oLe, oGt, oGe, oEq, oNe, oIsN, oNotN, oIsB, oNotB, oIx, oSl, oLen, oSum, oAll, oAny, oAbs, o1I, o2I, oMin2, oMax2, oMin, oMax, oMinL, oMaxL, oInt, oBool, oList, oTuple, oSorted, oIn, oAddI, oGet, oSet, oAppend, oExtend, oPop, oPopAt, oIndexL, oIndexT, oInsert, oRemove, dTupX, dBMX, dLenSet, newL, startD, wipeD, D.tyN, List.map_cons, List.map_nil, List.cons_append, List.nil_append, List.length_cons, List.length_nil, List.getElem?_cons_zero, List.getElem?_cons_succ, List.set_cons_zero, List.set_cons_succ, List.replicate, Nat.sub_self, Nat.reduceSub, Nat.reduceAdd, Nat.zero_add, kb_ii, kb_ib, kb_it, kb_is, kb_bi, kb_bb, kb_bt, kb_bs, kb_tt, kb_ti, kb_ts, kb_ss, kb_si, kb_st, kb_nt, kb_ni, kb_ns, kb_lt, kb_li, kb_ls, ex_some, seq_tup, seq_tpx, itOf_tpx, seq_lst, seq_fz, list_lst, lsts_lst, lsts_fz, itOf_tup, itOf_lst, itOf_fz, now_int, now_bl, now_non, now_str, now_tup, now_lst, isNon_non, isNon_int, isNon_tup, isNon_ref, isNon_lst, isNon_str, isNon_bl]
  refine ⟨Nat.zero_le _, fun p1 hp1 => ⟨Nat.zero_le _, fun p3 hp3 => ?_⟩⟩
  have h13 : p1 ≠ p3 := ne_of_in Sto.up_same hp3
  have hp3' : S0 p3 = none := (Ext.up hp1).none hp3
  subst hv
  refine seqG fun v2 hv2 => ?_
  refine forG fun τ hτ => ?_
  simp only [dSeq, dNext, dRet, dRetN, dIfS, dAsg, dAsgG, dDrop, dPar2, dPar3, dAug, dAugS, dFor, dOp, dVar, dC, dTest, dChain, dAnd, dOr, dNot, dAndV, dOrV, dNotV, dIf, dTup, dLst, dNil, dCons, dStar, dCB, dCall, dSl, dNoPart, dPart, dBM, dRev, dNeg, dIsi, dListRg, dTupRg, dRg1, dRg2, dLc, dIt, dEnum, dZip2, dZip3, dRng1, dRng2, dYes, gN, gT, gsNil, gsCons, gSb, oI, oI0, oAdd, oMulA, oSub, oFdiv, oMod, oPow, oLt, oLe, oGt, oGe, oEq, oNe, oIsN, oNotN, oIsB, oNotB, oIx, oSl, oLen, oSum, oAll, oAny, oAbs, o1I, o2I, oMin2, oMax2, oMin, oMax, oMinL, oMaxL, oInt, oBool, oList, oTuple, oSorted, oIn, oAddI, oGet, oSet, oAppend, oExtend, oPop, oPopAt, oIndexL, oIndexT, oInsert, oRemove, dTupX, dBMX, dLenSet, newL, startD, wipeD, D.tyN, List.map_cons, List.map_nil, List.cons_append, List.nil_append, List.length_cons, List.length_nil, List.getElem?_cons_zero, List.getElem?_cons_succ, List.set_cons_zero, List.set_cons_succ, List.replicate, Nat.sub_self, Nat.reduceSub, Nat.reduceAdd, Nat.zero_add, kb_ii, kb_ib, kb_it, kb_is, kb_bi, kb_bb, kb_bt, kb_bs, kb_tt, kb_ti, kb_ts, kb_ss, kb_si, kb_st, kb_nt, kb_ni, kb_ns, kb_lt, kb_li, kb_ls, ex_some, seq_tup, seq_tpx, itOf_tpx, seq_lst, seq_fz, list_lst, lsts_lst, lsts_fz, itOf_tup, itOf_lst, itOf_fz, now_int, now_bl, now_non, now_str, now_tup, now_lst, isNon_non, isNon_int, isNon_tup, isNon_ref, isNon_lst, isNon_str, isNon_bl]
  refine ⟨J, rfl, by omega, ?_⟩
  simp only [dSeq, dNext, dRet, dRetN, dIfS, dAsg, dAsgG, dDrop, dPar2, dPar3, dAug, dAugS, dFor, dOp, dVar, dC, dTest, dChain, dAnd, dOr, dNot, dAndV, dOrV, dNotV, dIf, dTup, dLst, dNil, dCons, dStar, dCB, dCall, dSl, dNoPart, dPart, dBM, dRev, dNeg, dIsi, dListRg, dTupRg, dRg1, dRg2, dLc, dIt, dEnum, dZip2, dZip3, dRng1, dRng2, dYes, gN, gT, gsNil, gsCons, gSb, oI, oI0, oAdd, oMulA, oSub, oFdiv, oMod, oPow, oLt, oLe, oGt, oGe, oEq, oNe, oIsN, oNotN, oIsB, oNotB, oIx, oSl, oLen, oSum, oAll, oAny, oAbs, o1I, o2I, oMin2, oMax2, oMin, oMax, oMinL, oMaxL, oInt, oBool, oList, oTuple, oSorted, oIn, oAddI, oGet, oSet, oAppend, oExtend, oPop, oPopAt, oIndexL, oIndexT, oInsert, oRemove, dTupX, dBMX, dLenSet, newL, startD, wipeD, D.tyN, List.map_cons, List.map_nil, List.cons_append, List.nil_append, List.length_cons, List.length_nil, List.getElem?_cons_zero, List.getElem?_cons_succ, List.set_cons_zero, List.set_cons_succ, List.replicate, Nat.sub_self, Nat.reduceSub, Nat.reduceAdd, Nat.zero_add, kb_ii, kb_ib, kb_it, kb_is, kb_bi, kb_bb, kb_bt, kb_bs, kb_tt, kb_ti, kb_ts, kb_ss, kb_si, kb_st, kb_nt, kb_ni, kb_ns, kb_lt, kb_li, kb_ls, ex_some, seq_tup, seq_tpx, itOf_tpx, seq_lst, seq_fz, list_lst, lsts_lst, lsts_fz, itOf_tup, itOf_lst, itOf_fz, now_int, now_bl, now_non, now_str, now_tup, now_lst, isNon_non, isNon_int, isNon_tup, isNon_ref, isNon_lst, isNon_str, isNon_bl]
  refine ⟨trivial, ?_⟩
  refine loopD_invE (α := Nat) nI (fun xs ρ S => ∃ o4 o5 o6 dn K R, ρ = [some (eJs J), some (.ref p1), some (.int (psum J K)), some (.ref p3), o4, o5, o6] ∧ dn ++ xs = bd J ∧ Ext S0 S ∧ S p1 = some (.lst (K.map nI)) ∧ S p3 = some (.lst (R.map nI)) ∧ MH J dn K R) ?_ ?_ _ _ _
    ⟨none, none, none, [], [], [], rfl, rfl, (Ext.up hp1).trans (Ext.up hp3), by rw [Sto.up_ne h13]; exact Sto.up_same, Sto.up_same, mh_nil J⟩ trivial
  · rintro a xs ρ S ⟨o4, o5, o6, dn, K, R, rfl, hdn, hE, h1, h3, mh⟩ _ N hN
    have hsub : (dn ++ [a]).Sublist (bd J) := by
      rw [← hdn]
      exact List.Sublist.append_left ((List.nil_sublist xs).cons_cons a) dn
    have hnd := (bd_nd J).sublist hsub
    have hal : a < J.length := (bd_perm J).lt (hsub.subset (by simp))
    have hlen : dn.length + 1 ≤ 60 := by
      have := hsub.length_le
      rw [(bd_perm J).len] at this
      simp at this; omega
    have hKl : K.length ≤ dn.length := mh.sub.length_le
    have hKR : K.length + R.length = dn.length := by have := mh.perm.length_eq; rwa [List.length_append] at this
    have kin : ∀ i ∈ K ++ [a], i < J.length := fun i hi => (bd_perm J).lt (hsub.subset ((mh.sub.append (List.Sublist.refl [a])).subset hi))
    have ps : psum J (K ++ [a]) = psum J K + (gj J a).p := by rw [psum_append, psum_cons, psum_nil]; unfold pr; omega
    subst hτ
    simp only [gN, List.set_cons_zero, List.set_cons_succ]
    refine seqG fun v3 hv3 => ?_
    simp only [dSeq, dNext, dRet, dRetN, dIfS, dAsg, dAsgG, dDrop, dPar2, dPar3, dAug, dAugS, dFor, dOp, dVar, dC, dTest, dChain, dAnd, dOr, dNot, dAndV, dOrV, dNotV, dIf, dTup, dLst, dNil, dCons, dStar, dCB, dCall, dSl, dNoPart, dPart, dBM, dRev, dNeg, dIsi, dListRg, dTupRg, dRg1, dRg2, dLc, dIt, dEnum, dZip2, dZip3, dRng1, dRng2, dYes, gN, gT, gsNil, gsCons, gSb, oI, oI0, oAdd, oMulA, oSub, oFdiv, oMod, oPow, oLt, oLe, oGt, oGe, oEq, oNe, oIsN, oNotN, oIsB, oNotB, oIx, oSl, oLen, oSum, oAll, oAny, oAbs, o1I, o2I, oMin2, oMax2, oMin, oMax, oMinL, oMaxL, oInt, oBool, oList, oTuple, oSorted, oIn, oAddI, oGet, oSet, oAppend, oExtend, oPop, oPopAt, oIndexL, oIndexT, oInsert, oRemove, dTupX, dBMX, dLenSet, newL, startD, wipeD, D.tyN, List.map_cons, List.map_nil, List.cons_append, List.nil_append, List.length_cons, List.length_nil, List.getElem?_cons_zero, List.getElem?_cons_succ, List.set_cons_zero, List.set_cons_succ, List.replicate, Nat.sub_self, Nat.reduceSub, Nat.reduceAdd, Nat.zero_add, kb_ii, kb_ib, kb_it, kb_is, kb_bi, kb_bb, kb_bt, kb_bs, kb_tt, kb_ti, kb_ts, kb_ss, kb_si, kb_st, kb_nt, kb_ni, kb_ns, kb_lt, kb_li, kb_ls, ex_some, seq_tup, seq_tpx, itOf_tpx, seq_lst, seq_fz, list_lst, lsts_lst, lsts_fz, itOf_tup, itOf_lst, itOf_fz, now_int, now_bl, now_non, now_str, now_tup, now_lst, isNon_non, isNon_int, isNon_tup, isNon_ref, isNon_lst, isNon_str, isNon_bl, list_ref h1, trk_ref h1]
    refine ⟨⟨_, rfl⟩, by rw [List.length_map, sizeLine_eq]; omega, ?_⟩
    have h1' : (S.up p1 (MO.lst (K.map nI ++ [nI a]))) p1 = some (.lst ((K ++ [a]).map nI)) := by rw [Sto.up_same, List.map_append]; rfl
    have h3' : (S.up p1 (MO.lst (K.map nI ++ [nI a]))) p3 = some (.lst (R.map nI)) := by rw [Sto.up_ne (Ne.symm h13)]; exact h3
    have hE' : Ext S0 (S.up p1 (MO.lst (K.map nI ++ [nI a]))) := hE.set hp1
    generalize S.up p1 (MO.lst (K.map nI ++ [nI a])) = S1 at h1' h3' hE' ⊢
    subst hv3
    refine seqG fun v4 hv4 => ?_
    simp only [dSeq, dNext, dRet, dRetN, dIfS, dAsg, dAsgG, dDrop, dPar2, dPar3, dAug, dAugS, dFor, dOp, dVar, dC, dTest, dChain, dAnd, dOr, dNot, dAndV, dOrV, dNotV, dIf, dTup, dLst, dNil, dCons, dStar, dCB, dCall, dSl, dNoPart, dPart, dBM, dRev, dNeg, dIsi, dListRg, dTupRg, dRg1, dRg2, dLc, dIt, dEnum, dZip2, dZip3, dRng1, dRng2, dYes, gN, gT, gsNil, gsCons, gSb, oI, oI0, oAdd, oMulA, oSub, oFdiv, oMod, oPow, oLt, oLe, oGt, oGe, oEq, oNe, oIsN, oNotN, oIsB, oNotB, oIx, oSl, oLen, oSum, oAll, oAny, oAbs, o1I, o2I, oMin2, oMax2, oMin, oMax, oMinL, oMaxL, oInt, oBool, oList, oTuple, oSorted, oIn, oAddI, oGet, oSet, oAppend, oExtend, oPop, oPopAt, oIndexL, oIndexT, oInsert, oRemove, dTupX, dBMX, dLenSet, newL, startD, wipeD, D.tyN, List.map_cons, List.map_nil, List.cons_append, List.nil_append, List.length_cons, List.length_nil, List.getElem?_cons_zero, List.getElem?_cons_succ, List.set_cons_zero, List.set_cons_succ, List.replicate, Nat.sub_self, Nat.reduceSub, Nat.reduceAdd, Nat.zero_add, kb_ii, kb_ib, kb_it, kb_is, kb_bi, kb_bb, kb_bt, kb_bs, kb_tt, kb_ti, kb_ts, kb_ss, kb_si, kb_st, kb_nt, kb_ni, kb_ns, kb_lt, kb_li, kb_ls, ex_some, seq_tup, seq_tpx, itOf_tpx, seq_lst, seq_fz, list_lst, lsts_lst, lsts_fz, itOf_tup, itOf_lst, itOf_fz, now_int, now_bl, now_non, now_str, now_tup, now_lst, isNon_non, isNon_int, isNon_tup, isNon_ref, isNon_lst, isNon_str, isNon_bl, nI, eJs, ix_job hal, eJ, a30]
    rw [← ps]
    subst hv4
    simp only [dSeq, dNext, dRet, dRetN, dIfS, dAsg, dAsgG, dDrop, dPar2, dPar3, dAug, dAugS, dFor, dOp, dVar, dC, dTest, dChain, dAnd, dOr, dNot, dAndV, dOrV, dNotV, dIf, dTup, dLst, dNil, dCons, dStar, dCB, dCall, dSl, dNoPart, dPart, dBM, dRev, dNeg, dIsi, dListRg, dTupRg, dRg1, dRg2, dLc, dIt, dEnum, dZip2, dZip3, dRng1, dRng2, dYes, gN, gT, gsNil, gsCons, gSb, oI, oI0, oAdd, oMulA, oSub, oFdiv, oMod, oPow, oLt, oLe, oGt, oGe, oEq, oNe, oIsN, oNotN, oIsB, oNotB, oIx, oSl, oLen, oSum, oAll, oAny, oAbs, o1I, o2I, oMin2, oMax2, oMin, oMax, oMinL, oMaxL, oInt, oBool, oList, oTuple, oSorted, oIn, oAddI, oGet, oSet, oAppend, oExtend, oPop, oPopAt, oIndexL, oIndexT, oInsert, oRemove, dTupX, dBMX, dLenSet, newL, startD, wipeD, D.tyN, List.map_cons, List.map_nil, List.cons_append, List.nil_append, List.length_cons, List.length_nil, List.getElem?_cons_zero, List.getElem?_cons_succ, List.set_cons_zero, List.set_cons_succ, List.replicate, Nat.sub_self, Nat.reduceSub, Nat.reduceAdd, Nat.zero_add, kb_ii, kb_ib, kb_it, kb_is, kb_bi, kb_bb, kb_bt, kb_bs, kb_tt, kb_ti, kb_ts, kb_ss, kb_si, kb_st, kb_nt, kb_ni, kb_ns, kb_lt, kb_li, kb_ls, ex_some, seq_tup, seq_tpx, itOf_tpx, seq_lst, seq_fz, list_lst, lsts_lst, lsts_fz, itOf_tup, itOf_lst, itOf_fz, now_int, now_bl, now_non, now_str, now_tup, now_lst, isNon_non, isNon_int, isNon_tup, isNon_ref, isNon_lst, isNon_str, isNon_bl, eJs, ix_job hal, eJ, a32]
    by_cases hgt : (gj J a).d < psum J (K ++ [a])
    · simp only [decide_eq_true hgt, itOf_ref h1']
      refine lc_mapE (K ++ [a]) nI (fun i => eP (pr J i, (i : Int))) (fun S' e => e p1 _ h1') (small (by simp; omega)) (fun i hi S' e M M2 h => ?_) ?_
      · simp only [dSeq, dNext, dRet, dRetN, dIfS, dAsg, dAsgG, dDrop, dPar2, dPar3, dAug, dAugS, dFor, dOp, dVar, dC, dTest, dChain, dAnd, dOr, dNot, dAndV, dOrV, dNotV, dIf, dTup, dLst, dNil, dCons, dStar, dCB, dCall, dSl, dNoPart, dPart, dBM, dRev, dNeg, dIsi, dListRg, dTupRg, dRg1, dRg2, dLc, dIt, dEnum, dZip2, dZip3, dRng1, dRng2, dYes, gN, gT, gsNil, gsCons, gSb, oI, oI0, oAdd, oMulA, oSub, oFdiv, oMod, oPow, oLt, oLe, oGt, oGe, oEq, oNe, oIsN, oNotN, oIsB, oNotB, oIx, oSl, oLen, oSum, oAll, oAny, oAbs, o1I, o2I, oMin2, oMax2, oMin, oMax, oMinL, oMaxL, oInt, oBool, oList, oTuple, oSorted, oIn, oAddI, oGet, oSet, oAppend, oExtend, oPop, oPopAt, oIndexL, oIndexT, oInsert, oRemove, dTupX, dBMX, dLenSet, newL, startD, wipeD, D.tyN, List.map_cons, List.map_nil, List.cons_append, List.nil_append, List.length_cons, List.length_nil, List.getElem?_cons_zero, List.getElem?_cons_succ, List.set_cons_zero, List.set_cons_succ, List.replicate, Nat.sub_self, Nat.reduceSub, Nat.reduceAdd, Nat.zero_add, kb_ii, kb_ib, kb_it, kb_is, kb_bi, kb_bb, kb_bt, kb_bs, kb_tt, kb_ti, kb_ts, kb_ss, kb_si, kb_st, kb_nt, kb_ni, kb_ns, kb_lt, kb_li, kb_ls, ex_some, seq_tup, seq_tpx, itOf_tpx, seq_lst, seq_fz, list_lst, lsts_lst, lsts_fz, itOf_tup, itOf_lst, itOf_fz, now_int, now_bl, now_non, now_str, now_tup, now_lst, isNon_non, isNon_int, isNon_tup, isNon_ref, isNon_lst, isNon_str, isNon_bl, nI, ix_job (kin i hi), eJ, a30]
        exact ⟨small (by simp), h⟩
      have em : (K ++ [a]).map (fun i => eP (pr J i, (i : Int))) = ((K ++ [a]).map fun i => (pr J i, (i : Int))).map fun p => D.tup [.int p.1, .int p.2] := by rw [List.map_map]; rfl
      simp only [dSeq, dNext, dRet, dRetN, dIfS, dAsg, dAsgG, dDrop, dPar2, dPar3, dAug, dAugS, dFor, dOp, dVar, dC, dTest, dChain, dAnd, dOr, dNot, dAndV, dOrV, dNotV, dIf, dTup, dLst, dNil, dCons, dStar, dCB, dCall, dSl, dNoPart, dPart, dBM, dRev, dNeg, dIsi, dListRg, dTupRg, dRg1, dRg2, dLc, dIt, dEnum, dZip2, dZip3, dRng1, dRng2, dYes, gN, gT, gsNil, gsCons, gSb, oI, oI0, oAdd, oMulA, oSub, oFdiv, oMod, oPow, oLt, oLe, oGt, oGe, oEq, oNe, oIsN, oNotN, oIsB, oNotB, oIx, oSl, oLen, oSum, oAll, oAny, oAbs, o1I, o2I, oMin2, oMax2, oMin, oMax, oMinL, oMaxL, oInt, oBool, oList, oTuple, oSorted, oIn, oAddI, oGet, oSet, oAppend, oExtend, oPop, oPopAt, oIndexL, oIndexT, oInsert, oRemove, dTupX, dBMX, dLenSet, newL, startD, wipeD, D.tyN, List.map_cons, List.map_nil, List.cons_append, List.nil_append, List.length_cons, List.length_nil, List.getElem?_cons_zero, List.getElem?_cons_succ, List.set_cons_zero, List.set_cons_succ, List.replicate, Nat.sub_self, Nat.reduceSub, Nat.reduceAdd, Nat.zero_add, kb_ii, kb_ib, kb_it, kb_is, kb_bi, kb_bb, kb_bt, kb_bs, kb_tt, kb_ti, kb_ts, kb_ss, kb_si, kb_st, kb_nt, kb_ni, kb_ns, kb_lt, kb_li, kb_ls, ex_some, seq_tup, seq_tpx, itOf_tpx, seq_lst, seq_fz, list_lst, lsts_lst, lsts_fz, itOf_tup, itOf_lst, itOf_fz, now_int, now_bl, now_non, now_str, now_tup, now_lst, isNon_non, isNon_int, isNon_tup, isNon_ref, isNon_lst, isNon_str, isNon_bl]
      rw [em]
      refine ⟨⟨?_, okn_pairs, akin_pairs⟩, fun m hm hmost => ?_⟩
      · intro z
        have := congrArg List.length z
        simp at this
      obtain ⟨pp, hpp, rfl⟩ := List.mem_map.mp hm
      obtain ⟨l, hl, rfl⟩ := List.mem_map.mp hpp
      have hmax : ∀ i ∈ K ++ [a], pr J i ≤ pr J l := fun i hi => by
        have := hmost _ (List.mem_map.mpr ⟨(pr J i, (i : Int)), List.mem_map.mpr ⟨i, hi, rfl⟩, rfl⟩)
        rw [ltD_ii] at this
        have := of_decide_eq_false this
        omega
      obtain ⟨j, hj, hje⟩ := first_erase hl
      have hll := kin l hl
      have t1 : S1.trk (.ref p1) = some (p1, (cI (K ++ [a])).map D.int) := by rw [← nI_c]; exact trk_ref h1'
      have l1 := list_ref h1'
      simp only [dSeq, dNext, dRet, dRetN, dIfS, dAsg, dAsgG, dDrop, dPar2, dPar3, dAug, dAugS, dFor, dOp, dVar, dC, dTest, dChain, dAnd, dOr, dNot, dAndV, dOrV, dNotV, dIf, dTup, dLst, dNil, dCons, dStar, dCB, dCall, dSl, dNoPart, dPart, dBM, dRev, dNeg, dIsi, dListRg, dTupRg, dRg1, dRg2, dLc, dIt, dEnum, dZip2, dZip3, dRng1, dRng2, dYes, gN, gT, gsNil, gsCons, gSb, oI, oI0, oAdd, oMulA, oSub, oFdiv, oMod, oPow, oLt, oLe, oGt, oGe, oEq, oNe, oIsN, oNotN, oIsB, oNotB, oIx, oSl, oLen, oSum, oAll, oAny, oAbs, o1I, o2I, oMin2, oMax2, oMin, oMax, oMinL, oMaxL, oInt, oBool, oList, oTuple, oSorted, oIn, oAddI, oGet, oSet, oAppend, oExtend, oPop, oPopAt, oIndexL, oIndexT, oInsert, oRemove, dTupX, dBMX, dLenSet, newL, startD, wipeD, D.tyN, List.map_cons, List.map_nil, List.cons_append, List.nil_append, List.length_cons, List.length_nil, List.getElem?_cons_zero, List.getElem?_cons_succ, List.set_cons_zero, List.set_cons_succ, List.replicate, Nat.sub_self, Nat.reduceSub, Nat.reduceAdd, Nat.zero_add, kb_ii, kb_ib, kb_it, kb_is, kb_bi, kb_bb, kb_bt, kb_bs, kb_tt, kb_ti, kb_ts, kb_ss, kb_si, kb_st, kb_nt, kb_ni, kb_ns, kb_lt, kb_li, kb_ls, ex_some, seq_tup, seq_tpx, itOf_tpx, seq_lst, seq_fz, list_lst, lsts_lst, lsts_fz, itOf_tup, itOf_lst, itOf_fz, now_int, now_bl, now_non, now_str, now_tup, now_lst, isNon_non, isNon_int, isNon_tup, isNon_ref, isNon_lst, isNon_str, isNon_bl, a21, l1, t1]
      refine ⟨⟨_, rfl⟩, cI (K ++ [a]), j, rfl, hj, ?_⟩
      rw [hje, ← nI_c]
      have h3'' : (S1.up p1 (MO.lst (((K ++ [a]).erase l).map nI))) p3 = some (.lst (R.map nI)) := by rw [Sto.up_ne (Ne.symm h13)]; exact h3'
      have h1'' : (S1.up p1 (MO.lst (((K ++ [a]).erase l).map nI))) p1 = some (.lst (((K ++ [a]).erase l).map nI)) := Sto.up_same
      have hE2 : Ext S0 (S1.up p1 (MO.lst (((K ++ [a]).erase l).map nI))) := hE'.set hp1
      generalize S1.up p1 (MO.lst (((K ++ [a]).erase l).map nI)) = S2 at h3'' h1'' hE2 ⊢
      simp only [dSeq, dNext, dRet, dRetN, dIfS, dAsg, dAsgG, dDrop, dPar2, dPar3, dAug, dAugS, dFor, dOp, dVar, dC, dTest, dChain, dAnd, dOr, dNot, dAndV, dOrV, dNotV, dIf, dTup, dLst, dNil, dCons, dStar, dCB, dCall, dSl, dNoPart, dPart, dBM, dRev, dNeg, dIsi, dListRg, dTupRg, dRg1, dRg2, dLc, dIt, dEnum, dZip2, dZip3, dRng1, dRng2, dYes, gN, gT, gsNil, gsCons, gSb, oI, oI0, oAdd, oMulA, oSub, oFdiv, oMod, oPow, oLt, oLe, oGt, oGe, oEq, oNe, oIsN, oNotN, oIsB, oNotB, oIx, oSl, oLen, oSum, oAll, oAny, oAbs, o1I, o2I, oMin2, oMax2, oMin, oMax, oMinL, oMaxL, oInt, oBool, oList, oTuple, oSorted, oIn, oAddI, oGet, oSet, oAppend, oExtend, oPop, oPopAt, oIndexL, oIndexT, oInsert, oRemove, dTupX, dBMX, dLenSet, newL, startD, wipeD, D.tyN, List.map_cons, List.map_nil, List.cons_append, List.nil_append, List.length_cons, List.length_nil, List.getElem?_cons_zero, List.getElem?_cons_succ, List.set_cons_zero, List.set_cons_succ, List.replicate, Nat.sub_self, Nat.reduceSub, Nat.reduceAdd, Nat.zero_add, kb_ii, kb_ib, kb_it, kb_is, kb_bi, kb_bb, kb_bt, kb_bs, kb_tt, kb_ti, kb_ts, kb_ss, kb_si, kb_st, kb_nt, kb_ni, kb_ns, kb_lt, kb_li, kb_ls, ex_some, seq_tup, seq_tpx, itOf_tpx, seq_lst, seq_fz, list_lst, lsts_lst, lsts_fz, itOf_tup, itOf_lst, itOf_fz, now_int, now_bl, now_non, now_str, now_tup, now_lst, isNon_non, isNon_int, isNon_tup, isNon_ref, isNon_lst, isNon_str, isNon_bl, list_ref h3'', trk_ref h3'', ix_job hll, eJ, a30]
      refine ⟨⟨_, rfl⟩, by rw [List.length_map, sizeLine_eq]; omega, ?_⟩
      have e2 : psum J (K ++ [a]) - (gj J l).p = psum J ((K ++ [a]).erase l) := by
        have := psum_perm (J := J) (List.perm_cons_erase hl)
        rw [psum_cons] at this
        unfold pr at this
        omega
      rw [e2]
      refine hN _ _ trivial ⟨_, _, _, dn ++ [a], (K ++ [a]).erase l, R ++ [l], rfl, by simpa using hdn, hE2.set hp3', by rw [Sto.up_ne h13]; exact h1'', by rw [Sto.up_same, List.map_append]; rfl, mh_drop mh hnd ((bd_due J).sublist hsub) hl hmax (fun i hi => bd_pos g.pos i (hsub.subset hi)) hgt⟩
    · simp only [decide_eq_false hgt]
      exact hN _ _ trivial ⟨_, _, _, dn ++ [a], K ++ [a], R, rfl, by simpa using hdn, hE', h1', h3', mh_keep mh (by unfold dOf; omega)⟩
  · rintro ρ S ⟨o4, o5, o6, dn, K, R, rfl, hdn, hE, h1, h3, mh⟩
    rw [List.append_nil] at hdn
    subst hdn
    show v2 _ _ _
    subst hv2
    simp only [dSeq, dNext, dRet, dRetN, dIfS, dAsg, dAsgG, dDrop, dPar2, dPar3, dAug, dAugS, dFor, dOp, dVar, dC, dTest, dChain, dAnd, dOr, dNot, dAndV, dOrV, dNotV, dIf, dTup, dLst, dNil, dCons, dStar, dCB, dCall, dSl, dNoPart, dPart, dBM, dRev, dNeg, dIsi, dListRg, dTupRg, dRg1, dRg2, dLc, dIt, dEnum, dZip2, dZip3, dRng1, dRng2, dYes, gN, gT, gsNil, gsCons, gSb, oI, oI0, oAdd, oMulA, oSub, oFdiv, oMod, oPow, oLt, oLe, oGt, oGe, oEq, oNe, oIsN, oNotN, oIsB, oNotB, oIx, oSl, oLen, oSum, oAll, oAny, oAbs, o1I, o2I, oMin2, oMax2, oMin, oMax, oMinL, oMaxL, oInt, oBool, oList, oTuple, oSorted, oIn, oAddI, oGet, oSet, oAppend, oExtend, oPop, oPopAt, oIndexL, oIndexT, oInsert, oRemove, dTupX, dBMX, dLenSet, newL, startD, wipeD, D.tyN, List.map_cons, List.map_nil, List.cons_append, List.nil_append, List.length_cons, List.length_nil, List.getElem?_cons_zero, List.getElem?_cons_succ, List.set_cons_zero, List.set_cons_succ, List.replicate, Nat.sub_self, Nat.reduceSub, Nat.reduceAdd, Nat.zero_add, kb_ii, kb_ib, kb_it, kb_is, kb_bi, kb_bb, kb_bt, kb_bs, kb_tt, kb_ti, kb_ts, kb_ss, kb_si, kb_st, kb_nt, kb_ni, kb_ns, kb_lt, kb_li, kb_ls, ex_some, seq_tup, seq_tpx, itOf_tpx, seq_lst, seq_fz, list_lst, lsts_lst, lsts_fz, itOf_tup, itOf_lst, itOf_fz, now_int, now_bl, now_non, now_str, now_tup, now_lst, isNon_non, isNon_int, isNon_tup, isNon_ref, isNon_lst, isNon_str, isNon_bl]
    exact FzQ.extL hE h3 hp3' (q K R ⟨mh⟩)
theorem sub_filter : ∀ {K b : List Nat}, K.Sublist b → b.Nodup → K = b.filter fun i => decide (i ∈ K) := by
  intro K b h
  induction h with
  | slnil => intro _; rfl
  | @cons l1 l2 a h ih =>
    intro hn
    obtain ⟨h1, h2⟩ := List.nodup_cons.mp hn
    have : a ∉ l1 := fun z => h1 (h.subset z)
    rw [List.filter_cons_of_neg (by simpa using this)]
    exact ih h2
  | @cons_cons l1 l2 a h ih =>
    intro hn
    obtain ⟨h1, h2⟩ := List.nodup_cons.mp hn
    rw [List.filter_cons_of_pos (by simp)]
    congr 1
    refine (ih h2).trans (List.filter_congr fun x hx => ?_)
    have : x ≠ a := fun e => h1 (e ▸ hx)
    simp [this]
theorem kept_filter {J : List Job} {K R : List Nat} (h : Best J K R) : (bd J).filter (fun i => decide (i ∉ R)) = K := by
  have hn := bd_nd J
  refine Eq.trans ?_ (sub_filter h.mh.sub hn).symm
  refine List.filter_congr fun x hx => ?_
  have hp := h.mh.perm
  have hnn : (K ++ R).Nodup := hp.nodup_iff.mpr hn
  have hx2 := hp.mem_iff.mpr hx
  rcases List.mem_append.mp hx2 with z | z
  · have : x ∉ R := fun w => (List.nodup_append.mp hnn).2.2 x z x w rfl
    simp [z, this]
  · have : x ∉ K := fun w => (List.nodup_append.mp hnn).2.2 x w x z rfl
    simp [z, this]
theorem any_nI {i : Nat} {R : List Nat} : ((R.map nI).any fun z => eqD z (nI i)) = decide (i ∈ R) := by
  induction R with
  | nil => simp
  | cons r R ih =>
    rw [List.map_cons, List.any_cons, ih]
    unfold nI
    rw [eqD_int]
    by_cases q : i = r
    · subst q; simp
    · have h1 : ¬ ((r : Int) = (i : Int)) := by omega
      simp [q, h1]
theorem okn_nI {n : Nat} {o : List Nat} : (o.map nI).all (D.okn n) = true := by rw [nI_c]; exact okn_ints
def sortN (o : List Nat) : List Nat := o.mergeSort fun a b => decide ((a : Int) ≤ (b : Int))
theorem sortN_perm (o : List Nat) : (sortN o).Perm o := List.mergeSort_perm _ _
theorem sort_nI {o : List Nat} : (o.map nI).mergeSort leD = (sortN o).map nI := by
  unfold sortN
  refine (sort_maps nI fun a _ b _ => ?_).symm
  unfold nI
  exact leD_int.symm
theorem akin_nI {o : List Nat} : akin (o.map nI) := by rw [nI_c]; exact akin_ints
theorem sortable_nI {o : List Nat} : Sortable ((o.map nI).map D.py) := by rw [nI_c]; exact sortable_ints
def sp_fewest_late : DSp := fun ds S Q => ∃ J : List Job, ds = [eJs J] ∧ GJ J ∧ ∀ K R R', Best J K R → R'.Perm R → Q (.tup [.str "late", .int (R.length : Nat), eO (K ++ R')]) S
theorem pure_fewest_late : ∀ ds S Q, sp_fewest_late ds S Q → t_fewest_late sp_look_at_jobs sp_told_late sp_by_due (DeN Q) (startD N_fewest_late ds) S := by
  rintro ds S Q ⟨J, rfl, g, q⟩
  have hf := g.few
  simp only [t_fewest_late, dSeq, dNext, dRet, dRetN, dIfS, dAsg, dAsgG, dDrop, dPar2, dPar3, dAug, dAugS, dFor, dOp, dVar, dC, dTest, dChain, dAnd, dOr, dNot, dAndV, dOrV, dNotV, dIf, dTup, dLst, dNil, dCons, dStar, dCB, dCall, dSl, dNoPart, dPart, dBM, dRev, dNeg, dIsi, dListRg, dTupRg, dRg1, dRg2, dLc, dIt, dEnum, dZip2, dZip3, dRng1, dRng2, dYes, gN, gT, gsNil, gsCons, gSb, oI, oI0, oAdd, oMulA, oSub, oFdiv, oMod, oPow, oLt, oLe, oGt, oGe, oEq, oNe, oIsN, oNotN, oIsB, oNotB, oIx, oSl, oLen, oSum, oAll, oAny, oAbs, o1I, o2I, oMin2, oMax2, oMin, oMax, oMinL, oMaxL, oInt, oBool, oList, oTuple, oSorted, oIn, oAddI, oGet, oSet, oAppend, oExtend, oPop, oPopAt, oIndexL, oIndexT, oInsert, oRemove, dTupX, dBMX, dLenSet, newL, startD, wipeD, D.tyN, List.map_cons, List.map_nil, List.cons_append, List.nil_append, List.length_cons, List.length_nil, List.getElem?_cons_zero, List.getElem?_cons_succ, List.set_cons_zero, List.set_cons_succ, List.replicate, Nat.sub_self, Nat.reduceSub, Nat.reduceAdd, Nat.zero_add, kb_ii, kb_ib, kb_it, kb_is, kb_bi, kb_bb, kb_bt, kb_bs, kb_tt, kb_ti, kb_ts, kb_ss, kb_si, kb_st, kb_nt, kb_ni, kb_ns, kb_lt, kb_li, kb_ls, ex_some, seq_tup, seq_tpx, itOf_tpx, seq_lst, seq_fz, list_lst, lsts_lst, lsts_fz, itOf_tup, itOf_lst, itOf_fz, now_int, now_bl, now_non, now_str, now_tup, now_lst, isNon_non, isNon_int, isNon_tup, isNon_ref, isNon_lst, isNon_str, isNon_bl]
  refine ⟨J, rfl, g, J, rfl, g, fun K R hb => ?_⟩
  have hl := best_len hb
  simp only [dSeq, dNext, dRet, dRetN, dIfS, dAsg, dAsgG, dDrop, dPar2, dPar3, dAug, dAugS, dFor, dOp, dVar, dC, dTest, dChain, dAnd, dOr, dNot, dAndV, dOrV, dNotV, dIf, dTup, dLst, dNil, dCons, dStar, dCB, dCall, dSl, dNoPart, dPart, dBM, dRev, dNeg, dIsi, dListRg, dTupRg, dRg1, dRg2, dLc, dIt, dEnum, dZip2, dZip3, dRng1, dRng2, dYes, gN, gT, gsNil, gsCons, gSb, oI, oI0, oAdd, oMulA, oSub, oFdiv, oMod, oPow, oLt, oLe, oGt, oGe, oEq, oNe, oIsN, oNotN, oIsB, oNotB, oIx, oSl, oLen, oSum, oAll, oAny, oAbs, o1I, o2I, oMin2, oMax2, oMin, oMax, oMinL, oMaxL, oInt, oBool, oList, oTuple, oSorted, oIn, oAddI, oGet, oSet, oAppend, oExtend, oPop, oPopAt, oIndexL, oIndexT, oInsert, oRemove, dTupX, dBMX, dLenSet, newL, startD, wipeD, D.tyN, List.map_cons, List.map_nil, List.cons_append, List.nil_append, List.length_cons, List.length_nil, List.getElem?_cons_zero, List.getElem?_cons_succ, List.set_cons_zero, List.set_cons_succ, List.replicate, Nat.sub_self, Nat.reduceSub, Nat.reduceAdd, Nat.zero_add, kb_ii, kb_ib, kb_it, kb_is, kb_bi, kb_bb, kb_bt, kb_bs, kb_tt, kb_ti, kb_ts, kb_ss, kb_si, kb_st, kb_nt, kb_ni, kb_ns, kb_lt, kb_li, kb_ls, ex_some, seq_tup, seq_tpx, itOf_tpx, seq_lst, seq_fz, list_lst, lsts_lst, lsts_fz, itOf_tup, itOf_lst, itOf_fz, now_int, now_bl, now_non, now_str, now_tup, now_lst, isNon_non, isNon_int, isNon_tup, isNon_ref, isNon_lst, isNon_str, isNon_bl]
  refine ⟨J, rfl, by omega, ?_⟩
  simp only [dSeq, dNext, dRet, dRetN, dIfS, dAsg, dAsgG, dDrop, dPar2, dPar3, dAug, dAugS, dFor, dOp, dVar, dC, dTest, dChain, dAnd, dOr, dNot, dAndV, dOrV, dNotV, dIf, dTup, dLst, dNil, dCons, dStar, dCB, dCall, dSl, dNoPart, dPart, dBM, dRev, dNeg, dIsi, dListRg, dTupRg, dRg1, dRg2, dLc, dIt, dEnum, dZip2, dZip3, dRng1, dRng2, dYes, gN, gT, gsNil, gsCons, gSb, oI, oI0, oAdd, oMulA, oSub, oFdiv, oMod, oPow, oLt, oLe, oGt, oGe, oEq, oNe, oIsN, oNotN, oIsB, oNotB, oIx, oSl, oLen, oSum, oAll, oAny, oAbs, o1I, o2I, oMin2, oMax2, oMin, oMax, oMinL, oMaxL, oInt, oBool, oList, oTuple, oSorted, oIn, oAddI, oGet, oSet, oAppend, oExtend, oPop, oPopAt, oIndexL, oIndexT, oInsert, oRemove, dTupX, dBMX, dLenSet, newL, startD, wipeD, D.tyN, List.map_cons, List.map_nil, List.cons_append, List.nil_append, List.length_cons, List.length_nil, List.getElem?_cons_zero, List.getElem?_cons_succ, List.set_cons_zero, List.set_cons_succ, List.replicate, Nat.sub_self, Nat.reduceSub, Nat.reduceAdd, Nat.zero_add, kb_ii, kb_ib, kb_it, kb_is, kb_bi, kb_bb, kb_bt, kb_bs, kb_tt, kb_ti, kb_ts, kb_ss, kb_si, kb_st, kb_nt, kb_ni, kb_ns, kb_lt, kb_li, kb_ls, ex_some, seq_tup, seq_tpx, itOf_tpx, seq_lst, seq_fz, list_lst, lsts_lst, lsts_fz, itOf_tup, itOf_lst, itOf_fz, now_int, now_bl, now_non, now_str, now_tup, now_lst, isNon_non, isNon_int, isNon_tup, isNon_ref, isNon_lst, isNon_str, isNon_bl]
  refine lc_mapK (bd J) nI (fun i => decide (i ∉ R)) nI (fun _ _ => trivial) (small (by rw [(bd_perm J).len]; omega)) (fun i hi S' e N M h1 h2 => ?_) ?_
  · simp only [dSeq, dNext, dRet, dRetN, dIfS, dAsg, dAsgG, dDrop, dPar2, dPar3, dAug, dAugS, dFor, dOp, dVar, dC, dTest, dChain, dAnd, dOr, dNot, dAndV, dOrV, dNotV, dIf, dTup, dLst, dNil, dCons, dStar, dCB, dCall, dSl, dNoPart, dPart, dBM, dRev, dNeg, dIsi, dListRg, dTupRg, dRg1, dRg2, dLc, dIt, dEnum, dZip2, dZip3, dRng1, dRng2, dYes, gN, gT, gsNil, gsCons, gSb, oI, oI0, oAdd, oMulA, oSub, oFdiv, oMod, oPow, oLt, oLe, oGt, oGe, oEq, oNe, oIsN, oNotN, oIsB, oNotB, oIx, oSl, oLen, oSum, oAll, oAny, oAbs, o1I, o2I, oMin2, oMax2, oMin, oMax, oMinL, oMaxL, oInt, oBool, oList, oTuple, oSorted, oIn, oAddI, oGet, oSet, oAppend, oExtend, oPop, oPopAt, oIndexL, oIndexT, oInsert, oRemove, dTupX, dBMX, dLenSet, newL, startD, wipeD, D.tyN, List.map_cons, List.map_nil, List.cons_append, List.nil_append, List.length_cons, List.length_nil, List.getElem?_cons_zero, List.getElem?_cons_succ, List.set_cons_zero, List.set_cons_succ, List.replicate, Nat.sub_self, Nat.reduceSub, Nat.reduceAdd, Nat.zero_add, kb_ii, kb_ib, kb_it, kb_is, kb_bi, kb_bb, kb_bt, kb_bs, kb_tt, kb_ti, kb_ts, kb_ss, kb_si, kb_st, kb_nt, kb_ni, kb_ns, kb_lt, kb_li, kb_ls, ex_some, seq_tup, seq_tpx, itOf_tpx, seq_lst, seq_fz, list_lst, lsts_lst, lsts_fz, itOf_tup, itOf_lst, itOf_fz, now_int, now_bl, now_non, now_str, now_tup, now_lst, isNon_non, isNon_int, isNon_tup, isNon_ref, isNon_lst, isNon_str, isNon_bl, if_pos rfl]
    refine ⟨⟨by unfold nI; exact okn_int, okn_nI⟩, ?_⟩
    rw [any_nI]
    by_cases z : i ∈ R
    · rw [decide_eq_true z] at *
      simp only [Bool.not_true]
      exact h2 (by simpa using z)
    · rw [decide_eq_false z] at *
      simp only [Bool.not_false]
      exact h1 (by simpa using z)
  rw [kept_filter hb]
  simp only [dSeq, dNext, dRet, dRetN, dIfS, dAsg, dAsgG, dDrop, dPar2, dPar3, dAug, dAugS, dFor, dOp, dVar, dC, dTest, dChain, dAnd, dOr, dNot, dAndV, dOrV, dNotV, dIf, dTup, dLst, dNil, dCons, dStar, dCB, dCall, dSl, dNoPart, dPart, dBM, dRev, dNeg, dIsi, dListRg, dTupRg, dRg1, dRg2, dLc, dIt, dEnum, dZip2, dZip3, dRng1, dRng2, dYes, gN, gT, gsNil, gsCons, gSb, oI, oI0, oAdd, oMulA, oSub, oFdiv, oMod, oPow, oLt, oLe, oGt, oGe, oEq, oNe, oIsN, oNotN, oIsB, oNotB, oIx, oSl, oLen, oSum, oAll, oAny, oAbs, o1I, o2I, oMin2, oMax2, oMin, oMax, oMinL, oMaxL, oInt, oBool, oList, oTuple, oSorted, oIn, oAddI, oGet, oSet, oAppend, oExtend, oPop, oPopAt, oIndexL, oIndexT, oInsert, oRemove, dTupX, dBMX, dLenSet, newL, startD, wipeD, D.tyN, List.map_cons, List.map_nil, List.cons_append, List.nil_append, List.length_cons, List.length_nil, List.getElem?_cons_zero, List.getElem?_cons_succ, List.set_cons_zero, List.set_cons_succ, List.replicate, Nat.sub_self, Nat.reduceSub, Nat.reduceAdd, Nat.zero_add, kb_ii, kb_ib, kb_it, kb_is, kb_bi, kb_bb, kb_bt, kb_bs, kb_tt, kb_ti, kb_ts, kb_ss, kb_si, kb_st, kb_nt, kb_ni, kb_ns, kb_lt, kb_li, kb_ls, ex_some, seq_tup, seq_tpx, itOf_tpx, seq_lst, seq_fz, list_lst, lsts_lst, lsts_fz, itOf_tup, itOf_lst, itOf_fz, now_int, now_bl, now_non, now_str, now_tup, now_lst, isNon_non, isNon_int, isNon_tup, isNon_ref, isNon_lst, isNon_str, isNon_bl]
  refine ⟨⟨okn_nI, akin_nI, sortable_nI, small (by rw [List.length_map]; omega)⟩, ?_⟩
  rw [sort_nI, List.append_nil]
  have hz : (K.map nI ++ (sortN R).map nI).length ≤ sizeLine := small (by rw [List.length_append, List.length_map, List.length_map, (sortN_perm R).length_eq]; omega)
  have := q K R (sortN R) hb (sortN_perm R)
  unfold eO at this
  rw [List.map_append] at this
  exact ⟨hz, small (by omega), .here (by rw [List.length_map]; exact this)⟩
def sp_late_in : DSp := fun ds S Q => ∃ (J : List Job) (o : List Nat), ds = [eJs J, eO o] ∧ GJ J ∧ Perm_ J.length o ∧ ∀ l : List Nat, l.length = (lateN J 0 o).length → Q (eO l) S
theorem pure_late_in : ∀ ds S Q, sp_late_in ds S Q → t_late_in sp_look_at_order sp_told_ends (DeN Q) (startD N_late_in ds) S := by
  rintro ds S Q ⟨J, o, rfl, g, h, q⟩
  have hf := g.few
  simp only [t_late_in, dSeq, dNext, dRet, dRetN, dIfS, dAsg, dAsgG, dDrop, dPar2, dPar3, dAug, dAugS, dFor, dOp, dVar, dC, dTest, dChain, dAnd, dOr, dNot, dAndV, dOrV, dNotV, dIf, dTup, dLst, dNil, dCons, dStar, dCB, dCall, dSl, dNoPart, dPart, dBM, dRev, dNeg, dIsi, dListRg, dTupRg, dRg1, dRg2, dLc, dIt, dEnum, dZip2, dZip3, dRng1, dRng2, dYes, gN, gT, gsNil, gsCons, gSb, oI, oI0, oAdd, oMulA, oSub, oFdiv, oMod, oPow, oLt, oLe, oGt, oGe, oEq, oNe, oIsN, oNotN, oIsB, oNotB, oIx, oSl, oLen, oSum, oAll, oAny, oAbs, o1I, o2I, oMin2, oMax2, oMin, oMax, oMinL, oMaxL, oInt, oBool, oList, oTuple, oSorted, oIn, oAddI, oGet, oSet, oAppend, oExtend, oPop, oPopAt, oIndexL, oIndexT, oInsert, oRemove, dTupX, dBMX, dLenSet, newL, startD, wipeD, D.tyN, List.map_cons, List.map_nil, List.cons_append, List.nil_append, List.length_cons, List.length_nil, List.getElem?_cons_zero, List.getElem?_cons_succ, List.set_cons_zero, List.set_cons_succ, List.replicate, Nat.sub_self, Nat.reduceSub, Nat.reduceAdd, Nat.zero_add, kb_ii, kb_ib, kb_it, kb_is, kb_bi, kb_bb, kb_bt, kb_bs, kb_tt, kb_ti, kb_ts, kb_ss, kb_si, kb_st, kb_nt, kb_ni, kb_ns, kb_lt, kb_li, kb_ls, ex_some, seq_tup, seq_tpx, itOf_tpx, seq_lst, seq_fz, list_lst, lsts_lst, lsts_fz, itOf_tup, itOf_lst, itOf_fz, now_int, now_bl, now_non, now_str, now_tup, now_lst, isNon_non, isNon_int, isNon_tup, isNon_ref, isNon_lst, isNon_str, isNon_bl]
  refine ⟨J, o, rfl, g, h, J, o, _, rfl, .inl rfl, fun i hi => h.lt hi, by rw [h.len]; omega, ?_⟩
  simp only [dSeq, dNext, dRet, dRetN, dIfS, dAsg, dAsgG, dDrop, dPar2, dPar3, dAug, dAugS, dFor, dOp, dVar, dC, dTest, dChain, dAnd, dOr, dNot, dAndV, dOrV, dNotV, dIf, dTup, dLst, dNil, dCons, dStar, dCB, dCall, dSl, dNoPart, dPart, dBM, dRev, dNeg, dIsi, dListRg, dTupRg, dRg1, dRg2, dLc, dIt, dEnum, dZip2, dZip3, dRng1, dRng2, dYes, gN, gT, gsNil, gsCons, gSb, oI, oI0, oAdd, oMulA, oSub, oFdiv, oMod, oPow, oLt, oLe, oGt, oGe, oEq, oNe, oIsN, oNotN, oIsB, oNotB, oIx, oSl, oLen, oSum, oAll, oAny, oAbs, o1I, o2I, oMin2, oMax2, oMin, oMax, oMinL, oMaxL, oInt, oBool, oList, oTuple, oSorted, oIn, oAddI, oGet, oSet, oAppend, oExtend, oPop, oPopAt, oIndexL, oIndexT, oInsert, oRemove, dTupX, dBMX, dLenSet, newL, startD, wipeD, D.tyN, List.map_cons, List.map_nil, List.cons_append, List.nil_append, List.length_cons, List.length_nil, List.getElem?_cons_zero, List.getElem?_cons_succ, List.set_cons_zero, List.set_cons_succ, List.replicate, Nat.sub_self, Nat.reduceSub, Nat.reduceAdd, Nat.zero_add, kb_ii, kb_ib, kb_it, kb_is, kb_bi, kb_bb, kb_bt, kb_bs, kb_tt, kb_ti, kb_ts, kb_ss, kb_si, kb_st, kb_nt, kb_ni, kb_ns, kb_lt, kb_li, kb_ls, ex_some, seq_tup, seq_tpx, itOf_tpx, seq_lst, seq_fz, list_lst, lsts_lst, lsts_fz, itOf_tup, itOf_lst, itOf_fz, now_int, now_bl, now_non, now_str, now_tup, now_lst, isNon_non, isNon_int, isNon_tup, isNon_ref, isNon_lst, isNon_str, isNon_bl, eO, zip_lst]
  refine lc_mapK (ok := fun _ => True ∧ True) (List.zip o (ends J 0 o)) (fun p => D.tup [nI p.1, .int p.2]) (fun p => decide (dOf J p.1 < p.2)) (fun p => nI p.1) (fun _ _ => ⟨trivial, trivial⟩) (small (by rw [List.length_zip, h.len]; omega)) (fun p hp S' e N M h1 h2 => ?_) ?_
  · have hal := h.lt (List.of_mem_zip hp).1
    simp only [dSeq, dNext, dRet, dRetN, dIfS, dAsg, dAsgG, dDrop, dPar2, dPar3, dAug, dAugS, dFor, dOp, dVar, dC, dTest, dChain, dAnd, dOr, dNot, dAndV, dOrV, dNotV, dIf, dTup, dLst, dNil, dCons, dStar, dCB, dCall, dSl, dNoPart, dPart, dBM, dRev, dNeg, dIsi, dListRg, dTupRg, dRg1, dRg2, dLc, dIt, dEnum, dZip2, dZip3, dRng1, dRng2, dYes, gN, gT, gsNil, gsCons, gSb, oI, oI0, oAdd, oMulA, oSub, oFdiv, oMod, oPow, oLt, oLe, oGt, oGe, oEq, oNe, oIsN, oNotN, oIsB, oNotB, oIx, oSl, oLen, oSum, oAll, oAny, oAbs, o1I, o2I, oMin2, oMax2, oMin, oMax, oMinL, oMaxL, oInt, oBool, oList, oTuple, oSorted, oIn, oAddI, oGet, oSet, oAppend, oExtend, oPop, oPopAt, oIndexL, oIndexT, oInsert, oRemove, dTupX, dBMX, dLenSet, newL, startD, wipeD, D.tyN, List.map_cons, List.map_nil, List.cons_append, List.nil_append, List.length_cons, List.length_nil, List.getElem?_cons_zero, List.getElem?_cons_succ, List.set_cons_zero, List.set_cons_succ, List.replicate, Nat.sub_self, Nat.reduceSub, Nat.reduceAdd, Nat.zero_add, kb_ii, kb_ib, kb_it, kb_is, kb_bi, kb_bb, kb_bt, kb_bs, kb_tt, kb_ti, kb_ts, kb_ss, kb_si, kb_st, kb_nt, kb_ni, kb_ns, kb_lt, kb_li, kb_ls, ex_some, seq_tup, seq_tpx, itOf_tpx, seq_lst, seq_fz, list_lst, lsts_lst, lsts_fz, itOf_tup, itOf_lst, itOf_fz, now_int, now_bl, now_non, now_str, now_tup, now_lst, isNon_non, isNon_int, isNon_tup, isNon_ref, isNon_lst, isNon_str, isNon_bl, nI, eJs, ix_job hal, eJ, a32]
    refine ⟨trivial, ?_⟩
    by_cases z : (gj J p.1).d < p.2
    · rw [decide_eq_true z]; exact h1 (decide_eq_true z)
    · rw [decide_eq_false z]; exact h2 (decide_eq_false z)
  have em : ((List.zip o (ends J 0 o)).filter fun p => decide (dOf J p.1 < p.2)).map (fun p => nI p.1) = (lateN J 0 o).map nI := by
    rw [← lateN_zip J o 0, List.map_map]; rfl
  have hll : (lateN J 0 o).length ≤ 60 := by have := (lateN_sub J o 0).length_le; rw [h.len] at this; omega
  simp only [dSeq, dNext, dRet, dRetN, dIfS, dAsg, dAsgG, dDrop, dPar2, dPar3, dAug, dAugS, dFor, dOp, dVar, dC, dTest, dChain, dAnd, dOr, dNot, dAndV, dOrV, dNotV, dIf, dTup, dLst, dNil, dCons, dStar, dCB, dCall, dSl, dNoPart, dPart, dBM, dRev, dNeg, dIsi, dListRg, dTupRg, dRg1, dRg2, dLc, dIt, dEnum, dZip2, dZip3, dRng1, dRng2, dYes, gN, gT, gsNil, gsCons, gSb, oI, oI0, oAdd, oMulA, oSub, oFdiv, oMod, oPow, oLt, oLe, oGt, oGe, oEq, oNe, oIsN, oNotN, oIsB, oNotB, oIx, oSl, oLen, oSum, oAll, oAny, oAbs, o1I, o2I, oMin2, oMax2, oMin, oMax, oMinL, oMaxL, oInt, oBool, oList, oTuple, oSorted, oIn, oAddI, oGet, oSet, oAppend, oExtend, oPop, oPopAt, oIndexL, oIndexT, oInsert, oRemove, dTupX, dBMX, dLenSet, newL, startD, wipeD, D.tyN, List.map_cons, List.map_nil, List.cons_append, List.nil_append, List.length_cons, List.length_nil, List.getElem?_cons_zero, List.getElem?_cons_succ, List.set_cons_zero, List.set_cons_succ, List.replicate, Nat.sub_self, Nat.reduceSub, Nat.reduceAdd, Nat.zero_add, kb_ii, kb_ib, kb_it, kb_is, kb_bi, kb_bb, kb_bt, kb_bs, kb_tt, kb_ti, kb_ts, kb_ss, kb_si, kb_st, kb_nt, kb_ni, kb_ns, kb_lt, kb_li, kb_ls, ex_some, seq_tup, seq_tpx, itOf_tpx, seq_lst, seq_fz, list_lst, lsts_lst, lsts_fz, itOf_tup, itOf_lst, itOf_fz, now_int, now_bl, now_non, now_str, now_tup, now_lst, isNon_non, isNon_int, isNon_tup, isNon_ref, isNon_lst, isNon_str, isNon_bl]
  rw [em, sort_nI]
  refine ⟨⟨okn_nI, akin_nI, sortable_nI, small (by rw [List.length_map]; omega)⟩, .here ?_⟩
  exact q (sortN (lateN J 0 o)) (sortN_perm _).length_eq
theorem best_uniq {J : List Job} {K R K2 R2 : List Nat} (h : Best J K R) (h2 : Best J K2 R2) : R.length = R2.length := by
  have a := best_len h
  have b := best_len h2
  obtain ⟨T, t1, t2, _⟩ := h.mh.opt K2 h2.mh.sub h2.mh.fs
  obtain ⟨T', t1', t2', _⟩ := h2.mh.opt K h.mh.sub h.mh.fs
  have := t1.length_le
  have := t1'.length_le
  omega
theorem best_perm {J : List Job} {K R R' : List Nat} (h : Best J K R) (hr : R'.Perm R) : Perm_ J.length (K ++ R') := ((hr.append_left K).trans h.mh.perm).trans (bd_perm J)
theorem best_few {J : List Job} {K R R' : List Nat} (g : GJ J) (h : Best J K R) (hr : R'.Perm R) : (lateN J 0 (K ++ R')).length = R.length := few_late h.mh hr (bd_nd J) (bd_pos g.pos) (bd_due J)
def sp_shows_fewest_late : DSp := fun ds S Q => ∃ (J : List Job) (K R R' : List Nat), ds = [eJs J, .tup [.str "late", .int (R.length : Nat), eO (K ++ R')]] ∧ GJ J ∧ Best J K R ∧ R'.Perm R ∧ Q (.bl true) S
theorem pure_shows_fewest_late : ∀ ds S Q, sp_shows_fewest_late ds S Q → t_shows_fewest_late sp_look_at_jobs sp_is_told sp_is_order sp_told_late sp_late_in sp_is_int (DeN Q) (startD N_shows_fewest_late ds) S := by
  rintro ds S Q ⟨J, K, R, R', rfl, g, hb, hr, q⟩
  have hf := g.few
  have hp := best_perm hb hr
  simp only [t_shows_fewest_late, dSeq, dNext, dRet, dRetN, dIfS, dAsg, dAsgG, dDrop, dPar2, dPar3, dAug, dAugS, dFor, dOp, dVar, dC, dTest, dChain, dAnd, dOr, dNot, dAndV, dOrV, dNotV, dIf, dTup, dLst, dNil, dCons, dStar, dCB, dCall, dSl, dNoPart, dPart, dBM, dRev, dNeg, dIsi, dListRg, dTupRg, dRg1, dRg2, dLc, dIt, dEnum, dZip2, dZip3, dRng1, dRng2, dYes, gN, gT, gsNil, gsCons, gSb, oI, oI0, oAdd, oMulA, oSub, oFdiv, oMod, oPow, oLt, oLe, oGt, oGe, oEq, oNe, oIsN, oNotN, oIsB, oNotB, oIx, oSl, oLen, oSum, oAll, oAny, oAbs, o1I, o2I, oMin2, oMax2, oMin, oMax, oMinL, oMaxL, oInt, oBool, oList, oTuple, oSorted, oIn, oAddI, oGet, oSet, oAppend, oExtend, oPop, oPopAt, oIndexL, oIndexT, oInsert, oRemove, dTupX, dBMX, dLenSet, newL, startD, wipeD, D.tyN, List.map_cons, List.map_nil, List.cons_append, List.nil_append, List.length_cons, List.length_nil, List.getElem?_cons_zero, List.getElem?_cons_succ, List.set_cons_zero, List.set_cons_succ, List.replicate, Nat.sub_self, Nat.reduceSub, Nat.reduceAdd, Nat.zero_add, kb_ii, kb_ib, kb_it, kb_is, kb_bi, kb_bb, kb_bt, kb_bs, kb_tt, kb_ti, kb_ts, kb_ss, kb_si, kb_st, kb_nt, kb_ni, kb_ns, kb_lt, kb_li, kb_ls, ex_some, seq_tup, seq_tpx, itOf_tpx, seq_lst, seq_fz, list_lst, lsts_lst, lsts_fz, itOf_tup, itOf_lst, itOf_fz, now_int, now_bl, now_non, now_str, now_tup, now_lst, isNon_non, isNon_int, isNon_tup, isNon_ref, isNon_lst, isNon_str, isNon_bl]
  refine ⟨J, rfl, g, small (by omega), "late", [.int (R.length : Nat), eO (K ++ R')], 3, rfl, rfl, ?_⟩
  simp only [Bool.not_true, a30, a31, a32, dSeq, dNext, dRet, dRetN, dIfS, dAsg, dAsgG, dDrop, dPar2, dPar3, dAug, dAugS, dFor, dOp, dVar, dC, dTest, dChain, dAnd, dOr, dNot, dAndV, dOrV, dNotV, dIf, dTup, dLst, dNil, dCons, dStar, dCB, dCall, dSl, dNoPart, dPart, dBM, dRev, dNeg, dIsi, dListRg, dTupRg, dRg1, dRg2, dLc, dIt, dEnum, dZip2, dZip3, dRng1, dRng2, dYes, gN, gT, gsNil, gsCons, gSb, oI, oI0, oAdd, oMulA, oSub, oFdiv, oMod, oPow, oLt, oLe, oGt, oGe, oEq, oNe, oIsN, oNotN, oIsB, oNotB, oIx, oSl, oLen, oSum, oAll, oAny, oAbs, o1I, o2I, oMin2, oMax2, oMin, oMax, oMinL, oMaxL, oInt, oBool, oList, oTuple, oSorted, oIn, oAddI, oGet, oSet, oAppend, oExtend, oPop, oPopAt, oIndexL, oIndexT, oInsert, oRemove, dTupX, dBMX, dLenSet, newL, startD, wipeD, D.tyN, List.map_cons, List.map_nil, List.cons_append, List.nil_append, List.length_cons, List.length_nil, List.getElem?_cons_zero, List.getElem?_cons_succ, List.set_cons_zero, List.set_cons_succ, List.replicate, Nat.sub_self, Nat.reduceSub, Nat.reduceAdd, Nat.zero_add, kb_ii, kb_ib, kb_it, kb_is, kb_bi, kb_bb, kb_bt, kb_bs, kb_tt, kb_ti, kb_ts, kb_ss, kb_si, kb_st, kb_nt, kb_ni, kb_ns, kb_lt, kb_li, kb_ls, ex_some, seq_tup, seq_tpx, itOf_tpx, seq_lst, seq_fz, list_lst, lsts_lst, lsts_fz, itOf_tup, itOf_lst, itOf_fz, now_int, now_bl, now_non, now_str, now_tup, now_lst, isNon_non, isNon_int, isNon_tup, isNon_ref, isNon_lst, isNon_str, isNon_bl]
  refine ⟨⟨okn_str (by decide +kernel), okn_str (by decide +kernel)⟩, ?_⟩
  rw [eqD_refl (n := 8) (okn_str (by decide +kernel))]
  simp only [Bool.not_true, dSeq, dNext, dRet, dRetN, dIfS, dAsg, dAsgG, dDrop, dPar2, dPar3, dAug, dAugS, dFor, dOp, dVar, dC, dTest, dChain, dAnd, dOr, dNot, dAndV, dOrV, dNotV, dIf, dTup, dLst, dNil, dCons, dStar, dCB, dCall, dSl, dNoPart, dPart, dBM, dRev, dNeg, dIsi, dListRg, dTupRg, dRg1, dRg2, dLc, dIt, dEnum, dZip2, dZip3, dRng1, dRng2, dYes, gN, gT, gsNil, gsCons, gSb, oI, oI0, oAdd, oMulA, oSub, oFdiv, oMod, oPow, oLt, oLe, oGt, oGe, oEq, oNe, oIsN, oNotN, oIsB, oNotB, oIx, oSl, oLen, oSum, oAll, oAny, oAbs, o1I, o2I, oMin2, oMax2, oMin, oMax, oMinL, oMaxL, oInt, oBool, oList, oTuple, oSorted, oIn, oAddI, oGet, oSet, oAppend, oExtend, oPop, oPopAt, oIndexL, oIndexT, oInsert, oRemove, dTupX, dBMX, dLenSet, newL, startD, wipeD, D.tyN, List.map_cons, List.map_nil, List.cons_append, List.nil_append, List.length_cons, List.length_nil, List.getElem?_cons_zero, List.getElem?_cons_succ, List.set_cons_zero, List.set_cons_succ, List.replicate, Nat.sub_self, Nat.reduceSub, Nat.reduceAdd, Nat.zero_add, kb_ii, kb_ib, kb_it, kb_is, kb_bi, kb_bb, kb_bt, kb_bs, kb_tt, kb_ti, kb_ts, kb_ss, kb_si, kb_st, kb_nt, kb_ni, kb_ns, kb_lt, kb_li, kb_ls, ex_some, seq_tup, seq_tpx, itOf_tpx, seq_lst, seq_fz, list_lst, lsts_lst, lsts_fz, itOf_tup, itOf_lst, itOf_fz, now_int, now_bl, now_non, now_str, now_tup, now_lst, isNon_non, isNon_int, isNon_tup, isNon_ref, isNon_lst, isNon_str, isNon_bl, eJs]
  refine ⟨K ++ R', J.length, by rw [List.length_map]; rfl, hp, by omega, ?_⟩
  simp only [Bool.not_true, dSeq, dNext, dRet, dRetN, dIfS, dAsg, dAsgG, dDrop, dPar2, dPar3, dAug, dAugS, dFor, dOp, dVar, dC, dTest, dChain, dAnd, dOr, dNot, dAndV, dOrV, dNotV, dIf, dTup, dLst, dNil, dCons, dStar, dCB, dCall, dSl, dNoPart, dPart, dBM, dRev, dNeg, dIsi, dListRg, dTupRg, dRg1, dRg2, dLc, dIt, dEnum, dZip2, dZip3, dRng1, dRng2, dYes, gN, gT, gsNil, gsCons, gSb, oI, oI0, oAdd, oMulA, oSub, oFdiv, oMod, oPow, oLt, oLe, oGt, oGe, oEq, oNe, oIsN, oNotN, oIsB, oNotB, oIx, oSl, oLen, oSum, oAll, oAny, oAbs, o1I, o2I, oMin2, oMax2, oMin, oMax, oMinL, oMaxL, oInt, oBool, oList, oTuple, oSorted, oIn, oAddI, oGet, oSet, oAppend, oExtend, oPop, oPopAt, oIndexL, oIndexT, oInsert, oRemove, dTupX, dBMX, dLenSet, newL, startD, wipeD, D.tyN, List.map_cons, List.map_nil, List.cons_append, List.nil_append, List.length_cons, List.length_nil, List.getElem?_cons_zero, List.getElem?_cons_succ, List.set_cons_zero, List.set_cons_succ, List.replicate, Nat.sub_self, Nat.reduceSub, Nat.reduceAdd, Nat.zero_add, kb_ii, kb_ib, kb_it, kb_is, kb_bi, kb_bb, kb_bt, kb_bs, kb_tt, kb_ti, kb_ts, kb_ss, kb_si, kb_st, kb_nt, kb_ni, kb_ns, kb_lt, kb_li, kb_ls, ex_some, seq_tup, seq_tpx, itOf_tpx, seq_lst, seq_fz, list_lst, lsts_lst, lsts_fz, itOf_tup, itOf_lst, itOf_fz, now_int, now_bl, now_non, now_str, now_tup, now_lst, isNon_non, isNon_int, isNon_tup, isNon_ref, isNon_lst, isNon_str, isNon_bl]
  refine ⟨J, rfl, g, fun K2 R2 hb2 => ?_⟩
  have hu := best_uniq hb hb2
  simp only [dSeq, dNext, dRet, dRetN, dIfS, dAsg, dAsgG, dDrop, dPar2, dPar3, dAug, dAugS, dFor, dOp, dVar, dC, dTest, dChain, dAnd, dOr, dNot, dAndV, dOrV, dNotV, dIf, dTup, dLst, dNil, dCons, dStar, dCB, dCall, dSl, dNoPart, dPart, dBM, dRev, dNeg, dIsi, dListRg, dTupRg, dRg1, dRg2, dLc, dIt, dEnum, dZip2, dZip3, dRng1, dRng2, dYes, gN, gT, gsNil, gsCons, gSb, oI, oI0, oAdd, oMulA, oSub, oFdiv, oMod, oPow, oLt, oLe, oGt, oGe, oEq, oNe, oIsN, oNotN, oIsB, oNotB, oIx, oSl, oLen, oSum, oAll, oAny, oAbs, o1I, o2I, oMin2, oMax2, oMin, oMax, oMinL, oMaxL, oInt, oBool, oList, oTuple, oSorted, oIn, oAddI, oGet, oSet, oAppend, oExtend, oPop, oPopAt, oIndexL, oIndexT, oInsert, oRemove, dTupX, dBMX, dLenSet, newL, startD, wipeD, D.tyN, List.map_cons, List.map_nil, List.cons_append, List.nil_append, List.length_cons, List.length_nil, List.getElem?_cons_zero, List.getElem?_cons_succ, List.set_cons_zero, List.set_cons_succ, List.replicate, Nat.sub_self, Nat.reduceSub, Nat.reduceAdd, Nat.zero_add, kb_ii, kb_ib, kb_it, kb_is, kb_bi, kb_bb, kb_bt, kb_bs, kb_tt, kb_ti, kb_ts, kb_ss, kb_si, kb_st, kb_nt, kb_ni, kb_ns, kb_lt, kb_li, kb_ls, ex_some, seq_tup, seq_tpx, itOf_tpx, seq_lst, seq_fz, list_lst, lsts_lst, lsts_fz, itOf_tup, itOf_lst, itOf_fz, now_int, now_bl, now_non, now_str, now_tup, now_lst, isNon_non, isNon_int, isNon_tup, isNon_ref, isNon_lst, isNon_str, isNon_bl, a31, a32]
  refine ⟨(R.length : Nat), (R2.length : Nat), (R2.length : Nat), by rw [List.length_map], ?_⟩
  rw [decide_eq_true (by omega), decide_eq_true (by omega)]
  simp only [Bool.and_self, dSeq, dNext, dRet, dRetN, dIfS, dAsg, dAsgG, dDrop, dPar2, dPar3, dAug, dAugS, dFor, dOp, dVar, dC, dTest, dChain, dAnd, dOr, dNot, dAndV, dOrV, dNotV, dIf, dTup, dLst, dNil, dCons, dStar, dCB, dCall, dSl, dNoPart, dPart, dBM, dRev, dNeg, dIsi, dListRg, dTupRg, dRg1, dRg2, dLc, dIt, dEnum, dZip2, dZip3, dRng1, dRng2, dYes, gN, gT, gsNil, gsCons, gSb, oI, oI0, oAdd, oMulA, oSub, oFdiv, oMod, oPow, oLt, oLe, oGt, oGe, oEq, oNe, oIsN, oNotN, oIsB, oNotB, oIx, oSl, oLen, oSum, oAll, oAny, oAbs, o1I, o2I, oMin2, oMax2, oMin, oMax, oMinL, oMaxL, oInt, oBool, oList, oTuple, oSorted, oIn, oAddI, oGet, oSet, oAppend, oExtend, oPop, oPopAt, oIndexL, oIndexT, oInsert, oRemove, dTupX, dBMX, dLenSet, newL, startD, wipeD, D.tyN, List.map_cons, List.map_nil, List.cons_append, List.nil_append, List.length_cons, List.length_nil, List.getElem?_cons_zero, List.getElem?_cons_succ, List.set_cons_zero, List.set_cons_succ, List.replicate, Nat.sub_self, Nat.reduceSub, Nat.reduceAdd, Nat.zero_add, kb_ii, kb_ib, kb_it, kb_is, kb_bi, kb_bb, kb_bt, kb_bs, kb_tt, kb_ti, kb_ts, kb_ss, kb_si, kb_st, kb_nt, kb_ni, kb_ns, kb_lt, kb_li, kb_ls, ex_some, seq_tup, seq_tpx, itOf_tpx, seq_lst, seq_fz, list_lst, lsts_lst, lsts_fz, itOf_tup, itOf_lst, itOf_fz, now_int, now_bl, now_non, now_str, now_tup, now_lst, isNon_non, isNon_int, isNon_tup, isNon_ref, isNon_lst, isNon_str, isNon_bl]
  refine ⟨J, K ++ R', rfl, g, hp, fun l hl => ?_⟩
  simp only [dSeq, dNext, dRet, dRetN, dIfS, dAsg, dAsgG, dDrop, dPar2, dPar3, dAug, dAugS, dFor, dOp, dVar, dC, dTest, dChain, dAnd, dOr, dNot, dAndV, dOrV, dNotV, dIf, dTup, dLst, dNil, dCons, dStar, dCB, dCall, dSl, dNoPart, dPart, dBM, dRev, dNeg, dIsi, dListRg, dTupRg, dRg1, dRg2, dLc, dIt, dEnum, dZip2, dZip3, dRng1, dRng2, dYes, gN, gT, gsNil, gsCons, gSb, oI, oI0, oAdd, oMulA, oSub, oFdiv, oMod, oPow, oLt, oLe, oGt, oGe, oEq, oNe, oIsN, oNotN, oIsB, oNotB, oIx, oSl, oLen, oSum, oAll, oAny, oAbs, o1I, o2I, oMin2, oMax2, oMin, oMax, oMinL, oMaxL, oInt, oBool, oList, oTuple, oSorted, oIn, oAddI, oGet, oSet, oAppend, oExtend, oPop, oPopAt, oIndexL, oIndexT, oInsert, oRemove, dTupX, dBMX, dLenSet, newL, startD, wipeD, D.tyN, List.map_cons, List.map_nil, List.cons_append, List.nil_append, List.length_cons, List.length_nil, List.getElem?_cons_zero, List.getElem?_cons_succ, List.set_cons_zero, List.set_cons_succ, List.replicate, Nat.sub_self, Nat.reduceSub, Nat.reduceAdd, Nat.zero_add, kb_ii, kb_ib, kb_it, kb_is, kb_bi, kb_bb, kb_bt, kb_bs, kb_tt, kb_ti, kb_ts, kb_ss, kb_si, kb_st, kb_nt, kb_ni, kb_ns, kb_lt, kb_li, kb_ls, ex_some, seq_tup, seq_tpx, itOf_tpx, seq_lst, seq_fz, list_lst, lsts_lst, lsts_fz, itOf_tup, itOf_lst, itOf_fz, now_int, now_bl, now_non, now_str, now_tup, now_lst, isNon_non, isNon_int, isNon_tup, isNon_ref, isNon_lst, isNon_str, isNon_bl, eO]
  refine ⟨⟨okn_int, okn_int⟩, ?_⟩
  rw [eqD_int, List.length_map, List.length_map, hl, best_few g hb hr, decide_eq_true (by omega)]
  exact .here q
end L45
namespace L45
open PySem PySem.Spec PySem.W PyProof.Rows L2 PL
/-! ### Smith's rule -/
def wt (J : List Job) (i : Nat) : Int := (gj J i).w
def wsum (J : List Job) (o : List Nat) : Int := (o.map fun i => wt J i).sum
theorem wsum_cons (J : List Job) (a : Nat) (o : List Nat) : wsum J (a :: o) = wt J a + wsum J o := by unfold wsum; rw [List.map_cons, List.sum_cons]
def totR (J : List Job) : Int → List Nat → Int
  | _, [] => 0
  | h, a :: o => wt J a * (h + pr J a) + totR J (h + pr J a) o
def tot (J : List Job) (o : List Nat) : Int := totR J 0 o
theorem tot_zip (J : List Job) : ∀ (o : List Nat) (h : Int), ((List.zip o (ends J h o)).map fun p => wt J p.1 * p.2).sum = totR J h o
  | [], _ => rfl
  | a :: o, h => by
    have e : ends J h (a :: o) = (h + pr J a) :: ends J (h + pr J a) o := rfl
    rw [e, List.zip_cons_cons, List.map_cons, List.sum_cons, tot_zip J o, totR]
def cost (J : List Job) : List Nat → Int
  | [] => 0
  | a :: o => pr J a * wt J a + pr J a * wsum J o + cost J o
theorem totR_cost (J : List Job) : ∀ (o : List Nat) (h : Int), totR J h o = h * wsum J o + cost J o
  | [], h => by simp [totR, cost, wsum]
  | a :: o, h => by
    rw [totR, cost, wsum_cons, totR_cost J o, Int.mul_add, Int.mul_add, Int.add_mul, Int.mul_comm (wt J a) h, Int.mul_comm (wt J a) (pr J a)]
    omega
theorem tot_cost (J : List Job) (o : List Nat) : tot J o = cost J o := by unfold tot; rw [totR_cost, Int.zero_mul, Int.zero_add]
def mm (J : List Job) (i j : Nat) : Int := min (pr J i * wt J j) (pr J j * wt J i)
theorem mm_comm (J : List Job) (i j : Nat) : mm J i j = mm J j i := Int.min_comm _ _
def msum (J : List Job) (a : Nat) (o : List Nat) : Int := (o.map fun j => mm J a j).sum
theorem msum_cons (J : List Job) (a b : Nat) (o : List Nat) : msum J a (b :: o) = mm J a b + msum J a o := by unfold msum; rw [List.map_cons, List.sum_cons]
theorem msum_perm {J : List Job} {a : Nat} {o o' : List Nat} (h : o.Perm o') : msum J a o = msum J a o' := by
  induction h with
  | nil => rfl
  | cons x _ ih => rw [msum_cons, msum_cons, ih]
  | swap x y l => rw [msum_cons, msum_cons, msum_cons, msum_cons]; omega
  | trans _ _ ih1 ih2 => rw [ih1, ih2]
def LB (J : List Job) : List Nat → Int
  | [] => 0
  | a :: o => pr J a * wt J a + msum J a o + LB J o
theorem LB_perm {J : List Job} {o o' : List Nat} (h : o.Perm o') : LB J o = LB J o' := by
  induction h with
  | nil => rfl
  | cons x h ih => rw [LB, LB, ih, msum_perm h]
  | swap x y l => rw [LB, LB, LB, LB, msum_cons, msum_cons, mm_comm J x y]; omega
  | trans _ _ ih1 ih2 => rw [ih1, ih2]
theorem LB_le (J : List Job) : ∀ o, LB J o ≤ cost J o
  | [] => Int.le_refl _
  | a :: o => by
    have ih := LB_le J o
    have : ∀ l : List Nat, msum J a l ≤ pr J a * wsum J l := by
      intro l
      induction l with
      | nil => simp [msum, wsum]
      | cons b l ih =>
        rw [msum_cons, wsum_cons, Int.mul_add]
        have : mm J a b ≤ pr J a * wt J b := Int.min_le_left _ _
        omega
    have := this o
    rw [LB, cost]
    omega
/-- by ratio -/
def Smith (J : List Job) (o : List Nat) : Prop := o.Pairwise fun i j => pr J i * wt J j ≤ pr J j * wt J i
theorem smith_eq (J : List Job) : ∀ o, Smith J o → cost J o = LB J o
  | [], _ => rfl
  | a :: o, h => by
    obtain ⟨h1, h2⟩ := List.pairwise_cons.mp h
    have ih := smith_eq J o h2
    have : ∀ l : List Nat, (∀ j ∈ l, pr J a * wt J j ≤ pr J j * wt J a) → msum J a l = pr J a * wsum J l := by
      intro l
      induction l with
      | nil => intro _; simp [msum, wsum]
      | cons b l ih =>
        intro hl
        rw [msum_cons, wsum_cons, Int.mul_add, ih fun j hj => hl j (List.mem_cons_of_mem _ hj)]
        have : mm J a b = pr J a * wt J b := Int.min_eq_left (hl b List.mem_cons_self)
        omega
    rw [LB, cost, ih, this o h1]
theorem smith_le {J : List Job} {o o' : List Nat} (h : Smith J o) (hp : o.Perm o') : tot J o ≤ tot J o' := by
  rw [tot_cost, tot_cost, smith_eq J o h, LB_perm hp]
  exact LB_le J o'
theorem smith_same {J : List Job} {n : Nat} {o o' : List Nat} (h : Smith J o) (h' : Smith J o') (hp : Perm_ n o) (hp' : Perm_ n o') : tot J o = tot J o' := by
  have p : o.Perm o' := List.Perm.trans hp (List.Perm.symm hp')
  have := smith_le h p
  have := smith_le h' p.symm
  omega
theorem smith_trans {J : List Job} {a f g : Nat} (hf : 0 < pr J f) (ha : 0 ≤ pr J a) (hg : 0 ≤ pr J g) (h1 : pr J a * wt J f ≤ pr J f * wt J a) (h2 : pr J f * wt J g ≤ pr J g * wt J f) : pr J a * wt J g ≤ pr J g * wt J a := by
  have x1 := Int.mul_le_mul_of_nonneg_left h2 ha
  have x2 := Int.mul_le_mul_of_nonneg_left h1 hg
  have e1 : pr J a * (pr J f * wt J g) = pr J f * (pr J a * wt J g) := Int.mul_left_comm _ _ _
  have e2 : pr J a * (pr J g * wt J f) = pr J g * (pr J a * wt J f) := Int.mul_left_comm _ _ _
  have e3 : pr J g * (pr J f * wt J a) = pr J f * (pr J g * wt J a) := Int.mul_left_comm _ _ _
  have : pr J f * (pr J a * wt J g) ≤ pr J f * (pr J g * wt J a) := by omega
  exact Int.le_of_mul_le_mul_left this hf
theorem ends_bd {J : List Job} (g : ∀ j ∈ J, 0 ≤ j.p ∧ j.p ≤ 10000) : ∀ (o : List Nat) (h : Int), 0 ≤ h → (∀ i ∈ o, i < J.length) → ∀ e ∈ ends J h o, 0 ≤ e ∧ e ≤ h + 10000 * (o.length : Int)
  | [], _, _, _, e, he => by simp [ends] at he
  | a :: o, h, h0, hl, e, he => by
    have ga := g _ (gj_mem (hl a List.mem_cons_self))
    rw [ends] at he
    rcases List.mem_cons.mp he with rfl | he
    · rw [List.length_cons]; omega
    · have := ends_bd g o (h + (gj J a).p) (by omega) (fun i hi => hl i (List.mem_cons_of_mem _ hi)) e he
      rw [List.length_cons]; omega
theorem GJ.p01 {J : List Job} (g : GJ J) : ∀ j ∈ J, 0 ≤ j.p ∧ j.p ≤ 10000 := fun j hj => by have := g.p1 j hj; omega
def sp_told_total : DSp := fun ds S Q => ∃ (J : List Job) (o : List Nat) (os : D), ds = [eJs J, os] ∧ (os = eO o ∨ os = .lst (o.map nI)) ∧ GJ J ∧ Perm_ J.length o ∧ Q (.int (tot J o)) S
theorem pure_told_total : ∀ ds S Q, sp_told_total ds S Q → t_told_total sp_told_ends (DeN Q) (startD N_told_total ds) S := by
  rintro ds S Q ⟨J, o, os, rfl, hos, g, h, q⟩
  have hf := g.few
  have key : S.itOf os = some ⟨o.map nI, fun _ => True⟩ := by rcases hos with rfl | rfl <;> rfl
  simp only [t_told_total, dSeq, dNext, dRet, dRetN, dIfS, dAsg, dAsgG, dDrop, dPar2, dPar3, dAug, dAugS, dFor, dOp, dVar, dC, dTest, dChain, dAnd, dOr, dNot, dAndV, dOrV, dNotV, dIf, dTup, dLst, dNil, dCons, dStar, dCB, dCall, dSl, dNoPart, dPart, dBM, dRev, dNeg, dIsi, dListRg, dTupRg, dRg1, dRg2, dLc, dIt, dEnum, dZip2, dZip3, dRng1, dRng2, dYes, gN, gT, gsNil, gsCons, gSb, oI, oI0, oAdd, oMulA, oSub, oFdiv, oMod, oPow, oLt, oLe, oGt, oGe, oEq, oNe, oIsN, oNotN, oIsB, oNotB, oIx, oSl, oLen, oSum, oAll, oAny, oAbs, o1I, o2I, oMin2, oMax2, oMin, oMax, oMinL, oMaxL, oInt, oBool, oList, oTuple, oSorted, oIn, oAddI, oGet, oSet, oAppend, oExtend, oPop, oPopAt, oIndexL, oIndexT, oInsert, oRemove, dTupX, dBMX, dLenSet, newL, startD, wipeD, D.tyN, List.map_cons, List.map_nil, List.cons_append, List.nil_append, List.length_cons, List.length_nil, List.getElem?_cons_zero, List.getElem?_cons_succ, List.set_cons_zero, List.set_cons_succ, List.replicate, Nat.sub_self, Nat.reduceSub, Nat.reduceAdd, Nat.zero_add, kb_ii, kb_ib, kb_it, kb_is, kb_bi, kb_bb, kb_bt, kb_bs, kb_tt, kb_ti, kb_ts, kb_ss, kb_si, kb_st, kb_nt, kb_ni, kb_ns, kb_lt, kb_li, kb_ls, ex_some, seq_tup, seq_tpx, itOf_tpx, seq_lst, seq_fz, list_lst, lsts_lst, lsts_fz, itOf_tup, itOf_lst, itOf_fz, now_int, now_bl, now_non, now_str, now_tup, now_lst, isNon_non, isNon_int, isNon_tup, isNon_ref, isNon_lst, isNon_str, isNon_bl]
  refine ⟨J, o, os, rfl, by rcases hos with rfl | rfl <;> simp, fun i hi => h.lt hi, by rw [h.len]; omega, ?_⟩
  simp only [dSeq, dNext, dRet, dRetN, dIfS, dAsg, dAsgG, dDrop, dPar2, dPar3, dAug, dAugS, dFor, dOp, dVar, dC, dTest, dChain, dAnd, dOr, dNot, dAndV, dOrV, dNotV, dIf, dTup, dLst, dNil, dCons, dStar, dCB, dCall, dSl, dNoPart, dPart, dBM, dRev, dNeg, dIsi, dListRg, dTupRg, dRg1, dRg2, dLc, dIt, dEnum, dZip2, dZip3, dRng1, dRng2, dYes, gN, gT, gsNil, gsCons, gSb, oI, oI0, oAdd, oMulA, oSub, oFdiv, oMod, oPow, oLt, oLe, oGt, oGe, oEq, oNe, oIsN, oNotN, oIsB, oNotB, oIx, oSl, oLen, oSum, oAll, oAny, oAbs, o1I, o2I, oMin2, oMax2, oMin, oMax, oMinL, oMaxL, oInt, oBool, oList, oTuple, oSorted, oIn, oAddI, oGet, oSet, oAppend, oExtend, oPop, oPopAt, oIndexL, oIndexT, oInsert, oRemove, dTupX, dBMX, dLenSet, newL, startD, wipeD, D.tyN, List.map_cons, List.map_nil, List.cons_append, List.nil_append, List.length_cons, List.length_nil, List.getElem?_cons_zero, List.getElem?_cons_succ, List.set_cons_zero, List.set_cons_succ, List.replicate, Nat.sub_self, Nat.reduceSub, Nat.reduceAdd, Nat.zero_add, kb_ii, kb_ib, kb_it, kb_is, kb_bi, kb_bb, kb_bt, kb_bs, kb_tt, kb_ti, kb_ts, kb_ss, kb_si, kb_st, kb_nt, kb_ni, kb_ns, kb_lt, kb_li, kb_ls, ex_some, seq_tup, seq_tpx, itOf_tpx, seq_lst, seq_fz, list_lst, lsts_lst, lsts_fz, itOf_tup, itOf_lst, itOf_fz, now_int, now_bl, now_non, now_str, now_tup, now_lst, isNon_non, isNon_int, isNon_tup, isNon_ref, isNon_lst, isNon_str, isNon_bl, key, zip_lst]
  refine lc_mapE (ok := fun _ => True ∧ True) (List.zip o (ends J 0 o)) (fun p => D.tup [nI p.1, .int p.2]) (fun p => .int (wt J p.1 * p.2)) (fun _ _ => ⟨trivial, trivial⟩) (small (by rw [List.length_zip, h.len]; omega)) (fun p hp S' e N M hh => ?_) ?_
  · have hal := h.lt (List.of_mem_zip hp).1
    have hw := g.w0 _ (gj_mem hal)
    have he := ends_bd g.p01 o 0 (by decide) (fun i hi => h.lt hi) p.2 (List.of_mem_zip hp).2
    rw [h.len] at he
    simp only [dSeq, dNext, dRet, dRetN, dIfS, dAsg, dAsgG, dDrop, dPar2, dPar3, dAug, dAugS, dFor, dOp, dVar, dC, dTest, dChain, dAnd, dOr, dNot, dAndV, dOrV, dNotV, dIf, dTup, dLst, dNil, dCons, dStar, dCB, dCall, dSl, dNoPart, dPart, dBM, dRev, dNeg, dIsi, dListRg, dTupRg, dRg1, dRg2, dLc, dIt, dEnum, dZip2, dZip3, dRng1, dRng2, dYes, gN, gT, gsNil, gsCons, gSb, oI, oI0, oAdd, oMulA, oSub, oFdiv, oMod, oPow, oLt, oLe, oGt, oGe, oEq, oNe, oIsN, oNotN, oIsB, oNotB, oIx, oSl, oLen, oSum, oAll, oAny, oAbs, o1I, o2I, oMin2, oMax2, oMin, oMax, oMinL, oMaxL, oInt, oBool, oList, oTuple, oSorted, oIn, oAddI, oGet, oSet, oAppend, oExtend, oPop, oPopAt, oIndexL, oIndexT, oInsert, oRemove, dTupX, dBMX, dLenSet, newL, startD, wipeD, D.tyN, List.map_cons, List.map_nil, List.cons_append, List.nil_append, List.length_cons, List.length_nil, List.getElem?_cons_zero, List.getElem?_cons_succ, List.set_cons_zero, List.set_cons_succ, List.replicate, Nat.sub_self, Nat.reduceSub, Nat.reduceAdd, Nat.zero_add, kb_ii, kb_ib, kb_it, kb_is, kb_bi, kb_bb, kb_bt, kb_bs, kb_tt, kb_ti, kb_ts, kb_ss, kb_si, kb_st, kb_nt, kb_ni, kb_ns, kb_lt, kb_li, kb_ls, ex_some, seq_tup, seq_tpx, itOf_tpx, seq_lst, seq_fz, list_lst, lsts_lst, lsts_fz, itOf_tup, itOf_lst, itOf_fz, now_int, now_bl, now_non, now_str, now_tup, now_lst, isNon_non, isNon_int, isNon_tup, isNon_ref, isNon_lst, isNon_str, isNon_bl, nI, eJs, ix_job hal, eJ, a31]
    exact ⟨trivial, cmul_small (n := 10000) (m := 600000) (by omega) (by omega) (by decide +kernel) (by decide +kernel), hh⟩
  simp only [dSeq, dNext, dRet, dRetN, dIfS, dAsg, dAsgG, dDrop, dPar2, dPar3, dAug, dAugS, dFor, dOp, dVar, dC, dTest, dChain, dAnd, dOr, dNot, dAndV, dOrV, dNotV, dIf, dTup, dLst, dNil, dCons, dStar, dCB, dCall, dSl, dNoPart, dPart, dBM, dRev, dNeg, dIsi, dListRg, dTupRg, dRg1, dRg2, dLc, dIt, dEnum, dZip2, dZip3, dRng1, dRng2, dYes, gN, gT, gsNil, gsCons, gSb, oI, oI0, oAdd, oMulA, oSub, oFdiv, oMod, oPow, oLt, oLe, oGt, oGe, oEq, oNe, oIsN, oNotN, oIsB, oNotB, oIx, oSl, oLen, oSum, oAll, oAny, oAbs, o1I, o2I, oMin2, oMax2, oMin, oMax, oMinL, oMaxL, oInt, oBool, oList, oTuple, oSorted, oIn, oAddI, oGet, oSet, oAppend, oExtend, oPop, oPopAt, oIndexL, oIndexT, oInsert, oRemove, dTupX, dBMX, dLenSet, newL, startD, wipeD, D.tyN, List.map_cons, List.map_nil, List.cons_append, List.nil_append, List.length_cons, List.length_nil, List.getElem?_cons_zero, List.getElem?_cons_succ, List.set_cons_zero, List.set_cons_succ, List.replicate, Nat.sub_self, Nat.reduceSub, Nat.reduceAdd, Nat.zero_add, kb_ii, kb_ib, kb_it, kb_is, kb_bi, kb_bb, kb_bt, kb_bs, kb_tt, kb_ti, kb_ts, kb_ss, kb_si, kb_st, kb_nt, kb_ni, kb_ns, kb_lt, kb_li, kb_ls, ex_some, seq_tup, seq_tpx, itOf_tpx, seq_lst, seq_fz, list_lst, lsts_lst, lsts_fz, itOf_tup, itOf_lst, itOf_fz, now_int, now_bl, now_non, now_str, now_tup, now_lst, isNon_non, isNon_int, isNon_tup, isNon_ref, isNon_lst, isNon_str, isNon_bl]
  refine ⟨(List.zip o (ends J 0 o)).map fun p => wt J p.1 * p.2, by rw [List.map_map]; rfl, .here ?_⟩
  rw [tot_zip]
  exact q
def sp_total_wait : DSp := fun ds S Q => ∃ (J : List Job) (o : List Nat), ds = [eJs J, eO o] ∧ GJ J ∧ Perm_ J.length o ∧ Q (.int (tot J o)) S
theorem pure_total_wait : ∀ ds S Q, sp_total_wait ds S Q → t_total_wait sp_look_at_order sp_told_total (DeN Q) (startD N_total_wait ds) S := by
  rintro ds S Q ⟨J, o, rfl, g, h, q⟩
  simp only [t_total_wait, dSeq, dNext, dRet, dRetN, dIfS, dAsg, dAsgG, dDrop, dPar2, dPar3, dAug, dAugS, dFor, dOp, dVar, dC, dTest, dChain, dAnd, dOr, dNot, dAndV, dOrV, dNotV, dIf, dTup, dLst, dNil, dCons, dStar, dCB, dCall, dSl, dNoPart, dPart, dBM, dRev, dNeg, dIsi, dListRg, dTupRg, dRg1, dRg2, dLc, dIt, dEnum, dZip2, dZip3, dRng1, dRng2, dYes, gN, gT, gsNil, gsCons, gSb, oI, oI0, oAdd, oMulA, oSub, oFdiv, oMod, oPow, oLt, oLe, oGt, oGe, oEq, oNe, oIsN, oNotN, oIsB, oNotB, oIx, oSl, oLen, oSum, oAll, oAny, oAbs, o1I, o2I, oMin2, oMax2, oMin, oMax, oMinL, oMaxL, oInt, oBool, oList, oTuple, oSorted, oIn, oAddI, oGet, oSet, oAppend, oExtend, oPop, oPopAt, oIndexL, oIndexT, oInsert, oRemove, dTupX, dBMX, dLenSet, newL, startD, wipeD, D.tyN, List.map_cons, List.map_nil, List.cons_append, List.nil_append, List.length_cons, List.length_nil, List.getElem?_cons_zero, List.getElem?_cons_succ, List.set_cons_zero, List.set_cons_succ, List.replicate, Nat.sub_self, Nat.reduceSub, Nat.reduceAdd, Nat.zero_add, kb_ii, kb_ib, kb_it, kb_is, kb_bi, kb_bb, kb_bt, kb_bs, kb_tt, kb_ti, kb_ts, kb_ss, kb_si, kb_st, kb_nt, kb_ni, kb_ns, kb_lt, kb_li, kb_ls, ex_some, seq_tup, seq_tpx, itOf_tpx, seq_lst, seq_fz, list_lst, lsts_lst, lsts_fz, itOf_tup, itOf_lst, itOf_fz, now_int, now_bl, now_non, now_str, now_tup, now_lst, isNon_non, isNon_int, isNon_tup, isNon_ref, isNon_lst, isNon_str, isNon_bl]
  exact ⟨J, o, rfl, g, h, J, o, _, rfl, .inl rfl, g, h, .here q⟩
/-! ### lightest -/
theorem smith_insert {J : List Job} {F : List Nat} {a s : Nat} (hp : ∀ i ∈ F ++ [a], 0 < pr J i) (h : Smith J F) (hs : s ≤ F.length) (hb : ∀ k, k < s → ∀ f, F[k]? = some f → pr J f * wt J a ≤ pr J a * wt J f) (he : ∀ f, F[s]? = some f → pr J a * wt J f ≤ pr J f * wt J a) :
    Smith J (F.take s ++ [a] ++ F.drop s) := by
  have hsplit : Smith J (F.take s ++ F.drop s) := by rw [List.take_append_drop]; exact h
  obtain ⟨p1, p2, p3⟩ := List.pairwise_append.mp hsplit
  have hba : ∀ f ∈ F.take s, pr J f * wt J a ≤ pr J a * wt J f := fun f hf => by
    obtain ⟨k, hk, e⟩ := List.getElem_of_mem hf
    rw [List.length_take] at hk
    refine hb k (by omega) f ?_
    rw [List.getElem_take] at e
    rw [← e]
    exact List.getElem?_eq_getElem (by omega)
  have haf : ∀ f ∈ F.drop s, pr J a * wt J f ≤ pr J f * wt J a := fun f hf => by
    cases hd : F.drop s with
    | nil => rw [hd] at hf; cases hf
    | cons f0 re =>
      have hs2 : F[s]? = some f0 := by rw [← List.head?_drop, hd]; rfl
      have h0 := he f0 hs2
      rw [hd] at hf p2
      rcases List.mem_cons.mp hf with rfl | hf'
      · exact h0
      · have h2 := (List.pairwise_cons.mp p2).1 f hf'
        have m0 : f0 ∈ F := List.mem_of_getElem? hs2
        have m1 : f ∈ F := by
          have : f ∈ F.drop s := by rw [hd]; exact List.mem_cons_of_mem _ hf'
          exact List.mem_of_mem_drop this
        exact smith_trans (hp f0 (List.mem_append_left _ m0)) (Int.le_of_lt (hp a (by simp))) (Int.le_of_lt (hp f (List.mem_append_left _ m1))) h0 h2
  rw [List.append_assoc]
  refine List.pairwise_append.mpr ⟨p1, List.pairwise_cons.mpr ⟨haf, p2⟩, fun x hx y hy => ?_⟩
  rcases List.mem_cons.mp hy with rfl | hy
  · exact hba x hx
  · exact p3 x hx y hy
def sp_told_lightest : DSp := fun ds S Q => ∃ J : List Job, ds = [eJs J] ∧ GJ J ∧ ∀ o, Perm_ J.length o → Smith J o → Q (.lst (o.map nI)) S
theorem pure_told_lightest : ∀ ds S Q, sp_told_lightest ds S Q → t_told_lightest (DeN Q) (startD N_told_lightest ds) S := by
  rintro ds S0 Q ⟨J, rfl, g, q⟩
  have hf := g.few
  unfold t_told_lightest
  refine seqG fun v hv => ?_
  simp only [dSeq, dNext, dRet, dRetN, dIfS, dAsg, dAsgG, dDrop, dPar2, dPar3, dAug, dAugS, dFor, dOp, dVar, dC, dTest, dChain, dAnd, dOr, dNot, dAndV, dOrV, dNotV, dIf, dTup, dLst, dNil, dCons, dStar, dCB, dCall, dSl, dNoPart, dPart, dBM, dRev, dNeg, dIsi, dListRg, dTupRg, dRg1, dRg2, dLc, dIt, dEnum, dZip2, dZip3, dRng1, dRng2, dYes, gN, gT, gsNil, gsCons, gSb, oI, oI0, oAdd, oMulA, oSub, oFdiv, oMod, oPow, oLt, oLe, oGt, oGe, oEq, oNe, oIsN, oNotN, oIsB, oNotB, oIx, oSl, oLen, oSum, oAll, oAny, oAbs, o1I, o2I, oMin2, oMax2, oMin, oMax, oMinL, oMaxL, oInt, oBool, oList, oTuple, oSorted, oIn, oAddI, oGet, oSet, oAppend, oExtend, oPop, oPopAt, oIndexL, oIndexT, oInsert, oRemove, dTupX, dBMX, dLenSet, newL, startD, wipeD, D.tyN, List.map_cons, List.map_nil, List.cons_append, List.nil_append, List.length_cons, List.length_nil, List.getElem?_cons_zero, List.getElem?_cons_succ, List.set_cons_zero, List.set_cons_succ, List.replicate, Nat.sub_self, Nat.reduceSub, Nat.reduceAdd, Nat.zero_add, kb_ii, kb_ib, kb_it, kb_is, kb_bi, kb_bb, kb_bt, kb_bs, kb_tt, kb_ti, kb_ts, kb_ss, kb_si, kb_st, kb_nt, kb_ni, kb_ns, kb_lt, kb_li, kb_ls, ex_some, seq_tup, seq_tpx, itOf_tpx, seq_lst, seq_fz, list_lst, lsts_lst, lsts_fz, itOf_tup, itOf_lst, itOf_fz, now_int, now_bl, now_non, now_str, now_tup, now_lst, isNon_non, isNon_int, isNon_tup, isNon_ref, isNon_lst, isNon_str, isNon_bl]
  refine ⟨Nat.zero_le _, fun p hp => ?_⟩
  subst hv
  refine seqG fun v2 hv2 => ?_
  refine forG fun τ hτ => ?_
  simp only [dSeq, dNext, dRet, dRetN, dIfS, dAsg, dAsgG, dDrop, dPar2, dPar3, dAug, dAugS, dFor, dOp, dVar, dC, dTest, dChain, dAnd, dOr, dNot, dAndV, dOrV, dNotV, dIf, dTup, dLst, dNil, dCons, dStar, dCB, dCall, dSl, dNoPart, dPart, dBM, dRev, dNeg, dIsi, dListRg, dTupRg, dRg1, dRg2, dLc, dIt, dEnum, dZip2, dZip3, dRng1, dRng2, dYes, gN, gT, gsNil, gsCons, gSb, oI, oI0, oAdd, oMulA, oSub, oFdiv, oMod, oPow, oLt, oLe, oGt, oGe, oEq, oNe, oIsN, oNotN, oIsB, oNotB, oIx, oSl, oLen, oSum, oAll, oAny, oAbs, o1I, o2I, oMin2, oMax2, oMin, oMax, oMinL, oMaxL, oInt, oBool, oList, oTuple, oSorted, oIn, oAddI, oGet, oSet, oAppend, oExtend, oPop, oPopAt, oIndexL, oIndexT, oInsert, oRemove, dTupX, dBMX, dLenSet, newL, startD, wipeD, D.tyN, List.map_cons, List.map_nil, List.cons_append, List.nil_append, List.length_cons, List.length_nil, List.getElem?_cons_zero, List.getElem?_cons_succ, List.set_cons_zero, List.set_cons_succ, List.replicate, Nat.sub_self, Nat.reduceSub, Nat.reduceAdd, Nat.zero_add, kb_ii, kb_ib, kb_it, kb_is, kb_bi, kb_bb, kb_bt, kb_bs, kb_tt, kb_ti, kb_ts, kb_ss, kb_si, kb_st, kb_nt, kb_ni, kb_ns, kb_lt, kb_li, kb_ls, ex_some, seq_tup, seq_tpx, itOf_tpx, seq_lst, seq_fz, list_lst, lsts_lst, lsts_fz, itOf_tup, itOf_lst, itOf_fz, now_int, now_bl, now_non, now_str, now_tup, now_lst, isNon_non, isNon_int, isNon_tup, isNon_ref, isNon_lst, isNon_str, isNon_bl, eJs, enum_map]
  refine ⟨trivial, ?_⟩
  refine loopD_invE (α := Job × Nat) (fun q => D.tup [.int (q.2 : Nat), eJ q.1]) (fun xs ρ S => ∃ o2 o3 o4 o5 o6 k F, ρ = [some (D.tup (J.map eJ)), some (.ref p), o2, o3, o4, o5, o6] ∧ xs = (J.zipIdx 0).drop k ∧ k ≤ J.length ∧ Ext S0 S ∧ S p = some (.lst (F.map nI)) ∧ Perm_ k F ∧ Smith J F) ?_ ?_ _ _ _
    ⟨none, none, none, none, none, 0, [], rfl, rfl, Nat.zero_le _, Ext.up hp, Sto.up_same, List.Perm.refl _, List.Pairwise.nil⟩ trivial
  · rintro ⟨j, a⟩ xs ρ S ⟨o2, o3, o4, o5, o6, k, F, rfl, hx, hk, hE, hS, hP, hSm⟩ _ N hN
    obtain ⟨hk2, e1, e2⟩ := drop_at hx
    rw [List.getElem_zipIdx] at e1
    simp only [Nat.zero_add, Prod.mk.injEq] at e1
    obtain ⟨ej, rfl⟩ := e1
    have haJ : a < J.length := by simpa using hk2
    have eg : gj J a = j := by unfold gj; rw [List.getD_eq_getElem?_getD, List.getElem?_eq_getElem haJ, ej]; rfl
    have hFl := hP.len
    have pos : ∀ i ∈ F ++ [a], 0 < pr J i := fun i hi => by
      have : i < J.length := by
        rcases List.mem_append.mp hi with z | z
        · have := hP.lt z; omega
        · rw [List.mem_singleton.mp z]; exact haJ
      have := g.p1 _ (gj_mem this)
      unfold pr; omega
    subst hτ
    simp only [gN, gT, gsCons, gsNil, eJ, List.set_cons_zero, List.set_cons_succ, List.length_cons, List.length_nil]
    refine ⟨trivial, trivial, ?_⟩
    refine seqG fun v3 hv3 => ?_
    simp only [dSeq, dNext, dRet, dRetN, dIfS, dAsg, dAsgG, dDrop, dPar2, dPar3, dAug, dAugS, dFor, dOp, dVar, dC, dTest, dChain, dAnd, dOr, dNot, dAndV, dOrV, dNotV, dIf, dTup, dLst, dNil, dCons, dStar, dCB, dCall, dSl, dNoPart, dPart, dBM, dRev, dNeg, dIsi, dListRg, dTupRg, dRg1, dRg2, dLc, dIt, dEnum, dZip2, dZip3, dRng1, dRng2, dYes, gN, gT, gsNil, gsCons, gSb, oI, oI0, oAdd, oMulA, oSub, oFdiv, oMod, oPow, oLt, oLe, oGt, oGe, oEq, oNe, oIsN, oNotN, oIsB, oNotB, oIx, oSl, oLen, oSum, oAll, oAny, oAbs, o1I, o2I, oMin2, oMax2, oMin, oMax, oMinL, oMaxL, oInt, oBool, oList, oTuple, oSorted, oIn, oAddI, oGet, oSet, oAppend, oExtend, oPop, oPopAt, oIndexL, oIndexT, oInsert, oRemove, dTupX, dBMX, dLenSet, newL, startD, wipeD, D.tyN, List.map_cons, List.map_nil, List.cons_append, List.nil_append, List.length_cons, List.length_nil, List.getElem?_cons_zero, List.getElem?_cons_succ, List.set_cons_zero, List.set_cons_succ, List.replicate, Nat.sub_self, Nat.reduceSub, Nat.reduceAdd, Nat.zero_add, kb_ii, kb_ib, kb_it, kb_is, kb_bi, kb_bb, kb_bt, kb_bs, kb_tt, kb_ti, kb_ts, kb_ss, kb_si, kb_st, kb_nt, kb_ni, kb_ns, kb_lt, kb_li, kb_ls, ex_some, seq_tup, seq_tpx, itOf_tpx, seq_lst, seq_fz, list_lst, lsts_lst, lsts_fz, itOf_tup, itOf_lst, itOf_fz, now_int, now_bl, now_non, now_str, now_tup, now_lst, isNon_non, isNon_int, isNon_tup, isNon_ref, isNon_lst, isNon_str, isNon_bl]
    subst hv3
    refine seqG fun v4 hv4 => ?_
    refine ⟨fun m ρ S' => ∃ s : Nat, ρ = [some (D.tup (J.map eJ)), some (.ref p), some (.int (a : Nat)), some (.int j.p), some (.int j.w), some (.int j.d), some (.int (s : Nat))] ∧ S = S' ∧ s ≤ F.length ∧ m = F.length - s ∧ ∀ k, k < s → ∀ f, F[k]? = some f → pr J f * wt J a ≤ pr J a * wt J f, ⟨_, 0, rfl, rfl, Nat.zero_le _, rfl, fun k hk => absurd hk (by omega)⟩, ?_⟩
    rintro m ρ S' ⟨s, rfl, rfl, hs, rfl, hbef⟩
    have fin : (∀ f, F[s]? = some f → pr J a * wt J f ≤ pr J f * wt J a) → v4 { nx := N, rt := FzQ Q, bk := fun ρ' S' => v2 (DeN Q) ρ' S', ct := N } [some (D.tup (J.map eJ)), some (.ref p), some (.int (a : Nat)), some (.int j.p), some (.int j.w), some (.int j.d), some (.int (s : Nat))] S := by
      intro haf
      subst hv4
      simp only [dSeq, dNext, dRet, dRetN, dIfS, dAsg, dAsgG, dDrop, dPar2, dPar3, dAug, dAugS, dFor, dOp, dVar, dC, dTest, dChain, dAnd, dOr, dNot, dAndV, dOrV, dNotV, dIf, dTup, dLst, dNil, dCons, dStar, dCB, dCall, dSl, dNoPart, dPart, dBM, dRev, dNeg, dIsi, dListRg, dTupRg, dRg1, dRg2, dLc, dIt, dEnum, dZip2, dZip3, dRng1, dRng2, dYes, gN, gT, gsNil, gsCons, gSb, oI, oI0, oAdd, oMulA, oSub, oFdiv, oMod, oPow, oLt, oLe, oGt, oGe, oEq, oNe, oIsN, oNotN, oIsB, oNotB, oIx, oSl, oLen, oSum, oAll, oAny, oAbs, o1I, o2I, oMin2, oMax2, oMin, oMax, oMinL, oMaxL, oInt, oBool, oList, oTuple, oSorted, oIn, oAddI, oGet, oSet, oAppend, oExtend, oPop, oPopAt, oIndexL, oIndexT, oInsert, oRemove, dTupX, dBMX, dLenSet, newL, startD, wipeD, D.tyN, List.map_cons, List.map_nil, List.cons_append, List.nil_append, List.length_cons, List.length_nil, List.getElem?_cons_zero, List.getElem?_cons_succ, List.set_cons_zero, List.set_cons_succ, List.replicate, Nat.sub_self, Nat.reduceSub, Nat.reduceAdd, Nat.zero_add, kb_ii, kb_ib, kb_it, kb_is, kb_bi, kb_bb, kb_bt, kb_bs, kb_tt, kb_ti, kb_ts, kb_ss, kb_si, kb_st, kb_nt, kb_ni, kb_ns, kb_lt, kb_li, kb_ls, ex_some, seq_tup, seq_tpx, itOf_tpx, seq_lst, seq_fz, list_lst, lsts_lst, lsts_fz, itOf_tup, itOf_lst, itOf_fz, now_int, now_bl, now_non, now_str, now_tup, now_lst, isNon_non, isNon_int, isNon_tup, isNon_ref, isNon_lst, isNon_str, isNon_bl, list_ref hS, trk_ref hS]
      refine ⟨⟨_, rfl⟩, ⟨by rw [List.length_map, sizeLine_eq]; omega, by omega, by omega⟩, ?_⟩
      refine hN _ _ trivial ⟨_, _, _, _, _, a + 1, F.take s ++ [a] ++ F.drop s, rfl, e2, by omega, hE.set hp, ?_, ?_, smith_insert pos hSm hs hbef haf⟩
      · rw [Sto.up_same, Int.toNat_natCast, List.map_append, List.map_append, List.map_take, List.map_drop]; rfl
      · have h1 : (F.take s ++ [a] ++ F.drop s).Perm (a :: F) := by
          rw [List.append_assoc]
          refine List.perm_middle.trans ?_
          show (a :: (F.take s ++ F.drop s)).Perm (a :: F)
          rw [List.take_append_drop]
        refine h1.trans ?_
        show (a :: F).Perm (List.range (a + 1))
        rw [List.range_succ]
        exact (List.Perm.cons a hP).trans (List.perm_append_comm (l₁ := [a]) (l₂ := List.range a))
    simp only [dSeq, dNext, dRet, dRetN, dIfS, dAsg, dAsgG, dDrop, dPar2, dPar3, dAug, dAugS, dFor, dOp, dVar, dC, dTest, dChain, dAnd, dOr, dNot, dAndV, dOrV, dNotV, dIf, dTup, dLst, dNil, dCons, dStar, dCB, dCall, dSl, dNoPart, dPart, dBM, dRev, dNeg, dIsi, dListRg, dTupRg, dRg1, dRg2, dLc, dIt, dEnum, dZip2, dZip3, dRng1, dRng2, dYes, gN, gT, gsNil, gsCons, gSb, oI, oI0, oAdd, oMulA, oSub, oFdiv, oMod, oPow, oLt, oLe, oGt, oGe, oEq, oNe, oIsN, oNotN, oIsB, oNotB, oIx, oSl, oLen, oSum, oAll, oAny, oAbs, o1I, o2I, oMin2, oMax2, oMin, oMax, oMinL, oMaxL, oInt, oBool, oList, oTuple, oSorted, oIn, oAddI, oGet, oSet, oAppend, oExtend, oPop, oPopAt, oIndexL, oIndexT, oInsert, oRemove, dTupX, dBMX, dLenSet, newL, startD, wipeD, D.tyN, List.map_cons, List.map_nil, List.cons_append, List.nil_append, List.length_cons, List.length_nil, List.getElem?_cons_zero, List.getElem?_cons_succ, List.set_cons_zero, List.set_cons_succ, List.replicate, Nat.sub_self, Nat.reduceSub, Nat.reduceAdd, Nat.zero_add, kb_ii, kb_ib, kb_it, kb_is, kb_bi, kb_bb, kb_bt, kb_bs, kb_tt, kb_ti, kb_ts, kb_ss, kb_si, kb_st, kb_nt, kb_ni, kb_ns, kb_lt, kb_li, kb_ls, ex_some, seq_tup, seq_tpx, itOf_tpx, seq_lst, seq_fz, list_lst, lsts_lst, lsts_fz, itOf_tup, itOf_lst, itOf_fz, now_int, now_bl, now_non, now_str, now_tup, now_lst, isNon_non, isNon_int, isNon_tup, isNon_ref, isNon_lst, isNon_str, isNon_bl, seq_ref hS, List.length_map]
    by_cases hlt : s < F.length
    · rw [decide_eq_true (show (s : Int) < ((F.length : Nat) : Int) by omega)]
      have hfs : F[s]? = some F[s] := List.getElem?_eq_getElem hlt
      have hfJ : F[s] < J.length := by have := hP.lt (List.getElem_mem hlt); omega
      have ixs : atI (F.map nI) (s : Int) = some (nI F[s]) := by
        rw [atI_map, atI_nn (0 : Nat) (by omega) (by omega), Int.toNat_natCast, List.getD_eq_getElem?_getD, hfs]; rfl
      have gp := g.p1 _ (gj_mem hfJ)
      have gw := g.w0 _ (gj_mem hfJ)
      have gp2 := g.p1 _ (gj_mem haJ)
      have gw2 := g.w0 _ (gj_mem haJ)
      rw [eg] at gp2 gw2
      simp only [dSeq, dNext, dRet, dRetN, dIfS, dAsg, dAsgG, dDrop, dPar2, dPar3, dAug, dAugS, dFor, dOp, dVar, dC, dTest, dChain, dAnd, dOr, dNot, dAndV, dOrV, dNotV, dIf, dTup, dLst, dNil, dCons, dStar, dCB, dCall, dSl, dNoPart, dPart, dBM, dRev, dNeg, dIsi, dListRg, dTupRg, dRg1, dRg2, dLc, dIt, dEnum, dZip2, dZip3, dRng1, dRng2, dYes, gN, gT, gsNil, gsCons, gSb, oI, oI0, oAdd, oMulA, oSub, oFdiv, oMod, oPow, oLt, oLe, oGt, oGe, oEq, oNe, oIsN, oNotN, oIsB, oNotB, oIx, oSl, oLen, oSum, oAll, oAny, oAbs, o1I, o2I, oMin2, oMax2, oMin, oMax, oMinL, oMaxL, oInt, oBool, oList, oTuple, oSorted, oIn, oAddI, oGet, oSet, oAppend, oExtend, oPop, oPopAt, oIndexL, oIndexT, oInsert, oRemove, dTupX, dBMX, dLenSet, newL, startD, wipeD, D.tyN, List.map_cons, List.map_nil, List.cons_append, List.nil_append, List.length_cons, List.length_nil, List.getElem?_cons_zero, List.getElem?_cons_succ, List.set_cons_zero, List.set_cons_succ, List.replicate, Nat.sub_self, Nat.reduceSub, Nat.reduceAdd, Nat.zero_add, kb_ii, kb_ib, kb_it, kb_is, kb_bi, kb_bb, kb_bt, kb_bs, kb_tt, kb_ti, kb_ts, kb_ss, kb_si, kb_st, kb_nt, kb_ni, kb_ns, kb_lt, kb_li, kb_ls, ex_some, seq_tup, seq_tpx, itOf_tpx, seq_lst, seq_fz, list_lst, lsts_lst, lsts_fz, itOf_tup, itOf_lst, itOf_fz, now_int, now_bl, now_non, now_str, now_tup, now_lst, isNon_non, isNon_int, isNon_tup, isNon_ref, isNon_lst, isNon_str, isNon_bl, ixs, nI, ix_job hfJ, eJ, a30, a31]
      refine ⟨cmul_small (n := 10000) (m := 10000) (by omega) (by omega) (by decide +kernel) (by decide +kernel), cmul_small (n := 10000) (m := 10000) (by omega) (by omega) (by decide +kernel) (by decide +kernel), ?_⟩
      have c1 : j.w * (gj J F[s]).p = pr J F[s] * wt J a := by unfold pr wt; rw [eg, Int.mul_comm]
      have c2 : (gj J F[s]).w * j.p = pr J a * wt J F[s] := by unfold pr wt; rw [eg, Int.mul_comm]
      rw [c1, c2]
      by_cases hle : pr J F[s] * wt J a ≤ pr J a * wt J F[s]
      · simp only [decide_eq_true hle]
        refine ⟨F.length - (s + 1), by omega, s + 1, by first | rfl | trivial, by first | rfl | trivial, by omega, rfl, fun k hk f hkf => ?_⟩
        by_cases q : k = s
        · subst q
          rw [hfs] at hkf
          cases hkf
          exact hle
        · exact hbef k (by omega) f hkf
      · simp only [decide_eq_false hle]
        exact fin fun f hf2 => by rw [hfs] at hf2; cases hf2; omega
    · rw [decide_eq_false (show ¬ (s : Int) < ((F.length : Nat) : Int) by omega)]
      exact fin fun f hf2 => by rw [List.getElem?_eq_none (by omega)] at hf2; cases hf2
  · rintro ρ S ⟨o2, o3, o4, o5, o6, k, F, rfl, hx, hk, hE, hS, hP, hSm⟩
    have hk2 := drop_nil hx
    rw [List.length_zipIdx] at hk2
    have : k = J.length := by omega
    subst this
    show v2 _ _ _
    subst hv2
    simp only [dSeq, dNext, dRet, dRetN, dIfS, dAsg, dAsgG, dDrop, dPar2, dPar3, dAug, dAugS, dFor, dOp, dVar, dC, dTest, dChain, dAnd, dOr, dNot, dAndV, dOrV, dNotV, dIf, dTup, dLst, dNil, dCons, dStar, dCB, dCall, dSl, dNoPart, dPart, dBM, dRev, dNeg, dIsi, dListRg, dTupRg, dRg1, dRg2, dLc, dIt, dEnum, dZip2, dZip3, dRng1, dRng2, dYes, gN, gT, gsNil, gsCons, gSb, oI, oI0, oAdd, oMulA, oSub, oFdiv, oMod, oPow, oLt, oLe, oGt, oGe, oEq, oNe, oIsN, oNotN, oIsB, oNotB, oIx, oSl, oLen, oSum, oAll, oAny, oAbs, o1I, o2I, oMin2, oMax2, oMin, oMax, oMinL, oMaxL, oInt, oBool, oList, oTuple, oSorted, oIn, oAddI, oGet, oSet, oAppend, oExtend, oPop, oPopAt, oIndexL, oIndexT, oInsert, oRemove, dTupX, dBMX, dLenSet, newL, startD, wipeD, D.tyN, List.map_cons, List.map_nil, List.cons_append, List.nil_append, List.length_cons, List.length_nil, List.getElem?_cons_zero, List.getElem?_cons_succ, List.set_cons_zero, List.set_cons_succ, List.replicate, Nat.sub_self, Nat.reduceSub, Nat.reduceAdd, Nat.zero_add, kb_ii, kb_ib, kb_it, kb_is, kb_bi, kb_bb, kb_bt, kb_bs, kb_tt, kb_ti, kb_ts, kb_ss, kb_si, kb_st, kb_nt, kb_ni, kb_ns, kb_lt, kb_li, kb_ls, ex_some, seq_tup, seq_tpx, itOf_tpx, seq_lst, seq_fz, list_lst, lsts_lst, lsts_fz, itOf_tup, itOf_lst, itOf_fz, now_int, now_bl, now_non, now_str, now_tup, now_lst, isNon_non, isNon_int, isNon_tup, isNon_ref, isNon_lst, isNon_str, isNon_bl]
    exact FzQ.extL hE hS hp (q F hP hSm)
def sp_least_wait : DSp := fun ds S Q => ∃ J : List Job, ds = [eJs J] ∧ GJ J ∧ ∀ o, Perm_ J.length o → Smith J o → Q (.tup [.str "order", .int (tot J o), eO o]) S
theorem pure_least_wait : ∀ ds S Q, sp_least_wait ds S Q → t_least_wait sp_look_at_jobs sp_told_lightest sp_told_total (DeN Q) (startD N_least_wait ds) S := by
  rintro ds S Q ⟨J, rfl, g, q⟩
  simp only [t_least_wait, dSeq, dNext, dRet, dRetN, dIfS, dAsg, dAsgG, dDrop, dPar2, dPar3, dAug, dAugS, dFor, dOp, dVar, dC, dTest, dChain, dAnd, dOr, dNot, dAndV, dOrV, dNotV, dIf, dTup, dLst, dNil, dCons, dStar, dCB, dCall, dSl, dNoPart, dPart, dBM, dRev, dNeg, dIsi, dListRg, dTupRg, dRg1, dRg2, dLc, dIt, dEnum, dZip2, dZip3, dRng1, dRng2, dYes, gN, gT, gsNil, gsCons, gSb, oI, oI0, oAdd, oMulA, oSub, oFdiv, oMod, oPow, oLt, oLe, oGt, oGe, oEq, oNe, oIsN, oNotN, oIsB, oNotB, oIx, oSl, oLen, oSum, oAll, oAny, oAbs, o1I, o2I, oMin2, oMax2, oMin, oMax, oMinL, oMaxL, oInt, oBool, oList, oTuple, oSorted, oIn, oAddI, oGet, oSet, oAppend, oExtend, oPop, oPopAt, oIndexL, oIndexT, oInsert, oRemove, dTupX, dBMX, dLenSet, newL, startD, wipeD, D.tyN, List.map_cons, List.map_nil, List.cons_append, List.nil_append, List.length_cons, List.length_nil, List.getElem?_cons_zero, List.getElem?_cons_succ, List.set_cons_zero, List.set_cons_succ, List.replicate, Nat.sub_self, Nat.reduceSub, Nat.reduceAdd, Nat.zero_add, kb_ii, kb_ib, kb_it, kb_is, kb_bi, kb_bb, kb_bt, kb_bs, kb_tt, kb_ti, kb_ts, kb_ss, kb_si, kb_st, kb_nt, kb_ni, kb_ns, kb_lt, kb_li, kb_ls, ex_some, seq_tup, seq_tpx, itOf_tpx, seq_lst, seq_fz, list_lst, lsts_lst, lsts_fz, itOf_tup, itOf_lst, itOf_fz, now_int, now_bl, now_non, now_str, now_tup, now_lst, isNon_non, isNon_int, isNon_tup, isNon_ref, isNon_lst, isNon_str, isNon_bl]
  refine ⟨J, rfl, g, J, rfl, g, fun o ho hs => ?_⟩
  simp only [dSeq, dNext, dRet, dRetN, dIfS, dAsg, dAsgG, dDrop, dPar2, dPar3, dAug, dAugS, dFor, dOp, dVar, dC, dTest, dChain, dAnd, dOr, dNot, dAndV, dOrV, dNotV, dIf, dTup, dLst, dNil, dCons, dStar, dCB, dCall, dSl, dNoPart, dPart, dBM, dRev, dNeg, dIsi, dListRg, dTupRg, dRg1, dRg2, dLc, dIt, dEnum, dZip2, dZip3, dRng1, dRng2, dYes, gN, gT, gsNil, gsCons, gSb, oI, oI0, oAdd, oMulA, oSub, oFdiv, oMod, oPow, oLt, oLe, oGt, oGe, oEq, oNe, oIsN, oNotN, oIsB, oNotB, oIx, oSl, oLen, oSum, oAll, oAny, oAbs, o1I, o2I, oMin2, oMax2, oMin, oMax, oMinL, oMaxL, oInt, oBool, oList, oTuple, oSorted, oIn, oAddI, oGet, oSet, oAppend, oExtend, oPop, oPopAt, oIndexL, oIndexT, oInsert, oRemove, dTupX, dBMX, dLenSet, newL, startD, wipeD, D.tyN, List.map_cons, List.map_nil, List.cons_append, List.nil_append, List.length_cons, List.length_nil, List.getElem?_cons_zero, List.getElem?_cons_succ, List.set_cons_zero, List.set_cons_succ, List.replicate, Nat.sub_self, Nat.reduceSub, Nat.reduceAdd, Nat.zero_add, kb_ii, kb_ib, kb_it, kb_is, kb_bi, kb_bb, kb_bt, kb_bs, kb_tt, kb_ti, kb_ts, kb_ss, kb_si, kb_st, kb_nt, kb_ni, kb_ns, kb_lt, kb_li, kb_ls, ex_some, seq_tup, seq_tpx, itOf_tpx, seq_lst, seq_fz, list_lst, lsts_lst, lsts_fz, itOf_tup, itOf_lst, itOf_fz, now_int, now_bl, now_non, now_str, now_tup, now_lst, isNon_non, isNon_int, isNon_tup, isNon_ref, isNon_lst, isNon_str, isNon_bl]
  refine ⟨J, o, _, rfl, .inr rfl, g, ho, ?_⟩
  simp only [dSeq, dNext, dRet, dRetN, dIfS, dAsg, dAsgG, dDrop, dPar2, dPar3, dAug, dAugS, dFor, dOp, dVar, dC, dTest, dChain, dAnd, dOr, dNot, dAndV, dOrV, dNotV, dIf, dTup, dLst, dNil, dCons, dStar, dCB, dCall, dSl, dNoPart, dPart, dBM, dRev, dNeg, dIsi, dListRg, dTupRg, dRg1, dRg2, dLc, dIt, dEnum, dZip2, dZip3, dRng1, dRng2, dYes, gN, gT, gsNil, gsCons, gSb, oI, oI0, oAdd, oMulA, oSub, oFdiv, oMod, oPow, oLt, oLe, oGt, oGe, oEq, oNe, oIsN, oNotN, oIsB, oNotB, oIx, oSl, oLen, oSum, oAll, oAny, oAbs, o1I, o2I, oMin2, oMax2, oMin, oMax, oMinL, oMaxL, oInt, oBool, oList, oTuple, oSorted, oIn, oAddI, oGet, oSet, oAppend, oExtend, oPop, oPopAt, oIndexL, oIndexT, oInsert, oRemove, dTupX, dBMX, dLenSet, newL, startD, wipeD, D.tyN, List.map_cons, List.map_nil, List.cons_append, List.nil_append, List.length_cons, List.length_nil, List.getElem?_cons_zero, List.getElem?_cons_succ, List.set_cons_zero, List.set_cons_succ, List.replicate, Nat.sub_self, Nat.reduceSub, Nat.reduceAdd, Nat.zero_add, kb_ii, kb_ib, kb_it, kb_is, kb_bi, kb_bb, kb_bt, kb_bs, kb_tt, kb_ti, kb_ts, kb_ss, kb_si, kb_st, kb_nt, kb_ni, kb_ns, kb_lt, kb_li, kb_ls, ex_some, seq_tup, seq_tpx, itOf_tpx, seq_lst, seq_fz, list_lst, lsts_lst, lsts_fz, itOf_tup, itOf_lst, itOf_fz, now_int, now_bl, now_non, now_str, now_tup, now_lst, isNon_non, isNon_int, isNon_tup, isNon_ref, isNon_lst, isNon_str, isNon_bl]
  exact ⟨small (by omega), .here (q o ho hs)⟩
def sp_shows_least_wait : DSp := fun ds S Q => ∃ (J : List Job) (o : List Nat), ds = [eJs J, .tup [.str "order", .int (tot J o), eO o]] ∧ GJ J ∧ Perm_ J.length o ∧ Smith J o ∧ Q (.bl true) S
theorem pure_shows_least_wait : ∀ ds S Q, sp_shows_least_wait ds S Q → t_shows_least_wait sp_look_at_jobs sp_is_told sp_is_order sp_told_total sp_told_lightest sp_is_int (DeN Q) (startD N_shows_least_wait ds) S := by
  rintro ds S Q ⟨J, o, rfl, g, ho, hs, q⟩
  have hf := g.few
  simp only [t_shows_least_wait, dSeq, dNext, dRet, dRetN, dIfS, dAsg, dAsgG, dDrop, dPar2, dPar3, dAug, dAugS, dFor, dOp, dVar, dC, dTest, dChain, dAnd, dOr, dNot, dAndV, dOrV, dNotV, dIf, dTup, dLst, dNil, dCons, dStar, dCB, dCall, dSl, dNoPart, dPart, dBM, dRev, dNeg, dIsi, dListRg, dTupRg, dRg1, dRg2, dLc, dIt, dEnum, dZip2, dZip3, dRng1, dRng2, dYes, gN, gT, gsNil, gsCons, gSb, oI, oI0, oAdd, oMulA, oSub, oFdiv, oMod, oPow, oLt, oLe, oGt, oGe, oEq, oNe, oIsN, oNotN, oIsB, oNotB, oIx, oSl, oLen, oSum, oAll, oAny, oAbs, o1I, o2I, oMin2, oMax2, oMin, oMax, oMinL, oMaxL, oInt, oBool, oList, oTuple, oSorted, oIn, oAddI, oGet, oSet, oAppend, oExtend, oPop, oPopAt, oIndexL, oIndexT, oInsert, oRemove, dTupX, dBMX, dLenSet, newL, startD, wipeD, D.tyN, List.map_cons, List.map_nil, List.cons_append, List.nil_append, List.length_cons, List.length_nil, List.getElem?_cons_zero, List.getElem?_cons_succ, List.set_cons_zero, List.set_cons_succ, List.replicate, Nat.sub_self, Nat.reduceSub, Nat.reduceAdd, Nat.zero_add, kb_ii, kb_ib, kb_it, kb_is, kb_bi, kb_bb, kb_bt, kb_bs, kb_tt, kb_ti, kb_ts, kb_ss, kb_si, kb_st, kb_nt, kb_ni, kb_ns, kb_lt, kb_li, kb_ls, ex_some, seq_tup, seq_tpx, itOf_tpx, seq_lst, seq_fz, list_lst, lsts_lst, lsts_fz, itOf_tup, itOf_lst, itOf_fz, now_int, now_bl, now_non, now_str, now_tup, now_lst, isNon_non, isNon_int, isNon_tup, isNon_ref, isNon_lst, isNon_str, isNon_bl]
  refine ⟨J, rfl, g, small (by omega), "order", [.int (tot J o), eO o], 3, rfl, rfl, ?_⟩
  simp only [Bool.not_true, a30, a31, a32, dSeq, dNext, dRet, dRetN, dIfS, dAsg, dAsgG, dDrop, dPar2, dPar3, dAug, dAugS, dFor, dOp, dVar, dC, dTest, dChain, dAnd, dOr, dNot, dAndV, dOrV, dNotV, dIf, dTup, dLst, dNil, dCons, dStar, dCB, dCall, dSl, dNoPart, dPart, dBM, dRev, dNeg, dIsi, dListRg, dTupRg, dRg1, dRg2, dLc, dIt, dEnum, dZip2, dZip3, dRng1, dRng2, dYes, gN, gT, gsNil, gsCons, gSb, oI, oI0, oAdd, oMulA, oSub, oFdiv, oMod, oPow, oLt, oLe, oGt, oGe, oEq, oNe, oIsN, oNotN, oIsB, oNotB, oIx, oSl, oLen, oSum, oAll, oAny, oAbs, o1I, o2I, oMin2, oMax2, oMin, oMax, oMinL, oMaxL, oInt, oBool, oList, oTuple, oSorted, oIn, oAddI, oGet, oSet, oAppend, oExtend, oPop, oPopAt, oIndexL, oIndexT, oInsert, oRemove, dTupX, dBMX, dLenSet, newL, startD, wipeD, D.tyN, List.map_cons, List.map_nil, List.cons_append, List.nil_append, List.length_cons, List.length_nil, List.getElem?_cons_zero, List.getElem?_cons_succ, List.set_cons_zero, List.set_cons_succ, List.replicate, Nat.sub_self, Nat.reduceSub, Nat.reduceAdd, Nat.zero_add, kb_ii, kb_ib, kb_it, kb_is, kb_bi, kb_bb, kb_bt, kb_bs, kb_tt, kb_ti, kb_ts, kb_ss, kb_si, kb_st, kb_nt, kb_ni, kb_ns, kb_lt, kb_li, kb_ls, ex_some, seq_tup, seq_tpx, itOf_tpx, seq_lst, seq_fz, list_lst, lsts_lst, lsts_fz, itOf_tup, itOf_lst, itOf_fz, now_int, now_bl, now_non, now_str, now_tup, now_lst, isNon_non, isNon_int, isNon_tup, isNon_ref, isNon_lst, isNon_str, isNon_bl]
  refine ⟨⟨okn_str (by decide +kernel), okn_str (by decide +kernel)⟩, ?_⟩
  rw [eqD_refl (n := 8) (okn_str (by decide +kernel))]
  simp only [Bool.not_true, dSeq, dNext, dRet, dRetN, dIfS, dAsg, dAsgG, dDrop, dPar2, dPar3, dAug, dAugS, dFor, dOp, dVar, dC, dTest, dChain, dAnd, dOr, dNot, dAndV, dOrV, dNotV, dIf, dTup, dLst, dNil, dCons, dStar, dCB, dCall, dSl, dNoPart, dPart, dBM, dRev, dNeg, dIsi, dListRg, dTupRg, dRg1, dRg2, dLc, dIt, dEnum, dZip2, dZip3, dRng1, dRng2, dYes, gN, gT, gsNil, gsCons, gSb, oI, oI0, oAdd, oMulA, oSub, oFdiv, oMod, oPow, oLt, oLe, oGt, oGe, oEq, oNe, oIsN, oNotN, oIsB, oNotB, oIx, oSl, oLen, oSum, oAll, oAny, oAbs, o1I, o2I, oMin2, oMax2, oMin, oMax, oMinL, oMaxL, oInt, oBool, oList, oTuple, oSorted, oIn, oAddI, oGet, oSet, oAppend, oExtend, oPop, oPopAt, oIndexL, oIndexT, oInsert, oRemove, dTupX, dBMX, dLenSet, newL, startD, wipeD, D.tyN, List.map_cons, List.map_nil, List.cons_append, List.nil_append, List.length_cons, List.length_nil, List.getElem?_cons_zero, List.getElem?_cons_succ, List.set_cons_zero, List.set_cons_succ, List.replicate, Nat.sub_self, Nat.reduceSub, Nat.reduceAdd, Nat.zero_add, kb_ii, kb_ib, kb_it, kb_is, kb_bi, kb_bb, kb_bt, kb_bs, kb_tt, kb_ti, kb_ts, kb_ss, kb_si, kb_st, kb_nt, kb_ni, kb_ns, kb_lt, kb_li, kb_ls, ex_some, seq_tup, seq_tpx, itOf_tpx, seq_lst, seq_fz, list_lst, lsts_lst, lsts_fz, itOf_tup, itOf_lst, itOf_fz, now_int, now_bl, now_non, now_str, now_tup, now_lst, isNon_non, isNon_int, isNon_tup, isNon_ref, isNon_lst, isNon_str, isNon_bl, eJs]
  refine ⟨o, J.length, by rw [List.length_map]; rfl, ho, by omega, ?_⟩
  simp only [Bool.not_true, dSeq, dNext, dRet, dRetN, dIfS, dAsg, dAsgG, dDrop, dPar2, dPar3, dAug, dAugS, dFor, dOp, dVar, dC, dTest, dChain, dAnd, dOr, dNot, dAndV, dOrV, dNotV, dIf, dTup, dLst, dNil, dCons, dStar, dCB, dCall, dSl, dNoPart, dPart, dBM, dRev, dNeg, dIsi, dListRg, dTupRg, dRg1, dRg2, dLc, dIt, dEnum, dZip2, dZip3, dRng1, dRng2, dYes, gN, gT, gsNil, gsCons, gSb, oI, oI0, oAdd, oMulA, oSub, oFdiv, oMod, oPow, oLt, oLe, oGt, oGe, oEq, oNe, oIsN, oNotN, oIsB, oNotB, oIx, oSl, oLen, oSum, oAll, oAny, oAbs, o1I, o2I, oMin2, oMax2, oMin, oMax, oMinL, oMaxL, oInt, oBool, oList, oTuple, oSorted, oIn, oAddI, oGet, oSet, oAppend, oExtend, oPop, oPopAt, oIndexL, oIndexT, oInsert, oRemove, dTupX, dBMX, dLenSet, newL, startD, wipeD, D.tyN, List.map_cons, List.map_nil, List.cons_append, List.nil_append, List.length_cons, List.length_nil, List.getElem?_cons_zero, List.getElem?_cons_succ, List.set_cons_zero, List.set_cons_succ, List.replicate, Nat.sub_self, Nat.reduceSub, Nat.reduceAdd, Nat.zero_add, kb_ii, kb_ib, kb_it, kb_is, kb_bi, kb_bb, kb_bt, kb_bs, kb_tt, kb_ti, kb_ts, kb_ss, kb_si, kb_st, kb_nt, kb_ni, kb_ns, kb_lt, kb_li, kb_ls, ex_some, seq_tup, seq_tpx, itOf_tpx, seq_lst, seq_fz, list_lst, lsts_lst, lsts_fz, itOf_tup, itOf_lst, itOf_fz, now_int, now_bl, now_non, now_str, now_tup, now_lst, isNon_non, isNon_int, isNon_tup, isNon_ref, isNon_lst, isNon_str, isNon_bl]
  refine ⟨J, rfl, g, fun o2 ho2 hs2 => ?_⟩
  simp only [dSeq, dNext, dRet, dRetN, dIfS, dAsg, dAsgG, dDrop, dPar2, dPar3, dAug, dAugS, dFor, dOp, dVar, dC, dTest, dChain, dAnd, dOr, dNot, dAndV, dOrV, dNotV, dIf, dTup, dLst, dNil, dCons, dStar, dCB, dCall, dSl, dNoPart, dPart, dBM, dRev, dNeg, dIsi, dListRg, dTupRg, dRg1, dRg2, dLc, dIt, dEnum, dZip2, dZip3, dRng1, dRng2, dYes, gN, gT, gsNil, gsCons, gSb, oI, oI0, oAdd, oMulA, oSub, oFdiv, oMod, oPow, oLt, oLe, oGt, oGe, oEq, oNe, oIsN, oNotN, oIsB, oNotB, oIx, oSl, oLen, oSum, oAll, oAny, oAbs, o1I, o2I, oMin2, oMax2, oMin, oMax, oMinL, oMaxL, oInt, oBool, oList, oTuple, oSorted, oIn, oAddI, oGet, oSet, oAppend, oExtend, oPop, oPopAt, oIndexL, oIndexT, oInsert, oRemove, dTupX, dBMX, dLenSet, newL, startD, wipeD, D.tyN, List.map_cons, List.map_nil, List.cons_append, List.nil_append, List.length_cons, List.length_nil, List.getElem?_cons_zero, List.getElem?_cons_succ, List.set_cons_zero, List.set_cons_succ, List.replicate, Nat.sub_self, Nat.reduceSub, Nat.reduceAdd, Nat.zero_add, kb_ii, kb_ib, kb_it, kb_is, kb_bi, kb_bb, kb_bt, kb_bs, kb_tt, kb_ti, kb_ts, kb_ss, kb_si, kb_st, kb_nt, kb_ni, kb_ns, kb_lt, kb_li, kb_ls, ex_some, seq_tup, seq_tpx, itOf_tpx, seq_lst, seq_fz, list_lst, lsts_lst, lsts_fz, itOf_tup, itOf_lst, itOf_fz, now_int, now_bl, now_non, now_str, now_tup, now_lst, isNon_non, isNon_int, isNon_tup, isNon_ref, isNon_lst, isNon_str, isNon_bl]
  refine ⟨J, o2, _, rfl, .inr rfl, g, ho2, ?_⟩
  have hsame := smith_same hs hs2 ho ho2
  simp only [dSeq, dNext, dRet, dRetN, dIfS, dAsg, dAsgG, dDrop, dPar2, dPar3, dAug, dAugS, dFor, dOp, dVar, dC, dTest, dChain, dAnd, dOr, dNot, dAndV, dOrV, dNotV, dIf, dTup, dLst, dNil, dCons, dStar, dCB, dCall, dSl, dNoPart, dPart, dBM, dRev, dNeg, dIsi, dListRg, dTupRg, dRg1, dRg2, dLc, dIt, dEnum, dZip2, dZip3, dRng1, dRng2, dYes, gN, gT, gsNil, gsCons, gSb, oI, oI0, oAdd, oMulA, oSub, oFdiv, oMod, oPow, oLt, oLe, oGt, oGe, oEq, oNe, oIsN, oNotN, oIsB, oNotB, oIx, oSl, oLen, oSum, oAll, oAny, oAbs, o1I, o2I, oMin2, oMax2, oMin, oMax, oMinL, oMaxL, oInt, oBool, oList, oTuple, oSorted, oIn, oAddI, oGet, oSet, oAppend, oExtend, oPop, oPopAt, oIndexL, oIndexT, oInsert, oRemove, dTupX, dBMX, dLenSet, newL, startD, wipeD, D.tyN, List.map_cons, List.map_nil, List.cons_append, List.nil_append, List.length_cons, List.length_nil, List.getElem?_cons_zero, List.getElem?_cons_succ, List.set_cons_zero, List.set_cons_succ, List.replicate, Nat.sub_self, Nat.reduceSub, Nat.reduceAdd, Nat.zero_add, kb_ii, kb_ib, kb_it, kb_is, kb_bi, kb_bb, kb_bt, kb_bs, kb_tt, kb_ti, kb_ts, kb_ss, kb_si, kb_st, kb_nt, kb_ni, kb_ns, kb_lt, kb_li, kb_ls, ex_some, seq_tup, seq_tpx, itOf_tpx, seq_lst, seq_fz, list_lst, lsts_lst, lsts_fz, itOf_tup, itOf_lst, itOf_fz, now_int, now_bl, now_non, now_str, now_tup, now_lst, isNon_non, isNon_int, isNon_tup, isNon_ref, isNon_lst, isNon_str, isNon_bl, a31, a32]
  refine ⟨tot J o, tot J o2, tot J o2, rfl, ?_⟩
  rw [decide_eq_true (by omega), decide_eq_true (by omega)]
  simp only [Bool.and_self, dSeq, dNext, dRet, dRetN, dIfS, dAsg, dAsgG, dDrop, dPar2, dPar3, dAug, dAugS, dFor, dOp, dVar, dC, dTest, dChain, dAnd, dOr, dNot, dAndV, dOrV, dNotV, dIf, dTup, dLst, dNil, dCons, dStar, dCB, dCall, dSl, dNoPart, dPart, dBM, dRev, dNeg, dIsi, dListRg, dTupRg, dRg1, dRg2, dLc, dIt, dEnum, dZip2, dZip3, dRng1, dRng2, dYes, gN, gT, gsNil, gsCons, gSb, oI, oI0, oAdd, oMulA, oSub, oFdiv, oMod, oPow, oLt, oLe, oGt, oGe, oEq, oNe, oIsN, oNotN, oIsB, oNotB, oIx, oSl, oLen, oSum, oAll, oAny, oAbs, o1I, o2I, oMin2, oMax2, oMin, oMax, oMinL, oMaxL, oInt, oBool, oList, oTuple, oSorted, oIn, oAddI, oGet, oSet, oAppend, oExtend, oPop, oPopAt, oIndexL, oIndexT, oInsert, oRemove, dTupX, dBMX, dLenSet, newL, startD, wipeD, D.tyN, List.map_cons, List.map_nil, List.cons_append, List.nil_append, List.length_cons, List.length_nil, List.getElem?_cons_zero, List.getElem?_cons_succ, List.set_cons_zero, List.set_cons_succ, List.replicate, Nat.sub_self, Nat.reduceSub, Nat.reduceAdd, Nat.zero_add, kb_ii, kb_ib, kb_it, kb_is, kb_bi, kb_bb, kb_bt, kb_bs, kb_tt, kb_ti, kb_ts, kb_ss, kb_si, kb_st, kb_nt, kb_ni, kb_ns, kb_lt, kb_li, kb_ls, ex_some, seq_tup, seq_tpx, itOf_tpx, seq_lst, seq_fz, list_lst, lsts_lst, lsts_fz, itOf_tup, itOf_lst, itOf_fz, now_int, now_bl, now_non, now_str, now_tup, now_lst, isNon_non, isNon_int, isNon_tup, isNon_ref, isNon_lst, isNon_str, isNon_bl]
  refine ⟨J, o, _, rfl, .inl rfl, g, ho, ⟨okn_int, okn_int⟩, ?_⟩
  simp only [now_int, eqD_int, decide_eq_true hsame]
  exact .here q
/-! ### done at -/
def sp_job_done_at : DSp := fun ds S Q => ∃ (J : List Job) (o : List Nat) (t : Int), ds = [eJs J, eO o, .int t] ∧ GJ J ∧ Perm_ J.length o ∧ 0 ≤ t ∧ t ≤ 1000000 ∧ ((∀ e ∈ ends J 0 o, e ≤ t) → Q .non S) ∧
  ∀ (k a : Nat) (e : Int), o[k]? = some a → (ends J 0 o)[k]? = some e → t < e → (∀ (m : Nat) (e' : Int), m < k → (ends J 0 o)[m]? = some e' → e' ≤ t) → Q (.int (a : Nat)) S
theorem pure_job_done_at : ∀ ds S Q, sp_job_done_at ds S Q → t_job_done_at sp_look_at_order sp_is_int sp_told_ends (DeN Q) (startD N_job_done_at ds) S := by
  rintro ds S Q ⟨J, o, t, rfl, g, h, t0, t1, q1, q2⟩
  have hf := g.few
  simp only [t_job_done_at, dSeq, dNext, dRet, dRetN, dIfS, dAsg, dAsgG, dDrop, dPar2, dPar3, dAug, dAugS, dFor, dOp, dVar, dC, dTest, dChain, dAnd, dOr, dNot, dAndV, dOrV, dNotV, dIf, dTup, dLst, dNil, dCons, dStar, dCB, dCall, dSl, dNoPart, dPart, dBM, dRev, dNeg, dIsi, dListRg, dTupRg, dRg1, dRg2, dLc, dIt, dEnum, dZip2, dZip3, dRng1, dRng2, dYes, gN, gT, gsNil, gsCons, gSb, oI, oI0, oAdd, oMulA, oSub, oFdiv, oMod, oPow, oLt, oLe, oGt, oGe, oEq, oNe, oIsN, oNotN, oIsB, oNotB, oIx, oSl, oLen, oSum, oAll, oAny, oAbs, o1I, o2I, oMin2, oMax2, oMin, oMax, oMinL, oMaxL, oInt, oBool, oList, oTuple, oSorted, oIn, oAddI, oGet, oSet, oAppend, oExtend, oPop, oPopAt, oIndexL, oIndexT, oInsert, oRemove, dTupX, dBMX, dLenSet, newL, startD, wipeD, D.tyN, List.map_cons, List.map_nil, List.cons_append, List.nil_append, List.length_cons, List.length_nil, List.getElem?_cons_zero, List.getElem?_cons_succ, List.set_cons_zero, List.set_cons_succ, List.replicate, Nat.sub_self, Nat.reduceSub, Nat.reduceAdd, Nat.zero_add, kb_ii, kb_ib, kb_it, kb_is, kb_bi, kb_bb, kb_bt, kb_bs, kb_tt, kb_ti, kb_ts, kb_ss, kb_si, kb_st, kb_nt, kb_ni, kb_ns, kb_lt, kb_li, kb_ls, ex_some, seq_tup, seq_tpx, itOf_tpx, seq_lst, seq_fz, list_lst, lsts_lst, lsts_fz, itOf_tup, itOf_lst, itOf_fz, now_int, now_bl, now_non, now_str, now_tup, now_lst, isNon_non, isNon_int, isNon_tup, isNon_ref, isNon_lst, isNon_str, isNon_bl]
  refine ⟨J, o, rfl, g, h, t, 0, 1000000, rfl, ?_⟩
  rw [decide_eq_true t0, decide_eq_true t1]
  simp only [Bool.and_self, Bool.not_true, eO, dSeq, dNext, dRet, dRetN, dIfS, dAsg, dAsgG, dDrop, dPar2, dPar3, dAug, dAugS, dFor, dOp, dVar, dC, dTest, dChain, dAnd, dOr, dNot, dAndV, dOrV, dNotV, dIf, dTup, dLst, dNil, dCons, dStar, dCB, dCall, dSl, dNoPart, dPart, dBM, dRev, dNeg, dIsi, dListRg, dTupRg, dRg1, dRg2, dLc, dIt, dEnum, dZip2, dZip3, dRng1, dRng2, dYes, gN, gT, gsNil, gsCons, gSb, oI, oI0, oAdd, oMulA, oSub, oFdiv, oMod, oPow, oLt, oLe, oGt, oGe, oEq, oNe, oIsN, oNotN, oIsB, oNotB, oIx, oSl, oLen, oSum, oAll, oAny, oAbs, o1I, o2I, oMin2, oMax2, oMin, oMax, oMinL, oMaxL, oInt, oBool, oList, oTuple, oSorted, oIn, oAddI, oGet, oSet, oAppend, oExtend, oPop, oPopAt, oIndexL, oIndexT, oInsert, oRemove, dTupX, dBMX, dLenSet, newL, startD, wipeD, D.tyN, List.map_cons, List.map_nil, List.cons_append, List.nil_append, List.length_cons, List.length_nil, List.getElem?_cons_zero, List.getElem?_cons_succ, List.set_cons_zero, List.set_cons_succ, List.replicate, Nat.sub_self, Nat.reduceSub, Nat.reduceAdd, Nat.zero_add, kb_ii, kb_ib, kb_it, kb_is, kb_bi, kb_bb, kb_bt, kb_bs, kb_tt, kb_ti, kb_ts, kb_ss, kb_si, kb_st, kb_nt, kb_ni, kb_ns, kb_lt, kb_li, kb_ls, ex_some, seq_tup, seq_tpx, itOf_tpx, seq_lst, seq_fz, list_lst, lsts_lst, lsts_fz, itOf_tup, itOf_lst, itOf_fz, now_int, now_bl, now_non, now_str, now_tup, now_lst, isNon_non, isNon_int, isNon_tup, isNon_ref, isNon_lst, isNon_str, isNon_bl]
  refine ⟨J, o, _, rfl, .inl rfl, fun i hi => h.lt hi, by rw [h.len]; omega, ?_⟩
  simp only [dSeq, dNext, dRet, dRetN, dIfS, dAsg, dAsgG, dDrop, dPar2, dPar3, dAug, dAugS, dFor, dOp, dVar, dC, dTest, dChain, dAnd, dOr, dNot, dAndV, dOrV, dNotV, dIf, dTup, dLst, dNil, dCons, dStar, dCB, dCall, dSl, dNoPart, dPart, dBM, dRev, dNeg, dIsi, dListRg, dTupRg, dRg1, dRg2, dLc, dIt, dEnum, dZip2, dZip3, dRng1, dRng2, dYes, gN, gT, gsNil, gsCons, gSb, oI, oI0, oAdd, oMulA, oSub, oFdiv, oMod, oPow, oLt, oLe, oGt, oGe, oEq, oNe, oIsN, oNotN, oIsB, oNotB, oIx, oSl, oLen, oSum, oAll, oAny, oAbs, o1I, o2I, oMin2, oMax2, oMin, oMax, oMinL, oMaxL, oInt, oBool, oList, oTuple, oSorted, oIn, oAddI, oGet, oSet, oAppend, oExtend, oPop, oPopAt, oIndexL, oIndexT, oInsert, oRemove, dTupX, dBMX, dLenSet, newL, startD, wipeD, D.tyN, List.map_cons, List.map_nil, List.cons_append, List.nil_append, List.length_cons, List.length_nil, List.getElem?_cons_zero, List.getElem?_cons_succ, List.set_cons_zero, List.set_cons_succ, List.replicate, Nat.sub_self, Nat.reduceSub, Nat.reduceAdd, Nat.zero_add, kb_ii, kb_ib, kb_it, kb_is, kb_bi, kb_bb, kb_bt, kb_bs, kb_tt, kb_ti, kb_ts, kb_ss, kb_si, kb_st, kb_nt, kb_ni, kb_ns, kb_lt, kb_li, kb_ls, ex_some, seq_tup, seq_tpx, itOf_tpx, seq_lst, seq_fz, list_lst, lsts_lst, lsts_fz, itOf_tup, itOf_lst, itOf_fz, now_int, now_bl, now_non, now_str, now_tup, now_lst, isNon_non, isNon_int, isNon_tup, isNon_ref, isNon_lst, isNon_str, isNon_bl, zip_lst]
  refine ⟨⟨trivial, trivial⟩, ?_⟩
  have hel := ends_len J o 0
  refine loopD_invE (α := Nat × Int) (ok := fun _ => True ∧ True) (fun p => D.tup [nI p.1, .int p.2]) (fun xs ρ S' => ∃ o3 o4 k, ρ = [some (eJs J), some (D.tup (o.map nI)), some (.int t), o3, o4] ∧ S = S' ∧ xs = (List.zip o (ends J 0 o)).drop k ∧ ∀ (m : Nat) (e' : Int), m < k → (ends J 0 o)[m]? = some e' → e' ≤ t) ?_ ?_ _ _ _ ⟨none, none, 0, rfl, rfl, rfl, fun m e' hm => absurd hm (by omega)⟩ ⟨trivial, trivial⟩
  · rintro ⟨a, e⟩ xs ρ S' ⟨o3, o4, k, rfl, rfl, hx, hno⟩ _ N hN
    obtain ⟨hk, e1, e2⟩ := drop_at hx
    rw [List.getElem_zip] at e1
    simp only [Prod.mk.injEq] at e1
    rw [List.length_zip] at hk
    have ha : o[k]? = some a := by rw [e1.1]; exact List.getElem?_eq_getElem (by omega)
    have he : (ends J 0 o)[k]? = some e := by rw [e1.2]; exact List.getElem?_eq_getElem (by omega)
    simp only [dSeq, dNext, dRet, dRetN, dIfS, dAsg, dAsgG, dDrop, dPar2, dPar3, dAug, dAugS, dFor, dOp, dVar, dC, dTest, dChain, dAnd, dOr, dNot, dAndV, dOrV, dNotV, dIf, dTup, dLst, dNil, dCons, dStar, dCB, dCall, dSl, dNoPart, dPart, dBM, dRev, dNeg, dIsi, dListRg, dTupRg, dRg1, dRg2, dLc, dIt, dEnum, dZip2, dZip3, dRng1, dRng2, dYes, gN, gT, gsNil, gsCons, gSb, oI, oI0, oAdd, oMulA, oSub, oFdiv, oMod, oPow, oLt, oLe, oGt, oGe, oEq, oNe, oIsN, oNotN, oIsB, oNotB, oIx, oSl, oLen, oSum, oAll, oAny, oAbs, o1I, o2I, oMin2, oMax2, oMin, oMax, oMinL, oMaxL, oInt, oBool, oList, oTuple, oSorted, oIn, oAddI, oGet, oSet, oAppend, oExtend, oPop, oPopAt, oIndexL, oIndexT, oInsert, oRemove, dTupX, dBMX, dLenSet, newL, startD, wipeD, D.tyN, List.map_cons, List.map_nil, List.cons_append, List.nil_append, List.length_cons, List.length_nil, List.getElem?_cons_zero, List.getElem?_cons_succ, List.set_cons_zero, List.set_cons_succ, List.replicate, Nat.sub_self, Nat.reduceSub, Nat.reduceAdd, Nat.zero_add, kb_ii, kb_ib, kb_it, kb_is, kb_bi, kb_bb, kb_bt, kb_bs, kb_tt, kb_ti, kb_ts, kb_ss, kb_si, kb_st, kb_nt, kb_ni, kb_ns, kb_lt, kb_li, kb_ls, ex_some, seq_tup, seq_tpx, itOf_tpx, seq_lst, seq_fz, list_lst, lsts_lst, lsts_fz, itOf_tup, itOf_lst, itOf_fz, now_int, now_bl, now_non, now_str, now_tup, now_lst, isNon_non, isNon_int, isNon_tup, isNon_ref, isNon_lst, isNon_str, isNon_bl, nI]
    refine ⟨trivial, ?_⟩
    by_cases hlt : t < e
    · simp only [decide_eq_true hlt]
      exact .here (q2 k a e ha he hlt hno)
    · simp only [decide_eq_false hlt]
      refine hN _ _ ⟨trivial, trivial⟩ ⟨_, _, k + 1, rfl, rfl, e2, fun m e' hm hm' => ?_⟩
      by_cases z : m = k
      · subst z
        rw [he] at hm'
        cases hm'
        omega
      · exact hno m e' (by omega) hm'
  · rintro ρ S' ⟨o3, o4, k, rfl, rfl, hx, hno⟩
    have hk := drop_nil hx
    rw [List.length_zip, hel] at hk
    simp only [dSeq, dNext, dRet, dRetN, dIfS, dAsg, dAsgG, dDrop, dPar2, dPar3, dAug, dAugS, dFor, dOp, dVar, dC, dTest, dChain, dAnd, dOr, dNot, dAndV, dOrV, dNotV, dIf, dTup, dLst, dNil, dCons, dStar, dCB, dCall, dSl, dNoPart, dPart, dBM, dRev, dNeg, dIsi, dListRg, dTupRg, dRg1, dRg2, dLc, dIt, dEnum, dZip2, dZip3, dRng1, dRng2, dYes, gN, gT, gsNil, gsCons, gSb, oI, oI0, oAdd, oMulA, oSub, oFdiv, oMod, oPow, oLt, oLe, oGt, oGe, oEq, oNe, oIsN, oNotN, oIsB, oNotB, oIx, oSl, oLen, oSum, oAll, oAny, oAbs, o1I, o2I, oMin2, oMax2, oMin, oMax, oMinL, oMaxL, oInt, oBool, oList, oTuple, oSorted, oIn, oAddI, oGet, oSet, oAppend, oExtend, oPop, oPopAt, oIndexL, oIndexT, oInsert, oRemove, dTupX, dBMX, dLenSet, newL, startD, wipeD, D.tyN, List.map_cons, List.map_nil, List.cons_append, List.nil_append, List.length_cons, List.length_nil, List.getElem?_cons_zero, List.getElem?_cons_succ, List.set_cons_zero, List.set_cons_succ, List.replicate, Nat.sub_self, Nat.reduceSub, Nat.reduceAdd, Nat.zero_add, kb_ii, kb_ib, kb_it, kb_is, kb_bi, kb_bb, kb_bt, kb_bs, kb_tt, kb_ti, kb_ts, kb_ss, kb_si, kb_st, kb_nt, kb_ni, kb_ns, kb_lt, kb_li, kb_ls, ex_some, seq_tup, seq_tpx, itOf_tpx, seq_lst, seq_fz, list_lst, lsts_lst, lsts_fz, itOf_tup, itOf_lst, itOf_fz, now_int, now_bl, now_non, now_str, now_tup, now_lst, isNon_non, isNon_int, isNon_tup, isNon_ref, isNon_lst, isNon_str, isNon_bl]
    refine .here (q1 fun e he => ?_)
    obtain ⟨m, hm, em⟩ := List.getElem_of_mem he
    exact hno m e (by omega) (by rw [← em]; exact List.getElem?_eq_getElem hm)
end L45
namespace L45
open PySem PySem.Spec PySem.W PyProof.Rows L2 PL
theorem eqD_bl {a b : Bool} : eqD (.bl a) (.bl b) = decide (a = b) := by
  unfold eqD
  rw [D.py, D.py, PyData.eqv]
  cases a <;> cases b <;> rfl
/-! ### all dues moved -/
def shift (x : Int) (J : List Job) : List Job := J.map fun j => ⟨j.p, j.w, j.d + x⟩
theorem shift_len (x : Int) (J : List Job) : (shift x J).length = J.length := by unfold shift; rw [List.length_map]
theorem gj_shift {x : Int} {J : List Job} {i : Nat} (h : i < J.length) : gj (shift x J) i = ⟨(gj J i).p, (gj J i).w, (gj J i).d + x⟩ := by
  unfold gj shift
  rw [List.getD_eq_getElem?_getD, List.getD_eq_getElem?_getD, List.getElem?_map, List.getElem?_eq_getElem h]; rfl
theorem bd_shift (x : Int) (J : List Job) : bd (shift x J) = bd J := by
  unfold bd sortBy
  rw [shift_len]
  refine sort_congr fun a ha b hb => ?_
  have h1 := List.mem_range.mp ha
  have h2 := List.mem_range.mp hb
  unfold leK kd
  rw [gj_shift h1, gj_shift h2]
  congr 1
  apply propext
  show ((gj J a).d + x < (gj J b).d + x ∨ (gj J a).d + x = (gj J b).d + x ∧ a ≤ b) ↔ ((gj J a).d < (gj J b).d ∨ (gj J a).d = (gj J b).d ∧ a ≤ b)
  omega
theorem ends_shift (x : Int) (J : List Job) : ∀ (o : List Nat) (h : Int), (∀ i ∈ o, i < J.length) → ends (shift x J) h o = ends J h o
  | [], _, _ => rfl
  | a :: o, h, hl => by
    rw [ends, ends, gj_shift (hl a List.mem_cons_self), ends_shift x J o _ fun i hi => hl i (List.mem_cons_of_mem _ hi)]
theorem lates_shift {x : Int} {J : List Job} {o : List Nat} (hl : ∀ i ∈ o, i < J.length) : lates (shift x J) o = (lates J o).map fun y => y - x := by
  unfold lates
  rw [ends_shift x J o 0 hl, List.map_map]
  refine List.map_congr_left fun p hp => ?_
  have := hl _ (List.of_mem_zip hp).1
  show p.2 - dOf (shift x J) p.1 = p.2 - dOf J p.1 - x
  unfold dOf
  rw [gj_shift this]
  show p.2 - ((gj J p.1).d + x) = _
  omega
theorem bd_lt (J : List Job) : ∀ i ∈ bd J, i < J.length := fun i hi => (bd_perm J).lt hi
/-- each job's due is reached by the most of the latenesses -/
theorem due_reach {J : List Job} (g : GJ J) {x : Int} (hx : Lat J x) : ∀ j ∈ J, 1 ≤ j.d + x := by
  intro j hj
  obtain ⟨i, hi, e⟩ := List.getElem_of_mem hj
  have hib : i ∈ bd J := (bd_perm J).mem_iff.mpr (List.mem_range.mpr hi)
  have ej : gj J i = j := by unfold gj; rw [List.getD_eq_getElem?_getD, List.getElem?_eq_getElem hi, e]; rfl
  have pos : ∀ (o : List Nat) (h : Int), 0 ≤ h → (∀ i ∈ o, i < J.length) → i ∈ o → ∃ en, (i, en) ∈ List.zip o (ends J h o) ∧ 1 ≤ en := by
    intro o
    induction o with
    | nil => intro h _ _ hm; cases hm
    | cons a o ih =>
      intro h h0 hl hm
      have ga := g.p1 _ (gj_mem (hl a List.mem_cons_self))
      rw [ends, List.zip_cons_cons]
      by_cases q : i = a
      · subst q
        exact ⟨_, List.mem_cons_self, by omega⟩
      · obtain ⟨en, h1, h2⟩ := ih (h + (gj J a).p) (by omega) (fun k hk => hl k (List.mem_cons_of_mem _ hk)) (by
          rcases List.mem_cons.mp hm with z | z
          · exact absurd z q
          · exact z)
        exact ⟨en, List.mem_cons_of_mem _ h1, h2⟩
  obtain ⟨en, h1, h2⟩ := pos (bd J) 0 (by decide) (bd_lt J) hib
  have := hx.most _ (List.mem_map.mpr ⟨(i, en), h1, rfl⟩)
  show 1 ≤ j.d + x
  have e2 : dOf J i = j.d := by unfold dOf; rw [ej]
  simp only [e2] at this
  omega
theorem lat_bd {J : List Job} (g : GJ J) {x : Int} (hx : Lat J x) : x ≤ 600000 := by
  obtain ⟨p, hp, rfl⟩ := List.mem_map.mp hx.in_
  have h1 := ends_bd g.p01 (bd J) 0 (by decide) (bd_lt J) p.2 (List.of_mem_zip hp).2
  have h2 := g.d0 _ (gj_mem (bd_lt J _ (List.of_mem_zip hp).1))
  rw [(bd_perm J).len] at h1
  have := g.few
  unfold dOf
  omega
theorem GJ.shift {J : List Job} (g : GJ J) {x y : Int} (hx : Lat J x) (hd : ∀ j ∈ J, j.d ≤ 1000) (hy : x - 1 ≤ y) (hy2 : y ≤ x) : GJ (shift y J) := by
  have hb := lat_bd g hx
  refine ⟨by rw [shift_len]; exact g.few, fun j hj => ?_, fun j hj => ?_, fun j hj => ?_⟩ <;> obtain ⟨k, hk, rfl⟩ := List.mem_map.mp hj
  · exact g.p1 k hk
  · exact g.w0 k hk
  · have := due_reach g hx k hk
    have := hd k hk
    show 0 ≤ k.d + y ∧ k.d + y ≤ 1000000
    omega
theorem in_shift {J : List Job} {y : Int} : InT (shift y J) ↔ ∀ z ∈ lates J (bd J), z ≤ y := by
  unfold InT
  rw [bd_shift, lates_shift (bd_lt J)]
  constructor
  · intro h z hz
    have := h _ (List.mem_map.mpr ⟨z, hz, rfl⟩)
    omega
  · intro h z hz
    obtain ⟨w, hw, rfl⟩ := List.mem_map.mp hz
    have := h w hw
    show w - y ≤ 0
    omega
theorem fs_lates {J : List Job} : ∀ {o : List Nat} {h : Int}, Fs J h o ↔ ∀ p ∈ List.zip o (ends J h o), p.2 - dOf J p.1 ≤ 0
  | [], _ => by simp [Fs]
  | a :: o, h => by
    have e : ends J h (a :: o) = (h + pr J a) :: ends J (h + pr J a) o := rfl
    rw [e, List.zip_cons_cons, Fs, fs_lates]
    constructor
    · rintro ⟨h1, h2⟩ p hp
      rcases List.mem_cons.mp hp with rfl | hp
      · show h + pr J a - dOf J a ≤ 0; omega
      · exact h2 p hp
    · intro H
      have := H (a, h + pr J a) List.mem_cons_self
      have : h + pr J a - dOf J a ≤ 0 := this
      exact ⟨by omega, fun p hp => H p (List.mem_cons_of_mem _ hp)⟩
theorem few_zero {J : List Job} {K R : List Nat} (h : Best J K R) : R.length = 0 ↔ InT J := by
  have e : InT J ↔ Fs J 0 (bd J) := by
    rw [fs_lates]
    unfold InT lates
    constructor
    · intro H p hp
      exact H _ (List.mem_map.mpr ⟨p, hp, rfl⟩)
    · intro H x hx
      obtain ⟨p, hp, rfl⟩ := List.mem_map.mp hx
      exact H p hp
  rw [e]
  have hl := best_len h
  constructor
  · intro hr
    have := h.mh.sub.eq_of_length (by rw [(bd_perm J).len]; omega)
    rw [← this]
    exact h.mh.fs
  · intro hF
    obtain ⟨T, t1, t2, _⟩ := h.mh.opt (bd J) (List.Sublist.refl _) hF
    have := t1.length_le
    rw [t2, (bd_perm J).len] at this
    omega
/-- the jobs as they are drawn -/
structure DJ (J : List Job) : Prop where
  n1 : 1 ≤ J.length
  n20 : J.length ≤ 30
  p : ∀ j ∈ J, 1 ≤ j.p ∧ j.p ≤ 30
  w : ∀ j ∈ J, 0 ≤ j.w ∧ j.w ≤ 9
  d : ∀ j ∈ J, 0 ≤ j.d ∧ j.d ≤ 400
theorem DJ.gj {J : List Job} (h : DJ J) : GJ J := ⟨by have := h.n20; omega, fun j hj => by have := h.p j hj; omega, fun j hj => by have := h.w j hj; omega, fun j hj => by have := h.d j hj; omega⟩
def sp__law_are_dues_right : DSp := fun ds S Q => ∃ (p : Addr) (J : List Job) (b : Nat) (o : MO), ds = [.ref p, eJs J] ∧ S p = some o ∧ PotO b o ∧ b ≤ 100000 ∧ DJ J ∧ ∀ o', PotO (b + 2) o' → Q (.bl true) (S.up p o')
theorem pure__law_are_dues_right : ∀ ds S Q, sp__law_are_dues_right ds S Q → t__law_are_dues_right sp_least_lateness sp_all_in_time sp_shows_all_in_time sp_fewest_late sp_late_in sp_shows_fewest_late sp__law_take (DeN Q) (startD N__law_are_dues_right ds) S := by
  rintro ds S Q ⟨p, J, b, o, rfl, hS, hp, hb, dj, q⟩
  have g := dj.gj
  have hne : J ≠ [] := fun z => by have := dj.n1; rw [z] at this; simp at this
  have hd1000 : ∀ j ∈ J, j.d ≤ 1000 := fun j hj => by have := dj.d j hj; omega
  have h20 := dj.n20
  unfold t__law_are_dues_right
  refine seqG fun v hv => ?_
  simp only [dSeq, dNext, dRet, dRetN, dIfS, dAsg, dAsgG, dDrop, dPar2, dPar3, dAug, dAugS, dFor, dOp, dVar, dC, dTest, dChain, dAnd, dOr, dNot, dAndV, dOrV, dNotV, dIf, dTup, dLst, dNil, dCons, dStar, dCB, dCall, dSl, dNoPart, dPart, dBM, dRev, dNeg, dIsi, dListRg, dTupRg, dRg1, dRg2, dLc, dIt, dEnum, dZip2, dZip3, dRng1, dRng2, dYes, gN, gT, gsNil, gsCons, gSb, oI, oI0, oAdd, oMulA, oSub, oFdiv, oMod, oPow, oLt, oLe, oGt, oGe, oEq, oNe, oIsN, oNotN, oIsB, oNotB, oIx, oSl, oLen, oSum, oAll, oAny, oAbs, o1I, o2I, oMin2, oMax2, oMin, oMax, oMinL, oMaxL, oInt, oBool, oList, oTuple, oSorted, oIn, oAddI, oGet, oSet, oAppend, oExtend, oPop, oPopAt, oIndexL, oIndexT, oInsert, oRemove, dTupX, dBMX, dLenSet, newL, startD, wipeD, D.tyN, List.map_cons, List.map_nil, List.cons_append, List.nil_append, List.length_cons, List.length_nil, List.getElem?_cons_zero, List.getElem?_cons_succ, List.set_cons_zero, List.set_cons_succ, List.replicate, Nat.sub_self, Nat.reduceSub, Nat.reduceAdd, Nat.zero_add, kb_ii, kb_ib, kb_it, kb_is, kb_bi, kb_bb, kb_bt, kb_bs, kb_tt, kb_ti, kb_ts, kb_ss, kb_si, kb_st, kb_nt, kb_ni, kb_ns, kb_lt, kb_li, kb_ls, ex_some, seq_tup, seq_tpx, itOf_tpx, seq_lst, seq_fz, list_lst, lsts_lst, lsts_fz, itOf_tup, itOf_lst, itOf_fz, now_int, now_bl, now_non, now_str, now_tup, now_lst, isNon_non, isNon_int, isNon_tup, isNon_ref, isNon_lst, isNon_str, isNon_bl]
  refine ⟨J, rfl, g, hne, fun x hx => ?_⟩
  have ok1 : ∀ s : Str, PyData.strOk s = true → D.okn 8 (.str s) = true := fun s h => okn_str h
  have mapS : ∀ (y : Int), J.map (fun j => D.tup [.int j.p, .int j.w, .int (j.d + y)]) = (shift y J).map eJ := fun y => by unfold shift; rw [List.map_map]; rfl
  subst hv
  refine seqG fun v2 hv2 => ?_
  simp only [dSeq, dNext, dRet, dRetN, dIfS, dAsg, dAsgG, dDrop, dPar2, dPar3, dAug, dAugS, dFor, dOp, dVar, dC, dTest, dChain, dAnd, dOr, dNot, dAndV, dOrV, dNotV, dIf, dTup, dLst, dNil, dCons, dStar, dCB, dCall, dSl, dNoPart, dPart, dBM, dRev, dNeg, dIsi, dListRg, dTupRg, dRg1, dRg2, dLc, dIt, dEnum, dZip2, dZip3, dRng1, dRng2, dYes, gN, gT, gsNil, gsCons, gSb, oI, oI0, oAdd, oMulA, oSub, oFdiv, oMod, oPow, oLt, oLe, oGt, oGe, oEq, oNe, oIsN, oNotN, oIsB, oNotB, oIx, oSl, oLen, oSum, oAll, oAny, oAbs, o1I, o2I, oMin2, oMax2, oMin, oMax, oMinL, oMaxL, oInt, oBool, oList, oTuple, oSorted, oIn, oAddI, oGet, oSet, oAppend, oExtend, oPop, oPopAt, oIndexL, oIndexT, oInsert, oRemove, dTupX, dBMX, dLenSet, newL, startD, wipeD, D.tyN, List.map_cons, List.map_nil, List.cons_append, List.nil_append, List.length_cons, List.length_nil, List.getElem?_cons_zero, List.getElem?_cons_succ, List.set_cons_zero, List.set_cons_succ, List.replicate, Nat.sub_self, Nat.reduceSub, Nat.reduceAdd, Nat.zero_add, kb_ii, kb_ib, kb_it, kb_is, kb_bi, kb_bb, kb_bt, kb_bs, kb_tt, kb_ti, kb_ts, kb_ss, kb_si, kb_st, kb_nt, kb_ni, kb_ns, kb_lt, kb_li, kb_ls, ex_some, seq_tup, seq_tpx, itOf_tpx, seq_lst, seq_fz, list_lst, lsts_lst, lsts_fz, itOf_tup, itOf_lst, itOf_fz, now_int, now_bl, now_non, now_str, now_tup, now_lst, isNon_non, isNon_int, isNon_tup, isNon_ref, isNon_lst, isNon_str, isNon_bl, eJs]
  refine lc_mapE J eJ (fun j => D.tup [.int j.p, .int j.w, .int (j.d + x)]) (fun _ _ => trivial) (small (by omega)) (fun j hj S' e N M h => ?_) ?_
  · simp only [dSeq, dNext, dRet, dRetN, dIfS, dAsg, dAsgG, dDrop, dPar2, dPar3, dAug, dAugS, dFor, dOp, dVar, dC, dTest, dChain, dAnd, dOr, dNot, dAndV, dOrV, dNotV, dIf, dTup, dLst, dNil, dCons, dStar, dCB, dCall, dSl, dNoPart, dPart, dBM, dRev, dNeg, dIsi, dListRg, dTupRg, dRg1, dRg2, dLc, dIt, dEnum, dZip2, dZip3, dRng1, dRng2, dYes, gN, gT, gsNil, gsCons, gSb, oI, oI0, oAdd, oMulA, oSub, oFdiv, oMod, oPow, oLt, oLe, oGt, oGe, oEq, oNe, oIsN, oNotN, oIsB, oNotB, oIx, oSl, oLen, oSum, oAll, oAny, oAbs, o1I, o2I, oMin2, oMax2, oMin, oMax, oMinL, oMaxL, oInt, oBool, oList, oTuple, oSorted, oIn, oAddI, oGet, oSet, oAppend, oExtend, oPop, oPopAt, oIndexL, oIndexT, oInsert, oRemove, dTupX, dBMX, dLenSet, newL, startD, wipeD, D.tyN, List.map_cons, List.map_nil, List.cons_append, List.nil_append, List.length_cons, List.length_nil, List.getElem?_cons_zero, List.getElem?_cons_succ, List.set_cons_zero, List.set_cons_succ, List.replicate, Nat.sub_self, Nat.reduceSub, Nat.reduceAdd, Nat.zero_add, kb_ii, kb_ib, kb_it, kb_is, kb_bi, kb_bb, kb_bt, kb_bs, kb_tt, kb_ti, kb_ts, kb_ss, kb_si, kb_st, kb_nt, kb_ni, kb_ns, kb_lt, kb_li, kb_ls, ex_some, seq_tup, seq_tpx, itOf_tpx, seq_lst, seq_fz, list_lst, lsts_lst, lsts_fz, itOf_tup, itOf_lst, itOf_fz, now_int, now_bl, now_non, now_str, now_tup, now_lst, isNon_non, isNon_int, isNon_tup, isNon_ref, isNon_lst, isNon_str, isNon_bl, eJ]
    exact ⟨trivial, small (by omega), h⟩
  simp only [dSeq, dNext, dRet, dRetN, dIfS, dAsg, dAsgG, dDrop, dPar2, dPar3, dAug, dAugS, dFor, dOp, dVar, dC, dTest, dChain, dAnd, dOr, dNot, dAndV, dOrV, dNotV, dIf, dTup, dLst, dNil, dCons, dStar, dCB, dCall, dSl, dNoPart, dPart, dBM, dRev, dNeg, dIsi, dListRg, dTupRg, dRg1, dRg2, dLc, dIt, dEnum, dZip2, dZip3, dRng1, dRng2, dYes, gN, gT, gsNil, gsCons, gSb, oI, oI0, oAdd, oMulA, oSub, oFdiv, oMod, oPow, oLt, oLe, oGt, oGe, oEq, oNe, oIsN, oNotN, oIsB, oNotB, oIx, oSl, oLen, oSum, oAll, oAny, oAbs, o1I, o2I, oMin2, oMax2, oMin, oMax, oMinL, oMaxL, oInt, oBool, oList, oTuple, oSorted, oIn, oAddI, oGet, oSet, oAppend, oExtend, oPop, oPopAt, oIndexL, oIndexT, oInsert, oRemove, dTupX, dBMX, dLenSet, newL, startD, wipeD, D.tyN, List.map_cons, List.map_nil, List.cons_append, List.nil_append, List.length_cons, List.length_nil, List.getElem?_cons_zero, List.getElem?_cons_succ, List.set_cons_zero, List.set_cons_succ, List.replicate, Nat.sub_self, Nat.reduceSub, Nat.reduceAdd, Nat.zero_add, kb_ii, kb_ib, kb_it, kb_is, kb_bi, kb_bb, kb_bt, kb_bs, kb_tt, kb_ti, kb_ts, kb_ss, kb_si, kb_st, kb_nt, kb_ni, kb_ns, kb_lt, kb_li, kb_ls, ex_some, seq_tup, seq_tpx, itOf_tpx, seq_lst, seq_fz, list_lst, lsts_lst, lsts_fz, itOf_tup, itOf_lst, itOf_fz, now_int, now_bl, now_non, now_str, now_tup, now_lst, isNon_non, isNon_int, isNon_tup, isNon_ref, isNon_lst, isNon_str, isNon_bl]
  rw [mapS]
  have gL : GJ (shift x J) := g.shift hx hd1000 (by omega) (by omega)
  have inL : InT (shift x J) := in_shift.mpr hx.most
  subst hv2
  refine seqG fun v3 hv3 => ?_
  simp only [dSeq, dNext, dRet, dRetN, dIfS, dAsg, dAsgG, dDrop, dPar2, dPar3, dAug, dAugS, dFor, dOp, dVar, dC, dTest, dChain, dAnd, dOr, dNot, dAndV, dOrV, dNotV, dIf, dTup, dLst, dNil, dCons, dStar, dCB, dCall, dSl, dNoPart, dPart, dBM, dRev, dNeg, dIsi, dListRg, dTupRg, dRg1, dRg2, dLc, dIt, dEnum, dZip2, dZip3, dRng1, dRng2, dYes, gN, gT, gsNil, gsCons, gSb, oI, oI0, oAdd, oMulA, oSub, oFdiv, oMod, oPow, oLt, oLe, oGt, oGe, oEq, oNe, oIsN, oNotN, oIsB, oNotB, oIx, oSl, oLen, oSum, oAll, oAny, oAbs, o1I, o2I, oMin2, oMax2, oMin, oMax, oMinL, oMaxL, oInt, oBool, oList, oTuple, oSorted, oIn, oAddI, oGet, oSet, oAppend, oExtend, oPop, oPopAt, oIndexL, oIndexT, oInsert, oRemove, dTupX, dBMX, dLenSet, newL, startD, wipeD, D.tyN, List.map_cons, List.map_nil, List.cons_append, List.nil_append, List.length_cons, List.length_nil, List.getElem?_cons_zero, List.getElem?_cons_succ, List.set_cons_zero, List.set_cons_succ, List.replicate, Nat.sub_self, Nat.reduceSub, Nat.reduceAdd, Nat.zero_add, kb_ii, kb_ib, kb_it, kb_is, kb_bi, kb_bb, kb_bt, kb_bs, kb_tt, kb_ti, kb_ts, kb_ss, kb_si, kb_st, kb_nt, kb_ni, kb_ns, kb_lt, kb_li, kb_ls, ex_some, seq_tup, seq_tpx, itOf_tpx, seq_lst, seq_fz, list_lst, lsts_lst, lsts_fz, itOf_tup, itOf_lst, itOf_fz, now_int, now_bl, now_non, now_str, now_tup, now_lst, isNon_non, isNon_int, isNon_tup, isNon_ref, isNon_lst, isNon_str, isNon_bl]
  refine ⟨shift x J, rfl, gL, fun _ => ?_, fun z => absurd inL z⟩
  simp only [dSeq, dNext, dRet, dRetN, dIfS, dAsg, dAsgG, dDrop, dPar2, dPar3, dAug, dAugS, dFor, dOp, dVar, dC, dTest, dChain, dAnd, dOr, dNot, dAndV, dOrV, dNotV, dIf, dTup, dLst, dNil, dCons, dStar, dCB, dCall, dSl, dNoPart, dPart, dBM, dRev, dNeg, dIsi, dListRg, dTupRg, dRg1, dRg2, dLc, dIt, dEnum, dZip2, dZip3, dRng1, dRng2, dYes, gN, gT, gsNil, gsCons, gSb, oI, oI0, oAdd, oMulA, oSub, oFdiv, oMod, oPow, oLt, oLe, oGt, oGe, oEq, oNe, oIsN, oNotN, oIsB, oNotB, oIx, oSl, oLen, oSum, oAll, oAny, oAbs, o1I, o2I, oMin2, oMax2, oMin, oMax, oMinL, oMaxL, oInt, oBool, oList, oTuple, oSorted, oIn, oAddI, oGet, oSet, oAppend, oExtend, oPop, oPopAt, oIndexL, oIndexT, oInsert, oRemove, dTupX, dBMX, dLenSet, newL, startD, wipeD, D.tyN, List.map_cons, List.map_nil, List.cons_append, List.nil_append, List.length_cons, List.length_nil, List.getElem?_cons_zero, List.getElem?_cons_succ, List.set_cons_zero, List.set_cons_succ, List.replicate, Nat.sub_self, Nat.reduceSub, Nat.reduceAdd, Nat.zero_add, kb_ii, kb_ib, kb_it, kb_is, kb_bi, kb_bb, kb_bt, kb_bs, kb_tt, kb_ti, kb_ts, kb_ss, kb_si, kb_st, kb_nt, kb_ni, kb_ns, kb_lt, kb_li, kb_ls, ex_some, seq_tup, seq_tpx, itOf_tpx, seq_lst, seq_fz, list_lst, lsts_lst, lsts_fz, itOf_tup, itOf_lst, itOf_fz, now_int, now_bl, now_non, now_str, now_tup, now_lst, isNon_non, isNon_int, isNon_tup, isNon_ref, isNon_lst, isNon_str, isNon_bl, a20]
  refine ⟨⟨okn_str (by decide +kernel), okn_str (by decide +kernel)⟩, ?_⟩
  rw [eqD_refl (n := 8) (okn_str (by decide +kernel))]
  simp only [Bool.not_true, dSeq, dNext, dRet, dRetN, dIfS, dAsg, dAsgG, dDrop, dPar2, dPar3, dAug, dAugS, dFor, dOp, dVar, dC, dTest, dChain, dAnd, dOr, dNot, dAndV, dOrV, dNotV, dIf, dTup, dLst, dNil, dCons, dStar, dCB, dCall, dSl, dNoPart, dPart, dBM, dRev, dNeg, dIsi, dListRg, dTupRg, dRg1, dRg2, dLc, dIt, dEnum, dZip2, dZip3, dRng1, dRng2, dYes, gN, gT, gsNil, gsCons, gSb, oI, oI0, oAdd, oMulA, oSub, oFdiv, oMod, oPow, oLt, oLe, oGt, oGe, oEq, oNe, oIsN, oNotN, oIsB, oNotB, oIx, oSl, oLen, oSum, oAll, oAny, oAbs, o1I, o2I, oMin2, oMax2, oMin, oMax, oMinL, oMaxL, oInt, oBool, oList, oTuple, oSorted, oIn, oAddI, oGet, oSet, oAppend, oExtend, oPop, oPopAt, oIndexL, oIndexT, oInsert, oRemove, dTupX, dBMX, dLenSet, newL, startD, wipeD, D.tyN, List.map_cons, List.map_nil, List.cons_append, List.nil_append, List.length_cons, List.length_nil, List.getElem?_cons_zero, List.getElem?_cons_succ, List.set_cons_zero, List.set_cons_succ, List.replicate, Nat.sub_self, Nat.reduceSub, Nat.reduceAdd, Nat.zero_add, kb_ii, kb_ib, kb_it, kb_is, kb_bi, kb_bb, kb_bt, kb_bs, kb_tt, kb_ti, kb_ts, kb_ss, kb_si, kb_st, kb_nt, kb_ni, kb_ns, kb_lt, kb_li, kb_ls, ex_some, seq_tup, seq_tpx, itOf_tpx, seq_lst, seq_fz, list_lst, lsts_lst, lsts_fz, itOf_tup, itOf_lst, itOf_fz, now_int, now_bl, now_non, now_str, now_tup, now_lst, isNon_non, isNon_int, isNon_tup, isNon_ref, isNon_lst, isNon_str, isNon_bl]
  have hJx : InT J ↔ x ≤ 0 := ⟨fun h => h x hx.in_, fun h y hy => by have := hx.most y hy; omega⟩
  have ho1 : eqD (.str "order") (.str "order") = true := eqD_refl (n := 8) (okn_str (by decide +kernel))
  have ho2 : eqD (.str "by") (.str "order") = false := by decide +kernel
  have oks : ∀ s : Str, PyData.strOk s = true → D.okn 8 (S.now (.str s)) = true := fun s h => okn_str h
  have fin3 : v3 (DeN Q) [some (D.ref p), some (D.tup (J.map eJ)), some (D.int x), some (D.tup ((shift x J).map eJ)), none, none, none, none, none, none, none, none] S := by
    subst hv3
    refine seqG fun v4 hv4 => ?_
    simp only [dSeq, dNext, dRet, dRetN, dIfS, dAsg, dAsgG, dDrop, dPar2, dPar3, dAug, dAugS, dFor, dOp, dVar, dC, dTest, dChain, dAnd, dOr, dNot, dAndV, dOrV, dNotV, dIf, dTup, dLst, dNil, dCons, dStar, dCB, dCall, dSl, dNoPart, dPart, dBM, dRev, dNeg, dIsi, dListRg, dTupRg, dRg1, dRg2, dLc, dIt, dEnum, dZip2, dZip3, dRng1, dRng2, dYes, gN, gT, gsNil, gsCons, gSb, oI, oI0, oAdd, oMulA, oSub, oFdiv, oMod, oPow, oLt, oLe, oGt, oGe, oEq, oNe, oIsN, oNotN, oIsB, oNotB, oIx, oSl, oLen, oSum, oAll, oAny, oAbs, o1I, o2I, oMin2, oMax2, oMin, oMax, oMinL, oMaxL, oInt, oBool, oList, oTuple, oSorted, oIn, oAddI, oGet, oSet, oAppend, oExtend, oPop, oPopAt, oIndexL, oIndexT, oInsert, oRemove, dTupX, dBMX, dLenSet, newL, startD, wipeD, D.tyN, List.map_cons, List.map_nil, List.cons_append, List.nil_append, List.length_cons, List.length_nil, List.getElem?_cons_zero, List.getElem?_cons_succ, List.set_cons_zero, List.set_cons_succ, List.replicate, Nat.sub_self, Nat.reduceSub, Nat.reduceAdd, Nat.zero_add, kb_ii, kb_ib, kb_it, kb_is, kb_bi, kb_bb, kb_bt, kb_bs, kb_tt, kb_ti, kb_ts, kb_ss, kb_si, kb_st, kb_nt, kb_ni, kb_ns, kb_lt, kb_li, kb_ls, ex_some, seq_tup, seq_tpx, itOf_tpx, seq_lst, seq_fz, list_lst, lsts_lst, lsts_fz, itOf_tup, itOf_lst, itOf_fz, now_int, now_bl, now_non, now_str, now_tup, now_lst, isNon_non, isNon_int, isNon_tup, isNon_ref, isNon_lst, isNon_str, isNon_bl]
    refine lc_mapE (shift x J) eJ (fun j => D.tup [.int j.p, .int j.w, .int (j.d - 1)]) (fun _ _ => trivial) (small (by rw [shift_len]; omega)) (fun j hj S' e N M h => ?_) ?_
    · simp only [dSeq, dNext, dRet, dRetN, dIfS, dAsg, dAsgG, dDrop, dPar2, dPar3, dAug, dAugS, dFor, dOp, dVar, dC, dTest, dChain, dAnd, dOr, dNot, dAndV, dOrV, dNotV, dIf, dTup, dLst, dNil, dCons, dStar, dCB, dCall, dSl, dNoPart, dPart, dBM, dRev, dNeg, dIsi, dListRg, dTupRg, dRg1, dRg2, dLc, dIt, dEnum, dZip2, dZip3, dRng1, dRng2, dYes, gN, gT, gsNil, gsCons, gSb, oI, oI0, oAdd, oMulA, oSub, oFdiv, oMod, oPow, oLt, oLe, oGt, oGe, oEq, oNe, oIsN, oNotN, oIsB, oNotB, oIx, oSl, oLen, oSum, oAll, oAny, oAbs, o1I, o2I, oMin2, oMax2, oMin, oMax, oMinL, oMaxL, oInt, oBool, oList, oTuple, oSorted, oIn, oAddI, oGet, oSet, oAppend, oExtend, oPop, oPopAt, oIndexL, oIndexT, oInsert, oRemove, dTupX, dBMX, dLenSet, newL, startD, wipeD, D.tyN, List.map_cons, List.map_nil, List.cons_append, List.nil_append, List.length_cons, List.length_nil, List.getElem?_cons_zero, List.getElem?_cons_succ, List.set_cons_zero, List.set_cons_succ, List.replicate, Nat.sub_self, Nat.reduceSub, Nat.reduceAdd, Nat.zero_add, kb_ii, kb_ib, kb_it, kb_is, kb_bi, kb_bb, kb_bt, kb_bs, kb_tt, kb_ti, kb_ts, kb_ss, kb_si, kb_st, kb_nt, kb_ni, kb_ns, kb_lt, kb_li, kb_ls, ex_some, seq_tup, seq_tpx, itOf_tpx, seq_lst, seq_fz, list_lst, lsts_lst, lsts_fz, itOf_tup, itOf_lst, itOf_fz, now_int, now_bl, now_non, now_str, now_tup, now_lst, isNon_non, isNon_int, isNon_tup, isNon_ref, isNon_lst, isNon_str, isNon_bl, eJ]
      exact ⟨trivial, small (by omega), h⟩
    have es : (shift x J).map (fun j => D.tup [.int j.p, .int j.w, .int (j.d - 1)]) = (shift (x - 1) J).map eJ := by
      unfold shift
      rw [List.map_map, List.map_map]
      refine List.map_congr_left fun j _ => ?_
      show D.tup [.int j.p, .int j.w, .int (j.d + x - 1)] = D.tup [.int j.p, .int j.w, .int (j.d + (x - 1))]
      rw [Int.add_sub_assoc]
    simp only [dSeq, dNext, dRet, dRetN, dIfS, dAsg, dAsgG, dDrop, dPar2, dPar3, dAug, dAugS, dFor, dOp, dVar, dC, dTest, dChain, dAnd, dOr, dNot, dAndV, dOrV, dNotV, dIf, dTup, dLst, dNil, dCons, dStar, dCB, dCall, dSl, dNoPart, dPart, dBM, dRev, dNeg, dIsi, dListRg, dTupRg, dRg1, dRg2, dLc, dIt, dEnum, dZip2, dZip3, dRng1, dRng2, dYes, gN, gT, gsNil, gsCons, gSb, oI, oI0, oAdd, oMulA, oSub, oFdiv, oMod, oPow, oLt, oLe, oGt, oGe, oEq, oNe, oIsN, oNotN, oIsB, oNotB, oIx, oSl, oLen, oSum, oAll, oAny, oAbs, o1I, o2I, oMin2, oMax2, oMin, oMax, oMinL, oMaxL, oInt, oBool, oList, oTuple, oSorted, oIn, oAddI, oGet, oSet, oAppend, oExtend, oPop, oPopAt, oIndexL, oIndexT, oInsert, oRemove, dTupX, dBMX, dLenSet, newL, startD, wipeD, D.tyN, List.map_cons, List.map_nil, List.cons_append, List.nil_append, List.length_cons, List.length_nil, List.getElem?_cons_zero, List.getElem?_cons_succ, List.set_cons_zero, List.set_cons_succ, List.replicate, Nat.sub_self, Nat.reduceSub, Nat.reduceAdd, Nat.zero_add, kb_ii, kb_ib, kb_it, kb_is, kb_bi, kb_bb, kb_bt, kb_bs, kb_tt, kb_ti, kb_ts, kb_ss, kb_si, kb_st, kb_nt, kb_ni, kb_ns, kb_lt, kb_li, kb_ls, ex_some, seq_tup, seq_tpx, itOf_tpx, seq_lst, seq_fz, list_lst, lsts_lst, lsts_fz, itOf_tup, itOf_lst, itOf_fz, now_int, now_bl, now_non, now_str, now_tup, now_lst, isNon_non, isNon_int, isNon_tup, isNon_ref, isNon_lst, isNon_str, isNon_bl]
    rw [es]
    have gS : GJ (shift (x - 1) J) := g.shift hx hd1000 (by omega) (by omega)
    have notS : ¬ InT (shift (x - 1) J) := fun z => by have := (in_shift.mp z) x hx.in_; omega
    subst hv4
    refine seqG fun v5 hv5 => ?_
    simp only [dSeq, dNext, dRet, dRetN, dIfS, dAsg, dAsgG, dDrop, dPar2, dPar3, dAug, dAugS, dFor, dOp, dVar, dC, dTest, dChain, dAnd, dOr, dNot, dAndV, dOrV, dNotV, dIf, dTup, dLst, dNil, dCons, dStar, dCB, dCall, dSl, dNoPart, dPart, dBM, dRev, dNeg, dIsi, dListRg, dTupRg, dRg1, dRg2, dLc, dIt, dEnum, dZip2, dZip3, dRng1, dRng2, dYes, gN, gT, gsNil, gsCons, gSb, oI, oI0, oAdd, oMulA, oSub, oFdiv, oMod, oPow, oLt, oLe, oGt, oGe, oEq, oNe, oIsN, oNotN, oIsB, oNotB, oIx, oSl, oLen, oSum, oAll, oAny, oAbs, o1I, o2I, oMin2, oMax2, oMin, oMax, oMinL, oMaxL, oInt, oBool, oList, oTuple, oSorted, oIn, oAddI, oGet, oSet, oAppend, oExtend, oPop, oPopAt, oIndexL, oIndexT, oInsert, oRemove, dTupX, dBMX, dLenSet, newL, startD, wipeD, D.tyN, List.map_cons, List.map_nil, List.cons_append, List.nil_append, List.length_cons, List.length_nil, List.getElem?_cons_zero, List.getElem?_cons_succ, List.set_cons_zero, List.set_cons_succ, List.replicate, Nat.sub_self, Nat.reduceSub, Nat.reduceAdd, Nat.zero_add, kb_ii, kb_ib, kb_it, kb_is, kb_bi, kb_bb, kb_bt, kb_bs, kb_tt, kb_ti, kb_ts, kb_ss, kb_si, kb_st, kb_nt, kb_ni, kb_ns, kb_lt, kb_li, kb_ls, ex_some, seq_tup, seq_tpx, itOf_tpx, seq_lst, seq_fz, list_lst, lsts_lst, lsts_fz, itOf_tup, itOf_lst, itOf_fz, now_int, now_bl, now_non, now_str, now_tup, now_lst, isNon_non, isNon_int, isNon_tup, isNon_ref, isNon_lst, isNon_str, isNon_bl]
    refine ⟨shift (x - 1) J, rfl, gS, fun z => absurd z notS, fun _ bb b0 b1 => ?_⟩
    have hb1 : eqD (.str "by") (.str "by") = true := eqD_refl (n := 8) (okn_str (by decide +kernel))
    simp only [dSeq, dNext, dRet, dRetN, dIfS, dAsg, dAsgG, dDrop, dPar2, dPar3, dAug, dAugS, dFor, dOp, dVar, dC, dTest, dChain, dAnd, dOr, dNot, dAndV, dOrV, dNotV, dIf, dTup, dLst, dNil, dCons, dStar, dCB, dCall, dSl, dNoPart, dPart, dBM, dRev, dNeg, dIsi, dListRg, dTupRg, dRg1, dRg2, dLc, dIt, dEnum, dZip2, dZip3, dRng1, dRng2, dYes, gN, gT, gsNil, gsCons, gSb, oI, oI0, oAdd, oMulA, oSub, oFdiv, oMod, oPow, oLt, oLe, oGt, oGe, oEq, oNe, oIsN, oNotN, oIsB, oNotB, oIx, oSl, oLen, oSum, oAll, oAny, oAbs, o1I, o2I, oMin2, oMax2, oMin, oMax, oMinL, oMaxL, oInt, oBool, oList, oTuple, oSorted, oIn, oAddI, oGet, oSet, oAppend, oExtend, oPop, oPopAt, oIndexL, oIndexT, oInsert, oRemove, dTupX, dBMX, dLenSet, newL, startD, wipeD, D.tyN, List.map_cons, List.map_nil, List.cons_append, List.nil_append, List.length_cons, List.length_nil, List.getElem?_cons_zero, List.getElem?_cons_succ, List.set_cons_zero, List.set_cons_succ, List.replicate, Nat.sub_self, Nat.reduceSub, Nat.reduceAdd, Nat.zero_add, kb_ii, kb_ib, kb_it, kb_is, kb_bi, kb_bb, kb_bt, kb_bs, kb_tt, kb_ti, kb_ts, kb_ss, kb_si, kb_st, kb_nt, kb_ni, kb_ns, kb_lt, kb_li, kb_ls, ex_some, seq_tup, seq_tpx, itOf_tpx, seq_lst, seq_fz, list_lst, lsts_lst, lsts_fz, itOf_tup, itOf_lst, itOf_fz, now_int, now_bl, now_non, now_str, now_tup, now_lst, isNon_non, isNon_int, isNon_tup, isNon_ref, isNon_lst, isNon_str, isNon_bl, a20, hb1, Bool.not_true]
    refine ⟨⟨okn_str (by decide +kernel), okn_str (by decide +kernel)⟩, ?_⟩
    refine ⟨shift x J, rfl, gL, fun _ => ?_, fun z => absurd inL z⟩
    have hsh : inT (shift (x - 1) J) (bd (shift x J)) = false := by
      rw [bd_shift, ← bd_shift (x - 1) J]
      cases hq : inT (shift (x - 1) J) (bd (shift (x - 1) J)) with
      | false => rfl
      | true =>
        refine absurd (fun y hy => ?_) notS
        have := List.all_eq_true.mp hq y hy
        simpa using this
    refine ⟨shift (x - 1) J, bd (shift x J), rfl, gS, by rw [shift_len, bd_shift]; exact bd_perm J, ?_⟩
    rw [hsh]
    simp only [decide_true, Bool.not_true]
    subst hv5
    refine seqG fun v6 hv6 => ?_
    simp only [dSeq, dNext, dRet, dRetN, dIfS, dAsg, dAsgG, dDrop, dPar2, dPar3, dAug, dAugS, dFor, dOp, dVar, dC, dTest, dChain, dAnd, dOr, dNot, dAndV, dOrV, dNotV, dIf, dTup, dLst, dNil, dCons, dStar, dCB, dCall, dSl, dNoPart, dPart, dBM, dRev, dNeg, dIsi, dListRg, dTupRg, dRg1, dRg2, dLc, dIt, dEnum, dZip2, dZip3, dRng1, dRng2, dYes, gN, gT, gsNil, gsCons, gSb, oI, oI0, oAdd, oMulA, oSub, oFdiv, oMod, oPow, oLt, oLe, oGt, oGe, oEq, oNe, oIsN, oNotN, oIsB, oNotB, oIx, oSl, oLen, oSum, oAll, oAny, oAbs, o1I, o2I, oMin2, oMax2, oMin, oMax, oMinL, oMaxL, oInt, oBool, oList, oTuple, oSorted, oIn, oAddI, oGet, oSet, oAppend, oExtend, oPop, oPopAt, oIndexL, oIndexT, oInsert, oRemove, dTupX, dBMX, dLenSet, newL, startD, wipeD, D.tyN, List.map_cons, List.map_nil, List.cons_append, List.nil_append, List.length_cons, List.length_nil, List.getElem?_cons_zero, List.getElem?_cons_succ, List.set_cons_zero, List.set_cons_succ, List.replicate, Nat.sub_self, Nat.reduceSub, Nat.reduceAdd, Nat.zero_add, kb_ii, kb_ib, kb_it, kb_is, kb_bi, kb_bb, kb_bt, kb_bs, kb_tt, kb_ti, kb_ts, kb_ss, kb_si, kb_st, kb_nt, kb_ni, kb_ns, kb_lt, kb_li, kb_ls, ex_some, seq_tup, seq_tpx, itOf_tpx, seq_lst, seq_fz, list_lst, lsts_lst, lsts_fz, itOf_tup, itOf_lst, itOf_fz, now_int, now_bl, now_non, now_str, now_tup, now_lst, isNon_non, isNon_int, isNon_tup, isNon_ref, isNon_lst, isNon_str, isNon_bl]
    refine ⟨J, rfl, g, fun K R R' hB hR => ?_⟩
    simp only [dSeq, dNext, dRet, dRetN, dIfS, dAsg, dAsgG, dDrop, dPar2, dPar3, dAug, dAugS, dFor, dOp, dVar, dC, dTest, dChain, dAnd, dOr, dNot, dAndV, dOrV, dNotV, dIf, dTup, dLst, dNil, dCons, dStar, dCB, dCall, dSl, dNoPart, dPart, dBM, dRev, dNeg, dIsi, dListRg, dTupRg, dRg1, dRg2, dLc, dIt, dEnum, dZip2, dZip3, dRng1, dRng2, dYes, gN, gT, gsNil, gsCons, gSb, oI, oI0, oAdd, oMulA, oSub, oFdiv, oMod, oPow, oLt, oLe, oGt, oGe, oEq, oNe, oIsN, oNotN, oIsB, oNotB, oIx, oSl, oLen, oSum, oAll, oAny, oAbs, o1I, o2I, oMin2, oMax2, oMin, oMax, oMinL, oMaxL, oInt, oBool, oList, oTuple, oSorted, oIn, oAddI, oGet, oSet, oAppend, oExtend, oPop, oPopAt, oIndexL, oIndexT, oInsert, oRemove, dTupX, dBMX, dLenSet, newL, startD, wipeD, D.tyN, List.map_cons, List.map_nil, List.cons_append, List.nil_append, List.length_cons, List.length_nil, List.getElem?_cons_zero, List.getElem?_cons_succ, List.set_cons_zero, List.set_cons_succ, List.replicate, Nat.sub_self, Nat.reduceSub, Nat.reduceAdd, Nat.zero_add, kb_ii, kb_ib, kb_it, kb_is, kb_bi, kb_bb, kb_bt, kb_bs, kb_tt, kb_ti, kb_ts, kb_ss, kb_si, kb_st, kb_nt, kb_ni, kb_ns, kb_lt, kb_li, kb_ls, ex_some, seq_tup, seq_tpx, itOf_tpx, seq_lst, seq_fz, list_lst, lsts_lst, lsts_fz, itOf_tup, itOf_lst, itOf_fz, now_int, now_bl, now_non, now_str, now_tup, now_lst, isNon_non, isNon_int, isNon_tup, isNon_ref, isNon_lst, isNon_str, isNon_bl]
    refine ⟨trivial, ?_⟩
    have hz : (decide (((R.length : Nat) : Int) = 0)) = decide (x ≤ 0) := by
      congr 1
      apply propext
      rw [← hJx, ← few_zero hB]
      omega
    subst hv6
    refine seqG fun v7 hv7 => ?_
    simp only [dSeq, dNext, dRet, dRetN, dIfS, dAsg, dAsgG, dDrop, dPar2, dPar3, dAug, dAugS, dFor, dOp, dVar, dC, dTest, dChain, dAnd, dOr, dNot, dAndV, dOrV, dNotV, dIf, dTup, dLst, dNil, dCons, dStar, dCB, dCall, dSl, dNoPart, dPart, dBM, dRev, dNeg, dIsi, dListRg, dTupRg, dRg1, dRg2, dLc, dIt, dEnum, dZip2, dZip3, dRng1, dRng2, dYes, gN, gT, gsNil, gsCons, gSb, oI, oI0, oAdd, oMulA, oSub, oFdiv, oMod, oPow, oLt, oLe, oGt, oGe, oEq, oNe, oIsN, oNotN, oIsB, oNotB, oIx, oSl, oLen, oSum, oAll, oAny, oAbs, o1I, o2I, oMin2, oMax2, oMin, oMax, oMinL, oMaxL, oInt, oBool, oList, oTuple, oSorted, oIn, oAddI, oGet, oSet, oAppend, oExtend, oPop, oPopAt, oIndexL, oIndexT, oInsert, oRemove, dTupX, dBMX, dLenSet, newL, startD, wipeD, D.tyN, List.map_cons, List.map_nil, List.cons_append, List.nil_append, List.length_cons, List.length_nil, List.getElem?_cons_zero, List.getElem?_cons_succ, List.set_cons_zero, List.set_cons_succ, List.replicate, Nat.sub_self, Nat.reduceSub, Nat.reduceAdd, Nat.zero_add, kb_ii, kb_ib, kb_it, kb_is, kb_bi, kb_bb, kb_bt, kb_bs, kb_tt, kb_ti, kb_ts, kb_ss, kb_si, kb_st, kb_nt, kb_ni, kb_ns, kb_lt, kb_li, kb_ls, ex_some, seq_tup, seq_tpx, itOf_tpx, seq_lst, seq_fz, list_lst, lsts_lst, lsts_fz, itOf_tup, itOf_lst, itOf_fz, now_int, now_bl, now_non, now_str, now_tup, now_lst, isNon_non, isNon_int, isNon_tup, isNon_ref, isNon_lst, isNon_str, isNon_bl, eqD_int, eqD_bl]
    rw [hz]
    refine ⟨⟨okn_int, okn_int⟩, ⟨okn_bl, okn_bl⟩, ?_⟩
    simp only [decide_true, Bool.not_true]
    refine ⟨J, K ++ R', rfl, g, best_perm hB hR, fun l hl => ?_⟩
    rw [best_few g hB hR] at hl
    simp only [dSeq, dNext, dRet, dRetN, dIfS, dAsg, dAsgG, dDrop, dPar2, dPar3, dAug, dAugS, dFor, dOp, dVar, dC, dTest, dChain, dAnd, dOr, dNot, dAndV, dOrV, dNotV, dIf, dTup, dLst, dNil, dCons, dStar, dCB, dCall, dSl, dNoPart, dPart, dBM, dRev, dNeg, dIsi, dListRg, dTupRg, dRg1, dRg2, dLc, dIt, dEnum, dZip2, dZip3, dRng1, dRng2, dYes, gN, gT, gsNil, gsCons, gSb, oI, oI0, oAdd, oMulA, oSub, oFdiv, oMod, oPow, oLt, oLe, oGt, oGe, oEq, oNe, oIsN, oNotN, oIsB, oNotB, oIx, oSl, oLen, oSum, oAll, oAny, oAbs, o1I, o2I, oMin2, oMax2, oMin, oMax, oMinL, oMaxL, oInt, oBool, oList, oTuple, oSorted, oIn, oAddI, oGet, oSet, oAppend, oExtend, oPop, oPopAt, oIndexL, oIndexT, oInsert, oRemove, dTupX, dBMX, dLenSet, newL, startD, wipeD, D.tyN, List.map_cons, List.map_nil, List.cons_append, List.nil_append, List.length_cons, List.length_nil, List.getElem?_cons_zero, List.getElem?_cons_succ, List.set_cons_zero, List.set_cons_succ, List.replicate, Nat.sub_self, Nat.reduceSub, Nat.reduceAdd, Nat.zero_add, kb_ii, kb_ib, kb_it, kb_is, kb_bi, kb_bb, kb_bt, kb_bs, kb_tt, kb_ti, kb_ts, kb_ss, kb_si, kb_st, kb_nt, kb_ni, kb_ns, kb_lt, kb_li, kb_ls, ex_some, seq_tup, seq_tpx, itOf_tpx, seq_lst, seq_fz, list_lst, lsts_lst, lsts_fz, itOf_tup, itOf_lst, itOf_fz, now_int, now_bl, now_non, now_str, now_tup, now_lst, isNon_non, isNon_int, isNon_tup, isNon_ref, isNon_lst, isNon_str, isNon_bl, eO, List.length_map, hl, eqD_int, decide_true, Bool.not_true]
    refine ⟨⟨okn_int, okn_int⟩, ?_⟩
    subst hv7
    refine seqG fun v8 hv8 => ?_
    simp only [dSeq, dNext, dRet, dRetN, dIfS, dAsg, dAsgG, dDrop, dPar2, dPar3, dAug, dAugS, dFor, dOp, dVar, dC, dTest, dChain, dAnd, dOr, dNot, dAndV, dOrV, dNotV, dIf, dTup, dLst, dNil, dCons, dStar, dCB, dCall, dSl, dNoPart, dPart, dBM, dRev, dNeg, dIsi, dListRg, dTupRg, dRg1, dRg2, dLc, dIt, dEnum, dZip2, dZip3, dRng1, dRng2, dYes, gN, gT, gsNil, gsCons, gSb, oI, oI0, oAdd, oMulA, oSub, oFdiv, oMod, oPow, oLt, oLe, oGt, oGe, oEq, oNe, oIsN, oNotN, oIsB, oNotB, oIx, oSl, oLen, oSum, oAll, oAny, oAbs, o1I, o2I, oMin2, oMax2, oMin, oMax, oMinL, oMaxL, oInt, oBool, oList, oTuple, oSorted, oIn, oAddI, oGet, oSet, oAppend, oExtend, oPop, oPopAt, oIndexL, oIndexT, oInsert, oRemove, dTupX, dBMX, dLenSet, newL, startD, wipeD, D.tyN, List.map_cons, List.map_nil, List.cons_append, List.nil_append, List.length_cons, List.length_nil, List.getElem?_cons_zero, List.getElem?_cons_succ, List.set_cons_zero, List.set_cons_succ, List.replicate, Nat.sub_self, Nat.reduceSub, Nat.reduceAdd, Nat.zero_add, kb_ii, kb_ib, kb_it, kb_is, kb_bi, kb_bb, kb_bt, kb_bs, kb_tt, kb_ti, kb_ts, kb_ss, kb_si, kb_st, kb_nt, kb_ni, kb_ns, kb_lt, kb_li, kb_ls, ex_some, seq_tup, seq_tpx, itOf_tpx, seq_lst, seq_fz, list_lst, lsts_lst, lsts_fz, itOf_tup, itOf_lst, itOf_fz, now_int, now_bl, now_non, now_str, now_tup, now_lst, isNon_non, isNon_int, isNon_tup, isNon_ref, isNon_lst, isNon_str, isNon_bl]
    refine ⟨small (by omega), J, K, R, R', rfl, g, hB, hR, ?_⟩
    simp only [decide_true, Bool.not_true]
    subst hv8
    refine seqG fun v9 hv9 => ?_
    simp only [dSeq, dNext, dRet, dRetN, dIfS, dAsg, dAsgG, dDrop, dPar2, dPar3, dAug, dAugS, dFor, dOp, dVar, dC, dTest, dChain, dAnd, dOr, dNot, dAndV, dOrV, dNotV, dIf, dTup, dLst, dNil, dCons, dStar, dCB, dCall, dSl, dNoPart, dPart, dBM, dRev, dNeg, dIsi, dListRg, dTupRg, dRg1, dRg2, dLc, dIt, dEnum, dZip2, dZip3, dRng1, dRng2, dYes, gN, gT, gsNil, gsCons, gSb, oI, oI0, oAdd, oMulA, oSub, oFdiv, oMod, oPow, oLt, oLe, oGt, oGe, oEq, oNe, oIsN, oNotN, oIsB, oNotB, oIx, oSl, oLen, oSum, oAll, oAny, oAbs, o1I, o2I, oMin2, oMax2, oMin, oMax, oMinL, oMaxL, oInt, oBool, oList, oTuple, oSorted, oIn, oAddI, oGet, oSet, oAppend, oExtend, oPop, oPopAt, oIndexL, oIndexT, oInsert, oRemove, dTupX, dBMX, dLenSet, newL, startD, wipeD, D.tyN, List.map_cons, List.map_nil, List.cons_append, List.nil_append, List.length_cons, List.length_nil, List.getElem?_cons_zero, List.getElem?_cons_succ, List.set_cons_zero, List.set_cons_succ, List.replicate, Nat.sub_self, Nat.reduceSub, Nat.reduceAdd, Nat.zero_add, kb_ii, kb_ib, kb_it, kb_is, kb_bi, kb_bb, kb_bt, kb_bs, kb_tt, kb_ti, kb_ts, kb_ss, kb_si, kb_st, kb_nt, kb_ni, kb_ns, kb_lt, kb_li, kb_ls, ex_some, seq_tup, seq_tpx, itOf_tpx, seq_lst, seq_fz, list_lst, lsts_lst, lsts_fz, itOf_tup, itOf_lst, itOf_fz, now_int, now_bl, now_non, now_str, now_tup, now_lst, isNon_non, isNon_int, isNon_tup, isNon_ref, isNon_lst, isNon_str, isNon_bl]
    refine ⟨p, 30, b, o, rfl, by decide, by decide, hS, hp, by omega, fun k1 o1 k10 k11 hp1 => ?_⟩
    simp only [dSeq, dNext, dRet, dRetN, dIfS, dAsg, dAsgG, dDrop, dPar2, dPar3, dAug, dAugS, dFor, dOp, dVar, dC, dTest, dChain, dAnd, dOr, dNot, dAndV, dOrV, dNotV, dIf, dTup, dLst, dNil, dCons, dStar, dCB, dCall, dSl, dNoPart, dPart, dBM, dRev, dNeg, dIsi, dListRg, dTupRg, dRg1, dRg2, dLc, dIt, dEnum, dZip2, dZip3, dRng1, dRng2, dYes, gN, gT, gsNil, gsCons, gSb, oI, oI0, oAdd, oMulA, oSub, oFdiv, oMod, oPow, oLt, oLe, oGt, oGe, oEq, oNe, oIsN, oNotN, oIsB, oNotB, oIx, oSl, oLen, oSum, oAll, oAny, oAbs, o1I, o2I, oMin2, oMax2, oMin, oMax, oMinL, oMaxL, oInt, oBool, oList, oTuple, oSorted, oIn, oAddI, oGet, oSet, oAppend, oExtend, oPop, oPopAt, oIndexL, oIndexT, oInsert, oRemove, dTupX, dBMX, dLenSet, newL, startD, wipeD, D.tyN, List.map_cons, List.map_nil, List.cons_append, List.nil_append, List.length_cons, List.length_nil, List.getElem?_cons_zero, List.getElem?_cons_succ, List.set_cons_zero, List.set_cons_succ, List.replicate, Nat.sub_self, Nat.reduceSub, Nat.reduceAdd, Nat.zero_add, kb_ii, kb_ib, kb_it, kb_is, kb_bi, kb_bb, kb_bt, kb_bs, kb_tt, kb_ti, kb_ts, kb_ss, kb_si, kb_st, kb_nt, kb_ni, kb_ns, kb_lt, kb_li, kb_ls, ex_some, seq_tup, seq_tpx, itOf_tpx, seq_lst, seq_fz, list_lst, lsts_lst, lsts_fz, itOf_tup, itOf_lst, itOf_fz, now_int, now_bl, now_non, now_str, now_tup, now_lst, isNon_non, isNon_int, isNon_tup, isNon_ref, isNon_lst, isNon_str, isNon_bl]
    refine ⟨p, 400, b + 1, o1, rfl, by decide, by decide, Sto.up_same, hp1, by omega, fun k2 o2 k20 k21 hp2 => ?_⟩
    simp only [dSeq, dNext, dRet, dRetN, dIfS, dAsg, dAsgG, dDrop, dPar2, dPar3, dAug, dAugS, dFor, dOp, dVar, dC, dTest, dChain, dAnd, dOr, dNot, dAndV, dOrV, dNotV, dIf, dTup, dLst, dNil, dCons, dStar, dCB, dCall, dSl, dNoPart, dPart, dBM, dRev, dNeg, dIsi, dListRg, dTupRg, dRg1, dRg2, dLc, dIt, dEnum, dZip2, dZip3, dRng1, dRng2, dYes, gN, gT, gsNil, gsCons, gSb, oI, oI0, oAdd, oMulA, oSub, oFdiv, oMod, oPow, oLt, oLe, oGt, oGe, oEq, oNe, oIsN, oNotN, oIsB, oNotB, oIx, oSl, oLen, oSum, oAll, oAny, oAbs, o1I, o2I, oMin2, oMax2, oMin, oMax, oMinL, oMaxL, oInt, oBool, oList, oTuple, oSorted, oIn, oAddI, oGet, oSet, oAppend, oExtend, oPop, oPopAt, oIndexL, oIndexT, oInsert, oRemove, dTupX, dBMX, dLenSet, newL, startD, wipeD, D.tyN, List.map_cons, List.map_nil, List.cons_append, List.nil_append, List.length_cons, List.length_nil, List.getElem?_cons_zero, List.getElem?_cons_succ, List.set_cons_zero, List.set_cons_succ, List.replicate, Nat.sub_self, Nat.reduceSub, Nat.reduceAdd, Nat.zero_add, kb_ii, kb_ib, kb_it, kb_is, kb_bi, kb_bb, kb_bt, kb_bs, kb_tt, kb_ti, kb_ts, kb_ss, kb_si, kb_st, kb_nt, kb_ni, kb_ns, kb_lt, kb_li, kb_ls, ex_some, seq_tup, seq_tpx, itOf_tpx, seq_lst, seq_fz, list_lst, lsts_lst, lsts_fz, itOf_tup, itOf_lst, itOf_fz, now_int, now_bl, now_non, now_str, now_tup, now_lst, isNon_non, isNon_int, isNon_tup, isNon_ref, isNon_lst, isNon_str, isNon_bl, Sto.up_up]
    refine ⟨small (by omega), small (by omega), small (by rw [List.length_map]; omega), ?_⟩
    have em : J.map eJ ++ [D.tup [.int (1 + k1), .int 0, .int k2]] = (J ++ [(⟨1 + k1, 0, k2⟩ : Job)]).map eJ := by rw [List.map_append]; rfl
    rw [em]
    have gM : GJ (J ++ [(⟨1 + k1, 0, k2⟩ : Job)]) := by
      refine ⟨by rw [List.length_append]; simp; omega, fun j hj => ?_, fun j hj => ?_, fun j hj => ?_⟩ <;> rcases List.mem_append.mp hj with z | z
      · exact g.p1 j z
      · rw [List.mem_singleton.mp z]; show 1 ≤ 1 + k1 ∧ 1 + k1 ≤ 10000; omega
      · exact g.w0 j z
      · rw [List.mem_singleton.mp z]; show (0 : Int) ≤ 0 ∧ (0 : Int) ≤ 10000; omega
      · exact g.d0 j z
      · rw [List.mem_singleton.mp z]; show 0 ≤ k2 ∧ k2 ≤ 1000000; omega
    subst hv9
    simp only [dSeq, dNext, dRet, dRetN, dIfS, dAsg, dAsgG, dDrop, dPar2, dPar3, dAug, dAugS, dFor, dOp, dVar, dC, dTest, dChain, dAnd, dOr, dNot, dAndV, dOrV, dNotV, dIf, dTup, dLst, dNil, dCons, dStar, dCB, dCall, dSl, dNoPart, dPart, dBM, dRev, dNeg, dIsi, dListRg, dTupRg, dRg1, dRg2, dLc, dIt, dEnum, dZip2, dZip3, dRng1, dRng2, dYes, gN, gT, gsNil, gsCons, gSb, oI, oI0, oAdd, oMulA, oSub, oFdiv, oMod, oPow, oLt, oLe, oGt, oGe, oEq, oNe, oIsN, oNotN, oIsB, oNotB, oIx, oSl, oLen, oSum, oAll, oAny, oAbs, o1I, o2I, oMin2, oMax2, oMin, oMax, oMinL, oMaxL, oInt, oBool, oList, oTuple, oSorted, oIn, oAddI, oGet, oSet, oAppend, oExtend, oPop, oPopAt, oIndexL, oIndexT, oInsert, oRemove, dTupX, dBMX, dLenSet, newL, startD, wipeD, D.tyN, List.map_cons, List.map_nil, List.cons_append, List.nil_append, List.length_cons, List.length_nil, List.getElem?_cons_zero, List.getElem?_cons_succ, List.set_cons_zero, List.set_cons_succ, List.replicate, Nat.sub_self, Nat.reduceSub, Nat.reduceAdd, Nat.zero_add, kb_ii, kb_ib, kb_it, kb_is, kb_bi, kb_bb, kb_bt, kb_bs, kb_tt, kb_ti, kb_ts, kb_ss, kb_si, kb_st, kb_nt, kb_ni, kb_ns, kb_lt, kb_li, kb_ls, ex_some, seq_tup, seq_tpx, itOf_tpx, seq_lst, seq_fz, list_lst, lsts_lst, lsts_fz, itOf_tup, itOf_lst, itOf_fz, now_int, now_bl, now_non, now_str, now_tup, now_lst, isNon_non, isNon_int, isNon_tup, isNon_ref, isNon_lst, isNon_str, isNon_bl]
    refine ⟨_, rfl, gM, fun K2 R2 R2' hB2 hR2 => ?_⟩
    have hm := best_more hB hB2 gM.pos
    simp only [dSeq, dNext, dRet, dRetN, dIfS, dAsg, dAsgG, dDrop, dPar2, dPar3, dAug, dAugS, dFor, dOp, dVar, dC, dTest, dChain, dAnd, dOr, dNot, dAndV, dOrV, dNotV, dIf, dTup, dLst, dNil, dCons, dStar, dCB, dCall, dSl, dNoPart, dPart, dBM, dRev, dNeg, dIsi, dListRg, dTupRg, dRg1, dRg2, dLc, dIt, dEnum, dZip2, dZip3, dRng1, dRng2, dYes, gN, gT, gsNil, gsCons, gSb, oI, oI0, oAdd, oMulA, oSub, oFdiv, oMod, oPow, oLt, oLe, oGt, oGe, oEq, oNe, oIsN, oNotN, oIsB, oNotB, oIx, oSl, oLen, oSum, oAll, oAny, oAbs, o1I, o2I, oMin2, oMax2, oMin, oMax, oMinL, oMaxL, oInt, oBool, oList, oTuple, oSorted, oIn, oAddI, oGet, oSet, oAppend, oExtend, oPop, oPopAt, oIndexL, oIndexT, oInsert, oRemove, dTupX, dBMX, dLenSet, newL, startD, wipeD, D.tyN, List.map_cons, List.map_nil, List.cons_append, List.nil_append, List.length_cons, List.length_nil, List.getElem?_cons_zero, List.getElem?_cons_succ, List.set_cons_zero, List.set_cons_succ, List.replicate, Nat.sub_self, Nat.reduceSub, Nat.reduceAdd, Nat.zero_add, kb_ii, kb_ib, kb_it, kb_is, kb_bi, kb_bb, kb_bt, kb_bs, kb_tt, kb_ti, kb_ts, kb_ss, kb_si, kb_st, kb_nt, kb_ni, kb_ns, kb_lt, kb_li, kb_ls, ex_some, seq_tup, seq_tpx, itOf_tpx, seq_lst, seq_fz, list_lst, lsts_lst, lsts_fz, itOf_tup, itOf_lst, itOf_fz, now_int, now_bl, now_non, now_str, now_tup, now_lst, isNon_non, isNon_int, isNon_tup, isNon_ref, isNon_lst, isNon_str, isNon_bl, a31]
    rw [decide_eq_true (by omega), decide_eq_true (by omega)]
    exact .here (q o2 hp2)
  by_cases hin : InT J
  · have hx0 := hJx.mp hin
    refine ⟨J, rfl, g, fun _ => ?_, fun z => absurd hin z⟩
    simp only [dSeq, dNext, dRet, dRetN, dIfS, dAsg, dAsgG, dDrop, dPar2, dPar3, dAug, dAugS, dFor, dOp, dVar, dC, dTest, dChain, dAnd, dOr, dNot, dAndV, dOrV, dNotV, dIf, dTup, dLst, dNil, dCons, dStar, dCB, dCall, dSl, dNoPart, dPart, dBM, dRev, dNeg, dIsi, dListRg, dTupRg, dRg1, dRg2, dLc, dIt, dEnum, dZip2, dZip3, dRng1, dRng2, dYes, gN, gT, gsNil, gsCons, gSb, oI, oI0, oAdd, oMulA, oSub, oFdiv, oMod, oPow, oLt, oLe, oGt, oGe, oEq, oNe, oIsN, oNotN, oIsB, oNotB, oIx, oSl, oLen, oSum, oAll, oAny, oAbs, o1I, o2I, oMin2, oMax2, oMin, oMax, oMinL, oMaxL, oInt, oBool, oList, oTuple, oSorted, oIn, oAddI, oGet, oSet, oAppend, oExtend, oPop, oPopAt, oIndexL, oIndexT, oInsert, oRemove, dTupX, dBMX, dLenSet, newL, startD, wipeD, D.tyN, List.map_cons, List.map_nil, List.cons_append, List.nil_append, List.length_cons, List.length_nil, List.getElem?_cons_zero, List.getElem?_cons_succ, List.set_cons_zero, List.set_cons_succ, List.replicate, Nat.sub_self, Nat.reduceSub, Nat.reduceAdd, Nat.zero_add, kb_ii, kb_ib, kb_it, kb_is, kb_bi, kb_bb, kb_bt, kb_bs, kb_tt, kb_ti, kb_ts, kb_ss, kb_si, kb_st, kb_nt, kb_ni, kb_ns, kb_lt, kb_li, kb_ls, ex_some, seq_tup, seq_tpx, itOf_tpx, seq_lst, seq_fz, list_lst, lsts_lst, lsts_fz, itOf_tup, itOf_lst, itOf_fz, now_int, now_bl, now_non, now_str, now_tup, now_lst, isNon_non, isNon_int, isNon_tup, isNon_ref, isNon_lst, isNon_str, isNon_bl, a20, ho1, decide_eq_true hx0, eqD_bl, decide_true, Bool.not_true]
    exact ⟨⟨okn_str (by decide +kernel), okn_str (by decide +kernel)⟩, ⟨okn_bl, okn_bl⟩, fin3⟩
  · have hx0 : ¬ x ≤ 0 := fun z => hin (hJx.mpr z)
    refine ⟨J, rfl, g, fun z => absurd z hin, fun _ bb b0 b1 => ?_⟩
    simp only [dSeq, dNext, dRet, dRetN, dIfS, dAsg, dAsgG, dDrop, dPar2, dPar3, dAug, dAugS, dFor, dOp, dVar, dC, dTest, dChain, dAnd, dOr, dNot, dAndV, dOrV, dNotV, dIf, dTup, dLst, dNil, dCons, dStar, dCB, dCall, dSl, dNoPart, dPart, dBM, dRev, dNeg, dIsi, dListRg, dTupRg, dRg1, dRg2, dLc, dIt, dEnum, dZip2, dZip3, dRng1, dRng2, dYes, gN, gT, gsNil, gsCons, gSb, oI, oI0, oAdd, oMulA, oSub, oFdiv, oMod, oPow, oLt, oLe, oGt, oGe, oEq, oNe, oIsN, oNotN, oIsB, oNotB, oIx, oSl, oLen, oSum, oAll, oAny, oAbs, o1I, o2I, oMin2, oMax2, oMin, oMax, oMinL, oMaxL, oInt, oBool, oList, oTuple, oSorted, oIn, oAddI, oGet, oSet, oAppend, oExtend, oPop, oPopAt, oIndexL, oIndexT, oInsert, oRemove, dTupX, dBMX, dLenSet, newL, startD, wipeD, D.tyN, List.map_cons, List.map_nil, List.cons_append, List.nil_append, List.length_cons, List.length_nil, List.getElem?_cons_zero, List.getElem?_cons_succ, List.set_cons_zero, List.set_cons_succ, List.replicate, Nat.sub_self, Nat.reduceSub, Nat.reduceAdd, Nat.zero_add, kb_ii, kb_ib, kb_it, kb_is, kb_bi, kb_bb, kb_bt, kb_bs, kb_tt, kb_ti, kb_ts, kb_ss, kb_si, kb_st, kb_nt, kb_ni, kb_ns, kb_lt, kb_li, kb_ls, ex_some, seq_tup, seq_tpx, itOf_tpx, seq_lst, seq_fz, list_lst, lsts_lst, lsts_fz, itOf_tup, itOf_lst, itOf_fz, now_int, now_bl, now_non, now_str, now_tup, now_lst, isNon_non, isNon_int, isNon_tup, isNon_ref, isNon_lst, isNon_str, isNon_bl, a20, ho2, decide_eq_false hx0, eqD_bl, decide_true, Bool.not_true]
    exact ⟨⟨okn_str (by decide +kernel), okn_str (by decide +kernel)⟩, ⟨okn_bl, okn_bl⟩, fin3⟩
end L45
namespace L45
open PySem PySem.Spec PySem.W PyProof.Rows L2 PL
theorem rg_nI (n : Nat) : rgD 0 (n : Int) = (List.range n).map nI := by
  unfold rgD
  rw [show ((n : Int) - 0).toNat = n by omega]
  refine List.map_congr_left fun i _ => ?_
  unfold nI
  rw [Int.zero_add]
theorem cons_erase {α : Type} : ∀ (l : List α) (j : Nat) (h : j < l.length), (l[j] :: l.eraseIdx j).Perm l
  | [], _, h => absurd h (by simp)
  | a :: r, 0, _ => List.Perm.refl _
  | a :: r, j + 1, h => by
    have h2 : j < r.length := by simpa using h
    exact (List.Perm.swap _ _ _).trans ((cons_erase r j h2).cons a)
theorem erase_nI : ∀ (l : List Nat) (j : Nat), (l.map nI).eraseIdx j = (l.eraseIdx j).map nI
  | [], j => by simp
  | a :: r, 0 => by simp
  | a :: r, j + 1 => by
    have ih := erase_nI r j
    simp [ih]
def sp__law_some : DSp := fun ds S Q => ∃ (p : Addr) (n : Nat) (b : Nat) (o : MO), ds = [.ref p, .lst ((List.range n).map nI), .int (n : Nat)] ∧ n ≤ 1000 ∧ S p = some o ∧ PotO b o ∧ b ≤ 100000 ∧ ∀ F o', Perm_ n F → PotO (b + n) o' → Q (.lst (F.map nI)) (S.up p o')
theorem pure__law_some : ∀ ds S Q, sp__law_some ds S Q → t__law_some sp__law_take (DeN Q) (startD N__law_some ds) S := by
  rintro ds S Q ⟨p, n, b, o, rfl, hn, hS, hp, hb, q⟩
  unfold t__law_some
  refine seqG fun v hv => ?_
  simp only [dSeq, dNext, dRet, dRetN, dIfS, dAsg, dAsgG, dDrop, dPar2, dPar3, dAug, dAugS, dFor, dOp, dVar, dC, dTest, dChain, dAnd, dOr, dNot, dAndV, dOrV, dNotV, dIf, dTup, dLst, dNil, dCons, dStar, dCB, dCall, dSl, dNoPart, dPart, dBM, dRev, dNeg, dIsi, dListRg, dTupRg, dRg1, dRg2, dLc, dIt, dEnum, dZip2, dZip3, dRng1, dRng2, dYes, gN, gT, gsNil, gsCons, gSb, oI, oI0, oAdd, oMulA, oSub, oFdiv, oMod, oPow, oLt, oLe, oGt, oGe, oEq, oNe, oIsN, oNotN, oIsB, oNotB, oIx, oSl, oLen, oSum, oAll, oAny, oAbs, o1I, o2I, oMin2, oMax2, oMin, oMax, oMinL, oMaxL, oInt, oBool, oList, oTuple, oSorted, oIn, oAddI, oGet, oSet, oAppend, oExtend, oPop, oPopAt, oIndexL, oIndexT, oInsert, oRemove, dTupX, dBMX, dLenSet, newL, startD, wipeD, D.tyN, List.map_cons, List.map_nil, List.cons_append, List.nil_append, List.length_cons, List.length_nil, List.getElem?_cons_zero, List.getElem?_cons_succ, List.set_cons_zero, List.set_cons_succ, List.replicate, Nat.sub_self, Nat.reduceSub, Nat.reduceAdd, Nat.zero_add, kb_ii, kb_ib, kb_it, kb_is, kb_bi, kb_bb, kb_bt, kb_bs, kb_tt, kb_ti, kb_ts, kb_ss, kb_si, kb_st, kb_nt, kb_ni, kb_ns, kb_lt, kb_li, kb_ls, ex_some, seq_tup, seq_tpx, itOf_tpx, seq_lst, seq_fz, list_lst, lsts_lst, lsts_fz, itOf_tup, itOf_lst, itOf_fz, now_int, now_bl, now_non, now_str, now_tup, now_lst, isNon_non, isNon_int, isNon_tup, isNon_ref, isNon_lst, isNon_str, isNon_bl]
  intro pr hpr
  refine ⟨Nat.zero_le _, fun pf hpf => ?_⟩
  have hrp : pr ≠ p := fun z => by subst z; rw [hpr] at hS; cases hS
  have hfr : pr ≠ pf := ne_of_in Sto.up_same hpf
  have hpf0 : S pf = none := (Ext.up hpr).none hpf
  have hfp : pf ≠ p := fun z => by subst z; rw [hpf0] at hS; cases hS
  subst hv
  refine seqG fun v2 hv2 => ?_
  refine forG fun τ hτ => ?_
  simp only [dSeq, dNext, dRet, dRetN, dIfS, dAsg, dAsgG, dDrop, dPar2, dPar3, dAug, dAugS, dFor, dOp, dVar, dC, dTest, dChain, dAnd, dOr, dNot, dAndV, dOrV, dNotV, dIf, dTup, dLst, dNil, dCons, dStar, dCB, dCall, dSl, dNoPart, dPart, dBM, dRev, dNeg, dIsi, dListRg, dTupRg, dRg1, dRg2, dLc, dIt, dEnum, dZip2, dZip3, dRng1, dRng2, dYes, gN, gT, gsNil, gsCons, gSb, oI, oI0, oAdd, oMulA, oSub, oFdiv, oMod, oPow, oLt, oLe, oGt, oGe, oEq, oNe, oIsN, oNotN, oIsB, oNotB, oIx, oSl, oLen, oSum, oAll, oAny, oAbs, o1I, o2I, oMin2, oMax2, oMin, oMax, oMinL, oMaxL, oInt, oBool, oList, oTuple, oSorted, oIn, oAddI, oGet, oSet, oAppend, oExtend, oPop, oPopAt, oIndexL, oIndexT, oInsert, oRemove, dTupX, dBMX, dLenSet, newL, startD, wipeD, D.tyN, List.map_cons, List.map_nil, List.cons_append, List.nil_append, List.length_cons, List.length_nil, List.getElem?_cons_zero, List.getElem?_cons_succ, List.set_cons_zero, List.set_cons_succ, List.replicate, Nat.sub_self, Nat.reduceSub, Nat.reduceAdd, Nat.zero_add, kb_ii, kb_ib, kb_it, kb_is, kb_bi, kb_bb, kb_bt, kb_bs, kb_tt, kb_ti, kb_ts, kb_ss, kb_si, kb_st, kb_nt, kb_ni, kb_ns, kb_lt, kb_li, kb_ls, ex_some, seq_tup, seq_tpx, itOf_tpx, seq_lst, seq_fz, list_lst, lsts_lst, lsts_fz, itOf_tup, itOf_lst, itOf_fz, now_int, now_bl, now_non, now_str, now_tup, now_lst, isNon_non, isNon_int, isNon_tup, isNon_ref, isNon_lst, isNon_str, isNon_bl]
  refine ⟨⟨by omega, by omega⟩, trivial, ?_⟩
  rw [Int.toNat_natCast]
  refine loopD_invE (α := Nat) (fun i => .int (0 + (i : Int))) (fun xs ρ S' => ∃ o5 Rl F o', ρ = [some (.ref p), some (.lst ((List.range n).map nI)), some (.int (n : Nat)), some (.ref pr), some (.ref pf), o5] ∧ F.length + xs.length = n ∧ Perm_ n (F ++ Rl) ∧ S' p = some o' ∧ PotO (b + F.length) o' ∧ S' pr = some (.lst (Rl.map nI)) ∧ S' pf = some (.lst (F.map nI)) ∧ Fr p S S') ?_ ?_ _ _ _
    ⟨none, List.range n, [], o, rfl, by simp, List.Perm.refl _, by rw [Sto.up_ne (Ne.symm hfp), Sto.up_ne (Ne.symm hrp)]; exact hS, hp, by rw [Sto.up_ne hfr]; exact Sto.up_same, Sto.up_same, (Fr.refl.new hpr).new hpf⟩ trivial
  · rintro x xs ρ S' ⟨o5, Rl, F, o', rfl, hlen, hP, hS', hp', hr', hf', hfrm⟩ _ N hN
    rw [List.length_cons] at hlen
    have hl2 := hP.len
    rw [List.length_append] at hl2
    subst hτ
    simp only [gN, List.set_cons_zero, List.set_cons_succ]
    simp only [dSeq, dNext, dRet, dRetN, dIfS, dAsg, dAsgG, dDrop, dPar2, dPar3, dAug, dAugS, dFor, dOp, dVar, dC, dTest, dChain, dAnd, dOr, dNot, dAndV, dOrV, dNotV, dIf, dTup, dLst, dNil, dCons, dStar, dCB, dCall, dSl, dNoPart, dPart, dBM, dRev, dNeg, dIsi, dListRg, dTupRg, dRg1, dRg2, dLc, dIt, dEnum, dZip2, dZip3, dRng1, dRng2, dYes, gN, gT, gsNil, gsCons, gSb, oI, oI0, oAdd, oMulA, oSub, oFdiv, oMod, oPow, oLt, oLe, oGt, oGe, oEq, oNe, oIsN, oNotN, oIsB, oNotB, oIx, oSl, oLen, oSum, oAll, oAny, oAbs, o1I, o2I, oMin2, oMax2, oMin, oMax, oMinL, oMaxL, oInt, oBool, oList, oTuple, oSorted, oIn, oAddI, oGet, oSet, oAppend, oExtend, oPop, oPopAt, oIndexL, oIndexT, oInsert, oRemove, dTupX, dBMX, dLenSet, newL, startD, wipeD, D.tyN, List.map_cons, List.map_nil, List.cons_append, List.nil_append, List.length_cons, List.length_nil, List.getElem?_cons_zero, List.getElem?_cons_succ, List.set_cons_zero, List.set_cons_succ, List.replicate, Nat.sub_self, Nat.reduceSub, Nat.reduceAdd, Nat.zero_add, kb_ii, kb_ib, kb_it, kb_is, kb_bi, kb_bb, kb_bt, kb_bs, kb_tt, kb_ti, kb_ts, kb_ss, kb_si, kb_st, kb_nt, kb_ni, kb_ns, kb_lt, kb_li, kb_ls, ex_some, seq_tup, seq_tpx, itOf_tpx, seq_lst, seq_fz, list_lst, lsts_lst, lsts_fz, itOf_tup, itOf_lst, itOf_fz, now_int, now_bl, now_non, now_str, now_tup, now_lst, isNon_non, isNon_int, isNon_tup, isNon_ref, isNon_lst, isNon_str, isNon_bl, list_ref hf', list_ref hr', seq_ref hr', List.length_map]
    refine ⟨⟨_, rfl⟩, ⟨_, rfl⟩, p, _, b + F.length, o', rfl, by omega, by omega, hS', hp', by omega, fun k o2 k0 k1 hp2 => ?_⟩
    have hr2 : S'.up p o2 pr = some (.lst (Rl.map nI)) := by rw [Sto.up_ne hrp]; exact hr'
    simp only [dSeq, dNext, dRet, dRetN, dIfS, dAsg, dAsgG, dDrop, dPar2, dPar3, dAug, dAugS, dFor, dOp, dVar, dC, dTest, dChain, dAnd, dOr, dNot, dAndV, dOrV, dNotV, dIf, dTup, dLst, dNil, dCons, dStar, dCB, dCall, dSl, dNoPart, dPart, dBM, dRev, dNeg, dIsi, dListRg, dTupRg, dRg1, dRg2, dLc, dIt, dEnum, dZip2, dZip3, dRng1, dRng2, dYes, gN, gT, gsNil, gsCons, gSb, oI, oI0, oAdd, oMulA, oSub, oFdiv, oMod, oPow, oLt, oLe, oGt, oGe, oEq, oNe, oIsN, oNotN, oIsB, oNotB, oIx, oSl, oLen, oSum, oAll, oAny, oAbs, o1I, o2I, oMin2, oMax2, oMin, oMax, oMinL, oMaxL, oInt, oBool, oList, oTuple, oSorted, oIn, oAddI, oGet, oSet, oAppend, oExtend, oPop, oPopAt, oIndexL, oIndexT, oInsert, oRemove, dTupX, dBMX, dLenSet, newL, startD, wipeD, D.tyN, List.map_cons, List.map_nil, List.cons_append, List.nil_append, List.length_cons, List.length_nil, List.getElem?_cons_zero, List.getElem?_cons_succ, List.set_cons_zero, List.set_cons_succ, List.replicate, Nat.sub_self, Nat.reduceSub, Nat.reduceAdd, Nat.zero_add, kb_ii, kb_ib, kb_it, kb_is, kb_bi, kb_bb, kb_bt, kb_bs, kb_tt, kb_ti, kb_ts, kb_ss, kb_si, kb_st, kb_nt, kb_ni, kb_ns, kb_lt, kb_li, kb_ls, ex_some, seq_tup, seq_tpx, itOf_tpx, seq_lst, seq_fz, list_lst, lsts_lst, lsts_fz, itOf_tup, itOf_lst, itOf_fz, now_int, now_bl, now_non, now_str, now_tup, now_lst, isNon_non, isNon_int, isNon_tup, isNon_ref, isNon_lst, isNon_str, isNon_bl, trk_ref hr2, List.length_map]
    have hk : k.toNat < Rl.length := by omega
    refine ⟨small (by omega), k.toNat, nI Rl[k.toNat], ixN_nn k0 (by omega), by rw [List.getElem?_map, List.getElem?_eq_getElem hk]; rfl, ?_⟩
    rw [erase_nI]
    have hf2 : ((S'.up p o2).up pr (MO.lst ((Rl.eraseIdx k.toNat).map nI))) pf = some (.lst (F.map nI)) := by rw [Sto.up_ne (Ne.symm hfr), Sto.up_ne hfp]; exact hf'
    simp only [trk_ref hf2, List.length_map]
    refine ⟨by rw [sizeLine_eq]; omega, ?_⟩
    refine hN _ _ trivial ⟨_, Rl.eraseIdx k.toNat, F ++ [Rl[k.toNat]], o2, rfl, by simp; omega, ?_, ?_, ?_, ?_, ?_, ?_⟩
    · refine List.Perm.trans ?_ hP
      rw [List.append_assoc]
      exact List.Perm.append_left F (cons_erase Rl k.toNat hk)
    · rw [Sto.up_ne (Ne.symm hfp), Sto.up_ne (Ne.symm hrp)]; exact Sto.up_same
    · rw [List.length_append]; exact hp2
    · rw [Sto.up_ne hfr]; exact Sto.up_same
    · rw [Sto.up_same, List.map_append]; rfl
    · exact ((hfrm.own).old hpr).old hpf0
  · rintro ρ S' ⟨o5, Rl, F, o', rfl, hlen, hP, hS', hp', hr', hf', hfrm⟩
    rw [List.length_nil, Nat.add_zero] at hlen
    have hl2 := hP.len
    rw [List.length_append] at hl2
    have : Rl = [] := List.eq_nil_of_length_eq_zero (by omega)
    subst this
    rw [List.append_nil] at hP
    rw [hlen] at hp'
    show v2 _ _ _
    subst hv2
    simp only [dSeq, dNext, dRet, dRetN, dIfS, dAsg, dAsgG, dDrop, dPar2, dPar3, dAug, dAugS, dFor, dOp, dVar, dC, dTest, dChain, dAnd, dOr, dNot, dAndV, dOrV, dNotV, dIf, dTup, dLst, dNil, dCons, dStar, dCB, dCall, dSl, dNoPart, dPart, dBM, dRev, dNeg, dIsi, dListRg, dTupRg, dRg1, dRg2, dLc, dIt, dEnum, dZip2, dZip3, dRng1, dRng2, dYes, gN, gT, gsNil, gsCons, gSb, oI, oI0, oAdd, oMulA, oSub, oFdiv, oMod, oPow, oLt, oLe, oGt, oGe, oEq, oNe, oIsN, oNotN, oIsB, oNotB, oIx, oSl, oLen, oSum, oAll, oAny, oAbs, o1I, o2I, oMin2, oMax2, oMin, oMax, oMinL, oMaxL, oInt, oBool, oList, oTuple, oSorted, oIn, oAddI, oGet, oSet, oAppend, oExtend, oPop, oPopAt, oIndexL, oIndexT, oInsert, oRemove, dTupX, dBMX, dLenSet, newL, startD, wipeD, D.tyN, List.map_cons, List.map_nil, List.cons_append, List.nil_append, List.length_cons, List.length_nil, List.getElem?_cons_zero, List.getElem?_cons_succ, List.set_cons_zero, List.set_cons_succ, List.replicate, Nat.sub_self, Nat.reduceSub, Nat.reduceAdd, Nat.zero_add, kb_ii, kb_ib, kb_it, kb_is, kb_bi, kb_bb, kb_bt, kb_bs, kb_tt, kb_ti, kb_ts, kb_ss, kb_si, kb_st, kb_nt, kb_ni, kb_ns, kb_lt, kb_li, kb_ls, ex_some, seq_tup, seq_tpx, itOf_tpx, seq_lst, seq_fz, list_lst, lsts_lst, lsts_fz, itOf_tup, itOf_lst, itOf_fz, now_int, now_bl, now_non, now_str, now_tup, now_lst, isNon_non, isNon_int, isNon_tup, isNon_ref, isNon_lst, isNon_str, isNon_bl]
    refine FzQ.extL (S := S.up p o') (fun a u h => ?_) hf' (by rw [Sto.up_ne hfp]; exact hpf0) (q F o' hP hp')
    by_cases e : a = p
    · subst e; rw [Sto.up_same] at h; rw [hS']; exact h
    · rw [Sto.up_ne e] at h; exact hfrm a u e h
/-! ### ends, place by place -/
theorem ends_get (J : List Job) : ∀ (o : List Nat) (h : Int) (k : Nat), k < o.length → (ends J h o)[k]? = some (h + psum J (o.take (k + 1)))
  | [], _, _, hk => by simp at hk
  | a :: o, h, 0, _ => by
    rw [ends, List.take_succ_cons, List.take_zero, psum_cons, psum_nil, Int.add_zero]; rfl
  | a :: o, h, k + 1, hk => by
    rw [ends, List.take_succ_cons, psum_cons, List.getElem?_cons_succ, ends_get J o _ k (by simpa using hk)]
    unfold pr
    rw [Int.add_assoc]
theorem psum_split (J : List Job) (o : List Nat) (k : Nat) : psum J (o.take k) + psum J (o.drop k) = psum J o := by
  rw [← psum_append, List.take_append_drop]
theorem psum_rev (J : List Job) (o : List Nat) : psum J o.reverse = psum J o := psum_perm (List.reverse_perm o)
theorem back_get (J : List Job) (o : List Nat) (k : Nat) (hk : k < o.length) : (ends J 0 o.reverse).reverse[k]? = some (psum J (o.drop k)) := by
  have hl : (ends J 0 o.reverse).length = o.length := by rw [ends_len, List.length_reverse]
  rw [List.getElem?_reverse (by omega), hl, ends_get J _ _ _ (by rw [List.length_reverse]; omega), Int.zero_add]
  have e : o.length - 1 - k + 1 = o.length - k := by omega
  rw [e, List.take_reverse, psum_rev]
  have : o.length - (o.length - k) = k := by omega
  rw [this]
theorem take_at {o : List Nat} {k : Nat} (hk : k < o.length) : o.take (k + 1) = o.take k ++ [o[k]] := by rw [List.take_succ, List.getElem?_eq_getElem hk]; rfl
theorem both_sum (J : List Job) {o : List Nat} {k : Nat} (hk : k < o.length) : psum J (o.take (k + 1)) + psum J (o.drop k) = psum J o + pr J o[k] := by
  rw [take_at hk, psum_append, psum_cons, psum_nil]
  have := psum_split J o k
  omega
theorem zip3_map {α β γ : Type} (e1 : α → D) (e2 : β → D) (e3 : γ → D) (xs : List α) (ys : List β) (zs : List γ) : List.zipWith (fun d (e : D × D) => D.tup [d, e.1, e.2]) (xs.map e1) (List.zip (ys.map e2) (zs.map e3)) = (List.zip xs (List.zip ys zs)).map fun p => .tup [e1 p.1, e2 p.2.1, e3 p.2.2] := by
  rw [List.zip_map]
  induction xs generalizing ys zs with
  | nil => simp
  | cons x xs ih =>
    cases ys with
    | nil => simp
    | cons y ys =>
      cases zs with
      | nil => simp
      | cons z zs =>
        rw [List.zip_cons_cons, List.map_cons, List.map_cons, List.zipWith_cons_cons, ih, List.zip_cons_cons, List.map_cons]; rfl
end L45
namespace L45
open PySem PySem.Spec PySem.W PyProof.Rows L2 PL
def three (J : List Job) : List Job := J.map fun j => ⟨j.p, 3, j.d⟩
theorem three_len (J : List Job) : (three J).length = J.length := by unfold three; rw [List.length_map]
theorem gj_three {J : List Job} {i : Nat} (h : i < J.length) : gj (three J) i = ⟨(gj J i).p, 3, (gj J i).d⟩ := by
  unfold gj three
  rw [List.getD_eq_getElem?_getD, List.getD_eq_getElem?_getD, List.getElem?_map, List.getElem?_eq_getElem h]; rfl
theorem GJ.three {J : List Job} (g : GJ J) : GJ (three J) := by
  refine ⟨by rw [three_len]; exact g.few, fun j hj => ?_, fun j hj => ?_, fun j hj => ?_⟩ <;> obtain ⟨k, hk, rfl⟩ := List.mem_map.mp hj
  · exact g.p1 k hk
  · show (0:Int) ≤ 3 ∧ (3:Int) ≤ 10000; decide
  · exact g.d0 k hk
def kp (J : List Job) (i : Nat) : Int := (gj J i).p
def bp (J : List Job) : List Nat := sortBy (kp J) J.length
theorem bp_perm (J : List Job) : Perm_ (three J).length (bp J) := by rw [three_len]; exact sortBy_perm _ _
theorem bp_smith (J : List Job) : Smith (three J) (bp J) := by
  refine List.Pairwise.imp_of_mem (fun {a b} ha hb h => ?_) (sortBy_sorted (kp J) J.length)
  have h1 := (sortBy_perm (kp J) J.length).lt ha
  have h2 := (sortBy_perm (kp J) J.length).lt hb
  unfold pr wt
  rw [gj_three h1, gj_three h2]
  show (gj J a).p * 3 ≤ (gj J b).p * 3
  unfold kp at h
  omega
theorem psum_all (J : List Job) : psum J (List.range J.length) = (J.map fun j => j.p).sum := by
  unfold psum
  congr 1
  refine List.ext_getElem (by simp) fun i h1 h2 => ?_
  rw [List.getElem_map, List.getElem_map, List.getElem_range]
  unfold gj
  rw [List.getD_eq_getElem?_getD, List.getElem?_eq_getElem (by simpa using h2)]; rfl
theorem psum_whole {J : List Job} {F : List Nat} (h : Perm_ J.length F) : psum J F = (J.map fun j => j.p).sum := by rw [← psum_all]; exact psum_perm h
theorem sum_p_bd : ∀ {J : List Job}, (∀ j ∈ J, 1 ≤ j.p ∧ j.p ≤ 30) → 0 ≤ (J.map fun j => j.p).sum ∧ (J.map fun j => j.p).sum ≤ 30 * (J.length : Int)
  | [], _ => by simp
  | a :: J, h => by
    have := sum_p_bd fun j hj => h j (List.mem_cons_of_mem _ hj)
    have := h a List.mem_cons_self
    rw [List.map_cons, List.sum_cons, List.length_cons]
    omega
theorem ends_last {J : List Job} {F : List Nat} (h : F ≠ []) : atI ((ends J 0 F).map D.int) (-1) = some (.int (psum J F)) := by
  have hl : 0 < F.length := List.length_pos_iff.mpr h
  have hl2 : ((ends J 0 F).map D.int).length = F.length := by rw [List.length_map, ends_len]
  have hne : (ends J 0 F).map D.int ≠ [] := fun z => by rw [z] at hl2; simp at hl2; omega
  rw [atI_last hne, List.getLast_eq_getElem]
  congr 1
  have e := ends_get J F 0 (F.length - 1) (by omega)
  rw [show F.length - 1 + 1 = F.length by omega, List.take_length, Int.zero_add] at e
  have hk : F.length - 1 < (ends J 0 F).length := by rw [ends_len]; omega
  rw [List.getElem?_eq_getElem hk] at e
  rw [List.getElem_map]
  simp only [hl2]
  rw [Option.some.inj e]
theorem ends_at {J : List Job} {F : List Nat} {k : Nat} {e : Int} (h : (ends J 0 F)[k]? = some e) : atI ((ends J 0 F).map D.int) ((k : Nat) : Int) = some (.int e) := by
  have hk : k < (ends J 0 F).length := (List.getElem?_eq_some_iff.mp h).1
  rw [atI_map, atI_nn (0 : Int) (by omega) (by omega), Int.toNat_natCast, List.getD_eq_getElem?_getD, h]; rfl
theorem first_nd {F : List Nat} {k a : Nat} (hn : F.Nodup) (h : F[k]? = some a) : firstAt (cI F) ((a : Nat) : Int) k := by
  refine ⟨by unfold cI; rw [List.getElem?_map, h]; rfl, fun m hm z => ?_⟩
  unfold cI at z
  obtain ⟨hk, hke⟩ := List.getElem?_eq_some_iff.mp h
  rw [List.getElem?_map, List.getElem?_eq_getElem (show m < F.length by omega)] at z
  have z2 : ((F[m] : Nat) : Int) = (a : Int) := Option.some.inj z
  have := (List.nodup_iff_pairwise_ne.mp hn)
  have := List.pairwise_iff_getElem.mp this m k (by omega) hk hm
  omega
theorem zip3_mem {α β γ : Type} {xs : List α} {ys : List β} {zs : List γ} {q : α × β × γ} (h : q ∈ List.zip xs (List.zip ys zs)) : ∃ k : Nat, xs[k]? = some q.1 ∧ ys[k]? = some q.2.1 ∧ zs[k]? = some q.2.2 := by
  obtain ⟨k, hk, e⟩ := List.getElem_of_mem h
  refine ⟨k, ?_⟩
  rw [List.getElem_zip] at e
  rw [List.length_zip, List.length_zip] at hk
  subst e
  simp only [List.getElem_zip]
  exact ⟨List.getElem?_eq_getElem (by omega), List.getElem?_eq_getElem (by omega), List.getElem?_eq_getElem (by omega)⟩
def sp__law_are_ends_right : DSp := fun ds S Q => ∃ (p : Addr) (J : List Job) (b : Nat) (o : MO), ds = [.ref p, eJs J] ∧ S p = some o ∧ PotO b o ∧ b ≤ 90000 ∧ DJ J ∧ ∀ o', PotO (b + J.length + 1) o' → Q (.bl true) (S.up p o')
theorem pure__law_are_ends_right : ∀ ds S Q, sp__law_are_ends_right ds S Q → t__law_are_ends_right sp_total_wait sp_least_wait sp_shows_least_wait sp__law_some sp_ends_of sp__law_take sp_job_done_at (DeN Q) (startD N__law_are_ends_right ds) S := by
  rintro ds S Q ⟨p, J, b, o, rfl, hS, hp, hb, dj, q⟩
  have g := dj.gj
  have h1 := dj.n1
  have h20 := dj.n20
  unfold t__law_are_ends_right
  refine seqG fun v hv => ?_
  simp only [dSeq, dNext, dRet, dRetN, dIfS, dAsg, dAsgG, dDrop, dPar2, dPar3, dAug, dAugS, dFor, dOp, dVar, dC, dTest, dChain, dAnd, dOr, dNot, dAndV, dOrV, dNotV, dIf, dTup, dLst, dNil, dCons, dStar, dCB, dCall, dSl, dNoPart, dPart, dBM, dRev, dNeg, dIsi, dListRg, dTupRg, dRg1, dRg2, dLc, dIt, dEnum, dZip2, dZip3, dRng1, dRng2, dYes, gN, gT, gsNil, gsCons, gSb, oI, oI0, oAdd, oMulA, oSub, oFdiv, oMod, oPow, oLt, oLe, oGt, oGe, oEq, oNe, oIsN, oNotN, oIsB, oNotB, oIx, oSl, oLen, oSum, oAll, oAny, oAbs, o1I, o2I, oMin2, oMax2, oMin, oMax, oMinL, oMaxL, oInt, oBool, oList, oTuple, oSorted, oIn, oAddI, oGet, oSet, oAppend, oExtend, oPop, oPopAt, oIndexL, oIndexT, oInsert, oRemove, dTupX, dBMX, dLenSet, newL, startD, wipeD, D.tyN, List.map_cons, List.map_nil, List.cons_append, List.nil_append, List.length_cons, List.length_nil, List.getElem?_cons_zero, List.getElem?_cons_succ, List.set_cons_zero, List.set_cons_succ, List.replicate, Nat.sub_self, Nat.reduceSub, Nat.reduceAdd, Nat.zero_add, kb_ii, kb_ib, kb_it, kb_is, kb_bi, kb_bb, kb_bt, kb_bs, kb_tt, kb_ti, kb_ts, kb_ss, kb_si, kb_st, kb_nt, kb_ni, kb_ns, kb_lt, kb_li, kb_ls, ex_some, seq_tup, seq_tpx, itOf_tpx, seq_lst, seq_fz, list_lst, lsts_lst, lsts_fz, itOf_tup, itOf_lst, itOf_fz, now_int, now_bl, now_non, now_str, now_tup, now_lst, isNon_non, isNon_int, isNon_tup, isNon_ref, isNon_lst, isNon_str, isNon_bl, eJs]
  refine lc_mapE J eJ (fun j => D.tup [.int j.p, .int 3, .int j.d]) (fun _ _ => trivial) (small (by omega)) (fun j hj S' e N M h => ?_) ?_
  · simp only [dSeq, dNext, dRet, dRetN, dIfS, dAsg, dAsgG, dDrop, dPar2, dPar3, dAug, dAugS, dFor, dOp, dVar, dC, dTest, dChain, dAnd, dOr, dNot, dAndV, dOrV, dNotV, dIf, dTup, dLst, dNil, dCons, dStar, dCB, dCall, dSl, dNoPart, dPart, dBM, dRev, dNeg, dIsi, dListRg, dTupRg, dRg1, dRg2, dLc, dIt, dEnum, dZip2, dZip3, dRng1, dRng2, dYes, gN, gT, gsNil, gsCons, gSb, oI, oI0, oAdd, oMulA, oSub, oFdiv, oMod, oPow, oLt, oLe, oGt, oGe, oEq, oNe, oIsN, oNotN, oIsB, oNotB, oIx, oSl, oLen, oSum, oAll, oAny, oAbs, o1I, o2I, oMin2, oMax2, oMin, oMax, oMinL, oMaxL, oInt, oBool, oList, oTuple, oSorted, oIn, oAddI, oGet, oSet, oAppend, oExtend, oPop, oPopAt, oIndexL, oIndexT, oInsert, oRemove, dTupX, dBMX, dLenSet, newL, startD, wipeD, D.tyN, List.map_cons, List.map_nil, List.cons_append, List.nil_append, List.length_cons, List.length_nil, List.getElem?_cons_zero, List.getElem?_cons_succ, List.set_cons_zero, List.set_cons_succ, List.replicate, Nat.sub_self, Nat.reduceSub, Nat.reduceAdd, Nat.zero_add, kb_ii, kb_ib, kb_it, kb_is, kb_bi, kb_bb, kb_bt, kb_bs, kb_tt, kb_ti, kb_ts, kb_ss, kb_si, kb_st, kb_nt, kb_ni, kb_ns, kb_lt, kb_li, kb_ls, ex_some, seq_tup, seq_tpx, itOf_tpx, seq_lst, seq_fz, list_lst, lsts_lst, lsts_fz, itOf_tup, itOf_lst, itOf_fz, now_int, now_bl, now_non, now_str, now_tup, now_lst, isNon_non, isNon_int, isNon_tup, isNon_ref, isNon_lst, isNon_str, isNon_bl, eJ]
    exact ⟨trivial, small (by omega), h⟩
  have e3 : J.map (fun j => D.tup [.int j.p, .int 3, .int j.d]) = (three J).map eJ := by unfold three; rw [List.map_map]; rfl
  simp only [dSeq, dNext, dRet, dRetN, dIfS, dAsg, dAsgG, dDrop, dPar2, dPar3, dAug, dAugS, dFor, dOp, dVar, dC, dTest, dChain, dAnd, dOr, dNot, dAndV, dOrV, dNotV, dIf, dTup, dLst, dNil, dCons, dStar, dCB, dCall, dSl, dNoPart, dPart, dBM, dRev, dNeg, dIsi, dListRg, dTupRg, dRg1, dRg2, dLc, dIt, dEnum, dZip2, dZip3, dRng1, dRng2, dYes, gN, gT, gsNil, gsCons, gSb, oI, oI0, oAdd, oMulA, oSub, oFdiv, oMod, oPow, oLt, oLe, oGt, oGe, oEq, oNe, oIsN, oNotN, oIsB, oNotB, oIx, oSl, oLen, oSum, oAll, oAny, oAbs, o1I, o2I, oMin2, oMax2, oMin, oMax, oMinL, oMaxL, oInt, oBool, oList, oTuple, oSorted, oIn, oAddI, oGet, oSet, oAppend, oExtend, oPop, oPopAt, oIndexL, oIndexT, oInsert, oRemove, dTupX, dBMX, dLenSet, newL, startD, wipeD, D.tyN, List.map_cons, List.map_nil, List.cons_append, List.nil_append, List.length_cons, List.length_nil, List.getElem?_cons_zero, List.getElem?_cons_succ, List.set_cons_zero, List.set_cons_succ, List.replicate, Nat.sub_self, Nat.reduceSub, Nat.reduceAdd, Nat.zero_add, kb_ii, kb_ib, kb_it, kb_is, kb_bi, kb_bb, kb_bt, kb_bs, kb_tt, kb_ti, kb_ts, kb_ss, kb_si, kb_st, kb_nt, kb_ni, kb_ns, kb_lt, kb_li, kb_ls, ex_some, seq_tup, seq_tpx, itOf_tpx, seq_lst, seq_fz, list_lst, lsts_lst, lsts_fz, itOf_tup, itOf_lst, itOf_fz, now_int, now_bl, now_non, now_str, now_tup, now_lst, isNon_non, isNon_int, isNon_tup, isNon_ref, isNon_lst, isNon_str, isNon_bl]
  rw [e3]
  subst hv
  refine seqG fun v2 hv2 => ?_
  simp only [dSeq, dNext, dRet, dRetN, dIfS, dAsg, dAsgG, dDrop, dPar2, dPar3, dAug, dAugS, dFor, dOp, dVar, dC, dTest, dChain, dAnd, dOr, dNot, dAndV, dOrV, dNotV, dIf, dTup, dLst, dNil, dCons, dStar, dCB, dCall, dSl, dNoPart, dPart, dBM, dRev, dNeg, dIsi, dListRg, dTupRg, dRg1, dRg2, dLc, dIt, dEnum, dZip2, dZip3, dRng1, dRng2, dYes, gN, gT, gsNil, gsCons, gSb, oI, oI0, oAdd, oMulA, oSub, oFdiv, oMod, oPow, oLt, oLe, oGt, oGe, oEq, oNe, oIsN, oNotN, oIsB, oNotB, oIx, oSl, oLen, oSum, oAll, oAny, oAbs, o1I, o2I, oMin2, oMax2, oMin, oMax, oMinL, oMaxL, oInt, oBool, oList, oTuple, oSorted, oIn, oAddI, oGet, oSet, oAppend, oExtend, oPop, oPopAt, oIndexL, oIndexT, oInsert, oRemove, dTupX, dBMX, dLenSet, newL, startD, wipeD, D.tyN, List.map_cons, List.map_nil, List.cons_append, List.nil_append, List.length_cons, List.length_nil, List.getElem?_cons_zero, List.getElem?_cons_succ, List.set_cons_zero, List.set_cons_succ, List.replicate, Nat.sub_self, Nat.reduceSub, Nat.reduceAdd, Nat.zero_add, kb_ii, kb_ib, kb_it, kb_is, kb_bi, kb_bb, kb_bt, kb_bs, kb_tt, kb_ti, kb_ts, kb_ss, kb_si, kb_st, kb_nt, kb_ni, kb_ns, kb_lt, kb_li, kb_ls, ex_some, seq_tup, seq_tpx, itOf_tpx, seq_lst, seq_fz, list_lst, lsts_lst, lsts_fz, itOf_tup, itOf_lst, itOf_fz, now_int, now_bl, now_non, now_str, now_tup, now_lst, isNon_non, isNon_int, isNon_tup, isNon_ref, isNon_lst, isNon_str, isNon_bl, enum_map]
  refine lc_mapE (J.zipIdx 0) (fun q => D.tup [.int (q.2 : Nat), eJ q.1]) (fun q => eP (q.1.p, ((q.2 : Nat) : Int))) (fun _ _ => trivial) (small (by simp; omega)) (fun q hq S' e N M h => ?_) ?_
  · simp only [dSeq, dNext, dRet, dRetN, dIfS, dAsg, dAsgG, dDrop, dPar2, dPar3, dAug, dAugS, dFor, dOp, dVar, dC, dTest, dChain, dAnd, dOr, dNot, dAndV, dOrV, dNotV, dIf, dTup, dLst, dNil, dCons, dStar, dCB, dCall, dSl, dNoPart, dPart, dBM, dRev, dNeg, dIsi, dListRg, dTupRg, dRg1, dRg2, dLc, dIt, dEnum, dZip2, dZip3, dRng1, dRng2, dYes, gN, gT, gsNil, gsCons, gSb, oI, oI0, oAdd, oMulA, oSub, oFdiv, oMod, oPow, oLt, oLe, oGt, oGe, oEq, oNe, oIsN, oNotN, oIsB, oNotB, oIx, oSl, oLen, oSum, oAll, oAny, oAbs, o1I, o2I, oMin2, oMax2, oMin, oMax, oMinL, oMaxL, oInt, oBool, oList, oTuple, oSorted, oIn, oAddI, oGet, oSet, oAppend, oExtend, oPop, oPopAt, oIndexL, oIndexT, oInsert, oRemove, dTupX, dBMX, dLenSet, newL, startD, wipeD, D.tyN, List.map_cons, List.map_nil, List.cons_append, List.nil_append, List.length_cons, List.length_nil, List.getElem?_cons_zero, List.getElem?_cons_succ, List.set_cons_zero, List.set_cons_succ, List.replicate, Nat.sub_self, Nat.reduceSub, Nat.reduceAdd, Nat.zero_add, kb_ii, kb_ib, kb_it, kb_is, kb_bi, kb_bb, kb_bt, kb_bs, kb_tt, kb_ti, kb_ts, kb_ss, kb_si, kb_st, kb_nt, kb_ni, kb_ns, kb_lt, kb_li, kb_ls, ex_some, seq_tup, seq_tpx, itOf_tpx, seq_lst, seq_fz, list_lst, lsts_lst, lsts_fz, itOf_tup, itOf_lst, itOf_fz, now_int, now_bl, now_non, now_str, now_tup, now_lst, isNon_non, isNon_int, isNon_tup, isNon_ref, isNon_lst, isNon_str, isNon_bl, eJ, a30]
    exact ⟨trivial, small (by simp), h⟩
  have em : (J.zipIdx 0).map (fun q => eP (q.1.p, ((q.2 : Nat) : Int))) = ((List.range J.length).map fun i => (kp J i, (i : Int))).map eP := by
    rw [show (List.range J.length).map (fun i => (kp J i, (i : Int))) = (J.zipIdx 0).map (fun q => (q.1.p, ((q.2 : Nat) : Int))) from (zipIdx_range J (fun j => j.p)).symm, List.map_map]; rfl
  simp only [dSeq, dNext, dRet, dRetN, dIfS, dAsg, dAsgG, dDrop, dPar2, dPar3, dAug, dAugS, dFor, dOp, dVar, dC, dTest, dChain, dAnd, dOr, dNot, dAndV, dOrV, dNotV, dIf, dTup, dLst, dNil, dCons, dStar, dCB, dCall, dSl, dNoPart, dPart, dBM, dRev, dNeg, dIsi, dListRg, dTupRg, dRg1, dRg2, dLc, dIt, dEnum, dZip2, dZip3, dRng1, dRng2, dYes, gN, gT, gsNil, gsCons, gSb, oI, oI0, oAdd, oMulA, oSub, oFdiv, oMod, oPow, oLt, oLe, oGt, oGe, oEq, oNe, oIsN, oNotN, oIsB, oNotB, oIx, oSl, oLen, oSum, oAll, oAny, oAbs, o1I, o2I, oMin2, oMax2, oMin, oMax, oMinL, oMaxL, oInt, oBool, oList, oTuple, oSorted, oIn, oAddI, oGet, oSet, oAppend, oExtend, oPop, oPopAt, oIndexL, oIndexT, oInsert, oRemove, dTupX, dBMX, dLenSet, newL, startD, wipeD, D.tyN, List.map_cons, List.map_nil, List.cons_append, List.nil_append, List.length_cons, List.length_nil, List.getElem?_cons_zero, List.getElem?_cons_succ, List.set_cons_zero, List.set_cons_succ, List.replicate, Nat.sub_self, Nat.reduceSub, Nat.reduceAdd, Nat.zero_add, kb_ii, kb_ib, kb_it, kb_is, kb_bi, kb_bb, kb_bt, kb_bs, kb_tt, kb_ti, kb_ts, kb_ss, kb_si, kb_st, kb_nt, kb_ni, kb_ns, kb_lt, kb_li, kb_ls, ex_some, seq_tup, seq_tpx, itOf_tpx, seq_lst, seq_fz, list_lst, lsts_lst, lsts_fz, itOf_tup, itOf_lst, itOf_fz, now_int, now_bl, now_non, now_str, now_tup, now_lst, isNon_non, isNon_int, isNon_tup, isNon_ref, isNon_lst, isNon_str, isNon_bl]
  rw [em, sort_pairs, sortBy_pairs]
  refine ⟨⟨okn_pairs, akin_pairs, sortable_pairs, small (by simp; omega)⟩, ?_⟩
  rw [List.map_map]
  refine lc_mapE (sortBy (kp J) J.length) (eP ∘ fun i => (kp J i, (i : Int))) nI (fun _ _ => trivial) (small (by rw [(sortBy_perm (kp J) J.length).len]; omega)) (fun i hi S' e N M h => ?_) ?_
  · simp only [dSeq, dNext, dRet, dRetN, dIfS, dAsg, dAsgG, dDrop, dPar2, dPar3, dAug, dAugS, dFor, dOp, dVar, dC, dTest, dChain, dAnd, dOr, dNot, dAndV, dOrV, dNotV, dIf, dTup, dLst, dNil, dCons, dStar, dCB, dCall, dSl, dNoPart, dPart, dBM, dRev, dNeg, dIsi, dListRg, dTupRg, dRg1, dRg2, dLc, dIt, dEnum, dZip2, dZip3, dRng1, dRng2, dYes, gN, gT, gsNil, gsCons, gSb, oI, oI0, oAdd, oMulA, oSub, oFdiv, oMod, oPow, oLt, oLe, oGt, oGe, oEq, oNe, oIsN, oNotN, oIsB, oNotB, oIx, oSl, oLen, oSum, oAll, oAny, oAbs, o1I, o2I, oMin2, oMax2, oMin, oMax, oMinL, oMaxL, oInt, oBool, oList, oTuple, oSorted, oIn, oAddI, oGet, oSet, oAppend, oExtend, oPop, oPopAt, oIndexL, oIndexT, oInsert, oRemove, dTupX, dBMX, dLenSet, newL, startD, wipeD, D.tyN, List.map_cons, List.map_nil, List.cons_append, List.nil_append, List.length_cons, List.length_nil, List.getElem?_cons_zero, List.getElem?_cons_succ, List.set_cons_zero, List.set_cons_succ, List.replicate, Nat.sub_self, Nat.reduceSub, Nat.reduceAdd, Nat.zero_add, kb_ii, kb_ib, kb_it, kb_is, kb_bi, kb_bb, kb_bt, kb_bs, kb_tt, kb_ti, kb_ts, kb_ss, kb_si, kb_st, kb_nt, kb_ni, kb_ns, kb_lt, kb_li, kb_ls, ex_some, seq_tup, seq_tpx, itOf_tpx, seq_lst, seq_fz, list_lst, lsts_lst, lsts_fz, itOf_tup, itOf_lst, itOf_fz, now_int, now_bl, now_non, now_str, now_tup, now_lst, isNon_non, isNon_int, isNon_tup, isNon_ref, isNon_lst, isNon_str, isNon_bl, Function.comp, eP]
    exact ⟨trivial, h⟩
  simp only [dSeq, dNext, dRet, dRetN, dIfS, dAsg, dAsgG, dDrop, dPar2, dPar3, dAug, dAugS, dFor, dOp, dVar, dC, dTest, dChain, dAnd, dOr, dNot, dAndV, dOrV, dNotV, dIf, dTup, dLst, dNil, dCons, dStar, dCB, dCall, dSl, dNoPart, dPart, dBM, dRev, dNeg, dIsi, dListRg, dTupRg, dRg1, dRg2, dLc, dIt, dEnum, dZip2, dZip3, dRng1, dRng2, dYes, gN, gT, gsNil, gsCons, gSb, oI, oI0, oAdd, oMulA, oSub, oFdiv, oMod, oPow, oLt, oLe, oGt, oGe, oEq, oNe, oIsN, oNotN, oIsB, oNotB, oIx, oSl, oLen, oSum, oAll, oAny, oAbs, o1I, o2I, oMin2, oMax2, oMin, oMax, oMinL, oMaxL, oInt, oBool, oList, oTuple, oSorted, oIn, oAddI, oGet, oSet, oAppend, oExtend, oPop, oPopAt, oIndexL, oIndexT, oInsert, oRemove, dTupX, dBMX, dLenSet, newL, startD, wipeD, D.tyN, List.map_cons, List.map_nil, List.cons_append, List.nil_append, List.length_cons, List.length_nil, List.getElem?_cons_zero, List.getElem?_cons_succ, List.set_cons_zero, List.set_cons_succ, List.replicate, Nat.sub_self, Nat.reduceSub, Nat.reduceAdd, Nat.zero_add, kb_ii, kb_ib, kb_it, kb_is, kb_bi, kb_bb, kb_bt, kb_bs, kb_tt, kb_ti, kb_ts, kb_ss, kb_si, kb_st, kb_nt, kb_ni, kb_ns, kb_lt, kb_li, kb_ls, ex_some, seq_tup, seq_tpx, itOf_tpx, seq_lst, seq_fz, list_lst, lsts_lst, lsts_fz, itOf_tup, itOf_lst, itOf_fz, now_int, now_bl, now_non, now_str, now_tup, now_lst, isNon_non, isNon_int, isNon_tup, isNon_ref, isNon_lst, isNon_str, isNon_bl]
  subst hv2
  refine seqG fun v3 hv3 => ?_
  simp only [dSeq, dNext, dRet, dRetN, dIfS, dAsg, dAsgG, dDrop, dPar2, dPar3, dAug, dAugS, dFor, dOp, dVar, dC, dTest, dChain, dAnd, dOr, dNot, dAndV, dOrV, dNotV, dIf, dTup, dLst, dNil, dCons, dStar, dCB, dCall, dSl, dNoPart, dPart, dBM, dRev, dNeg, dIsi, dListRg, dTupRg, dRg1, dRg2, dLc, dIt, dEnum, dZip2, dZip3, dRng1, dRng2, dYes, gN, gT, gsNil, gsCons, gSb, oI, oI0, oAdd, oMulA, oSub, oFdiv, oMod, oPow, oLt, oLe, oGt, oGe, oEq, oNe, oIsN, oNotN, oIsB, oNotB, oIx, oSl, oLen, oSum, oAll, oAny, oAbs, o1I, o2I, oMin2, oMax2, oMin, oMax, oMinL, oMaxL, oInt, oBool, oList, oTuple, oSorted, oIn, oAddI, oGet, oSet, oAppend, oExtend, oPop, oPopAt, oIndexL, oIndexT, oInsert, oRemove, dTupX, dBMX, dLenSet, newL, startD, wipeD, D.tyN, List.map_cons, List.map_nil, List.cons_append, List.nil_append, List.length_cons, List.length_nil, List.getElem?_cons_zero, List.getElem?_cons_succ, List.set_cons_zero, List.set_cons_succ, List.replicate, Nat.sub_self, Nat.reduceSub, Nat.reduceAdd, Nat.zero_add, kb_ii, kb_ib, kb_it, kb_is, kb_bi, kb_bb, kb_bt, kb_bs, kb_tt, kb_ti, kb_ts, kb_ss, kb_si, kb_st, kb_nt, kb_ni, kb_ns, kb_lt, kb_li, kb_ls, ex_some, seq_tup, seq_tpx, itOf_tpx, seq_lst, seq_fz, list_lst, lsts_lst, lsts_fz, itOf_tup, itOf_lst, itOf_fz, now_int, now_bl, now_non, now_str, now_tup, now_lst, isNon_non, isNon_int, isNon_tup, isNon_ref, isNon_lst, isNon_str, isNon_bl]
  refine ⟨_, .same (.same .nil), three J, bp J, rfl, g.three, bp_perm J, ?_⟩
  subst hv3
  refine seqG fun v4 hv4 => ?_
  simp only [dSeq, dNext, dRet, dRetN, dIfS, dAsg, dAsgG, dDrop, dPar2, dPar3, dAug, dAugS, dFor, dOp, dVar, dC, dTest, dChain, dAnd, dOr, dNot, dAndV, dOrV, dNotV, dIf, dTup, dLst, dNil, dCons, dStar, dCB, dCall, dSl, dNoPart, dPart, dBM, dRev, dNeg, dIsi, dListRg, dTupRg, dRg1, dRg2, dLc, dIt, dEnum, dZip2, dZip3, dRng1, dRng2, dYes, gN, gT, gsNil, gsCons, gSb, oI, oI0, oAdd, oMulA, oSub, oFdiv, oMod, oPow, oLt, oLe, oGt, oGe, oEq, oNe, oIsN, oNotN, oIsB, oNotB, oIx, oSl, oLen, oSum, oAll, oAny, oAbs, o1I, o2I, oMin2, oMax2, oMin, oMax, oMinL, oMaxL, oInt, oBool, oList, oTuple, oSorted, oIn, oAddI, oGet, oSet, oAppend, oExtend, oPop, oPopAt, oIndexL, oIndexT, oInsert, oRemove, dTupX, dBMX, dLenSet, newL, startD, wipeD, D.tyN, List.map_cons, List.map_nil, List.cons_append, List.nil_append, List.length_cons, List.length_nil, List.getElem?_cons_zero, List.getElem?_cons_succ, List.set_cons_zero, List.set_cons_succ, List.replicate, Nat.sub_self, Nat.reduceSub, Nat.reduceAdd, Nat.zero_add, kb_ii, kb_ib, kb_it, kb_is, kb_bi, kb_bb, kb_bt, kb_bs, kb_tt, kb_ti, kb_ts, kb_ss, kb_si, kb_st, kb_nt, kb_ni, kb_ns, kb_lt, kb_li, kb_ls, ex_some, seq_tup, seq_tpx, itOf_tpx, seq_lst, seq_fz, list_lst, lsts_lst, lsts_fz, itOf_tup, itOf_lst, itOf_fz, now_int, now_bl, now_non, now_str, now_tup, now_lst, isNon_non, isNon_int, isNon_tup, isNon_ref, isNon_lst, isNon_str, isNon_bl]
  refine ⟨_, .same .nil, three J, rfl, g.three, fun o2 ho2 hs2 => ?_⟩
  rw [smith_same hs2 (bp_smith J) ho2 (bp_perm J)]
  simp only [dSeq, dNext, dRet, dRetN, dIfS, dAsg, dAsgG, dDrop, dPar2, dPar3, dAug, dAugS, dFor, dOp, dVar, dC, dTest, dChain, dAnd, dOr, dNot, dAndV, dOrV, dNotV, dIf, dTup, dLst, dNil, dCons, dStar, dCB, dCall, dSl, dNoPart, dPart, dBM, dRev, dNeg, dIsi, dListRg, dTupRg, dRg1, dRg2, dLc, dIt, dEnum, dZip2, dZip3, dRng1, dRng2, dYes, gN, gT, gsNil, gsCons, gSb, oI, oI0, oAdd, oMulA, oSub, oFdiv, oMod, oPow, oLt, oLe, oGt, oGe, oEq, oNe, oIsN, oNotN, oIsB, oNotB, oIx, oSl, oLen, oSum, oAll, oAny, oAbs, o1I, o2I, oMin2, oMax2, oMin, oMax, oMinL, oMaxL, oInt, oBool, oList, oTuple, oSorted, oIn, oAddI, oGet, oSet, oAppend, oExtend, oPop, oPopAt, oIndexL, oIndexT, oInsert, oRemove, dTupX, dBMX, dLenSet, newL, startD, wipeD, D.tyN, List.map_cons, List.map_nil, List.cons_append, List.nil_append, List.length_cons, List.length_nil, List.getElem?_cons_zero, List.getElem?_cons_succ, List.set_cons_zero, List.set_cons_succ, List.replicate, Nat.sub_self, Nat.reduceSub, Nat.reduceAdd, Nat.zero_add, kb_ii, kb_ib, kb_it, kb_is, kb_bi, kb_bb, kb_bt, kb_bs, kb_tt, kb_ti, kb_ts, kb_ss, kb_si, kb_st, kb_nt, kb_ni, kb_ns, kb_lt, kb_li, kb_ls, ex_some, seq_tup, seq_tpx, itOf_tpx, seq_lst, seq_fz, list_lst, lsts_lst, lsts_fz, itOf_tup, itOf_lst, itOf_fz, now_int, now_bl, now_non, now_str, now_tup, now_lst, isNon_non, isNon_int, isNon_tup, isNon_ref, isNon_lst, isNon_str, isNon_bl, a31]
  refine ⟨⟨okn_int, okn_int⟩, ?_⟩
  rw [eqD_int, decide_eq_true rfl]
  simp only [Bool.not_true]
  refine ⟨by rw [sizeLine_eq]; omega, _, .same (.same .nil), three J, bp J, rfl, g.three, bp_perm J, bp_smith J, ?_⟩
  simp only [decide_true, Bool.not_true]
  subst hv4
  refine seqG fun v5 hv5 => ?_
  simp only [dSeq, dNext, dRet, dRetN, dIfS, dAsg, dAsgG, dDrop, dPar2, dPar3, dAug, dAugS, dFor, dOp, dVar, dC, dTest, dChain, dAnd, dOr, dNot, dAndV, dOrV, dNotV, dIf, dTup, dLst, dNil, dCons, dStar, dCB, dCall, dSl, dNoPart, dPart, dBM, dRev, dNeg, dIsi, dListRg, dTupRg, dRg1, dRg2, dLc, dIt, dEnum, dZip2, dZip3, dRng1, dRng2, dYes, gN, gT, gsNil, gsCons, gSb, oI, oI0, oAdd, oMulA, oSub, oFdiv, oMod, oPow, oLt, oLe, oGt, oGe, oEq, oNe, oIsN, oNotN, oIsB, oNotB, oIx, oSl, oLen, oSum, oAll, oAny, oAbs, o1I, o2I, oMin2, oMax2, oMin, oMax, oMinL, oMaxL, oInt, oBool, oList, oTuple, oSorted, oIn, oAddI, oGet, oSet, oAppend, oExtend, oPop, oPopAt, oIndexL, oIndexT, oInsert, oRemove, dTupX, dBMX, dLenSet, newL, startD, wipeD, D.tyN, List.map_cons, List.map_nil, List.cons_append, List.nil_append, List.length_cons, List.length_nil, List.getElem?_cons_zero, List.getElem?_cons_succ, List.set_cons_zero, List.set_cons_succ, List.replicate, Nat.sub_self, Nat.reduceSub, Nat.reduceAdd, Nat.zero_add, kb_ii, kb_ib, kb_it, kb_is, kb_bi, kb_bb, kb_bt, kb_bs, kb_tt, kb_ti, kb_ts, kb_ss, kb_si, kb_st, kb_nt, kb_ni, kb_ns, kb_lt, kb_li, kb_ls, ex_some, seq_tup, seq_tpx, itOf_tpx, seq_lst, seq_fz, list_lst, lsts_lst, lsts_fz, itOf_tup, itOf_lst, itOf_fz, now_int, now_bl, now_non, now_str, now_tup, now_lst, isNon_non, isNon_int, isNon_tup, isNon_ref, isNon_lst, isNon_str, isNon_bl]
  refine ⟨by rw [List.length_map]; unfold RgOk; omega, _, .same (.same (.same .nil)), p, J.length, b, o, by rw [List.length_map, rg_nI], by omega, hS, hp, by omega, fun F o2 hF hp2 => ?_⟩
  simp only [dSeq, dNext, dRet, dRetN, dIfS, dAsg, dAsgG, dDrop, dPar2, dPar3, dAug, dAugS, dFor, dOp, dVar, dC, dTest, dChain, dAnd, dOr, dNot, dAndV, dOrV, dNotV, dIf, dTup, dLst, dNil, dCons, dStar, dCB, dCall, dSl, dNoPart, dPart, dBM, dRev, dNeg, dIsi, dListRg, dTupRg, dRg1, dRg2, dLc, dIt, dEnum, dZip2, dZip3, dRng1, dRng2, dYes, gN, gT, gsNil, gsCons, gSb, oI, oI0, oAdd, oMulA, oSub, oFdiv, oMod, oPow, oLt, oLe, oGt, oGe, oEq, oNe, oIsN, oNotN, oIsB, oNotB, oIx, oSl, oLen, oSum, oAll, oAny, oAbs, o1I, o2I, oMin2, oMax2, oMin, oMax, oMinL, oMaxL, oInt, oBool, oList, oTuple, oSorted, oIn, oAddI, oGet, oSet, oAppend, oExtend, oPop, oPopAt, oIndexL, oIndexT, oInsert, oRemove, dTupX, dBMX, dLenSet, newL, startD, wipeD, D.tyN, List.map_cons, List.map_nil, List.cons_append, List.nil_append, List.length_cons, List.length_nil, List.getElem?_cons_zero, List.getElem?_cons_succ, List.set_cons_zero, List.set_cons_succ, List.replicate, Nat.sub_self, Nat.reduceSub, Nat.reduceAdd, Nat.zero_add, kb_ii, kb_ib, kb_it, kb_is, kb_bi, kb_bb, kb_bt, kb_bs, kb_tt, kb_ti, kb_ts, kb_ss, kb_si, kb_st, kb_nt, kb_ni, kb_ns, kb_lt, kb_li, kb_ls, ex_some, seq_tup, seq_tpx, itOf_tpx, seq_lst, seq_fz, list_lst, lsts_lst, lsts_fz, itOf_tup, itOf_lst, itOf_fz, now_int, now_bl, now_non, now_str, now_tup, now_lst, isNon_non, isNon_int, isNon_tup, isNon_ref, isNon_lst, isNon_str, isNon_bl]
  subst hv5
  refine seqG fun v6 hv6 => ?_
  simp only [dSeq, dNext, dRet, dRetN, dIfS, dAsg, dAsgG, dDrop, dPar2, dPar3, dAug, dAugS, dFor, dOp, dVar, dC, dTest, dChain, dAnd, dOr, dNot, dAndV, dOrV, dNotV, dIf, dTup, dLst, dNil, dCons, dStar, dCB, dCall, dSl, dNoPart, dPart, dBM, dRev, dNeg, dIsi, dListRg, dTupRg, dRg1, dRg2, dLc, dIt, dEnum, dZip2, dZip3, dRng1, dRng2, dYes, gN, gT, gsNil, gsCons, gSb, oI, oI0, oAdd, oMulA, oSub, oFdiv, oMod, oPow, oLt, oLe, oGt, oGe, oEq, oNe, oIsN, oNotN, oIsB, oNotB, oIx, oSl, oLen, oSum, oAll, oAny, oAbs, o1I, o2I, oMin2, oMax2, oMin, oMax, oMinL, oMaxL, oInt, oBool, oList, oTuple, oSorted, oIn, oAddI, oGet, oSet, oAppend, oExtend, oPop, oPopAt, oIndexL, oIndexT, oInsert, oRemove, dTupX, dBMX, dLenSet, newL, startD, wipeD, D.tyN, List.map_cons, List.map_nil, List.cons_append, List.nil_append, List.length_cons, List.length_nil, List.getElem?_cons_zero, List.getElem?_cons_succ, List.set_cons_zero, List.set_cons_succ, List.replicate, Nat.sub_self, Nat.reduceSub, Nat.reduceAdd, Nat.zero_add, kb_ii, kb_ib, kb_it, kb_is, kb_bi, kb_bb, kb_bt, kb_bs, kb_tt, kb_ti, kb_ts, kb_ss, kb_si, kb_st, kb_nt, kb_ni, kb_ns, kb_lt, kb_li, kb_ls, ex_some, seq_tup, seq_tpx, itOf_tpx, seq_lst, seq_fz, list_lst, lsts_lst, lsts_fz, itOf_tup, itOf_lst, itOf_fz, now_int, now_bl, now_non, now_str, now_tup, now_lst, isNon_non, isNon_int, isNon_tup, isNon_ref, isNon_lst, isNon_str, isNon_bl]
  refine ⟨_, .same (.tpx .nil), J, F, rfl, g, hF, _, .same .nil, J, rfl, g, fun o3 ho3 hs3 => ?_⟩
  have hle := smith_le hs3 (ho3.trans hF.symm)
  simp only [dSeq, dNext, dRet, dRetN, dIfS, dAsg, dAsgG, dDrop, dPar2, dPar3, dAug, dAugS, dFor, dOp, dVar, dC, dTest, dChain, dAnd, dOr, dNot, dAndV, dOrV, dNotV, dIf, dTup, dLst, dNil, dCons, dStar, dCB, dCall, dSl, dNoPart, dPart, dBM, dRev, dNeg, dIsi, dListRg, dTupRg, dRg1, dRg2, dLc, dIt, dEnum, dZip2, dZip3, dRng1, dRng2, dYes, gN, gT, gsNil, gsCons, gSb, oI, oI0, oAdd, oMulA, oSub, oFdiv, oMod, oPow, oLt, oLe, oGt, oGe, oEq, oNe, oIsN, oNotN, oIsB, oNotB, oIx, oSl, oLen, oSum, oAll, oAny, oAbs, o1I, o2I, oMin2, oMax2, oMin, oMax, oMinL, oMaxL, oInt, oBool, oList, oTuple, oSorted, oIn, oAddI, oGet, oSet, oAppend, oExtend, oPop, oPopAt, oIndexL, oIndexT, oInsert, oRemove, dTupX, dBMX, dLenSet, newL, startD, wipeD, D.tyN, List.map_cons, List.map_nil, List.cons_append, List.nil_append, List.length_cons, List.length_nil, List.getElem?_cons_zero, List.getElem?_cons_succ, List.set_cons_zero, List.set_cons_succ, List.replicate, Nat.sub_self, Nat.reduceSub, Nat.reduceAdd, Nat.zero_add, kb_ii, kb_ib, kb_it, kb_is, kb_bi, kb_bb, kb_bt, kb_bs, kb_tt, kb_ti, kb_ts, kb_ss, kb_si, kb_st, kb_nt, kb_ni, kb_ns, kb_lt, kb_li, kb_ls, ex_some, seq_tup, seq_tpx, itOf_tpx, seq_lst, seq_fz, list_lst, lsts_lst, lsts_fz, itOf_tup, itOf_lst, itOf_fz, now_int, now_bl, now_non, now_str, now_tup, now_lst, isNon_non, isNon_int, isNon_tup, isNon_ref, isNon_lst, isNon_str, isNon_bl, a31]
  rw [decide_eq_false (by omega)]
  subst hv6
  refine seqG fun v7 hv7 => ?_
  have hFl := hF.len
  have hFr : Perm_ J.length F.reverse := (List.reverse_perm F).trans hF
  have hF0 : F ≠ [] := fun z => by rw [z] at hFl; simp at hFl; omega
  simp only [dSeq, dNext, dRet, dRetN, dIfS, dAsg, dAsgG, dDrop, dPar2, dPar3, dAug, dAugS, dFor, dOp, dVar, dC, dTest, dChain, dAnd, dOr, dNot, dAndV, dOrV, dNotV, dIf, dTup, dLst, dNil, dCons, dStar, dCB, dCall, dSl, dNoPart, dPart, dBM, dRev, dNeg, dIsi, dListRg, dTupRg, dRg1, dRg2, dLc, dIt, dEnum, dZip2, dZip3, dRng1, dRng2, dYes, gN, gT, gsNil, gsCons, gSb, oI, oI0, oAdd, oMulA, oSub, oFdiv, oMod, oPow, oLt, oLe, oGt, oGe, oEq, oNe, oIsN, oNotN, oIsB, oNotB, oIx, oSl, oLen, oSum, oAll, oAny, oAbs, o1I, o2I, oMin2, oMax2, oMin, oMax, oMinL, oMaxL, oInt, oBool, oList, oTuple, oSorted, oIn, oAddI, oGet, oSet, oAppend, oExtend, oPop, oPopAt, oIndexL, oIndexT, oInsert, oRemove, dTupX, dBMX, dLenSet, newL, startD, wipeD, D.tyN, List.map_cons, List.map_nil, List.cons_append, List.nil_append, List.length_cons, List.length_nil, List.getElem?_cons_zero, List.getElem?_cons_succ, List.set_cons_zero, List.set_cons_succ, List.replicate, Nat.sub_self, Nat.reduceSub, Nat.reduceAdd, Nat.zero_add, kb_ii, kb_ib, kb_it, kb_is, kb_bi, kb_bb, kb_bt, kb_bs, kb_tt, kb_ti, kb_ts, kb_ss, kb_si, kb_st, kb_nt, kb_ni, kb_ns, kb_lt, kb_li, kb_ls, ex_some, seq_tup, seq_tpx, itOf_tpx, seq_lst, seq_fz, list_lst, lsts_lst, lsts_fz, itOf_tup, itOf_lst, itOf_fz, now_int, now_bl, now_non, now_str, now_tup, now_lst, isNon_non, isNon_int, isNon_tup, isNon_ref, isNon_lst, isNon_str, isNon_bl]
  refine ⟨_, .same (.tpx .nil), J, F, rfl, g, hF, ?_⟩
  rw [← List.map_reverse]
  refine ⟨_, .same (.same .nil), J, F.reverse, rfl, g, hFr, ?_⟩
  simp only [dSeq, dNext, dRet, dRetN, dIfS, dAsg, dAsgG, dDrop, dPar2, dPar3, dAug, dAugS, dFor, dOp, dVar, dC, dTest, dChain, dAnd, dOr, dNot, dAndV, dOrV, dNotV, dIf, dTup, dLst, dNil, dCons, dStar, dCB, dCall, dSl, dNoPart, dPart, dBM, dRev, dNeg, dIsi, dListRg, dTupRg, dRg1, dRg2, dLc, dIt, dEnum, dZip2, dZip3, dRng1, dRng2, dYes, gN, gT, gsNil, gsCons, gSb, oI, oI0, oAdd, oMulA, oSub, oFdiv, oMod, oPow, oLt, oLe, oGt, oGe, oEq, oNe, oIsN, oNotN, oIsB, oNotB, oIx, oSl, oLen, oSum, oAll, oAny, oAbs, o1I, o2I, oMin2, oMax2, oMin, oMax, oMinL, oMaxL, oInt, oBool, oList, oTuple, oSorted, oIn, oAddI, oGet, oSet, oAppend, oExtend, oPop, oPopAt, oIndexL, oIndexT, oInsert, oRemove, dTupX, dBMX, dLenSet, newL, startD, wipeD, D.tyN, List.map_cons, List.map_nil, List.cons_append, List.nil_append, List.length_cons, List.length_nil, List.getElem?_cons_zero, List.getElem?_cons_succ, List.set_cons_zero, List.set_cons_succ, List.replicate, Nat.sub_self, Nat.reduceSub, Nat.reduceAdd, Nat.zero_add, kb_ii, kb_ib, kb_it, kb_is, kb_bi, kb_bb, kb_bt, kb_bs, kb_tt, kb_ti, kb_ts, kb_ss, kb_si, kb_st, kb_nt, kb_ni, kb_ns, kb_lt, kb_li, kb_ls, ex_some, seq_tup, seq_tpx, itOf_tpx, seq_lst, seq_fz, list_lst, lsts_lst, lsts_fz, itOf_tup, itOf_lst, itOf_fz, now_int, now_bl, now_non, now_str, now_tup, now_lst, isNon_non, isNon_int, isNon_tup, isNon_ref, isNon_lst, isNon_str, isNon_bl, eI]
  refine lc_mapE J eJ (fun j => D.int j.p) (fun _ _ => trivial) (small (by omega)) (fun j hj S' e N M h => ?_) ?_
  · simp only [dSeq, dNext, dRet, dRetN, dIfS, dAsg, dAsgG, dDrop, dPar2, dPar3, dAug, dAugS, dFor, dOp, dVar, dC, dTest, dChain, dAnd, dOr, dNot, dAndV, dOrV, dNotV, dIf, dTup, dLst, dNil, dCons, dStar, dCB, dCall, dSl, dNoPart, dPart, dBM, dRev, dNeg, dIsi, dListRg, dTupRg, dRg1, dRg2, dLc, dIt, dEnum, dZip2, dZip3, dRng1, dRng2, dYes, gN, gT, gsNil, gsCons, gSb, oI, oI0, oAdd, oMulA, oSub, oFdiv, oMod, oPow, oLt, oLe, oGt, oGe, oEq, oNe, oIsN, oNotN, oIsB, oNotB, oIx, oSl, oLen, oSum, oAll, oAny, oAbs, o1I, o2I, oMin2, oMax2, oMin, oMax, oMinL, oMaxL, oInt, oBool, oList, oTuple, oSorted, oIn, oAddI, oGet, oSet, oAppend, oExtend, oPop, oPopAt, oIndexL, oIndexT, oInsert, oRemove, dTupX, dBMX, dLenSet, newL, startD, wipeD, D.tyN, List.map_cons, List.map_nil, List.cons_append, List.nil_append, List.length_cons, List.length_nil, List.getElem?_cons_zero, List.getElem?_cons_succ, List.set_cons_zero, List.set_cons_succ, List.replicate, Nat.sub_self, Nat.reduceSub, Nat.reduceAdd, Nat.zero_add, kb_ii, kb_ib, kb_it, kb_is, kb_bi, kb_bb, kb_bt, kb_bs, kb_tt, kb_ti, kb_ts, kb_ss, kb_si, kb_st, kb_nt, kb_ni, kb_ns, kb_lt, kb_li, kb_ls, ex_some, seq_tup, seq_tpx, itOf_tpx, seq_lst, seq_fz, list_lst, lsts_lst, lsts_fz, itOf_tup, itOf_lst, itOf_fz, now_int, now_bl, now_non, now_str, now_tup, now_lst, isNon_non, isNon_int, isNon_tup, isNon_ref, isNon_lst, isNon_str, isNon_bl, eJ, a30]
    exact h
  simp only [dSeq, dNext, dRet, dRetN, dIfS, dAsg, dAsgG, dDrop, dPar2, dPar3, dAug, dAugS, dFor, dOp, dVar, dC, dTest, dChain, dAnd, dOr, dNot, dAndV, dOrV, dNotV, dIf, dTup, dLst, dNil, dCons, dStar, dCB, dCall, dSl, dNoPart, dPart, dBM, dRev, dNeg, dIsi, dListRg, dTupRg, dRg1, dRg2, dLc, dIt, dEnum, dZip2, dZip3, dRng1, dRng2, dYes, gN, gT, gsNil, gsCons, gSb, oI, oI0, oAdd, oMulA, oSub, oFdiv, oMod, oPow, oLt, oLe, oGt, oGe, oEq, oNe, oIsN, oNotN, oIsB, oNotB, oIx, oSl, oLen, oSum, oAll, oAny, oAbs, o1I, o2I, oMin2, oMax2, oMin, oMax, oMinL, oMaxL, oInt, oBool, oList, oTuple, oSorted, oIn, oAddI, oGet, oSet, oAppend, oExtend, oPop, oPopAt, oIndexL, oIndexT, oInsert, oRemove, dTupX, dBMX, dLenSet, newL, startD, wipeD, D.tyN, List.map_cons, List.map_nil, List.cons_append, List.nil_append, List.length_cons, List.length_nil, List.getElem?_cons_zero, List.getElem?_cons_succ, List.set_cons_zero, List.set_cons_succ, List.replicate, Nat.sub_self, Nat.reduceSub, Nat.reduceAdd, Nat.zero_add, kb_ii, kb_ib, kb_it, kb_is, kb_bi, kb_bb, kb_bt, kb_bs, kb_tt, kb_ti, kb_ts, kb_ss, kb_si, kb_st, kb_nt, kb_ni, kb_ns, kb_lt, kb_li, kb_ls, ex_some, seq_tup, seq_tpx, itOf_tpx, seq_lst, seq_fz, list_lst, lsts_lst, lsts_fz, itOf_tup, itOf_lst, itOf_fz, now_int, now_bl, now_non, now_str, now_tup, now_lst, isNon_non, isNon_int, isNon_tup, isNon_ref, isNon_lst, isNon_str, isNon_bl]
  refine ⟨J.map fun j => j.p, by rw [List.map_map]; rfl, ?_⟩
  rw [← psum_whole hF, ← List.map_reverse]
  generalize hw : psum J F = whole
  have hwb := sum_p_bd dj.p
  rw [← psum_whole hF, hw] at hwb
  refine ⟨by rw [sizeLine_eq]; omega, trivial, ?_⟩
  subst hv7
  refine seqG fun v8 hv8 => ?_
  simp only [dSeq, dNext, dRet, dRetN, dIfS, dAsg, dAsgG, dDrop, dPar2, dPar3, dAug, dAugS, dFor, dOp, dVar, dC, dTest, dChain, dAnd, dOr, dNot, dAndV, dOrV, dNotV, dIf, dTup, dLst, dNil, dCons, dStar, dCB, dCall, dSl, dNoPart, dPart, dBM, dRev, dNeg, dIsi, dListRg, dTupRg, dRg1, dRg2, dLc, dIt, dEnum, dZip2, dZip3, dRng1, dRng2, dYes, gN, gT, gsNil, gsCons, gSb, oI, oI0, oAdd, oMulA, oSub, oFdiv, oMod, oPow, oLt, oLe, oGt, oGe, oEq, oNe, oIsN, oNotN, oIsB, oNotB, oIx, oSl, oLen, oSum, oAll, oAny, oAbs, o1I, o2I, oMin2, oMax2, oMin, oMax, oMinL, oMaxL, oInt, oBool, oList, oTuple, oSorted, oIn, oAddI, oGet, oSet, oAppend, oExtend, oPop, oPopAt, oIndexL, oIndexT, oInsert, oRemove, dTupX, dBMX, dLenSet, newL, startD, wipeD, D.tyN, List.map_cons, List.map_nil, List.cons_append, List.nil_append, List.length_cons, List.length_nil, List.getElem?_cons_zero, List.getElem?_cons_succ, List.set_cons_zero, List.set_cons_succ, List.replicate, Nat.sub_self, Nat.reduceSub, Nat.reduceAdd, Nat.zero_add, kb_ii, kb_ib, kb_it, kb_is, kb_bi, kb_bb, kb_bt, kb_bs, kb_tt, kb_ti, kb_ts, kb_ss, kb_si, kb_st, kb_nt, kb_ni, kb_ns, kb_lt, kb_li, kb_ls, ex_some, seq_tup, seq_tpx, itOf_tpx, seq_lst, seq_fz, list_lst, lsts_lst, lsts_fz, itOf_tup, itOf_lst, itOf_fz, now_int, now_bl, now_non, now_str, now_tup, now_lst, isNon_non, isNon_int, isNon_tup, isNon_ref, isNon_lst, isNon_str, isNon_bl]
  rw [zip3_map D.int D.int nI]
  refine lc_mapE (ok := fun _ => True ∧ True ∧ True) (List.zip (ends J 0 F) (List.zip (ends J 0 F.reverse).reverse F)) (fun p => D.tup [.int p.1, .int p.2.1, nI p.2.2]) (fun _ => D.bl false) (fun _ _ => ⟨trivial, trivial, trivial⟩) (small (by rw [List.length_zip, ends_len]; omega)) (fun z hz S' e N M h => ?_) ?_
  · obtain ⟨k, z1, z2, z3⟩ := zip3_mem hz
    obtain ⟨hk, hke⟩ := List.getElem?_eq_some_iff.mp z3
    rw [ends_get J F 0 k hk] at z1
    rw [back_get J F k hk] at z2
    have e1 := Option.some.inj z1
    have e2 := Option.some.inj z2
    have hb2 := both_sum J hk
    rw [hke] at hb2
    have hlt := hF.lt (i := z.2.2) (by rw [← hke]; exact List.getElem_mem hk)
    simp only [dSeq, dNext, dRet, dRetN, dIfS, dAsg, dAsgG, dDrop, dPar2, dPar3, dAug, dAugS, dFor, dOp, dVar, dC, dTest, dChain, dAnd, dOr, dNot, dAndV, dOrV, dNotV, dIf, dTup, dLst, dNil, dCons, dStar, dCB, dCall, dSl, dNoPart, dPart, dBM, dRev, dNeg, dIsi, dListRg, dTupRg, dRg1, dRg2, dLc, dIt, dEnum, dZip2, dZip3, dRng1, dRng2, dYes, gN, gT, gsNil, gsCons, gSb, oI, oI0, oAdd, oMulA, oSub, oFdiv, oMod, oPow, oLt, oLe, oGt, oGe, oEq, oNe, oIsN, oNotN, oIsB, oNotB, oIx, oSl, oLen, oSum, oAll, oAny, oAbs, o1I, o2I, oMin2, oMax2, oMin, oMax, oMinL, oMaxL, oInt, oBool, oList, oTuple, oSorted, oIn, oAddI, oGet, oSet, oAppend, oExtend, oPop, oPopAt, oIndexL, oIndexT, oInsert, oRemove, dTupX, dBMX, dLenSet, newL, startD, wipeD, D.tyN, List.map_cons, List.map_nil, List.cons_append, List.nil_append, List.length_cons, List.length_nil, List.getElem?_cons_zero, List.getElem?_cons_succ, List.set_cons_zero, List.set_cons_succ, List.replicate, Nat.sub_self, Nat.reduceSub, Nat.reduceAdd, Nat.zero_add, kb_ii, kb_ib, kb_it, kb_is, kb_bi, kb_bb, kb_bt, kb_bs, kb_tt, kb_ti, kb_ts, kb_ss, kb_si, kb_st, kb_nt, kb_ni, kb_ns, kb_lt, kb_li, kb_ls, ex_some, seq_tup, seq_tpx, itOf_tpx, seq_lst, seq_fz, list_lst, lsts_lst, lsts_fz, itOf_tup, itOf_lst, itOf_fz, now_int, now_bl, now_non, now_str, now_tup, now_lst, isNon_non, isNon_int, isNon_tup, isNon_ref, isNon_lst, isNon_str, isNon_bl, nI, ix_job hlt, eJ, a30]
    unfold pr at hb2
    rw [eqD_int, decide_eq_true (by omega)]
    exact ⟨trivial, ⟨okn_int, okn_int⟩, h⟩
  simp only [dSeq, dNext, dRet, dRetN, dIfS, dAsg, dAsgG, dDrop, dPar2, dPar3, dAug, dAugS, dFor, dOp, dVar, dC, dTest, dChain, dAnd, dOr, dNot, dAndV, dOrV, dNotV, dIf, dTup, dLst, dNil, dCons, dStar, dCB, dCall, dSl, dNoPart, dPart, dBM, dRev, dNeg, dIsi, dListRg, dTupRg, dRg1, dRg2, dLc, dIt, dEnum, dZip2, dZip3, dRng1, dRng2, dYes, gN, gT, gsNil, gsCons, gSb, oI, oI0, oAdd, oMulA, oSub, oFdiv, oMod, oPow, oLt, oLe, oGt, oGe, oEq, oNe, oIsN, oNotN, oIsB, oNotB, oIx, oSl, oLen, oSum, oAll, oAny, oAbs, o1I, o2I, oMin2, oMax2, oMin, oMax, oMinL, oMaxL, oInt, oBool, oList, oTuple, oSorted, oIn, oAddI, oGet, oSet, oAppend, oExtend, oPop, oPopAt, oIndexL, oIndexT, oInsert, oRemove, dTupX, dBMX, dLenSet, newL, startD, wipeD, D.tyN, List.map_cons, List.map_nil, List.cons_append, List.nil_append, List.length_cons, List.length_nil, List.getElem?_cons_zero, List.getElem?_cons_succ, List.set_cons_zero, List.set_cons_succ, List.replicate, Nat.sub_self, Nat.reduceSub, Nat.reduceAdd, Nat.zero_add, kb_ii, kb_ib, kb_it, kb_is, kb_bi, kb_bb, kb_bt, kb_bs, kb_tt, kb_ti, kb_ts, kb_ss, kb_si, kb_st, kb_nt, kb_ni, kb_ns, kb_lt, kb_li, kb_ls, ex_some, seq_tup, seq_tpx, itOf_tpx, seq_lst, seq_fz, list_lst, lsts_lst, lsts_fz, itOf_tup, itOf_lst, itOf_fz, now_int, now_bl, now_non, now_str, now_tup, now_lst, isNon_non, isNon_int, isNon_tup, isNon_ref, isNon_lst, isNon_str, isNon_bl]
  refine ⟨(List.zip (ends J 0 F) (List.zip (ends J 0 F.reverse).reverse F)).map fun _ => false, by rw [List.map_map]; rfl, ?_⟩
  have ha : ((List.zip (ends J 0 F) (List.zip (ends J 0 F.reverse).reverse F)).map fun _ => false).any id = false := by
    rw [List.any_eq_false]
    intro x hx
    obtain ⟨_, _, rfl⟩ := List.mem_map.mp hx
    decide
  rw [ha, ends_last hF0, hw]
  simp only [dSeq, dNext, dRet, dRetN, dIfS, dAsg, dAsgG, dDrop, dPar2, dPar3, dAug, dAugS, dFor, dOp, dVar, dC, dTest, dChain, dAnd, dOr, dNot, dAndV, dOrV, dNotV, dIf, dTup, dLst, dNil, dCons, dStar, dCB, dCall, dSl, dNoPart, dPart, dBM, dRev, dNeg, dIsi, dListRg, dTupRg, dRg1, dRg2, dLc, dIt, dEnum, dZip2, dZip3, dRng1, dRng2, dYes, gN, gT, gsNil, gsCons, gSb, oI, oI0, oAdd, oMulA, oSub, oFdiv, oMod, oPow, oLt, oLe, oGt, oGe, oEq, oNe, oIsN, oNotN, oIsB, oNotB, oIx, oSl, oLen, oSum, oAll, oAny, oAbs, o1I, o2I, oMin2, oMax2, oMin, oMax, oMinL, oMaxL, oInt, oBool, oList, oTuple, oSorted, oIn, oAddI, oGet, oSet, oAppend, oExtend, oPop, oPopAt, oIndexL, oIndexT, oInsert, oRemove, dTupX, dBMX, dLenSet, newL, startD, wipeD, D.tyN, List.map_cons, List.map_nil, List.cons_append, List.nil_append, List.length_cons, List.length_nil, List.getElem?_cons_zero, List.getElem?_cons_succ, List.set_cons_zero, List.set_cons_succ, List.replicate, Nat.sub_self, Nat.reduceSub, Nat.reduceAdd, Nat.zero_add, kb_ii, kb_ib, kb_it, kb_is, kb_bi, kb_bb, kb_bt, kb_bs, kb_tt, kb_ti, kb_ts, kb_ss, kb_si, kb_st, kb_nt, kb_ni, kb_ns, kb_lt, kb_li, kb_ls, ex_some, seq_tup, seq_tpx, itOf_tpx, seq_lst, seq_fz, list_lst, lsts_lst, lsts_fz, itOf_tup, itOf_lst, itOf_fz, now_int, now_bl, now_non, now_str, now_tup, now_lst, isNon_non, isNon_int, isNon_tup, isNon_ref, isNon_lst, isNon_str, isNon_bl]
  rw [eqD_int, decide_eq_true rfl]
  refine ⟨⟨okn_int, okn_int⟩, ?_⟩
  simp only [Bool.not_true]
  subst hv8
  refine seqG fun v9 hv9 => ?_
  simp only [dSeq, dNext, dRet, dRetN, dIfS, dAsg, dAsgG, dDrop, dPar2, dPar3, dAug, dAugS, dFor, dOp, dVar, dC, dTest, dChain, dAnd, dOr, dNot, dAndV, dOrV, dNotV, dIf, dTup, dLst, dNil, dCons, dStar, dCB, dCall, dSl, dNoPart, dPart, dBM, dRev, dNeg, dIsi, dListRg, dTupRg, dRg1, dRg2, dLc, dIt, dEnum, dZip2, dZip3, dRng1, dRng2, dYes, gN, gT, gsNil, gsCons, gSb, oI, oI0, oAdd, oMulA, oSub, oFdiv, oMod, oPow, oLt, oLe, oGt, oGe, oEq, oNe, oIsN, oNotN, oIsB, oNotB, oIx, oSl, oLen, oSum, oAll, oAny, oAbs, o1I, o2I, oMin2, oMax2, oMin, oMax, oMinL, oMaxL, oInt, oBool, oList, oTuple, oSorted, oIn, oAddI, oGet, oSet, oAppend, oExtend, oPop, oPopAt, oIndexL, oIndexT, oInsert, oRemove, dTupX, dBMX, dLenSet, newL, startD, wipeD, D.tyN, List.map_cons, List.map_nil, List.cons_append, List.nil_append, List.length_cons, List.length_nil, List.getElem?_cons_zero, List.getElem?_cons_succ, List.set_cons_zero, List.set_cons_succ, List.replicate, Nat.sub_self, Nat.reduceSub, Nat.reduceAdd, Nat.zero_add, kb_ii, kb_ib, kb_it, kb_is, kb_bi, kb_bb, kb_bt, kb_bs, kb_tt, kb_ti, kb_ts, kb_ss, kb_si, kb_st, kb_nt, kb_ni, kb_ns, kb_lt, kb_li, kb_ls, ex_some, seq_tup, seq_tpx, itOf_tpx, seq_lst, seq_fz, list_lst, lsts_lst, lsts_fz, itOf_tup, itOf_lst, itOf_fz, now_int, now_bl, now_non, now_str, now_tup, now_lst, isNon_non, isNon_int, isNon_tup, isNon_ref, isNon_lst, isNon_str, isNon_bl]
  refine ⟨_, .same (.same .nil), p, whole + 2, b + J.length, o2, rfl, by omega, by omega, Sto.up_same, hp2, by omega, fun tick o4 t0 t1 hp4 => ?_⟩
  simp only [dSeq, dNext, dRet, dRetN, dIfS, dAsg, dAsgG, dDrop, dPar2, dPar3, dAug, dAugS, dFor, dOp, dVar, dC, dTest, dChain, dAnd, dOr, dNot, dAndV, dOrV, dNotV, dIf, dTup, dLst, dNil, dCons, dStar, dCB, dCall, dSl, dNoPart, dPart, dBM, dRev, dNeg, dIsi, dListRg, dTupRg, dRg1, dRg2, dLc, dIt, dEnum, dZip2, dZip3, dRng1, dRng2, dYes, gN, gT, gsNil, gsCons, gSb, oI, oI0, oAdd, oMulA, oSub, oFdiv, oMod, oPow, oLt, oLe, oGt, oGe, oEq, oNe, oIsN, oNotN, oIsB, oNotB, oIx, oSl, oLen, oSum, oAll, oAny, oAbs, o1I, o2I, oMin2, oMax2, oMin, oMax, oMinL, oMaxL, oInt, oBool, oList, oTuple, oSorted, oIn, oAddI, oGet, oSet, oAppend, oExtend, oPop, oPopAt, oIndexL, oIndexT, oInsert, oRemove, dTupX, dBMX, dLenSet, newL, startD, wipeD, D.tyN, List.map_cons, List.map_nil, List.cons_append, List.nil_append, List.length_cons, List.length_nil, List.getElem?_cons_zero, List.getElem?_cons_succ, List.set_cons_zero, List.set_cons_succ, List.replicate, Nat.sub_self, Nat.reduceSub, Nat.reduceAdd, Nat.zero_add, kb_ii, kb_ib, kb_it, kb_is, kb_bi, kb_bb, kb_bt, kb_bs, kb_tt, kb_ti, kb_ts, kb_ss, kb_si, kb_st, kb_nt, kb_ni, kb_ns, kb_lt, kb_li, kb_ls, ex_some, seq_tup, seq_tpx, itOf_tpx, seq_lst, seq_fz, list_lst, lsts_lst, lsts_fz, itOf_tup, itOf_lst, itOf_fz, now_int, now_bl, now_non, now_str, now_tup, now_lst, isNon_non, isNon_int, isNon_tup, isNon_ref, isNon_lst, isNon_str, isNon_bl, Sto.up_up]
  subst hv9
  refine seqG fun v10 hv10 => ?_
  simp only [dSeq, dNext, dRet, dRetN, dIfS, dAsg, dAsgG, dDrop, dPar2, dPar3, dAug, dAugS, dFor, dOp, dVar, dC, dTest, dChain, dAnd, dOr, dNot, dAndV, dOrV, dNotV, dIf, dTup, dLst, dNil, dCons, dStar, dCB, dCall, dSl, dNoPart, dPart, dBM, dRev, dNeg, dIsi, dListRg, dTupRg, dRg1, dRg2, dLc, dIt, dEnum, dZip2, dZip3, dRng1, dRng2, dYes, gN, gT, gsNil, gsCons, gSb, oI, oI0, oAdd, oMulA, oSub, oFdiv, oMod, oPow, oLt, oLe, oGt, oGe, oEq, oNe, oIsN, oNotN, oIsB, oNotB, oIx, oSl, oLen, oSum, oAll, oAny, oAbs, o1I, o2I, oMin2, oMax2, oMin, oMax, oMinL, oMaxL, oInt, oBool, oList, oTuple, oSorted, oIn, oAddI, oGet, oSet, oAppend, oExtend, oPop, oPopAt, oIndexL, oIndexT, oInsert, oRemove, dTupX, dBMX, dLenSet, newL, startD, wipeD, D.tyN, List.map_cons, List.map_nil, List.cons_append, List.nil_append, List.length_cons, List.length_nil, List.getElem?_cons_zero, List.getElem?_cons_succ, List.set_cons_zero, List.set_cons_succ, List.replicate, Nat.sub_self, Nat.reduceSub, Nat.reduceAdd, Nat.zero_add, kb_ii, kb_ib, kb_it, kb_is, kb_bi, kb_bb, kb_bt, kb_bs, kb_tt, kb_ti, kb_ts, kb_ss, kb_si, kb_st, kb_nt, kb_ni, kb_ns, kb_lt, kb_li, kb_ls, ex_some, seq_tup, seq_tpx, itOf_tpx, seq_lst, seq_fz, list_lst, lsts_lst, lsts_fz, itOf_tup, itOf_lst, itOf_fz, now_int, now_bl, now_non, now_str, now_tup, now_lst, isNon_non, isNon_int, isNon_tup, isNon_ref, isNon_lst, isNon_str, isNon_bl]
  have hlen := ends_len J F 0
  have mono : ∀ (i : Nat) (e : Int), (ends J 0 F)[i]? = some e → e ≤ whole := by
    intro i e he
    obtain ⟨hk, _⟩ := List.getElem?_eq_some_iff.mp he
    rw [hlen] at hk
    rw [ends_get J F 0 i hk, Int.zero_add] at he
    rw [← Option.some.inj he, ← hw]
    refine psum_sub (List.take_sublist _ _) fun i hi => ?_
    have := g.p1 _ (gj_mem (hF.lt hi))
    show 0 ≤ (gj J i).p
    omega
  refine ⟨_, .same (.tpx (.same .nil)), J, F, tick, rfl, g, hF, t0, by omega, fun hall => ?_, fun k a e hka hke hte hbef => ?_⟩
  · subst hv10
    refine seqG fun v11 hv11 => ?_
    have hwl : whole ≤ tick := by
      have e := ends_get J F 0 (F.length - 1) (by omega)
      rw [show F.length - 1 + 1 = F.length by omega, List.take_length, Int.zero_add, hw] at e
      exact hall _ (List.mem_of_getElem? e)
    simp only [dSeq, dNext, dRet, dRetN, dIfS, dAsg, dAsgG, dDrop, dPar2, dPar3, dAug, dAugS, dFor, dOp, dVar, dC, dTest, dChain, dAnd, dOr, dNot, dAndV, dOrV, dNotV, dIf, dTup, dLst, dNil, dCons, dStar, dCB, dCall, dSl, dNoPart, dPart, dBM, dRev, dNeg, dIsi, dListRg, dTupRg, dRg1, dRg2, dLc, dIt, dEnum, dZip2, dZip3, dRng1, dRng2, dYes, gN, gT, gsNil, gsCons, gSb, oI, oI0, oAdd, oMulA, oSub, oFdiv, oMod, oPow, oLt, oLe, oGt, oGe, oEq, oNe, oIsN, oNotN, oIsB, oNotB, oIx, oSl, oLen, oSum, oAll, oAny, oAbs, o1I, o2I, oMin2, oMax2, oMin, oMax, oMinL, oMaxL, oInt, oBool, oList, oTuple, oSorted, oIn, oAddI, oGet, oSet, oAppend, oExtend, oPop, oPopAt, oIndexL, oIndexT, oInsert, oRemove, dTupX, dBMX, dLenSet, newL, startD, wipeD, D.tyN, List.map_cons, List.map_nil, List.cons_append, List.nil_append, List.length_cons, List.length_nil, List.getElem?_cons_zero, List.getElem?_cons_succ, List.set_cons_zero, List.set_cons_succ, List.replicate, Nat.sub_self, Nat.reduceSub, Nat.reduceAdd, Nat.zero_add, kb_ii, kb_ib, kb_it, kb_is, kb_bi, kb_bb, kb_bt, kb_bs, kb_tt, kb_ti, kb_ts, kb_ss, kb_si, kb_st, kb_nt, kb_ni, kb_ns, kb_lt, kb_li, kb_ls, ex_some, seq_tup, seq_tpx, itOf_tpx, seq_lst, seq_fz, list_lst, lsts_lst, lsts_fz, itOf_tup, itOf_lst, itOf_fz, now_int, now_bl, now_non, now_str, now_tup, now_lst, isNon_non, isNon_int, isNon_tup, isNon_ref, isNon_lst, isNon_str, isNon_bl, decide_eq_true (show tick ≥ whole from hwl), eqD_bl, decide_true, Bool.not_true]
    refine ⟨⟨okn_bl, okn_bl⟩, ?_⟩
    subst hv11
    simp only [dSeq, dNext, dRet, dRetN, dIfS, dAsg, dAsgG, dDrop, dPar2, dPar3, dAug, dAugS, dFor, dOp, dVar, dC, dTest, dChain, dAnd, dOr, dNot, dAndV, dOrV, dNotV, dIf, dTup, dLst, dNil, dCons, dStar, dCB, dCall, dSl, dNoPart, dPart, dBM, dRev, dNeg, dIsi, dListRg, dTupRg, dRg1, dRg2, dLc, dIt, dEnum, dZip2, dZip3, dRng1, dRng2, dYes, gN, gT, gsNil, gsCons, gSb, oI, oI0, oAdd, oMulA, oSub, oFdiv, oMod, oPow, oLt, oLe, oGt, oGe, oEq, oNe, oIsN, oNotN, oIsB, oNotB, oIx, oSl, oLen, oSum, oAll, oAny, oAbs, o1I, o2I, oMin2, oMax2, oMin, oMax, oMinL, oMaxL, oInt, oBool, oList, oTuple, oSorted, oIn, oAddI, oGet, oSet, oAppend, oExtend, oPop, oPopAt, oIndexL, oIndexT, oInsert, oRemove, dTupX, dBMX, dLenSet, newL, startD, wipeD, D.tyN, List.map_cons, List.map_nil, List.cons_append, List.nil_append, List.length_cons, List.length_nil, List.getElem?_cons_zero, List.getElem?_cons_succ, List.set_cons_zero, List.set_cons_succ, List.replicate, Nat.sub_self, Nat.reduceSub, Nat.reduceAdd, Nat.zero_add, kb_ii, kb_ib, kb_it, kb_is, kb_bi, kb_bb, kb_bt, kb_bs, kb_tt, kb_ti, kb_ts, kb_ss, kb_si, kb_st, kb_nt, kb_ni, kb_ns, kb_lt, kb_li, kb_ls, ex_some, seq_tup, seq_tpx, itOf_tpx, seq_lst, seq_fz, list_lst, lsts_lst, lsts_fz, itOf_tup, itOf_lst, itOf_fz, now_int, now_bl, now_non, now_str, now_tup, now_lst, isNon_non, isNon_int, isNon_tup, isNon_ref, isNon_lst, isNon_str, isNon_bl]
    exact .here (q o4 hp4)
  · subst hv10
    refine seqG fun v11 hv11 => ?_
    have hwl := mono k e hke
    obtain ⟨hk, hkF⟩ := List.getElem?_eq_some_iff.mp hka
    have haJ : a < J.length := by rw [← hkF]; exact hF.lt (List.getElem_mem hk)
    simp only [dSeq, dNext, dRet, dRetN, dIfS, dAsg, dAsgG, dDrop, dPar2, dPar3, dAug, dAugS, dFor, dOp, dVar, dC, dTest, dChain, dAnd, dOr, dNot, dAndV, dOrV, dNotV, dIf, dTup, dLst, dNil, dCons, dStar, dCB, dCall, dSl, dNoPart, dPart, dBM, dRev, dNeg, dIsi, dListRg, dTupRg, dRg1, dRg2, dLc, dIt, dEnum, dZip2, dZip3, dRng1, dRng2, dYes, gN, gT, gsNil, gsCons, gSb, oI, oI0, oAdd, oMulA, oSub, oFdiv, oMod, oPow, oLt, oLe, oGt, oGe, oEq, oNe, oIsN, oNotN, oIsB, oNotB, oIx, oSl, oLen, oSum, oAll, oAny, oAbs, o1I, o2I, oMin2, oMax2, oMin, oMax, oMinL, oMaxL, oInt, oBool, oList, oTuple, oSorted, oIn, oAddI, oGet, oSet, oAppend, oExtend, oPop, oPopAt, oIndexL, oIndexT, oInsert, oRemove, dTupX, dBMX, dLenSet, newL, startD, wipeD, D.tyN, List.map_cons, List.map_nil, List.cons_append, List.nil_append, List.length_cons, List.length_nil, List.getElem?_cons_zero, List.getElem?_cons_succ, List.set_cons_zero, List.set_cons_succ, List.replicate, Nat.sub_self, Nat.reduceSub, Nat.reduceAdd, Nat.zero_add, kb_ii, kb_ib, kb_it, kb_is, kb_bi, kb_bb, kb_bt, kb_bs, kb_tt, kb_ti, kb_ts, kb_ss, kb_si, kb_st, kb_nt, kb_ni, kb_ns, kb_lt, kb_li, kb_ls, ex_some, seq_tup, seq_tpx, itOf_tpx, seq_lst, seq_fz, list_lst, lsts_lst, lsts_fz, itOf_tup, itOf_lst, itOf_fz, now_int, now_bl, now_non, now_str, now_tup, now_lst, isNon_non, isNon_int, isNon_tup, isNon_ref, isNon_lst, isNon_str, isNon_bl, decide_eq_false (show ¬ tick ≥ whole by omega), eqD_bl, decide_true, Bool.not_true]
    refine ⟨⟨okn_bl, okn_bl⟩, ?_⟩
    subst hv11
    have hlow : e - (gj J a).p ≤ tick := by
      rw [ends_get J F 0 k hk, take_at hk, psum_append, psum_cons, psum_nil, hkF] at hke
      have e1 := Option.some.inj hke
      have : psum J (F.take k) ≤ tick := by
        rcases Nat.eq_zero_or_pos k with rfl | hkp
        · rw [List.take_zero, psum_nil]; exact t0
        · refine hbef (k - 1) _ (by omega) ?_
          rw [ends_get J F 0 (k - 1) (by omega), show k - 1 + 1 = k by omega, Int.zero_add]
      unfold pr at e1
      omega
    simp only [dSeq, dNext, dRet, dRetN, dIfS, dAsg, dAsgG, dDrop, dPar2, dPar3, dAug, dAugS, dFor, dOp, dVar, dC, dTest, dChain, dAnd, dOr, dNot, dAndV, dOrV, dNotV, dIf, dTup, dLst, dNil, dCons, dStar, dCB, dCall, dSl, dNoPart, dPart, dBM, dRev, dNeg, dIsi, dListRg, dTupRg, dRg1, dRg2, dLc, dIt, dEnum, dZip2, dZip3, dRng1, dRng2, dYes, gN, gT, gsNil, gsCons, gSb, oI, oI0, oAdd, oMulA, oSub, oFdiv, oMod, oPow, oLt, oLe, oGt, oGe, oEq, oNe, oIsN, oNotN, oIsB, oNotB, oIx, oSl, oLen, oSum, oAll, oAny, oAbs, o1I, o2I, oMin2, oMax2, oMin, oMax, oMinL, oMaxL, oInt, oBool, oList, oTuple, oSorted, oIn, oAddI, oGet, oSet, oAppend, oExtend, oPop, oPopAt, oIndexL, oIndexT, oInsert, oRemove, dTupX, dBMX, dLenSet, newL, startD, wipeD, D.tyN, List.map_cons, List.map_nil, List.cons_append, List.nil_append, List.length_cons, List.length_nil, List.getElem?_cons_zero, List.getElem?_cons_succ, List.set_cons_zero, List.set_cons_succ, List.replicate, Nat.sub_self, Nat.reduceSub, Nat.reduceAdd, Nat.zero_add, kb_ii, kb_ib, kb_it, kb_is, kb_bi, kb_bb, kb_bt, kb_bs, kb_tt, kb_ti, kb_ts, kb_ss, kb_si, kb_st, kb_nt, kb_ni, kb_ns, kb_lt, kb_li, kb_ls, ex_some, seq_tup, seq_tpx, itOf_tpx, seq_lst, seq_fz, list_lst, lsts_lst, lsts_fz, itOf_tup, itOf_lst, itOf_fz, now_int, now_bl, now_non, now_str, now_tup, now_lst, isNon_non, isNon_int, isNon_tup, isNon_ref, isNon_lst, isNon_str, isNon_bl]
    rw [nI_c]
    refine ⟨⟨_, rfl⟩, cI F, k, rfl, first_nd hF.nd hka, ?_⟩
    simp only [dSeq, dNext, dRet, dRetN, dIfS, dAsg, dAsgG, dDrop, dPar2, dPar3, dAug, dAugS, dFor, dOp, dVar, dC, dTest, dChain, dAnd, dOr, dNot, dAndV, dOrV, dNotV, dIf, dTup, dLst, dNil, dCons, dStar, dCB, dCall, dSl, dNoPart, dPart, dBM, dRev, dNeg, dIsi, dListRg, dTupRg, dRg1, dRg2, dLc, dIt, dEnum, dZip2, dZip3, dRng1, dRng2, dYes, gN, gT, gsNil, gsCons, gSb, oI, oI0, oAdd, oMulA, oSub, oFdiv, oMod, oPow, oLt, oLe, oGt, oGe, oEq, oNe, oIsN, oNotN, oIsB, oNotB, oIx, oSl, oLen, oSum, oAll, oAny, oAbs, o1I, o2I, oMin2, oMax2, oMin, oMax, oMinL, oMaxL, oInt, oBool, oList, oTuple, oSorted, oIn, oAddI, oGet, oSet, oAppend, oExtend, oPop, oPopAt, oIndexL, oIndexT, oInsert, oRemove, dTupX, dBMX, dLenSet, newL, startD, wipeD, D.tyN, List.map_cons, List.map_nil, List.cons_append, List.nil_append, List.length_cons, List.length_nil, List.getElem?_cons_zero, List.getElem?_cons_succ, List.set_cons_zero, List.set_cons_succ, List.replicate, Nat.sub_self, Nat.reduceSub, Nat.reduceAdd, Nat.zero_add, kb_ii, kb_ib, kb_it, kb_is, kb_bi, kb_bb, kb_bt, kb_bs, kb_tt, kb_ti, kb_ts, kb_ss, kb_si, kb_st, kb_nt, kb_ni, kb_ns, kb_lt, kb_li, kb_ls, ex_some, seq_tup, seq_tpx, itOf_tpx, seq_lst, seq_fz, list_lst, lsts_lst, lsts_fz, itOf_tup, itOf_lst, itOf_fz, now_int, now_bl, now_non, now_str, now_tup, now_lst, isNon_non, isNon_int, isNon_tup, isNon_ref, isNon_lst, isNon_str, isNon_bl, ends_at hke, ix_job haJ, eJ, a30, decide_eq_true hlow]
    refine ⟨⟨_, rfl⟩, cI F, k, rfl, first_nd hF.nd hka, ?_⟩
    simp only [dSeq, dNext, dRet, dRetN, dIfS, dAsg, dAsgG, dDrop, dPar2, dPar3, dAug, dAugS, dFor, dOp, dVar, dC, dTest, dChain, dAnd, dOr, dNot, dAndV, dOrV, dNotV, dIf, dTup, dLst, dNil, dCons, dStar, dCB, dCall, dSl, dNoPart, dPart, dBM, dRev, dNeg, dIsi, dListRg, dTupRg, dRg1, dRg2, dLc, dIt, dEnum, dZip2, dZip3, dRng1, dRng2, dYes, gN, gT, gsNil, gsCons, gSb, oI, oI0, oAdd, oMulA, oSub, oFdiv, oMod, oPow, oLt, oLe, oGt, oGe, oEq, oNe, oIsN, oNotN, oIsB, oNotB, oIx, oSl, oLen, oSum, oAll, oAny, oAbs, o1I, o2I, oMin2, oMax2, oMin, oMax, oMinL, oMaxL, oInt, oBool, oList, oTuple, oSorted, oIn, oAddI, oGet, oSet, oAppend, oExtend, oPop, oPopAt, oIndexL, oIndexT, oInsert, oRemove, dTupX, dBMX, dLenSet, newL, startD, wipeD, D.tyN, List.map_cons, List.map_nil, List.cons_append, List.nil_append, List.length_cons, List.length_nil, List.getElem?_cons_zero, List.getElem?_cons_succ, List.set_cons_zero, List.set_cons_succ, List.replicate, Nat.sub_self, Nat.reduceSub, Nat.reduceAdd, Nat.zero_add, kb_ii, kb_ib, kb_it, kb_is, kb_bi, kb_bb, kb_bt, kb_bs, kb_tt, kb_ti, kb_ts, kb_ss, kb_si, kb_st, kb_nt, kb_ni, kb_ns, kb_lt, kb_li, kb_ls, ex_some, seq_tup, seq_tpx, itOf_tpx, seq_lst, seq_fz, list_lst, lsts_lst, lsts_fz, itOf_tup, itOf_lst, itOf_fz, now_int, now_bl, now_non, now_str, now_tup, now_lst, isNon_non, isNon_int, isNon_tup, isNon_ref, isNon_lst, isNon_str, isNon_bl, ends_at hke, decide_eq_true hte]
    exact .here (q o4 hp4)
end L45
namespace L45
open PySem PySem.Spec PySem.W PyProof.Rows L2 PL
theorem gj_empty : GJ [] := ⟨by decide, (fun _ h => by cases h), (fun _ h => by cases h), (fun _ h => by cases h)⟩
theorem perm_empty {o : List Nat} (h : Perm_ ([] : List Job).length o) : o = [] := List.eq_nil_of_length_eq_zero h.len
theorem bd_empty : bd [] = [] := perm_empty (bd_perm [])
theorem inT_empty : InT [] := by
  intro x hx
  rw [bd_empty] at hx
  cases hx
def sp__law_right : DSp := fun ds S Q => ∃ (p : Addr) (o : MO), ds = [.ref p] ∧ S p = some o ∧ PotO 0 o ∧ ∀ o', Q (.bl true) (S.up p o')
theorem pure__law_right : ∀ ds S Q, sp__law_right ds S Q → t__law_right sp__law_take sp__law_are_dues_right sp__law_are_ends_right sp_fewest_late sp_least_wait sp_all_in_time (DeN Q) (startD N__law_right ds) S := by
  rintro ds S0 Q ⟨p, o0, rfl, hS0, hp0, q⟩
  unfold t__law_right
  refine seqG fun v hv => ?_
  refine forG fun τ hτ => ?_
  simp only [dSeq, dNext, dRet, dRetN, dIfS, dAsg, dAsgG, dDrop, dPar2, dPar3, dAug, dAugS, dFor, dOp, dVar, dC, dTest, dChain, dAnd, dOr, dNot, dAndV, dOrV, dNotV, dIf, dTup, dLst, dNil, dCons, dStar, dCB, dCall, dSl, dNoPart, dPart, dBM, dRev, dNeg, dIsi, dListRg, dTupRg, dRg1, dRg2, dLc, dIt, dEnum, dZip2, dZip3, dRng1, dRng2, dYes, gN, gT, gsNil, gsCons, gSb, oI, oI0, oAdd, oMulA, oSub, oFdiv, oMod, oPow, oLt, oLe, oGt, oGe, oEq, oNe, oIsN, oNotN, oIsB, oNotB, oIx, oSl, oLen, oSum, oAll, oAny, oAbs, o1I, o2I, oMin2, oMax2, oMin, oMax, oMinL, oMaxL, oInt, oBool, oList, oTuple, oSorted, oIn, oAddI, oGet, oSet, oAppend, oExtend, oPop, oPopAt, oIndexL, oIndexT, oInsert, oRemove, dTupX, dBMX, dLenSet, newL, startD, wipeD, D.tyN, List.map_cons, List.map_nil, List.cons_append, List.nil_append, List.length_cons, List.length_nil, List.getElem?_cons_zero, List.getElem?_cons_succ, List.set_cons_zero, List.set_cons_succ, List.replicate, Nat.sub_self, Nat.reduceSub, Nat.reduceAdd, Nat.zero_add, kb_ii, kb_ib, kb_it, kb_is, kb_bi, kb_bb, kb_bt, kb_bs, kb_tt, kb_ti, kb_ts, kb_ss, kb_si, kb_st, kb_nt, kb_ni, kb_ns, kb_lt, kb_li, kb_ls, ex_some, seq_tup, seq_tpx, itOf_tpx, seq_lst, seq_fz, list_lst, lsts_lst, lsts_fz, itOf_tup, itOf_lst, itOf_fz, now_int, now_bl, now_non, now_str, now_tup, now_lst, isNon_non, isNon_int, isNon_tup, isNon_ref, isNon_lst, isNon_str, isNon_bl]
  refine ⟨by decide, trivial, ?_⟩
  refine loopD_invE (α := Nat) (fun i => .int (0 + (i : Int))) (fun xs ρ S => ∃ o1 o2 o3 o, ρ = [some (.ref p), o1, o2, o3] ∧ S p = some o ∧ PotO (100 * (8 - xs.length)) o ∧ Fr p S0 S ∧ xs.length ≤ 8) ?_ ?_ _ _ _
    ⟨none, none, none, o0, rfl, hS0, hp0.mono (Nat.zero_le _), Fr.refl, Nat.le_refl _⟩ trivial
  · rintro x xs ρ S ⟨o1, o2, o3, o, rfl, hS, hp, hfr, hxl⟩ _ N hN
    rw [List.length_cons] at hp hxl
    generalize hb : 100 * (8 - (xs.length + 1)) = b at hp
    have hb2 : b ≤ 2000 := by omega
    subst hτ
    simp only [gN, List.set_cons_zero, List.set_cons_succ]
    refine seqG fun v1 hv1 => ?_
    simp only [dSeq, dNext, dRet, dRetN, dIfS, dAsg, dAsgG, dDrop, dPar2, dPar3, dAug, dAugS, dFor, dOp, dVar, dC, dTest, dChain, dAnd, dOr, dNot, dAndV, dOrV, dNotV, dIf, dTup, dLst, dNil, dCons, dStar, dCB, dCall, dSl, dNoPart, dPart, dBM, dRev, dNeg, dIsi, dListRg, dTupRg, dRg1, dRg2, dLc, dIt, dEnum, dZip2, dZip3, dRng1, dRng2, dYes, gN, gT, gsNil, gsCons, gSb, oI, oI0, oAdd, oMulA, oSub, oFdiv, oMod, oPow, oLt, oLe, oGt, oGe, oEq, oNe, oIsN, oNotN, oIsB, oNotB, oIx, oSl, oLen, oSum, oAll, oAny, oAbs, o1I, o2I, oMin2, oMax2, oMin, oMax, oMinL, oMaxL, oInt, oBool, oList, oTuple, oSorted, oIn, oAddI, oGet, oSet, oAppend, oExtend, oPop, oPopAt, oIndexL, oIndexT, oInsert, oRemove, dTupX, dBMX, dLenSet, newL, startD, wipeD, D.tyN, List.map_cons, List.map_nil, List.cons_append, List.nil_append, List.length_cons, List.length_nil, List.getElem?_cons_zero, List.getElem?_cons_succ, List.set_cons_zero, List.set_cons_succ, List.replicate, Nat.sub_self, Nat.reduceSub, Nat.reduceAdd, Nat.zero_add, kb_ii, kb_ib, kb_it, kb_is, kb_bi, kb_bb, kb_bt, kb_bs, kb_tt, kb_ti, kb_ts, kb_ss, kb_si, kb_st, kb_nt, kb_ni, kb_ns, kb_lt, kb_li, kb_ls, ex_some, seq_tup, seq_tpx, itOf_tpx, seq_lst, seq_fz, list_lst, lsts_lst, lsts_fz, itOf_tup, itOf_lst, itOf_fz, now_int, now_bl, now_non, now_str, now_tup, now_lst, isNon_non, isNon_int, isNon_tup, isNon_ref, isNon_lst, isNon_str, isNon_bl]
    refine ⟨Nat.zero_le _, fun pw hpw => ?_⟩
    have hpwp : pw ≠ p := fun z => by subst z; rw [hS] at hpw; cases hpw
    have hn0 : S0 pw = none := hfr.none hpwp hpw
    have hSa : (S.up pw (MO.lst [])) p = some o := by rw [Sto.up_ne (Ne.symm hpwp)]; exact hS
    have hfa : Fr p S0 (S.up pw (MO.lst [])) := hfr.new hpw
    have hwa : (S.up pw (MO.lst [])) pw = some (.lst (([] : List Job).map eJ)) := Sto.up_same
    generalize S.up pw (MO.lst []) = Sa at hSa hfa hwa ⊢
    subst hv1
    refine seqG fun v2 hv2 => ?_
    refine forG fun τ2 hτ2 => ?_
    simp only [dSeq, dNext, dRet, dRetN, dIfS, dAsg, dAsgG, dDrop, dPar2, dPar3, dAug, dAugS, dFor, dOp, dVar, dC, dTest, dChain, dAnd, dOr, dNot, dAndV, dOrV, dNotV, dIf, dTup, dLst, dNil, dCons, dStar, dCB, dCall, dSl, dNoPart, dPart, dBM, dRev, dNeg, dIsi, dListRg, dTupRg, dRg1, dRg2, dLc, dIt, dEnum, dZip2, dZip3, dRng1, dRng2, dYes, gN, gT, gsNil, gsCons, gSb, oI, oI0, oAdd, oMulA, oSub, oFdiv, oMod, oPow, oLt, oLe, oGt, oGe, oEq, oNe, oIsN, oNotN, oIsB, oNotB, oIx, oSl, oLen, oSum, oAll, oAny, oAbs, o1I, o2I, oMin2, oMax2, oMin, oMax, oMinL, oMaxL, oInt, oBool, oList, oTuple, oSorted, oIn, oAddI, oGet, oSet, oAppend, oExtend, oPop, oPopAt, oIndexL, oIndexT, oInsert, oRemove, dTupX, dBMX, dLenSet, newL, startD, wipeD, D.tyN, List.map_cons, List.map_nil, List.cons_append, List.nil_append, List.length_cons, List.length_nil, List.getElem?_cons_zero, List.getElem?_cons_succ, List.set_cons_zero, List.set_cons_succ, List.replicate, Nat.sub_self, Nat.reduceSub, Nat.reduceAdd, Nat.zero_add, kb_ii, kb_ib, kb_it, kb_is, kb_bi, kb_bb, kb_bt, kb_bs, kb_tt, kb_ti, kb_ts, kb_ss, kb_si, kb_st, kb_nt, kb_ni, kb_ns, kb_lt, kb_li, kb_ls, ex_some, seq_tup, seq_tpx, itOf_tpx, seq_lst, seq_fz, list_lst, lsts_lst, lsts_fz, itOf_tup, itOf_lst, itOf_fz, now_int, now_bl, now_non, now_str, now_tup, now_lst, isNon_non, isNon_int, isNon_tup, isNon_ref, isNon_lst, isNon_str, isNon_bl]
    refine ⟨p, 20, b, o, rfl, by decide, by decide, hSa, hp, by omega, fun k2 ob k20 k21 hpb => ?_⟩
    simp only [dSeq, dNext, dRet, dRetN, dIfS, dAsg, dAsgG, dDrop, dPar2, dPar3, dAug, dAugS, dFor, dOp, dVar, dC, dTest, dChain, dAnd, dOr, dNot, dAndV, dOrV, dNotV, dIf, dTup, dLst, dNil, dCons, dStar, dCB, dCall, dSl, dNoPart, dPart, dBM, dRev, dNeg, dIsi, dListRg, dTupRg, dRg1, dRg2, dLc, dIt, dEnum, dZip2, dZip3, dRng1, dRng2, dYes, gN, gT, gsNil, gsCons, gSb, oI, oI0, oAdd, oMulA, oSub, oFdiv, oMod, oPow, oLt, oLe, oGt, oGe, oEq, oNe, oIsN, oNotN, oIsB, oNotB, oIx, oSl, oLen, oSum, oAll, oAny, oAbs, o1I, o2I, oMin2, oMax2, oMin, oMax, oMinL, oMaxL, oInt, oBool, oList, oTuple, oSorted, oIn, oAddI, oGet, oSet, oAppend, oExtend, oPop, oPopAt, oIndexL, oIndexT, oInsert, oRemove, dTupX, dBMX, dLenSet, newL, startD, wipeD, D.tyN, List.map_cons, List.map_nil, List.cons_append, List.nil_append, List.length_cons, List.length_nil, List.getElem?_cons_zero, List.getElem?_cons_succ, List.set_cons_zero, List.set_cons_succ, List.replicate, Nat.sub_self, Nat.reduceSub, Nat.reduceAdd, Nat.zero_add, kb_ii, kb_ib, kb_it, kb_is, kb_bi, kb_bb, kb_bt, kb_bs, kb_tt, kb_ti, kb_ts, kb_ss, kb_si, kb_st, kb_nt, kb_ni, kb_ns, kb_lt, kb_li, kb_ls, ex_some, seq_tup, seq_tpx, itOf_tpx, seq_lst, seq_fz, list_lst, lsts_lst, lsts_fz, itOf_tup, itOf_lst, itOf_fz, now_int, now_bl, now_non, now_str, now_tup, now_lst, isNon_non, isNon_int, isNon_tup, isNon_ref, isNon_lst, isNon_str, isNon_bl]
    refine ⟨⟨by omega, by omega⟩, trivial, ?_⟩
    obtain ⟨R, hR⟩ : ∃ R : Nat, (1 + k2).toNat = R := ⟨_, rfl⟩
    have hR1 : 1 ≤ R := by omega
    have hR20 : R ≤ 20 := by omega
    rw [hR]
    refine loopD_invE (α := Nat) (fun i => .int (0 + (i : Int))) (fun ys ρ S => ∃ o3 J oc, ρ = [some (.ref p), some (.int (0 + (x : Int))), some (.ref pw), o3] ∧ S pw = some (.lst (J.map eJ)) ∧ J.length + ys.length = R ∧ (∀ j ∈ J, (1 ≤ j.p ∧ j.p ≤ 30) ∧ (0 ≤ j.w ∧ j.w ≤ 9) ∧ (0 ≤ j.d ∧ j.d ≤ 400)) ∧ S p = some oc ∧ PotO (b + 1 + 3 * J.length) oc ∧ Fr p S0 S) ?_ ?_ _ _ _
      ⟨_, [], ob, rfl, by rw [Sto.up_ne hpwp]; exact hwa, by simp, by simp, Sto.up_same, hpb, hfa.own⟩ trivial
    · rintro y ys ρ S ⟨o3', J, oc, rfl, hw, hlen, hrow, hSp, hpp, hfr2⟩ _ N2 hN2
      rw [List.length_cons] at hlen
      subst hτ2
      simp only [gN, List.set_cons_zero, List.set_cons_succ]
      simp only [dSeq, dNext, dRet, dRetN, dIfS, dAsg, dAsgG, dDrop, dPar2, dPar3, dAug, dAugS, dFor, dOp, dVar, dC, dTest, dChain, dAnd, dOr, dNot, dAndV, dOrV, dNotV, dIf, dTup, dLst, dNil, dCons, dStar, dCB, dCall, dSl, dNoPart, dPart, dBM, dRev, dNeg, dIsi, dListRg, dTupRg, dRg1, dRg2, dLc, dIt, dEnum, dZip2, dZip3, dRng1, dRng2, dYes, gN, gT, gsNil, gsCons, gSb, oI, oI0, oAdd, oMulA, oSub, oFdiv, oMod, oPow, oLt, oLe, oGt, oGe, oEq, oNe, oIsN, oNotN, oIsB, oNotB, oIx, oSl, oLen, oSum, oAll, oAny, oAbs, o1I, o2I, oMin2, oMax2, oMin, oMax, oMinL, oMaxL, oInt, oBool, oList, oTuple, oSorted, oIn, oAddI, oGet, oSet, oAppend, oExtend, oPop, oPopAt, oIndexL, oIndexT, oInsert, oRemove, dTupX, dBMX, dLenSet, newL, startD, wipeD, D.tyN, List.map_cons, List.map_nil, List.cons_append, List.nil_append, List.length_cons, List.length_nil, List.getElem?_cons_zero, List.getElem?_cons_succ, List.set_cons_zero, List.set_cons_succ, List.replicate, Nat.sub_self, Nat.reduceSub, Nat.reduceAdd, Nat.zero_add, kb_ii, kb_ib, kb_it, kb_is, kb_bi, kb_bb, kb_bt, kb_bs, kb_tt, kb_ti, kb_ts, kb_ss, kb_si, kb_st, kb_nt, kb_ni, kb_ns, kb_lt, kb_li, kb_ls, ex_some, seq_tup, seq_tpx, itOf_tpx, seq_lst, seq_fz, list_lst, lsts_lst, lsts_fz, itOf_tup, itOf_lst, itOf_fz, now_int, now_bl, now_non, now_str, now_tup, now_lst, isNon_non, isNon_int, isNon_tup, isNon_ref, isNon_lst, isNon_str, isNon_bl, list_ref hw]
      refine ⟨⟨_, rfl⟩, p, 30, _, oc, rfl, by decide, by decide, hSp, hpp, by omega, fun k3 od k30 k31 hpd => ?_⟩
      simp only [dSeq, dNext, dRet, dRetN, dIfS, dAsg, dAsgG, dDrop, dPar2, dPar3, dAug, dAugS, dFor, dOp, dVar, dC, dTest, dChain, dAnd, dOr, dNot, dAndV, dOrV, dNotV, dIf, dTup, dLst, dNil, dCons, dStar, dCB, dCall, dSl, dNoPart, dPart, dBM, dRev, dNeg, dIsi, dListRg, dTupRg, dRg1, dRg2, dLc, dIt, dEnum, dZip2, dZip3, dRng1, dRng2, dYes, gN, gT, gsNil, gsCons, gSb, oI, oI0, oAdd, oMulA, oSub, oFdiv, oMod, oPow, oLt, oLe, oGt, oGe, oEq, oNe, oIsN, oNotN, oIsB, oNotB, oIx, oSl, oLen, oSum, oAll, oAny, oAbs, o1I, o2I, oMin2, oMax2, oMin, oMax, oMinL, oMaxL, oInt, oBool, oList, oTuple, oSorted, oIn, oAddI, oGet, oSet, oAppend, oExtend, oPop, oPopAt, oIndexL, oIndexT, oInsert, oRemove, dTupX, dBMX, dLenSet, newL, startD, wipeD, D.tyN, List.map_cons, List.map_nil, List.cons_append, List.nil_append, List.length_cons, List.length_nil, List.getElem?_cons_zero, List.getElem?_cons_succ, List.set_cons_zero, List.set_cons_succ, List.replicate, Nat.sub_self, Nat.reduceSub, Nat.reduceAdd, Nat.zero_add, kb_ii, kb_ib, kb_it, kb_is, kb_bi, kb_bb, kb_bt, kb_bs, kb_tt, kb_ti, kb_ts, kb_ss, kb_si, kb_st, kb_nt, kb_ni, kb_ns, kb_lt, kb_li, kb_ls, ex_some, seq_tup, seq_tpx, itOf_tpx, seq_lst, seq_fz, list_lst, lsts_lst, lsts_fz, itOf_tup, itOf_lst, itOf_fz, now_int, now_bl, now_non, now_str, now_tup, now_lst, isNon_non, isNon_int, isNon_tup, isNon_ref, isNon_lst, isNon_str, isNon_bl]
      refine ⟨p, 9, _, od, rfl, by decide, by decide, Sto.up_same, hpd, by omega, fun k4 oe k40 k41 hpe => ?_⟩
      simp only [dSeq, dNext, dRet, dRetN, dIfS, dAsg, dAsgG, dDrop, dPar2, dPar3, dAug, dAugS, dFor, dOp, dVar, dC, dTest, dChain, dAnd, dOr, dNot, dAndV, dOrV, dNotV, dIf, dTup, dLst, dNil, dCons, dStar, dCB, dCall, dSl, dNoPart, dPart, dBM, dRev, dNeg, dIsi, dListRg, dTupRg, dRg1, dRg2, dLc, dIt, dEnum, dZip2, dZip3, dRng1, dRng2, dYes, gN, gT, gsNil, gsCons, gSb, oI, oI0, oAdd, oMulA, oSub, oFdiv, oMod, oPow, oLt, oLe, oGt, oGe, oEq, oNe, oIsN, oNotN, oIsB, oNotB, oIx, oSl, oLen, oSum, oAll, oAny, oAbs, o1I, o2I, oMin2, oMax2, oMin, oMax, oMinL, oMaxL, oInt, oBool, oList, oTuple, oSorted, oIn, oAddI, oGet, oSet, oAppend, oExtend, oPop, oPopAt, oIndexL, oIndexT, oInsert, oRemove, dTupX, dBMX, dLenSet, newL, startD, wipeD, D.tyN, List.map_cons, List.map_nil, List.cons_append, List.nil_append, List.length_cons, List.length_nil, List.getElem?_cons_zero, List.getElem?_cons_succ, List.set_cons_zero, List.set_cons_succ, List.replicate, Nat.sub_self, Nat.reduceSub, Nat.reduceAdd, Nat.zero_add, kb_ii, kb_ib, kb_it, kb_is, kb_bi, kb_bb, kb_bt, kb_bs, kb_tt, kb_ti, kb_ts, kb_ss, kb_si, kb_st, kb_nt, kb_ni, kb_ns, kb_lt, kb_li, kb_ls, ex_some, seq_tup, seq_tpx, itOf_tpx, seq_lst, seq_fz, list_lst, lsts_lst, lsts_fz, itOf_tup, itOf_lst, itOf_fz, now_int, now_bl, now_non, now_str, now_tup, now_lst, isNon_non, isNon_int, isNon_tup, isNon_ref, isNon_lst, isNon_str, isNon_bl]
      refine ⟨p, 400, _, oe, rfl, by decide, by decide, Sto.up_same, hpe, by omega, fun k5 of k50 k51 hpf => ?_⟩
      have hw' : (((S.up p od).up p oe).up p of) pw = some (.lst (J.map eJ)) := by rw [Sto.up_ne hpwp, Sto.up_ne hpwp, Sto.up_ne hpwp]; exact hw
      simp only [dSeq, dNext, dRet, dRetN, dIfS, dAsg, dAsgG, dDrop, dPar2, dPar3, dAug, dAugS, dFor, dOp, dVar, dC, dTest, dChain, dAnd, dOr, dNot, dAndV, dOrV, dNotV, dIf, dTup, dLst, dNil, dCons, dStar, dCB, dCall, dSl, dNoPart, dPart, dBM, dRev, dNeg, dIsi, dListRg, dTupRg, dRg1, dRg2, dLc, dIt, dEnum, dZip2, dZip3, dRng1, dRng2, dYes, gN, gT, gsNil, gsCons, gSb, oI, oI0, oAdd, oMulA, oSub, oFdiv, oMod, oPow, oLt, oLe, oGt, oGe, oEq, oNe, oIsN, oNotN, oIsB, oNotB, oIx, oSl, oLen, oSum, oAll, oAny, oAbs, o1I, o2I, oMin2, oMax2, oMin, oMax, oMinL, oMaxL, oInt, oBool, oList, oTuple, oSorted, oIn, oAddI, oGet, oSet, oAppend, oExtend, oPop, oPopAt, oIndexL, oIndexT, oInsert, oRemove, dTupX, dBMX, dLenSet, newL, startD, wipeD, D.tyN, List.map_cons, List.map_nil, List.cons_append, List.nil_append, List.length_cons, List.length_nil, List.getElem?_cons_zero, List.getElem?_cons_succ, List.set_cons_zero, List.set_cons_succ, List.replicate, Nat.sub_self, Nat.reduceSub, Nat.reduceAdd, Nat.zero_add, kb_ii, kb_ib, kb_it, kb_is, kb_bi, kb_bb, kb_bt, kb_bs, kb_tt, kb_ti, kb_ts, kb_ss, kb_si, kb_st, kb_nt, kb_ni, kb_ns, kb_lt, kb_li, kb_ls, ex_some, seq_tup, seq_tpx, itOf_tpx, seq_lst, seq_fz, list_lst, lsts_lst, lsts_fz, itOf_tup, itOf_lst, itOf_fz, now_int, now_bl, now_non, now_str, now_tup, now_lst, isNon_non, isNon_int, isNon_tup, isNon_ref, isNon_lst, isNon_str, isNon_bl, trk_ref hw']
      refine ⟨by rw [sizeLine_eq]; omega, by rw [List.length_map, sizeLine_eq]; omega, ?_⟩
      refine hN2 _ _ trivial ⟨_, J ++ [⟨1 + k3, k4, k5⟩], of, rfl, by rw [Sto.up_same, List.map_append]; rfl, by simp; omega, fun j hj => ?_, by rw [Sto.up_ne (Ne.symm hpwp)]; exact Sto.up_same, ?_, (hfr2.own.own.own).old hn0⟩
      · rcases List.mem_append.mp hj with z | z
        · exact hrow j z
        · rw [List.mem_singleton.mp z]
          exact ⟨⟨by show 1 ≤ 1 + k3; omega, by show 1 + k3 ≤ 30; omega⟩, ⟨k40, by show k4 ≤ 9; omega⟩, ⟨k50, by show k5 ≤ 400; omega⟩⟩
      · rw [List.length_append]
        exact hpf.mono (by simp; omega)
    · rintro ρ S2 ⟨o3', J, oc, rfl, hw, hlen, hrow, hSp, hpp, hfr2⟩
      rw [List.length_nil, Nat.add_zero] at hlen
      show v2 _ _ _
      subst hv2
      have dj : DJ J := ⟨by omega, by omega, fun j hj => (hrow j hj).1, fun j hj => (hrow j hj).2.1, fun j hj => (hrow j hj).2.2⟩
      simp only [dSeq, dNext, dRet, dRetN, dIfS, dAsg, dAsgG, dDrop, dPar2, dPar3, dAug, dAugS, dFor, dOp, dVar, dC, dTest, dChain, dAnd, dOr, dNot, dAndV, dOrV, dNotV, dIf, dTup, dLst, dNil, dCons, dStar, dCB, dCall, dSl, dNoPart, dPart, dBM, dRev, dNeg, dIsi, dListRg, dTupRg, dRg1, dRg2, dLc, dIt, dEnum, dZip2, dZip3, dRng1, dRng2, dYes, gN, gT, gsNil, gsCons, gSb, oI, oI0, oAdd, oMulA, oSub, oFdiv, oMod, oPow, oLt, oLe, oGt, oGe, oEq, oNe, oIsN, oNotN, oIsB, oNotB, oIx, oSl, oLen, oSum, oAll, oAny, oAbs, o1I, o2I, oMin2, oMax2, oMin, oMax, oMinL, oMaxL, oInt, oBool, oList, oTuple, oSorted, oIn, oAddI, oGet, oSet, oAppend, oExtend, oPop, oPopAt, oIndexL, oIndexT, oInsert, oRemove, dTupX, dBMX, dLenSet, newL, startD, wipeD, D.tyN, List.map_cons, List.map_nil, List.cons_append, List.nil_append, List.length_cons, List.length_nil, List.getElem?_cons_zero, List.getElem?_cons_succ, List.set_cons_zero, List.set_cons_succ, List.replicate, Nat.sub_self, Nat.reduceSub, Nat.reduceAdd, Nat.zero_add, kb_ii, kb_ib, kb_it, kb_is, kb_bi, kb_bb, kb_bt, kb_bs, kb_tt, kb_ti, kb_ts, kb_ss, kb_si, kb_st, kb_nt, kb_ni, kb_ns, kb_lt, kb_li, kb_ls, ex_some, seq_tup, seq_tpx, itOf_tpx, seq_lst, seq_fz, list_lst, lsts_lst, lsts_fz, itOf_tup, itOf_lst, itOf_fz, now_int, now_bl, now_non, now_str, now_tup, now_lst, isNon_non, isNon_int, isNon_tup, isNon_ref, isNon_lst, isNon_str, isNon_bl, list_ref hw, seq_ref hw]
      refine ⟨p, J, _, oc, rfl, hSp, hpp, by omega, dj, fun od hpd => ?_⟩
      have hw' : (S2.up p od) pw = some (.lst (J.map eJ)) := by rw [Sto.up_ne hpwp]; exact hw
      simp only [Bool.not_true, seq_ref hw']
      refine ⟨p, J, _, od, rfl, Sto.up_same, hpd, by omega, dj, fun oe hpe => ?_⟩
      simp only [Bool.not_true, Sto.up_up]
      exact hN _ _ trivial ⟨_, _, _, oe, rfl, Sto.up_same, hpe.mono (by omega), hfr2.own, by omega⟩
  · rintro ρ S ⟨o1, o2, o3, o, rfl, hS, hp, hfr, hxl⟩
    subst hv
    simp only [dSeq, dNext, dRet, dRetN, dIfS, dAsg, dAsgG, dDrop, dPar2, dPar3, dAug, dAugS, dFor, dOp, dVar, dC, dTest, dChain, dAnd, dOr, dNot, dAndV, dOrV, dNotV, dIf, dTup, dLst, dNil, dCons, dStar, dCB, dCall, dSl, dNoPart, dPart, dBM, dRev, dNeg, dIsi, dListRg, dTupRg, dRg1, dRg2, dLc, dIt, dEnum, dZip2, dZip3, dRng1, dRng2, dYes, gN, gT, gsNil, gsCons, gSb, oI, oI0, oAdd, oMulA, oSub, oFdiv, oMod, oPow, oLt, oLe, oGt, oGe, oEq, oNe, oIsN, oNotN, oIsB, oNotB, oIx, oSl, oLen, oSum, oAll, oAny, oAbs, o1I, o2I, oMin2, oMax2, oMin, oMax, oMinL, oMaxL, oInt, oBool, oList, oTuple, oSorted, oIn, oAddI, oGet, oSet, oAppend, oExtend, oPop, oPopAt, oIndexL, oIndexT, oInsert, oRemove, dTupX, dBMX, dLenSet, newL, startD, wipeD, D.tyN, List.map_cons, List.map_nil, List.cons_append, List.nil_append, List.length_cons, List.length_nil, List.getElem?_cons_zero, List.getElem?_cons_succ, List.set_cons_zero, List.set_cons_succ, List.replicate, Nat.sub_self, Nat.reduceSub, Nat.reduceAdd, Nat.zero_add, kb_ii, kb_ib, kb_it, kb_is, kb_bi, kb_bb, kb_bt, kb_bs, kb_tt, kb_ti, kb_ts, kb_ss, kb_si, kb_st, kb_nt, kb_ni, kb_ns, kb_lt, kb_li, kb_ls, ex_some, seq_tup, seq_tpx, itOf_tpx, seq_lst, seq_fz, list_lst, lsts_lst, lsts_fz, itOf_tup, itOf_lst, itOf_fz, now_int, now_bl, now_non, now_str, now_tup, now_lst, isNon_non, isNon_int, isNon_tup, isNon_ref, isNon_lst, isNon_str, isNon_bl]
    refine ⟨Nat.zero_le _, [], rfl, gj_empty, fun _ => ?_, fun z => absurd inT_empty z⟩
    simp only [dSeq, dNext, dRet, dRetN, dIfS, dAsg, dAsgG, dDrop, dPar2, dPar3, dAug, dAugS, dFor, dOp, dVar, dC, dTest, dChain, dAnd, dOr, dNot, dAndV, dOrV, dNotV, dIf, dTup, dLst, dNil, dCons, dStar, dCB, dCall, dSl, dNoPart, dPart, dBM, dRev, dNeg, dIsi, dListRg, dTupRg, dRg1, dRg2, dLc, dIt, dEnum, dZip2, dZip3, dRng1, dRng2, dYes, gN, gT, gsNil, gsCons, gSb, oI, oI0, oAdd, oMulA, oSub, oFdiv, oMod, oPow, oLt, oLe, oGt, oGe, oEq, oNe, oIsN, oNotN, oIsB, oNotB, oIx, oSl, oLen, oSum, oAll, oAny, oAbs, o1I, o2I, oMin2, oMax2, oMin, oMax, oMinL, oMaxL, oInt, oBool, oList, oTuple, oSorted, oIn, oAddI, oGet, oSet, oAppend, oExtend, oPop, oPopAt, oIndexL, oIndexT, oInsert, oRemove, dTupX, dBMX, dLenSet, newL, startD, wipeD, D.tyN, List.map_cons, List.map_nil, List.cons_append, List.nil_append, List.length_cons, List.length_nil, List.getElem?_cons_zero, List.getElem?_cons_succ, List.set_cons_zero, List.set_cons_succ, List.replicate, Nat.sub_self, Nat.reduceSub, Nat.reduceAdd, Nat.zero_add, kb_ii, kb_ib, kb_it, kb_is, kb_bi, kb_bb, kb_bt, kb_bs, kb_tt, kb_ti, kb_ts, kb_ss, kb_si, kb_st, kb_nt, kb_ni, kb_ns, kb_lt, kb_li, kb_ls, ex_some, seq_tup, seq_tpx, itOf_tpx, seq_lst, seq_fz, list_lst, lsts_lst, lsts_fz, itOf_tup, itOf_lst, itOf_fz, now_int, now_bl, now_non, now_str, now_tup, now_lst, isNon_non, isNon_int, isNon_tup, isNon_ref, isNon_lst, isNon_str, isNon_bl, a20]
    refine ⟨⟨okn_str (by decide +kernel), okn_str (by decide +kernel)⟩, ?_⟩
    rw [eqD_refl (n := 8) (okn_str (by decide +kernel))]
    simp only [dSeq, dNext, dRet, dRetN, dIfS, dAsg, dAsgG, dDrop, dPar2, dPar3, dAug, dAugS, dFor, dOp, dVar, dC, dTest, dChain, dAnd, dOr, dNot, dAndV, dOrV, dNotV, dIf, dTup, dLst, dNil, dCons, dStar, dCB, dCall, dSl, dNoPart, dPart, dBM, dRev, dNeg, dIsi, dListRg, dTupRg, dRg1, dRg2, dLc, dIt, dEnum, dZip2, dZip3, dRng1, dRng2, dYes, gN, gT, gsNil, gsCons, gSb, oI, oI0, oAdd, oMulA, oSub, oFdiv, oMod, oPow, oLt, oLe, oGt, oGe, oEq, oNe, oIsN, oNotN, oIsB, oNotB, oIx, oSl, oLen, oSum, oAll, oAny, oAbs, o1I, o2I, oMin2, oMax2, oMin, oMax, oMinL, oMaxL, oInt, oBool, oList, oTuple, oSorted, oIn, oAddI, oGet, oSet, oAppend, oExtend, oPop, oPopAt, oIndexL, oIndexT, oInsert, oRemove, dTupX, dBMX, dLenSet, newL, startD, wipeD, D.tyN, List.map_cons, List.map_nil, List.cons_append, List.nil_append, List.length_cons, List.length_nil, List.getElem?_cons_zero, List.getElem?_cons_succ, List.set_cons_zero, List.set_cons_succ, List.replicate, Nat.sub_self, Nat.reduceSub, Nat.reduceAdd, Nat.zero_add, kb_ii, kb_ib, kb_it, kb_is, kb_bi, kb_bb, kb_bt, kb_bs, kb_tt, kb_ti, kb_ts, kb_ss, kb_si, kb_st, kb_nt, kb_ni, kb_ns, kb_lt, kb_li, kb_ls, ex_some, seq_tup, seq_tpx, itOf_tpx, seq_lst, seq_fz, list_lst, lsts_lst, lsts_fz, itOf_tup, itOf_lst, itOf_fz, now_int, now_bl, now_non, now_str, now_tup, now_lst, isNon_non, isNon_int, isNon_tup, isNon_ref, isNon_lst, isNon_str, isNon_bl]
    refine ⟨Nat.zero_le _, [], rfl, gj_empty, fun o2 ho2 hs2 => ?_⟩
    obtain rfl := perm_empty ho2
    have e0 : tot [] [] = 0 := rfl
    have ok0 : D.okn 8 (D.tup [D.str "order", D.int 0, D.tup []]) = true := by rw [okn_tup, List.all_cons, List.all_cons, List.all_cons, okn_str (by decide +kernel), okn_int, okn_tup]; rfl
    have ok1 : D.okn 8 (D.tup [D.str "late", D.int 0, D.tup []]) = true := by rw [okn_tup, List.all_cons, List.all_cons, List.all_cons, okn_str (by decide +kernel), okn_int, okn_tup]; rfl
    simp only [dSeq, dNext, dRet, dRetN, dIfS, dAsg, dAsgG, dDrop, dPar2, dPar3, dAug, dAugS, dFor, dOp, dVar, dC, dTest, dChain, dAnd, dOr, dNot, dAndV, dOrV, dNotV, dIf, dTup, dLst, dNil, dCons, dStar, dCB, dCall, dSl, dNoPart, dPart, dBM, dRev, dNeg, dIsi, dListRg, dTupRg, dRg1, dRg2, dLc, dIt, dEnum, dZip2, dZip3, dRng1, dRng2, dYes, gN, gT, gsNil, gsCons, gSb, oI, oI0, oAdd, oMulA, oSub, oFdiv, oMod, oPow, oLt, oLe, oGt, oGe, oEq, oNe, oIsN, oNotN, oIsB, oNotB, oIx, oSl, oLen, oSum, oAll, oAny, oAbs, o1I, o2I, oMin2, oMax2, oMin, oMax, oMinL, oMaxL, oInt, oBool, oList, oTuple, oSorted, oIn, oAddI, oGet, oSet, oAppend, oExtend, oPop, oPopAt, oIndexL, oIndexT, oInsert, oRemove, dTupX, dBMX, dLenSet, newL, startD, wipeD, D.tyN, List.map_cons, List.map_nil, List.cons_append, List.nil_append, List.length_cons, List.length_nil, List.getElem?_cons_zero, List.getElem?_cons_succ, List.set_cons_zero, List.set_cons_succ, List.replicate, Nat.sub_self, Nat.reduceSub, Nat.reduceAdd, Nat.zero_add, kb_ii, kb_ib, kb_it, kb_is, kb_bi, kb_bb, kb_bt, kb_bs, kb_tt, kb_ti, kb_ts, kb_ss, kb_si, kb_st, kb_nt, kb_ni, kb_ns, kb_lt, kb_li, kb_ls, ex_some, seq_tup, seq_tpx, itOf_tpx, seq_lst, seq_fz, list_lst, lsts_lst, lsts_fz, itOf_tup, itOf_lst, itOf_fz, now_int, now_bl, now_non, now_str, now_tup, now_lst, isNon_non, isNon_int, isNon_tup, isNon_ref, isNon_lst, isNon_str, isNon_bl, e0, eO]
    refine ⟨Nat.zero_le _, by rw [sizeLine_eq]; omega, ⟨ok0, ok0⟩, ?_⟩
    rw [eqD_refl ok0]
    simp only [dSeq, dNext, dRet, dRetN, dIfS, dAsg, dAsgG, dDrop, dPar2, dPar3, dAug, dAugS, dFor, dOp, dVar, dC, dTest, dChain, dAnd, dOr, dNot, dAndV, dOrV, dNotV, dIf, dTup, dLst, dNil, dCons, dStar, dCB, dCall, dSl, dNoPart, dPart, dBM, dRev, dNeg, dIsi, dListRg, dTupRg, dRg1, dRg2, dLc, dIt, dEnum, dZip2, dZip3, dRng1, dRng2, dYes, gN, gT, gsNil, gsCons, gSb, oI, oI0, oAdd, oMulA, oSub, oFdiv, oMod, oPow, oLt, oLe, oGt, oGe, oEq, oNe, oIsN, oNotN, oIsB, oNotB, oIx, oSl, oLen, oSum, oAll, oAny, oAbs, o1I, o2I, oMin2, oMax2, oMin, oMax, oMinL, oMaxL, oInt, oBool, oList, oTuple, oSorted, oIn, oAddI, oGet, oSet, oAppend, oExtend, oPop, oPopAt, oIndexL, oIndexT, oInsert, oRemove, dTupX, dBMX, dLenSet, newL, startD, wipeD, D.tyN, List.map_cons, List.map_nil, List.cons_append, List.nil_append, List.length_cons, List.length_nil, List.getElem?_cons_zero, List.getElem?_cons_succ, List.set_cons_zero, List.set_cons_succ, List.replicate, Nat.sub_self, Nat.reduceSub, Nat.reduceAdd, Nat.zero_add, kb_ii, kb_ib, kb_it, kb_is, kb_bi, kb_bb, kb_bt, kb_bs, kb_tt, kb_ti, kb_ts, kb_ss, kb_si, kb_st, kb_nt, kb_ni, kb_ns, kb_lt, kb_li, kb_ls, ex_some, seq_tup, seq_tpx, itOf_tpx, seq_lst, seq_fz, list_lst, lsts_lst, lsts_fz, itOf_tup, itOf_lst, itOf_fz, now_int, now_bl, now_non, now_str, now_tup, now_lst, isNon_non, isNon_int, isNon_tup, isNon_ref, isNon_lst, isNon_str, isNon_bl]
    refine ⟨Nat.zero_le _, [], rfl, gj_empty, fun K R R' hB hR => ?_⟩
    have hl := best_len hB
    have hK : K = [] := List.eq_nil_of_length_eq_zero (by simp at hl; rw [hl.1]; rfl)
    have hRr : R = [] := List.eq_nil_of_length_eq_zero (by simp at hl; rw [hl.2]; rfl)
    subst hK
    subst hRr
    obtain rfl := List.perm_nil.mp hR
    simp only [dSeq, dNext, dRet, dRetN, dIfS, dAsg, dAsgG, dDrop, dPar2, dPar3, dAug, dAugS, dFor, dOp, dVar, dC, dTest, dChain, dAnd, dOr, dNot, dAndV, dOrV, dNotV, dIf, dTup, dLst, dNil, dCons, dStar, dCB, dCall, dSl, dNoPart, dPart, dBM, dRev, dNeg, dIsi, dListRg, dTupRg, dRg1, dRg2, dLc, dIt, dEnum, dZip2, dZip3, dRng1, dRng2, dYes, gN, gT, gsNil, gsCons, gSb, oI, oI0, oAdd, oMulA, oSub, oFdiv, oMod, oPow, oLt, oLe, oGt, oGe, oEq, oNe, oIsN, oNotN, oIsB, oNotB, oIx, oSl, oLen, oSum, oAll, oAny, oAbs, o1I, o2I, oMin2, oMax2, oMin, oMax, oMinL, oMaxL, oInt, oBool, oList, oTuple, oSorted, oIn, oAddI, oGet, oSet, oAppend, oExtend, oPop, oPopAt, oIndexL, oIndexT, oInsert, oRemove, dTupX, dBMX, dLenSet, newL, startD, wipeD, D.tyN, List.map_cons, List.map_nil, List.cons_append, List.nil_append, List.length_cons, List.length_nil, List.getElem?_cons_zero, List.getElem?_cons_succ, List.set_cons_zero, List.set_cons_succ, List.replicate, Nat.sub_self, Nat.reduceSub, Nat.reduceAdd, Nat.zero_add, kb_ii, kb_ib, kb_it, kb_is, kb_bi, kb_bb, kb_bt, kb_bs, kb_tt, kb_ti, kb_ts, kb_ss, kb_si, kb_st, kb_nt, kb_ni, kb_ns, kb_lt, kb_li, kb_ls, ex_some, seq_tup, seq_tpx, itOf_tpx, seq_lst, seq_fz, list_lst, lsts_lst, lsts_fz, itOf_tup, itOf_lst, itOf_fz, now_int, now_bl, now_non, now_str, now_tup, now_lst, isNon_non, isNon_int, isNon_tup, isNon_ref, isNon_lst, isNon_str, isNon_bl, eO]
    refine ⟨Nat.zero_le _, by rw [sizeLine_eq]; omega, ⟨ok1, ok1⟩, ?_⟩
    rw [show ((0 : Nat) : Int) = 0 from rfl, eqD_refl ok1]
    refine FzQ.ext (S := S0.up p o) (fun a u h => ?_) (q o)
    by_cases e : a = p
    · subst e; rw [Sto.up_same] at h; rw [hS]; exact h
    · rw [Sto.up_ne e] at h; exact hfr a u e h
def sp_law : DSp := fun ds S Q => ∃ ns : List Int, ds = [.fz (ns.map .int)] ∧ ns.length ≤ 63 ∧ ∀ S', Q (.bl true) S'
theorem pure_law : ∀ ds S Q, sp_law ds S Q → t_law sp__law_cells sp__law_right sp__law_pot (DeN Q) (startD N_law ds) S := by
  rintro ds S Q ⟨ns, rfl, hl, q⟩
  simp only [t_law, dSeq, dNext, dRet, dRetN, dIfS, dAsg, dAsgG, dDrop, dPar2, dPar3, dAug, dAugS, dFor, dOp, dVar, dC, dTest, dChain, dAnd, dOr, dNot, dAndV, dOrV, dNotV, dIf, dTup, dLst, dNil, dCons, dStar, dCB, dCall, dSl, dNoPart, dPart, dBM, dRev, dNeg, dIsi, dListRg, dTupRg, dRg1, dRg2, dLc, dIt, dEnum, dZip2, dZip3, dRng1, dRng2, dYes, gN, gT, gsNil, gsCons, gSb, oI, oI0, oAdd, oMulA, oSub, oFdiv, oMod, oPow, oLt, oLe, oGt, oGe, oEq, oNe, oIsN, oNotN, oIsB, oNotB, oIx, oSl, oLen, oSum, oAll, oAny, oAbs, o1I, o2I, oMin2, oMax2, oMin, oMax, oMinL, oMaxL, oInt, oBool, oList, oTuple, oSorted, oIn, oAddI, oGet, oSet, oAppend, oExtend, oPop, oPopAt, oIndexL, oIndexT, oInsert, oRemove, dTupX, dBMX, dLenSet, newL, startD, wipeD, D.tyN, List.map_cons, List.map_nil, List.cons_append, List.nil_append, List.length_cons, List.length_nil, List.getElem?_cons_zero, List.getElem?_cons_succ, List.set_cons_zero, List.set_cons_succ, List.replicate, Nat.sub_self, Nat.reduceSub, Nat.reduceAdd, Nat.zero_add, kb_ii, kb_ib, kb_it, kb_is, kb_bi, kb_bb, kb_bt, kb_bs, kb_tt, kb_ti, kb_ts, kb_ss, kb_si, kb_st, kb_nt, kb_ni, kb_ns, kb_lt, kb_li, kb_ls, ex_some, seq_tup, seq_tpx, itOf_tpx, seq_lst, seq_fz, list_lst, lsts_lst, lsts_fz, itOf_tup, itOf_lst, itOf_fz, now_int, now_bl, now_non, now_str, now_tup, now_lst, isNon_non, isNon_int, isNon_tup, isNon_ref, isNon_lst, isNon_str, isNon_bl]
  refine ⟨ns, rfl, by omega, fun n hn => ?_⟩
  simp only [dSeq, dNext, dRet, dRetN, dIfS, dAsg, dAsgG, dDrop, dPar2, dPar3, dAug, dAugS, dFor, dOp, dVar, dC, dTest, dChain, dAnd, dOr, dNot, dAndV, dOrV, dNotV, dIf, dTup, dLst, dNil, dCons, dStar, dCB, dCall, dSl, dNoPart, dPart, dBM, dRev, dNeg, dIsi, dListRg, dTupRg, dRg1, dRg2, dLc, dIt, dEnum, dZip2, dZip3, dRng1, dRng2, dYes, gN, gT, gsNil, gsCons, gSb, oI, oI0, oAdd, oMulA, oSub, oFdiv, oMod, oPow, oLt, oLe, oGt, oGe, oEq, oNe, oIsN, oNotN, oIsB, oNotB, oIx, oSl, oLen, oSum, oAll, oAny, oAbs, o1I, o2I, oMin2, oMax2, oMin, oMax, oMinL, oMaxL, oInt, oBool, oList, oTuple, oSorted, oIn, oAddI, oGet, oSet, oAppend, oExtend, oPop, oPopAt, oIndexL, oIndexT, oInsert, oRemove, dTupX, dBMX, dLenSet, newL, startD, wipeD, D.tyN, List.map_cons, List.map_nil, List.cons_append, List.nil_append, List.length_cons, List.length_nil, List.getElem?_cons_zero, List.getElem?_cons_succ, List.set_cons_zero, List.set_cons_succ, List.replicate, Nat.sub_self, Nat.reduceSub, Nat.reduceAdd, Nat.zero_add, kb_ii, kb_ib, kb_it, kb_is, kb_bi, kb_bb, kb_bt, kb_bs, kb_tt, kb_ti, kb_ts, kb_ss, kb_si, kb_st, kb_nt, kb_ni, kb_ns, kb_lt, kb_li, kb_ls, ex_some, seq_tup, seq_tpx, itOf_tpx, seq_lst, seq_fz, list_lst, lsts_lst, lsts_fz, itOf_tup, itOf_lst, itOf_fz, now_int, now_bl, now_non, now_str, now_tup, now_lst, isNon_non, isNon_int, isNon_tup, isNon_ref, isNon_lst, isNon_str, isNon_bl]
  have inv := lc_run (r := false) (ρ0 := [some (.fz (ns.map D.int)), none]) (γ := gN 1) (t := dYes) (el := dCall sp__law_right (dCons (dCall sp__law_pot (dCons (dVar 0) (dCons (dVar 1) dNil))) dNil)) (it := ⟨(List.range n).map fun (i : Nat) => D.int ((0 : Int) + (i : Nat)), fun _ => True⟩) (S := S)
    (Q := fun x S1 => oAll [x] S1 (FzQ Q)) (fun xs acc S' => ∃ k i, acc = (List.replicate k true).map D.bl ∧ k + xs.length = n ∧ xs = ((List.range n).drop i).map fun (i : Nat) => D.int ((0 : Int) + (i : Nat)))
    (fun _ => trivial) (small (by simp; omega)) (fun Dl hD => ⟨0, 0, rfl, by simp, rfl⟩) ?_ ?_ ?_
  · simp only [dSeq, dNext, dRet, dRetN, dIfS, dAsg, dAsgG, dDrop, dPar2, dPar3, dAug, dAugS, dFor, dOp, dVar, dC, dTest, dChain, dAnd, dOr, dNot, dAndV, dOrV, dNotV, dIf, dTup, dLst, dNil, dCons, dStar, dCB, dCall, dSl, dNoPart, dPart, dBM, dRev, dNeg, dIsi, dListRg, dTupRg, dRg1, dRg2, dLc, dIt, dEnum, dZip2, dZip3, dRng1, dRng2, dYes, gN, gT, gsNil, gsCons, gSb, oI, oI0, oAdd, oMulA, oSub, oFdiv, oMod, oPow, oLt, oLe, oGt, oGe, oEq, oNe, oIsN, oNotN, oIsB, oNotB, oIx, oSl, oLen, oSum, oAll, oAny, oAbs, o1I, o2I, oMin2, oMax2, oMin, oMax, oMinL, oMaxL, oInt, oBool, oList, oTuple, oSorted, oIn, oAddI, oGet, oSet, oAppend, oExtend, oPop, oPopAt, oIndexL, oIndexT, oInsert, oRemove, dTupX, dBMX, dLenSet, newL, startD, wipeD, D.tyN, List.map_cons, List.map_nil, List.cons_append, List.nil_append, List.length_cons, List.length_nil, List.getElem?_cons_zero, List.getElem?_cons_succ, List.set_cons_zero, List.set_cons_succ, List.replicate, Nat.sub_self, Nat.reduceSub, Nat.reduceAdd, Nat.zero_add, kb_ii, kb_ib, kb_it, kb_is, kb_bi, kb_bb, kb_bt, kb_bs, kb_tt, kb_ti, kb_ts, kb_ss, kb_si, kb_st, kb_nt, kb_ni, kb_ns, kb_lt, kb_li, kb_ls, ex_some, seq_tup, seq_tpx, itOf_tpx, seq_lst, seq_fz, list_lst, lsts_lst, lsts_fz, itOf_tup, itOf_lst, itOf_fz, now_int, now_bl, now_non, now_str, now_tup, now_lst, isNon_non, isNon_int, isNon_tup, isNon_ref, isNon_lst, isNon_str, isNon_bl] at inv
    exact inv
  · rintro x xs acc S' _ ⟨k, i, rfl, hk, hx⟩ Dl hD hDl N M hN
    cases hd : (List.range n).drop i with
    | nil => rw [hd] at hx; cases hx
    | cons a re =>
      obtain ⟨hi, ea, er⟩ := drop_at hd.symm
      rw [List.getElem_range] at ea
      subst ea
      rw [List.length_range] at hi
      rw [hd, List.map_cons] at hx
      obtain ⟨rfl, rfl⟩ := List.cons.inj hx
      rw [List.length_cons] at hk
      simp only [dSeq, dNext, dRet, dRetN, dIfS, dAsg, dAsgG, dDrop, dPar2, dPar3, dAug, dAugS, dFor, dOp, dVar, dC, dTest, dChain, dAnd, dOr, dNot, dAndV, dOrV, dNotV, dIf, dTup, dLst, dNil, dCons, dStar, dCB, dCall, dSl, dNoPart, dPart, dBM, dRev, dNeg, dIsi, dListRg, dTupRg, dRg1, dRg2, dLc, dIt, dEnum, dZip2, dZip3, dRng1, dRng2, dYes, gN, gT, gsNil, gsCons, gSb, oI, oI0, oAdd, oMulA, oSub, oFdiv, oMod, oPow, oLt, oLe, oGt, oGe, oEq, oNe, oIsN, oNotN, oIsB, oNotB, oIx, oSl, oLen, oSum, oAll, oAny, oAbs, o1I, o2I, oMin2, oMax2, oMin, oMax, oMinL, oMaxL, oInt, oBool, oList, oTuple, oSorted, oIn, oAddI, oGet, oSet, oAppend, oExtend, oPop, oPopAt, oIndexL, oIndexT, oInsert, oRemove, dTupX, dBMX, dLenSet, newL, startD, wipeD, D.tyN, List.map_cons, List.map_nil, List.cons_append, List.nil_append, List.length_cons, List.length_nil, List.getElem?_cons_zero, List.getElem?_cons_succ, List.set_cons_zero, List.set_cons_succ, List.replicate, Nat.sub_self, Nat.reduceSub, Nat.reduceAdd, Nat.zero_add, kb_ii, kb_ib, kb_it, kb_is, kb_bi, kb_bb, kb_bt, kb_bs, kb_tt, kb_ti, kb_ts, kb_ss, kb_si, kb_st, kb_nt, kb_ni, kb_ns, kb_lt, kb_li, kb_ls, ex_some, seq_tup, seq_tpx, itOf_tpx, seq_lst, seq_fz, list_lst, lsts_lst, lsts_fz, itOf_tup, itOf_lst, itOf_fz, now_int, now_bl, now_non, now_str, now_tup, now_lst, isNon_non, isNon_int, isNon_tup, isNon_ref, isNon_lst, isNon_str, isNon_bl, Int.zero_add]
      refine ⟨ns, a, rfl, by omega, fun p o hp ho => ?_⟩
      have hDp : Dl ≠ p := ne_of_in hDl hp
      refine ⟨p, o, rfl, Sto.up_same, ho, fun o' => ?_⟩
      refine hN _ _ (by rw [Sto.up_ne hDp, Sto.up_ne hDp]; exact hDl) (by rw [List.length_map, List.length_replicate, sizeLine_eq]; omega) ⟨k + 1, a + 1, ?_, by omega, by rw [er]⟩
      rw [List.replicate_succ', List.map_append]; rfl
  · rintro x xs acc S' ⟨k, i, rfl, hk, hx⟩
    simp
    rw [List.length_cons] at hk
    omega
  · rintro Dl acc S' hD ⟨k, i, rfl, hk, hx⟩ hDl
    show oAll [.lst _] _ _
    simp only [dSeq, dNext, dRet, dRetN, dIfS, dAsg, dAsgG, dDrop, dPar2, dPar3, dAug, dAugS, dFor, dOp, dVar, dC, dTest, dChain, dAnd, dOr, dNot, dAndV, dOrV, dNotV, dIf, dTup, dLst, dNil, dCons, dStar, dCB, dCall, dSl, dNoPart, dPart, dBM, dRev, dNeg, dIsi, dListRg, dTupRg, dRg1, dRg2, dLc, dIt, dEnum, dZip2, dZip3, dRng1, dRng2, dYes, gN, gT, gsNil, gsCons, gSb, oI, oI0, oAdd, oMulA, oSub, oFdiv, oMod, oPow, oLt, oLe, oGt, oGe, oEq, oNe, oIsN, oNotN, oIsB, oNotB, oIx, oSl, oLen, oSum, oAll, oAny, oAbs, o1I, o2I, oMin2, oMax2, oMin, oMax, oMinL, oMaxL, oInt, oBool, oList, oTuple, oSorted, oIn, oAddI, oGet, oSet, oAppend, oExtend, oPop, oPopAt, oIndexL, oIndexT, oInsert, oRemove, dTupX, dBMX, dLenSet, newL, startD, wipeD, D.tyN, List.map_cons, List.map_nil, List.cons_append, List.nil_append, List.length_cons, List.length_nil, List.getElem?_cons_zero, List.getElem?_cons_succ, List.set_cons_zero, List.set_cons_succ, List.replicate, Nat.sub_self, Nat.reduceSub, Nat.reduceAdd, Nat.zero_add, kb_ii, kb_ib, kb_it, kb_is, kb_bi, kb_bb, kb_bt, kb_bs, kb_tt, kb_ti, kb_ts, kb_ss, kb_si, kb_st, kb_nt, kb_ni, kb_ns, kb_lt, kb_li, kb_ls, ex_some, seq_tup, seq_tpx, itOf_tpx, seq_lst, seq_fz, list_lst, lsts_lst, lsts_fz, itOf_tup, itOf_lst, itOf_fz, now_int, now_bl, now_non, now_str, now_tup, now_lst, isNon_non, isNon_int, isNon_tup, isNon_ref, isNon_lst, isNon_str, isNon_bl]
    refine ⟨List.replicate k true, rfl, .here ?_⟩
    have : (List.replicate k true).all id = true := by simp
    rw [this]
    exact q _
end L45
set_option maxHeartbeats 0
namespace L45
open PySem PySem.Spec PyProof.Rows L2 PL
def top (i : Nat) : Stmt := PySem.Challenge.pw_nobodywaitsbeyond_k45_whole_orders_turne.main.body.getD i (.Pass ⟨0, 0, 0, 0⟩)
abbrev s_is_int : Stmt := top 5
abbrev s_are_ints : Stmt := top 6
abbrev s_is_told : Stmt := top 7
abbrev s_is_order : Stmt := top 8
abbrev s_is_job : Stmt := top 17
abbrev s_are_jobs : Stmt := top 18
abbrev s_look_at_jobs : Stmt := top 19
abbrev s_look_at_order : Stmt := top 20
abbrev s_told_ends : Stmt := top 21
abbrev s_ends_of : Stmt := top 22
abbrev s_by_due : Stmt := top 23
abbrev s_told_bar : Stmt := top 24
abbrev s_all_in_time : Stmt := top 25
abbrev s_shows_all_in_time : Stmt := top 26
abbrev s_least_lateness : Stmt := top 27
abbrev s_told_late : Stmt := top 28
abbrev s_fewest_late : Stmt := top 29
abbrev s_late_in : Stmt := top 30
abbrev s_shows_fewest_late : Stmt := top 31
abbrev s_told_total : Stmt := top 32
abbrev s_total_wait : Stmt := top 33
abbrev s_told_lightest : Stmt := top 34
abbrev s_least_wait : Stmt := top 35
abbrev s_shows_least_wait : Stmt := top 36
abbrev s_job_done_at : Stmt := top 37
abbrev s__law_pot : Stmt := top 39
abbrev s__law_take : Stmt := top 40
abbrev s__law_cells : Stmt := top 41
abbrev s__law_some : Stmt := top 42
abbrev s__law_are_dues_right : Stmt := top 43
abbrev s__law_are_ends_right : Stmt := top 44
abbrev s__law_right : Stmt := top 45
abbrev s_law : Stmt := top 46
def mkD (x : Str) (st : Stmt) : He.DefD := ⟨(x, none), x, x, defArgs st, defBody st, defScope st, [], []⟩
def fn0 : List He.DefD := [mkD "is_int" s_is_int, mkD "are_ints" s_are_ints, mkD "is_told" s_is_told, mkD "is_order" s_is_order, mkD "is_job" s_is_job, mkD "are_jobs" s_are_jobs, mkD "look_at_jobs" s_look_at_jobs, mkD "look_at_order" s_look_at_order, mkD "told_ends" s_told_ends, mkD "ends_of" s_ends_of, mkD "by_due" s_by_due, mkD "told_bar" s_told_bar, mkD "all_in_time" s_all_in_time, mkD "shows_all_in_time" s_shows_all_in_time, mkD "least_lateness" s_least_lateness, mkD "told_late" s_told_late, mkD "fewest_late" s_fewest_late, mkD "late_in" s_late_in, mkD "shows_fewest_late" s_shows_fewest_late, mkD "told_total" s_told_total, mkD "total_wait" s_total_wait, mkD "told_lightest" s_told_lightest, mkD "least_wait" s_least_wait, mkD "shows_least_wait" s_shows_least_wait, mkD "job_done_at" s_job_done_at, mkD "_law_pot" s__law_pot, mkD "_law_take" s__law_take, mkD "_law_cells" s__law_cells, mkD "_law_some" s__law_some, mkD "_law_are_dues_right" s__law_are_dues_right]
def fn1 : List He.DefD := [mkD "_law_are_ends_right" s__law_are_ends_right, mkD "_law_right" s__law_right, mkD "law" s_law]
def fn : List He.DefD := fn0 ++ fn1
def fa0 : List He.Fa := [.glo "is_int", .glo "are_ints", .glo "is_told", .glo "is_order", .glo "is_job", .glo "are_jobs", .glo "look_at_jobs", .glo "look_at_order", .glo "told_ends", .glo "ends_of", .glo "by_due", .glo "told_bar", .glo "all_in_time", .glo "shows_all_in_time", .glo "least_lateness", .glo "told_late", .glo "fewest_late", .glo "late_in", .glo "shows_fewest_late", .glo "told_total", .glo "total_wait", .glo "told_lightest", .glo "least_wait", .glo "shows_least_wait", .glo "job_done_at", .glo "_law_pot", .glo "_law_take", .glo "_law_cells", .glo "_law_some", .glo "_law_are_dues_right"]
def fa1 : List He.Fa := [.glo "_law_are_ends_right", .glo "_law_right", .glo "law", .free "abs", .free "all", .free "any", .free "bool", .free "enumerate", .free "int", .free "isinstance", .free "len", .free "list", .free "max", .free "min", .free "range", .free "set", .free "sorted", .free "str", .free "sum", .free "tuple", .free "zip", .int "MOST_JOBS" 60, .int "MOST_LONG" 10000, .int "MOST_DUE" 1000000, .int "THREE" 3, .str "ORDER" "order", .str "BY" "by", .str "LATE" "late"]
def fa : List He.Fa := fa0 ++ fa1
def lo0 : List Str := ["BorderError", "BadTick", "BadPlan", "is_int", "are_ints", "is_told", "is_order", "MOST_JOBS", "MOST_LONG", "MOST_DUE", "THREE", "ORDER", "BY", "LATE", "is_job", "are_jobs", "look_at_jobs", "look_at_order", "told_ends", "ends_of", "by_due", "told_bar", "all_in_time", "shows_all_in_time", "least_lateness", "told_late", "fewest_late", "late_in", "shows_fewest_late", "told_total"]
def lo1 : List Str := ["total_wait", "told_lightest", "least_wait", "shows_least_wait", "job_done_at", "_law_pot", "_law_take", "_law_cells", "_law_some", "_law_are_dues_right", "_law_are_ends_right", "_law_right"]
def loose : List Str := lo0 ++ lo1
abbrev R : PySem.W.OpenRow := PySem.W.OpenLaw.row PySem.Challenge.rw_nobodywaitsbeyond_k45_whole_orders_turne
abbrev hk : PySem.W.Hook := He.hookD 4 fa fn
def ob (s : PySem.W.SharedT) : He.AlD := He.obsDG 4 fa fn (HandSHeadRun.getT s)
theorem ob_eq (s : PySem.W.SharedT) : ob s = hk.obs s.abs := He.obsDG_eq (HandSHeadRun.getT_eq s)
theorem run (w : World) : HandSHeadRun.RunEq R (PySem.W.view R.prog [46]) hk ob 3000 loose w := by
  intro os
  kernel_rfl

theorem len_is_int : ∀ ds S Q, sp_is_int ds S Q → ds.length = 3 := by
  intro ds S Q h
  unfold sp_is_int at h
  repeat (obtain ⟨_, h⟩ := h)
  subst_vars
  rfl
theorem len_are_ints : ∀ ds S Q, sp_are_ints ds S Q → ds.length = 3 := by
  intro ds S Q h
  unfold sp_are_ints at h
  repeat (obtain ⟨_, h⟩ := h)
  subst_vars
  rfl
theorem len_is_told : ∀ ds S Q, sp_is_told ds S Q → ds.length = 2 := by
  intro ds S Q h
  unfold sp_is_told at h
  repeat (obtain ⟨_, h⟩ := h)
  subst_vars
  rfl
theorem len_is_order : ∀ ds S Q, sp_is_order ds S Q → ds.length = 2 := by
  intro ds S Q h
  unfold sp_is_order at h
  repeat (obtain ⟨_, h⟩ := h)
  subst_vars
  rfl
theorem len_is_job : ∀ ds S Q, sp_is_job ds S Q → ds.length = 1 := by
  intro ds S Q h
  unfold sp_is_job at h
  repeat (obtain ⟨_, h⟩ := h)
  subst_vars
  rfl
theorem len_are_jobs : ∀ ds S Q, sp_are_jobs ds S Q → ds.length = 1 := by
  intro ds S Q h
  unfold sp_are_jobs at h
  repeat (obtain ⟨_, h⟩ := h)
  subst_vars
  rfl
theorem len_look_at_jobs : ∀ ds S Q, sp_look_at_jobs ds S Q → ds.length = 1 := by
  intro ds S Q h
  unfold sp_look_at_jobs at h
  repeat (obtain ⟨_, h⟩ := h)
  subst_vars
  rfl
theorem len_look_at_order : ∀ ds S Q, sp_look_at_order ds S Q → ds.length = 2 := by
  intro ds S Q h
  unfold sp_look_at_order at h
  repeat (obtain ⟨_, h⟩ := h)
  subst_vars
  rfl
theorem len_told_ends : ∀ ds S Q, sp_told_ends ds S Q → ds.length = 2 := by
  intro ds S Q h
  unfold sp_told_ends at h
  repeat (obtain ⟨_, h⟩ := h)
  subst_vars
  rfl
theorem len_ends_of : ∀ ds S Q, sp_ends_of ds S Q → ds.length = 2 := by
  intro ds S Q h
  unfold sp_ends_of at h
  repeat (obtain ⟨_, h⟩ := h)
  subst_vars
  rfl
theorem len_by_due : ∀ ds S Q, sp_by_due ds S Q → ds.length = 1 := by
  intro ds S Q h
  unfold sp_by_due at h
  repeat (obtain ⟨_, h⟩ := h)
  subst_vars
  rfl
theorem len_told_bar : ∀ ds S Q, sp_told_bar ds S Q → ds.length = 1 := by
  intro ds S Q h
  unfold sp_told_bar at h
  repeat (obtain ⟨_, h⟩ := h)
  subst_vars
  rfl
theorem len_all_in_time : ∀ ds S Q, sp_all_in_time ds S Q → ds.length = 1 := by
  intro ds S Q h
  unfold sp_all_in_time at h
  repeat (obtain ⟨_, h⟩ := h)
  subst_vars
  rfl
theorem len_shows_all_in_time : ∀ ds S Q, sp_shows_all_in_time ds S Q → ds.length = 2 := by
  intro ds S Q h
  unfold sp_shows_all_in_time at h
  repeat (obtain ⟨_, h⟩ := h)
  subst_vars
  rfl
theorem len_least_lateness : ∀ ds S Q, sp_least_lateness ds S Q → ds.length = 1 := by
  intro ds S Q h
  unfold sp_least_lateness at h
  repeat (obtain ⟨_, h⟩ := h)
  subst_vars
  rfl
theorem len_told_late : ∀ ds S Q, sp_told_late ds S Q → ds.length = 1 := by
  intro ds S Q h
  unfold sp_told_late at h
  repeat (obtain ⟨_, h⟩ := h)
  subst_vars
  rfl
theorem len_fewest_late : ∀ ds S Q, sp_fewest_late ds S Q → ds.length = 1 := by
  intro ds S Q h
  unfold sp_fewest_late at h
  repeat (obtain ⟨_, h⟩ := h)
  subst_vars
  rfl
theorem len_late_in : ∀ ds S Q, sp_late_in ds S Q → ds.length = 2 := by
  intro ds S Q h
  unfold sp_late_in at h
  repeat (obtain ⟨_, h⟩ := h)
  subst_vars
  rfl
theorem len_shows_fewest_late : ∀ ds S Q, sp_shows_fewest_late ds S Q → ds.length = 2 := by
  intro ds S Q h
  unfold sp_shows_fewest_late at h
  repeat (obtain ⟨_, h⟩ := h)
  subst_vars
  rfl
theorem len_told_total : ∀ ds S Q, sp_told_total ds S Q → ds.length = 2 := by
  intro ds S Q h
  unfold sp_told_total at h
  repeat (obtain ⟨_, h⟩ := h)
  subst_vars
  rfl
theorem len_total_wait : ∀ ds S Q, sp_total_wait ds S Q → ds.length = 2 := by
  intro ds S Q h
  unfold sp_total_wait at h
  repeat (obtain ⟨_, h⟩ := h)
  subst_vars
  rfl
theorem len_told_lightest : ∀ ds S Q, sp_told_lightest ds S Q → ds.length = 1 := by
  intro ds S Q h
  unfold sp_told_lightest at h
  repeat (obtain ⟨_, h⟩ := h)
  subst_vars
  rfl
theorem len_least_wait : ∀ ds S Q, sp_least_wait ds S Q → ds.length = 1 := by
  intro ds S Q h
  unfold sp_least_wait at h
  repeat (obtain ⟨_, h⟩ := h)
  subst_vars
  rfl
theorem len_shows_least_wait : ∀ ds S Q, sp_shows_least_wait ds S Q → ds.length = 2 := by
  intro ds S Q h
  unfold sp_shows_least_wait at h
  repeat (obtain ⟨_, h⟩ := h)
  subst_vars
  rfl
theorem len_job_done_at : ∀ ds S Q, sp_job_done_at ds S Q → ds.length = 3 := by
  intro ds S Q h
  unfold sp_job_done_at at h
  repeat (obtain ⟨_, h⟩ := h)
  subst_vars
  rfl
theorem len__law_pot : ∀ ds S Q, sp__law_pot ds S Q → ds.length = 2 := by
  intro ds S Q h
  unfold sp__law_pot at h
  repeat (obtain ⟨_, h⟩ := h)
  subst_vars
  rfl
theorem len__law_take : ∀ ds S Q, sp__law_take ds S Q → ds.length = 2 := by
  intro ds S Q h
  unfold sp__law_take at h
  repeat (obtain ⟨_, h⟩ := h)
  subst_vars
  rfl
theorem len__law_cells : ∀ ds S Q, sp__law_cells ds S Q → ds.length = 2 := by
  intro ds S Q h
  unfold sp__law_cells at h
  repeat (obtain ⟨_, h⟩ := h)
  subst_vars
  rfl
theorem len__law_some : ∀ ds S Q, sp__law_some ds S Q → ds.length = 3 := by
  intro ds S Q h
  unfold sp__law_some at h
  repeat (obtain ⟨_, h⟩ := h)
  subst_vars
  rfl
theorem len__law_are_dues_right : ∀ ds S Q, sp__law_are_dues_right ds S Q → ds.length = 2 := by
  intro ds S Q h
  unfold sp__law_are_dues_right at h
  repeat (obtain ⟨_, h⟩ := h)
  subst_vars
  rfl
theorem len__law_are_ends_right : ∀ ds S Q, sp__law_are_ends_right ds S Q → ds.length = 2 := by
  intro ds S Q h
  unfold sp__law_are_ends_right at h
  repeat (obtain ⟨_, h⟩ := h)
  subst_vars
  rfl
theorem len__law_right : ∀ ds S Q, sp__law_right ds S Q → ds.length = 1 := by
  intro ds S Q h
  unfold sp__law_right at h
  repeat (obtain ⟨_, h⟩ := h)
  subst_vars
  rfl
theorem len_law : ∀ ds S Q, sp_law ds S Q → ds.length = 1 := by
  intro ds S Q h
  unfold sp_law at h
  repeat (obtain ⟨_, h⟩ := h)
  subst_vars
  rfl
section
variable {P : Program} {w : World} {K : PySem.W.Frag} {mg : Str → Option Value} {base : Heap}
structure Blt (mg : Str → Option Value) : Prop where
  b_abs : mg "abs" = none
  b_all : mg "all" = none
  b_any : mg "any" = none
  b_bool : mg "bool" = none
  b_enumerate : mg "enumerate" = none
  b_int : mg "int" = none
  b_isinstance : mg "isinstance" = none
  b_len : mg "len" = none
  b_list : mg "list" = none
  b_max : mg "max" = none
  b_min : mg "min" = none
  b_range : mg "range" = none
  b_set : mg "set" = none
  b_sorted : mg "sorted" = none
  b_str : mg "str" = none
  b_sum : mg "sum" = none
  b_tuple : mg "tuple" = none
  b_zip : mg "zip" = none
  c_BY : ∃ t, mg "BY" = some (.str "by" t)
  c_LATE : ∃ t, mg "LATE" = some (.str "late" t)
  c_MOST_DUE : ∃ t, mg "MOST_DUE" = some (.int 1000000 t)
  c_MOST_JOBS : ∃ t, mg "MOST_JOBS" = some (.int 60 t)
  c_MOST_LONG : ∃ t, mg "MOST_LONG" = some (.int 10000 t)
  c_ORDER : ∃ t, mg "ORDER" = some (.str "order" t)
  c_THREE : ∃ t, mg "THREE" = some (.int 3 t)
theorem sc_is_int : FnScope N_is_int ["value", "low", "high"] (defScope s_is_int) := ⟨rfl, rfl, rfl, by decide +kernel, rfl, by decide +kernel, by decide +kernel⟩
theorem ok_is_int (B : Blt mg) (O : Own K mg "is_int" s_is_int)  : Has P w K mg base 1 "is_int" ["value", "low", "high"] sp_is_int :=
  has_of (N := N_is_int) (τ := t_is_int ) O sc_is_int (len_is_int) (fun _ _ _ _ _ _ us hl => match us, hl with | [_, _, _], _ => rfl) (fun f cdv A outer s H E hr =>
  (dss_one (ds_ret (de_and (de_isi "int" B.b_isinstance B.b_int (by decide +kernel) (dv 0)) (de_and (de_not (de_isi "bool" B.b_isinstance B.b_bool (by decide +kernel) (dv 0))) (de_one (de_chain p_le p_le (dv 1) (dv 0) (dv 2)))))))) pure_is_int
theorem sc_are_ints : FnScope N_are_ints ["value", "low", "high"] (defScope s_are_ints) := ⟨rfl, rfl, rfl, by decide +kernel, rfl, by decide +kernel, by decide +kernel⟩
theorem ok_are_ints (B : Blt mg) (O : Own K mg "are_ints" s_are_ints) (H_is_int : Has P w K mg base 1 "is_int" ["value", "low", "high"] sp_is_int) : Has P w K mg base 2 "are_ints" ["value", "low", "high"] sp_are_ints :=
  has_of (N := N_are_ints) (τ := t_are_ints sp_is_int) O sc_are_ints (len_are_ints) (fun _ _ _ _ _ _ us hl => match us, hl with | [_, _, _], _ => rfl) (fun f cdv A outer s H E hr =>
  (dss_one (ds_ret (de_and (de_isi "tuple" B.b_isinstance B.b_tuple (by decide +kernel) (dv 0)) (de_one (de_callB (p_all rfl) B.b_all (by decide +kernel) (da_cons (de_lc (r := false) (own := [("one", 3)]) sc_are_ints.nd (di_sq (dv 0)) (blk_of (by kernel_rfl)) (by decide) (fun _ _ _ _ _ => (dg_name 3 sc_are_ints.nd)) (fun _ _ _ _ _ => dts_nil) (fun _ _ _ _ _ => (de_own H_is_int hr (da_cons (dv 3) (da_cons (dv 1) (da_cons (dv 2) da_nil)))))) da_nil))))))) pure_are_ints
theorem sc_is_told : FnScope N_is_told ["value", "sizes"] (defScope s_is_told) := ⟨rfl, rfl, rfl, by decide +kernel, rfl, by decide +kernel, by decide +kernel⟩
theorem ok_is_told (B : Blt mg) (O : Own K mg "is_told" s_is_told)  : Has P w K mg base 1 "is_told" ["value", "sizes"] sp_is_told :=
  has_of (N := N_is_told) (τ := t_is_told ) O sc_is_told (len_is_told) (fun _ _ _ _ _ _ us hl => match us, hl with | [_, _], _ => rfl) (fun f cdv A outer s H E hr =>
  (dss_one (ds_ret (de_and (de_isi "tuple" B.b_isinstance B.b_tuple (by decide +kernel) (dv 0)) (de_and (de_cmp (p_in hr.units) (de_callB p_len B.b_len (by decide +kernel) (da_cons (dv 0) da_nil)) (dv 1) rfl) (de_one (de_isi "str" B.b_isinstance B.b_str (by decide +kernel) (de_ix p_ix (dv 0) de_int)))))))) pure_is_told
theorem sc_is_order : FnScope N_is_order ["value", "many"] (defScope s_is_order) := ⟨rfl, rfl, rfl, by decide +kernel, rfl, by decide +kernel, by decide +kernel⟩
theorem ok_is_order (B : Blt mg) (O : Own K mg "is_order" s_is_order) (H_are_ints : Has P w K mg base 2 "are_ints" ["value", "low", "high"] sp_are_ints) : Has P w K mg base 3 "is_order" ["value", "many"] sp_is_order :=
  has_of (N := N_is_order) (τ := t_is_order sp_are_ints) O sc_is_order (len_is_order) (fun _ _ _ _ _ _ us hl => match us, hl with | [_, _], _ => rfl) (fun f cdv A outer s H E hr =>
  (dss_one (ds_ret (de_and (de_own H_are_ints hr (da_cons (dv 0) (da_cons de_int (da_cons (de_op p_sub (dv 1) de_int) da_nil)))) (de_and (de_cmp (p_eq hr.units) (de_callB p_len B.b_len (by decide +kernel) (da_cons (dv 0) da_nil)) (dv 1) rfl) (de_one (de_cmp (p_eq hr.units) (de_lenSet B.b_len B.b_set (dv 0)) (dv 1) rfl))))))) pure_is_order
theorem sc_is_job : FnScope N_is_job ["value"] (defScope s_is_job) := ⟨rfl, rfl, rfl, by decide +kernel, rfl, by decide +kernel, by decide +kernel⟩
theorem ok_is_job (B : Blt mg) (O : Own K mg "is_job" s_is_job) (H_are_ints : Has P w K mg base 2 "are_ints" ["value", "low", "high"] sp_are_ints) : Has P w K mg base 3 "is_job" ["value"] sp_is_job :=
  has_of (N := N_is_job) (τ := t_is_job sp_are_ints) O sc_is_job (len_is_job) (fun _ _ _ _ _ _ us hl => match us, hl with | [_], _ => rfl) (fun f cdv A outer s H E hr =>
  (dss_cons (ds_if (dt_w (dw_or (dt_not (dt_val (de_own H_are_ints hr (da_cons (dv 0) (da_cons de_int (da_cons (de_gint B.c_MOST_DUE) da_nil)))))) (dw_or1 (dt_cmp (p_ne hr.units) (de_callB p_len B.b_len (by decide +kernel) (da_cons (dv 0) da_nil)) (de_gint B.c_THREE) rfl)))) (dss_one (ds_ret de_bl)) dss_nil)
  (dss_one (ds_ret (de_and (de_chain p_le p_le de_int (de_ix p_ix (dv 0) de_int) (de_gint B.c_MOST_LONG)) (de_one (de_cmp p_le (de_ix p_ix (dv 0) de_int) (de_gint B.c_MOST_LONG) rfl))))))) pure_is_job
theorem sc_are_jobs : FnScope N_are_jobs ["value"] (defScope s_are_jobs) := ⟨rfl, rfl, rfl, by decide +kernel, rfl, by decide +kernel, by decide +kernel⟩
theorem ok_are_jobs (B : Blt mg) (O : Own K mg "are_jobs" s_are_jobs) (H_is_job : Has P w K mg base 3 "is_job" ["value"] sp_is_job) : Has P w K mg base 4 "are_jobs" ["value"] sp_are_jobs :=
  has_of (N := N_are_jobs) (τ := t_are_jobs sp_is_job) O sc_are_jobs (len_are_jobs) (fun _ _ _ _ _ _ us hl => match us, hl with | [_], _ => rfl) (fun f cdv A outer s H E hr =>
  (dss_one (ds_ret (de_and (de_isi "tuple" B.b_isinstance B.b_tuple (by decide +kernel) (dv 0)) (de_and (de_cmp p_le (de_callB p_len B.b_len (by decide +kernel) (da_cons (dv 0) da_nil)) (de_gint B.c_MOST_JOBS) rfl) (de_one (de_callB (p_all rfl) B.b_all (by decide +kernel) (da_cons (de_lc (r := false) (own := [("job", 1)]) sc_are_jobs.nd (di_sq (dv 0)) (blk_of (by kernel_rfl)) (by decide) (fun _ _ _ _ _ => (dg_name 1 sc_are_jobs.nd)) (fun _ _ _ _ _ => dts_nil) (fun _ _ _ _ _ => (de_own H_is_job hr (da_cons (dv 1) da_nil)))) da_nil)))))))) pure_are_jobs
theorem sc_look_at_jobs : FnScope N_look_at_jobs ["jobs"] (defScope s_look_at_jobs) := ⟨rfl, rfl, rfl, by decide +kernel, rfl, by decide +kernel, by decide +kernel⟩
theorem ok_look_at_jobs (B : Blt mg) (O : Own K mg "look_at_jobs" s_look_at_jobs) (H_are_jobs : Has P w K mg base 4 "are_jobs" ["value"] sp_are_jobs) : Has P w K mg base 5 "look_at_jobs" ["jobs"] sp_look_at_jobs :=
  has_of (N := N_look_at_jobs) (τ := t_look_at_jobs sp_are_jobs) O sc_look_at_jobs (len_look_at_jobs) (fun _ _ _ _ _ _ us hl => match us, hl with | [_], _ => rfl) (fun f cdv A outer s H E hr =>
  (dss_one (ds_if (dt_not (dt_val (de_own H_are_jobs hr (da_cons (dv 0) da_nil)))) (dss_one ds_never) dss_nil))) pure_look_at_jobs
theorem sc_look_at_order : FnScope N_look_at_order ["jobs", "order"] (defScope s_look_at_order) := ⟨rfl, rfl, rfl, by decide +kernel, rfl, by decide +kernel, by decide +kernel⟩
theorem ok_look_at_order (B : Blt mg) (O : Own K mg "look_at_order" s_look_at_order) (H_look_at_jobs : Has P w K mg base 5 "look_at_jobs" ["jobs"] sp_look_at_jobs) (H_is_order : Has P w K mg base 3 "is_order" ["value", "many"] sp_is_order) : Has P w K mg base 6 "look_at_order" ["jobs", "order"] sp_look_at_order :=
  has_of (N := N_look_at_order) (τ := t_look_at_order sp_look_at_jobs sp_is_order) O sc_look_at_order (len_look_at_order) (fun _ _ _ _ _ _ us hl => match us, hl with | [_, _], _ => rfl) (fun f cdv A outer s H E hr =>
  (dss_cons (ds_expr (de_own H_look_at_jobs hr (da_cons (dv 0) da_nil)))
  (dss_one (ds_if (dt_not (dt_val (de_own H_is_order hr (da_cons (dv 1) (da_cons (de_callB p_len B.b_len (by decide +kernel) (da_cons (dv 0) da_nil)) da_nil))))) (dss_one ds_never) dss_nil)))) pure_look_at_order
theorem sc_told_ends : FnScope N_told_ends ["jobs", "order"] (defScope s_told_ends) := ⟨rfl, rfl, rfl, by decide +kernel, rfl, by decide +kernel, by decide +kernel⟩
theorem ok_told_ends (B : Blt mg) (O : Own K mg "told_ends" s_told_ends)  : Has P w K mg base 1 "told_ends" ["jobs", "order"] sp_told_ends :=
  has_of (N := N_told_ends) (τ := t_told_ends ) O sc_told_ends (len_told_ends) (fun _ _ _ _ _ _ us hl => match us, hl with | [_, _], _ => rfl) (fun f cdv A outer s H E hr =>
  (dss_cons (ds_par2 2 3 sc_told_ends.nd (da_cons (de_lst (r := true) da_nil) (da_cons de_int da_nil)))
  (dss_cons (ds_for PassesOwn.never (di_sq (dv 1)) (dg_name 4 sc_told_ends.nd)
  (dss_cons (ds_aug 3 sc_told_ends.nd p_iadd (de_ix p_ix (de_ix p_ix (dv 0) (dv 4)) de_int))
  (dss_one (ds_expr (de_bm PySem.F.plainAttrs_list PySem.F.slot_list_append PySem.F.type_list_append m_append (dv 2) (da_cons (dv 3) da_nil))))))
  (dss_one (ds_ret (dv 2)))))) pure_told_ends
theorem sc_ends_of : FnScope N_ends_of ["jobs", "order"] (defScope s_ends_of) := ⟨rfl, rfl, rfl, by decide +kernel, rfl, by decide +kernel, by decide +kernel⟩
theorem ok_ends_of (B : Blt mg) (O : Own K mg "ends_of" s_ends_of) (H_look_at_order : Has P w K mg base 6 "look_at_order" ["jobs", "order"] sp_look_at_order) (H_told_ends : Has P w K mg base 1 "told_ends" ["jobs", "order"] sp_told_ends) : Has P w K mg base 7 "ends_of" ["jobs", "order"] sp_ends_of :=
  has_of (N := N_ends_of) (τ := t_ends_of sp_look_at_order sp_told_ends) O sc_ends_of (len_ends_of) (fun _ _ _ _ _ _ us hl => match us, hl with | [_, _], _ => rfl) (fun f cdv A outer s H E hr =>
  (dss_cons (ds_expr (de_own H_look_at_order hr (da_cons (dv 0) (da_cons (dv 1) da_nil))))
  (dss_one (ds_ret (de_callTy p_tuple B.b_tuple (by decide +kernel) (da_cons (de_own H_told_ends hr (da_cons (dv 0) (da_cons (dv 1) da_nil))) da_nil)))))) pure_ends_of
theorem sc_by_due : FnScope N_by_due ["jobs"] (defScope s_by_due) := ⟨rfl, rfl, rfl, by decide +kernel, rfl, by decide +kernel, by decide +kernel⟩
theorem ok_by_due (B : Blt mg) (O : Own K mg "by_due" s_by_due)  : Has P w K mg base 1 "by_due" ["jobs"] sp_by_due :=
  has_of (N := N_by_due) (τ := t_by_due ) O sc_by_due (len_by_due) (fun _ _ _ _ _ _ us hl => match us, hl with | [_], _ => rfl) (fun f cdv A outer s H E hr =>
  (dss_one (ds_ret (de_lc (r := false) (own := [("due", 1), ("at", 2)]) sc_by_due.nd (di_sq (de_callB (p_sorted hr.units (r := false)) B.b_sorted (by decide +kernel) (da_cons (de_lc (r := false) (own := [("at", 2), ("job", 3)]) sc_by_due.nd (di_enum B.b_enumerate (dv 0)) (blk_of (by kernel_rfl)) (by decide) (fun _ _ _ _ _ => (dg_tup (dgs_cons (dg_name 2 sc_by_due.nd) (dgs_cons (dg_name 3 sc_by_due.nd) dgs_nil)))) (fun _ _ _ _ _ => dts_nil) (fun _ _ _ _ _ => (de_tup (da_cons (de_ix p_ix (dv 3) de_int) (da_cons (dv 2) da_nil))))) da_nil))) (blk_of (by kernel_rfl)) (by decide) (fun _ _ _ _ _ => (dg_tup (dgs_cons (dg_name 1 sc_by_due.nd) (dgs_cons (dg_name 2 sc_by_due.nd) dgs_nil)))) (fun _ _ _ _ _ => dts_nil) (fun _ _ _ _ _ => (dv 2)))))) pure_by_due
theorem sc_told_bar : FnScope N_told_bar ["jobs"] (defScope s_told_bar) := ⟨rfl, rfl, rfl, by decide +kernel, rfl, by decide +kernel, by decide +kernel⟩
theorem ok_told_bar (B : Blt mg) (O : Own K mg "told_bar" s_told_bar) (H_by_due : Has P w K mg base 1 "by_due" ["jobs"] sp_by_due) (H_told_ends : Has P w K mg base 1 "told_ends" ["jobs", "order"] sp_told_ends) : Has P w K mg base 2 "told_bar" ["jobs"] sp_told_bar :=
  has_of (N := N_told_bar) (τ := t_told_bar sp_by_due sp_told_ends) O sc_told_bar (len_told_bar) (fun _ _ _ _ _ _ us hl => match us, hl with | [_], _ => rfl) (fun f cdv A outer s H E hr =>
  (dss_cons (ds_set 1 sc_told_bar.nd (de_own H_by_due hr (da_cons (dv 0) da_nil)))
  (dss_cons (ds_for PassesOwn.never (di_zip2 B.b_zip (dv 1) (de_own H_told_ends hr (da_cons (dv 0) (da_cons (dv 1) da_nil)))) (dg_tup (dgs_cons (dg_name 2 sc_told_bar.nd) (dgs_cons (dg_name 3 sc_told_bar.nd) dgs_nil)))
  (dss_one (ds_if (dt_cmp p_gt (dv 3) (de_ix p_ix (de_ix p_ix (dv 0) (dv 2)) de_int) rfl) (dss_one (ds_ret (de_ix p_ix (de_ix p_ix (dv 0) (dv 2)) de_int))) dss_nil)))
  (dss_one (ds_ret de_non))))) pure_told_bar
theorem sc_all_in_time : FnScope N_all_in_time ["jobs"] (defScope s_all_in_time) := ⟨rfl, rfl, rfl, by decide +kernel, rfl, by decide +kernel, by decide +kernel⟩
theorem ok_all_in_time (B : Blt mg) (O : Own K mg "all_in_time" s_all_in_time) (H_look_at_jobs : Has P w K mg base 5 "look_at_jobs" ["jobs"] sp_look_at_jobs) (H_told_bar : Has P w K mg base 2 "told_bar" ["jobs"] sp_told_bar) (H_by_due : Has P w K mg base 1 "by_due" ["jobs"] sp_by_due) : Has P w K mg base 6 "all_in_time" ["jobs"] sp_all_in_time :=
  has_of (N := N_all_in_time) (τ := t_all_in_time sp_look_at_jobs sp_told_bar sp_by_due) O sc_all_in_time (len_all_in_time) (fun _ _ _ _ _ _ us hl => match us, hl with | [_], _ => rfl) (fun f cdv A outer s H E hr =>
  (dss_cons (ds_expr (de_own H_look_at_jobs hr (da_cons (dv 0) da_nil)))
  (dss_cons (ds_set 1 sc_all_in_time.nd (de_own H_told_bar hr (da_cons (dv 0) da_nil)))
  (dss_one (ds_ret (de_if (dt_cmp p_isN (dv 1) de_non rfl) (de_tup (da_cons (de_gstr B.c_ORDER) (da_cons (de_callTy p_tuple B.b_tuple (by decide +kernel) (da_cons (de_own H_by_due hr (da_cons (dv 0) da_nil)) da_nil)) da_nil))) (de_tup (da_cons (de_gstr B.c_BY) (da_cons (dv 1) da_nil))))))))) pure_all_in_time
theorem sc_shows_all_in_time : FnScope N_shows_all_in_time ["jobs", "value"] (defScope s_shows_all_in_time) := ⟨rfl, rfl, rfl, by decide +kernel, rfl, by decide +kernel, by decide +kernel⟩
theorem ok_shows_all_in_time (B : Blt mg) (O : Own K mg "shows_all_in_time" s_shows_all_in_time) (H_look_at_jobs : Has P w K mg base 5 "look_at_jobs" ["jobs"] sp_look_at_jobs) (H_is_told : Has P w K mg base 1 "is_told" ["value", "sizes"] sp_is_told) (H_is_order : Has P w K mg base 3 "is_order" ["value", "many"] sp_is_order) (H_told_ends : Has P w K mg base 1 "told_ends" ["jobs", "order"] sp_told_ends) (H_is_int : Has P w K mg base 1 "is_int" ["value", "low", "high"] sp_is_int) : Has P w K mg base 6 "shows_all_in_time" ["jobs", "value"] sp_shows_all_in_time :=
  has_of (N := N_shows_all_in_time) (τ := t_shows_all_in_time sp_look_at_jobs sp_is_told sp_is_order sp_told_ends sp_is_int) O sc_shows_all_in_time (len_shows_all_in_time) (fun _ _ _ _ _ _ us hl => match us, hl with | [_, _], _ => rfl) (fun f cdv A outer s H E hr =>
  (dss_cons (ds_expr (de_own H_look_at_jobs hr (da_cons (dv 0) da_nil)))
  (dss_cons (ds_if (dt_not (dt_val (de_own H_is_told hr (da_cons (dv 1) (da_cons (de_tup (da_cons de_int da_nil)) da_nil))))) (dss_one (ds_ret de_bl)) dss_nil)
  (dss_cons (ds_if (dt_cmp (p_eq hr.units) (de_ix p_ix (dv 1) de_int) (de_gstr B.c_ORDER) rfl) (dss_cons (ds_if (dt_not (dt_val (de_own H_is_order hr (da_cons (de_ix p_ix (dv 1) de_int) (da_cons (de_callB p_len B.b_len (by decide +kernel) (da_cons (dv 0) da_nil)) da_nil))))) (dss_one (ds_ret de_bl)) dss_nil)
  (dss_one (ds_ret (de_callB (p_all rfl) B.b_all (by decide +kernel) (da_cons (de_lc (r := false) (own := [("at", 2), ("end", 3)]) sc_shows_all_in_time.nd (di_zip2 B.b_zip (de_ix p_ix (dv 1) de_int) (de_own H_told_ends hr (da_cons (dv 0) (da_cons (de_ix p_ix (dv 1) de_int) da_nil)))) (blk_of (by kernel_rfl)) (by decide) (fun _ _ _ _ _ => (dg_tup (dgs_cons (dg_name 2 sc_shows_all_in_time.nd) (dgs_cons (dg_name 3 sc_shows_all_in_time.nd) dgs_nil)))) (fun _ _ _ _ _ => dts_nil) (fun _ _ _ _ _ => (de_cmp p_le (dv 3) (de_ix p_ix (de_ix p_ix (dv 0) (dv 2)) de_int) rfl))) da_nil))))) dss_nil)
  (dss_cons (ds_if (dt_w (dw_or (dt_cmp (p_ne hr.units) (de_ix p_ix (dv 1) de_int) (de_gstr B.c_BY) rfl) (dw_or1 (dt_not (dt_val (de_own H_is_int hr (da_cons (de_ix p_ix (dv 1) de_int) (da_cons de_int (da_cons (de_gint B.c_MOST_DUE) da_nil))))))))) (dss_one (ds_ret de_bl)) dss_nil)
  (dss_one (ds_ret (de_cmp p_gt (de_callB (p_sum rfl) B.b_sum (by decide +kernel) (da_cons (de_lc (r := false) (own := [("job", 4)]) sc_shows_all_in_time.nd (di_sq (dv 0)) (blk_of (by kernel_rfl)) (by decide) (fun _ _ _ _ _ => (dg_name 4 sc_shows_all_in_time.nd)) (fun _ _ _ _ _ => (dts_one (dt_cmp p_le (de_ix p_ix (dv 4) de_int) (de_ix p_ix (dv 1) de_int) rfl))) (fun _ _ _ _ _ => (de_ix p_ix (dv 4) de_int))) da_nil)) (de_ix p_ix (dv 1) de_int) rfl)))))))) pure_shows_all_in_time
theorem sc_least_lateness : FnScope N_least_lateness ["jobs"] (defScope s_least_lateness) := ⟨rfl, rfl, rfl, by decide +kernel, rfl, by decide +kernel, by decide +kernel⟩
theorem ok_least_lateness (B : Blt mg) (O : Own K mg "least_lateness" s_least_lateness) (H_look_at_jobs : Has P w K mg base 5 "look_at_jobs" ["jobs"] sp_look_at_jobs) (H_by_due : Has P w K mg base 1 "by_due" ["jobs"] sp_by_due) (H_told_ends : Has P w K mg base 1 "told_ends" ["jobs", "order"] sp_told_ends) : Has P w K mg base 6 "least_lateness" ["jobs"] sp_least_lateness :=
  has_of (N := N_least_lateness) (τ := t_least_lateness sp_look_at_jobs sp_by_due sp_told_ends) O sc_least_lateness (len_least_lateness) (fun _ _ _ _ _ _ us hl => match us, hl with | [_], _ => rfl) (fun f cdv A outer s H E hr =>
  (dss_cons (ds_expr (de_own H_look_at_jobs hr (da_cons (dv 0) da_nil)))
  (dss_cons (ds_set 1 sc_least_lateness.nd (de_own H_by_due hr (da_cons (dv 0) da_nil)))
  (dss_cons (ds_setLc 2 (r := false) (own := [("at", 3), ("end", 4)]) sc_least_lateness.nd (di_zip2 B.b_zip (dv 1) (de_own H_told_ends hr (da_cons (dv 0) (da_cons (dv 1) da_nil)))) (blk_of (by kernel_rfl)) (by decide) (fun _ _ _ _ _ => (dg_tup (dgs_cons (dg_name 3 sc_least_lateness.nd) (dgs_cons (dg_name 4 sc_least_lateness.nd) dgs_nil)))) (fun _ _ _ _ _ => dts_nil) (fun _ _ _ _ _ => (de_op p_sub (dv 4) (de_ix p_ix (de_ix p_ix (dv 0) (dv 3)) de_int))))
  (dss_one (ds_ret (de_if (dt_cmp (p_ne hr.units) (dv 2) (de_lst (r := false) da_nil) rfl) (de_callB (p_max hr.units rfl) B.b_max (by decide +kernel) (da_cons (dv 2) da_nil)) de_non))))))) pure_least_lateness
theorem sc_told_late : FnScope N_told_late ["jobs"] (defScope s_told_late) := ⟨rfl, rfl, rfl, by decide +kernel, rfl, by decide +kernel, by decide +kernel⟩
theorem ok_told_late (B : Blt mg) (O : Own K mg "told_late" s_told_late) (H_by_due : Has P w K mg base 1 "by_due" ["jobs"] sp_by_due) : Has P w K mg base 2 "told_late" ["jobs"] sp_told_late :=
  has_of (N := N_told_late) (τ := t_told_late sp_by_due) O sc_told_late (len_told_late) (fun _ _ _ _ _ _ us hl => match us, hl with | [_], _ => rfl) (fun f cdv A outer s H E hr =>
  (dss_cons (ds_par3 1 2 3 sc_told_late.nd (da_cons (de_lst (r := true) da_nil) (da_cons de_int (da_cons (de_lst (r := true) da_nil) da_nil))))
  (dss_cons (ds_for PassesOwn.never (di_sq (de_own H_by_due hr (da_cons (dv 0) da_nil))) (dg_name 4 sc_told_late.nd)
  (dss_cons (ds_expr (de_bm PySem.F.plainAttrs_list PySem.F.slot_list_append PySem.F.type_list_append m_append (dv 1) (da_cons (dv 4) da_nil)))
  (dss_cons (ds_aug 2 sc_told_late.nd p_iadd (de_ix p_ix (de_ix p_ix (dv 0) (dv 4)) de_int))
  (dss_one (ds_if (dt_cmp p_gt (dv 2) (de_ix p_ix (de_ix p_ix (dv 0) (dv 4)) de_int) rfl) (dss_cons (ds_set 5 sc_told_late.nd (de_ix p_ix (de_callB (p_max hr.units rfl) B.b_max (by decide +kernel) (da_cons (de_lc (r := false) (own := [("one", 6)]) sc_told_late.nd (di_sq (dv 1)) (blk_of (by kernel_rfl)) (by decide) (fun _ _ _ _ _ => (dg_name 6 sc_told_late.nd)) (fun _ _ _ _ _ => dts_nil) (fun _ _ _ _ _ => (de_tup (da_cons (de_ix p_ix (de_ix p_ix (dv 0) (dv 6)) de_int) (da_cons (dv 6) da_nil))))) da_nil)) de_int))
  (dss_cons (ds_expr (de_bm PySem.F.plainAttrs_list PySem.F.slot_list_remove PySem.F.type_list_remove m_remove (dv 1) (da_cons (dv 5) da_nil)))
  (dss_cons (ds_expr (de_bm PySem.F.plainAttrs_list PySem.F.slot_list_append PySem.F.type_list_append m_append (dv 3) (da_cons (dv 5) da_nil)))
  (dss_one (ds_aug 2 sc_told_late.nd p_isub (de_ix p_ix (de_ix p_ix (dv 0) (dv 5)) de_int)))))) dss_nil)))))
  (dss_one (ds_ret (dv 3)))))) pure_told_late
theorem sc_fewest_late : FnScope N_fewest_late ["jobs"] (defScope s_fewest_late) := ⟨rfl, rfl, rfl, by decide +kernel, rfl, by decide +kernel, by decide +kernel⟩
theorem ok_fewest_late (B : Blt mg) (O : Own K mg "fewest_late" s_fewest_late) (H_look_at_jobs : Has P w K mg base 5 "look_at_jobs" ["jobs"] sp_look_at_jobs) (H_told_late : Has P w K mg base 2 "told_late" ["jobs"] sp_told_late) (H_by_due : Has P w K mg base 1 "by_due" ["jobs"] sp_by_due) : Has P w K mg base 6 "fewest_late" ["jobs"] sp_fewest_late :=
  has_of (N := N_fewest_late) (τ := t_fewest_late sp_look_at_jobs sp_told_late sp_by_due) O sc_fewest_late (len_fewest_late) (fun _ _ _ _ _ _ us hl => match us, hl with | [_], _ => rfl) (fun f cdv A outer s H E hr =>
  (dss_cons (ds_expr (de_own H_look_at_jobs hr (da_cons (dv 0) da_nil)))
  (dss_cons (ds_set 1 sc_fewest_late.nd (de_own H_told_late hr (da_cons (dv 0) da_nil)))
  (dss_one (ds_ret (de_tup (da_cons (de_gstr B.c_LATE) (da_cons (de_callB p_len B.b_len (by decide +kernel) (da_cons (dv 1) da_nil)) (da_cons (de_callTy p_tuple B.b_tuple (by decide +kernel) (da_cons (de_lst (r := false) (da_star (de_lc (r := false) (own := [("at", 2)]) sc_fewest_late.nd (di_sq (de_own H_by_due hr (da_cons (dv 0) da_nil))) (blk_of (by kernel_rfl)) (by decide) (fun _ _ _ _ _ => (dg_name 2 sc_fewest_late.nd)) (fun _ _ _ _ _ => (dts_one (dt_cmp (p_notIn hr.units) (dv 2) (dv 1) rfl))) (fun _ _ _ _ _ => (dv 2))) (da_star (de_callB (p_sorted hr.units (r := false)) B.b_sorted (by decide +kernel) (da_cons (dv 1) da_nil)) da_nil))) da_nil)) da_nil))))))))) pure_fewest_late
theorem sc_late_in : FnScope N_late_in ["jobs", "order"] (defScope s_late_in) := ⟨rfl, rfl, rfl, by decide +kernel, rfl, by decide +kernel, by decide +kernel⟩
theorem ok_late_in (B : Blt mg) (O : Own K mg "late_in" s_late_in) (H_look_at_order : Has P w K mg base 6 "look_at_order" ["jobs", "order"] sp_look_at_order) (H_told_ends : Has P w K mg base 1 "told_ends" ["jobs", "order"] sp_told_ends) : Has P w K mg base 7 "late_in" ["jobs", "order"] sp_late_in :=
  has_of (N := N_late_in) (τ := t_late_in sp_look_at_order sp_told_ends) O sc_late_in (len_late_in) (fun _ _ _ _ _ _ us hl => match us, hl with | [_, _], _ => rfl) (fun f cdv A outer s H E hr =>
  (dss_cons (ds_expr (de_own H_look_at_order hr (da_cons (dv 0) (da_cons (dv 1) da_nil))))
  (dss_one (ds_ret (de_callTy p_tuple B.b_tuple (by decide +kernel) (da_cons (de_callB (p_sorted hr.units (r := false)) B.b_sorted (by decide +kernel) (da_cons (de_lc (r := false) (own := [("at", 2), ("end", 3)]) sc_late_in.nd (di_zip2 B.b_zip (dv 1) (de_own H_told_ends hr (da_cons (dv 0) (da_cons (dv 1) da_nil)))) (blk_of (by kernel_rfl)) (by decide) (fun _ _ _ _ _ => (dg_tup (dgs_cons (dg_name 2 sc_late_in.nd) (dgs_cons (dg_name 3 sc_late_in.nd) dgs_nil)))) (fun _ _ _ _ _ => (dts_one (dt_cmp p_gt (dv 3) (de_ix p_ix (de_ix p_ix (dv 0) (dv 2)) de_int) rfl))) (fun _ _ _ _ _ => (dv 2))) da_nil)) da_nil)))))) pure_late_in
theorem sc_shows_fewest_late : FnScope N_shows_fewest_late ["jobs", "value"] (defScope s_shows_fewest_late) := ⟨rfl, rfl, rfl, by decide +kernel, rfl, by decide +kernel, by decide +kernel⟩
theorem ok_shows_fewest_late (B : Blt mg) (O : Own K mg "shows_fewest_late" s_shows_fewest_late) (H_look_at_jobs : Has P w K mg base 5 "look_at_jobs" ["jobs"] sp_look_at_jobs) (H_is_told : Has P w K mg base 1 "is_told" ["value", "sizes"] sp_is_told) (H_is_order : Has P w K mg base 3 "is_order" ["value", "many"] sp_is_order) (H_told_late : Has P w K mg base 2 "told_late" ["jobs"] sp_told_late) (H_late_in : Has P w K mg base 7 "late_in" ["jobs", "order"] sp_late_in) (H_is_int : Has P w K mg base 1 "is_int" ["value", "low", "high"] sp_is_int) : Has P w K mg base 8 "shows_fewest_late" ["jobs", "value"] sp_shows_fewest_late :=
  has_of (N := N_shows_fewest_late) (τ := t_shows_fewest_late sp_look_at_jobs sp_is_told sp_is_order sp_told_late sp_late_in sp_is_int) O sc_shows_fewest_late (len_shows_fewest_late) (fun _ _ _ _ _ _ us hl => match us, hl with | [_, _], _ => rfl) (fun f cdv A outer s H E hr =>
  (dss_cons (ds_expr (de_own H_look_at_jobs hr (da_cons (dv 0) da_nil)))
  (dss_cons (ds_if (dt_w (dw_or (dt_not (dt_val (de_own H_is_told hr (da_cons (dv 1) (da_cons (de_tup (da_cons (de_gint B.c_THREE) da_nil)) da_nil))))) (dw_or (dt_cmp (p_ne hr.units) (de_ix p_ix (dv 1) de_int) (de_gstr B.c_LATE) rfl) (dw_or1 (dt_not (dt_val (de_own H_is_order hr (da_cons (de_ix p_ix (dv 1) de_int) (da_cons (de_callB p_len B.b_len (by decide +kernel) (da_cons (dv 0) da_nil)) da_nil))))))))) (dss_one (ds_ret de_bl)) dss_nil)
  (dss_cons (ds_set 2 sc_shows_fewest_late.nd (de_callB p_len B.b_len (by decide +kernel) (da_cons (de_own H_told_late hr (da_cons (dv 0) da_nil)) da_nil)))
  (dss_one (ds_ret (de_and (de_own H_is_int hr (da_cons (de_ix p_ix (dv 1) de_int) (da_cons (dv 2) (da_cons (dv 2) da_nil)))) (de_one (de_cmp (p_eq hr.units) (de_callB p_len B.b_len (by decide +kernel) (da_cons (de_own H_late_in hr (da_cons (dv 0) (da_cons (de_ix p_ix (dv 1) de_int) da_nil))) da_nil)) (dv 2) rfl))))))))) pure_shows_fewest_late
theorem sc_told_total : FnScope N_told_total ["jobs", "order"] (defScope s_told_total) := ⟨rfl, rfl, rfl, by decide +kernel, rfl, by decide +kernel, by decide +kernel⟩
theorem ok_told_total (B : Blt mg) (O : Own K mg "told_total" s_told_total) (H_told_ends : Has P w K mg base 1 "told_ends" ["jobs", "order"] sp_told_ends) : Has P w K mg base 2 "told_total" ["jobs", "order"] sp_told_total :=
  has_of (N := N_told_total) (τ := t_told_total sp_told_ends) O sc_told_total (len_told_total) (fun _ _ _ _ _ _ us hl => match us, hl with | [_, _], _ => rfl) (fun f cdv A outer s H E hr =>
  (dss_one (ds_ret (de_callB (p_sum rfl) B.b_sum (by decide +kernel) (da_cons (de_lc (r := false) (own := [("at", 2), ("end", 3)]) sc_told_total.nd (di_zip2 B.b_zip (dv 1) (de_own H_told_ends hr (da_cons (dv 0) (da_cons (dv 1) da_nil)))) (blk_of (by kernel_rfl)) (by decide) (fun _ _ _ _ _ => (dg_tup (dgs_cons (dg_name 2 sc_told_total.nd) (dgs_cons (dg_name 3 sc_told_total.nd) dgs_nil)))) (fun _ _ _ _ _ => dts_nil) (fun _ _ _ _ _ => (de_op (p_mulA (r := false)) (de_ix p_ix (de_ix p_ix (dv 0) (dv 2)) de_int) (dv 3)))) da_nil))))) pure_told_total
theorem sc_total_wait : FnScope N_total_wait ["jobs", "order"] (defScope s_total_wait) := ⟨rfl, rfl, rfl, by decide +kernel, rfl, by decide +kernel, by decide +kernel⟩
theorem ok_total_wait (B : Blt mg) (O : Own K mg "total_wait" s_total_wait) (H_look_at_order : Has P w K mg base 6 "look_at_order" ["jobs", "order"] sp_look_at_order) (H_told_total : Has P w K mg base 2 "told_total" ["jobs", "order"] sp_told_total) : Has P w K mg base 7 "total_wait" ["jobs", "order"] sp_total_wait :=
  has_of (N := N_total_wait) (τ := t_total_wait sp_look_at_order sp_told_total) O sc_total_wait (len_total_wait) (fun _ _ _ _ _ _ us hl => match us, hl with | [_, _], _ => rfl) (fun f cdv A outer s H E hr =>
  (dss_cons (ds_expr (de_own H_look_at_order hr (da_cons (dv 0) (da_cons (dv 1) da_nil))))
  (dss_one (ds_ret (de_own H_told_total hr (da_cons (dv 0) (da_cons (dv 1) da_nil))))))) pure_total_wait
theorem sc_told_lightest : FnScope N_told_lightest ["jobs"] (defScope s_told_lightest) := ⟨rfl, rfl, rfl, by decide +kernel, rfl, by decide +kernel, by decide +kernel⟩
theorem ok_told_lightest (B : Blt mg) (O : Own K mg "told_lightest" s_told_lightest)  : Has P w K mg base 1 "told_lightest" ["jobs"] sp_told_lightest :=
  has_of (N := N_told_lightest) (τ := t_told_lightest ) O sc_told_lightest (len_told_lightest) (fun _ _ _ _ _ _ us hl => match us, hl with | [_], _ => rfl) (fun f cdv A outer s H E hr =>
  (dss_cons (ds_set 1 sc_told_lightest.nd (de_lst (r := true) da_nil))
  (dss_cons (ds_for PassesOwn.never (di_enum B.b_enumerate (dv 0)) (dg_tup (dgs_cons (dg_name 2 sc_told_lightest.nd) (dgs_cons (dg_tup (dgs_cons (dg_name 3 sc_told_lightest.nd) (dgs_cons (dg_name 4 sc_told_lightest.nd) (dgs_cons (dg_name 5 sc_told_lightest.nd) dgs_nil)))) dgs_nil)))
  (dss_cons (ds_set 6 sc_told_lightest.nd de_int)
  (dss_cons (ds_while PassesOwn.never (dt_w (dw_and (dt_cmp p_lt (dv 6) (de_callB p_len B.b_len (by decide +kernel) (da_cons (dv 1) da_nil)) rfl) (dw_and1 (dt_cmp p_le (de_op (p_mulA (r := false)) (dv 4) (de_ix p_ix (de_ix p_ix (dv 0) (de_ix p_ix (dv 1) (dv 6))) de_int)) (de_op (p_mulA (r := false)) (de_ix p_ix (de_ix p_ix (dv 0) (de_ix p_ix (dv 1) (dv 6))) de_int) (dv 3)) rfl))))
  (dss_one (ds_aug 6 sc_told_lightest.nd p_iadd de_int)))
  (dss_one (ds_expr (de_bm PySem.F.plainAttrs_list PySem.F.slot_list_insert PySem.F.type_list_insert m_insert (dv 1) (da_cons (dv 6) (da_cons (dv 2) da_nil))))))))
  (dss_one (ds_ret (dv 1)))))) pure_told_lightest
theorem sc_least_wait : FnScope N_least_wait ["jobs"] (defScope s_least_wait) := ⟨rfl, rfl, rfl, by decide +kernel, rfl, by decide +kernel, by decide +kernel⟩
theorem ok_least_wait (B : Blt mg) (O : Own K mg "least_wait" s_least_wait) (H_look_at_jobs : Has P w K mg base 5 "look_at_jobs" ["jobs"] sp_look_at_jobs) (H_told_lightest : Has P w K mg base 1 "told_lightest" ["jobs"] sp_told_lightest) (H_told_total : Has P w K mg base 2 "told_total" ["jobs", "order"] sp_told_total) : Has P w K mg base 6 "least_wait" ["jobs"] sp_least_wait :=
  has_of (N := N_least_wait) (τ := t_least_wait sp_look_at_jobs sp_told_lightest sp_told_total) O sc_least_wait (len_least_wait) (fun _ _ _ _ _ _ us hl => match us, hl with | [_], _ => rfl) (fun f cdv A outer s H E hr =>
  (dss_cons (ds_expr (de_own H_look_at_jobs hr (da_cons (dv 0) da_nil)))
  (dss_cons (ds_set 1 sc_least_wait.nd (de_own H_told_lightest hr (da_cons (dv 0) da_nil)))
  (dss_one (ds_ret (de_tup (da_cons (de_gstr B.c_ORDER) (da_cons (de_own H_told_total hr (da_cons (dv 0) (da_cons (dv 1) da_nil))) (da_cons (de_callTy p_tuple B.b_tuple (by decide +kernel) (da_cons (dv 1) da_nil)) da_nil))))))))) pure_least_wait
theorem sc_shows_least_wait : FnScope N_shows_least_wait ["jobs", "value"] (defScope s_shows_least_wait) := ⟨rfl, rfl, rfl, by decide +kernel, rfl, by decide +kernel, by decide +kernel⟩
theorem ok_shows_least_wait (B : Blt mg) (O : Own K mg "shows_least_wait" s_shows_least_wait) (H_look_at_jobs : Has P w K mg base 5 "look_at_jobs" ["jobs"] sp_look_at_jobs) (H_is_told : Has P w K mg base 1 "is_told" ["value", "sizes"] sp_is_told) (H_is_order : Has P w K mg base 3 "is_order" ["value", "many"] sp_is_order) (H_told_total : Has P w K mg base 2 "told_total" ["jobs", "order"] sp_told_total) (H_told_lightest : Has P w K mg base 1 "told_lightest" ["jobs"] sp_told_lightest) (H_is_int : Has P w K mg base 1 "is_int" ["value", "low", "high"] sp_is_int) : Has P w K mg base 6 "shows_least_wait" ["jobs", "value"] sp_shows_least_wait :=
  has_of (N := N_shows_least_wait) (τ := t_shows_least_wait sp_look_at_jobs sp_is_told sp_is_order sp_told_total sp_told_lightest sp_is_int) O sc_shows_least_wait (len_shows_least_wait) (fun _ _ _ _ _ _ us hl => match us, hl with | [_, _], _ => rfl) (fun f cdv A outer s H E hr =>
  (dss_cons (ds_expr (de_own H_look_at_jobs hr (da_cons (dv 0) da_nil)))
  (dss_cons (ds_if (dt_w (dw_or (dt_not (dt_val (de_own H_is_told hr (da_cons (dv 1) (da_cons (de_tup (da_cons (de_gint B.c_THREE) da_nil)) da_nil))))) (dw_or (dt_cmp (p_ne hr.units) (de_ix p_ix (dv 1) de_int) (de_gstr B.c_ORDER) rfl) (dw_or1 (dt_not (dt_val (de_own H_is_order hr (da_cons (de_ix p_ix (dv 1) de_int) (da_cons (de_callB p_len B.b_len (by decide +kernel) (da_cons (dv 0) da_nil)) da_nil))))))))) (dss_one (ds_ret de_bl)) dss_nil)
  (dss_cons (ds_set 2 sc_shows_least_wait.nd (de_own H_told_total hr (da_cons (dv 0) (da_cons (de_own H_told_lightest hr (da_cons (dv 0) da_nil)) da_nil))))
  (dss_one (ds_ret (de_and (de_own H_is_int hr (da_cons (de_ix p_ix (dv 1) de_int) (da_cons (dv 2) (da_cons (dv 2) da_nil)))) (de_one (de_cmp (p_eq hr.units) (de_own H_told_total hr (da_cons (dv 0) (da_cons (de_ix p_ix (dv 1) de_int) da_nil))) (dv 2) rfl))))))))) pure_shows_least_wait
theorem sc_job_done_at : FnScope N_job_done_at ["jobs", "order", "tick"] (defScope s_job_done_at) := ⟨rfl, rfl, rfl, by decide +kernel, rfl, by decide +kernel, by decide +kernel⟩
theorem ok_job_done_at (B : Blt mg) (O : Own K mg "job_done_at" s_job_done_at) (H_look_at_order : Has P w K mg base 6 "look_at_order" ["jobs", "order"] sp_look_at_order) (H_is_int : Has P w K mg base 1 "is_int" ["value", "low", "high"] sp_is_int) (H_told_ends : Has P w K mg base 1 "told_ends" ["jobs", "order"] sp_told_ends) : Has P w K mg base 7 "job_done_at" ["jobs", "order", "tick"] sp_job_done_at :=
  has_of (N := N_job_done_at) (τ := t_job_done_at sp_look_at_order sp_is_int sp_told_ends) O sc_job_done_at (len_job_done_at) (fun _ _ _ _ _ _ us hl => match us, hl with | [_, _, _], _ => rfl) (fun f cdv A outer s H E hr =>
  (dss_cons (ds_expr (de_own H_look_at_order hr (da_cons (dv 0) (da_cons (dv 1) da_nil))))
  (dss_cons (ds_if (dt_not (dt_val (de_own H_is_int hr (da_cons (dv 2) (da_cons de_int (da_cons (de_gint B.c_MOST_DUE) da_nil)))))) (dss_one ds_never) dss_nil)
  (dss_cons (ds_for PassesOwn.never (di_zip2 B.b_zip (dv 1) (de_own H_told_ends hr (da_cons (dv 0) (da_cons (dv 1) da_nil)))) (dg_tup (dgs_cons (dg_name 3 sc_job_done_at.nd) (dgs_cons (dg_name 4 sc_job_done_at.nd) dgs_nil)))
  (dss_one (ds_if (dt_cmp p_lt (dv 2) (dv 4) rfl) (dss_one (ds_ret (dv 3))) dss_nil)))
  (dss_one (ds_ret de_non)))))) pure_job_done_at
theorem sc__law_pot : FnScope N__law_pot ["script", "place"] (defScope s__law_pot) := ⟨rfl, rfl, rfl, by decide +kernel, rfl, by decide +kernel, by decide +kernel⟩
theorem ok__law_pot (B : Blt mg) (O : Own K mg "_law_pot" s__law_pot)  : Has P w K mg base 1 "_law_pot" ["script", "place"] sp__law_pot :=
  has_of (N := N__law_pot) (τ := t__law_pot ) O sc__law_pot (len__law_pot) (fun _ _ _ _ _ _ us hl => match us, hl with | [_, _], _ => rfl) (fun f cdv A outer s H E hr =>
  (dss_cons (ds_set 2 sc__law_pot.nd (de_if (dt_cmp p_lt (dv 1) (de_callB p_len B.b_len (by decide +kernel) (da_cons (dv 0) da_nil)) rfl) (de_ix p_ix (dv 0) (dv 1)) (de_op (p_add (r := false)) (de_op (p_add (r := false)) (de_op p_mod (de_callTy p_int B.b_int (by decide +kernel) (da_cons (de_callB (p_sum rfl) B.b_sum (by decide +kernel) (da_cons (de_slice (p_sl (r := false)) (dv 0) do_none (do_some de_int)) da_nil)) da_nil)) de_int) (de_op (p_mulA (r := false)) de_int (dv 1))) de_int)))
  (dss_cons (ds_set 3 sc__law_pot.nd (de_op (p_mulA (r := false)) (de_op p_mod (de_callTy p_int B.b_int (by decide +kernel) (da_cons (de_callB p_abs B.b_abs (by decide +kernel) (da_cons (dv 2) da_nil)) da_nil)) (de_op p_pow (de_op p_pow de_int de_int) de_int)) (de_callTy p_int B.b_int (by decide +kernel) (da_cons (de_cmp p_ge (de_callB p_abs B.b_abs (by decide +kernel) (da_cons (dv 2) da_nil)) (de_op p_pow de_int de_int) rfl) da_nil))))
  (dss_cons (ds_set 4 sc__law_pot.nd (de_op p_mod (de_callTy p_int B.b_int (by decide +kernel) (da_cons (dv 2) da_nil)) de_int))
  (dss_one (ds_ret (de_lst (r := true) (da_cons (dv 3) (da_cons (de_op p_mod (de_callTy p_int B.b_int (by decide +kernel) (da_cons (de_op (p_add (r := false)) (de_op (p_add (r := false)) (de_op (p_mulA (r := false)) (dv 4) de_int) (de_op (p_mulA (r := false)) (de_op (p_mulA (r := false)) de_int (dv 1)) (dv 1))) de_int) da_nil)) de_int) (da_cons de_int da_nil)))))))))) pure__law_pot
theorem sc__law_take : FnScope N__law_take ["pot", "upto"] (defScope s__law_take) := ⟨rfl, rfl, rfl, by decide +kernel, rfl, by decide +kernel, by decide +kernel⟩
theorem ok__law_take (B : Blt mg) (O : Own K mg "_law_take" s__law_take)  : Has P w K mg base 1 "_law_take" ["pot", "upto"] sp__law_take :=
  has_of (N := N__law_take) (τ := t__law_take ) O sc__law_take (len__law_take) (fun _ _ _ _ _ _ us hl => match us, hl with | [_, _], _ => rfl) (fun f cdv A outer s H E hr =>
  (dss_cons (ds_if (dt_cmp p_gt (de_ix p_ix (dv 0) de_int) de_int rfl) (dss_cons (ds_set 2 sc__law_take.nd (de_op p_mod (de_callTy p_int B.b_int (by decide +kernel) (da_cons (de_ix p_ix (dv 0) de_int) da_nil)) (dv 1)))
  (dss_cons (ds_asg (de_op p_fdiv (de_ix p_ix (dv 0) de_int) (dv 1)) (dg_sub (dv 0) de_int p_set))
  (dss_one (ds_ret (dv 2))))) dss_nil)
  (dss_cons (ds_asg (de_op (p_add (r := false)) (de_ix p_ix (dv 0) de_int) de_int) (dg_sub (dv 0) de_int p_set))
  (dss_cons (ds_set 3 sc__law_take.nd (de_ix p_ix (de_lst (r := false) (da_cons de_int (da_cons de_int (da_cons de_int (da_cons de_int (da_cons de_int da_nil)))))) (de_op p_mod (de_callTy p_int B.b_int (by decide +kernel) (da_cons (de_ix p_ix (dv 0) de_int) da_nil)) de_int)))
  (dss_cons (ds_set 4 sc__law_take.nd (de_op p_mod (de_callTy p_int B.b_int (by decide +kernel) (da_cons (de_op p_pow (de_callTy p_int B.b_int (by decide +kernel) (da_cons (de_op (p_add (r := false)) (de_op (p_add (r := false)) (de_ix p_ix (dv 0) de_int) (de_op (p_mulA (r := false)) (de_op (p_mulA (r := false)) de_int (de_ix p_ix (dv 0) de_int)) (de_ix p_ix (dv 0) de_int))) de_int) da_nil)) de_int) da_nil)) (dv 3)))
  (dss_cons (ds_set 4 sc__law_take.nd (de_op p_mod (de_callTy p_int B.b_int (by decide +kernel) (da_cons (de_op (p_mulA (r := false)) (dv 4) (de_op (p_add (r := false)) (de_op p_mod (de_callTy p_int B.b_int (by decide +kernel) (da_cons (dv 4) da_nil)) de_int) (de_op (p_mulA (r := false)) de_int (de_ix p_ix (dv 0) de_int)))) da_nil)) de_int))
  (dss_one (ds_ret (de_op p_mod (de_callTy p_int B.b_int (by decide +kernel) (da_cons (de_op p_fdiv (dv 4) de_int) da_nil)) (dv 1)))))))))) pure__law_take
theorem sc__law_cells : FnScope N__law_cells ["script", "most"] (defScope s__law_cells) := ⟨rfl, rfl, rfl, by decide +kernel, rfl, by decide +kernel, by decide +kernel⟩
theorem ok__law_cells (B : Blt mg) (O : Own K mg "_law_cells" s__law_cells)  : Has P w K mg base 1 "_law_cells" ["script", "most"] sp__law_cells :=
  has_of (N := N__law_cells) (τ := t__law_cells ) O sc__law_cells (len__law_cells) (fun _ _ _ _ _ _ us hl => match us, hl with | [_, _], _ => rfl) (fun f cdv A outer s H E hr =>
  (dss_one (ds_ret (de_listRg (r := false) rfl B.b_list (drg_1 B.b_range (de_callB (p_max hr.units rfl) B.b_max (by decide +kernel) (da_cons de_int (da_cons (de_callB (p_min hr.units rfl) B.b_min (by decide +kernel) (da_cons (dv 1) (da_cons (de_callB p_len B.b_len (by decide +kernel) (da_cons (dv 0) da_nil)) da_nil))) da_nil)))))))) pure__law_cells
theorem sc__law_some : FnScope N__law_some ["pot", "pool", "many"] (defScope s__law_some) := ⟨rfl, rfl, rfl, by decide +kernel, rfl, by decide +kernel, by decide +kernel⟩
theorem ok__law_some (B : Blt mg) (O : Own K mg "_law_some" s__law_some) (H__law_take : Has P w K mg base 1 "_law_take" ["pot", "upto"] sp__law_take) : Has P w K mg base 2 "_law_some" ["pot", "pool", "many"] sp__law_some :=
  has_of (N := N__law_some) (τ := t__law_some sp__law_take) O sc__law_some (len__law_some) (fun _ _ _ _ _ _ us hl => match us, hl with | [_, _, _], _ => rfl) (fun f cdv A outer s H E hr =>
  (dss_cons (ds_par2 3 4 sc__law_some.nd (da_cons (de_callTy (p_list (r := true)) B.b_list (by decide +kernel) (da_cons (dv 1) da_nil)) (da_cons (de_lst (r := true) da_nil) da_nil)))
  (dss_cons (ds_for PassesOwn.never (di_range1 B.b_range (dv 2)) (dg_name 5 sc__law_some.nd)
  (dss_one (ds_expr (de_bm PySem.F.plainAttrs_list PySem.F.slot_list_append PySem.F.type_list_append m_append (dv 4) (da_cons (de_bm PySem.F.plainAttrs_list PySem.F.slot_list_pop PySem.F.type_list_pop m_popAt (dv 3) (da_cons (de_own H__law_take hr (da_cons (dv 0) (da_cons (de_callB p_len B.b_len (by decide +kernel) (da_cons (dv 3) da_nil)) da_nil))) da_nil)) da_nil)))))
  (dss_one (ds_ret (dv 4)))))) pure__law_some
theorem sc__law_are_dues_right : FnScope N__law_are_dues_right ["pot", "jobs"] (defScope s__law_are_dues_right) := ⟨rfl, rfl, rfl, by decide +kernel, rfl, by decide +kernel, by decide +kernel⟩
theorem ok__law_are_dues_right (B : Blt mg) (O : Own K mg "_law_are_dues_right" s__law_are_dues_right) (H_least_lateness : Has P w K mg base 6 "least_lateness" ["jobs"] sp_least_lateness) (H_all_in_time : Has P w K mg base 6 "all_in_time" ["jobs"] sp_all_in_time) (H_shows_all_in_time : Has P w K mg base 6 "shows_all_in_time" ["jobs", "value"] sp_shows_all_in_time) (H_fewest_late : Has P w K mg base 6 "fewest_late" ["jobs"] sp_fewest_late) (H_late_in : Has P w K mg base 7 "late_in" ["jobs", "order"] sp_late_in) (H_shows_fewest_late : Has P w K mg base 8 "shows_fewest_late" ["jobs", "value"] sp_shows_fewest_late) (H__law_take : Has P w K mg base 1 "_law_take" ["pot", "upto"] sp__law_take) : Has P w K mg base 9 "_law_are_dues_right" ["pot", "jobs"] sp__law_are_dues_right :=
  has_of (N := N__law_are_dues_right) (τ := t__law_are_dues_right sp_least_lateness sp_all_in_time sp_shows_all_in_time sp_fewest_late sp_late_in sp_shows_fewest_late sp__law_take) O sc__law_are_dues_right (len__law_are_dues_right) (fun _ _ _ _ _ _ us hl => match us, hl with | [_, _], _ => rfl) (fun f cdv A outer s H E hr =>
  (dss_cons (ds_set 2 sc__law_are_dues_right.nd (de_own H_least_lateness hr (da_cons (dv 1) da_nil)))
  (dss_cons (ds_set 3 sc__law_are_dues_right.nd (de_callTy p_tuple B.b_tuple (by decide +kernel) (da_cons (de_lc (r := false) (own := [("ticks", 4), ("weight", 5), ("due", 6)]) sc__law_are_dues_right.nd (di_sq (dv 1)) (blk_of (by kernel_rfl)) (by decide) (fun _ _ _ _ _ => (dg_tup (dgs_cons (dg_name 4 sc__law_are_dues_right.nd) (dgs_cons (dg_name 5 sc__law_are_dues_right.nd) (dgs_cons (dg_name 6 sc__law_are_dues_right.nd) dgs_nil))))) (fun _ _ _ _ _ => dts_nil) (fun _ _ _ _ _ => (de_tup (da_cons (dv 4) (da_cons (dv 5) (da_cons (de_op (p_add (r := false)) (dv 6) (dv 2)) da_nil)))))) da_nil)))
  (dss_cons (ds_if (dt_w (dw_or (dt_cmp (p_ne hr.units) (de_ix p_ix (de_own H_all_in_time hr (da_cons (dv 3) da_nil)) de_int) de_str rfl) (dw_or1 (dt_cmp (p_ne hr.units) (de_cmp (p_eq hr.units) (de_ix p_ix (de_own H_all_in_time hr (da_cons (dv 1) da_nil)) de_int) de_str rfl) (de_cmp p_le (dv 2) de_int rfl) rfl)))) (dss_one (ds_ret de_bl)) dss_nil)
  (dss_cons (ds_set 7 sc__law_are_dues_right.nd (de_callTy p_tuple B.b_tuple (by decide +kernel) (da_cons (de_lc (r := false) (own := [("ticks", 4), ("weight", 5), ("due", 6)]) sc__law_are_dues_right.nd (di_sq (dv 3)) (blk_of (by kernel_rfl)) (by decide) (fun _ _ _ _ _ => (dg_tup (dgs_cons (dg_name 4 sc__law_are_dues_right.nd) (dgs_cons (dg_name 5 sc__law_are_dues_right.nd) (dgs_cons (dg_name 6 sc__law_are_dues_right.nd) dgs_nil))))) (fun _ _ _ _ _ => dts_nil) (fun _ _ _ _ _ => (de_tup (da_cons (dv 4) (da_cons (dv 5) (da_cons (de_op p_sub (dv 6) de_int) da_nil)))))) da_nil)))
  (dss_cons (ds_if (dt_w (dw_or (dt_cmp (p_ne hr.units) (de_ix p_ix (de_own H_all_in_time hr (da_cons (dv 7) da_nil)) de_int) de_str rfl) (dw_or1 (dt_cmp p_notB (de_own H_shows_all_in_time hr (da_cons (dv 7) (da_cons (de_own H_all_in_time hr (da_cons (dv 3) da_nil)) da_nil))) de_bl rfl)))) (dss_one (ds_ret de_bl)) dss_nil)
  (dss_cons (ds_asg (de_own H_fewest_late hr (da_cons (dv 1) da_nil)) (dg_tup (dgs_cons (dg_name 8 sc__law_are_dues_right.nd) (dgs_cons (dg_name 9 sc__law_are_dues_right.nd) (dgs_cons (dg_name 10 sc__law_are_dues_right.nd) dgs_nil)))))
  (dss_cons (ds_if (dt_w (dw_or (dt_cmp (p_ne hr.units) (de_cmp (p_eq hr.units) (dv 9) de_int rfl) (de_cmp p_le (dv 2) de_int rfl) rfl) (dw_or1 (dt_cmp (p_ne hr.units) (de_callB p_len B.b_len (by decide +kernel) (da_cons (de_own H_late_in hr (da_cons (dv 1) (da_cons (dv 10) da_nil))) da_nil)) (dv 9) rfl)))) (dss_one (ds_ret de_bl)) dss_nil)
  (dss_cons (ds_if (dt_cmp p_notB (de_own H_shows_fewest_late hr (da_cons (dv 1) (da_cons (de_tup (da_cons (dv 8) (da_cons (dv 9) (da_cons (dv 10) da_nil)))) da_nil))) de_bl rfl) (dss_one (ds_ret de_bl)) dss_nil)
  (dss_cons (ds_set 11 sc__law_are_dues_right.nd (de_op (p_add (r := false)) (dv 1) (de_tup (da_cons (de_tup (da_cons (de_callTy p_int B.b_int (by decide +kernel) (da_cons (de_op (p_add (r := false)) de_int (de_own H__law_take hr (da_cons (dv 0) (da_cons de_int da_nil)))) da_nil)) (da_cons de_int (da_cons (de_callTy p_int B.b_int (by decide +kernel) (da_cons (de_own H__law_take hr (da_cons (dv 0) (da_cons de_int da_nil))) da_nil)) da_nil)))) da_nil))))
  (dss_one (ds_ret (de_chain p_le p_le (dv 9) (de_ix p_ix (de_own H_fewest_late hr (da_cons (dv 11) da_nil)) de_int) (de_op (p_add (r := false)) (dv 9) de_int)))))))))))))) pure__law_are_dues_right
theorem sc__law_are_ends_right : FnScope N__law_are_ends_right ["pot", "jobs"] (defScope s__law_are_ends_right) := ⟨rfl, rfl, rfl, by decide +kernel, rfl, by decide +kernel, by decide +kernel⟩
theorem ok__law_are_ends_right (B : Blt mg) (O : Own K mg "_law_are_ends_right" s__law_are_ends_right) (H_total_wait : Has P w K mg base 7 "total_wait" ["jobs", "order"] sp_total_wait) (H_least_wait : Has P w K mg base 6 "least_wait" ["jobs"] sp_least_wait) (H_shows_least_wait : Has P w K mg base 6 "shows_least_wait" ["jobs", "value"] sp_shows_least_wait) (H__law_some : Has P w K mg base 2 "_law_some" ["pot", "pool", "many"] sp__law_some) (H_ends_of : Has P w K mg base 7 "ends_of" ["jobs", "order"] sp_ends_of) (H__law_take : Has P w K mg base 1 "_law_take" ["pot", "upto"] sp__law_take) (H_job_done_at : Has P w K mg base 7 "job_done_at" ["jobs", "order", "tick"] sp_job_done_at) : Has P w K mg base 8 "_law_are_ends_right" ["pot", "jobs"] sp__law_are_ends_right :=
  has_of (N := N__law_are_ends_right) (τ := t__law_are_ends_right sp_total_wait sp_least_wait sp_shows_least_wait sp__law_some sp_ends_of sp__law_take sp_job_done_at) O sc__law_are_ends_right (len__law_are_ends_right) (fun _ _ _ _ _ _ us hl => match us, hl with | [_, _], _ => rfl) (fun f cdv A outer s H E hr =>
  (dss_cons (ds_set 2 sc__law_are_ends_right.nd (de_callTy p_tuple B.b_tuple (by decide +kernel) (da_cons (de_lc (r := false) (own := [("ticks", 3), ("weight", 4), ("due", 5)]) sc__law_are_ends_right.nd (di_sq (dv 1)) (blk_of (by kernel_rfl)) (by decide) (fun _ _ _ _ _ => (dg_tup (dgs_cons (dg_name 3 sc__law_are_ends_right.nd) (dgs_cons (dg_name 4 sc__law_are_ends_right.nd) (dgs_cons (dg_name 5 sc__law_are_ends_right.nd) dgs_nil))))) (fun _ _ _ _ _ => dts_nil) (fun _ _ _ _ _ => (de_tup (da_cons (dv 3) (da_cons de_int (da_cons (dv 5) da_nil)))))) da_nil)))
  (dss_cons (ds_set 6 sc__law_are_ends_right.nd (de_callTy p_tuple B.b_tuple (by decide +kernel) (da_cons (de_lc (r := false) (own := [("ticks", 3), ("at", 7)]) sc__law_are_ends_right.nd (di_sq (de_callB (p_sorted hr.units (r := false)) B.b_sorted (by decide +kernel) (da_cons (de_lc (r := false) (own := [("at", 7), ("job", 8)]) sc__law_are_ends_right.nd (di_enum B.b_enumerate (dv 1)) (blk_of (by kernel_rfl)) (by decide) (fun _ _ _ _ _ => (dg_tup (dgs_cons (dg_name 7 sc__law_are_ends_right.nd) (dgs_cons (dg_name 8 sc__law_are_ends_right.nd) dgs_nil)))) (fun _ _ _ _ _ => dts_nil) (fun _ _ _ _ _ => (de_tup (da_cons (de_ix p_ix (dv 8) de_int) (da_cons (dv 7) da_nil))))) da_nil))) (blk_of (by kernel_rfl)) (by decide) (fun _ _ _ _ _ => (dg_tup (dgs_cons (dg_name 3 sc__law_are_ends_right.nd) (dgs_cons (dg_name 7 sc__law_are_ends_right.nd) dgs_nil)))) (fun _ _ _ _ _ => dts_nil) (fun _ _ _ _ _ => (dv 7))) da_nil)))
  (dss_cons (ds_set 9 sc__law_are_ends_right.nd (de_own H_total_wait.weak hr (da_cons (dv 2) (da_cons (dv 6) da_nil))))
  (dss_cons (ds_if (dt_w (dw_or (dt_cmp (p_ne hr.units) (de_ix p_ix (de_own H_least_wait.weak hr (da_cons (dv 2) da_nil)) de_int) (dv 9) rfl) (dw_or1 (dt_cmp p_notB (de_own H_shows_least_wait.weak hr (da_cons (dv 2) (da_cons (de_tup (da_cons de_str (da_cons (dv 9) (da_cons (dv 6) da_nil)))) da_nil))) de_bl rfl)))) (dss_one (ds_ret de_bl)) dss_nil)
  (dss_cons (ds_set 10 sc__law_are_ends_right.nd (de_tupX B.b_tuple (de_own H__law_some.weak hr (da_cons (dv 0) (da_cons (de_listRg (r := false) rfl B.b_list (drg_1 B.b_range (de_callB p_len B.b_len (by decide +kernel) (da_cons (dv 1) da_nil)))) (da_cons (de_callB p_len B.b_len (by decide +kernel) (da_cons (dv 1) da_nil)) da_nil))))))
  (dss_cons (ds_if (dt_cmp p_lt (de_own H_total_wait.weak hr (da_cons (dv 1) (da_cons (dv 10) da_nil))) (de_ix p_ix (de_own H_least_wait.weak hr (da_cons (dv 1) da_nil)) de_int) rfl) (dss_one (ds_ret de_bl)) dss_nil)
  (dss_cons (ds_asg (de_tup (da_cons (de_own H_ends_of.weak hr (da_cons (dv 1) (da_cons (dv 10) da_nil))) (da_cons (de_rev (r := false) (de_own H_ends_of.weak hr (da_cons (dv 1) (da_cons (de_rev (r := false) (dv 10)) da_nil)))) (da_cons (de_callB (p_sum rfl) B.b_sum (by decide +kernel) (da_cons (de_lc (r := false) (own := [("job", 8)]) sc__law_are_ends_right.nd (di_sq (dv 1)) (blk_of (by kernel_rfl)) (by decide) (fun _ _ _ _ _ => (dg_name 8 sc__law_are_ends_right.nd)) (fun _ _ _ _ _ => dts_nil) (fun _ _ _ _ _ => (de_ix p_ix (dv 8) de_int))) da_nil)) da_nil)))) (dg_tup (dgs_cons (dg_name 11 sc__law_are_ends_right.nd) (dgs_cons (dg_name 12 sc__law_are_ends_right.nd) (dgs_cons (dg_name 13 sc__law_are_ends_right.nd) dgs_nil)))))
  (dss_cons (ds_if (dt_w (dw_or (dt_val (de_callB (p_any rfl) B.b_any (by decide +kernel) (da_cons (de_lc (r := false) (own := [("one", 14), ("other", 15), ("at", 7)]) sc__law_are_ends_right.nd (di_zip3 B.b_zip (dv 11) (dv 12) (dv 10)) (blk_of (by kernel_rfl)) (by decide) (fun _ _ _ _ _ => (dg_tup (dgs_cons (dg_name 14 sc__law_are_ends_right.nd) (dgs_cons (dg_name 15 sc__law_are_ends_right.nd) (dgs_cons (dg_name 7 sc__law_are_ends_right.nd) dgs_nil))))) (fun _ _ _ _ _ => dts_nil) (fun _ _ _ _ _ => (de_cmp (p_ne hr.units) (de_op (p_add (r := false)) (dv 14) (dv 15)) (de_op (p_add (r := false)) (dv 13) (de_ix p_ix (de_ix p_ix (dv 1) (dv 7)) de_int)) rfl))) da_nil))) (dw_or1 (dt_cmp (p_ne hr.units) (de_ix p_ix (dv 11) (de_neg de_int)) (dv 13) rfl)))) (dss_one (ds_ret de_bl)) dss_nil)
  (dss_cons (ds_set 16 sc__law_are_ends_right.nd (de_callTy p_int B.b_int (by decide +kernel) (da_cons (de_own H__law_take.weak hr (da_cons (dv 0) (da_cons (de_op (p_add (r := false)) (dv 13) de_int) da_nil))) da_nil)))
  (dss_cons (ds_set 7 sc__law_are_ends_right.nd (de_own H_job_done_at.weak hr (da_cons (dv 1) (da_cons (dv 10) (da_cons (dv 16) da_nil)))))
  (dss_cons (ds_if (dt_cmp (p_ne hr.units) (de_cmp p_isN (dv 7) de_non rfl) (de_cmp p_ge (dv 16) (dv 13) rfl) rfl) (dss_one (ds_ret de_bl)) dss_nil)
  (dss_one (ds_ret (de_or (de_cmp p_isN (dv 7) de_non rfl) (de_one (de_chain p_le p_lt (de_op p_sub (de_ix p_ix (dv 11) (de_bmX PySem.F.plainAttrs_tuple PySem.F.slot_tuple_index PySem.F.type_tuple_index m_indexT (dv 10) (da_cons (dv 7) da_nil))) (de_ix p_ix (de_ix p_ix (dv 1) (dv 7)) de_int)) (dv 16) (de_ix p_ix (dv 11) (de_bmX PySem.F.plainAttrs_tuple PySem.F.slot_tuple_index PySem.F.type_tuple_index m_indexT (dv 10) (da_cons (dv 7) da_nil)))))))))))))))))))) pure__law_are_ends_right
theorem sc__law_right : FnScope N__law_right ["pot"] (defScope s__law_right) := ⟨rfl, rfl, rfl, by decide +kernel, rfl, by decide +kernel, by decide +kernel⟩
theorem ok__law_right (B : Blt mg) (O : Own K mg "_law_right" s__law_right) (H__law_take : Has P w K mg base 1 "_law_take" ["pot", "upto"] sp__law_take) (H__law_are_dues_right : Has P w K mg base 9 "_law_are_dues_right" ["pot", "jobs"] sp__law_are_dues_right) (H__law_are_ends_right : Has P w K mg base 8 "_law_are_ends_right" ["pot", "jobs"] sp__law_are_ends_right) (H_fewest_late : Has P w K mg base 6 "fewest_late" ["jobs"] sp_fewest_late) (H_least_wait : Has P w K mg base 6 "least_wait" ["jobs"] sp_least_wait) (H_all_in_time : Has P w K mg base 6 "all_in_time" ["jobs"] sp_all_in_time) : Has P w K mg base 10 "_law_right" ["pot"] sp__law_right :=
  has_of (N := N__law_right) (τ := t__law_right sp__law_take sp__law_are_dues_right sp__law_are_ends_right sp_fewest_late sp_least_wait sp_all_in_time) O sc__law_right (len__law_right) (fun _ _ _ _ _ _ us hl => match us, hl with | [_], _ => rfl) (fun f cdv A outer s H E hr =>
  (dss_cons (ds_for PassesOwn.never (di_range1 B.b_range de_int) (dg_name 1 sc__law_right.nd)
  (dss_cons (ds_set 2 sc__law_right.nd (de_lst (r := true) da_nil))
  (dss_cons (ds_for PassesOwn.never (di_range1 B.b_range (de_op (p_add (r := false)) de_int (de_own H__law_take hr (da_cons (dv 0) (da_cons de_int da_nil))))) (dg_name 3 sc__law_right.nd)
  (dss_one (ds_expr (de_bm PySem.F.plainAttrs_list PySem.F.slot_list_append PySem.F.type_list_append m_append (dv 2) (da_cons (de_tup (da_cons (de_callTy p_int B.b_int (by decide +kernel) (da_cons (de_op (p_add (r := false)) de_int (de_own H__law_take hr (da_cons (dv 0) (da_cons de_int da_nil)))) da_nil)) (da_cons (de_callTy p_int B.b_int (by decide +kernel) (da_cons (de_own H__law_take hr (da_cons (dv 0) (da_cons de_int da_nil))) da_nil)) (da_cons (de_callTy p_int B.b_int (by decide +kernel) (da_cons (de_own H__law_take hr (da_cons (dv 0) (da_cons de_int da_nil))) da_nil)) da_nil)))) da_nil)))))
  (dss_one (ds_if (dt_w (dw_or (dt_not (dt_val (de_own H__law_are_dues_right hr (da_cons (dv 0) (da_cons (de_callTy p_tuple B.b_tuple (by decide +kernel) (da_cons (dv 2) da_nil)) da_nil))))) (dw_or1 (dt_not (dt_val (de_own H__law_are_ends_right hr (da_cons (dv 0) (da_cons (de_callTy p_tuple B.b_tuple (by decide +kernel) (da_cons (dv 2) da_nil)) da_nil)))))))) (dss_one (ds_ret de_bl)) dss_nil)))))
  (dss_one (ds_ret (de_and (de_cmp (p_eq hr.units) (de_ix p_ix (de_own H_all_in_time hr (da_cons (de_tup da_nil) da_nil)) de_int) de_str rfl) (de_and (de_cmp (p_eq hr.units) (de_own H_least_wait hr (da_cons (de_tup da_nil) da_nil)) (de_tup (da_cons de_str (da_cons de_int (da_cons (de_tup da_nil) da_nil)))) rfl) (de_one (de_cmp (p_eq hr.units) (de_own H_fewest_late hr (da_cons (de_tup da_nil) da_nil)) (de_tup (da_cons de_str (da_cons de_int (da_cons (de_tup da_nil) da_nil)))) rfl)))))))) pure__law_right
theorem sc_law : FnScope N_law ["script"] (defScope s_law) := ⟨rfl, rfl, rfl, by decide +kernel, rfl, by decide +kernel, by decide +kernel⟩
theorem ok_law {f0 : Addr} {fd : FuncData} (B : Blt mg) (O : FnP K "law" s_law f0 fd) (H__law_cells : Has P w K mg base 1 "_law_cells" ["script", "most"] sp__law_cells) (H__law_right : Has P w K mg base 10 "_law_right" ["pot"] sp__law_right) (H__law_pot : Has P w K mg base 1 "_law_pot" ["script", "place"] sp__law_pot) : FnOk P w K mg base CX0 11 f0 fd ["script"] (LSp K sp_law) :=
  fn_def (N := N_law) (τ := t_law sp__law_cells sp__law_right sp__law_pot) O sc_law (len_law) (fun f cdv A outer s H E hr =>
  (dss_one (ds_ret (de_callB (p_all rfl) B.b_all (by decide +kernel) (da_cons (de_lc (r := false) (own := [("place", 1)]) sc_law.nd (di_sq (de_own H__law_cells hr (da_cons (dv 0) (da_cons de_int da_nil)))) (blk_of (by kernel_rfl)) (by decide) (fun _ _ _ _ _ => (dg_name 1 sc_law.nd)) (fun _ _ _ _ _ => dts_nil) (fun _ _ _ _ _ => (de_own H__law_right hr (da_cons (de_own H__law_pot hr (da_cons (dv 0) (da_cons (dv 1) da_nil))) da_nil)))) da_nil))))) pure_law
end
theorem facts {P : Program} {w : World} {K : PySem.W.Frag} {h : Heap} {mg : Str → Option Value} {f : Addr} (X : K.In h) (G : h.Ns mainGlobals mg) (hfa : mg ("law" : Str) = some (.ref f)) (c : He.SaysD fa fn K) :
    ∃ fd : FuncData, (∀ (s : Shared) (v : Value), BindsTo s fd ⟨[v], []⟩ [("script", v)]) ∧ ∀ base : Heap, K.In base → base.Ns mainGlobals mg → FnOk P w K mg base CX0 11 f fd ["script"] (LSp K sp_law) := by
  obtain ⟨fd, F⟩ := c.def_ 32 (d := mkD "law" s_law) rfl
  have e := hfa.symm.trans (He.glo_ok X G (c.fact 32 (f := .glo "law") rfl))
  cases e
  have b := FunD.bindsA (ps := ["script"]) F fun _ _ _ _ _ _ us hl => match us, hl with | [_], _ => rfl
  have B : Blt mg := ⟨He.free_ok X G (c.fact 33 (f := .free "abs") rfl),
    He.free_ok X G (c.fact 34 (f := .free "all") rfl),
    He.free_ok X G (c.fact 35 (f := .free "any") rfl),
    He.free_ok X G (c.fact 36 (f := .free "bool") rfl),
    He.free_ok X G (c.fact 37 (f := .free "enumerate") rfl),
    He.free_ok X G (c.fact 38 (f := .free "int") rfl),
    He.free_ok X G (c.fact 39 (f := .free "isinstance") rfl),
    He.free_ok X G (c.fact 40 (f := .free "len") rfl),
    He.free_ok X G (c.fact 41 (f := .free "list") rfl),
    He.free_ok X G (c.fact 42 (f := .free "max") rfl),
    He.free_ok X G (c.fact 43 (f := .free "min") rfl),
    He.free_ok X G (c.fact 44 (f := .free "range") rfl),
    He.free_ok X G (c.fact 45 (f := .free "set") rfl),
    He.free_ok X G (c.fact 46 (f := .free "sorted") rfl),
    He.free_ok X G (c.fact 47 (f := .free "str") rfl),
    He.free_ok X G (c.fact 48 (f := .free "sum") rfl),
    He.free_ok X G (c.fact 49 (f := .free "tuple") rfl),
    He.free_ok X G (c.fact 50 (f := .free "zip") rfl),
    He.str_ok X G (c.fact 56 (f := .str "BY" "by") rfl),
    He.str_ok X G (c.fact 57 (f := .str "LATE" "late") rfl),
    He.int_ok X G (c.fact 53 (f := .int "MOST_DUE" 1000000) rfl),
    He.int_ok X G (c.fact 51 (f := .int "MOST_JOBS" 60) rfl),
    He.int_ok X G (c.fact 52 (f := .int "MOST_LONG" 10000) rfl),
    He.str_ok X G (c.fact 55 (f := .str "ORDER" "order") rfl),
    He.int_ok X G (c.fact 54 (f := .int "THREE" 3) rfl)⟩
  have O_is_int : Own K mg "is_int" s_is_int := by
    obtain ⟨fd, F⟩ := c.def_ 0 (d := mkD "is_int" s_is_int) rfl
    exact ⟨_, fd, F, He.glo_ok X G (c.fact 0 (f := .glo "is_int") rfl)⟩
  have O_are_ints : Own K mg "are_ints" s_are_ints := by
    obtain ⟨fd, F⟩ := c.def_ 1 (d := mkD "are_ints" s_are_ints) rfl
    exact ⟨_, fd, F, He.glo_ok X G (c.fact 1 (f := .glo "are_ints") rfl)⟩
  have O_is_told : Own K mg "is_told" s_is_told := by
    obtain ⟨fd, F⟩ := c.def_ 2 (d := mkD "is_told" s_is_told) rfl
    exact ⟨_, fd, F, He.glo_ok X G (c.fact 2 (f := .glo "is_told") rfl)⟩
  have O_is_order : Own K mg "is_order" s_is_order := by
    obtain ⟨fd, F⟩ := c.def_ 3 (d := mkD "is_order" s_is_order) rfl
    exact ⟨_, fd, F, He.glo_ok X G (c.fact 3 (f := .glo "is_order") rfl)⟩
  have O_is_job : Own K mg "is_job" s_is_job := by
    obtain ⟨fd, F⟩ := c.def_ 4 (d := mkD "is_job" s_is_job) rfl
    exact ⟨_, fd, F, He.glo_ok X G (c.fact 4 (f := .glo "is_job") rfl)⟩
  have O_are_jobs : Own K mg "are_jobs" s_are_jobs := by
    obtain ⟨fd, F⟩ := c.def_ 5 (d := mkD "are_jobs" s_are_jobs) rfl
    exact ⟨_, fd, F, He.glo_ok X G (c.fact 5 (f := .glo "are_jobs") rfl)⟩
  have O_look_at_jobs : Own K mg "look_at_jobs" s_look_at_jobs := by
    obtain ⟨fd, F⟩ := c.def_ 6 (d := mkD "look_at_jobs" s_look_at_jobs) rfl
    exact ⟨_, fd, F, He.glo_ok X G (c.fact 6 (f := .glo "look_at_jobs") rfl)⟩
  have O_look_at_order : Own K mg "look_at_order" s_look_at_order := by
    obtain ⟨fd, F⟩ := c.def_ 7 (d := mkD "look_at_order" s_look_at_order) rfl
    exact ⟨_, fd, F, He.glo_ok X G (c.fact 7 (f := .glo "look_at_order") rfl)⟩
  have O_told_ends : Own K mg "told_ends" s_told_ends := by
    obtain ⟨fd, F⟩ := c.def_ 8 (d := mkD "told_ends" s_told_ends) rfl
    exact ⟨_, fd, F, He.glo_ok X G (c.fact 8 (f := .glo "told_ends") rfl)⟩
  have O_ends_of : Own K mg "ends_of" s_ends_of := by
    obtain ⟨fd, F⟩ := c.def_ 9 (d := mkD "ends_of" s_ends_of) rfl
    exact ⟨_, fd, F, He.glo_ok X G (c.fact 9 (f := .glo "ends_of") rfl)⟩
  have O_by_due : Own K mg "by_due" s_by_due := by
    obtain ⟨fd, F⟩ := c.def_ 10 (d := mkD "by_due" s_by_due) rfl
    exact ⟨_, fd, F, He.glo_ok X G (c.fact 10 (f := .glo "by_due") rfl)⟩
  have O_told_bar : Own K mg "told_bar" s_told_bar := by
    obtain ⟨fd, F⟩ := c.def_ 11 (d := mkD "told_bar" s_told_bar) rfl
    exact ⟨_, fd, F, He.glo_ok X G (c.fact 11 (f := .glo "told_bar") rfl)⟩
  have O_all_in_time : Own K mg "all_in_time" s_all_in_time := by
    obtain ⟨fd, F⟩ := c.def_ 12 (d := mkD "all_in_time" s_all_in_time) rfl
    exact ⟨_, fd, F, He.glo_ok X G (c.fact 12 (f := .glo "all_in_time") rfl)⟩
  have O_shows_all_in_time : Own K mg "shows_all_in_time" s_shows_all_in_time := by
    obtain ⟨fd, F⟩ := c.def_ 13 (d := mkD "shows_all_in_time" s_shows_all_in_time) rfl
    exact ⟨_, fd, F, He.glo_ok X G (c.fact 13 (f := .glo "shows_all_in_time") rfl)⟩
  have O_least_lateness : Own K mg "least_lateness" s_least_lateness := by
    obtain ⟨fd, F⟩ := c.def_ 14 (d := mkD "least_lateness" s_least_lateness) rfl
    exact ⟨_, fd, F, He.glo_ok X G (c.fact 14 (f := .glo "least_lateness") rfl)⟩
  have O_told_late : Own K mg "told_late" s_told_late := by
    obtain ⟨fd, F⟩ := c.def_ 15 (d := mkD "told_late" s_told_late) rfl
    exact ⟨_, fd, F, He.glo_ok X G (c.fact 15 (f := .glo "told_late") rfl)⟩
  have O_fewest_late : Own K mg "fewest_late" s_fewest_late := by
    obtain ⟨fd, F⟩ := c.def_ 16 (d := mkD "fewest_late" s_fewest_late) rfl
    exact ⟨_, fd, F, He.glo_ok X G (c.fact 16 (f := .glo "fewest_late") rfl)⟩
  have O_late_in : Own K mg "late_in" s_late_in := by
    obtain ⟨fd, F⟩ := c.def_ 17 (d := mkD "late_in" s_late_in) rfl
    exact ⟨_, fd, F, He.glo_ok X G (c.fact 17 (f := .glo "late_in") rfl)⟩
  have O_shows_fewest_late : Own K mg "shows_fewest_late" s_shows_fewest_late := by
    obtain ⟨fd, F⟩ := c.def_ 18 (d := mkD "shows_fewest_late" s_shows_fewest_late) rfl
    exact ⟨_, fd, F, He.glo_ok X G (c.fact 18 (f := .glo "shows_fewest_late") rfl)⟩
  have O_told_total : Own K mg "told_total" s_told_total := by
    obtain ⟨fd, F⟩ := c.def_ 19 (d := mkD "told_total" s_told_total) rfl
    exact ⟨_, fd, F, He.glo_ok X G (c.fact 19 (f := .glo "told_total") rfl)⟩
  have O_total_wait : Own K mg "total_wait" s_total_wait := by
    obtain ⟨fd, F⟩ := c.def_ 20 (d := mkD "total_wait" s_total_wait) rfl
    exact ⟨_, fd, F, He.glo_ok X G (c.fact 20 (f := .glo "total_wait") rfl)⟩
  have O_told_lightest : Own K mg "told_lightest" s_told_lightest := by
    obtain ⟨fd, F⟩ := c.def_ 21 (d := mkD "told_lightest" s_told_lightest) rfl
    exact ⟨_, fd, F, He.glo_ok X G (c.fact 21 (f := .glo "told_lightest") rfl)⟩
  have O_least_wait : Own K mg "least_wait" s_least_wait := by
    obtain ⟨fd, F⟩ := c.def_ 22 (d := mkD "least_wait" s_least_wait) rfl
    exact ⟨_, fd, F, He.glo_ok X G (c.fact 22 (f := .glo "least_wait") rfl)⟩
  have O_shows_least_wait : Own K mg "shows_least_wait" s_shows_least_wait := by
    obtain ⟨fd, F⟩ := c.def_ 23 (d := mkD "shows_least_wait" s_shows_least_wait) rfl
    exact ⟨_, fd, F, He.glo_ok X G (c.fact 23 (f := .glo "shows_least_wait") rfl)⟩
  have O_job_done_at : Own K mg "job_done_at" s_job_done_at := by
    obtain ⟨fd, F⟩ := c.def_ 24 (d := mkD "job_done_at" s_job_done_at) rfl
    exact ⟨_, fd, F, He.glo_ok X G (c.fact 24 (f := .glo "job_done_at") rfl)⟩
  have O__law_pot : Own K mg "_law_pot" s__law_pot := by
    obtain ⟨fd, F⟩ := c.def_ 25 (d := mkD "_law_pot" s__law_pot) rfl
    exact ⟨_, fd, F, He.glo_ok X G (c.fact 25 (f := .glo "_law_pot") rfl)⟩
  have O__law_take : Own K mg "_law_take" s__law_take := by
    obtain ⟨fd, F⟩ := c.def_ 26 (d := mkD "_law_take" s__law_take) rfl
    exact ⟨_, fd, F, He.glo_ok X G (c.fact 26 (f := .glo "_law_take") rfl)⟩
  have O__law_cells : Own K mg "_law_cells" s__law_cells := by
    obtain ⟨fd, F⟩ := c.def_ 27 (d := mkD "_law_cells" s__law_cells) rfl
    exact ⟨_, fd, F, He.glo_ok X G (c.fact 27 (f := .glo "_law_cells") rfl)⟩
  have O__law_some : Own K mg "_law_some" s__law_some := by
    obtain ⟨fd, F⟩ := c.def_ 28 (d := mkD "_law_some" s__law_some) rfl
    exact ⟨_, fd, F, He.glo_ok X G (c.fact 28 (f := .glo "_law_some") rfl)⟩
  have O__law_are_dues_right : Own K mg "_law_are_dues_right" s__law_are_dues_right := by
    obtain ⟨fd, F⟩ := c.def_ 29 (d := mkD "_law_are_dues_right" s__law_are_dues_right) rfl
    exact ⟨_, fd, F, He.glo_ok X G (c.fact 29 (f := .glo "_law_are_dues_right") rfl)⟩
  have O__law_are_ends_right : Own K mg "_law_are_ends_right" s__law_are_ends_right := by
    obtain ⟨fd, F⟩ := c.def_ 30 (d := mkD "_law_are_ends_right" s__law_are_ends_right) rfl
    exact ⟨_, fd, F, He.glo_ok X G (c.fact 30 (f := .glo "_law_are_ends_right") rfl)⟩
  have O__law_right : Own K mg "_law_right" s__law_right := by
    obtain ⟨fd, F⟩ := c.def_ 31 (d := mkD "_law_right" s__law_right) rfl
    exact ⟨_, fd, F, He.glo_ok X G (c.fact 31 (f := .glo "_law_right") rfl)⟩
  refine ⟨fd, fun s v => b s [v] rfl, fun base _ _ => ?_⟩
  have H_is_int : Has P w K mg base 1 "is_int" ["value", "low", "high"] sp_is_int := ok_is_int B O_is_int 
  have H_are_ints : Has P w K mg base 2 "are_ints" ["value", "low", "high"] sp_are_ints := ok_are_ints B O_are_ints H_is_int
  have H_is_told : Has P w K mg base 1 "is_told" ["value", "sizes"] sp_is_told := ok_is_told B O_is_told 
  have H_is_order : Has P w K mg base 3 "is_order" ["value", "many"] sp_is_order := ok_is_order B O_is_order H_are_ints
  have H_is_job : Has P w K mg base 3 "is_job" ["value"] sp_is_job := ok_is_job B O_is_job H_are_ints
  have H_are_jobs : Has P w K mg base 4 "are_jobs" ["value"] sp_are_jobs := ok_are_jobs B O_are_jobs H_is_job
  have H_look_at_jobs : Has P w K mg base 5 "look_at_jobs" ["jobs"] sp_look_at_jobs := ok_look_at_jobs B O_look_at_jobs H_are_jobs
  have H_look_at_order : Has P w K mg base 6 "look_at_order" ["jobs", "order"] sp_look_at_order := ok_look_at_order B O_look_at_order H_look_at_jobs H_is_order
  have H_told_ends : Has P w K mg base 1 "told_ends" ["jobs", "order"] sp_told_ends := ok_told_ends B O_told_ends 
  have H_ends_of : Has P w K mg base 7 "ends_of" ["jobs", "order"] sp_ends_of := ok_ends_of B O_ends_of H_look_at_order H_told_ends
  have H_by_due : Has P w K mg base 1 "by_due" ["jobs"] sp_by_due := ok_by_due B O_by_due 
  have H_told_bar : Has P w K mg base 2 "told_bar" ["jobs"] sp_told_bar := ok_told_bar B O_told_bar H_by_due H_told_ends
  have H_all_in_time : Has P w K mg base 6 "all_in_time" ["jobs"] sp_all_in_time := ok_all_in_time B O_all_in_time H_look_at_jobs H_told_bar H_by_due
  have H_shows_all_in_time : Has P w K mg base 6 "shows_all_in_time" ["jobs", "value"] sp_shows_all_in_time := ok_shows_all_in_time B O_shows_all_in_time H_look_at_jobs H_is_told H_is_order H_told_ends H_is_int
  have H_least_lateness : Has P w K mg base 6 "least_lateness" ["jobs"] sp_least_lateness := ok_least_lateness B O_least_lateness H_look_at_jobs H_by_due H_told_ends
  have H_told_late : Has P w K mg base 2 "told_late" ["jobs"] sp_told_late := ok_told_late B O_told_late H_by_due
  have H_fewest_late : Has P w K mg base 6 "fewest_late" ["jobs"] sp_fewest_late := ok_fewest_late B O_fewest_late H_look_at_jobs H_told_late H_by_due
  have H_late_in : Has P w K mg base 7 "late_in" ["jobs", "order"] sp_late_in := ok_late_in B O_late_in H_look_at_order H_told_ends
  have H_shows_fewest_late : Has P w K mg base 8 "shows_fewest_late" ["jobs", "value"] sp_shows_fewest_late := ok_shows_fewest_late B O_shows_fewest_late H_look_at_jobs H_is_told H_is_order H_told_late H_late_in H_is_int
  have H_told_total : Has P w K mg base 2 "told_total" ["jobs", "order"] sp_told_total := ok_told_total B O_told_total H_told_ends
  have H_total_wait : Has P w K mg base 7 "total_wait" ["jobs", "order"] sp_total_wait := ok_total_wait B O_total_wait H_look_at_order H_told_total
  have H_told_lightest : Has P w K mg base 1 "told_lightest" ["jobs"] sp_told_lightest := ok_told_lightest B O_told_lightest 
  have H_least_wait : Has P w K mg base 6 "least_wait" ["jobs"] sp_least_wait := ok_least_wait B O_least_wait H_look_at_jobs H_told_lightest H_told_total
  have H_shows_least_wait : Has P w K mg base 6 "shows_least_wait" ["jobs", "value"] sp_shows_least_wait := ok_shows_least_wait B O_shows_least_wait H_look_at_jobs H_is_told H_is_order H_told_total H_told_lightest H_is_int
  have H_job_done_at : Has P w K mg base 7 "job_done_at" ["jobs", "order", "tick"] sp_job_done_at := ok_job_done_at B O_job_done_at H_look_at_order H_is_int H_told_ends
  have H__law_pot : Has P w K mg base 1 "_law_pot" ["script", "place"] sp__law_pot := ok__law_pot B O__law_pot 
  have H__law_take : Has P w K mg base 1 "_law_take" ["pot", "upto"] sp__law_take := ok__law_take B O__law_take 
  have H__law_cells : Has P w K mg base 1 "_law_cells" ["script", "most"] sp__law_cells := ok__law_cells B O__law_cells 
  have H__law_some : Has P w K mg base 2 "_law_some" ["pot", "pool", "many"] sp__law_some := ok__law_some B O__law_some H__law_take
  have H__law_are_dues_right : Has P w K mg base 9 "_law_are_dues_right" ["pot", "jobs"] sp__law_are_dues_right := ok__law_are_dues_right B O__law_are_dues_right H_least_lateness H_all_in_time H_shows_all_in_time H_fewest_late H_late_in H_shows_fewest_late H__law_take
  have H__law_are_ends_right : Has P w K mg base 8 "_law_are_ends_right" ["pot", "jobs"] sp__law_are_ends_right := ok__law_are_ends_right B O__law_are_ends_right H_total_wait H_least_wait H_shows_least_wait H__law_some H_ends_of H__law_take H_job_done_at
  have H__law_right : Has P w K mg base 10 "_law_right" ["pot"] sp__law_right := ok__law_right B O__law_right H__law_take H__law_are_dues_right H__law_are_ends_right H_fewest_late H_least_wait H_all_in_time
  exact ok_law B F H__law_cells H__law_right H__law_pot
end L45
open PySem PySem.W PySem.Calls PyProof.Rows
theorem PySem.Challenge.cw_nobodywaitsbeyond_k45_whole_orders_turne_holds : PySem.Challenge.rw_nobodywaitsbeyond_k45_whole_orders_turne.Holds := by
  w_on; o_law
  refine HandSHeadRun.head_any (r := OpenLaw.row PySem.Challenge.rw_nobodywaitsbeyond_k45_whole_orders_turne) (q := view (OpenLaw.row PySem.Challenge.rw_nobodywaitsbeyond_k45_whole_orders_turne).prog [46]) (H := L45.hk) (ob := L45.ob) (M := 3000) (loose := L45.loose) (d := HandSHeadRun.topDef (OpenLaw.row PySem.Challenge.rw_nobodywaitsbeyond_k45_whole_orders_turne).prog 46) (kwd := []) L45.ob_eq
    (by kernel_rfl) (fun s => by kernel_rfl) L45.run (by kernel_rfl) (by kernel_rfl) (by kernel_rfl) (by rfl) (by first | assumption | decide +kernel) (by decide +kernel) ⟨rfl, rfl, rfl, rfl, rfl, by decide +kernel⟩ ?hw ?hc
  case hw => w_witness2
  case hc =>
    refine L2.walk_ofE (l := PySem.Challenge.rw_nobodywaitsbeyond_k45_whole_orders_turne) (n := 63) (k := 11) (x := "script") (CX := L2.CX0) rfl (by decide) (by kernel_rfl) ⟨rfl, by decide, by decide⟩ ?F (fun _ _ _ _ z => z)
    intro w mg fa h Y G hmg0
    obtain ⟨K, KX, c⟩ := Y
    have hmg : mg ("law" : PySem.Str) = some (.ref fa) := by
      have e : (HandSHeadRun.topDef (OpenLaw.row PySem.Challenge.rw_nobodywaitsbeyond_k45_whole_orders_turne).prog 46).name = ("law" : PySem.Str) := by kernel_rfl
      rw [← e]
      exact hmg0
    obtain ⟨fd, hb, hF⟩ := L45.facts (P := (PySem.Challenge.rw_nobodywaitsbeyond_k45_whole_orders_turne).prog) (w := w) KX G hmg c
    exact ⟨K, fd, PL.LSp K L45.sp_law, KX, hb, fun H a ns hl hO hS => ⟨_, _, fun d _ => d = PL.D.bl true, PL.script_rd hO hS, PL.rs_empty, ⟨ns, rfl, hl, fun _ => rfl⟩, fun d S' v H' q g r => by subst q; rw [PL.RD] at r; exact r⟩, hF⟩
