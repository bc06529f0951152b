import PyProof.Rows.All
import Wide.All
import OpenK.AllK
import Wide.FinOn
import KE.KStateDown
import KE.DataMinMax
import KE.SortData
import PyProof.ReprRoads
import KE.GoesMore
import KE.GoesEnum
import HandS.ForMost
import HandS.Exc
import HandS.Defaults
import HandS.Flow
import HandS.Style
import HandS.IsInst
import HandS.Zip
import HandS.TupAny
import HandS.TupMul
import HandS.Conv
import HandS.Wide
import HandS.Deep
import HandS.TupLe
import HandS.Star
import HandS.Head0
import HandS.Head1
import HandS.Head2
import HandS.HeadEnd
import HandS.HeadHook1
import HandS.HeadHook2
import PySem.Challenge.RW_nobodywaitsbeyond_k46_whole_crossings_al
set_option Elab.async false
set_option linter.all false
set_option maxRecDepth 100000
set_option maxHeartbeats 4000000
namespace PL
open PySem PySem.Spec PyProof.Rows L2

/-! ### values: tuples and lists that nobody changes are trees; lists and dicts that are changed stand at an address -/
inductive D where
  | non | bl (b : Bool) | int (i : Int) | str (x : Str) | tup (ds : List D) | lst (ds : List D) | fz (ds : List D) | ref (a : Addr)

/-- what stands at a tracked address -/
inductive MO where
  | lst (ds : List D)
  | dK (kvs : List (Key × D))
  | dT (kvs : List (List Key × D))

abbrev Sto := Addr → Option MO
def Sto.up (S : Sto) (a : Addr) (o : MO) : Sto := fun b => if b = a then some o else S b
theorem Sto.up_same {S : Sto} {a : Addr} {o : MO} : S.up a o a = some o := by unfold Sto.up; rw [if_pos rfl]
theorem Sto.up_ne {S : Sto} {a b : Addr} {o : MO} (h : b ≠ a) : S.up a o b = S b := by unfold Sto.up; rw [if_neg h]
theorem Sto.up_up {S : Sto} {a : Addr} {o u : MO} : (S.up a o).up a u = S.up a u := by
  funext b; unfold Sto.up; split <;> rfl
abbrev DEnv := List (Option D)

/-- a list that never changes: frozen, or of the written part -/
def KL (K : PySem.W.Frag) (H : Hp) (a : Addr) (xs : List V) : Prop := (∃ o, H a = some (.frz o (.lst xs))) ∨
  ∃ (o : Obj) (its : Array Value) (n : Nat), K.lookup a = some o ∧ o.cls = .type "list" ∧ o.dict = none ∧ o.data = .seq its n ∧ its.size ≤ sizeLine ∧ Vals xs its.toList
theorem KL.sq {K : PySem.W.Frag} {H : Hp} {a : Addr} {xs : List V} (h : KL K H a xs) : SqL K H a xs := h.imp .inr id
section
variable (K : PySem.W.Frag)
mutual
def RD (S : Sto) (H : Hp) : D → V → Prop
  | .non, v => v = .non
  | .bl b, v => v = .bl b
  | .int i, v => v = .int i
  | .str x, v => v = .str x
  | .ref a, v => v = .ref a
  | .tup ds, v => ∃ a vs, v = .ref a ∧ SqT K H a vs ∧ RDs S H ds vs
  | .lst ds, v => ∃ a vs, v = .ref a ∧ S a = none ∧ H a = some (.lst vs) ∧ RDs S H ds vs
  | .fz ds, v => ∃ a vs, v = .ref a ∧ KL K H a vs ∧ RDs S H ds vs
def RDs (S : Sto) (H : Hp) : List D → List V → Prop
  | [], vs => vs = []
  | d :: ds, vs => ∃ v r, vs = v :: r ∧ RD S H d v ∧ RDs S H ds r
end
/-- the tuples, the lists that are not tracked are as they were -/
structure Tp (S : Sto) (H : Hp) (S' : Sto) (H' : Hp) : Prop where
  tup : ∀ a xs, H a = some (.tup xs) → H' a = some (.tup xs)
  frz : ∀ a o u, H a = some (.frz o u) → H' a = some (.frz o u)
  old : ∀ a o, S a = none → H a = some o → S' a = none ∧ H' a = some o
variable {K}
variable {S S' S1 S2 : Sto} {H H' H1 H2 : Hp}
theorem Tp.refl : Tp S H S H := ⟨fun _ _ h => h, fun _ _ _ h => h, fun _ _ a b => ⟨a, b⟩⟩
theorem Tp.trans (a : Tp S H S1 H1) (b : Tp S1 H1 S2 H2) : Tp S H S2 H2 :=
  ⟨fun x y h => b.tup x y (a.tup x y h), fun x y z h => b.frz x y z (a.frz x y z h), fun x o h1 h2 => let ⟨e1, e2⟩ := a.old x o h1 h2; b.old x o e1 e2⟩
theorem Tp.sqt {a : Addr} {xs : List V} (e : Tp S H S' H') (h : SqT K H a xs) : SqT K H' a xs := by
  rcases h with (h | ⟨o, h⟩) | h
  · exact .inl (.inl (e.tup _ _ h))
  · exact .inl (.inr ⟨o, e.frz _ _ _ h⟩)
  · exact .inr h
mutual
theorem RD.tp (e : Tp S H S' H') : ∀ {d : D} {v : V}, RD K S H d v → RD K S' H' d v
  | .non, _, h => by simpa only [RD] using h
  | .bl _, _, h => by simpa only [RD] using h
  | .int _, _, h => by simpa only [RD] using h
  | .str _, _, h => by simpa only [RD] using h
  | .ref _, _, h => by simpa only [RD] using h
  | .tup ds, v, h => by
    rw [RD] at h ⊢
    obtain ⟨a, vs, h1, h2, h3⟩ := h
    exact ⟨a, vs, h1, e.sqt h2, RDs.tp e h3⟩
  | .lst ds, v, h => by
    rw [RD] at h ⊢
    obtain ⟨a, vs, h1, h0, h2, h3⟩ := h
    obtain ⟨e1, e2⟩ := e.old _ _ h0 h2
    exact ⟨a, vs, h1, e1, e2, RDs.tp e h3⟩
  | .fz ds, v, h => by
    rw [RD] at h ⊢
    obtain ⟨a, vs, h1, h2, h3⟩ := h
    exact ⟨a, vs, h1, h2.imp (fun ⟨o, q⟩ => ⟨o, e.frz _ _ _ q⟩) id, RDs.tp e h3⟩
theorem RDs.tp (e : Tp S H S' H') : ∀ {ds : List D} {vs : List V}, RDs K S H ds vs → RDs K S' H' ds vs
  | [], _, h => by simpa only [RDs] using h
  | d :: ds, vs, h => by
    rw [RDs] at h ⊢
    obtain ⟨v, r, h1, h2, h3⟩ := h
    exact ⟨v, r, h1, RD.tp e h2, RDs.tp e h3⟩
end
theorem RDs.nil {vs : List V} : RDs K S H [] vs ↔ vs = [] := by rw [RDs]
theorem RDs.cons {d : D} {ds : List D} {v : V} {vs : List V} (h : RD K S H d v) (t : RDs K S H ds vs) : RDs K S H (d :: ds) (v :: vs) := by
  rw [RDs]; exact ⟨v, vs, rfl, h, t⟩
theorem RDs.one {d : D} {vs : List V} (h : RDs K S H [d] vs) : ∃ v, vs = [v] ∧ RD K S H d v := by
  rw [RDs] at h
  obtain ⟨v, r, rfl, h1, h2⟩ := h
  rw [RDs] at h2
  subst h2
  exact ⟨v, rfl, h1⟩
theorem RDs.two {d e : D} {vs : List V} (h : RDs K S H [d, e] vs) : ∃ v w, vs = [v, w] ∧ RD K S H d v ∧ RD K S H e w := by
  rw [RDs] at h
  obtain ⟨v, r, rfl, h1, h2⟩ := h
  obtain ⟨w, rfl, h3⟩ := h2.one
  exact ⟨v, w, rfl, h1, h3⟩
theorem RDs.len : ∀ {ds : List D} {vs : List V}, RDs K S H ds vs → vs.length = ds.length
  | [], _, h => by rw [RDs] at h; subst h; rfl
  | d :: ds, vs, h => by
    rw [RDs] at h
    obtain ⟨v, r, rfl, _, h3⟩ := h
    rw [List.length_cons, List.length_cons, RDs.len h3]
theorem RDs.get : ∀ {ds : List D} {vs : List V} {i : Nat} {d : D}, RDs K S H ds vs → ds[i]? = some d → ∃ v, vs[i]? = some v ∧ RD K S H d v
  | [], _, i, d, _, e => by simp at e
  | x :: ds, vs, i, d, h, e => by
    rw [RDs] at h
    obtain ⟨v, r, rfl, h2, h3⟩ := h
    cases i with
    | zero => simp at e; subst e; exact ⟨v, rfl, h2⟩
    | succ i =>
      obtain ⟨w, e1, e2⟩ := RDs.get h3 (i := i) (d := d) (by simpa using e)
      exact ⟨w, by simpa using e1, e2⟩
theorem RDs.getV : ∀ {ds : List D} {vs : List V} {i : Nat} {v : V}, RDs K S H ds vs → vs[i]? = some v → ∃ d, ds[i]? = some d ∧ RD K S H d v
  | [], vs, i, v, h, e => by rw [RDs] at h; subst h; simp at e
  | x :: ds, vs, i, v, h, e => by
    rw [RDs] at h
    obtain ⟨w, r, rfl, h2, h3⟩ := h
    cases i with
    | zero => simp at e; subst e; exact ⟨x, rfl, h2⟩
    | succ i =>
      obtain ⟨d, e1, e2⟩ := RDs.getV h3 (i := i) (v := v) (by simpa using e)
      exact ⟨d, by simpa using e1, e2⟩
theorem RDs.append : ∀ {ds es : List D} {vs ws : List V}, RDs K S H ds vs → RDs K S H es ws → RDs K S H (ds ++ es) (vs ++ ws)
  | [], _, _, _, h, t => by rw [RDs] at h; subst h; exact t
  | d :: ds, es, vs, ws, h, t => by
    rw [RDs] at h
    obtain ⟨v, r, rfl, h2, h3⟩ := h
    exact RDs.cons h2 (RDs.append h3 t)
theorem RDs.snoc {ds : List D} {vs : List V} {d : D} {v : V} (h : RDs K S H ds vs) (t : RD K S H d v) : RDs K S H (ds ++ [d]) (vs ++ [v]) := h.append (RDs.cons t (RDs.nil.mpr rfl))
theorem RDs.take : ∀ {ds : List D} {vs : List V} (n : Nat), RDs K S H ds vs → RDs K S H (ds.take n) (vs.take n)
  | _, _, 0, _ => by simp [RDs]
  | [], vs, _ + 1, h => by rw [RDs] at h; subst h; simp [RDs]
  | d :: ds, vs, n + 1, h => by
    rw [RDs] at h
    obtain ⟨v, r, rfl, h2, h3⟩ := h
    exact RDs.cons h2 (RDs.take n h3)
theorem RDs.drop : ∀ {ds : List D} {vs : List V} (n : Nat), RDs K S H ds vs → RDs K S H (ds.drop n) (vs.drop n)
  | _, _, 0, h => h
  | [], vs, _ + 1, h => by rw [RDs] at h; subst h; simp [RDs]
  | d :: ds, vs, n + 1, h => by
    rw [RDs] at h
    obtain ⟨v, r, rfl, h2, h3⟩ := h
    exact RDs.drop n h3
theorem RDs.set : ∀ {ds : List D} {vs : List V} {d : D} {v : V} (n : Nat), RDs K S H ds vs → RD K S H d v → RDs K S H (ds.set n d) (vs.set n v)
  | [], vs, _, _, _, h, _ => by rw [RDs] at h; subst h; simp [RDs]
  | x :: ds, vs, d, v, 0, h, t => by
    rw [RDs] at h
    obtain ⟨w, r, rfl, h2, h3⟩ := h
    exact RDs.cons t h3
  | x :: ds, vs, d, v, n + 1, h, t => by
    rw [RDs] at h
    obtain ⟨w, r, rfl, h2, h3⟩ := h
    exact RDs.cons h2 (RDs.set n h3 t)
theorem RDs.reverse : ∀ {ds : List D} {vs : List V}, RDs K S H ds vs → RDs K S H ds.reverse vs.reverse
  | [], _, h => by rw [RDs] at h; subst h; simp [RDs]
  | d :: ds, vs, h => by
    rw [RDs] at h
    obtain ⟨v, r, rfl, h2, h3⟩ := h
    rw [List.reverse_cons, List.reverse_cons]
    exact (RDs.reverse h3).snoc h2
theorem RDs.erase : ∀ {ds : List D} {vs : List V} (n : Nat), RDs K S H ds vs → RDs K S H (ds.eraseIdx n) (vs.eraseIdx n)
  | [], vs, _, h => by rw [RDs] at h; subst h; simp [RDs]
  | d :: ds, vs, 0, h => by
    rw [RDs] at h
    obtain ⟨v, r, rfl, h2, h3⟩ := h
    exact h3
  | d :: ds, vs, n + 1, h => by
    rw [RDs] at h
    obtain ⟨v, r, rfl, h2, h3⟩ := h
    exact RDs.cons h2 (RDs.erase n h3)
theorem RDs.rep {ds : List D} {vs : List V} (h : RDs K S H ds vs) : ∀ k : Nat, RDs K S H (List.replicate k ds).flatten (List.replicate k vs).flatten
  | 0 => by simp [RDs]
  | k + 1 => by
    rw [List.replicate_succ, List.replicate_succ, List.flatten_cons, List.flatten_cons]
    exact h.append (RDs.rep h k)

/-- a tracked object -/
def RM (K : PySem.W.Frag) (S : Sto) (H : Hp) (p : Addr) : MO → Prop
  | .lst ds => ∃ vs, H p = some (.lst vs) ∧ RDs K S H ds vs
  | .dK kvs => ∃ ws, H p = some (.dK ws) ∧ ws.map (·.1) = kvs.map (·.1) ∧ RDs K S H (kvs.map (·.2)) (ws.map (·.2))
  | .dT kvs => ∃ ws, H p = some (.dT ws) ∧ ws.map (·.1) = kvs.map (·.1) ∧ RDs K S H (kvs.map (·.2)) (ws.map (·.2))
def RS (K : PySem.W.Frag) (S : Sto) (H : Hp) : Prop := ∀ p mo, S p = some mo → RM K S H p mo
theorem RM.mv {p : Addr} {mo : MO} (e : Tp S H S' H') (k : ∀ o, H p = some o → H' p = some o) (h : RM K S H p mo) : RM K S' H' p mo := by
  cases mo with
  | lst ds => obtain ⟨vs, h1, h2⟩ := h; exact ⟨vs, k _ h1, h2.tp e⟩
  | dK kvs => obtain ⟨ws, h1, h2, h3⟩ := h; exact ⟨ws, k _ h1, h2, h3.tp e⟩
  | dT kvs => obtain ⟨ws, h1, h2, h3⟩ := h; exact ⟨ws, k _ h1, h2, h3.tp e⟩
theorem RM.mut {p : Addr} {mo : MO} (h : RM K S H p mo) : ∃ o, H p = some o ∧ (∀ xs, o ≠ .tup xs) ∧ ∀ ob u, o ≠ .frz ob u := by
  cases mo with
  | lst ds => obtain ⟨vs, h1, h2⟩ := h; exact ⟨_, h1, fun _ => nofun, fun _ _ => nofun⟩
  | dK kvs => obtain ⟨ws, h1, h2, h3⟩ := h; exact ⟨_, h1, fun _ => nofun, fun _ _ => nofun⟩
  | dT kvs => obtain ⟨ws, h1, h2, h3⟩ := h; exact ⟨_, h1, fun _ => nofun, fun _ _ => nofun⟩

/-- one stretch of the run -/
structure Go (K : PySem.W.Frag) (S : Sto) (H : Hp) (S' : Sto) (H' : Hp) : Prop where
  tp : Tp S H S' H'
  rs : RS K S' H'
theorem Go.refl (r : RS K S H) : Go K S H S H := ⟨Tp.refl, r⟩
theorem Go.trans (a : Go K S H S1 H1) (b : Go K S1 H1 S2 H2) : Go K S H S2 H2 := ⟨a.tp.trans b.tp, b.rs⟩
theorem RS.free {p : Addr} (r : RS K S H) (h : H p = none) : S p = none := by
  cases e : S p with
  | none => rfl
  | some mo => obtain ⟨o, h1, _⟩ := (r p mo e).mut; rw [h] at h1; cases h1
/-- a new object that the store does not know -/
theorem Go.fresh {p : Addr} {o : HO} (r : RS K S H) (h : H p = none) : Go K S H S (upd H p o) := by
  have tp : Tp S H S (upd H p o) := ⟨fun a xs e => by rw [upd_ne (ne_of_none e h)]; exact e, fun a ob u e => by rw [upd_ne (ne_of_none e h)]; exact e, fun a ob e1 e2 => ⟨e1, by rw [upd_ne (ne_of_none e2 h)]; exact e2⟩⟩
  exact ⟨tp, fun a mo e => (r a mo e).mv tp fun ob eb => by rw [upd_ne (ne_of_none eb h)]; exact eb⟩
/-- a new tracked object -/
theorem Go.made {p : Addr} {o : HO} {mo : MO} (r : RS K S H) (h : H p = none) (hm : ∀ S' H', Tp S H S' H' → H' p = some o → RM K S' H' p mo) : Go K S H (S.up p mo) (upd H p o) := by
  have tp : Tp S H (S.up p mo) (upd H p o) := ⟨fun a xs e => by rw [upd_ne (ne_of_none e h)]; exact e, fun a ob u e => by rw [upd_ne (ne_of_none e h)]; exact e,
    fun a ob e1 e2 => ⟨by rw [Sto.up_ne (ne_of_none e2 h)]; exact e1, by rw [upd_ne (ne_of_none e2 h)]; exact e2⟩⟩
  refine ⟨tp, fun a m e => ?_⟩
  by_cases ha : a = p
  · subst ha; rw [Sto.up_same] at e; cases e; exact hm _ _ tp upd_same
  · rw [Sto.up_ne ha] at e
    exact (r a m e).mv tp fun ob eb => by rw [upd_ne ha]; exact eb
/-- a tracked object changes -/
theorem Go.wrote {p : Addr} {o : HO} {mo mo' : MO} (r : RS K S H) (h : S p = some mo) (hm : ∀ S' H', Tp S H S' H' → H' p = some o → RM K S' H' p mo') : Go K S H (S.up p mo') (upd H p o) := by
  obtain ⟨ob, h1, h2, h3⟩ := (r p mo h).mut
  have tp : Tp S H (S.up p mo') (upd H p o) := ⟨fun a xs e => by
      rw [upd_ne]; exact e
      intro z; subst z; rw [h1] at e; cases e; exact h2 xs rfl, fun a oo u e => by
      rw [upd_ne]; exact e
      intro z; subst z; rw [h1] at e; cases e; exact h3 oo u rfl, fun a oa e1 e2 => by
      have ne : a ≠ p := fun z => by subst z; rw [h] at e1; cases e1
      rw [Sto.up_ne ne, upd_ne ne]; exact ⟨e1, e2⟩⟩
  refine ⟨tp, fun a m e => ?_⟩
  by_cases ha : a = p
  · subst ha; rw [Sto.up_same] at e; cases e; exact hm _ _ tp upd_same
  · rw [Sto.up_ne ha] at e
    exact (r a m e).mv tp fun ob eb => by rw [upd_ne ha]; exact eb
end

/-! ### environments -/
def RE (K : PySem.W.Frag) (S : Sto) (H : Hp) (ρ : DEnv) (σ : L2.St) : Prop := ρ.length = σ.length ∧ ∀ (i : Nat) (d : D), ρ[i]? = some (some d) → ∃ v, σ[i]? = some (some v) ∧ RD K S H d v
def wipeD (ρ : DEnv) : List Nat → DEnv
  | [] => ρ
  | v :: vs => (wipeD ρ vs).set v none
def startD (N : List Str) (ds : List D) : DEnv := ds.map some ++ List.replicate (N.length - ds.length) none
section
variable {K : PySem.W.Frag} {S S' : Sto} {H H' : Hp} {ρ : DEnv} {σ : L2.St}
theorem RE.tp (e : Tp S H S' H') (h : RE K S H ρ σ) : RE K S' H' ρ σ := ⟨h.1, fun i d x => let ⟨v, a, b⟩ := h.2 i d x; ⟨v, a, b.tp e⟩⟩
theorem RE.set {d : D} {v : V} (h : RE K S H ρ σ) (i : Nat) (r : RD K S H d v) : RE K S H (ρ.set i (some d)) (σ.set i (some v)) := by
  refine ⟨by simpa using h.1, fun j e x => ?_⟩
  by_cases hj : i = j
  · subst hj
    by_cases hl : i < ρ.length
    · rw [List.getElem?_set_self hl] at x
      cases x
      exact ⟨v, by rw [List.getElem?_set_self (by rw [← h.1]; exact hl)], r⟩
    · rw [List.getElem?_eq_none (by simpa using hl)] at x; cases x
  · rw [List.getElem?_set_ne hj] at x ⊢
    exact h.2 j e x
theorem RE.unset (h : RE K S H ρ σ) (i : Nat) (o : Option V) : RE K S H (ρ.set i none) (σ.set i o) := by
  refine ⟨by simpa using h.1, fun j e x => ?_⟩
  by_cases hj : i = j
  · subst hj
    by_cases hl : i < ρ.length
    · rw [List.getElem?_set_self hl] at x; cases x
    · rw [List.getElem?_eq_none (by simpa using hl)] at x; cases x
  · rw [List.getElem?_set_ne hj] at x ⊢
    exact h.2 j e x
theorem RE.wipe (h : RE K S H ρ σ) : ∀ vs : List Nat, RE K S H (wipeD ρ vs) (wipe σ vs)
  | [] => h
  | v :: vs => by unfold wipeD L2.wipe; exact (RE.wipe h vs).unset v none
theorem RE.start {N : List Str} {ds : List D} {vs : List V} (h : RDs K S H ds vs) : RE K S H (startD N ds) (start N vs) := by
  have hl := h.len
  refine ⟨by simp [startD, L2.start, hl], fun i d x => ?_⟩
  unfold startD at x
  unfold L2.start
  by_cases hi : i < ds.length
  · rw [List.getElem?_append_left (by simpa using hi), List.getElem?_map] at x
    cases e : ds[i]? with
    | none => rw [e] at x; cases x
    | some y =>
      rw [e] at x
      have : y = d := by simpa using x
      subst this
      obtain ⟨v, e1, e2⟩ := h.get e
      refine ⟨v, ?_, e2⟩
      rw [List.getElem?_append_left (by simpa [hl] using hi), List.getElem?_map, e1]; rfl
  · rw [List.getElem?_append_right (by simpa using hi), List.getElem?_replicate] at x
    split at x <;> cases x
end

/-! ### lifts -/
abbrev QD := D → Sto → Prop
abbrev TED := DEnv → Sto → QD → Prop
abbrev TTD := DEnv → Sto → (Bool → Sto → Prop) → Prop
abbrev TAD := DEnv → Sto → (List D → Sto → Prop) → Prop
structure EndsD where
  nx : DEnv → Sto → Prop
  rt : QD
  bk : DEnv → Sto → Prop := fun _ _ => False
  ct : DEnv → Sto → Prop := fun _ _ => False
abbrev TSD := EndsD → DEnv → Sto → Prop
section
variable (K : PySem.W.Frag)
/-- what is wanted behind, in V's words -/
def Aft (S : Sto) (H : Hp) (Qd : QD) (Q : VK) : Prop := ∀ d S' v H', Qd d S' → Go K S H S' H' → RD K S' H' d v → Q v H'
def AftL (S : Sto) (H : Hp) (Qd : List D → Sto → Prop) (Q : List V → Hp → Prop) : Prop := ∀ ds S' vs H', Qd ds S' → Go K S H S' H' → RDs K S' H' ds vs → Q vs H'
def LE (δ : TED) : TE := fun σ H Q => ∃ ρ S Qd, RE K S H ρ σ ∧ RS K S H ∧ δ ρ S Qd ∧ Aft K S H Qd Q
def LT (δ : TTD) : TT := fun σ H Q => ∃ ρ S Qd, RE K S H ρ σ ∧ RS K S H ∧ δ ρ S Qd ∧ ∀ b S' H', Qd b S' → Go K S H S' H' → Q b H'
def LA (δ : TAD) : TA := fun σ H Q => ∃ ρ S Qd, RE K S H ρ σ ∧ RS K S H ∧ δ ρ S Qd ∧ AftL K S H Qd Q
structure EndsOk (S : Sto) (H : Hp) (De : EndsD) (E : Ends) : Prop where
  nx : ∀ ρ' S' σ' H', De.nx ρ' S' → Go K S H S' H' → RE K S' H' ρ' σ' → E.nx σ' H'
  rt : ∀ d S' v H', De.rt d S' → Go K S H S' H' → RD K S' H' d v → E.rt v H'
  bk : ∀ ρ' S' σ' H', De.bk ρ' S' → Go K S H S' H' → RE K S' H' ρ' σ' → E.bk σ' H'
  ct : ∀ ρ' S' σ' H', De.ct ρ' S' → Go K S H S' H' → RE K S' H' ρ' σ' → E.ct σ' H'
def LS (τ : TSD) : TS := fun E σ H => ∃ ρ S De, RE K S H ρ σ ∧ RS K S H ∧ τ De ρ S ∧ EndsOk K S H De E
variable {K}
variable {S S' : Sto} {H H' : Hp}
theorem EndsOk.go {De : EndsD} {E : Ends} (h : EndsOk K S H De E) (g : Go K S H S' H') : EndsOk K S' H' De E :=
  ⟨fun a b c d x y z => h.nx a b c d x (g.trans y) z, fun a b c d x y z => h.rt a b c d x (g.trans y) z, fun a b c d x y z => h.bk a b c d x (g.trans y) z, fun a b c d x y z => h.ct a b c d x (g.trans y) z⟩
theorem Aft.go {Qd : QD} {Q : VK} (h : Aft K S H Qd Q) (g : Go K S H S' H') : Aft K S' H' Qd Q := fun a b c d x y z => h a b c d x (g.trans y) z
theorem AftL.go {Qd : List D → Sto → Prop} {Q : List V → Hp → Prop} (h : AftL K S H Qd Q) (g : Go K S H S' H') : AftL K S' H' Qd Q := fun a b c d x y z => h a b c d x (g.trans y) z
end
abbrev DE (X : Cx) (e : Expr) (δ : TED) : Prop := PE X e (LE X.K δ)
abbrev DT (X : Cx) (e : Expr) (δ : TTD) : Prop := PT X e (LT X.K δ)
abbrev DW (X : Cx) (e : Expr) (δ : TTD) : Prop := PW X e (LT X.K δ)
abbrev DA (X : Cx) (es : List Expr) (δ : TAD) : Prop := PA X es (LA X.K δ)
abbrev DS (X : Cx) (st : Stmt) (τ : TSD) : Prop := PS X st (LS X.K τ)
abbrev DSs (X : Cx) (st : List Stmt) (τ : TSD) : Prop := PSs X st (LS X.K τ)
section
variable {X : Cx}
theorem peW {e : Expr} {t t' : TE} (h : PE X e t) (w : ∀ σ H Q, t' σ H Q → t σ H Q) : PE X e t' := ⟨fun pins s σ H Q I q => h.run pins s σ H Q I (w σ H Q q)⟩
theorem ptW {e : Expr} {t t' : TT} (h : PT X e t) (w : ∀ σ H Q, t' σ H Q → t σ H Q) : PT X e t' := ⟨fun pins s σ H Q I q => h.run pins s σ H Q I (w σ H Q q)⟩
theorem pwW {e : Expr} {t t' : TT} (h : PW X e t) (w : ∀ σ H Q, t' σ H Q → t σ H Q) : PW X e t' := ⟨fun wh pins s σ H Q I q => h.run wh pins s σ H Q I (w σ H Q q)⟩
theorem paW {e : List Expr} {t t' : TA} (h : PA X e t) (w : ∀ σ H Q, t' σ H Q → t σ H Q) : PA X e t' := ⟨fun pos pins s σ H Q I q => h.run pos pins s σ H Q I (w σ H Q q)⟩
theorem psW {e : Stmt} {t t' : TS} (h : PS X e t) (w : ∀ D σ H, t' D σ H → t D σ H) : PS X e t' := ⟨fun pins s σ H D I q => h.run pins s σ H D I (w D σ H q)⟩
theorem pssW {e : List Stmt} {t t' : TS} (h : PSs X e t) (w : ∀ D σ H, t' D σ H → t D σ H) : PSs X e t' := ⟨fun pins s σ H D I q => h.run pins s σ H D I (w D σ H q)⟩
end
end PL
namespace PL
open PySem PySem.Spec PyProof.Rows L2

/-! ### lists: read, made -/
/-- the items of a list: one that nobody changes, one that is tracked -/
def Sto.list (S : Sto) : D → Option (List D)
  | .lst ds => some ds
  | .ref p => match S p with
    | some (.lst ds) => some ds
    | _ => none
  | _ => none
/-- of a list, a tuple -/
def Sto.seq (S : Sto) : D → Option (List D)
  | .tup ds => some ds
  | .fz ds => some ds
  | .lst ds => some ds
  | .ref p => match S p with
    | some (.lst ds) => some ds
    | _ => none
  | _ => none
/-- a new list: tracked (r), or one that nobody will change -/
def newL (r : Bool) (ds : List D) (S : Sto) (Q : QD) : Prop := match r with
  | true => ∀ p, S p = none → Q (.ref p) (S.up p (.lst ds))
  | false => Q (.lst ds) S
section
variable {K : PySem.W.Frag} {S S' : Sto} {H H' : Hp} {d : D} {ds : List D} {v : V} {vs : List V}
theorem list_at (h : S.list d = some ds) (rd : RD K S H d v) (rs : RS K S H) : ∃ a vs, v = .ref a ∧ H a = some (.lst vs) ∧ RDs K S H ds vs := by
  cases d with
  | lst es =>
    have e : es = ds := Option.some.inj h
    subst e
    rw [RD] at rd
    obtain ⟨a, vs, h1, _, h2, h3⟩ := rd
    exact ⟨a, vs, h1, h2, h3⟩
  | ref p =>
    rw [RD] at rd
    have h' : (match S p with
      | some (.lst ds) => some ds
      | _ => none) = some ds := h
    split at h'
    · rename_i es he
      have e : es = ds := Option.some.inj h'
      subst e
      obtain ⟨vs, h1, h2⟩ := rs p _ he
      exact ⟨p, vs, rd, h1, h2⟩
    · cases h'
  | _ => cases h
theorem seq_at (h : S.seq d = some ds) (rd : RD K S H d v) (rs : RS K S H) : ∃ a vs, v = .ref a ∧ (SqL K H a vs ∨ SqT K H a vs) ∧ RDs K S H ds vs := by
  cases d with
  | tup es =>
    have e : es = ds := Option.some.inj h
    subst e
    rw [RD] at rd
    obtain ⟨a, vs, h1, h2, h3⟩ := rd
    exact ⟨a, vs, h1, .inr h2, h3⟩
  | fz es =>
    have e : es = ds := Option.some.inj h
    subst e
    rw [RD] at rd
    obtain ⟨a, vs, h1, h2, h3⟩ := rd
    exact ⟨a, vs, h1, .inl h2.sq, h3⟩
  | lst es =>
    obtain ⟨a, vs, h1, h2, h3⟩ := list_at (d := .lst es) (ds := ds) h rd rs
    exact ⟨a, vs, h1, .inl (.of h2), h3⟩
  | ref p =>
    obtain ⟨a, vs, h1, h2, h3⟩ := list_at (d := .ref p) (ds := ds) h rd rs
    exact ⟨a, vs, h1, .inl (.of h2), h3⟩
  | _ => cases h
theorem Aft.here {Qd : QD} {Q : VK} (k : Aft K S H Qd Q) (rs : RS K S H) (q : Qd d S) (r : RD K S H d v) : Q v H := k _ _ _ _ q (.refl rs) r
theorem newL_ok {r : Bool} {Qd : QD} {Q : VK} (rs : RS K S H) (rd : RDs K S H ds vs) (n : newL r ds S Qd) (k : Aft K S H Qd Q) (p : Addr) (hp : H p = none) : Q (.ref p) (upd H p (.lst vs)) := by
  cases r with
  | true =>
    have g : Go K S H (S.up p (.lst ds)) (upd H p (.lst vs)) := Go.made rs hp fun S' H' tp e => ⟨vs, e, rd.tp tp⟩
    exact k _ _ _ _ (n p (rs.free hp)) g (by rw [RD])
  | false =>
    have g : Go K S H S (upd H p (.lst vs)) := Go.fresh rs hp
    refine k _ _ _ _ n g ?_
    rw [RD]
    exact ⟨p, vs, rfl, rs.free hp, upd_same, rd.tp g.tp⟩
theorem newT_ok {Qd : QD} {Q : VK} (rs : RS K S H) (rd : RDs K S H ds vs) (n : Qd (.tup ds) S) (k : Aft K S H Qd Q) (p : Addr) (hp : H p = none) : Q (.ref p) (upd H p (.tup vs)) := by
  have g : Go K S H S (upd H p (.tup vs)) := Go.fresh rs hp
  refine k _ _ _ _ n g ?_
  rw [RD]
  exact ⟨p, vs, rfl, .of upd_same, rd.tp g.tp⟩
end

/-! ### names, constants -/
section
variable {X : Cx} {e a b c : Expr} {es : List Expr} {pos : Pos} {δ δa δb δc : TED} {θ θ1 θ2 : TTD} {α : TAD}
def dVar (i : Nat) : TED := fun ρ S Q => match ρ[i]? with
  | some (some d) => Q d S
  | _ => False
theorem de_var {i : Nat} (h : PE X e (tVar i)) : DE X e (dVar i) := peW h fun σ H Q ⟨ρ, S, Qd, re, rs, q, k⟩ => by
  unfold dVar at q
  split at q
  · rename_i d hd
    obtain ⟨v, e1, e2⟩ := re.2 i d hd
    exact ⟨v, e1, k.here rs q e2⟩
  · exact q.elim
theorem dv (i : Nat) {x : Str} {pos : Pos} (hN : X.N[i]? = some x := by rfl) (hv : Vis X.env.scope x := by first | exact Or.inl rfl | exact Or.inr (Or.inl rfl) | exact Or.inr (Or.inr rfl)) (hd : (x == ("__debug__" : Str)) = false := by decide)
    (hcd : (x == ("__classdict__" : Str)) = false := by decide) : DE X (.Name x pos) (dVar i) := de_var (pe_var hN hv hd hcd)
def dC (d : D) : TED := fun _ S Q => Q d S
theorem de_c {d : D} {v : V} (h : PE X e (tC v)) (r : ∀ S H, RD X.K S H d v) : DE X e (dC d) := peW h fun σ H Q ⟨ρ, S, Qd, re, rs, q, k⟩ => k.here rs q (r S H)
theorem de_int {i j} : DE X (.Constant (.int i) j pos) (dC (.int i)) := de_c pe_int fun _ _ => by rw [RD]
theorem de_bl {b j} : DE X (.Constant (.bool b) j pos) (dC (.bl b)) := de_c pe_bl fun _ _ => by rw [RD]
theorem de_non {j} : DE X (.Constant .none j pos) (dC .non) := de_c pe_non fun _ _ => by rw [RD]
theorem de_str {x j} : DE X (.Constant (.str x) j pos) (dC (.str x)) := de_c pe_str fun _ _ => by rw [RD]
theorem de_gint {x : Str} {i : Int} (hm : ∃ t, X.mg x = some (.int i t)) (hg : Gl X x := by rfl) (hd : (x == ("__debug__" : Str)) = false := by decide) : DE X (.Name x pos) (dC (.int i)) := by
  obtain ⟨t, hm⟩ := hm
  exact de_c (pe_glob (v := .int i) hg hm ⟨t, rfl⟩ hd) fun _ _ => by rw [RD]
theorem de_gstr {x y : Str} (hm : ∃ t, X.mg x = some (.str y t)) (hg : Gl X x := by rfl) (hd : (x == ("__debug__" : Str)) = false := by decide) : DE X (.Name x pos) (dC (.str y)) := by
  obtain ⟨t, hm⟩ := hm
  exact de_c (pe_glob (v := .str y) hg hm ⟨t, rfl⟩ hd) fun _ _ => by rw [RD]

/-! ### operations by values -/
abbrev R2D := D → D → Sto → QD → Prop
def Lf2 (K : PySem.W.Frag) (o : R2D) : R2 := fun x y H Q => ∃ d e S Qd, RD K S H d x ∧ RD K S H e y ∧ RS K S H ∧ o d e S Qd ∧ Aft K S H Qd Q
abbrev OpD (X : Cx) (f : Value → Value → Sem Value) (o : R2D) : Prop := OpR X f (Lf2 X.K o)
theorem opW {f : Value → Value → Sem Value} {r r' : R2} (h : OpR X f r) (w : ∀ x y H Q, r' x y H Q → r x y H Q) : OpR X f r' := fun pins s σ H x y v u Q I rx ry q => h pins s σ H x y v u Q I rx ry (w _ _ _ _ q)
theorem opD_of {f : Value → Value → Sem Value} {r : R2} {o : R2D} (h : OpR X f r) (w : ∀ d e x y S H Qd Q, RD X.K S H d x → RD X.K S H e y → RS X.K S H → o d e S Qd → Aft X.K S H Qd Q → r x y H Q) : OpD X f o :=
  opW h fun x y H Q ⟨d, e, S, Qd, r1, r2, rs, q, k⟩ => w d e x y S H Qd Q r1 r2 rs q k
theorem opD_or {f : Value → Value → Sem Value} {o o' : R2D} (h : OpD X f o) (h' : OpD X f o') : OpD X f (fun d e S Q => o d e S Q ∨ o' d e S Q) :=
  opD_of (h.or h') fun d e x y S H Qd Q r1 r2 rs q k => q.imp (fun q => ⟨d, e, S, Qd, r1, r2, rs, q, k⟩) (fun q => ⟨d, e, S, Qd, r1, r2, rs, q, k⟩)
theorem opD_W {f : Value → Value → Sem Value} {o o' : R2D} (h : OpD X f o) (w : ∀ d e S Q, o' d e S Q → o d e S Q) : OpD X f o' :=
  opD_of h fun d e x y S H Qd Q r1 r2 rs q k => ⟨d, e, S, Qd, r1, r2, rs, w _ _ _ _ q, k⟩
def dOp (o : R2D) (δa δb : TED) : TED := fun ρ S Q => δa ρ S fun x S1 => δb ρ S1 fun y S2 => o x y S2 Q
theorem lift2 {o : R2D} {K : PySem.W.Frag} (σ : L2.St) (H : Hp) (Q : VK) (h : LE K (dOp o δa δb) σ H Q) : tOp (Lf2 K o) (LE K δa) (LE K δb) σ H Q := by
  obtain ⟨ρ, S, Qd, re, rs, q, k⟩ := h
  refine ⟨ρ, S, _, re, rs, q, fun x S1 v H1 q1 g1 r1 => ?_⟩
  refine ⟨ρ, S1, _, re.tp g1.tp, g1.rs, q1, fun y S2 w H2 q2 g2 r2 => ?_⟩
  exact ⟨x, y, S2, Qd, r1.tp g2.tp, r2, g2.rs, q2, k.go (g1.trans g2)⟩
theorem de_op {op : Operator} {o : R2D} (ho : OpD X (binaryOp op) o) (ha : DE X a δa) (hb : DE X b δb) : DE X (.BinOp a op b pos) (dOp o δa δb) := peW (pe_op ho ha hb) lift2
theorem de_cmp {op : CmpOp} {o : R2D} (ho : OpD X (compareOp op) o) (ha : DE X a δa) (hb : DE X b δb) (hm : behindInMarks op b = false) : DE X (.Compare a [op] [b] pos) (dOp o δa δb) := peW (pe_cmpR ho ha hb hm) lift2
/-- a bool, as a test -/
def dTest (δ : TED) : TTD := fun ρ S Q => δ ρ S fun x S1 => match x with
  | .bl b => Q b S1
  | _ => False
theorem liftT {K : PySem.W.Frag} (σ : L2.St) (H : Hp) (Q : Bool → Hp → Prop) (h : LT K (dTest δ) σ H Q) : LE K δ σ H (fun x H1 => ∃ k, x = .bl k ∧ Q k H1) := by
  obtain ⟨ρ, S, Qd, re, rs, q, k⟩ := h
  refine ⟨ρ, S, _, re, rs, q, fun x S1 v H1 q1 g1 r1 => ?_⟩
  try dsimp only at q1
  split at q1
  · rename_i b
    rw [RD] at r1
    exact ⟨b, r1, k _ _ _ q1 g1⟩
  · exact q1.elim
theorem dt_cmp {op : CmpOp} {o : R2D} (ho : OpD X (compareOp op) o) (ha : DE X a δa) (hb : DE X b δb) (hm : behindInMarks op b = false) : DT X (.Compare a [op] [b] pos) (dTest (dOp o δa δb)) :=
  ptW (pt_cmpR ho ha hb hm) fun σ H Q h => by
    have h2 := liftT σ H Q h
    exact lift2 σ H _ h2
theorem dt_val (h : DE X e δ) (he : ∀ whole, isTrue e X.env whole = (do let v ← whole; standAt e.pos; holding [v] (truthy v)) := by intro _; rfl) : DT X e (dTest δ) := ptW (pt_val h he) liftT
/-- a < b < c -/
def dChain (o o' : R2D) (δa δb δc : TED) : TED := fun ρ S Q => δa ρ S fun x S1 => δb ρ S1 fun y S2 => o x y S2 fun z S3 => match z with
  | .bl true => δc ρ S3 fun w S4 => o' y w S4 Q
  | .bl false => Q (.bl false) S3
  | _ => False
theorem liftC {o o' : R2D} {K : PySem.W.Frag} (σ : L2.St) (H : Hp) (Q : VK) (h : LE K (dChain o o' δa δb δc) σ H Q) : tChain (Lf2 K o) (Lf2 K o') (LE K δa) (LE K δb) (LE K δc) σ H Q := by
  obtain ⟨ρ, S, Qd, re, rs, q, k⟩ := h
  refine ⟨ρ, S, _, re, rs, q, fun x S1 v H1 q1 g1 r1 => ?_⟩
  refine ⟨ρ, S1, _, re.tp g1.tp, g1.rs, q1, fun y S2 w H2 q2 g2 r2 => ?_⟩
  refine ⟨x, y, S2, _, r1.tp g2.tp, r2, g2.rs, q2, fun z S3 u H3 q3 g3 r3 => ?_⟩
  try dsimp only at q3
  split at q3
  · rw [RD] at r3
    refine ⟨true, r3, ?_⟩
    rw [if_pos rfl]
    refine ⟨ρ, S3, _, (re.tp g1.tp).tp (g2.trans g3).tp, g3.rs, q3, fun w S4 u' H4 q4 g4 r4 => ?_⟩
    exact ⟨y, w, S4, Qd, (r2.tp g3.tp).tp g4.tp, r4, g4.rs, q4, k.go (((g1.trans g2).trans g3).trans g4)⟩
  · rw [RD] at r3
    refine ⟨false, r3, ?_⟩
    rw [if_neg Bool.false_ne_true]
    exact (k.go ((g1.trans g2).trans g3)).here g3.rs q3 (by rw [RD])
  · exact q3.elim
theorem de_chain {op op' : CmpOp} {o o' : R2D} (ho : OpD X (compareOp op) o) (ho' : OpD X (compareOp op') o') (ha : DE X a δa) (hb : DE X b δb) (hc : DE X c δc) (hm : lastMarks [op, op'] [b, c] = false := by with_unfolding_all rfl) : DE X (.Compare a [op, op'] [b, c] pos) (dChain o o' δa δb δc) := peW (pe_chain ho ho' ha hb hc hm) liftC
theorem dt_chain {op op' : CmpOp} {o o' : R2D} (ho : OpD X (compareOp op) o) (ho' : OpD X (compareOp op') o') (ha : DE X a δa) (hb : DE X b δb) (hc : DE X c δc) (hm : lastMarks [op, op'] [b, c] = false := by with_unfolding_all rfl) : DT X (.Compare a [op, op'] [b, c] pos) (dTest (dChain o o' δa δb δc)) :=
  ptW (pt_chain ho ho' ha hb hc hm) fun σ H Q h => by
    have h2 := liftT σ H Q h
    exact liftC σ H _ h2

/-! ### and, or, not, if -/
def dAnd (t u : TTD) : TTD := fun ρ S Q => t ρ S fun b S1 => match b with
  | true => u ρ S1 Q
  | false => Q false S1
def dOr (t u : TTD) : TTD := fun ρ S Q => t ρ S fun b S1 => match b with
  | true => Q true S1
  | false => u ρ S1 Q
def dNot (t : TTD) : TTD := fun ρ S Q => t ρ S fun b S1 => Q (!b) S1
variable {rest : List Expr}
theorem dw_and1 (ha : DT X a θ) : DW X (.BoolOp .And [a] pos) θ := pw_and1 ha
theorem dw_or1 (ha : DT X a θ) : DW X (.BoolOp .Or [a] pos) θ := pw_or1 ha
theorem dw_and (ha : DT X a θ1) (hb : DW X (.BoolOp .And (b :: rest) pos) θ2) : DW X (.BoolOp .And (a :: b :: rest) pos) (dAnd θ1 θ2) := pwW (pw_and ha hb) fun σ H Q h => by
  obtain ⟨ρ, S, Qd, re, rs, q, k⟩ := h
  refine ⟨ρ, S, _, re, rs, q, fun b S1 H1 q1 g1 => ?_⟩
  cases b with
  | true => exact ⟨ρ, S1, Qd, re.tp g1.tp, g1.rs, q1, fun b' S2 H2 q2 g2 => k _ _ _ q2 (g1.trans g2)⟩
  | false => exact k _ _ _ q1 g1
theorem dw_or (ha : DT X a θ1) (hb : DW X (.BoolOp .Or (b :: rest) pos) θ2) : DW X (.BoolOp .Or (a :: b :: rest) pos) (dOr θ1 θ2) := pwW (pw_or ha hb) fun σ H Q h => by
  obtain ⟨ρ, S, Qd, re, rs, q, k⟩ := h
  refine ⟨ρ, S, _, re, rs, q, fun b S1 H1 q1 g1 => ?_⟩
  cases b with
  | true => exact k _ _ _ q1 g1
  | false => exact ⟨ρ, S1, Qd, re.tp g1.tp, g1.rs, q1, fun b' S2 H2 q2 g2 => k _ _ _ q2 (g1.trans g2)⟩
theorem dt_w (h : DW X e θ) : DT X e θ := PW.pt h
theorem dt_not (ha : DT X a θ) : DT X (.UnaryOp .Not a pos) (dNot θ) := ptW (pt_not ha) fun σ H Q h => by
  obtain ⟨ρ, S, Qd, re, rs, q, k⟩ := h
  exact ⟨ρ, S, _, re, rs, q, fun b S1 H1 q1 g1 => k _ _ _ q1 g1⟩
/-- as values, all but the last one bools -/
def dAndV (δa δb : TED) : TED := fun ρ S Q => δa ρ S fun x S1 => match x with
  | .bl true => δb ρ S1 Q
  | .bl false => Q (.bl false) S1
  | _ => False
def dOrV (δa δb : TED) : TED := fun ρ S Q => δa ρ S fun x S1 => match x with
  | .bl true => Q (.bl true) S1
  | .bl false => δb ρ S1 Q
  | _ => False
def dNotV (δa : TED) : TED := fun ρ S Q => δa ρ S fun x S1 => match x with
  | .bl b => Q (.bl (!b)) S1
  | _ => False
theorem de_one {op} (h : DE X a δ) : DE X (.BoolOp op [a] pos) δ := pe_one h
theorem de_and (ha : DE X a δa) (hb : DE X (.BoolOp .And (b :: rest) pos) δb) : DE X (.BoolOp .And (a :: b :: rest) pos) (dAndV δa δb) := peW (pe_and ha hb) fun σ H Q h => by
  obtain ⟨ρ, S, Qd, re, rs, q, k⟩ := h
  refine ⟨ρ, S, _, re, rs, q, fun x S1 v H1 q1 g1 r1 => ?_⟩
  try dsimp only at q1
  split at q1
  · rw [RD] at r1
    refine ⟨true, r1, ?_⟩
    rw [if_pos rfl]
    exact ⟨ρ, S1, Qd, re.tp g1.tp, g1.rs, q1, k.go g1⟩
  · rw [RD] at r1
    refine ⟨false, r1, ?_⟩
    rw [if_neg Bool.false_ne_true]
    exact (k.go g1).here g1.rs q1 (by rw [RD])
  · exact q1.elim
theorem de_or (ha : DE X a δa) (hb : DE X (.BoolOp .Or (b :: rest) pos) δb) : DE X (.BoolOp .Or (a :: b :: rest) pos) (dOrV δa δb) := peW (pe_or ha hb) fun σ H Q h => by
  obtain ⟨ρ, S, Qd, re, rs, q, k⟩ := h
  refine ⟨ρ, S, _, re, rs, q, fun x S1 v H1 q1 g1 r1 => ?_⟩
  try dsimp only at q1
  split at q1
  · rw [RD] at r1
    refine ⟨true, r1, ?_⟩
    rw [if_pos rfl]
    exact (k.go g1).here g1.rs q1 (by rw [RD])
  · rw [RD] at r1
    refine ⟨false, r1, ?_⟩
    rw [if_neg Bool.false_ne_true]
    exact ⟨ρ, S1, Qd, re.tp g1.tp, g1.rs, q1, k.go g1⟩
  · exact q1.elim
theorem de_not (ha : DE X a δa) : DE X (.UnaryOp .Not a pos) (dNotV δa) := peW (pe_not ha) fun σ H Q h => by
  obtain ⟨ρ, S, Qd, re, rs, q, k⟩ := h
  refine ⟨ρ, S, _, re, rs, q, fun x S1 v H1 q1 g1 r1 => ?_⟩
  try dsimp only at q1
  split at q1
  · rw [RD] at r1
    exact ⟨_, r1, (k.go g1).here g1.rs q1 (by rw [RD])⟩
  · exact q1.elim
def dIf (t : TTD) (δa δb : TED) : TED := fun ρ S Q => t ρ S fun b S1 => match b with
  | true => δa ρ S1 Q
  | false => δb ρ S1 Q
theorem de_if (hc : DT X c θ) (ha : DE X a δa) (hb : DE X b δb) : DE X (.IfExp c a b pos) (dIf θ δa δb) := peW (pe_ifExp hc ha hb) fun σ H Q h => by
  obtain ⟨ρ, S, Qd, re, rs, q, k⟩ := h
  refine ⟨ρ, S, _, re, rs, q, fun b S1 H1 q1 g1 => ?_⟩
  cases b with
  | true => exact ⟨ρ, S1, Qd, re.tp g1.tp, g1.rs, q1, k.go g1⟩
  | false => exact ⟨ρ, S1, Qd, re.tp g1.tp, g1.rs, q1, k.go g1⟩

/-! ### arguments, displays -/
def dNil : TAD := fun _ S Q => Q [] S
def dCons (δ : TED) (α : TAD) : TAD := fun ρ S Q => δ ρ S fun x S1 => α ρ S1 fun xs S2 => Q (x :: xs) S2
theorem da_nil : DA X [] dNil := paW pa_nil fun σ H Q ⟨ρ, S, Qd, re, rs, q, k⟩ => k _ _ _ _ q (.refl rs) (RDs.nil.mpr rfl)
theorem da_cons (ha : DE X e δ) (hr : DA X es α) (hs : starEach (e :: es) X.env = (false, eval e X.env) :: starEach es X.env := by rfl) : DA X (e :: es) (dCons δ α) := paW (pa_cons ha hr hs) fun σ H Q h => by
  obtain ⟨ρ, S, Qd, re, rs, q, k⟩ := h
  refine ⟨ρ, S, _, re, rs, q, fun x S1 v H1 q1 g1 r1 => ?_⟩
  refine ⟨ρ, S1, _, re.tp g1.tp, g1.rs, q1, fun xs S2 vs H2 q2 g2 r2 => ?_⟩
  exact k _ _ _ _ q2 (g1.trans g2) (RDs.cons (r1.tp g2.tp) r2)
/-- *e among arguments, in a display -/
def dStar (δ : TED) (α : TAD) : TAD := fun ρ S Q => δ ρ S fun x S1 => ∃ ds, S1.seq x = some ds ∧ (α ρ S1 fun xs S2 => Q (ds ++ xs) S2)
def dTup (α : TAD) : TED := fun ρ S Q => α ρ S fun xs S1 => xs.length ≤ sizeLine ∧ Q (.tup xs) S1
def dLst (r : Bool) (α : TAD) : TED := fun ρ S Q => α ρ S fun xs S1 => xs.length ≤ sizeLine ∧ newL r xs S1 Q
theorem de_tup {x1} (h : DA X es α) : DE X (.Tuple es x1 pos) (dTup α) := peW (pe_tup h) fun σ H Q hh => by
  obtain ⟨ρ, S, Qd, re, rs, q, k⟩ := hh
  refine ⟨ρ, S, _, re, rs, q, fun xs S1 vs H1 q1 g1 r1 => ?_⟩
  obtain ⟨q1, q2⟩ := q1
  exact ⟨by rw [r1.len]; exact q1, fun p hp => newT_ok g1.rs r1 q2 (k.go g1) p hp⟩
theorem de_lst {r : Bool} (h : DA X es α) : DE X (.List es pos) (dLst r α) := peW (pe_lst h) fun σ H Q hh => by
  obtain ⟨ρ, S, Qd, re, rs, q, k⟩ := hh
  refine ⟨ρ, S, _, re, rs, q, fun xs S1 vs H1 q1 g1 r1 => ?_⟩
  obtain ⟨q1, q2⟩ := q1
  exact ⟨by rw [r1.len]; exact q1, fun p hp => newL_ok g1.rs r1 q2 (k.go g1) p hp⟩

/-! ### calls by values -/
abbrev RLD := List D → Sto → QD → Prop
def LfL (K : PySem.W.Frag) (o : RLD) : List V → Hp → VK → Prop := fun vs H Q => ∃ ds S Qd, RDs K S H ds vs ∧ RS K S H ∧ o ds S Qd ∧ Aft K S H Qd Q
abbrev CallD (X : Cx) (f : Value) (o : RLD) : Prop := CallR X f (LfL X.K o)
theorem callW {f : Value} {r r' : List V → Hp → VK → Prop} (h : CallR X f r) (w : ∀ vs H Q, r' vs H Q → r vs H Q) : CallR X f r' := fun pins s σ H vs us Q I rv q => h pins s σ H vs us Q I rv (w _ _ _ q)
theorem callD_of {f : Value} {r : List V → Hp → VK → Prop} {o : RLD} (h : CallR X f r) (w : ∀ ds vs S H Qd Q, RDs X.K S H ds vs → RS X.K S H → o ds S Qd → Aft X.K S H Qd Q → r vs H Q) : CallD X f o :=
  callW h fun vs H Q ⟨ds, S, Qd, r1, rs, q, k⟩ => w ds vs S H Qd Q r1 rs q k
theorem callD_or {f : Value} {o o' : RLD} (h : CallD X f o) (h' : CallD X f o') : CallD X f (fun ds S Q => o ds S Q ∨ o' ds S Q) :=
  callD_of (h.or h') fun ds vs S H Qd Q r1 rs q k => q.imp (fun q => ⟨ds, S, Qd, r1, rs, q, k⟩) (fun q => ⟨ds, S, Qd, r1, rs, q, k⟩)
theorem callD_W {f : Value} {o o' : RLD} (h : CallD X f o) (w : ∀ ds S Q, o' ds S Q → o ds S Q) : CallD X f o' :=
  callD_of h fun ds vs S H Qd Q r1 rs q k => ⟨ds, S, Qd, r1, rs, w _ _ _ q, k⟩
def dCB (o : RLD) (α : TAD) : TED := fun ρ S Q => α ρ S fun ds S1 => o ds S1 Q
theorem liftL {o : RLD} {K : PySem.W.Frag} (σ : L2.St) (H : Hp) (Q : VK) (h : LE K (dCB o α) σ H Q) : tCB (LfL K o) (LA K α) σ H Q := by
  obtain ⟨ρ, S, Qd, re, rs, q, k⟩ := h
  refine ⟨ρ, S, _, re, rs, q, fun xs S1 vs H1 q1 g1 r1 => ?_⟩
  exact ⟨xs, S1, Qd, r1, g1.rs, q1, k.go g1⟩
variable {x : Str} {p : Pos} {id T : String} {o : RLD}
theorem de_callB (hc : CallD X (.builtin id) o) (hm : X.mg x = none) (hv : bootBuiltins x = some (.builtin id)) (ha : DA X (e :: es) α) (hg : Gl X x := by rfl) (hn : x ≠ "__name__" := by decide) (hdb : (x == ("__debug__" : Str)) = false := by decide)
    (he : starEach (e :: es) X.env = (false, eval e X.env) :: starEach es X.env := by rfl) (hpl : (backTo pos (starEach es X.env)).any (·.1) = false := by rfl) : DE X (.Call (.Name x p) (e :: es) [] pos) (dCB o α) := peW (pe_callB hc hg hm hv ha hn hdb he hpl) liftL
theorem de_callTy (hc : CallD X (.type T) o) (hm : X.mg x = none) (hv : bootBuiltins x = some (.type T)) (ha : DA X (e :: es) α) (hg : Gl X x := by rfl) (hn : x ≠ "__name__" := by decide) (hdb : (x == ("__debug__" : Str)) = false := by decide)
    (he : starEach (e :: es) X.env = (false, eval e X.env) :: starEach es X.env := by rfl) (hpl : (backTo pos (starEach es X.env)).any (·.1) = false := by rfl) : DE X (.Call (.Name x p) (e :: es) [] pos) (dCB o α) := peW (pe_callTy hc hg hm hv ha hn hdb he hpl) liftL

/-! ### calls of the text's own defs -/
/-- a promise: arguments, store, what follows -/
abbrev DSp := List D → Sto → QD → Prop
def LSp (K : PySem.W.Frag) (sp : DSp) : Sp := fun vs H Q _ => ∃ ds S Qd, RDs K S H ds vs ∧ RS K S H ∧ sp ds S Qd ∧ Aft K S H Qd Q
def dCall (sp : DSp) (α : TAD) : TED := fun ρ S Q => α ρ S fun ds S1 => sp ds S1 Q
theorem liftCall {sp : DSp} {K : PySem.W.Frag} {E : XK} (σ : L2.St) (H : Hp) (Q : VK) (h : LE K (dCall sp α) σ H Q) : tCall (LSp K sp) [] E (LA K α) σ H Q := by
  obtain ⟨ρ, S, Qd, re, rs, q, k⟩ := h
  refine ⟨ρ, S, _, re, rs, q, fun xs S1 vs H1 q1 g1 r1 => ?_⟩
  show LSp K sp (vs ++ []) H1 Q E
  rw [List.append_nil]
  exact ⟨xs, S1, Qd, r1, g1.rs, q1, k.go g1⟩
variable {k : Nat} {f : Addr} {fd : FuncData} {ps : List Str} {sp : DSp} {CX : CXT} {E : XK}
theorem de_call (F : FnOk X.prog X.w X.K X.mg X.base CX k f fd ps (LSp X.K sp)) (hr : Room k X.A) (hm : X.mg x = some (.ref f)) (hk : PySem.W.keepIn X.K (.ref f) = true) (hb : Binds X.K fd ps []) (hx : Passes CX X E) (ha : DA X (e :: es) α)
    (hg : Gl X x := by rfl) (hdb : (x == ("__debug__" : Str)) = false := by decide) (he : starEach (e :: es) X.env = (false, eval e X.env) :: starEach es X.env := by rfl) (hpl : (backTo pos (starEach es X.env)).any (·.1) = false := by rfl) :
    DE X (.Call (.Name x p) (e :: es) [] pos) (dCall sp α) := peW (pe_call F hr hg hm hk hb .nil hx ha hdb he hpl) liftCall

/-! ### subscripts, slices, methods by values -/
abbrev IxD (X : Cx) (o : R2D) : Prop := IxR X (Lf2 X.K o)
theorem ixD_of {r : R2} {o : R2D} (h : IxR X r) (w : ∀ d e x y S H Qd Q, RD X.K S H d x → RD X.K S H e y → RS X.K S H → o d e S Qd → Aft X.K S H Qd Q → r x y H Q) : IxD X o :=
  fun va sl pins s σ H x y v u Q I rx ry ⟨d, e, S, Qd, r1, r2, rs, q, k⟩ => h va sl pins s σ H x y v u Q I rx ry (w d e x y S H Qd Q r1 r2 rs q k)
theorem ixD_or {o o' : R2D} (h : IxD X o) (h' : IxD X o') : IxD X (fun d e S Q => o d e S Q ∨ o' d e S Q) :=
  ixD_of (h.or h') fun d e x y S H Qd Q r1 r2 rs q k => q.imp (fun q => ⟨d, e, S, Qd, r1, r2, rs, q, k⟩) (fun q => ⟨d, e, S, Qd, r1, r2, rs, q, k⟩)
theorem ixD_W {o o' : R2D} (h : IxD X o) (w : ∀ d e S Q, o' d e S Q → o d e S Q) : IxD X o' :=
  ixD_of h fun d e x y S H Qd Q r1 r2 rs q k => ⟨d, e, S, Qd, r1, r2, rs, w _ _ _ _ q, k⟩
theorem de_ix {o : R2D} (hr : IxD X o) (ha : DE X a δa) (hb : DE X b δb) (hs : PlainIx b := by exact fun _ _ => rfl) : DE X (.Subscript a b pos) (dOp o δa δb) := peW (pe_ix hr ha hb hs) lift2
abbrev TOD := DEnv → Sto → (Option Int → Sto → Prop) → Prop
def LO (K : PySem.W.Frag) (δ : TOD) : TO := fun σ H Q => ∃ ρ S Qd, RE K S H ρ σ ∧ RS K S H ∧ δ ρ S Qd ∧ ∀ b S' H', Qd b S' → Go K S H S' H' → Q b H'
abbrev DO (X : Cx) (e : Option Expr) (δ : TOD) : Prop := PO X e (LO X.K δ)
def dNoPart : TOD := fun _ S Q => Q none S
def dPart (δ : TED) : TOD := fun ρ S Q => δ ρ S fun x S1 => match x with
  | .int i => Q (some i) S1
  | _ => False
theorem poW {e : Option Expr} {t t' : TO} (h : PO X e t) (w : ∀ σ H Q, t' σ H Q → t σ H Q) : PO X e t' := ⟨fun pins s σ H Q I q => h.run pins s σ H Q I (w σ H Q q)⟩
theorem do_none : DO X none dNoPart := poW po_none fun σ H Q ⟨ρ, S, Qd, re, rs, q, k⟩ => k _ _ _ q (.refl rs)
theorem do_some (h : DE X e δ) : DO X (some e) (dPart δ) := poW (po_some h) fun σ H Q hh => by
  obtain ⟨ρ, S, Qd, re, rs, q, k⟩ := hh
  refine ⟨ρ, S, _, re, rs, q, fun x S1 v H1 q1 g1 r1 => ?_⟩
  try dsimp only at q1
  split at q1
  · rw [RD] at r1
    exact ⟨_, r1, k _ _ _ q1 g1⟩
  · exact q1.elim
abbrev RSlD := D → Option Int → Option Int → Sto → QD → Prop
def LfSl (K : PySem.W.Frag) (o : RSlD) : V → Option Int → Option Int → Hp → VK → Prop := fun x lo hi H Q => ∃ d S Qd, RD K S H d x ∧ RS K S H ∧ o d lo hi S Qd ∧ Aft K S H Qd Q
abbrev SlD (X : Cx) (o : RSlD) : Prop := SlR X (LfSl X.K o)
theorem slD_of {r : V → Option Int → Option Int → Hp → VK → Prop} {o : RSlD} (h : SlR X r) (w : ∀ d x lo hi S H Qd Q, RD X.K S H d x → RS X.K S H → o d lo hi S Qd → Aft X.K S H Qd Q → r x lo hi H Q) : SlD X o :=
  fun pins s σ H x v vl vu lo hi sl Q I rx hs pl pu ⟨d, S, Qd, r1, rs, q, k⟩ => h pins s σ H x v vl vu lo hi sl Q I rx hs pl pu (w d x lo hi S H Qd Q r1 rs q k)
theorem slD_or {o o' : RSlD} (h : SlD X o) (h' : SlD X o') : SlD X (fun d lo hi S Q => o d lo hi S Q ∨ o' d lo hi S Q) :=
  slD_of (h.or h') fun d x lo hi S H Qd Q r1 rs q k => q.imp (fun q => ⟨d, S, Qd, r1, rs, q, k⟩) (fun q => ⟨d, S, Qd, r1, rs, q, k⟩)
theorem slD_W {o o' : RSlD} (h : SlD X o) (w : ∀ d lo hi S Q, o' d lo hi S Q → o d lo hi S Q) : SlD X o' :=
  slD_of h fun d x lo hi S H Qd Q r1 rs q k => ⟨d, S, Qd, r1, rs, w _ _ _ _ _ q, k⟩
def dSl (o : RSlD) (δ : TED) (l h : TOD) : TED := fun ρ S Q => δ ρ S fun x S1 => l ρ S1 fun lo S2 => h ρ S2 fun hi S3 => o x lo hi S3 Q
variable {ol oh : TOD} {lo hi : Option Expr} {p2 : Pos}
theorem de_slice {o : RSlD} (hr : SlD X o) (he : DE X e δ) (hl : DO X lo ol) (hu : DO X hi oh) : DE X (.Subscript e (.Slice lo hi none p2) pos) (dSl o δ ol oh) := peW (pe_slice hr he hl hu) fun σ H Q hh => by
  obtain ⟨ρ, S, Qd, re, rs, q, k⟩ := hh
  refine ⟨ρ, S, _, re, rs, q, fun x S1 v H1 q1 g1 r1 => ?_⟩
  refine ⟨ρ, S1, _, re.tp g1.tp, g1.rs, q1, fun l S2 H2 q2 g2 => ?_⟩
  refine ⟨ρ, S2, _, re.tp (g1.trans g2).tp, g2.rs, q2, fun h S3 H3 q3 g3 => ?_⟩
  exact ⟨x, S3, Qd, r1.tp (g2.trans g3).tp, g3.rs, q3, k.go ((g1.trans g2).trans g3)⟩

/-! ### methods of lists -/
abbrev RMD := D → List D → Sto → QD → Prop
def LfM (K : PySem.W.Frag) (o : RMD) : V → List V → Hp → VK → Prop := fun x xs H Q => ∃ d ds S Qd, RD K S H d x ∧ RDs K S H ds xs ∧ RS K S H ∧ o d ds S Qd ∧ Aft K S H Qd Q
abbrev MtD (X : Cx) (id : String) (o : RMD) : Prop := MtR X id (LfM X.K o)
theorem mtD_of {id : String} {r : V → List V → Hp → VK → Prop} {o : RMD} (h : MtR X id r) (w : ∀ d ds x xs S H Qd Q, RD X.K S H d x → RDs X.K S H ds xs → RS X.K S H → o d ds S Qd → Aft X.K S H Qd Q → r x xs H Q) : MtD X id o :=
  fun pins s σ H x xs v us Q I rx rxs ⟨d, ds, S, Qd, r1, r2, rs, q, k⟩ => h pins s σ H x xs v us Q I rx rxs (w d ds x xs S H Qd Q r1 r2 rs q k)
def dBM (o : RMD) (δ : TED) (α : TAD) : TED := fun ρ S Q => δ ρ S fun x S1 => (∃ ds, S1.list x = some ds) ∧ α ρ S1 fun xs S2 => o x xs S2 Q
variable {name : Str} {apos cpos : Pos} {ob : Expr}
theorem de_bm {o : RMD} (pa : PlainAttrs "list") (slot : Slot "list" name id) (hty : typeOf (.builtin id) = pure (.type "method_descriptor")) (hm : MtD X id o) (ho : DE X ob δ) (ha : DA X (e :: es) α)
    (hbase : attributeBase ob name X.env (eval ob X.env) = eval ob X.env := by rfl)
    (hfew : ((backTo cpos (starEach (e :: es) X.env)).all (fun x => !x.1) && (backToKw cpos (keywordEach [] X.env)).all (fun x => x.1.isSome)
      && decide ((e :: es).length + ([] : List Keyword).length + (if ([] : List Keyword).isEmpty then 0 else 1) < 30)) = true := by rfl)
    (hline : (apos.endLine == cpos.line) = true := by rfl) (hs : starEach (e :: es) X.env = (false, eval e X.env) :: starEach es X.env := by rfl) (hplain : (backTo cpos (starEach es X.env)).any (·.1) = false := by rfl) :
    DE X (.Call (.Attribute ob name apos) (e :: es) [] cpos) (dBM o δ α) := peW (pe_bm pa slot hty hm ho ha hbase hfew hline hs hplain) fun σ H Q hh => by
  obtain ⟨ρ, S, Qd, re, rs, q, k⟩ := hh
  refine ⟨ρ, S, _, re, rs, q, fun x S1 v H1 q1 g1 r1 => ?_⟩
  obtain ⟨⟨ds, hds⟩, q1⟩ := q1
  obtain ⟨a, vs, e1, e2, e3⟩ := list_at hds r1 g1.rs
  refine ⟨by rw [e1]; exact .inl ⟨rfl, vs, .of e2⟩, ρ, S1, _, re.tp g1.tp, g1.rs, q1, fun xs S2 ws H2 q2 g2 r2 => ?_⟩
  exact ⟨x, xs, S2, Qd, r1.tp g2.tp, r2, g2.rs, q2, k.go (g1.trans g2)⟩
theorem de_bm0 {o : RMD} (pa : PlainAttrs "list") (slot : Slot "list" name id) (hty : typeOf (.builtin id) = pure (.type "method_descriptor")) (hm : MtD X id o) (ho : DE X ob δ)
    (hbase : attributeBase ob name X.env (eval ob X.env) = eval ob X.env := by rfl) (hline : (apos.endLine == cpos.line) = true := by rfl) : DE X (.Call (.Attribute ob name apos) [] [] cpos) (dBM o δ dNil) := peW (pe_bm0 pa slot hty hm ho hbase hline) fun σ H Q hh => by
  obtain ⟨ρ, S, Qd, re, rs, q, k⟩ := hh
  refine ⟨ρ, S, _, re, rs, q, fun x S1 v H1 q1 g1 r1 => ?_⟩
  obtain ⟨⟨ds, hds⟩, q1⟩ := q1
  obtain ⟨a, vs, e1, e2, e3⟩ := list_at hds r1 g1.rs
  exact ⟨by rw [e1]; exact .inl ⟨rfl, vs, .of e2⟩, x, [], S1, Qd, r1, RDs.nil.mpr rfl, g1.rs, q1, k.go g1⟩
end
end PL
/-! zip of two, of three, enumerate: over lists and tuples in any mix -/
namespace PL
open PySem PySem.Spec PyProof.Rows L2

/-- a list (true) or a tuple (false) -/
def Sq (b : Bool) (K : PySem.W.Frag) (H : Hp) (a : Addr) (xs : List V) : Prop := match b with
  | true => SqL K H a xs
  | false => SqT K H a xs
def SqIs (b : Bool) (h : Heap) (a : Addr) (its : Array Value) : Prop := match b with
  | true => h.IsList a its
  | false => h.IsTuple a its
def SqIt (b : Bool) (h : Heap) (it a : Addr) (i : Nat) : Prop := match b with
  | true => h.IsListIter it a i
  | false => h.IsTupleIter it a i
def sqO (b : Bool) (a : Addr) : Obj := match b with
  | true => { cls := .type "list_iterator", data := .fields #[.ref a, .int 0 0] }
  | false => { cls := .type "tuple_iterator", data := .fields #[.ref a, .int 0 0] }
theorem sq_begins (b : Bool) (a : Addr) (its : Array Value) : Begins (.ref a) (sqO b a) (fun h => SqIs b h a its) := by
  cases b with
  | true => exact begins_list a its
  | false => exact begins_tuple a its
theorem sq_draws {prog : Program} {w : World} {A : Around} (b : Bool) (hh : A.handled = none) (it a : Addr) (hne : a ≠ it) (its : Array Value) :
    Draws prog w A it [it, a] its.size (fun i v => its[i]? = some v) (fun i h => SqIt b h it a i ∧ SqIs b h a its) := by
  cases b with
  | true => exact Draws.list hh it a hne its
  | false => exact Draws.tuple hh it a hne its
section
variable {X : Cx} {pins : List (Addr × Obj)} {σ : L2.St} {H : Hp} {s : Shared} {a : Addr} {xs ys : List V} {b : Bool}
theorem sq_get (I : Inv X pins σ H s) (h : Sq b X.K H a xs) : ∃ its : List Value, Vals xs its ∧ SqIs b s.heap a its.toArray ∧ a < s.heap.objs.size := by
  cases b with
  | true => obtain ⟨its, rv, p, _⟩ := I.list h; exact ⟨its, rv, p.isList, p.lt⟩
  | false => obtain ⟨its, rv, p, _⟩ := I.tuple h; obtain ⟨o, ho, r⟩ := id p; exact ⟨its, rv, ⟨o, ho, r⟩, Heap.lt_size ho⟩
theorem sq_inj (I : Inv X pins σ H s) (h : Sq b X.K H a xs) (h' : Sq b X.K H a ys) : xs = ys := by
  cases b with
  | true => exact I.list_inj h h'
  | false => exact I.tuple_inj h h'
theorem sqIt_obj {h : Heap} {it : Addr} {i : Nat} (st : SqIt b h it a i) : ∃ o, h.get? it = some o ∧ ∀ v, o.data ≠ .cell v := by
  cases b <;> (obtain ⟨o, e, _, d⟩ := st; exact ⟨o, e, fun v z => by rw [d] at z; cases z⟩)
theorem sqIt_at {h h' : Heap} {it : Addr} {i : Nat} (st : SqIt b h it a i) (k : ∀ o, h.get? it = some o → h'.get? it = some o) : SqIt b h' it a i := by
  cases b with
  | true => exact Heap.IsListIter.at st k
  | false => exact Heap.IsTupleIter.at st k
theorem sqIt_lt {h : Heap} {it : Addr} {i : Nat} (st : SqIt b h it a i) : it < h.objs.size := by obtain ⟨o, e, _⟩ := sqIt_obj st; exact Heap.lt_size e
theorem sqO_it {h : Heap} {it : Addr} (e : h.get? it = some (sqO b a)) : SqIt b h it a 0 := by
  cases b <;> exact ⟨_, e, rfl, rfl⟩
theorem sq_ne {K : PySem.W.Frag} {it : Addr} {h : Heap} {i : Nat} {its : Array Value} (st : SqIt b h it a i) (q : SqIs b h a its) : a ≠ it := by
  intro e; subst e
  cases b with
  | true =>
    obtain ⟨o, e, c, d⟩ := st
    obtain ⟨o', e', c', _⟩ := q
    rw [e] at e'; cases e'; rw [c] at c'; injection c' with z; exact absurd z (by decide)
  | false =>
    obtain ⟨o, e, c, d⟩ := st
    obtain ⟨o', e', c', _⟩ := q
    rw [e] at e'; cases e'; rw [c] at c'; injection c' with z; exact absurd z (by decide)
end

/-! ### enumerate -/
def ItE (b : Bool) (K : PySem.W.Frag) (a : Addr) : It :=
  ⟨fun i H => ∃ (xs : List V) (x : V), Sq b K H a xs ∧ xs[i]? = some x, fun i H v H' => ∃ T x, v = .ref T ∧ H T = none ∧ H' = upd H T (.tup [.int (i : Nat), x]) ∧ ∀ xs, Sq b K H a xs → xs[i]? = some x, fun i H => ∃ xs : List V, Sq b K H a xs ∧ xs.length = i⟩
theorem turn_E {P : Program} {w : World} {K : PySem.W.Frag} {elts : List Expr} {kk : Nat} {tpos : Pos} (b : Bool) (a e it : Addr) :
    Turn P w K (.Tuple elts kk tpos) (ItE b K a) [e, it] e (fun i h => (∃ old, IsEnum h e it ((i : Nat) : Int) old) ∧ SqIt b h it a i ∧ e ≠ it ∧ e ≠ a) where
  mem := by simp
  obj := fun i h st c hc => by
    obtain ⟨⟨old, he⟩, hi, _⟩ := st
    have e' : c = e ∨ c = it := by simpa using hc
    rcases e' with z | z
    · rw [z]; exact ⟨_, he, fun v q => nomatch q⟩
    · rw [z]; exact sqIt_obj hi
  keep := fun i h h' st k => let ⟨⟨old, he⟩, hi, hne⟩ := st; ⟨⟨old, k e (by simp) _ he⟩, sqIt_at hi fun o q => k it (by simp) o q, hne⟩
  item := by
    intro X hP hw hK hc i pins s σ H E I hf st hg
    subst hP hw hK
    obtain ⟨⟨old, he⟩, hit, hne, hea⟩ := st
    obtain ⟨xs, x, hq, hx⟩ := hg
    obtain ⟨its, rv, p, _⟩ := sq_get I hq
    obtain ⟨u, hu, ru⟩ := rv.get hx
    have hel : e < s.heap.objs.size := Heap.lt_size he
    have hil := sqIt_lt hit
    have hai : a ≠ it := sq_ne (K := X.K) hit p
    have hlt : i < its.toArray.size := by
      obtain ⟨h1, _⟩ := List.getElem?_eq_some_iff.mp hu
      simpa using h1
    refine wpAny_pyNext_enum_itemC (sq_draws (prog := X.prog) (w := X.w) (A := X.A.in1) b (I.ok.hd hc) it a hai its.toArray) he ⟨hit, p⟩ hlt hne (by simp [hne, hea]) fun y h' tk hy ho st' hT hsz hk => ?_
    have ey : y = u := by
      have h2 : its[i]? = some y := by simpa using hy
      rw [hu] at h2; exact (Option.some.inj h2).symm
    subst ey
    refine ⟨_, rfl, wpAny_letOwnedTupleGo_enum (s := { s with heap := h', toks := tk + 1 }) ho fun h'' he' sb => ?_⟩
    have hT2 : h''.get? s.heap.objs.size = some { cls := .type "tuple", data := .seq #[.int i tk, y] } := (sb.2 _ (Nat.ne_of_gt hel)).trans hT
    have new : ObjOk X.prog X.w (upd H s.heap.objs.size (.tup [.int (i : Nat), x])) h'' s.heap.objs.size (.tup [.int (i : Nat), x]) :=
      ⟨by show 2 ≤ sizeLine; decide, [.int i tk, y], .cons ⟨_, rfl⟩ (.cons ru .nil), ⟨_, hT2, rfl, _, rfl⟩⟩
    have I1 : Inv X pins σ (upd H s.heap.objs.size (.tup [.int (i : Nat), x])) { s with heap := h'', toks := tk + 1 } :=
      I.turnedNew (ch := [e, it]) (fun b ob hb q => (sb.2 b (fun z => hb (by simp [z]))).trans (hk b ob (fun z => hb (by simp [z])) (fun z => hb (by simp [z])) q)) hf (Nat.le_refl _) new
    refine ⟨.ref s.heap.objs.size, _, I1, rfl, ⟨_, x, rfl, I.hok.fresh (Nat.le_refl _), rfl, fun ys hy => by rw [sq_inj I hy hq]; exact hx⟩, ⟨⟨y, ?_⟩, sqIt_at st'.1 fun o q => (sb.2 it (Ne.symm hne)).trans q, hne, hea⟩, fun b hb => ?_⟩
    · have e1 : ((i + 1 : Nat) : Int) = (i : Int) + 1 := by omega
      rw [e1]; exact he'
    · have hb' : b < s.heap.objs.size := by
        have e' : b = e ∨ b = it := by simpa using hb
        rcases e' with z | z
        · rw [z]; exact hel
        · rw [z]; exact hil
      rw [upd_ne (Nat.ne_of_lt hb')]
      exact (hf b hb).1
  done := by
    intro X hP hw hK hc i pins s σ H E I hf st hg
    subst hP hw hK
    obtain ⟨⟨old, he⟩, hit, hne, hea⟩ := st
    obtain ⟨xs, hq, hx⟩ := hg
    obtain ⟨its, rv, p, _⟩ := sq_get I hq
    have hai : a ≠ it := sq_ne (K := X.K) hit p
    have hl : its.toArray.size = i := by
      have := rv.length
      simp; omega
    refine wpAny_pyNext_enum_endD (sq_draws (prog := X.prog) (w := X.w) (A := X.A.in1) b (I.ok.hd hc) it a hai its.toArray) he ⟨by rw [hl]; exact hit, p⟩ fun h' eb => ⟨rfl, ?_⟩
    obtain ⟨f0, f1, f2, f3, f4, f5⟩ := hf it (by simp)
    exact I.turned (t' := s.toks) (fun b o hb q => eb b o hb q) f0 f1 f3 f4 f5
  self := fun A i s Q E st h => let ⟨⟨_, he⟩, _⟩ := st; wpAny_pyIter_enum he h

theorem meets_enumerate_1B {v : Value} {o : Obj} {H : Heap → Prop} (B : Begins v o H) :
    Meets (Builtin.«enumerate.__new__» ⟨[.type "enumerate", v], []⟩) (fun _ R s => H s.heap ∧
      R (.ok (.ret (.ref (s.heap.push o).objs.size))) { s with heap := (s.heap.push o).push { cls := .type "enumerate", data := .fields #[.none, .bool false, .ref s.heap.objs.size, rawInt 0, .none, .none] } }) :=
  .of_wp fun prog w A R s h => by
    obtain ⟨hp, g, d, tk, os⟩ := s; obtain ⟨h1, h⟩ := h
    have hsub := sub_enumerate
    have q1 : ∀ {A' : Around} {E : Value → Shared → Prop} {Q : Value → Shared → Prop}, Q (.ref hp.objs.size) ⟨hp.push o, g, d, tk, os⟩ → wpAny (model prog w) A' (pyIter v) Q E ⟨hp, g, d, tk, os⟩ :=
      fun q => B.iter prog w _ _ ⟨hp, g, d, tk, os⟩ _ h1 q
    wp_walk using q1
    refine wpAny_stack_any fun st => wpAny_pure ?_
    split
    · rename_i c _ _ _ _ _
      cases (c == Value.type "enumerate")
      · wp_walk using q1
        exact ⟨_, rfl, h⟩
      · wp_walk using q1
        exact ⟨_, rfl, h⟩
    · wp_walk using q1
      exact ⟨_, rfl, h⟩
theorem enum_begins1 {prog : Program} {w : World} {A : Around} {E : Value → Shared → Prop} {s : Shared} {v : Value} {o : Obj} {H : Heap → Prop} {Q : Value → Shared → Prop} (B : Begins v o H) (h1 : H s.heap)
    (h : ∀ h', IsEnum h' (s.heap.objs.size + 1) s.heap.objs.size 0 .none → h'.get? s.heap.objs.size = some o → h'.objs.size = s.heap.objs.size + 2 →
      (∀ b o, s.heap.get? b = some o → h'.get? b = some o) → Q (.ref (s.heap.objs.size + 1)) { s with heap := h' }) :
    wpAny (model prog w) A (call (.type "enumerate") [v]) Q E s := by
  refine callType_new F.called_enumerate (by decide) (F.typeCall_enumerate_1 _) (F.newCall_enumerate_1 _) (fun obj => F.args_object_init_2 obj _) F.entry_enumerate_new
    (meets_enumerate_1B B) ⟨h1, ?_⟩
  have hz : (s.heap.push o).objs.size = s.heap.objs.size + 1 := Heap.size_push ..
  show _ ∧ _
  rw [hz]
  have he : IsEnum ((s.heap.push o).push { cls := .type "enumerate", data := .fields #[.none, .bool false, .ref s.heap.objs.size, rawInt 0, .none, .none] }) (s.heap.objs.size + 1) s.heap.objs.size 0 .none := by
    have := Heap.get?_push_size (s.heap.push o) (o := { cls := .type "enumerate", data := .fields #[.none, .bool false, .ref s.heap.objs.size, rawInt 0, .none, .none] }) rfl
    rw [hz] at this; exact this
  exact ⟨⟨_, he, rfl⟩, h _ he (Heap.get?_push_of_some _ (Heap.get?_push_size _ B.free)) (by rw [Heap.size_push, hz]) fun b o x => Heap.get?_push_of_some _ (Heap.get?_push_of_some _ x)⟩
def iE (K : PySem.W.Frag) (ta : TA) : TI := fun σ H R => ta σ H fun vs H1 => ∃ b a xs, vs = [.ref a] ∧ Sq b K H1 a xs ∧ R (ItE b K a) H1
theorem pi_E {X : Cx} {e : Expr} {ta : TA} {p pos tpos : Pos} {elts : List Expr} {kk : Nat} (hg : Gl X "enumerate") (hm : X.mg "enumerate" = none) (ha : PA X [e] ta) (hs : starEach [e] X.env = [(false, eval e X.env)] := by rfl) :
    PI X (.Tuple elts kk tpos) (.Call (.Name "enumerate" p) [e] [] pos) (iE X.K ta) := by
  refine ⟨fun pins s σ H R I h => ?_⟩
  refine Call_ (ld_blt I hg hm boot_enumerate (PyProof.Rows.callWith_type1 (thn (ha.run pos pins s σ H _ I h) fun us s1 ⟨vs, H1, I1, r1, q1⟩ => ?_) hs rfl))
  obtain ⟨b, a, xs, ex, hq, q⟩ := q1
  subst ex
  cases r1 with
  | cons r rr =>
    cases rr
    cases r
    obtain ⟨its, rv, p', lt⟩ := sq_get I1 hq
    refine enum_begins1 (sq_begins b a its.toArray) p' fun h' he hit hsz hk => wpAny_pyIter_enum he ?_
    have I2 : Inv X pins σ H1 { s1 with heap := h' } := I1.kept (t' := s1.toks) hk
    have hea : s1.heap.objs.size + 1 ≠ a := Nat.ne_of_gt (Nat.lt_succ_of_lt lt)
    refine ⟨s1.heap.objs.size + 1, [s1.heap.objs.size + 1, s1.heap.objs.size], _, _, H1, rfl, I2, turn_E b a (s1.heap.objs.size + 1) s1.heap.objs.size, ⟨⟨.none, he⟩, sqO_it hit, Nat.succ_ne_self _, hea⟩, fun c hc => ?_, q⟩
    have e' : c = s1.heap.objs.size + 1 ∨ c = s1.heap.objs.size := by simpa using hc
    have hle : s1.heap.objs.size ≤ c := by
      rcases e' with z | z
      · rw [z]; exact Nat.le_add_right _ _
      · rw [z]; exact Nat.le_refl _
    exact I1.fpOk hle (I1.hok.fresh hle)
/-! ### zip of two -/
def ItZ2 (b1 b2 : Bool) (K : PySem.W.Frag) (a1 a2 : Addr) : It :=
  ⟨fun i H => ∃ (xs ys : List V) (x y : V), Sq b1 K H a1 xs ∧ Sq b2 K H a2 ys ∧ xs[i]? = some x ∧ ys[i]? = some y,
    fun i H v H' => ∃ T x y, v = .ref T ∧ H T = none ∧ H' = upd H T (.tup [x, y]) ∧ (∀ xs, Sq b1 K H a1 xs → xs[i]? = some x) ∧ ∀ ys, Sq b2 K H a2 ys → ys[i]? = some y,
    fun i H => ∃ xs ys : List V, Sq b1 K H a1 xs ∧ Sq b2 K H a2 ys ∧ i ≤ xs.length ∧ i ≤ ys.length ∧ (xs.length = i ∨ ys.length = i)⟩
/-- the five cells of a zip lie apart, and from what it walks -/
structure Sep2 (z TI TO i1 i2 a1 a2 : Addr) : Prop where
  S : ZipSep2 z TI TO i1 i2 [i1, a1] [i2, a2]
theorem pr_ne (x i a : Nat) (e1 : x ≠ i) (e2 : x ≠ a) : x ∉ [i, a] := fun z => (List.mem_cons.mp z).elim e1 fun z => e2 (List.mem_singleton.mp z)
theorem ad_nn (n i j : Nat) (h : i ≠ j) : n + i ≠ n + j := by omega
theorem ad_n0 (n j : Nat) (h : 0 ≠ j) : n ≠ n + j := by omega
theorem ad_m0 (n j : Nat) (h : 0 ≠ j) : n + j ≠ n := by omega
theorem ad_a (n j a : Nat) (h : a < n) : n + j ≠ a := by omega
theorem ad_a0 (n a : Nat) (h : a < n) : n ≠ a := by omega
theorem sep2_nat (n a1 a2 : Nat) (h1 : a1 < n) (h2 : a2 < n) : @ZipSep2 (n + 4) (n + 2) (n + 3) n (n + 1) [n, a1] [n + 1, a2] :=
  ⟨ad_nn n 2 4 (by decide), ad_nn n 3 4 (by decide), ad_nn n 2 3 (by decide), ad_m0 n 2 (by decide), by simp, pr_ne _ _ _ (ad_m0 n 4 (by decide)) (ad_a n 4 _ h1), pr_ne _ _ _ (ad_m0 n 3 (by decide)) (ad_a n 3 _ h1),
    ad_nn n 2 1 (by decide), by simp, pr_ne _ _ _ (ad_nn n 4 1 (by decide)) (ad_a n 4 _ h2), pr_ne _ _ _ (ad_nn n 3 1 (by decide)) (ad_a n 3 _ h2), pr_ne _ _ _ (ad_n0 n 1 (by decide)) (ad_a0 n _ h2), pr_ne _ _ _ (ad_m0 n 1 (by decide)) (ad_a n 1 _ h1)⟩
theorem sep2_of {n a1 a2 : Addr} (h1 : a1 < n) (h2 : a2 < n) : Sep2 (n + 4) (n + 2) (n + 3) n (n + 1) a1 a2 := ⟨sep2_nat n a1 a2 h1 h2⟩
theorem turn_Z2 {P : Program} {w : World} {K : PySem.W.Frag} {elts : List Expr} {kk : Nat} {tpos : Pos} (b1 b2 : Bool) {a1 a2 z TI TO i1 i2 : Addr} (D : Sep2 z TI TO i1 i2 a1 a2) :
    Turn P w K (.Tuple elts kk tpos) (ItZ2 b1 b2 K a1 a2) [z, TI, TO, i1, i2] z (fun i h => IsZip h z TI TO .none ∧ IsTupOf2 h TI (.ref i1) (.ref i2) ∧ (∃ x y, IsTupOf2 h TO x y) ∧ SqIt b1 h i1 a1 i ∧ SqIt b2 h i2 a2 i) where
  mem := by simp
  obj := fun i h st c hc => by
    obtain ⟨hz, hTI, ⟨x, y, hTO⟩, h1, h2⟩ := st
    have e' : c = z ∨ c = TI ∨ c = TO ∨ c = i1 ∨ c = i2 := by simpa using hc
    rcases e' with q | q | q | q | q
    · rw [q]; exact ⟨_, hz, fun v q => nomatch q⟩
    · rw [q]; exact ⟨_, hTI, fun v q => nomatch q⟩
    · rw [q]; exact ⟨_, hTO, fun v q => nomatch q⟩
    · rw [q]; exact sqIt_obj h1
    · rw [q]; exact sqIt_obj h2
  keep := fun i h h' st k => by
    obtain ⟨hz, hTI, ⟨x, y, hTO⟩, h1, h2⟩ := st
    exact ⟨k z (by simp) _ hz, k TI (by simp) _ hTI, ⟨x, y, k TO (by simp) _ hTO⟩, sqIt_at h1 fun o q => k i1 (by simp) o q, sqIt_at h2 fun o q => k i2 (by simp) o q⟩
  item := by
    intro X hP hw hK hc i pins s σ H E I hf st hg
    subst hP hw hK
    obtain ⟨hz, hTI, ⟨x0, y0, hTO⟩, h1, h2⟩ := st
    obtain ⟨xs, ys, x, y, hqx, hqy, hx, hy⟩ := hg
    obtain ⟨its, rv, p, _⟩ := sq_get I hqx
    obtain ⟨its2, rv2, p2, _⟩ := sq_get I hqy
    obtain ⟨u, hu, ru⟩ := rv.get hx
    obtain ⟨u2, hu2, ru2⟩ := rv2.get hy
    have hzl : z < s.heap.objs.size := Heap.lt_size hz
    have l1 : i < its.toArray.size := by
      obtain ⟨h1, _⟩ := List.getElem?_eq_some_iff.mp hu
      simpa using h1
    have l2 : i < its2.toArray.size := by
      obtain ⟨h1, _⟩ := List.getElem?_eq_some_iff.mp hu2
      simpa using h1
    refine wpAny_pyNext_zipD2_item D.S (sq_draws (prog := X.prog) (w := X.w) (A := X.A.in1) b1 (I.ok.hd hc) i1 a1 (sq_ne (K := X.K) h1 p) its.toArray) (sq_draws (prog := X.prog) (w := X.w) (A := X.A.in1) b2 (I.ok.hd hc) i2 a2 (sq_ne (K := X.K) h2 p2) its2.toArray) hz hTI hTO ⟨h1, p⟩ ⟨h2, p2⟩ l1 l2 fun y1 y2 h' tk hy1 hy2 z' TO' h1' h2' hT hsz hk => ?_
    have ey : y1 = u := by
      have h2 : its[i]? = some y1 := by simpa using hy1
      rw [hu] at h2; exact (Option.some.inj h2).symm
    have ey2 : y2 = u2 := by
      have h2 : its2[i]? = some y2 := by simpa using hy2
      rw [hu2] at h2; exact (Option.some.inj h2).symm
    subst ey; subst ey2
    refine ⟨_, rfl, wpAny_letOwnedTupleGo_zip (s := { s with heap := h', toks := tk }) z' fun h'' z'' sb => ?_⟩
    have hT2 : h''.get? s.heap.objs.size = some { cls := .type "tuple", data := .seq #[y1, y2] } := (sb.2 _ (Nat.ne_of_gt hzl)).trans hT
    have new : ObjOk X.prog X.w (upd H s.heap.objs.size (.tup [x, y])) h'' s.heap.objs.size (.tup [x, y]) :=
      ⟨by show 2 ≤ sizeLine; decide, [y1, y2], .cons ru (.cons ru2 .nil), ⟨_, hT2, rfl, _, rfl⟩⟩
    have I1 : Inv X pins σ (upd H s.heap.objs.size (.tup [x, y])) { s with heap := h'', toks := tk } :=
      I.turnedNew (ch := [z, TI, TO, i1, i2]) (fun c o hb q => (sb.2 c (fun q' => hb (by simp [q']))).trans (hk c o (fun q' => hb (by simp [q'])) (fun q' => hb (by simp [q'])) (fun q' => hb (by simp [q'])) (fun q' => hb (by simp [q'])) q)) hf (Nat.le_refl _) new
    refine ⟨.ref s.heap.objs.size, _, I1, rfl, ⟨_, x, y, rfl, I.hok.fresh (Nat.le_refl _), rfl, fun l hl => by rw [sq_inj I hl hqx]; exact hx, fun l hl => by rw [sq_inj I hl hqy]; exact hy⟩, ⟨z'', ?_, ⟨y1, y2, ?_⟩, ?_, ?_⟩, fun c hcm => ?_⟩
    · exact (sb.2 _ D.S.TIz).trans (hk _ _ D.S.TIz D.S.TITO D.S.TIi1 D.S.TIi2 hTI)
    · exact (sb.2 _ D.S.TOz).trans TO'
    · exact sqIt_at h1'.1 fun o q => (sb.2 _ (Ne.symm D.S.zi1)).trans q
    · exact sqIt_at h2'.1 fun o q => (sb.2 _ (Ne.symm D.S.zi2)).trans q
    · have hlt : c < s.heap.objs.size := by
        have e' : c = z ∨ c = TI ∨ c = TO ∨ c = i1 ∨ c = i2 := by simpa using hcm
        rcases e' with q | q | q | q | q
        · rw [q]; exact hzl
        · rw [q]; exact Heap.lt_size hTI
        · rw [q]; exact Heap.lt_size hTO
        · rw [q]; exact sqIt_lt h1
        · rw [q]; exact sqIt_lt h2
      rw [upd_ne (Nat.ne_of_lt hlt)]
      exact (hf c hcm).1
  done := by
    intro X hP hw hK hc i pins s σ H E I hf st hg
    subst hP hw hK
    obtain ⟨hz, hTI, ⟨x0, y0, hTO⟩, h1, h2⟩ := st
    obtain ⟨xs, ys, hqx, hqy, le1, le2, hend⟩ := hg
    obtain ⟨its, rv, p, _⟩ := sq_get I hqx
    obtain ⟨its2, rv2, p2, _⟩ := sq_get I hqy
    have l1 := rv.length
    have l2 := rv2.length
    exact wpAny_pyNext_zipD2_end D.S (sq_draws (prog := X.prog) (w := X.w) (A := X.A.in1) b1 (I.ok.hd hc) i1 a1 (sq_ne (K := X.K) h1 p) its.toArray) (sq_draws (prog := X.prog) (w := X.w) (A := X.A.in1) b2 (I.ok.hd hc) i2 a2 (sq_ne (K := X.K) h2 p2) its2.toArray) hz hTI hTO ⟨h1, p⟩ ⟨h2, p2⟩
      (by simp; omega) (by simp; omega) (by simp; omega) fun h' tk hk => ⟨rfl, I.turnedL (ch := [z, TI, TO, i1, i2]) (fun c o hb q =>
      hk c o (fun q' => hb (by simp [q'])) (fun q' => hb (by simp [q'])) (fun q' => hb (by simp [q'])) (fun q' => hb (by simp [q'])) q) hf⟩
  self := fun A i s Q E st h => wpAny_pyIter_zip st.1 h
def iZ2 (K : PySem.W.Frag) (ta : TA) : TI := fun σ H R => ta σ H fun vs H1 => ∃ b1 b2 a1 a2 xs ys, vs = [.ref a1, .ref a2] ∧ Sq b1 K H1 a1 xs ∧ Sq b2 K H1 a2 ys ∧ R (ItZ2 b1 b2 K a1 a2) H1
theorem pi_Z2 {X : Cx} {e e2 : Expr} {ta : TA} {p pos tpos : Pos} {elts : List Expr} {kk : Nat} (hg : Gl X "zip") (hm : X.mg "zip" = none) (ha : PA X [e, e2] ta)
    (hs : starEach [e, e2] X.env = (false, eval e X.env) :: starEach [e2] X.env := by rfl) (hpl : (backTo pos (starEach [e2] X.env)).any (·.1) = false := by rfl) :
    PI X (.Tuple elts kk tpos) (.Call (.Name "zip" p) [e, e2] [] pos) (iZ2 X.K ta) := by
  refine ⟨fun pins s σ H R I h => ?_⟩
  refine Call_ (ld_blt I hg hm PyProof.Rows.boot_zip (PyProof.Rows.callWith_type1 (thn (ha.run pos pins s σ H _ I h) fun us s1 ⟨vs, H1, I1, r1, q1⟩ => ?_) hs hpl))
  obtain ⟨b1, b2, a1, a2, xs, ys, ex, hqx, hqy, q⟩ := q1
  subst ex
  cases r1 with
  | cons r rr =>
    cases rr with
    | cons r' rr =>
      cases rr
      cases r
      cases r'
      have fresh5 : ∀ c, c ∈ [s1.heap.objs.size + 4, s1.heap.objs.size + 2, s1.heap.objs.size + 3, s1.heap.objs.size, s1.heap.objs.size + 1] → FpOk X pins H1 c := fun c hcm => by
        have e' : c = s1.heap.objs.size + 4 ∨ c = s1.heap.objs.size + 2 ∨ c = s1.heap.objs.size + 3 ∨ c = s1.heap.objs.size ∨ c = s1.heap.objs.size + 1 := by simpa using hcm
        have hle : s1.heap.objs.size ≤ c := by
          rcases e' with z | z | z | z | z
          · rw [z]; exact Nat.le_add_right _ _
          · rw [z]; exact Nat.le_add_right _ _
          · rw [z]; exact Nat.le_add_right _ _
          · rw [z]; exact Nat.le_refl _
          · rw [z]; exact Nat.le_add_right _ _
        exact I1.fpOk hle (I1.hok.fresh hle)
      obtain ⟨its, rv, p1, lt1⟩ := sq_get I1 hqx
      obtain ⟨its2, rv2, p2, lt2⟩ := sq_get I1 hqy
      refine zip_begins2 (sq_begins b1 a1 its.toArray) (sq_begins b2 a2 its2.toArray) p1 p2 fun h' hz hTI hTO h1 h2 hsz hk => wpAny_pyIter_zip hz ?_
      have I2 : Inv X pins σ H1 { s1 with heap := h' } := I1.kept (t' := s1.toks) hk
      exact ⟨s1.heap.objs.size + 4, [s1.heap.objs.size + 4, s1.heap.objs.size + 2, s1.heap.objs.size + 3, s1.heap.objs.size, s1.heap.objs.size + 1], _, _, H1, rfl, I2, turn_Z2 b1 b2 (sep2_of lt1 lt2), ⟨hz, hTI, ⟨_, _, hTO⟩, sqO_it h1, sqO_it h2⟩, fresh5, q⟩

/-! ### zip of three -/
def ItZ3 (b1 b2 b3 : Bool) (K : PySem.W.Frag) (a1 a2 a3 : Addr) : It :=
  ⟨fun i H => ∃ (xs ys zs : List V) (x y z : V), Sq b1 K H a1 xs ∧ Sq b2 K H a2 ys ∧ Sq b3 K H a3 zs ∧ xs[i]? = some x ∧ ys[i]? = some y ∧ zs[i]? = some z,
    fun i H v H' => ∃ T x y z, v = .ref T ∧ H T = none ∧ H' = upd H T (.tup [x, y, z]) ∧ (∀ xs, Sq b1 K H a1 xs → xs[i]? = some x) ∧ (∀ ys, Sq b2 K H a2 ys → ys[i]? = some y) ∧ ∀ zs, Sq b3 K H a3 zs → zs[i]? = some z,
    fun i H => ∃ xs ys zs : List V, Sq b1 K H a1 xs ∧ Sq b2 K H a2 ys ∧ Sq b3 K H a3 zs ∧ i ≤ xs.length ∧ i ≤ ys.length ∧ i ≤ zs.length ∧ (xs.length = i ∨ ys.length = i ∨ zs.length = i)⟩
structure Sep3 (z TI TO i1 i2 i3 a1 a2 a3 : Addr) : Prop where
  S : ZipSep3 z TI TO i1 i2 i3 [i1, a1] [i2, a2] [i3, a3]
theorem sep3_nat (n a1 a2 a3 : Nat) (h1 : a1 < n) (h2 : a2 < n) (h3 : a3 < n) : @ZipSep3 (n + 5) (n + 3) (n + 4) n (n + 1) (n + 2) [n, a1] [n + 1, a2] [n + 2, a3] :=
  ⟨ad_nn n 3 5 (by decide), ad_nn n 4 5 (by decide), ad_nn n 3 4 (by decide),
    ad_m0 n 3 (by decide), by simp, pr_ne _ _ _ (ad_m0 n 5 (by decide)) (ad_a n 5 _ h1), pr_ne _ _ _ (ad_m0 n 4 (by decide)) (ad_a n 4 _ h1),
    ad_nn n 3 1 (by decide), by simp, pr_ne _ _ _ (ad_nn n 5 1 (by decide)) (ad_a n 5 _ h2), pr_ne _ _ _ (ad_nn n 4 1 (by decide)) (ad_a n 4 _ h2),
    ad_nn n 3 2 (by decide), by simp, pr_ne _ _ _ (ad_nn n 5 2 (by decide)) (ad_a n 5 _ h3), pr_ne _ _ _ (ad_nn n 4 2 (by decide)) (ad_a n 4 _ h3),
    pr_ne _ _ _ (ad_n0 n 1 (by decide)) (ad_a0 n _ h2), pr_ne _ _ _ (ad_n0 n 2 (by decide)) (ad_a0 n _ h3), pr_ne _ _ _ (ad_m0 n 1 (by decide)) (ad_a n 1 _ h1), pr_ne _ _ _ (ad_nn n 1 2 (by decide)) (ad_a n 1 _ h3), pr_ne _ _ _ (ad_m0 n 2 (by decide)) (ad_a n 2 _ h1), pr_ne _ _ _ (ad_nn n 2 1 (by decide)) (ad_a n 2 _ h2)⟩
theorem sep3_of {n a1 a2 a3 : Addr} (h1 : a1 < n) (h2 : a2 < n) (h3 : a3 < n) : Sep3 (n + 5) (n + 3) (n + 4) n (n + 1) (n + 2) a1 a2 a3 := ⟨sep3_nat n a1 a2 a3 h1 h2 h3⟩
theorem turn_Z3 {P : Program} {w : World} {K : PySem.W.Frag} {elts : List Expr} {kk : Nat} {tpos : Pos} (b1 b2 b3 : Bool) {a1 a2 a3 z TI TO i1 i2 i3 : Addr} (D : Sep3 z TI TO i1 i2 i3 a1 a2 a3) :
    Turn P w K (.Tuple elts kk tpos) (ItZ3 b1 b2 b3 K a1 a2 a3) [z, TI, TO, i1, i2, i3] z (fun i h => IsZip h z TI TO .none ∧ IsTupOf3 h TI (.ref i1) (.ref i2) (.ref i3) ∧ (∃ x y u, IsTupOf3 h TO x y u) ∧ SqIt b1 h i1 a1 i ∧ SqIt b2 h i2 a2 i ∧ SqIt b3 h i3 a3 i) where
  mem := by simp
  obj := fun i h st c hc => by
    obtain ⟨hz, hTI, ⟨x, y, u, hTO⟩, h1, h2, h3⟩ := st
    have e' : c = z ∨ c = TI ∨ c = TO ∨ c = i1 ∨ c = i2 ∨ c = i3 := by simpa using hc
    rcases e' with q | q | q | q | q | q
    · rw [q]; exact ⟨_, hz, fun v q => nomatch q⟩
    · rw [q]; exact ⟨_, hTI, fun v q => nomatch q⟩
    · rw [q]; exact ⟨_, hTO, fun v q => nomatch q⟩
    · rw [q]; exact sqIt_obj h1
    · rw [q]; exact sqIt_obj h2
    · rw [q]; exact sqIt_obj h3
  keep := fun i h h' st k => by
    obtain ⟨hz, hTI, ⟨x, y, u, hTO⟩, h1, h2, h3⟩ := st
    exact ⟨k z (by simp) _ hz, k TI (by simp) _ hTI, ⟨x, y, u, k TO (by simp) _ hTO⟩, sqIt_at h1 fun o q => k i1 (by simp) o q, sqIt_at h2 fun o q => k i2 (by simp) o q, sqIt_at h3 fun o q => k i3 (by simp) o q⟩
  item := by
    intro X hP hw hK hc i pins s σ H E I hf st hg
    subst hP hw hK
    obtain ⟨hz, hTI, ⟨x0, y0, z0, hTO⟩, h1, h2, h3⟩ := st
    obtain ⟨xs, ys, zs, x, y, zz, hqx, hqy, hqz, hx, hy, hzz⟩ := hg
    obtain ⟨its, rv, p, _⟩ := sq_get I hqx
    obtain ⟨its2, rv2, p2, _⟩ := sq_get I hqy
    obtain ⟨its3, rv3, p3, _⟩ := sq_get I hqz
    obtain ⟨u, hu, ru⟩ := rv.get hx
    obtain ⟨u2, hu2, ru2⟩ := rv2.get hy
    obtain ⟨u3, hu3, ru3⟩ := rv3.get hzz
    have hzl : z < s.heap.objs.size := Heap.lt_size hz
    have l1 : i < its.toArray.size := by
      obtain ⟨h1, _⟩ := List.getElem?_eq_some_iff.mp hu
      simpa using h1
    have l2 : i < its2.toArray.size := by
      obtain ⟨h1, _⟩ := List.getElem?_eq_some_iff.mp hu2
      simpa using h1
    have l3 : i < its3.toArray.size := by
      obtain ⟨h1, _⟩ := List.getElem?_eq_some_iff.mp hu3
      simpa using h1
    refine wpAny_pyNext_zipD3_item D.S (sq_draws (prog := X.prog) (w := X.w) (A := X.A.in1) b1 (I.ok.hd hc) i1 a1 (sq_ne (K := X.K) h1 p) its.toArray) (sq_draws (prog := X.prog) (w := X.w) (A := X.A.in1) b2 (I.ok.hd hc) i2 a2 (sq_ne (K := X.K) h2 p2) its2.toArray) (sq_draws (prog := X.prog) (w := X.w) (A := X.A.in1) b3 (I.ok.hd hc) i3 a3 (sq_ne (K := X.K) h3 p3) its3.toArray)
      hz hTI hTO ⟨h1, p⟩ ⟨h2, p2⟩ ⟨h3, p3⟩ l1 l2 l3 fun y1 y2 y3 h' tk hy1 hy2 hy3 z' TO' h1' h2' h3' hT hsz hk => ?_
    have ey : y1 = u := by
      have h2 : its[i]? = some y1 := by simpa using hy1
      rw [hu] at h2; exact (Option.some.inj h2).symm
    have ey2 : y2 = u2 := by
      have h2 : its2[i]? = some y2 := by simpa using hy2
      rw [hu2] at h2; exact (Option.some.inj h2).symm
    have ey3 : y3 = u3 := by
      have h2 : its3[i]? = some y3 := by simpa using hy3
      rw [hu3] at h2; exact (Option.some.inj h2).symm
    subst ey; subst ey2; subst ey3
    refine ⟨_, rfl, wpAny_letOwnedTupleGo_zip (s := { s with heap := h', toks := tk }) z' fun h'' z'' sb => ?_⟩
    have hT2 : h''.get? s.heap.objs.size = some { cls := .type "tuple", data := .seq #[y1, y2, y3] } := (sb.2 _ (Nat.ne_of_gt hzl)).trans hT
    have new : ObjOk X.prog X.w (upd H s.heap.objs.size (.tup [x, y, zz])) h'' s.heap.objs.size (.tup [x, y, zz]) :=
      ⟨by show 3 ≤ sizeLine; decide, [y1, y2, y3], .cons ru (.cons ru2 (.cons ru3 .nil)), ⟨_, hT2, rfl, _, rfl⟩⟩
    have I1 : Inv X pins σ (upd H s.heap.objs.size (.tup [x, y, zz])) { s with heap := h'', toks := tk } :=
      I.turnedNew (ch := [z, TI, TO, i1, i2, i3]) (fun c o hb q => (sb.2 c (fun q' => hb (by simp [q']))).trans (hk c o (fun q' => hb (by simp [q'])) (fun q' => hb (by simp [q'])) (fun q' => hb (by simp [q'])) (fun q' => hb (by simp [q'])) (fun q' => hb (by simp [q'])) q)) hf (Nat.le_refl _) new
    refine ⟨.ref s.heap.objs.size, _, I1, rfl, ⟨_, x, y, zz, rfl, I.hok.fresh (Nat.le_refl _), rfl, fun l hl => by rw [sq_inj I hl hqx]; exact hx, fun l hl => by rw [sq_inj I hl hqy]; exact hy, fun l hl => by rw [sq_inj I hl hqz]; exact hzz⟩, ⟨z'', ?_, ⟨y1, y2, y3, ?_⟩, ?_, ?_, ?_⟩, fun c hcm => ?_⟩
    · exact (sb.2 _ D.S.TIz).trans (hk _ _ D.S.TIz D.S.TITO D.S.TIi1 D.S.TIi2 D.S.TIi3 hTI)
    · exact (sb.2 _ D.S.TOz).trans TO'
    · exact sqIt_at h1'.1 fun o q => (sb.2 _ (Ne.symm D.S.zi1)).trans q
    · exact sqIt_at h2'.1 fun o q => (sb.2 _ (Ne.symm D.S.zi2)).trans q
    · exact sqIt_at h3'.1 fun o q => (sb.2 _ (Ne.symm D.S.zi3)).trans q
    · have hlt : c < s.heap.objs.size := by
        have e' : c = z ∨ c = TI ∨ c = TO ∨ c = i1 ∨ c = i2 ∨ c = i3 := by simpa using hcm
        rcases e' with q | q | q | q | q | q
        · rw [q]; exact hzl
        · rw [q]; exact Heap.lt_size hTI
        · rw [q]; exact Heap.lt_size hTO
        · rw [q]; exact sqIt_lt h1
        · rw [q]; exact sqIt_lt h2
        · rw [q]; exact sqIt_lt h3
      rw [upd_ne (Nat.ne_of_lt hlt)]
      exact (hf c hcm).1
  done := by
    intro X hP hw hK hc i pins s σ H E I hf st hg
    subst hP hw hK
    obtain ⟨hz, hTI, ⟨x0, y0, z0, hTO⟩, h1, h2, h3⟩ := st
    obtain ⟨xs, ys, zs, hqx, hqy, hqz, le1, le2, le3, hend⟩ := hg
    obtain ⟨its, rv, p, _⟩ := sq_get I hqx
    obtain ⟨its2, rv2, p2, _⟩ := sq_get I hqy
    obtain ⟨its3, rv3, p3, _⟩ := sq_get I hqz
    have l1 := rv.length
    have l2 := rv2.length
    have l3 := rv3.length
    exact wpAny_pyNext_zipD3_end D.S (sq_draws (prog := X.prog) (w := X.w) (A := X.A.in1) b1 (I.ok.hd hc) i1 a1 (sq_ne (K := X.K) h1 p) its.toArray) (sq_draws (prog := X.prog) (w := X.w) (A := X.A.in1) b2 (I.ok.hd hc) i2 a2 (sq_ne (K := X.K) h2 p2) its2.toArray) (sq_draws (prog := X.prog) (w := X.w) (A := X.A.in1) b3 (I.ok.hd hc) i3 a3 (sq_ne (K := X.K) h3 p3) its3.toArray) hz hTI hTO ⟨h1, p⟩ ⟨h2, p2⟩ ⟨h3, p3⟩
      (by simp; omega) (by simp; omega) (by simp; omega) (by simp; omega) fun h' tk hk => ⟨rfl, I.turnedL (ch := [z, TI, TO, i1, i2, i3]) (fun c o hb q =>
      hk c o (fun q' => hb (by simp [q'])) (fun q' => hb (by simp [q'])) (fun q' => hb (by simp [q'])) (fun q' => hb (by simp [q'])) (fun q' => hb (by simp [q'])) q) hf⟩
  self := fun A i s Q E st h => wpAny_pyIter_zip st.1 h
def iZ3 (K : PySem.W.Frag) (ta : TA) : TI := fun σ H R => ta σ H fun vs H1 => ∃ b1 b2 b3 a1 a2 a3 xs ys zs, vs = [.ref a1, .ref a2, .ref a3] ∧ Sq b1 K H1 a1 xs ∧ Sq b2 K H1 a2 ys ∧ Sq b3 K H1 a3 zs ∧ R (ItZ3 b1 b2 b3 K a1 a2 a3) H1
theorem pi_Z3 {X : Cx} {e e2 e3 : Expr} {ta : TA} {p pos tpos : Pos} {elts : List Expr} {kk : Nat} (hg : Gl X "zip") (hm : X.mg "zip" = none) (ha : PA X [e, e2, e3] ta)
    (hs : starEach [e, e2, e3] X.env = (false, eval e X.env) :: starEach [e2, e3] X.env := by rfl) (hpl : (backTo pos (starEach [e2, e3] X.env)).any (·.1) = false := by rfl) :
    PI X (.Tuple elts kk tpos) (.Call (.Name "zip" p) [e, e2, e3] [] pos) (iZ3 X.K ta) := by
  refine ⟨fun pins s σ H R I h => ?_⟩
  refine Call_ (ld_blt I hg hm PyProof.Rows.boot_zip (PyProof.Rows.callWith_type1 (thn (ha.run pos pins s σ H _ I h) fun us s1 ⟨vs, H1, I1, r1, q1⟩ => ?_) hs hpl))
  obtain ⟨b1, b2, b3, a1, a2, a3, xs, ys, zs, ex, hqx, hqy, hqz, q⟩ := q1
  subst ex
  cases r1 with
  | cons r rr =>
    cases rr with
    | cons r' rr =>
      cases rr with
      | cons r'' rr =>
        cases rr
        cases r
        cases r'
        cases r''
        have fresh6 : ∀ c, c ∈ [s1.heap.objs.size + 5, s1.heap.objs.size + 3, s1.heap.objs.size + 4, s1.heap.objs.size, s1.heap.objs.size + 1, s1.heap.objs.size + 2] → FpOk X pins H1 c := fun c hcm => by
          have e' : c = s1.heap.objs.size + 5 ∨ c = s1.heap.objs.size + 3 ∨ c = s1.heap.objs.size + 4 ∨ c = s1.heap.objs.size ∨ c = s1.heap.objs.size + 1 ∨ c = s1.heap.objs.size + 2 := by simpa using hcm
          have hle : s1.heap.objs.size ≤ c := by
            rcases e' with z | z | z | z | z | z
            · rw [z]; exact Nat.le_add_right _ _
            · rw [z]; exact Nat.le_add_right _ _
            · rw [z]; exact Nat.le_add_right _ _
            · rw [z]; exact Nat.le_refl _
            · rw [z]; exact Nat.le_add_right _ _
            · rw [z]; exact Nat.le_add_right _ _
          exact I1.fpOk hle (I1.hok.fresh hle)
        obtain ⟨its, rv, p1, lt1⟩ := sq_get I1 hqx
        obtain ⟨its2, rv2, p2, lt2⟩ := sq_get I1 hqy
        obtain ⟨its3, rv3, p3, lt3⟩ := sq_get I1 hqz
        refine zip_begins3 (sq_begins b1 a1 its.toArray) (sq_begins b2 a2 its2.toArray) (sq_begins b3 a3 its3.toArray) p1 p2 p3 fun h' hz hTI hTO h1 h2 h3 hsz hk => wpAny_pyIter_zip hz ?_
        have I2 : Inv X pins σ H1 { s1 with heap := h' } := I1.kept (t' := s1.toks) hk
        exact ⟨s1.heap.objs.size + 5, [s1.heap.objs.size + 5, s1.heap.objs.size + 3, s1.heap.objs.size + 4, s1.heap.objs.size, s1.heap.objs.size + 1, s1.heap.objs.size + 2], _, _, H1, rfl, I2, turn_Z3 b1 b2 b3 (sep3_of lt1 lt2 lt3), ⟨hz, hTI, ⟨_, _, _, hTO⟩, sqO_it h1, sqO_it h2, sqO_it h3⟩, fresh6, q⟩
end PL
/-! statements, loops, comprehensions, defs -/
namespace PL
open PySem PySem.Spec PyProof.Rows L2

section
variable {X : Cx} {e a b c : Expr} {es : List Expr} {pos : Pos} {δ δa δb δc : TED} {θ θ1 θ2 : TTD} {α : TAD} {st : Stmt} {rest body : List Stmt} {τ τ1 τ2 : TSD}

/-! ### blocks -/
def dNext : TSD := fun De ρ S => De.nx ρ S
def dSeq (t u : TSD) : TSD := fun De ρ S => t { De with nx := fun ρ' S' => u De ρ' S' } ρ S
theorem dss_nil : DSs X [] dNext := pssW pss_nil fun E σ H ⟨ρ, S, De, re, rs, q, k⟩ => k.nx _ _ _ _ q (.refl rs) re
theorem dss_cons (h1 : DS X st τ1) (h2 : DSs X rest τ2) : DSs X (st :: rest) (dSeq τ1 τ2) := pssW (pss_cons h1 h2) fun E σ H ⟨ρ, S, De, re, rs, q, k⟩ =>
  ⟨ρ, S, _, re, rs, q, ⟨fun ρ' S' σ' H' q' g' re' => ⟨ρ', S', De, re', g'.rs, q', k.go g'⟩, k.rt, k.bk, k.ct⟩⟩
theorem dss_one (h1 : DS X st τ) : DSs X [st] τ := pss_one h1
def dBreak : TSD := fun De ρ S => De.bk ρ S
def dCont : TSD := fun De ρ S => De.ct ρ S
def dNever : TSD := fun _ _ _ => False
theorem ds_pass : DS X (.Pass pos) dNext := psW ps_pass fun E σ H ⟨ρ, S, De, re, rs, q, k⟩ => k.nx _ _ _ _ q (.refl rs) re
theorem ds_break : DS X (.Break pos) dBreak := psW ps_break fun E σ H ⟨ρ, S, De, re, rs, q, k⟩ => k.bk _ _ _ _ q (.refl rs) re
theorem ds_continue : DS X (.Continue pos) dCont := psW ps_continue fun E σ H ⟨ρ, S, De, re, rs, q, k⟩ => k.ct _ _ _ _ q (.refl rs) re
theorem ds_never : DS X st dNever := psW ps_never fun E σ H ⟨ρ, S, De, re, rs, q, k⟩ => q.elim
theorem dss_never {sts : List Stmt} : DSs X sts dNever := pssW pss_never fun E σ H ⟨ρ, S, De, re, rs, q, k⟩ => q.elim
def dDrop (δ : TED) : TSD := fun De ρ S => δ ρ S fun _ S1 => De.nx ρ S1
theorem ds_expr (he : DE X e δ) (hs : swapsWith e none pos.line X.env = pure false := by rfl) : DS X (.Expr e pos) (dDrop δ) := psW (ps_expr he hs) fun E σ H ⟨ρ, S, De, re, rs, q, k⟩ =>
  ⟨ρ, S, _, re, rs, q, fun d S1 v H1 q1 g1 r1 => k.nx _ _ _ _ q1 g1 (re.tp g1.tp)⟩
def dRet (δ : TED) : TSD := fun De ρ S => δ ρ S De.rt
theorem ds_ret (he : DE X e δ) : DS X (.Return (some e) pos) (dRet δ) := psW (ps_ret he) fun E σ H ⟨ρ, S, De, re, rs, q, k⟩ =>
  ⟨ρ, S, _, re, rs, q, fun d S1 v H1 q1 g1 r1 => k.rt _ _ _ _ q1 g1 r1⟩
def dRetN : TSD := fun De ρ S => De.rt .non S
theorem ds_retN : DS X (.Return none pos) dRetN := psW ps_retN fun E σ H ⟨ρ, S, De, re, rs, q, k⟩ => k.rt _ _ _ _ q (.refl rs) (by rw [RD])
def dIfS (t : TTD) (u w : TSD) : TSD := fun De ρ S => t ρ S fun b S1 => match b with
  | true => u De ρ S1
  | false => w De ρ S1
theorem ds_if {sa sb : List Stmt} (hc : DT X c θ) (ha : DSs X sa τ1) (hb : DSs X sb τ2) : DS X (.If c sa sb pos) (dIfS θ τ1 τ2) := psW (ps_if hc ha hb) fun E σ H ⟨ρ, S, De, re, rs, q, k⟩ => by
  refine ⟨ρ, S, _, re, rs, q, fun b S1 H1 q1 g1 => ?_⟩
  cases b with
  | true => exact ⟨ρ, S1, De, re.tp g1.tp, g1.rs, q1, k.go g1⟩
  | false => exact ⟨ρ, S1, De, re.tp g1.tp, g1.rs, q1, k.go g1⟩

/-! ### stores -/
def dAsg (i : Nat) (δ : TED) : TSD := fun De ρ S => δ ρ S fun d S1 => De.nx (ρ.set i (some d)) S1
theorem ds_set (i : Nat) {x : Str} {pos' : Pos} (hN : X.N.Nodup) (he : DE X e δ) (hi : X.N[i]? = some x := by rfl) (hx : Loc X.env.scope x := by first | exact Or.inl rfl | exact Or.inr rfl) (hs : swapsWith e (some (.Name x pos')) pos.line X.env = pure false := by rfl)
    (hf : X.fn x = true ∨ X.env.scope.names.lookup x = some .local := by first | exact .inl rfl | exact .inr rfl | assumption) : DS X (.Assign [.Name x pos'] e pos) (dAsg i δ) :=
  psW (ps_set hN hi hx he hs hf) fun E σ H ⟨ρ, S, De, re, rs, q, k⟩ => ⟨ρ, S, _, re, rs, q, fun d S1 v H1 q1 g1 r1 => k.nx _ _ _ _ q1 g1 ((re.tp g1.tp).set i r1)⟩
abbrev TGD := D → DEnv → Sto → (DEnv → Sto → Prop) → Prop
abbrev TGsD := List D → DEnv → Sto → (DEnv → Sto → Prop) → Prop
/-- but for the slots in L as it was -/
def Alk (L : List Nat) (σ σ' : L2.St) : Prop := ∀ vs : List Nat, (∀ i ∈ L, i ∈ vs) → wipe σ' vs = wipe σ vs
theorem wipe_get (σ : L2.St) (j : Nat) : ∀ vs : List Nat, (wipe σ vs)[j]? = if j ∈ vs then σ[j]?.map (fun _ => none) else σ[j]?
  | [] => by simp [L2.wipe]
  | v :: vs => by
    have ih := wipe_get σ j vs
    unfold L2.wipe
    rw [List.getElem?_set]
    by_cases h : v = j
    · subst h
      rw [if_pos rfl, wipe_length, if_pos (List.mem_cons_self ..)]
      by_cases hl : v < σ.length
      · rw [if_pos hl, List.getElem?_eq_getElem hl]; rfl
      · rw [if_neg hl, List.getElem?_eq_none (by omega)]; rfl
    · rw [if_neg h, ih]
      have e : (j ∈ v :: vs) = (j ∈ vs) := by
        simp [Ne.symm h]
      simp only [e]
theorem alk_set (i : Nat) (σ : L2.St) (x : Option V) : Alk [i] σ (σ.set i x) := fun vs h => by
  apply List.ext_getElem?
  intro j
  rw [wipe_get, wipe_get]
  by_cases hj : j ∈ vs
  · rw [if_pos hj, if_pos hj, List.getElem?_set]
    by_cases h2 : i = j
    · subst h2
      rw [if_pos rfl]
      by_cases hl : i < σ.length
      · rw [if_pos hl, List.getElem?_eq_getElem hl]; rfl
      · rw [if_neg hl, List.getElem?_eq_none (by omega)]
    · rw [if_neg h2]
  · rw [if_neg hj, if_neg hj, List.getElem?_set_ne]
    intro z
    exact hj (z ▸ h i (List.mem_singleton.mpr rfl))
theorem Alk.refl (σ : L2.St) : Alk [] σ σ := fun _ _ => rfl
theorem Alk.trans {L M : List Nat} {σ σ1 σ2 : L2.St} (a : Alk L σ σ1) (b : Alk M σ1 σ2) : Alk (L ++ M) σ σ2 := fun vs h =>
  (b vs fun i hi => h i (List.mem_append_right _ hi)).trans (a vs fun i hi => h i (List.mem_append_left _ hi))
def AftG (K : PySem.W.Frag) (L : List Nat) (S : Sto) (H : Hp) (σ : L2.St) (Qd : DEnv → Sto → Prop) (Q : L2.St → Hp → Prop) : Prop := ∀ ρ' S' σ' H', Qd ρ' S' → Go K S H S' H' → RE K S' H' ρ' σ' → Alk L σ σ' → Q σ' H'
def LG (K : PySem.W.Frag) (L : List Nat) (γ : TGD) : TG := fun v σ H Q => ∃ d ρ S Qd, RD K S H d v ∧ RE K S H ρ σ ∧ RS K S H ∧ γ d ρ S Qd ∧ AftG K L S H σ Qd Q
def LGs (K : PySem.W.Frag) (L : List Nat) (γ : TGsD) : TGs := fun vs σ H Q => ∃ ds ρ S Qd, RDs K S H ds vs ∧ RE K S H ρ σ ∧ RS K S H ∧ γ ds ρ S Qd ∧ AftG K L S H σ Qd Q
abbrev DG (X : Cx) (t : Expr) (L : List Nat) (γ : TGD) : Prop := PG X t (LG X.K L γ)
abbrev DGs (X : Cx) (ts : List Expr) (L : List Nat) (γ : TGsD) : Prop := PGs X ts (LGs X.K L γ)
theorem pgW {t t' : TG} (h : PG X e t) (w : ∀ v σ H Q, t' v σ H Q → t v σ H Q) : PG X e t' := ⟨fun pins s σ H v u Q I r q => h.run pins s σ H v u Q I r (w v σ H Q q)⟩
theorem pgsW {t t' : TGs} (h : PGs X es t) (w : ∀ v σ H Q, t' v σ H Q → t v σ H Q) : PGs X es t' := ⟨fun pins s σ H v u Q I r q => h.run pins s σ H v u Q I r (w v σ H Q q)⟩
def gN (i : Nat) : TGD := fun d ρ S Q => Q (ρ.set i (some d)) S
theorem dg_name (i : Nat) {x : Str} (hN : X.N.Nodup) (hi : X.N[i]? = some x := by rfl) (hx : Loc X.env.scope x := by first | exact Or.inl rfl | exact Or.inr rfl) (hf : X.fn x = true ∨ X.env.scope.names.lookup x = some .local := by first | exact .inl rfl | exact .inr rfl | assumption) :
    DG X (.Name x pos) [i] (gN i) := pgW (pg_name hN hi hx hf) fun v σ H Q ⟨d, ρ, S, Qd, r, re, rs, q, k⟩ => k _ _ _ _ q (.refl rs) (re.set i r) (alk_set i σ _)
def gsNil : TGsD := fun ds ρ S Q => match ds with
  | [] => Q ρ S
  | _ => False
def gsCons (γ : TGD) (γs : TGsD) : TGsD := fun ds ρ S Q => match ds with
  | d :: r => γ d ρ S fun ρ' S' => γs r ρ' S' Q
  | [] => False
theorem dgs_nil : DGs X [] [] gsNil := pgsW pgs_nil fun v σ H Q ⟨ds, ρ, S, Qd, r, re, rs, q, k⟩ => by
  cases ds with
  | nil => exact ⟨RDs.nil.mp r, k _ _ _ _ q (.refl rs) re (Alk.refl σ)⟩
  | cons _ _ => exact q.elim
theorem dgs_cons {γ : TGD} {γs : TGsD} {L M : List Nat} (h1 : DG X e L γ) (h2 : DGs X es M γs) (hs : (assignEach (e :: es) X.env).map (·.2) = assign e X.env :: (assignEach es X.env).map (·.2) := by rfl) : DGs X (e :: es) (L ++ M) (gsCons γ γs) :=
  pgsW (pgs_cons h1 h2 hs) fun vs σ H Q ⟨ds, ρ, S, Qd, r, re, rs, q, k⟩ => by
    cases ds with
    | nil => exact q.elim
    | cons d ds =>
      rw [RDs] at r
      obtain ⟨v, vr, rfl, r1, r2⟩ := r
      refine ⟨v, vr, rfl, d, ρ, S, _, r1, re, rs, q, fun ρ' S' σ' H' q' g' re' al => ?_⟩
      exact ⟨ds, ρ', S', Qd, r2.tp g'.tp, re', g'.rs, q', fun a b c d x y z w => k a b c d x (g'.trans y) z (al.trans w)⟩
def gT (n : Nat) (γs : TGsD) : TGD := fun d ρ S Q => match d with
  | .tup ds => ds.length = n ∧ γs ds ρ S Q
  | _ => False
theorem dg_tup {γs : TGsD} {L : List Nat} {k n : Nat} (h : DGs X es L γs) (hc : X.calm = true := by rfl) (hn : (assignEach es X.env).length = n := by rfl) (hst : (assignEach es X.env).findIdx? (·.1) = none := by rfl) : DG X (.Tuple es k pos) L (gT n γs) :=
  pgW (pg_tup hc h hn hst) fun v σ H Q ⟨d, ρ, S, Qd, r, re, rs, q, kk⟩ => by
    cases d with
    | tup ds =>
      rw [RD] at r
      obtain ⟨a, vs, rfl, r1, r2⟩ := r
      exact ⟨a, vs, rfl, r1, by rw [r2.len]; exact q.1, ds, ρ, S, Qd, r2, re, rs, q.2, kk⟩
    | _ => exact q.elim
def dAsgG (γ : TGD) (δ : TED) : TSD := fun De ρ S => δ ρ S fun d S1 => γ d ρ S1 De.nx
theorem ds_asg {tg : Expr} {γ : TGD} {L : List Nat} (he : DE X e δ) (hg : DG X tg L γ) (hs : swapsWithSole [tg] e pos.line X.env = pure false := by rfl) (hw : swappedStores [tg] e X.env = pure none := by rfl)
    (h1 : (assignEach [tg] X.env).map (·.2) = [assign tg X.env] := by rfl) : DS X (.Assign [tg] e pos) (dAsgG γ δ) := psW (ps_asg he hg hs hw h1) fun E σ H ⟨ρ, S, De, re, rs, q, k⟩ =>
  ⟨ρ, S, _, re, rs, q, fun d S1 v H1 q1 g1 r1 => ⟨d, ρ, S1, _, r1, re.tp g1.tp, g1.rs, q1, fun a b c d x y z _ => k.nx a b c d x (g1.trans y) z⟩⟩
/-- a, b = x, y -/
def dPar2 (i j : Nat) (α : TAD) : TSD := fun De ρ S => α ρ S fun ds S1 => match ds with
  | [d, e] => De.nx ((ρ.set i (some d)).set j (some e)) S1
  | _ => False
theorem ds_par2 (i j : Nat) {x y : Str} {px py pt : Pos} {kt k2 pt2} (hN : X.N.Nodup) (ha : DA X [a, b] α) (hc : X.calm = true := by rfl) (hi : X.N[i]? = some x := by rfl) (hj : X.N[j]? = some y := by rfl) (hij : i ≠ j := by decide)
    (hx : X.env.scope.names.lookup x = some .local := by rfl) (hy : X.env.scope.names.lookup y = some .local := by rfl)
    (hw : swappedStores [.Tuple [.Name x px, .Name y py] kt pt] (.Tuple [a, b] k2 pt2) X.env = pure (some [x, y]) := by rfl)
    (hs : swapsWithSole [.Tuple [.Name x px, .Name y py] kt pt] (.Tuple [a, b] k2 pt2) pos.line X.env = pure false := by rfl) :
    DS X (.Assign [.Tuple [.Name x px, .Name y py] kt pt] (.Tuple [a, b] k2 pt2) pos) (dPar2 i j α) := psW (ps_par hc hN hi hj hij hx hy ha hw hs) fun E σ H ⟨ρ, S, De, re, rs, q, k⟩ => by
  refine ⟨ρ, S, _, re, rs, q, fun ds S1 vs H1 q1 g1 r1 => ?_⟩
  try dsimp only at q1
  split at q1
  · obtain ⟨v, w, rfl, r2, r3⟩ := r1.two
    exact ⟨v, w, rfl, k.nx _ _ _ _ q1 g1 (((re.tp g1.tp).set i r2).set j r3)⟩
  · exact q1.elim
def dPar3 (i j l : Nat) (α : TAD) : TSD := fun De ρ S => α ρ S fun ds S1 => match ds with
  | [d, e, f] => De.nx (((ρ.set i (some d)).set j (some e)).set l (some f)) S1
  | _ => False
/-- name op= e -/
def dAug (i : Nat) (o : R2D) (δ : TED) : TSD := fun De ρ S => match ρ[i]? with
  | some (some d) => δ ρ S fun e S1 => o d e S1 fun z S2 => De.nx (ρ.set i (some z)) S2
  | _ => False
theorem ds_aug (i : Nat) {x : Str} {op : Operator} {o : R2D} {pos' : Pos} (hN : X.N.Nodup) (ho : OpD X (inplaceOp op) o) (he : DE X e δ) (hi : X.N[i]? = some x := by rfl) (hx : Loc X.env.scope x := by first | exact Or.inl rfl | exact Or.inr rfl)
    (hf : X.fn x = true ∨ X.env.scope.names.lookup x = some .local := by first | exact .inl rfl | exact .inr rfl | assumption) : DS X (.AugAssign (.Name x pos') op e pos) (dAug i o δ) := psW (ps_aug hN hi hx he (ti := Lf2 X.K o) ho hf) fun E σ H ⟨ρ, S, De, re, rs, q, k⟩ => by
  unfold dAug at q
  split at q
  · rename_i d hd
    obtain ⟨v, e1, r1⟩ := re.2 i d hd
    refine ⟨v, e1, ρ, S, _, re, rs, q, fun e' S1 w H1 q1 g1 r2 => ?_⟩
    exact ⟨d, e', S1, _, r1.tp g1.tp, r2, g1.rs, q1, fun z S2 u H2 q2 g2 r3 => k.nx _ _ _ _ q2 (g1.trans g2) ((re.tp (g1.trans g2).tp).set i r3)⟩
  · exact q.elim
/-- o[i] = e; o[i] op= e -/
abbrev TSetD := D → D → D → Sto → (Sto → Prop) → Prop
def LfSet (K : PySem.W.Frag) (o : TSetD) : TSet := fun x y z H Q => ∃ d e f S Qd, RD K S H d x ∧ RD K S H e y ∧ RD K S H f z ∧ RS K S H ∧ o d e f S Qd ∧ ∀ S' H', Qd S' → Go K S H S' H' → Q H'
abbrev SetD (X : Cx) (o : TSetD) : Prop := PSet X (LfSet X.K o)
theorem setD_of {r : TSet} {o : TSetD} (h : PSet X r) (w : ∀ d e f x y z S H Qd Q, RD X.K S H d x → RD X.K S H e y → RD X.K S H f z → RS X.K S H → o d e f S Qd → (∀ S' H', Qd S' → Go X.K S H S' H' → Q H') → r x y z H Q) : SetD X o :=
  fun pins s σ H x y z ov iv u Q I r1 r2 r3 ⟨d, e, f, S, Qd, q1, q2, q3, rs, q, k⟩ => h pins s σ H x y z ov iv u Q I r1 r2 r3 (w d e f x y z S H Qd Q q1 q2 q3 rs q k)
theorem setD_or {o o' : TSetD} (h : SetD X o) (h' : SetD X o') : SetD X (fun d e f S Q => o d e f S Q ∨ o' d e f S Q) := by
  intro pins s σ H x y z ov iv u Q I r1 r2 r3 ⟨d, e, f, S, Qd, q1, q2, q3, rs, q, k⟩
  rcases q with q | q
  · exact h pins s σ H x y z ov iv u Q I r1 r2 r3 ⟨d, e, f, S, Qd, q1, q2, q3, rs, q, k⟩
  · exact h' pins s σ H x y z ov iv u Q I r1 r2 r3 ⟨d, e, f, S, Qd, q1, q2, q3, rs, q, k⟩
def gSb (δo δi : TED) (o : TSetD) : TGD := fun f ρ S Q => δo ρ S fun d S1 => δi ρ S1 fun e S2 => o d e f S2 fun S3 => Q ρ S3
theorem dg_sub {ob ix : Expr} {o : TSetD} {δo δi : TED} (ho : DE X ob δo) (hi : DE X ix δi) (hs : SetD X o)
    (ha : ∀ v, assign (.Subscript ob ix pos) X.env v = (do
      let ov ← holding [v] (eval ob X.env)
      let iv ← holding [v, ov] (eval ix X.env)
      standAt pos
      holding [v, ov, iv] (setItem ov iv v)
      release [v, ov, iv] []) := by intro _; rfl) : DG X (.Subscript ob ix pos) [] (gSb δo δi o) := pgW (pg_sub ho hi hs ha) fun v σ H Q ⟨f, ρ, S, Qd, r, re, rs, q, k⟩ => by
  refine ⟨ρ, S, _, re, rs, q, fun d S1 v1 H1 q1 g1 r1 => ?_⟩
  refine ⟨ρ, S1, _, re.tp g1.tp, g1.rs, q1, fun e S2 v2 H2 q2 g2 r2 => ?_⟩
  exact ⟨d, e, f, S2, _, r1.tp g2.tp, r2, r.tp (g1.trans g2).tp, g2.rs, q2, fun S3 H3 q3 g3 => k _ _ _ _ q3 ((g1.trans g2).trans g3) (re.tp ((g1.trans g2).trans g3).tp) (Alk.refl σ)⟩
/-- o[i], by values (for o[i] op= e) -/
abbrev GetD (X : Cx) (o : R2D) : Prop := PGet X (Lf2 X.K o)
def dAugS (δo δi δ : TED) (og oi : R2D) (os : TSetD) : TSD := fun De ρ S => δo ρ S fun d S1 => δi ρ S1 fun i S2 => og d i S2 fun x S3 => δ ρ S3 fun y S4 => oi x y S4 fun z S5 => os d i z S5 fun S6 => De.nx ρ S6
theorem ds_augS {ob ix : Expr} {δo δi : TED} {og oi : R2D} {os : TSetD} {op : Operator} {tpos : Pos} (ho : DE X ob δo) (hi : DE X ix δi) (hg : GetD X og) (he : DE X e δ) (hp : OpD X (inplaceOp op) oi) (hs : SetD X os)
    (ha : ∀ ov iv new, augStore ix ov iv new = (do holding [new, ov, iv] (setItem ov iv new); release [new, ov, iv] []; pure .next) := by intros; rfl) : DS X (.AugAssign (.Subscript ob ix tpos) op e pos) (dAugS δo δi δ og oi os) :=
  psW (ps_augS ho hi hg he (tip := Lf2 X.K oi) hp hs ha) fun E σ H ⟨ρ, S, De, re, rs, q, k⟩ => by
    refine ⟨ρ, S, _, re, rs, q, fun d S1 v1 H1 q1 g1 r1 => ?_⟩
    refine ⟨ρ, S1, _, re.tp g1.tp, g1.rs, q1, fun i S2 v2 H2 q2 g2 r2 => ?_⟩
    refine ⟨d, i, S2, _, r1.tp g2.tp, r2, g2.rs, q2, fun x S3 v3 H3 q3 g3 r3 => ?_⟩
    have g13 := (g1.trans g2).trans g3
    refine ⟨ρ, S3, _, re.tp g13.tp, g3.rs, q3, fun y S4 v4 H4 q4 g4 r4 => ?_⟩
    refine ⟨x, y, S4, _, r3.tp g4.tp, r4, g4.rs, q4, fun z S5 v5 H5 q5 g5 r5 => ?_⟩
    have g25 := (g2.trans g3).trans (g4.trans g5)
    refine ⟨d, i, z, S5, _, r1.tp g25.tp, r2.tp ((g3.trans g4).trans g5).tp, r5, g5.rs, q5, fun S6 H6 q6 g6 => ?_⟩
    exact k.nx _ _ _ _ q6 (g1.trans (g25.trans g6)) (re.tp (g1.trans (g25.trans g6)).tp)

/-! ### what is walked -/
structure ItD where
  xs : List D
  ok : Sto → Prop
structure Wk (K : PySem.W.Frag) (J : It) (it : ItD) (S : Sto) (H : Hp) : Prop where
  go : ∀ i x S' H', it.xs[i]? = some x → Tp S H S' H' → RS K S' H' → it.ok S' → J.go i H' ∧ ∀ v H2, J.yld i H' v H2 → Go K S' H' S' H2 ∧ RD K S' H2 x v
  stop : ∀ S' H', Tp S H S' H' → RS K S' H' → it.ok S' → J.stop it.xs.length H'
abbrev TID := DEnv → Sto → (ItD → Sto → Prop) → Prop
def LI (K : PySem.W.Frag) (ι : TID) : TI := fun σ H R => ∃ ρ S Qd, RE K S H ρ σ ∧ RS K S H ∧ ι ρ S Qd ∧ ∀ it S' H' J, Qd it S' → Go K S H S' H' → Wk K J it S' H' → R J H'
abbrev DI (X : Cx) (tg iter : Expr) (ι : TID) : Prop := PI X tg iter (LI X.K ι)
theorem piW {tg iter : Expr} {t t' : TI} (h : PI X tg iter t) (w : ∀ σ H Q, t' σ H Q → t σ H Q) : PI X tg iter t' := ⟨fun pins s σ H Q I q => h.run pins s σ H Q I (w σ H Q q)⟩
/-- a tuple, a list that nobody changes; a tracked list must stand -/
def Sto.itOf (S : Sto) : D → Option ItD
  | .tup ds => some ⟨ds, fun _ => True⟩
  | .fz ds => some ⟨ds, fun _ => True⟩
  | .lst ds => some ⟨ds, fun _ => True⟩
  | .ref p => match S p with
    | some (.lst ds) => some ⟨ds, fun S' => S' p = some (.lst ds)⟩
    | _ => none
  | _ => none
/-- the source, seen from any later time -/
theorem src_at {K : PySem.W.Frag} {S : Sto} {H : Hp} {d : D} {v : V} {it : ItD} (h : S.itOf d = some it) (rd : RD K S H d v) (rs : RS K S H) :
    ∃ b a, v = .ref a ∧ it.ok S ∧ ∀ S' H', Tp S H S' H' → RS K S' H' → it.ok S' → ∃ vs, Sq b K H' a vs ∧ RDs K S' H' it.xs vs := by
  cases d with
  | tup es =>
    have e := Option.some.inj h
    subst e
    rw [RD] at rd
    obtain ⟨a, vs, h1, h2, h3⟩ := rd
    exact ⟨false, a, h1, trivial, fun S' H' tp _ _ => ⟨vs, tp.sqt h2, h3.tp tp⟩⟩
  | fz es =>
    have e := Option.some.inj h
    subst e
    rw [RD] at rd
    obtain ⟨a, vs, h1, h2, h3⟩ := rd
    exact ⟨true, a, h1, trivial, fun S' H' tp _ _ => ⟨vs, KL.sq (h2.imp (fun ⟨o, q⟩ => ⟨o, tp.frz _ _ _ q⟩) id), h3.tp tp⟩⟩
  | lst es =>
    have e := Option.some.inj h
    subst e
    rw [RD] at rd
    obtain ⟨a, vs, h1, h0, h2, h3⟩ := rd
    exact ⟨true, a, h1, trivial, fun S' H' tp _ _ => ⟨vs, .inl (.inl (tp.old _ _ h0 h2).2), h3.tp tp⟩⟩
  | ref p =>
    rw [RD] at rd
    have h' : (match S p with
      | some (.lst ds) => some (⟨ds, fun S' => S' p = some (.lst ds)⟩ : ItD)
      | _ => none) = some it := h
    split at h'
    · rename_i es he
      have e := Option.some.inj h'
      subst e
      refine ⟨true, p, rd, he, fun S' H' tp rs' ok => ?_⟩
      obtain ⟨vs, h1, h2⟩ := rs' p _ ok
      exact ⟨vs, .inl (.inl h1), h2⟩
    · cases h'
  | _ => cases h
def itSq (b : Bool) (K : PySem.W.Frag) (a : Addr) : It := match b with
  | true => Itl K a
  | false => Itt K a
def iSq (K : PySem.W.Frag) (tl : TE) : TI := fun σ H R => tl σ H fun x H1 => ∃ b a, x = .ref a ∧ (∃ xs, Sq b K H1 a xs) ∧ R (itSq b K a) H1
theorem pi_sq {tg l : Expr} {tl : TE} (hl : PE X l tl) : PI X tg l (iSq X.K tl) := by
  refine ⟨fun pins s σ H R I h => ?_⟩
  refine thn (hl.run pins s σ H _ I h) fun v s1 ⟨x, H1, I1, r1, b, a, e, ⟨xs, hq⟩, q⟩ => ?_
  subst e
  cases b with
  | true =>
    cases r1
    obtain ⟨its, rv, p, hz⟩ := I1.list hq
    refine wpAny_pyIter_list p.isList ?_
    refine ⟨s1.heap.objs.size, [s1.heap.objs.size], _, _, H1, rfl, I1.kept (t' := s1.toks) fun b o e => Heap.get?_push_of_some _ e, turn_list a _, ⟨_, Heap.get?_push_size _ rfl, rfl, rfl⟩, fun b hb => ?_, q⟩
    have e : b = s1.heap.objs.size := by simpa using hb
    subst e
    exact I1.fpOk (Nat.le_refl _) (I1.hok.fresh (Nat.le_refl _))
  | false =>
    cases r1
    obtain ⟨its, rv, p, hz⟩ := I1.tuple hq
    refine wpAny_pyIter_tuple (show s1.heap.IsTuple a its.toArray from p) ?_
    refine ⟨s1.heap.objs.size, [s1.heap.objs.size], _, _, H1, rfl, I1.kept (t' := s1.toks) fun b o e => Heap.get?_push_of_some _ e, turn_tuple a _, ⟨_, Heap.get?_push_size _ rfl, rfl, rfl⟩, fun b hb => ?_, q⟩
    have e : b = s1.heap.objs.size := by simpa using hb
    subst e
    exact I1.fpOk (Nat.le_refl _) (I1.hok.fresh (Nat.le_refl _))

def dIt (δ : TED) : TID := fun ρ S Q => δ ρ S fun x S1 => match S1.itOf x with
  | some it => Q it S1
  | none => False
theorem wk_sq {K : PySem.W.Frag} {S : Sto} {H : Hp} {it : ItD} {b : Bool} {a : Addr} (h : ∀ S' H', Tp S H S' H' → RS K S' H' → it.ok S' → ∃ vs, Sq b K H' a vs ∧ RDs K S' H' it.xs vs) : Wk K (itSq b K a) it S H := by
  refine ⟨fun i x S' H' hx tp rs ok => ?_, fun S' H' tp rs ok => ?_⟩
  · obtain ⟨vs, h1, h2⟩ := h S' H' tp rs ok
    obtain ⟨v, e1, r1⟩ := h2.get hx
    cases b with
    | true =>
      refine ⟨⟨vs, v, h1, e1⟩, fun w H2 y => ?_⟩
      obtain ⟨rfl, y⟩ := y
      have e2 := y vs h1
      rw [e1] at e2; cases e2
      exact ⟨.refl rs, r1⟩
    | false =>
      refine ⟨⟨vs, v, h1, e1⟩, fun w H2 y => ?_⟩
      obtain ⟨rfl, y⟩ := y
      have e2 := y vs h1
      rw [e1] at e2; cases e2
      exact ⟨.refl rs, r1⟩
  · obtain ⟨vs, h1, h2⟩ := h S' H' tp rs ok
    cases b with
    | true => exact ⟨vs, h1, Nat.le_of_eq h2.len⟩
    | false => exact ⟨vs, h1, Nat.le_of_eq h2.len⟩
theorem di_sq {tg l : Expr} (hl : DE X l δ) : DI X tg l (dIt δ) := piW (pi_sq hl) fun σ H R ⟨ρ, S, Qd, re, rs, q, k⟩ => by
  refine ⟨ρ, S, _, re, rs, q, fun d S1 v H1 q1 g1 r1 => ?_⟩
  try dsimp only at q1
  split at q1
  · rename_i it hit
    obtain ⟨b, a, e, ok, sr⟩ := src_at hit r1 g1.rs
    obtain ⟨vs, h1, _⟩ := sr S1 H1 Tp.refl g1.rs ok
    exact ⟨b, a, e, ⟨vs, h1⟩, k _ _ _ _ q1 g1 (wk_sq sr)⟩
  · exact q1.elim
/-- enumerate(l) -/
def enumFrom (n : Nat) : List D → List D
  | [] => []
  | d :: ds => .tup [.int (n : Int), d] :: enumFrom (n + 1) ds
theorem enumFrom_get : ∀ (ds : List D) (n i : Nat), (enumFrom n ds)[i]? = ds[i]?.map fun d => .tup [.int ((n + i : Nat) : Int), d]
  | [], n, i => by simp [enumFrom]
  | d :: ds, n, 0 => by simp [enumFrom]
  | d :: ds, n, i + 1 => by
    rw [enumFrom, List.getElem?_cons_succ, List.getElem?_cons_succ, enumFrom_get ds (n + 1) i]
    have e : n + 1 + i = n + (i + 1) := by omega
    rw [e]
theorem enumFrom_len : ∀ (ds : List D) (n : Nat), (enumFrom n ds).length = ds.length
  | [], _ => rfl
  | d :: ds, n => by rw [enumFrom, List.length_cons, List.length_cons, enumFrom_len ds]
def dEnum (δ : TED) : TID := fun ρ S Q => δ ρ S fun x S1 => match S1.itOf x with
  | some it => Q ⟨enumFrom 0 it.xs, it.ok⟩ S1
  | none => False
theorem RD.int {K : PySem.W.Frag} {S : Sto} {H : Hp} {i : Int} : RD K S H (.int i) (.int i) := by rw [RD]
theorem RD.pair {K : PySem.W.Frag} {S : Sto} {H : Hp} {d e : D} {v w : V} {T : Addr} (hT : H T = some (.tup [v, w])) (h1 : RD K S H d v) (h2 : RD K S H e w) : RD K S H (.tup [d, e]) (.ref T) := by
  rw [RD]; exact ⟨T, [v, w], rfl, .of hT, RDs.cons h1 (RDs.cons h2 (RDs.nil.mpr rfl))⟩
theorem di_enum {elts : List Expr} {kk : Nat} {tpos p : Pos} (hm : X.mg "enumerate" = none) (hl : DE X e δ) (hg : Gl X "enumerate" := by rfl) (hs : starEach [e] X.env = [(false, eval e X.env)] := by rfl) :
    DI X (.Tuple elts kk tpos) (.Call (.Name "enumerate" p) [e] [] pos) (dEnum δ) := piW (pi_E hg hm (ha := pa_cons hl pa_nil hs) hs) fun σ H R ⟨ρ, S, Qd, re, rs, q, k⟩ => by
  refine ⟨ρ, S, _, re, rs, q, fun d S1 v H1 q1 g1 r1 => ?_⟩
  try dsimp only at q1
  split at q1
  · rename_i it hit
    obtain ⟨b, a, rfl, ok, sr⟩ := src_at hit r1 g1.rs
    obtain ⟨vs, h1, _⟩ := sr S1 H1 Tp.refl g1.rs ok
    refine ⟨b, a, vs, rfl, h1, k _ _ _ _ q1 g1 ⟨fun i x S' H' hx tp rs' ok' => ?_, fun S' H' tp rs' ok' => ?_⟩⟩
    · obtain ⟨vs', h1', h2'⟩ := sr S' H' tp rs' ok'
      rw [enumFrom_get] at hx
      cases e : it.xs[i]? with
      | none => rw [e] at hx; cases hx
      | some y =>
        rw [e] at hx
        cases hx
        obtain ⟨w, e1, rw1⟩ := h2'.get e
        refine ⟨⟨vs', w, h1', e1⟩, fun u H2 yy => ?_⟩
        obtain ⟨T, x', rfl, nT, rfl, hy⟩ := yy
        have e2 := hy vs' h1'
        rw [e1] at e2; cases e2
        have g : Go X.K S' H' S' (upd H' T (.tup [.int (i : Nat), w])) := Go.fresh rs' nT
        refine ⟨g, RD.pair upd_same ?_ (rw1.tp g.tp)⟩
        rw [Nat.zero_add]
        exact RD.int
    · obtain ⟨vs', h1', h2'⟩ := sr S' H' tp rs' ok'
      exact ⟨vs', h1', by rw [enumFrom_len]; exact h2'.len⟩
  · exact q1.elim
/-- zip(l, m) -/
def dZip2 (δa δb : TED) : TID := fun ρ S Q => δa ρ S fun x S1 => δb ρ S1 fun y S2 => match S2.itOf x, S2.itOf y with
  | some i, some j => Q ⟨List.zipWith (fun d e => .tup [d, e]) i.xs j.xs, fun S' => i.ok S' ∧ j.ok S'⟩ S2
  | _, _ => False
theorem di_zip2 {e2 : Expr} {elts : List Expr} {kk : Nat} {tpos p : Pos} (hm : X.mg "zip" = none) (hl : DE X e δa) (hl2 : DE X e2 δb) (hg : Gl X "zip" := by rfl) (hs2 : starEach [e2] X.env = (false, eval e2 X.env) :: starEach [] X.env := by rfl)
    (hs : starEach [e, e2] X.env = (false, eval e X.env) :: starEach [e2] X.env := by rfl) (hpl : (backTo pos (starEach [e2] X.env)).any (·.1) = false := by rfl) :
    DI X (.Tuple elts kk tpos) (.Call (.Name "zip" p) [e, e2] [] pos) (dZip2 δa δb) := piW (pi_Z2 hg hm (ha := pa_cons hl (pa_cons hl2 pa_nil hs2) hs) hs hpl) fun σ H R ⟨ρ, S, Qd, re, rs, q, k⟩ => by
  refine ⟨ρ, S, _, re, rs, q, fun d S1 v H1 q1 g1 r1 => ?_⟩
  refine ⟨ρ, S1, _, re.tp g1.tp, g1.rs, q1, fun d' S2 v' H2 q2 g2 r2 => ?_⟩
  try dsimp only at q2
  split at q2
  · rename_i it jt hit hjt
    obtain ⟨b, a, rfl, ok, sr⟩ := src_at hit (r1.tp g2.tp) g2.rs
    obtain ⟨b', a', rfl, ok2, sr2⟩ := src_at hjt r2 g2.rs
    obtain ⟨vs, h1, _⟩ := sr S2 H2 Tp.refl g2.rs ok
    obtain ⟨vs2, h12, _⟩ := sr2 S2 H2 Tp.refl g2.rs ok2
    refine ⟨b, b', a, a', vs, vs2, rfl, h1, h12, k _ _ _ _ q2 (g1.trans g2) ⟨fun i x S' H' hx tp rs' ok' => ?_, fun S' H' tp rs' ok' => ?_⟩⟩
    · obtain ⟨ws, s1, s2⟩ := sr S' H' tp rs' ok'.1
      obtain ⟨ws2, s12, s22⟩ := sr2 S' H' tp rs' ok'.2
      rw [List.getElem?_zipWith] at hx
      cases e1 : it.xs[i]? with
      | none => rw [e1] at hx; cases hx
      | some y =>
        cases e2 : jt.xs[i]? with
        | none => rw [e1, e2] at hx; cases hx
        | some y2 =>
          rw [e1, e2] at hx
          cases hx
          obtain ⟨w, f1, rw1⟩ := s2.get e1
          obtain ⟨w2, f2, rw2⟩ := s22.get e2
          refine ⟨⟨ws, ws2, w, w2, s1, s12, f1, f2⟩, fun u H3 yy => ?_⟩
          obtain ⟨T, x', y', rfl, nT, rfl, hy, hy2⟩ := yy
          have e3 := hy ws s1
          rw [f1] at e3; cases e3
          have e4 := hy2 ws2 s12
          rw [f2] at e4; cases e4
          have g : Go X.K S' H' S' (upd H' T (.tup [w, w2])) := Go.fresh rs' nT
          exact ⟨g, RD.pair upd_same (rw1.tp g.tp) (rw2.tp g.tp)⟩
    · obtain ⟨ws, s1, s2⟩ := sr S' H' tp rs' ok'.1
      obtain ⟨ws2, s12, s22⟩ := sr2 S' H' tp rs' ok'.2
      have l1 := s2.len
      have l2 := s22.len
      refine ⟨ws, ws2, s1, s12, ?_, ?_, ?_⟩ <;> rw [List.length_zipWith] <;> omega
  · exact q2.elim
def dZip3 (δa δb δc : TED) : TID := fun ρ S Q => δa ρ S fun x S1 => δb ρ S1 fun y S2 => δc ρ S2 fun z S3 => match S3.itOf x, S3.itOf y, S3.itOf z with
  | some i, some j, some l => Q ⟨List.zipWith (fun d (e : D × D) => .tup [d, e.1, e.2]) i.xs (List.zip j.xs l.xs), fun S' => i.ok S' ∧ j.ok S' ∧ l.ok S'⟩ S3
  | _, _, _ => False
theorem di_zip3 {e2 e3 : Expr} {elts : List Expr} {kk : Nat} {tpos p : Pos} (hm : X.mg "zip" = none) (hl : DE X e δa) (hl2 : DE X e2 δb) (hl3 : DE X e3 δc) (hg : Gl X "zip" := by rfl) (hs3 : starEach [e3] X.env = (false, eval e3 X.env) :: starEach [] X.env := by rfl)
    (hs2 : starEach [e2, e3] X.env = (false, eval e2 X.env) :: starEach [e3] X.env := by rfl)
    (hs : starEach [e, e2, e3] X.env = (false, eval e X.env) :: starEach [e2, e3] X.env := by rfl) (hpl : (backTo pos (starEach [e2, e3] X.env)).any (·.1) = false := by rfl) :
    DI X (.Tuple elts kk tpos) (.Call (.Name "zip" p) [e, e2, e3] [] pos) (dZip3 δa δb δc) := piW (pi_Z3 hg hm (ha := pa_cons hl (pa_cons hl2 (pa_cons hl3 pa_nil hs3) hs2) hs) hs hpl) fun σ H R ⟨ρ, S, Qd, re, rs, q, k⟩ => by
  refine ⟨ρ, S, _, re, rs, q, fun d S1 v H1 q1 g1 r1 => ?_⟩
  refine ⟨ρ, S1, _, re.tp g1.tp, g1.rs, q1, fun d' S2 v' H2 q2 g2 r2 => ?_⟩
  refine ⟨ρ, S2, _, re.tp (g1.trans g2).tp, g2.rs, q2, fun d'' S3 v'' H3 q3 g3 r3 => ?_⟩
  try dsimp only at q3
  split at q3
  · rename_i it jt lt hit hjt hlt
    obtain ⟨b, a, rfl, ok, sr⟩ := src_at hit (r1.tp (g2.trans g3).tp) g3.rs
    obtain ⟨b', a', rfl, ok2, sr2⟩ := src_at hjt (r2.tp g3.tp) g3.rs
    obtain ⟨b'', a'', rfl, ok3, sr3⟩ := src_at hlt r3 g3.rs
    obtain ⟨vs, h1, _⟩ := sr S3 H3 Tp.refl g3.rs ok
    obtain ⟨vs2, h12, _⟩ := sr2 S3 H3 Tp.refl g3.rs ok2
    obtain ⟨vs3, h13, _⟩ := sr3 S3 H3 Tp.refl g3.rs ok3
    refine ⟨b, b', b'', a, a', a'', vs, vs2, vs3, rfl, h1, h12, h13, k _ _ _ _ q3 ((g1.trans g2).trans g3) ⟨fun i x S' H' hx tp rs' ok' => ?_, fun S' H' tp rs' ok' => ?_⟩⟩
    · obtain ⟨ws, s1, s2⟩ := sr S' H' tp rs' ok'.1
      obtain ⟨ws2, s12, s22⟩ := sr2 S' H' tp rs' ok'.2.1
      obtain ⟨ws3, s13, s23⟩ := sr3 S' H' tp rs' ok'.2.2
      rw [List.getElem?_zipWith] at hx
      cases e1 : it.xs[i]? with
      | none => rw [e1] at hx; cases hx
      | some y =>
        cases e2 : (List.zip jt.xs lt.xs)[i]? with
        | none => rw [e1, e2] at hx; cases hx
        | some y2 =>
          rw [e1, e2] at hx
          cases hx
          rw [List.getElem?_zip_eq_some] at e2
          obtain ⟨w, f1, rw1⟩ := s2.get e1
          obtain ⟨w2, f2, rw2⟩ := s22.get e2.1
          obtain ⟨w3, f3, rw3⟩ := s23.get e2.2
          refine ⟨⟨ws, ws2, ws3, w, w2, w3, s1, s12, s13, f1, f2, f3⟩, fun u H3 yy => ?_⟩
          obtain ⟨T, x', y', z', rfl, nT, rfl, hy, hy2, hy3⟩ := yy
          have e3 := hy ws s1
          rw [f1] at e3; cases e3
          have e4 := hy2 ws2 s12
          rw [f2] at e4; cases e4
          have e5 := hy3 ws3 s13
          rw [f3] at e5; cases e5
          have g : Go X.K S' H' S' (upd H' T (.tup [w, w2, w3])) := Go.fresh rs' nT
          refine ⟨g, ?_⟩
          rw [RD]
          exact ⟨T, [w, w2, w3], rfl, .of upd_same, RDs.cons (rw1.tp g.tp) (RDs.cons (rw2.tp g.tp) (RDs.cons (rw3.tp g.tp) (RDs.nil.mpr rfl)))⟩
    · obtain ⟨ws, s1, s2⟩ := sr S' H' tp rs' ok'.1
      obtain ⟨ws2, s12, s22⟩ := sr2 S' H' tp rs' ok'.2.1
      obtain ⟨ws3, s13, s23⟩ := sr3 S' H' tp rs' ok'.2.2
      have l1 := s2.len
      have l2 := s22.len
      have l3 := s23.len
      refine ⟨ws, ws2, ws3, s1, s12, s13, ?_, ?_, ?_, ?_⟩ <;> rw [List.length_zipWith, List.length_zip] <;> omega
  · exact q3.elim
/-- range -/
def rangeD (lo : Int) (n : Nat) : List D := (List.range n).map fun (i : Nat) => .int (lo + i)
theorem rangeD_get (lo : Int) (n i : Nat) : (rangeD lo n)[i]? = if i < n then some (.int (lo + i)) else none := by
  unfold rangeD
  rw [List.getElem?_map]
  split
  · rw [List.getElem?_range (by assumption)]; rfl
  · rw [List.getElem?_eq_none (by simp; omega)]; rfl
theorem rangeD_len (lo : Int) (n : Nat) : (rangeD lo n).length = n := by unfold rangeD; simp
theorem wk_range {K : PySem.W.Frag} {S : Sto} {H : Hp} (lo : Int) (n : Nat) : Wk K (Itr lo n) ⟨rangeD lo n, fun _ => True⟩ S H := by
  refine ⟨fun i x S' H' hx tp rs ok => ?_, fun S' H' tp rs ok => ?_⟩
  · rw [rangeD_get] at hx
    split at hx
    · cases hx
      exact ⟨by assumption, fun v H2 y => by
        obtain ⟨rfl, rfl⟩ := y
        exact ⟨.refl rs, RD.int⟩⟩
    · cases hx
  · show n ≤ _
    rw [rangeD_len]
    exact Nat.le_refl _
def dRng1 (δ : TED) : TID := fun ρ S Q => δ ρ S fun x S1 => match x with
  | .int j => (-(2 ^ 62) ≤ j ∧ j < 2 ^ 62) ∧ Q ⟨rangeD 0 j.toNat, fun _ => True⟩ S1
  | _ => False
theorem di_range1 {tg : Expr} {p : Pos} (hm : X.mg "range" = none) (hl : DE X e δ) (hg : Gl X "range" := by rfl) (hs : starEach [e] X.env = [(false, eval e X.env)] := by rfl) :
    DI X tg (.Call (.Name "range" p) [e] [] pos) (dRng1 δ) := piW (pi_range1 hg hm (ha := pa_cons hl pa_nil hs) hs) fun σ H R ⟨ρ, S, Qd, re, rs, q, k⟩ => by
  refine ⟨ρ, S, _, re, rs, q, fun d S1 v H1 q1 g1 r1 => ?_⟩
  try dsimp only at q1
  split at q1
  · rw [RD] at r1
    subst r1
    exact ⟨_, rfl, q1.1.1, q1.1.2, k _ _ _ _ q1.2 g1 (wk_range _ _)⟩
  · exact q1.elim
def dRng2 (δa δb : TED) : TID := fun ρ S Q => δa ρ S fun x S1 => δb ρ S1 fun y S2 => match x, y with
  | .int i, .int j => (-(2 ^ 62) ≤ i ∧ i < 2 ^ 62 ∧ -(2 ^ 62) ≤ j ∧ j < 2 ^ 62) ∧ Q ⟨rangeD i (j - i).toNat, fun _ => True⟩ S2
  | _, _ => False
theorem di_range2 {tg e2 : Expr} {p : Pos} (hm : X.mg "range" = none) (hl : DE X e δa) (hl2 : DE X e2 δb) (hg : Gl X "range" := by rfl) (hs : starEach [e, e2] X.env = [(false, eval e X.env), (false, eval e2 X.env)] := by rfl) (hs2 : starEach [e2] X.env = [(false, eval e2 X.env)] := by rfl) :
    DI X tg (.Call (.Name "range" p) [e, e2] [] pos) (dRng2 δa δb) := piW (pi_range2 hg hm (ha := pa_cons hl (pa_cons hl2 pa_nil hs2) (by rw [hs, hs2])) hs hs2) fun σ H R ⟨ρ, S, Qd, re, rs, q, k⟩ => by
  refine ⟨ρ, S, _, re, rs, q, fun d S1 v H1 q1 g1 r1 => ?_⟩
  refine ⟨ρ, S1, _, re.tp g1.tp, g1.rs, q1, fun d' S2 v' H2 q2 g2 r2 => ?_⟩
  try dsimp only at q2
  split at q2
  · rw [RD] at r1 r2
    subst r1; subst r2
    exact ⟨_, _, rfl, q2.1, k _ _ _ _ q2.2 (g1.trans g2) (wk_range _ _)⟩
  · exact q2.elim
/-- range with a step: lo, lo + c, .. -/
def rangeC (lo c : Int) (n : Nat) : List D := (List.range n).map fun (i : Nat) => .int (lo + i * c)

/-! ### for -/
def loopD (ok : Sto → Prop) (f : D → TSD) : List D → TSD
  | [], De, ρ, S => De.nx ρ S
  | x :: xs, De, ρ, S => f x { nx := fun ρ' S' => ok S' ∧ loopD ok f xs De ρ' S', ct := fun ρ' S' => ok S' ∧ loopD ok f xs De ρ' S', bk := De.nx, rt := De.rt } ρ S
def dFor (ι : TID) (γ : TGD) (τ : TSD) : TSD := fun De ρ S => ι ρ S fun it S1 => it.ok S1 ∧ loopD it.ok (fun x De ρ S => γ x ρ S fun ρ' S' => τ De ρ' S') it.xs De ρ S1
theorem ds_for {tg iter : Expr} {ι : TID} {γ : TGD} {L : List Nat} (hp : PassesOwn (model X.prog X.w) X.A X.env X.xe) (hi : DI X tg iter ι) (hg : DG X tg L γ) (hb : DSs X body τ) (hc : X.calm = true := by rfl) (hs : ∀ x, foldedSetIterable iter X.env x = pure x := by intro _; rfl) :
    DS X (.For tg iter body [] pos) (dFor ι γ τ) := psW (ps_for hp hc hi hg hb hs) fun E σ H ⟨ρ, S, De, re, rs, q, k⟩ => by
  refine ⟨ρ, S, _, re, rs, q, fun it S1 H1 J q1 g1 wk => ?_⟩
  obtain ⟨ok1, q1⟩ := q1
  refine ⟨fun i m σ2 H2 => m = it.xs.length - i ∧ i ≤ it.xs.length ∧ ∃ ρ2 S2, Go X.K S1 H1 S2 H2 ∧ RE X.K S2 H2 ρ2 σ2 ∧ it.ok S2 ∧ loopD it.ok (fun x De ρ S => γ x ρ S fun ρ' S' => τ De ρ' S') (it.xs.drop i) De ρ2 S2, ⟨_, rfl, Nat.zero_le _, ρ, S1, .refl g1.rs, re.tp g1.tp, ok1, q1⟩, ?_⟩
  rintro i m σ2 H2 ⟨rfl, hi, ρ2, S2, g2, re2, ok2, q2⟩
  by_cases hlt : i < it.xs.length
  · have hx : it.xs[i]? = some it.xs[i] := List.getElem?_eq_getElem hlt
    have hd : it.xs.drop i = it.xs[i] :: it.xs.drop (i + 1) := List.drop_eq_getElem_cons hlt
    rw [hd] at q2
    obtain ⟨go, yl⟩ := wk.go i _ S2 H2 hx g2.tp g2.rs ok2
    refine .inr ⟨go, fun σ3 H3 => ∃ ρ3 S3, Go X.K S1 H1 S3 H3 ∧ RE X.K S3 H3 ρ3 σ3 ∧ it.ok S3 ∧ loopD it.ok (fun x De ρ S => γ x ρ S fun ρ' S' => τ De ρ' S') (it.xs.drop (i + 1)) De ρ3 S3, fun σ3 H3 h3 => ⟨it.xs.length - (i + 1), by omega, rfl, by omega, h3⟩, fun v H3 y => ?_⟩
    obtain ⟨g3, r3⟩ := yl v H3 y
    have g23 := g2.trans g3
    refine ⟨_, ρ2, S2, _, r3, re2.tp g3.tp, g3.rs, q2, fun ρ4 S4 σ4 H4 q4 g4 re4 _ => ?_⟩
    have g14 := g23.trans g4
    refine ⟨ρ4, S4, _, re4, g4.rs, q4, ⟨fun a b c d x y z => ?_, fun a b c d x y z => ?_, fun a b c d x y z => ?_, fun a b c d x y z => ?_⟩⟩
    · exact ⟨a, b, g14.trans y, z, x.1, x.2⟩
    · exact k.rt a b c d x ((g1.trans g14).trans y) z
    · exact k.nx a b c d x ((g1.trans g14).trans y) z
    · exact ⟨a, b, g14.trans y, z, x.1, x.2⟩
  · have e : i = it.xs.length := by omega
    subst e
    rw [List.drop_length] at q2
    exact .inl ⟨wk.stop S2 H2 g2.tp g2.rs ok2, k.nx _ _ _ _ q2 (g1.trans g2) re2⟩
/-- while: W with its measure -/
def dWhile (t : TTD) (τ : TSD) : TSD := fun De ρ S => ∃ W : Nat → DEnv → Sto → Prop, (∃ m, W m ρ S) ∧ ∀ m ρ S, W m ρ S →
  t ρ S fun b S1 => match b with
    | true => τ { nx := fun ρ' S' => ∃ m', m' < m ∧ W m' ρ' S', ct := fun ρ' S' => ∃ m', m' < m ∧ W m' ρ' S', bk := De.nx, rt := De.rt } ρ S1
    | false => De.nx ρ S1
theorem ds_while (hp : PassesOwn (model X.prog X.w) X.A X.env X.xe) (hc : DT X c θ) (hb : DSs X body τ) : DS X (.While c body [] pos) (dWhile θ τ) := psW (ps_while hp hc hb) fun E σ H ⟨ρ, S, De, re, rs, ⟨W, ⟨m0, w0⟩, turn⟩, k⟩ => by
  refine ⟨fun m σ2 H2 => ∃ ρ2 S2, Go X.K S H S2 H2 ∧ RE X.K S2 H2 ρ2 σ2 ∧ W m ρ2 S2, ⟨m0, ρ, S, .refl rs, re, w0⟩, ?_⟩
  rintro m σ2 H2 ⟨ρ2, S2, g2, re2, w2⟩
  refine ⟨ρ2, S2, _, re2, g2.rs, turn m ρ2 S2 w2, fun b S3 H3 q3 g3 => ?_⟩
  cases b with
  | true =>
    rw [if_pos rfl]
    refine ⟨fun σ4 H4 => ∃ m', m' < m ∧ ∃ ρ4 S4, Go X.K S H S4 H4 ∧ RE X.K S4 H4 ρ4 σ4 ∧ W m' ρ4 S4, fun σ4 H4 h => h, ?_⟩
    have g := g2.trans g3
    refine ⟨ρ2, S3, _, re2.tp g3.tp, g3.rs, q3, ⟨fun a b c d x y z => ?_, fun a b c d x y z => ?_, fun a b c d x y z => ?_, fun a b c d x y z => ?_⟩⟩
    · obtain ⟨m', hm, w⟩ := x
      exact ⟨m', hm, a, b, g.trans y, z, w⟩
    · exact k.rt a b c d x (g.trans y) z
    · exact k.nx a b c d x (g.trans y) z
    · obtain ⟨m', hm, w⟩ := x
      exact ⟨m', hm, a, b, g.trans y, z, w⟩
  | false =>
    rw [if_neg Bool.false_ne_true]
    exact k.nx _ _ _ _ q3 (g2.trans g3) (re2.tp g3.tp)

/-! ### comprehensions -/
def Sto.del (S : Sto) (a : Addr) : Sto := fun b => if b = a then none else S b
theorem Sto.del_same {S : Sto} {a : Addr} : S.del a a = none := by unfold Sto.del; rw [if_pos rfl]
theorem Sto.del_ne {S : Sto} {a b : Addr} (h : b ≠ a) : S.del a b = S b := by unfold Sto.del; rw [if_neg h]
theorem Sto.del_up {S : Sto} {a : Addr} {o : MO} (h : S a = none) : (S.up a o).del a = S := by
  funext b
  by_cases e : b = a
  · subst e; rw [Sto.del_same, h]
  · rw [Sto.del_ne e, Sto.up_ne e]
/-- what was tracked at a is not any more -/
theorem go_del {K : PySem.W.Frag} {S : Sto} {H : Hp} (rs : RS K S H) (a : Addr) : Go K S H (S.del a) H := by
  have tp : Tp S H (S.del a) H := ⟨fun _ _ h => h, fun _ _ _ h => h, fun b o h1 h2 => ⟨by
    by_cases e : b = a
    · subst e; exact Sto.del_same
    · rw [Sto.del_ne e]; exact h1, h2⟩⟩
  refine ⟨tp, fun b mo e => ?_⟩
  by_cases hb : b = a
  · subst hb; rw [Sto.del_same] at e; cases e
  · rw [Sto.del_ne hb] at e
    exact (rs b mo e).mv tp fun _ h => h
/-- the items from the left; acc: what is made so far, it stands at Dl -/
def lcD (Dl : Addr) (ok : Sto → Prop) (ρ : DEnv) (γ : TGD) (t : TTD) (el : TED) : List D → List D → Sto → (List D → Sto → Prop) → Prop
  | [], acc, S, Q => Q acc S
  | x :: xs, acc, S, Q => γ x ρ S fun ρ' S1 => t ρ' S1 fun b S2 => match b with
    | true => el ρ' S2 fun y S3 => S3 Dl = some (.lst acc) ∧ acc.length < sizeLine ∧ ok (S3.up Dl (.lst (acc ++ [y]))) ∧ lcD Dl ok ρ γ t el xs (acc ++ [y]) (S3.up Dl (.lst (acc ++ [y]))) Q
    | false => S2 Dl = some (.lst acc) ∧ ok S2 ∧ lcD Dl ok ρ γ t el xs acc S2 Q
/-- the list is done: it stays tracked (r), or nobody will change it -/
def endL (r : Bool) (Dl : Addr) (Q : QD) : List D → Sto → Prop := fun ds S2 => match r with
  | true => Q (.ref Dl) S2
  | false => Q (.lst ds) (S2.del Dl)
def dLc (r : Bool) (ι : TID) (γ : TGD) (t : TTD) (el : TED) (vs : List Nat) : TED := fun ρ S Q => ι ρ S fun it S1 => ∀ Dl, S1 Dl = none → it.ok (S1.up Dl (.lst [])) ∧ lcD Dl it.ok (wipeD ρ vs) γ t el it.xs [] (S1.up Dl (.lst [])) (endL r Dl Q)
abbrev DTs (X : Cx) (ifs : List Expr) (δ : TTD) : Prop := PTs X ifs (LT X.K δ)
def dYes : TTD := fun _ S Q => Q true S
theorem ptsW {ifs : List Expr} {t t' : TT} (h : PTs X ifs t) (w : ∀ σ H Q, t' σ H Q → t σ H Q) : PTs X ifs t' := ⟨fun pins s σ H Q I q => h.run pins s σ H Q I (w σ H Q q)⟩
theorem dts_nil : DTs X [] dYes := ptsW pts_nil fun σ H Q ⟨ρ, S, Qd, re, rs, q, k⟩ => k _ _ _ q (.refl rs)
theorem dts_one (h : DT X c θ) : DTs X [c] θ := pts_one h
theorem lc_lift {K : PySem.W.Frag} {J : It} {it : ItD} {Dl : Addr} {γ : TGD} {t : TTD} {el : TED} {L vs : List Nat} {r : Bool} {ρ : DEnv} {σ : L2.St} {S S1 : Sto} {H H1 : Hp} {Qd : QD} {Q : VK} (hL : ∀ i ∈ L, i ∈ vs) (re : RE K S1 H1 ρ σ) (g1 : Go K S H S1 H1) (wk : Wk K J it S1 H1) (hD : H1 Dl = none)
    (ok1 : it.ok (S1.up Dl (.lst []))) (q1 : lcD Dl it.ok (wipeD ρ vs) γ t el it.xs [] (S1.up Dl (.lst [])) (endL r Dl Qd)) (k : Aft K S H Qd Q) :
    ∃ W : Nat → Nat → Hp → Prop, (∃ m, W 0 m (upd H1 Dl (.lst []))) ∧ ∀ i m H, W i m H →
      (J.stop i H ∧ Q (.ref Dl) H) ∨ (J.go i H ∧ ∃ Nx : Hp → Prop, (∀ H', Nx H' → ∃ m', m' < m ∧ W (i + 1) m' H') ∧ ∀ x H', J.yld i H x H' → LG K L γ x (wipe σ vs) H' fun σ2 H2 => wipe σ2 vs = wipe σ vs ∧ LT K t σ2 H2 fun b H3 =>
        if b = true then LE K el σ2 H3 fun y H4 => ∃ acc, H4 Dl = some (.lst acc) ∧ acc.length < sizeLine ∧ Nx (upd H4 Dl (.lst (acc ++ [y]))) else Nx H3) := by
  have f1 : S1 Dl = none := g1.rs.free hD
  have gD : Go K S1 H1 (S1.up Dl (.lst [])) (upd H1 Dl (.lst [])) := Go.made g1.rs hD fun S' H' tp e => ⟨[], e, RDs.nil.mpr rfl⟩
  refine ⟨fun i m H2 => m = it.xs.length - i ∧ i ≤ it.xs.length ∧ ∃ acc S2, Go K S1 H1 S2 H2 ∧ S2 Dl = some (.lst acc) ∧ it.ok S2 ∧ lcD Dl it.ok (wipeD ρ vs) γ t el (it.xs.drop i) acc S2 (endL r Dl Qd),
    ⟨_, rfl, Nat.zero_le _, [], _, gD, Sto.up_same, ok1, q1⟩, ?_⟩
  rintro i m H2 ⟨rfl, hi, acc, S2, g2, d2, ok2, q2⟩
  by_cases hlt : i < it.xs.length
  · have hx : it.xs[i]? = some it.xs[i] := List.getElem?_eq_getElem hlt
    have hd : it.xs.drop i = it.xs[i] :: it.xs.drop (i + 1) := List.drop_eq_getElem_cons hlt
    rw [hd] at q2
    obtain ⟨go, yl⟩ := wk.go i _ S2 H2 hx g2.tp g2.rs ok2
    refine .inr ⟨go, fun H3 => ∃ acc3 S3, Go K S1 H1 S3 H3 ∧ S3 Dl = some (.lst acc3) ∧ it.ok S3 ∧ lcD Dl it.ok (wipeD ρ vs) γ t el (it.xs.drop (i + 1)) acc3 S3 (endL r Dl Qd), fun H3 h3 => ⟨it.xs.length - (i + 1), by omega, rfl, by omega, h3⟩, fun v H3 y => ?_⟩
    obtain ⟨g3, r3⟩ := yl v H3 y
    have g23 := g2.trans g3
    refine ⟨_, wipeD ρ vs, S2, _, r3, (re.tp g23.tp).wipe vs, g3.rs, q2, fun ρ4 S4 σ4 H4 q4 g4 re4 al => ⟨?_, ?_⟩⟩
    · have e := al vs hL
      rw [e]
      have ww : ∀ σ : L2.St, wipe (wipe σ vs) vs = wipe σ vs := fun σ => by
        apply List.ext_getElem?
        intro j
        rw [wipe_get, wipe_get]
        by_cases hj : j ∈ vs
        · rw [if_pos hj, if_pos hj, Option.map_map]; rfl
        · rw [if_neg hj, if_neg hj]
      exact ww σ
    refine ⟨ρ4, S4, _, re4, g4.rs, q4, fun b S5 H5 q5 g5 => ?_⟩
    cases b with
    | true =>
      rw [if_pos rfl]
      refine ⟨ρ4, S5, _, re4.tp g5.tp, g5.rs, q5, fun yd S6 yv H6 q6 g6 r6 => ?_⟩
      obtain ⟨d6, l6, ok6, q6⟩ := q6
      obtain ⟨ws, hw, rw1⟩ := g6.rs Dl _ d6
      have g26 := (g23.trans g4).trans (g5.trans g6)
      have gw : Go K S6 H6 (S6.up Dl (.lst (acc ++ [yd]))) (upd H6 Dl (.lst (ws ++ [yv]))) := Go.wrote g6.rs d6 fun S' H' tp e => ⟨_, e, (rw1.tp tp).snoc (r6.tp tp)⟩
      exact ⟨ws, hw, by rw [rw1.len]; exact l6, acc ++ [yd], _, g26.trans gw, Sto.up_same, ok6, q6⟩
    | false =>
      rw [if_neg Bool.false_ne_true]
      obtain ⟨d5, ok5, q5⟩ := q5
      exact ⟨acc, S5, (g23.trans g4).trans g5, d5, ok5, q5⟩
  · have e : i = it.xs.length := by omega
    subst e
    rw [List.drop_length] at q2
    refine .inl ⟨wk.stop S2 H2 g2.tp g2.rs ok2, ?_⟩
    have q2' : endL r Dl Qd acc S2 := q2
    cases r with
    | true => exact k _ _ _ _ q2' (g1.trans g2) (by rw [RD])
    | false =>
      obtain ⟨ws, hw, rw1⟩ := g2.rs Dl _ d2
      have gd := go_del g2.rs Dl
      refine k _ _ _ _ q2' ((g1.trans g2).trans gd) ?_
      rw [RD]
      exact ⟨Dl, ws, rfl, Sto.del_same, hw, rw1.tp gd.tp⟩
theorem de_lc {elt tg iter : Expr} {ifs : List Expr} {scope : Scope} {own : List (Str × Nat)} {ι : TID} {γ : TGD} {t : TTD} {el : TED} {L : List Nat} {r : Bool} (hN : X.N.Nodup) (hi : DI X tg iter ι) (ok : BlkOk X.N X.env.scope scope own) (hL : ∀ i ∈ L, i ∈ own.map (·.2))
    (hg : ∀ (s : Shared) (H : Hp) (C : Addr) (cl : List (Str × Addr)) (fp : List Addr), DG (X.blk s H scope (compEnvC scope cl C X.env) fp) tg L γ) (ht : ∀ (s : Shared) (H : Hp) (C : Addr) (cl : List (Str × Addr)) (fp : List Addr), DTs (X.blk s H scope (compEnvC scope cl C X.env) fp) ifs t)
    (he : ∀ (s : Shared) (H : Hp) (C : Addr) (cl : List (Str × Addr)) (fp : List Addr), DE (X.blk s H scope (compEnvC scope cl C X.env) fp) elt el) (hc : X.calm = true := by rfl) (hs : ∀ x, foldedSetIterable iter X.env x = pure x := by intro _; rfl) :
    DE X (.ListComp elt [⟨tg, iter, ifs, 0⟩] scope pos) (dLc r ι γ t el (own.map (·.2))) := peW (pe_lc hc hN hi ok hg ht he hs) fun σ H Q ⟨ρ, S, Qd, re, rs, q, k⟩ => by
  refine ⟨ρ, S, _, re, rs, q, fun it S1 H1 J q1 g1 wk => ?_⟩
  intro Dl hD
  obtain ⟨ok1, q1⟩ := q1 Dl (g1.rs.free hD)
  exact lc_lift hL (re.tp g1.tp) g1 wk hD ok1 q1 k
theorem ds_setLc (i : Nat) {y : Str} {py spos : Pos} {elt tg iter : Expr} {ifs : List Expr} {scope : Scope} {own : List (Str × Nat)} {ι : TID} {γ : TGD} {t : TTD} {el : TED} {L : List Nat} {r : Bool} (hN : X.N.Nodup) (hi : DI X tg iter ι) (ok : BlkOk X.N X.env.scope scope own) (hL : ∀ i ∈ L, i ∈ own.map (·.2))
    (hg : ∀ (s : Shared) (H : Hp) (C : Addr) (cl : List (Str × Addr)) (fp : List Addr), DG (X.blk s H scope (compEnvC scope cl C X.env) fp) tg L γ) (ht : ∀ (s : Shared) (H : Hp) (C : Addr) (cl : List (Str × Addr)) (fp : List Addr), DTs (X.blk s H scope (compEnvC scope cl C X.env) fp) ifs t)
    (he : ∀ (s : Shared) (H : Hp) (C : Addr) (cl : List (Str × Addr)) (fp : List Addr), DE (X.blk s H scope (compEnvC scope cl C X.env) fp) elt el) (hy : X.N[i]? = some y := by rfl) (hyl : X.env.scope.names.lookup y = some .local := by rfl)
    (hsw : swapsWith (.ListComp elt [⟨tg, iter, ifs, 0⟩] scope pos) (some (.Name y py)) spos.line X.env = pure true := by exact sw_true rfl rfl rfl (by decide +kernel)) (hc : X.calm = true := by rfl) (hs : ∀ x, foldedSetIterable iter X.env x = pure x := by intro _; rfl) :
    DS X (.Assign [.Name y py] (.ListComp elt [⟨tg, iter, ifs, 0⟩] scope pos) spos) (dAsg i (dLc r ι γ t el (own.map (·.2)))) := psW (ps_setLc hc hN hy hyl hsw hi ok hg ht he hs) fun E σ H ⟨ρ, S, De, re, rs, q, k⟩ => by
  show tLc _ _ _ _ _ σ H fun x H1 => gName i x σ H1 E.nx
  refine ⟨ρ, S, _, re, rs, q, fun it S1 H1 J q1 g1 wk => ?_⟩
  intro Dl hD
  obtain ⟨ok1, q1⟩ := q1 Dl (g1.rs.free hD)
  exact lc_lift hL (re.tp g1.tp) g1 wk hD ok1 q1 fun d S' v H' q' g' r' => k.nx _ _ _ _ q' g' ((re.tp g'.tp).set i r')
end

/-! ### defs -/
section
variable {P : Program} {w : World} {K : PySem.W.Frag} {mg : Str → Option Value} {base : Heap}
/-- a promise that stands over what the store forgets, and over a list that nobody will change any more -/
structure Fz (S' : Sto) (d' : D) (S : Sto) (d : D) : Prop where
  ok : ∀ (K : PySem.W.Frag) (H : Hp) (v : V), RS K S' H → RD K S' H d' v → Go K S' H S H ∧ RD K S H d v
theorem Fz.refl {S : Sto} {d : D} : Fz S d S d := ⟨fun K H v rs r => ⟨.refl rs, r⟩⟩
theorem Fz.trans {S S1 S2 : Sto} {d d1 d2 : D} (a : Fz S d S1 d1) (b : Fz S1 d1 S2 d2) : Fz S d S2 d2 := ⟨fun K H v rs r => let ⟨g1, r1⟩ := a.ok K H v rs r; let ⟨g2, r2⟩ := b.ok K H v g1.rs r1; ⟨g1.trans g2, r2⟩⟩
theorem Fz.del {S : Sto} {d : D} (a : Addr) : Fz S d (S.del a) d := ⟨fun K H v rs r => ⟨go_del rs a, r.tp (go_del rs a).tp⟩⟩
theorem Fz.freeze {S : Sto} {a : Addr} {ds : List D} (h : S a = some (.lst ds)) : Fz S (.ref a) (S.del a) (.lst ds) := ⟨fun K H v rs r => by
  have g := go_del rs a
  obtain ⟨ws, hw, r1⟩ := rs a _ h
  rw [RD] at r
  refine ⟨g, ?_⟩
  rw [RD]
  exact ⟨a, ws, r, Sto.del_same, hw, r1.tp g.tp⟩⟩
/-- forget a and all about it: the store is S again -/
theorem Fz.back {S : Sto} {d : D} {a : Addr} {o : MO} (h : S a = none) : Fz (S.up a o) d S d := by
  have := Fz.del (S := S.up a o) (d := d) a
  rw [Sto.del_up h] at this
  exact this
theorem Fz.backL {S : Sto} {a : Addr} {ds : List D} (h : S a = none) : Fz (S.up a (.lst ds)) (.ref a) S (.lst ds) := by
  have := Fz.freeze (S := S.up a (.lst ds)) (a := a) (ds := ds) Sto.up_same
  rw [Sto.del_up h] at this
  exact this
def FzQ (Q : QD) : QD := fun d' S' => ∃ d S, Q d S ∧ Fz S' d' S d
theorem FzQ.here {Q : QD} {d : D} {S : Sto} (h : Q d S) : FzQ Q d S := ⟨d, S, h, .refl⟩
theorem fnD {x qual : Str} {params : Arguments} {body : List Stmt} {scope : Scope} {f : Addr} {fd : FuncData} {CX : CXT} {N ps : List Str} {k : Nat} {sp : DSp} (F : FunD K x qual params body scope [] [] f fd) (Sc : FnScope N ps scope) (len : ∀ ds S Q, sp ds S Q → ds.length = ps.length)
    (hbody : ∀ (cdv : Value) (A : Around) (outer : List Env) (s : Shared) (H : Hp) (E : XK), Room k (A.deeper (envOfC qual scope s.heap.objs.size f cdv)) →
      ∃ τ, DSs (cxOf CX P w K mg base N qual scope f cdv A outer s H E) body τ ∧ ∀ ds S Q, sp ds S Q → τ { nx := fun _ S' => FzQ Q .non S', rt := FzQ Q } (startD N ds) S) : FnOk P w K mg base CX (k + 1) f fd ps (LSp K sp) := by
  refine F.ok Sc (fun vs H Q E ⟨ds, S, Qd, r1, rs, q, kk⟩ => ?_) (fun cdv A outer s H vs Q E hr ⟨ds, S, Qd, r1, rs, q, kk⟩ => ?_)
  · rw [r1.len]; exact len _ _ _ q
  · obtain ⟨τ, h1, h2⟩ := hbody cdv A outer s H E hr
    refine ⟨LS K τ, h1, startD N ds, S, _, RE.start r1, rs, h2 ds S Qd q, ⟨fun ρ' S' σ' H' ⟨d, S0, q', fz⟩ g' re' => ?_, fun d' S' v H' ⟨d, S0, q', fz⟩ g' r' => ?_, fun _ _ _ _ z => z.elim, fun _ _ _ _ z => z.elim⟩⟩
    · obtain ⟨g2, r2⟩ := fz.ok K H' .non g'.rs (by rw [RD])
      exact kk _ _ _ _ q' (g'.trans g2) r2
    · obtain ⟨g2, r2⟩ := fz.ok K H' v g'.rs r'
      exact kk _ _ _ _ q' (g'.trans g2) r2
end
end PL
/-! operations by values -/
namespace PL
open PySem PySem.Spec PyProof.Rows L2

/-! ### data -/
mutual
def D.py : D → PyData
  | .non => .none
  | .bl b => .bool b
  | .int i => .int i
  | .str x => .str x
  | .tup ds => .tuple (D.pys ds)
  | .lst ds => .list (D.pys ds)
  | .fz ds => .list (D.pys ds)
  | .ref _ => .none
def D.pys : List D → List PyData
  | [] => []
  | d :: ds => D.py d :: D.pys ds
end
theorem D.pys_eq : ∀ ds : List D, D.pys ds = ds.map D.py
  | [] => by rw [D.pys]; rfl
  | d :: ds => by rw [D.pys, D.pys_eq ds]; rfl
/-- plain data, at most n deep -/
def D.okn : Nat → D → Bool
  | _, .non => true
  | _, .bl _ => true
  | _, .int _ => true
  | _, .str x => PyData.strOk x
  | 0, _ => false
  | n + 1, .tup ds => ds.all (D.okn n)
  | n + 1, .lst ds => ds.all (D.okn n)
  | _ + 1, .fz _ => false
  | _ + 1, .ref _ => false
theorem D.okn_lay : ∀ (n : Nat) (d : D), D.okn n d = true → (D.py d).canLay0 = true ∧ (D.py d).depth ≤ n := by
  intro n
  induction n with
  | zero =>
    intro d h
    cases d <;> first | (simp [D.okn] at h; done) | (simp [D.py, PyData.canLay0, PyData.depth]; done) | skip
    simp only [D.okn] at h
    simp [D.py, PyData.canLay0, PyData.depth, h]
  | succ n ih =>
    have all : ∀ ds : List D, ds.all (D.okn n) = true → PyData.canLayAll0 (D.pys ds) = true ∧ PyData.depthAll (D.pys ds) ≤ n := by
      intro ds
      induction ds with
      | nil => intro _; simp [D.pys, PyData.canLayAll0, PyData.depthAll]
      | cons d ds ihd =>
        intro h
        rw [List.all_cons, Bool.and_eq_true] at h
        obtain ⟨a1, a2⟩ := ih d h.1
        obtain ⟨b1, b2⟩ := ihd h.2
        rw [D.pys, PyData.canLayAll0, PyData.depthAll, a1, b1]
        exact ⟨rfl, Nat.max_le.mpr ⟨a2, b2⟩⟩
    intro d h
    cases d with
    | tup ds =>
      obtain ⟨a, b⟩ := all ds (by simpa [D.okn] using h)
      rw [D.py, PyData.canLay0, PyData.depth]
      exact ⟨a, by omega⟩
    | lst ds =>
      obtain ⟨a, b⟩ := all ds (by simpa [D.okn] using h)
      rw [D.py, PyData.canLay0, PyData.depth]
      exact ⟨a, by omega⟩
    | str x =>
      simp only [D.okn] at h
      simp [D.py, PyData.canLay0, PyData.depth, h]
    | fz ds => simp [D.okn] at h
    | ref a => simp [D.okn] at h
    | _ => simp [D.py, PyData.canLay0, PyData.depth]
theorem D.okn_shaped {n : Nat} {d : D} (h : D.okn n d = true) (hn : n ≤ 64) : SeqAt.shaped (D.py d) = true := by
  obtain ⟨a, b⟩ := D.okn_lay n d h
  unfold SeqAt.shaped
  rw [a, Bool.true_and]
  exact decide_eq_true (Nat.le_trans b hn)
section
variable {K : PySem.W.Frag} {S : Sto} {H : Hp}
theorem D.okn_dp : ∀ (n : Nat) (d : D) (v : V), D.okn n d = true → RD K S H d v → Dp K H v (D.py d) := by
  intro n
  induction n with
  | zero =>
    intro d v h r
    cases d <;> first | (simp [D.okn] at h; done) | (rw [RD] at r; subst r; rw [D.py]; constructor)
  | succ n ih =>
    have all : ∀ (ds : List D) (vs : List V), ds.all (D.okn n) = true → RDs K S H ds vs → DpAll K H vs (D.pys ds) := by
      intro ds
      induction ds with
      | nil => intro vs _ r; rw [RDs.nil.mp r, D.pys]; exact .nil
      | cons d ds ihd =>
        intro vs h r
        rw [List.all_cons, Bool.and_eq_true] at h
        rw [RDs] at r
        obtain ⟨v, w, rfl, r1, r2⟩ := r
        rw [D.pys]
        exact .cons (ih d v h.1 r1) (ihd w h.2 r2)
    intro d v h r
    cases d with
    | tup ds =>
      rw [RD] at r
      obtain ⟨a, vs, rfl, r1, r2⟩ := r
      rw [D.py]
      exact .tup r1 (all ds vs (by simpa [D.okn] using h) r2)
    | lst ds =>
      rw [RD] at r
      obtain ⟨a, vs, rfl, _, r1, r2⟩ := r
      rw [D.py]
      exact .lst (.of r1) (all ds vs (by simpa [D.okn] using h) r2)
    | fz ds => simp [D.okn] at h
    | ref a => simp [D.okn] at h
    | _ => (rw [RD] at r; subst r; rw [D.py]; constructor)
theorem okn_all_dp {n : Nat} {ds : List D} {vs : List V} (h : ds.all (D.okn n) = true) (r : RDs K S H ds vs) : DpAll K H vs (D.pys ds) := by
  induction ds generalizing vs with
  | nil => rw [RDs.nil.mp r, D.pys]; exact .nil
  | cons d ds ihd =>
    rw [List.all_cons, Bool.and_eq_true] at h
    rw [RDs] at r
    obtain ⟨v, w, rfl, r1, r2⟩ := r
    rw [D.pys]
    exact .cons (D.okn_dp n d v h.1 r1) (ihd h.2 r2)
/-- a tracked list as the data that it is now -/
def Sto.now (S : Sto) : D → D
  | .ref p => match S p with
    | some (.lst ds) => .lst ds
    | _ => .ref p
  | d => d
theorem now_dp {n : Nat} {d : D} {v : V} (h : D.okn (n + 1) (S.now d) = true) (r : RD K S H d v) (rs : RS K S H) : Dp K H v (D.py (S.now d)) := by
  cases d with
  | ref p =>
    have e : S.now (.ref p) = (match S p with
      | some (.lst ds) => D.lst ds
      | _ => .ref p) := rfl
    rw [e] at h ⊢
    split at h
    · rename_i ds hp
      obtain ⟨vs, h1, h2⟩ := rs p _ hp
      rw [RD] at r
      subst r
      rw [D.py]
      exact .lst (.of h1) (okn_all_dp (n := n) (by simpa [D.okn] using h) h2)
    · simp [D.okn] at h
  | _ => exact D.okn_dp (n + 1) _ v h r
end

section
variable {X : Cx}
/-! ### == and != -/
def eqD (d e : D) : Bool := PyData.eqv (D.py d) (D.py e)
def oEq : R2D := fun d e S Q => (D.okn 8 (S.now d) = true ∧ D.okn 8 (S.now e) = true) ∧ Q (.bl (eqD (S.now d) (S.now e))) S
def oNe : R2D := fun d e S Q => (D.okn 8 (S.now d) = true ∧ D.okn 8 (S.now e) = true) ∧ Q (.bl (!eqD (S.now d) (S.now e))) S
theorem RD.bl {K : PySem.W.Frag} {S : Sto} {H : Hp} {b : Bool} : RD K S H (.bl b) (.bl b) := by rw [RD]
theorem RD.non {K : PySem.W.Frag} {S : Sto} {H : Hp} : RD K S H .non .non := by rw [RD]
theorem RD.str {K : PySem.W.Frag} {S : Sto} {H : Hp} {b : Str} : RD K S H (.str b) (.str b) := by rw [RD]
theorem p_eq (hu : X.A.units + 64 < cLine) : OpD X (compareOp .Eq) oEq := opD_of (op_eqD hu) fun d e x y S H Qd Q r1 r2 rs ⟨⟨q1, q2⟩, q⟩ k =>
  ⟨_, _, now_dp q1 r1 rs, now_dp q2 r2 rs, D.okn_shaped q1 (by decide), D.okn_shaped q2 (by decide), k.here rs q RD.bl⟩
theorem p_ne (hu : X.A.units + 64 < cLine) : OpD X (compareOp .NotEq) oNe := opD_of (op_neD hu) fun d e x y S H Qd Q r1 r2 rs ⟨⟨q1, q2⟩, q⟩ k =>
  ⟨_, _, now_dp q1 r1 rs, now_dp q2 r2 rs, D.okn_shaped q1 (by decide), D.okn_shaped q2 (by decide), k.here rs q RD.bl⟩

/-! ### ints -/
def oI (C : Int → Int → Prop) (g : Int → Int → D) : R2D := fun d e S Q => match d, e with
  | .int i, .int j => C i j ∧ Q (g i j) S
  | _, _ => False
def oI0 (g : Int → Int → D) : R2D := fun d e S Q => match d, e with
  | .int i, .int j => Q (g i j) S
  | _, _ => False
theorem oI_int {C : Int → Int → Prop} {g : Int → Int → D} {d e : D} {S : Sto} {Q : QD} (h : oI C g d e S Q) : ∃ i j, d = .int i ∧ e = .int j ∧ C i j ∧ Q (g i j) S := by
  unfold oI at h; split at h
  · exact ⟨_, _, rfl, rfl, h⟩
  · exact h.elim
theorem oI0_int {g : Int → Int → D} {d e : D} {S : Sto} {Q : QD} (h : oI0 g d e S Q) : ∃ i j, d = .int i ∧ e = .int j ∧ Q (g i j) S := by
  unfold oI0 at h; split at h
  · exact ⟨_, _, rfl, rfl, h⟩
  · exact h.elim
theorem p_I {f : Value → Value → Sem Value} {C : Int → Int → Prop} {g : Int → Int → Int} (h : OpR X f (rI C fun i j => .int (g i j))) : OpD X f (oI C fun i j => .int (g i j)) := opD_of h fun d e x y S H Qd Q r1 r2 rs q k => by
  obtain ⟨i, j, rfl, rfl, c, q⟩ := oI_int q
  rw [RD] at r1 r2
  exact ⟨i, j, r1, r2, c, k.here rs q RD.int⟩
theorem p_I0 {f : Value → Value → Sem Value} {g : Int → Int → Int} (h : OpR X f (rI0 fun i j => .int (g i j))) : OpD X f (oI0 fun i j => .int (g i j)) := opD_of h fun d e x y S H Qd Q r1 r2 rs q k => by
  obtain ⟨i, j, rfl, rfl, q⟩ := oI0_int q
  rw [RD] at r1 r2
  exact ⟨i, j, r1, r2, k.here rs q RD.int⟩
theorem p_B0 {f : Value → Value → Sem Value} {g : Int → Int → Bool} (h : OpR X f (rI0 fun i j => .bl (g i j))) : OpD X f (oI0 fun i j => .bl (g i j)) := opD_of h fun d e x y S H Qd Q r1 r2 rs q k => by
  obtain ⟨i, j, rfl, rfl, q⟩ := oI0_int q
  rw [RD] at r1 r2
  exact ⟨i, j, r1, r2, k.here rs q RD.bl⟩
abbrev oSub : R2D := oI0 fun i j => .int (i - j)
theorem p_sub : OpD X (binaryOp .Sub) oSub := p_I0 op_sub
theorem p_isub : OpD X (inplaceOp .Sub) oSub := p_I0 iop_sub
abbrev oFdiv : R2D := oI CDiv fun i j => .int (i / j)
theorem p_fdiv : OpD X (binaryOp .FloorDiv) oFdiv := p_I op_fdiv
abbrev oFdivW : R2D := oI CDivW fun i j => .int (i / j)
theorem p_fdivW : OpD X (binaryOp .FloorDiv) oFdivW := p_I op_fdivW
abbrev oMod : R2D := oI (fun _ j => 0 < j) fun i j => .int (i % j)
theorem p_mod : OpD X (binaryOp .Mod) oMod := p_I op_mod
theorem p_imul : OpD X (inplaceOp .Mult) (oI CMul fun i j => .int (i * j)) := p_I iop_mul
/-- powers -/
def CPowW (i j : Int) : Prop := 0 ≤ j ∧ j ≤ 1000 ∧ i.natAbs < 2 ^ 1000
theorem op_powW : OpR X (binaryOp .Pow) (rI CPowW fun i j => .int (i ^ j.toNat)) := opI fun a b t u Q' s E hc q => by
  obtain ⟨h0, h1, h2⟩ := hc
  refine pow_int h0 ?_ q
  have hb : Builtin.Int.intBits a ≤ 1000 := by
    unfold Builtin.Int.intBits
    split
    · omega
    · have := PySem.Flt.log2_lt_of (by decide) h2
      omega
  have h3 : (Builtin.Int.intBits a : Int) * b ≤ 1000 * b := Int.mul_le_mul_of_nonneg_right (by omega) h0
  omega
abbrev oPow : R2D := oI CPowW fun i j => .int (i ^ j.toNat)
theorem p_pow : OpD X (binaryOp .Pow) oPow := p_I op_powW
abbrev oLt : R2D := oI0 fun i j => .bl (decide (i < j))
abbrev oLe : R2D := oI0 fun i j => .bl (decide (i ≤ j))
abbrev oGt : R2D := oI0 fun i j => .bl (decide (j < i))
abbrev oGe : R2D := oI0 fun i j => .bl (decide (j ≤ i))
theorem p_lt : OpD X (compareOp .Lt) oLt := p_B0 op_lt
theorem p_le : OpD X (compareOp .LtE) oLe := p_B0 op_le
theorem p_gt : OpD X (compareOp .Gt) oGt := p_B0 op_gt
theorem p_ge : OpD X (compareOp .GtE) oGe := p_B0 op_ge
/-- +: ints, tuples, lists, texts -/
def oAdd (r : Bool) : R2D := fun d e S Q => match d, e with
  | .int i, .int j => Q (.int (i + j)) S
  | .tup a, .tup b => a.length + b.length ≤ sizeLine ∧ Q (.tup (a ++ b)) S
  | .str x, .str y => x.length + y.length ≤ sizeLine ∧ Q (.str (x ++ y)) S
  | d, e => match S.list d, S.list e with
    | some a, some b => a.length + b.length ≤ sizeLine ∧ newL r (a ++ b) S Q
    | _, _ => False
theorem vals_nil_iff {K : PySem.W.Frag} {S : Sto} {H : Hp} {ds : List D} {vs : List V} (r : RDs K S H ds vs) : vs = [] ↔ ds = [] := by
  have h := r.len
  constructor
  · intro e; subst e; exact List.eq_nil_of_length_eq_zero h.symm
  · intro e; subst e; exact List.eq_nil_of_length_eq_zero h
theorem p_add {r : Bool} : OpD X (binaryOp .Add) (oAdd r) := opD_of (op_add.or (op_catA.or (op_add_str.or op_cat))) fun d e x y S H Qd Q r1 r2 rs q k => by
  unfold oAdd at q
  split at q
  · rw [RD] at r1 r2
    exact .inl ⟨_, _, r1, r2, k.here rs q RD.int⟩
  · rw [RD] at r1 r2
    obtain ⟨a, vs, rfl, t1, s1⟩ := r1
    obtain ⟨b, ws, rfl, t2, s2⟩ := r2
    obtain ⟨hl, q⟩ := q
    refine .inr (.inl ⟨a, b, vs, ws, rfl, rfl, t1, t2, by rw [s1.len, s2.len]; exact hl, fun e => ?_, fun e e2 => ?_, fun e e2 p hp => ?_⟩)
    · rw [(vals_nil_iff s1).mp e, List.nil_append] at q
      exact k.here rs q (by rw [RD]; exact ⟨b, ws, rfl, t2, s2⟩)
    · rw [(vals_nil_iff s2).mp e2, List.append_nil] at q
      exact k.here rs q (by rw [RD]; exact ⟨a, vs, rfl, t1, s1⟩)
    · exact newT_ok rs (s1.append s2) q k p hp
  · rw [RD] at r1 r2
    exact .inr (.inr (.inl ⟨_, _, r1, r2, q.1, k.here rs q.2 RD.str⟩))
  · split at q
    · rename_i a b ha hb
      obtain ⟨p1, vs, rfl, t1, s1⟩ := list_at ha r1 rs
      obtain ⟨p2, ws, rfl, t2, s2⟩ := list_at hb r2 rs
      exact .inr (.inr (.inr ⟨p1, p2, vs, ws, rfl, rfl, t1, t2, by rw [s1.len, s2.len]; exact q.1, fun p hp => newL_ok rs (s1.append s2) q.2 k p hp⟩))
    · exact q.elim
abbrev oAddI : R2D := oI0 fun i j => .int (i + j)
theorem p_iadd : OpD X (inplaceOp .Add) oAddI := p_I0 iop_add
/-- int + bool -/
def oAddB : R2D := fun d e S Q => match d, e with
  | .int i, .bl b => Q (.int (i + b2i b)) S
  | _, _ => False
/-- *: ints; a list, a tuple times an int -/
def CMul' (i j : Int) : Prop := (i.natAbs < 2 ^ 1000 ∧ j.natAbs < 2 ^ 1000)
theorem cmul' {i j : Int} (h : CMul' i j) : CMulW i j := wide_mul h.1 h.2 (by decide) (by decide) (by decide)
def oMul (r : Bool) : R2D := fun d e S Q => match e with
  | .int k => match d with
    | .int i => CMul' i k ∧ Q (.int (i * k)) S
    | .tup a => (a ≠ [] ∧ 2 ≤ k ∧ k ≤ 1000 ∧ a.length ≤ 1000) ∧ Q (.tup (List.replicate k.toNat a).flatten) S
    | d => match S.list d with
      | some a => (0 ≤ k ∧ k < 2 ^ 62 ∧ a.length * k.toNat ≤ sizeLine) ∧ newL r (List.replicate k.toNat a).flatten S Q
      | none => False
  | _ => False
theorem p_mul {r : Bool} : OpD X (binaryOp .Mult) (oMul r) := opD_of (op_mulW.or (op_repT.or op_rep)) fun d e x y S H Qd Q r1 r2 rs q k => by
  cases e with
  | int kk =>
    rw [RD] at r2
    subst r2
    cases d with
    | int i =>
      rw [RD] at r1
      exact .inl ⟨i, kk, r1, rfl, cmul' q.1, k.here rs q.2 RD.int⟩
    | tup a =>
      rw [RD] at r1
      obtain ⟨p1, vs, rfl, t1, s1⟩ := r1
      obtain ⟨⟨c0, c1, c2, c3⟩, q⟩ := q
      exact .inr (.inl ⟨p1, kk, vs, rfl, rfl, t1, fun z => c0 ((vals_nil_iff s1).mp z), c1, c2, by rw [s1.len]; exact c3, fun p hp => newT_ok rs (s1.rep _) q k p hp⟩)
    | lst a =>
      obtain ⟨p1, vs, rfl, t1, s1⟩ := list_at (d := .lst a) (ds := a) rfl r1 rs
      obtain ⟨⟨c0, c1, c2⟩, q⟩ := q
      exact .inr (.inr ⟨p1, kk, vs, rfl, rfl, t1, by omega, by omega, by rw [s1.len]; exact c2, fun p hp => newL_ok rs (s1.rep _) q k p hp⟩)
    | ref b =>
      have q' : (match S.list (.ref b) with
        | some a => (0 ≤ kk ∧ kk < 2 ^ 62 ∧ a.length * kk.toNat ≤ sizeLine) ∧ newL r (List.replicate kk.toNat a).flatten S Qd
        | none => False) := q
      split at q'
      · rename_i a ha
        obtain ⟨p1, vs, rfl, t1, s1⟩ := list_at ha r1 rs
        obtain ⟨⟨c0, c1, c2⟩, q⟩ := q'
        exact .inr (.inr ⟨p1, kk, vs, rfl, rfl, t1, by omega, by omega, by rw [s1.len]; exact c2, fun p hp => newL_ok rs (s1.rep _) q k p hp⟩)
      · exact q'.elim
    | _ => exact q.elim
  | _ => exact q.elim
/-- is None, is not None; is True .. -/
def D.isNon : D → Bool
  | .non => true
  | _ => false
def oIsN : R2D := fun d e S Q => match e with
  | .non => Q (.bl d.isNon) S
  | _ => False
def oNotN : R2D := fun d e S Q => match e with
  | .non => Q (.bl (!d.isNon)) S
  | _ => False
theorem rd_non_iff {K : PySem.W.Frag} {S : Sto} {H : Hp} {d : D} {v : V} (r : RD K S H d v) : decide (v = V.non) = d.isNon := by
  cases d <;> rw [RD] at r
  · subst r; rfl
  · subst r; rfl
  · subst r; rfl
  · subst r; rfl
  · obtain ⟨a, vs, rfl, _⟩ := r; rfl
  · obtain ⟨a, vs, rfl, _⟩ := r; rfl
  · obtain ⟨a, vs, rfl, _⟩ := r; rfl
  · subst r; rfl
theorem p_isN : OpD X (compareOp .Is) oIsN := opD_of op_isN fun d e x y S H Qd Q r1 r2 rs q k => by
  unfold oIsN at q
  split at q
  · rw [RD] at r2
    refine ⟨r2, ?_⟩
    rw [rd_non_iff r1]
    exact k.here rs q RD.bl
  · exact q.elim
theorem p_notN : OpD X (compareOp .IsNot) oNotN := opD_of op_notN fun d e x y S H Qd Q r1 r2 rs q k => by
  unfold oNotN at q
  split at q
  · rw [RD] at r2
    refine ⟨r2, ?_⟩
    rw [rd_non_iff r1]
    exact k.here rs q RD.bl
  · exact q.elim
def oIsB : R2D := fun d e S Q => match d, e with
  | .bl a, .bl b => Q (.bl (decide (a = b))) S
  | _, _ => False
def oNotB : R2D := fun d e S Q => match d, e with
  | .bl a, .bl b => Q (.bl (!decide (a = b))) S
  | _, _ => False
theorem p_isB : OpD X (compareOp .Is) oIsB := opD_of op_isBl fun d e x y S H Qd Q r1 r2 rs q k => by
  unfold oIsB at q
  split at q
  · rw [RD] at r1 r2
    exact ⟨_, _, r1, r2, k.here rs q RD.bl⟩
  · exact q.elim
theorem p_notB : OpD X (compareOp .IsNot) oNotB := opD_of op_notBl fun d e x y S H Qd Q r1 r2 rs q k => by
  unfold oNotB at q
  split at q
  · rw [RD] at r1 r2
    exact ⟨_, _, r1, r2, k.here rs q RD.bl⟩
  · exact q.elim
/-- x in t, flat items -/
def D.flat : D → Bool
  | .non => true
  | .bl _ => true
  | .int _ => true
  | .str _ => true
  | _ => false

/-! ### subscripts -/
def oIx : R2D := fun d e S Q => match e with
  | .int i => match S.seq d with
    | some ds => match atI ds i with
      | some x => Q x S
      | none => False
    | none => False
  | _ => False
theorem atI_rd {K : PySem.W.Frag} {S : Sto} {H : Hp} {ds : List D} {vs : List V} {i : Int} {d : D} (r : RDs K S H ds vs) (h : atI ds i = some d) : ∃ v, atI vs i = some v ∧ RD K S H d v := by
  unfold atI at h ⊢
  rw [r.len]
  cases e : ixN ds.length i with
  | none => rw [e] at h; cases h
  | some j =>
    rw [e] at h
    obtain ⟨v, e1, e2⟩ := r.get (show ds[j]? = some d from h)
    exact ⟨v, e1, e2⟩
theorem p_ix : IxD X oIx := ixD_of (ix_list.or ix_tup) fun d e x y S H Qd Q r1 r2 rs q k => by
  unfold oIx at q
  split at q
  · split at q
    · rename_i ds hs
      split at q
      · rename_i z hz
        rw [RD] at r2
        obtain ⟨a, vs, rfl, t1, s1⟩ := seq_at hs r1 rs
        obtain ⟨v, e1, e2⟩ := atI_rd s1 hz
        rcases t1 with t1 | t1
        · exact .inl ⟨a, vs, _, v, rfl, r2, t1, e1, k.here rs q e2⟩
        · exact .inr ⟨a, vs, _, v, rfl, r2, t1, e1, k.here rs q e2⟩
      · exact q.elim
    · exact q.elim
  · exact q.elim
/-- t[lo:hi] -/
def cutD (ds : List D) (lo hi : Option Int) : List D := (ds.drop (HT.sIx ds.length 0 lo)).take (HT.sIx ds.length ds.length hi - HT.sIx ds.length 0 lo)
/-- of a list of any kind -/
def Sto.lsts (S : Sto) : D → Option (List D)
  | .lst ds => some ds
  | .fz ds => some ds
  | .ref p => match S p with
    | some (.lst ds) => some ds
    | _ => none
  | _ => none
theorem lsts_at {K : PySem.W.Frag} {S : Sto} {H : Hp} {d : D} {ds : List D} {v : V} (h : S.lsts d = some ds) (rd : RD K S H d v) (rs : RS K S H) : ∃ a vs, v = .ref a ∧ SqL K H a vs ∧ RDs K S H ds vs := by
  cases d with
  | fz es =>
    have e : es = ds := Option.some.inj h
    subst e
    rw [RD] at rd
    obtain ⟨a, vs, h1, h2, h3⟩ := rd
    exact ⟨a, vs, h1, h2.sq, h3⟩
  | lst es =>
    obtain ⟨a, vs, h1, h2, h3⟩ := list_at (d := .lst es) (ds := ds) h rd rs
    exact ⟨a, vs, h1, .of h2, h3⟩
  | ref p =>
    obtain ⟨a, vs, h1, h2, h3⟩ := list_at (d := .ref p) (ds := ds) h rd rs
    exact ⟨a, vs, h1, .of h2, h3⟩
  | _ => cases h
def oSl (r : Bool) : RSlD := fun d lo hi S Q => match d with
  | .tup ds => Q (.tup (cutD ds lo hi)) S
  | d => match S.lsts d with
    | some ds => newL r (cutD ds lo hi) S Q
    | none => False
theorem cut_rd {K : PySem.W.Frag} {S : Sto} {H : Hp} {ds : List D} {vs : List V} {lo hi : Option Int} (r : RDs K S H ds vs) : RDs K S H (cutD ds lo hi) (cutV vs lo hi) := by
  unfold cutD cutV
  rw [r.len]
  exact (r.drop _).take _
theorem p_sl {r : Bool} : SlD X (oSl r) := slD_of (sl_list.or sl_tupA) fun d x lo hi S H Qd Q r1 rs q k => by
  unfold oSl at q
  split at q
  · rename_i ds
    rw [RD] at r1
    obtain ⟨a, vs, rfl, t1, s1⟩ := r1
    refine .inr ⟨a, vs, rfl, t1, fun ⟨c1, c2⟩ => ?_, fun _ p hp => newT_ok rs (cut_rd s1) q k p hp⟩
    have e : cutD ds lo hi = ds := by
      unfold cutD
      rw [← s1.len, c1, c2, List.drop_zero, Nat.sub_zero, s1.len, List.take_length]
    rw [e] at q
    exact k.here rs q (by rw [RD]; exact ⟨a, vs, rfl, t1, s1⟩)
  · rename_i h
    split at q
    · rename_i ds hs
      obtain ⟨a, vs, rfl, t1, s1⟩ := lsts_at hs r1 rs
      exact .inl ⟨a, vs, rfl, t1, fun p hp => newL_ok rs (cut_rd s1) q k p hp⟩
    · exact q.elim
end
end PL
/-! built-in functions, list methods, membership, items -/
namespace PL
open PySem PySem.Spec PyProof.Rows L2
section
variable {X : Cx}
/-! ### items of lists: set, get -/
def oSet : TSetD := fun d e f S Q => match e with
  | .int k => match d with
    | .ref p => match S p with
      | some (.lst ds) => ∃ j, ixN ds.length k = some j ∧ Q (S.up p (.lst (ds.set j f)))
      | _ => False
    | _ => False
  | _ => False
theorem oSet_is {d e f : D} {S : Sto} {Q : Sto → Prop} (h : oSet d e f S Q) : ∃ k p ds j, e = .int k ∧ d = .ref p ∧ S p = some (.lst ds) ∧ ixN ds.length k = some j ∧ Q (S.up p (.lst (ds.set j f))) := by
  unfold oSet at h
  split at h
  · split at h
    · split at h
      · rename_i ds hs
        obtain ⟨j, h1, h2⟩ := h
        exact ⟨_, _, ds, j, rfl, rfl, hs, h1, h2⟩
      · exact h.elim
    · exact h.elim
  · exact h.elim
theorem p_set : SetD X oSet := setD_of set_list fun d e f x y z S H Qd Q r1 r2 r3 rs q k => by
  obtain ⟨i, p, ds, j, rfl, rfl, hs, hj, q⟩ := oSet_is q
  obtain ⟨vs, h1, h2⟩ := rs p _ hs
  have r1' := r1
  have r2' := r2
  rw [RD] at r1'
  rw [RD] at r2'
  refine ⟨p, vs, i, j, r1', r2', h1, by rw [h2.len]; exact hj, k _ _ q ?_⟩
  exact Go.wrote rs hs fun S' H' tp e => ⟨_, e, (h2.tp tp).set j (r3.tp tp)⟩
theorem get_list : PGet X (rIxL X.K) := by
  intro pins s σ H x y v u Q I rx ry h
  obtain ⟨p, xs, i, z, rfl, rfl, hq, he, q⟩ := h
  cases rx
  obtain ⟨t, rfl⟩ := ry
  obtain ⟨its, r, pl, hz⟩ := I.list hq
  obtain ⟨j, h1, h2, h3, h4, h5⟩ := atI_get he
  obtain ⟨w, ew, rw'⟩ := r.get h2
  have hl := r.length
  have hn := line63
  have fin : EP X pins σ Q w s := ⟨z, H, I, rw', q⟩
  by_cases h0 : 0 ≤ i
  · have hj : i.toNat = j := by
      rw [seqIndex_of h0 h5] at h1
      exact Option.some.inj h1
    exact wpAny_getItem_list pl.isList h0 (by omega) (by rw [hj]; simpa using ew) fin
  · have hj : (i + (its.toArray.size : Int)).toNat = j := by
      rw [seqIndex_neg (by omega) h4] at h1
      rw [List.size_toArray, ← hl]
      exact Option.some.inj h1
    exact wpAny_getItem_list_neg pl.isList (by omega) (by rw [List.size_toArray] <;> omega) (by omega) (by rw [hj]; simpa using ew) fin
def oGet : R2D := fun d e S Q => match e with
  | .int i => match S.lsts d with
    | some ds => match atI ds i with
      | some x => Q x S
      | none => False
    | none => False
  | _ => False
theorem p_get : GetD X oGet := fun pins s σ H x y v u Q I rx ry h => get_list pins s σ H x y v u Q I rx ry (by
  obtain ⟨d, e, S, Qd, r1, r2, rs, q, k⟩ := h
  unfold oGet at q
  split at q
  · split at q
    · rename_i ds hs
      split at q
      · rename_i z hz
        rw [RD] at r2
        obtain ⟨a, vs, rfl, t1, s1⟩ := lsts_at hs r1 rs
        obtain ⟨v, e1, e2⟩ := atI_rd s1 hz
        exact ⟨a, vs, _, v, rfl, r2, t1, e1, k.here rs q e2⟩
      · exact q.elim
    · exact q.elim
  · exact q.elim)

/-! ### len -/
theorem one_rd {K : PySem.W.Frag} {S : Sto} {H : Hp} {d : D} {vs : List V} (r : RDs K S H [d] vs) : ∃ v, vs = [v] ∧ RD K S H d v := r.one
def oLen : RLD := fun ds S Q => match ds with
  | [d] => match S.seq d with
    | some es => Q (.int (es.length : Nat)) S
    | none => False
  | _ => False
theorem p_len : CallD X (.builtin "len") oLen := callD_of call_len_seq fun ds vs S H Qd Q r rs q k => by
  unfold oLen at q
  split at q
  · split at q
    · rename_i es hs
      obtain ⟨v, rfl, r1⟩ := r.one
      obtain ⟨a, ws, rfl, t1, s1⟩ := seq_at hs r1 rs
      exact ⟨a, ws, rfl, t1, by rw [s1.len]; exact k.here rs q RD.int⟩
    · exact q.elim
  · exact q.elim

/-! ### sum, min, max of ints -/
theorem rds_ints {K : PySem.W.Frag} {S : Sto} {H : Hp} : ∀ {ns : List Int} {vs : List V}, RDs K S H (ns.map D.int) vs → vs = ns.map V.int
  | [], vs, h => RDs.nil.mp h
  | n :: ns, vs, h => by
    rw [List.map_cons, RDs] at h
    obtain ⟨v, r, rfl, h1, h2⟩ := h
    rw [RD] at h1
    rw [h1, rds_ints h2]; rfl
theorem rds_bls {K : PySem.W.Frag} {S : Sto} {H : Hp} : ∀ {ns : List Bool} {vs : List V}, RDs K S H (ns.map D.bl) vs → vs = ns.map V.bl
  | [], vs, h => RDs.nil.mp h
  | n :: ns, vs, h => by
    rw [List.map_cons, RDs] at h
    obtain ⟨v, r, rfl, h1, h2⟩ := h
    rw [RD] at h1
    rw [h1, rds_bls h2]; rfl
theorem ints_rds {K : PySem.W.Frag} {S : Sto} {H : Hp} : ∀ (ns : List Int), RDs K S H (ns.map D.int) (ns.map V.int)
  | [] => RDs.nil.mpr rfl
  | n :: ns => RDs.cons RD.int (ints_rds ns)
/-- sum of ints in a list; in a tuple -/
def oSum : RLD := fun ds S Q => match ds with
  | [d] => ∃ ns : List Int, S.seq d = some (ns.map D.int) ∧ Q (.int ns.sum) S
  | _ => False
/-- all, any over a list of bools -/
def oAll : RLD := fun ds S Q => match ds with
  | [d] => ∃ bs : List Bool, S.lsts d = some (bs.map D.bl) ∧ Q (.bl (bs.all id)) S
  | _ => False
def oAny : RLD := fun ds S Q => match ds with
  | [d] => ∃ bs : List Bool, S.lsts d = some (bs.map D.bl) ∧ Q (.bl (bs.any id)) S
  | _ => False
theorem p_all (hc : X.calm = true) : CallD X (.builtin "all") oAll := callD_of (cr_all hc) fun ds vs S H Qd Q r rs q k => by
  unfold oAll at q
  split at q
  · obtain ⟨bs, hs, q⟩ := q
    obtain ⟨v, rfl, r1⟩ := r.one
    obtain ⟨a, ws, rfl, t1, s1⟩ := lsts_at hs r1 rs
    rw [rds_bls s1] at t1
    exact ⟨a, bs, rfl, t1, k.here rs q RD.bl⟩
  · exact q.elim
theorem p_any (hc : X.calm = true) : CallD X (.builtin "any") oAny := callD_of (cr_any hc) fun ds vs S H Qd Q r rs q k => by
  unfold oAny at q
  split at q
  · obtain ⟨bs, hs, q⟩ := q
    obtain ⟨v, rfl, r1⟩ := r.one
    obtain ⟨a, ws, rfl, t1, s1⟩ := lsts_at hs r1 rs
    rw [rds_bls s1] at t1
    exact ⟨a, bs, rfl, t1, k.here rs q RD.bl⟩
  · exact q.elim
/-! ### abs, min, max of two, int, bool -/
def o1I (g : Int → Int) : RLD := fun ds S Q => match ds with
  | [.int i] => Q (.int (g i)) S
  | _ => False
def o2I (g : Int → Int → Int) : RLD := fun ds S Q => match ds with
  | [.int i, .int j] => Q (.int (g i j)) S
  | _ => False
abbrev oAbs : RLD := o1I fun i => if i < 0 then -i else i
theorem p_abs : CallD X (.builtin "abs") oAbs := callD_of call_abs fun ds vs S H Qd Q r rs q k => by
  unfold oAbs o1I at q
  split at q
  · obtain ⟨v, rfl, r1⟩ := r.one
    rw [RD] at r1
    exact ⟨_, by rw [r1], k.here rs q RD.int⟩
  · exact q.elim
abbrev oMax2 : RLD := o2I fun i j => if j > i then j else i
abbrev oMin2 : RLD := o2I fun i j => if j < i then j else i
theorem p_max2 (hc : X.calm = true) : CallD X (.builtin "max") oMax2 := callD_of (call_max2 hc) fun ds vs S H Qd Q r rs q k => by
  unfold oMax2 o2I at q
  split at q
  · obtain ⟨v, w, rfl, r1, r2⟩ := r.two
    rw [RD] at r1 r2
    exact ⟨_, _, by rw [r1, r2], k.here rs q RD.int⟩
  · exact q.elim
theorem p_min2 (hc : X.calm = true) : CallD X (.builtin "min") oMin2 := callD_of (call_min2 hc) fun ds vs S H Qd Q r rs q k => by
  unfold oMin2 o2I at q
  split at q
  · obtain ⟨v, w, rfl, r1, r2⟩ := r.two
    rw [RD] at r1 r2
    exact ⟨_, _, by rw [r1, r2], k.here rs q RD.int⟩
  · exact q.elim
def oInt : RLD := fun ds S Q => match ds with
  | [.int i] => Q (.int i) S
  | [.bl b] => Q (.int (if b then 1 else 0)) S
  | _ => False
theorem p_int : CallD X (.type "int") oInt := callD_of call_int1 fun ds vs S H Qd Q r rs q k => by
  unfold oInt at q
  split at q
  · obtain ⟨v, rfl, r1⟩ := r.one
    rw [RD] at r1
    exact .inl ⟨_, by rw [r1], k.here rs q RD.int⟩
  · obtain ⟨v, rfl, r1⟩ := r.one
    rw [RD] at r1
    exact .inr ⟨_, by rw [r1], k.here rs q RD.int⟩
  · exact q.elim
def oBool : RLD := fun ds S Q => match ds with
  | [.int i] => Q (.bl (i != 0)) S
  | [.bl b] => Q (.bl b) S
  | _ => False
theorem p_bool : CallD X (.type "bool") oBool := callD_of call_bool1 fun ds vs S H Qd Q r rs q k => by
  unfold oBool at q
  split at q
  · obtain ⟨v, rfl, r1⟩ := r.one
    rw [RD] at r1
    exact .inl ⟨_, by rw [r1], k.here rs q RD.bl⟩
  · obtain ⟨v, rfl, r1⟩ := r.one
    rw [RD] at r1
    exact .inr ⟨_, by rw [r1], k.here rs q RD.bl⟩
  · exact q.elim
/-! ### list(x), tuple(x) -/
def oList (r : Bool) : RLD := fun ds S Q => match ds with
  | [d] => match S.seq d with
    | some es => newL r es S Q
    | none => False
  | _ => False
theorem p_list {r : Bool} : CallD X (.type "list") (oList r) := callD_of call_list_of fun ds vs S H Qd Q rr rs q k => by
  unfold oList at q
  split at q
  · split at q
    · rename_i es hs
      obtain ⟨v, rfl, r1⟩ := rr.one
      obtain ⟨a, ws, rfl, t1, s1⟩ := seq_at hs r1 rs
      exact ⟨a, ws, rfl, t1, fun p hp => newL_ok rs s1 q k p hp⟩
    · exact q.elim
  · exact q.elim
def oTuple : RLD := fun ds S Q => match ds with
  | [d] => match S.seq d with
    | some es => Q (.tup es) S
    | none => False
  | _ => False
theorem p_tuple : CallD X (.type "tuple") oTuple := callD_of call_tuple_of fun ds vs S H Qd Q rr rs q k => by
  unfold oTuple at q
  split at q
  · split at q
    · rename_i es hs
      obtain ⟨v, rfl, r1⟩ := rr.one
      obtain ⟨a, ws, rfl, t1, s1⟩ := seq_at hs r1 rs
      refine ⟨a, ws, rfl, ?_⟩
      rcases t1 with t1 | t1
      · exact .inl ⟨t1, fun p hp => newT_ok rs s1 q k p hp⟩
      · exact .inr ⟨t1, k.here rs q (by rw [RD]; exact ⟨a, ws, rfl, t1, s1⟩)⟩
    · exact q.elim
  · exact q.elim
end

/-! ### range(..) as an argument of list, tuple -/
section
variable {X : Cx} {a b e : Expr} {δa δb : TED} {p pos : Pos}
abbrev TRD := DEnv → Sto → (Int → Int → Sto → Prop) → Prop
def LR (K : PySem.W.Frag) (δ : TRD) : L2.St → Hp → (Int → Int → Hp → Prop) → Prop := fun σ H Q => ∃ ρ S Qd, RE K S H ρ σ ∧ RS K S H ∧ δ ρ S Qd ∧ ∀ i j S' H', Qd i j S' → Go K S H S' H' → Q i j H'
abbrev DRg (X : Cx) (e : Expr) (δ : TRD) : Prop := PRg X e (LR X.K δ)
theorem prgW {t t' : L2.St → Hp → (Int → Int → Hp → Prop) → Prop} (h : PRg X e t) (w : ∀ σ H Q, t' σ H Q → t σ H Q) : PRg X e t' := fun pins s σ H Q I q => h pins s σ H Q I (w σ H Q q)
def dRg1 (δ : TED) : TRD := fun ρ S Q => δ ρ S fun x S1 => match x with
  | .int n => Q 0 n S1
  | _ => False
def dRg2 (δa δb : TED) : TRD := fun ρ S Q => δa ρ S fun x S1 => δb ρ S1 fun y S2 => match x, y with
  | .int i, .int j => Q i j S2
  | _, _ => False
theorem drg_1 (hm : X.mg "range" = none) (ha : DE X a δa) (hg : Gl X "range" := by rfl) (na : starEach [a] X.env = (false, eval a X.env) :: starEach [] X.env := by rfl) : DRg X (.Call (.Name "range" p) [a] [] pos) (dRg1 δa) :=
  prgW (prg_1 hg hm ha na) fun σ H Q ⟨ρ, S, Qd, re, rs, q, k⟩ => by
    refine ⟨ρ, S, _, re, rs, q, fun x S1 v H1 q1 g1 r1 => ?_⟩
    try dsimp only at q1
    split at q1
    · rw [RD] at r1
      exact ⟨_, r1, k _ _ _ _ q1 g1⟩
    · exact q1.elim
theorem drg_2 (hm : X.mg "range" = none) (ha : DE X a δa) (hb : DE X b δb) (hg : Gl X "range" := by rfl) (na : starEach [a, b] X.env = (false, eval a X.env) :: starEach [b] X.env := by rfl)
    (nb : starEach [b] X.env = (false, eval b X.env) :: starEach [] X.env := by rfl) (hp : (backTo pos (starEach [b] X.env)).any (·.1) = false := by rfl) : DRg X (.Call (.Name "range" p) [a, b] [] pos) (dRg2 δa δb) :=
  prgW (prg_2 hg hm ha hb na nb hp) fun σ H Q ⟨ρ, S, Qd, re, rs, q, k⟩ => by
    refine ⟨ρ, S, _, re, rs, q, fun x S1 v H1 q1 g1 r1 => ?_⟩
    refine ⟨ρ, S1, _, re.tp g1.tp, g1.rs, q1, fun y S2 w H2 q2 g2 r2 => ?_⟩
    try dsimp only at q2
    split at q2
    · rw [RD] at r1 r2
      exact ⟨_, _, r1, r2, k _ _ _ _ q2 (g1.trans g2)⟩
    · exact q2.elim
def rgD (a b : Int) : List D := (List.range (b - a).toNat).map fun i => .int (a + (i : Nat))
theorem rgD_rd {K : PySem.W.Frag} {S : Sto} {H : Hp} (a b : Int) : RDs K S H (rgD a b) (rgV a b) := by
  have h := ints_rds (K := K) (S := S) (H := H) ((List.range (b - a).toNat).map fun i => a + (i : Nat))
  rw [List.map_map, List.map_map] at h
  exact h
def dListRg (r : Bool) (δ : TRD) : TED := fun ρ S Q => δ ρ S fun i j S1 => RgOk i j ∧ newL r (rgD i j) S1 Q
def dTupRg (δ : TRD) : TED := fun ρ S Q => δ ρ S fun i j S1 => RgOk i j ∧ Q (.tup (rgD i j)) S1
theorem de_listRg {r : Bool} {δ : TRD} (hc : X.calm = true) (hm : X.mg "list" = none) (he : DRg X e δ) (hg : Gl X "list" := by rfl) (na : starEach [e] X.env = (false, eval e X.env) :: starEach [] X.env := by rfl) : DE X (.Call (.Name "list" p) [e] [] pos) (dListRg r δ) :=
  peW (pe_listRg hc hg hm he na) fun σ H Q ⟨ρ, S, Qd, re, rs, q, k⟩ =>
    ⟨ρ, S, _, re, rs, q, fun i j S1 H1 ⟨q1, q2⟩ g1 => ⟨q1, fun p hp => newL_ok g1.rs (rgD_rd i j) q2 (k.go g1) p hp⟩⟩
theorem de_tupRg {δ : TRD} (hc : X.calm = true) (hm : X.mg "tuple" = none) (he : DRg X e δ) (hg : Gl X "tuple" := by rfl) (na : starEach [e] X.env = (false, eval e X.env) :: starEach [] X.env := by rfl) : DE X (.Call (.Name "tuple" p) [e] [] pos) (dTupRg δ) :=
  peW (pe_tupRg hc hg hm he na) fun σ H Q ⟨ρ, S, Qd, re, rs, q, k⟩ =>
    ⟨ρ, S, _, re, rs, q, fun i j S1 H1 ⟨q1, q2⟩ g1 => ⟨q1, fun p hp => newT_ok g1.rs (rgD_rd i j) q2 (k.go g1) p hp⟩⟩
end
end PL
/-! least, greatest, sorted; isinstance; list methods; membership -/
namespace PL
open PySem PySem.Spec PySem.W PyProof.Rows L2

/-! ### the order -/
def ltD (d e : D) : Bool := dataLt (D.py d) (D.py e)
theorem minD_least : ∀ (xs : List PyData) (x : PyData), minD x xs ∈ x :: xs ∧ ∀ y ∈ x :: xs, dataLt y (minD x xs) = false
  | [], x => ⟨List.mem_cons_self, fun y hy => by
    rw [List.mem_singleton.mp hy]
    exact lex_irrefl _⟩
  | z :: zs, x => by
    unfold minD
    rw [List.foldl_cons]
    by_cases h : dataLt z x = true
    · rw [if_pos h]
      obtain ⟨m1, m2⟩ := minD_least zs z
      unfold minD at m1 m2
      refine ⟨List.mem_cons_of_mem _ m1, fun y hy => ?_⟩
      rcases List.mem_cons.mp hy with rfl | hy
      · cases c : dataLt y (List.foldl (fun a y => if dataLt y a = true then y else a) z zs) with
        | false => rfl
        | true =>
          have := lex_trans _ _ _ h c
          have q : dataLt z (List.foldl (fun a y => if dataLt y a = true then y else a) z zs) = true := this
          rw [m2 z List.mem_cons_self] at q
          cases q
      · exact m2 y hy
    · rw [if_neg h]
      obtain ⟨m1, m2⟩ := minD_least zs x
      unfold minD at m1 m2
      refine ⟨?_, fun y hy => ?_⟩
      · rcases List.mem_cons.mp m1 with e | e
        · rw [e]; exact List.mem_cons_self
        · exact List.mem_cons_of_mem _ (List.mem_cons_of_mem _ e)
      · rcases List.mem_cons.mp hy with rfl | hy
        · exact m2 y List.mem_cons_self
        · rcases List.mem_cons.mp hy with rfl | hy
          · cases c : dataLt y (List.foldl (fun a y => if dataLt y a = true then y else a) x zs) with
            | false => rfl
            | true =>
              rcases lex_negTrans _ (keyToks x) _ c with q | q
              · exact absurd q h
              · have q' : dataLt x (List.foldl (fun a y => if dataLt y a = true then y else a) x zs) = true := q
                rw [m2 x List.mem_cons_self] at q'
                cases q'
          · exact m2 y (List.mem_cons_of_mem _ hy)
theorem maxD_most : ∀ (xs : List PyData) (x : PyData), maxD x xs ∈ x :: xs ∧ ∀ y ∈ x :: xs, dataLt (maxD x xs) y = false
  | [], x => ⟨List.mem_cons_self, fun y hy => by
    rw [List.mem_singleton.mp hy]
    exact lex_irrefl _⟩
  | z :: zs, x => by
    unfold maxD
    rw [List.foldl_cons]
    by_cases h : dataLt x z = true
    · rw [if_pos h]
      obtain ⟨m1, m2⟩ := maxD_most zs z
      unfold maxD at m1 m2
      refine ⟨List.mem_cons_of_mem _ m1, fun y hy => ?_⟩
      rcases List.mem_cons.mp hy with rfl | hy
      · cases c : dataLt (List.foldl (fun a y => if dataLt a y = true then y else a) z zs) y with
        | false => rfl
        | true =>
          have q : dataLt (List.foldl (fun a y => if dataLt a y = true then y else a) z zs) z = true := lex_trans _ _ _ c h
          rw [m2 z List.mem_cons_self] at q
          cases q
      · exact m2 y hy
    · rw [if_neg h]
      obtain ⟨m1, m2⟩ := maxD_most zs x
      unfold maxD at m1 m2
      refine ⟨?_, fun y hy => ?_⟩
      · rcases List.mem_cons.mp m1 with e | e
        · rw [e]; exact List.mem_cons_self
        · exact List.mem_cons_of_mem _ (List.mem_cons_of_mem _ e)
      · rcases List.mem_cons.mp hy with rfl | hy
        · exact m2 y List.mem_cons_self
        · rcases List.mem_cons.mp hy with rfl | hy
          · cases c : dataLt (List.foldl (fun a y => if dataLt a y = true then y else a) x zs) y with
            | false => rfl
            | true =>
              rcases lex_negTrans _ (keyToks x) _ c with q | q
              · have q' : dataLt (List.foldl (fun a y => if dataLt a y = true then y else a) x zs) x = true := q
                rw [m2 x List.mem_cons_self] at q'
                cases q'
              · exact absurd q h
          · exact m2 y (List.mem_cons_of_mem _ hy)
section
variable {X : Cx}
/-- what data items of a list are read from -/
theorem reads_of {K : PySem.W.Frag} {P : Program} {w : World} {H : Hp} {s : Shared} {pins : List (Addr × Obj)} {σ : L2.St} {X : Cx} {S : Sto} {n : Nat} {ds : List D} {vs : List V} {us : List Value} (I : Inv X pins σ H s) (h : ds.all (D.okn n) = true) (r : RDs X.K S H ds vs) (rv : Vals vs us) :
    ∃ as, ReadsAll s.heap us (D.pys ds) as := Dp.readsAll I _ _ _ (okn_all_dp h r) rv
theorem depth_all {n : Nat} : ∀ {ds : List D}, ds.all (D.okn n) = true → PyData.depthAll (D.pys ds) ≤ n ∧ PyData.canLayAll0 (D.pys ds) = true
  | [], _ => by simp [D.pys, PyData.depthAll, PyData.canLayAll0]
  | d :: ds, h => by
    rw [List.all_cons, Bool.and_eq_true] at h
    obtain ⟨a1, a2⟩ := D.okn_lay n d h.1
    obtain ⟨b1, b2⟩ := depth_all h.2
    rw [D.pys, PyData.depthAll, PyData.canLayAll0, a1, b2]
    exact ⟨Nat.max_le.mpr ⟨a2, b1⟩, rfl⟩
/-- the items are of one kind -/
def akin (ds : List D) : Prop := ∀ d ∈ ds, ∀ e ∈ ds, alike (D.py d) (D.py e) = true ∧ D.py d ≠ .none
theorem akin_all {ds : List D} (h : akin ds) : AlikeAll (D.pys ds) := by
  rw [D.pys_eq]
  refine ⟨fun x hx y hy => ?_, fun x hx => ?_⟩
  · obtain ⟨d, hd, rfl⟩ := List.mem_map.mp hx
    obtain ⟨e, he, rfl⟩ := List.mem_map.mp hy
    exact (h d hd e he).1
  · obtain ⟨d, hd, rfl⟩ := List.mem_map.mp hx
    exact (h d hd d hd).2
def oMinL : RLD := fun ds S Q => match ds with
  | [d] => match S.seq d with
    | some es => (es ≠ [] ∧ es.all (D.okn 8) = true ∧ akin es) ∧ ∀ m ∈ es, (∀ y ∈ es, ltD y m = false) → Q m S
    | none => False
  | _ => False
def oMaxL : RLD := fun ds S Q => match ds with
  | [d] => match S.seq d with
    | some es => (es ≠ [] ∧ es.all (D.okn 8) = true ∧ akin es) ∧ ∀ m ∈ es, (∀ y ∈ es, ltD m y = false) → Q m S
    | none => False
  | _ => False
theorem pick_of {K : PySem.W.Frag} {S : Sto} {H : Hp} {s' : Shared} {pins : List (Addr × Obj)} {σ : L2.St} {X : Cx} {es : List D} {ws : List V} {its : List Value} {m : PyData} {i : Nat} {v : Value} {h' : Heap} {bs : List Addr} (I' : Inv X pins σ H s') (eh : s'.heap = h')
    (he : es.all (D.okn 8) = true) (s1 : RDs X.K S H es ws) (rv : Vals ws its) (hv : its.toArray[i]? = some v) (hr : Reads h' v m bs) : ∃ d ∈ es, ∃ x, RelV x v ∧ RD X.K S H d x ∧ D.py d = m := by
  have hv' : its[i]? = some v := by simpa using hv
  have hl := rv.length
  have hl2 := s1.len
  have hlt : i < its.length := by
    obtain ⟨h1, _⟩ := List.getElem?_eq_some_iff.mp hv'
    exact h1
  have hx : ws[i]? = some ws[i] := List.getElem?_eq_getElem (by omega)
  obtain ⟨d, hd, rd⟩ := s1.getV hx
  obtain ⟨u, hu, ru⟩ := rv.get hx
  rw [hv'] at hu
  cases hu
  have hm : d ∈ es := List.mem_of_getElem? hd
  have ok : D.okn 8 d = true := List.all_eq_true.mp he d hm
  obtain ⟨as, r⟩ := Dp.reads I' _ _ _ (D.okn_dp 8 d _ ok rd) ru
  rw [eh] at r
  exact ⟨d, hm, _, ru, rd, PySem.SeqAt.Reads.unique _ _ _ _ _ (D.okn_lay 8 d ok).1 r hr⟩
theorem p_minL (hu : X.A.units + 64 < cLine) (hc : X.calm = true) : CallD X (.builtin "min") oMinL := by
  intro pins s σ H vs us Q I r ⟨ds, S, Qd, rr, rs, q, k⟩
  unfold oMinL at q
  split at q
  · split at q
    · rename_i es hs
      obtain ⟨⟨ne, ok, ak⟩, q⟩ := q
      obtain ⟨v, rfl, r1⟩ := rr.one
      obtain ⟨a, ws, rfl, t1, s1⟩ := seq_at hs r1 rs
      rw [Vals.ref1 r]
      obtain ⟨e0, er, rfl⟩ := List.exists_cons_of_ne_nil ne
      have hd := (depth_all ok).1
      have fin : ∀ (its : List Value) (rv : Vals ws its) (i : Nat) v h' tk bs, its.toArray[i]? = some v → Reads h' v (minD (D.py e0) (D.pys er)) bs → (∀ b o, s.heap.get? b = some o → h'.get? b = some o) → EP X pins σ Q v { s with heap := h', toks := tk } := by
        intro its rv i v h' tk bs hv hr hk
        have I' : Inv X pins σ H { s with heap := h', toks := tk } := I.kept hk
        obtain ⟨d, hm, x, rx, rd, e⟩ := pick_of (K := X.K) I' rfl ok s1 rv hv hr
        refine ⟨x, H, I', rx, k.here rs (q d hm fun y hy => ?_) rd⟩
        unfold ltD
        rw [e]
        refine (minD_least _ _).2 _ ?_
        have : D.py y ∈ D.pys (e0 :: er) := by rw [D.pys_eq]; exact List.mem_map.mpr ⟨y, hy, rfl⟩
        rw [D.pys] at this
        exact this
      rcases t1 with t1 | t1
      · obtain ⟨its, rv, pl, hz⟩ := I.list t1
        obtain ⟨as, ra⟩ := reads_of (K := X.K) (P := X.prog) (w := X.w) I ok s1 rv
        rw [D.pys] at ra
        exact min_list_data (I.ok.hd hc) pl.isList (by simpa using ra) (by have := akin_all ak; rw [D.pys] at this; exact this) (by rw [D.pys] at hd; omega) fun i v h' tk bs hv hr hk => fin its rv i v h' tk bs hv hr hk
      · obtain ⟨its, rv, pl, hz⟩ := I.tuple t1
        obtain ⟨as, ra⟩ := reads_of (K := X.K) (P := X.prog) (w := X.w) I ok s1 rv
        rw [D.pys] at ra
        exact min_tuple_data (I.ok.hd hc) (show s.heap.IsTuple a its.toArray from pl) (by simpa using ra) (by have := akin_all ak; rw [D.pys] at this; exact this) (by rw [D.pys] at hd; omega) fun i v h' tk bs hv hr hk => fin its rv i v h' tk bs hv hr hk
    · exact q.elim
  · exact q.elim
theorem p_maxL (hu : X.A.units + 64 < cLine) (hc : X.calm = true) : CallD X (.builtin "max") oMaxL := by
  intro pins s σ H vs us Q I r ⟨ds, S, Qd, rr, rs, q, k⟩
  unfold oMaxL at q
  split at q
  · split at q
    · rename_i es hs
      obtain ⟨⟨ne, ok, ak⟩, q⟩ := q
      obtain ⟨v, rfl, r1⟩ := rr.one
      obtain ⟨a, ws, rfl, t1, s1⟩ := seq_at hs r1 rs
      rw [Vals.ref1 r]
      obtain ⟨e0, er, rfl⟩ := List.exists_cons_of_ne_nil ne
      have hd := (depth_all ok).1
      have fin : ∀ (its : List Value) (rv : Vals ws its) (i : Nat) v h' tk bs, its.toArray[i]? = some v → Reads h' v (maxD (D.py e0) (D.pys er)) bs → (∀ b o, s.heap.get? b = some o → h'.get? b = some o) → EP X pins σ Q v { s with heap := h', toks := tk } := by
        intro its rv i v h' tk bs hv hr hk
        have I' : Inv X pins σ H { s with heap := h', toks := tk } := I.kept hk
        obtain ⟨d, hm, x, rx, rd, e⟩ := pick_of (K := X.K) I' rfl ok s1 rv hv hr
        refine ⟨x, H, I', rx, k.here rs (q d hm fun y hy => ?_) rd⟩
        unfold ltD
        rw [e]
        refine (maxD_most _ _).2 _ ?_
        have : D.py y ∈ D.pys (e0 :: er) := by rw [D.pys_eq]; exact List.mem_map.mpr ⟨y, hy, rfl⟩
        rw [D.pys] at this
        exact this
      rcases t1 with t1 | t1
      · obtain ⟨its, rv, pl, hz⟩ := I.list t1
        obtain ⟨as, ra⟩ := reads_of (K := X.K) (P := X.prog) (w := X.w) I ok s1 rv
        rw [D.pys] at ra
        exact max_list_data (I.ok.hd hc) pl.isList (by simpa using ra) (by have := akin_all ak; rw [D.pys] at this; exact this) (by rw [D.pys] at hd; omega) fun i v h' tk bs hv hr hk => fin its rv i v h' tk bs hv hr hk
      · obtain ⟨its, rv, pl, hz⟩ := I.tuple t1
        obtain ⟨as, ra⟩ := reads_of (K := X.K) (P := X.prog) (w := X.w) I ok s1 rv
        rw [D.pys] at ra
        exact max_tuple_data (I.ok.hd hc) (show s.heap.IsTuple a its.toArray from pl) (by simpa using ra) (by have := akin_all ak; rw [D.pys] at this; exact this) (by rw [D.pys] at hd; omega) fun i v h' tk bs hv hr hk => fin its rv i v h' tk bs hv hr hk
    · exact q.elim
  · exact q.elim
/-- min, max: of two ints, or of the items -/
def oMin : RLD := fun ds S Q => match ds with
  | [_] => oMinL ds S Q
  | _ => oMin2 ds S Q
def oMax : RLD := fun ds S Q => match ds with
  | [_] => oMaxL ds S Q
  | _ => oMax2 ds S Q
theorem p_min (hu : X.A.units + 64 < cLine) (hc : X.calm = true) : CallD X (.builtin "min") oMin := callD_W (callD_or (p_minL hu hc) (p_min2 hc)) fun ds S Q q => by
  unfold oMin at q
  split at q
  · exact .inl q
  · exact .inr q
theorem p_max (hu : X.A.units + 64 < cLine) (hc : X.calm = true) : CallD X (.builtin "max") oMax := callD_W (callD_or (p_maxL hu hc) (p_max2 hc)) fun ds S Q q => by
  unfold oMax at q
  split at q
  · exact .inl q
  · exact .inr q

/-! ### sorted -/
def leD (d e : D) : Bool := dataLe false D.py d e
def oSorted (r : Bool) : RLD := fun ds S Q => match ds with
  | [d] => match S.lsts d with
    | some es => (es.all (D.okn 8) = true ∧ akin es ∧ Sortable (es.map D.py) ∧ es.length ≤ sizeLine) ∧ newL r (es.mergeSort leD) S Q
    | none => False
  | _ => False

theorem each_rd {K : PySem.W.Frag} {S : Sto} {H : Hp} {s : Shared} {pins : List (Addr × Obj)} {σ : L2.St} {X : Cx} (I : Inv X pins σ H s) : ∀ {es : List D} {ws : List V} {us : List Value}, es.all (D.okn 8) = true → RDs X.K S H es ws → Vals ws us →
    EachIs (fun v d => ∃ x, RelV x v ∧ RD X.K S H d x) us es ∧ EachIs (fun v d => ∃ as, Reads s.heap v (D.py d) as) us es
  | [], ws, us, _, r, rv => by
    rw [RDs.nil.mp r] at rv
    cases rv
    exact ⟨.nil, .nil⟩
  | e :: es, ws, us, h, r, rv => by
    rw [List.all_cons, Bool.and_eq_true] at h
    rw [RDs] at r
    obtain ⟨w, wr, rfl, r1, r2⟩ := r
    cases rv with
    | cons a b =>
      obtain ⟨i1, i2⟩ := each_rd (K := K) I h.2 r2 b
      exact ⟨.cons ⟨_, a, r1⟩ i1, .cons (Dp.reads I _ _ _ (D.okn_dp 8 e _ h.1 r1) a) i2⟩
theorem rd_each {K : PySem.W.Frag} {S : Sto} {H : Hp} : ∀ {es : List D} {us : List Value}, EachIs (fun v d => ∃ x, RelV x v ∧ RD K S H d x) us es → ∃ ws, Vals ws us ∧ RDs K S H es ws
  | _, _, .nil => ⟨[], .nil, RDs.nil.mpr rfl⟩
  | _, _, .cons ⟨x, a, b⟩ t => by
    obtain ⟨ws, h1, h2⟩ := rd_each t
    exact ⟨x :: ws, .cons a h1, RDs.cons b h2⟩
theorem p_sorted (hu : X.A.units + 64 < cLine) {r : Bool} : CallD X (.builtin "sorted") (oSorted r) := by
  intro pins s σ H vs us Q I rr0 ⟨ds, S, Qd, rr, rs, q, k⟩
  unfold oSorted at q
  split at q
  · split at q
    · rename_i es hs
      obtain ⟨⟨ok, ak, so, hz⟩, q⟩ := q
      obtain ⟨v, rfl, r1⟩ := rr.one
      obtain ⟨a, ws, rfl, t1, s1⟩ := lsts_at hs r1 rs
      rw [Vals.ref1 rr0]
      obtain ⟨its, rv, pl, hz2⟩ := I.list t1
      obtain ⟨e1, e2⟩ := each_rd (K := X.K) I ok s1 rv
      have ak' : AllAlike (es.map D.py) := by have := (akin_all ak).1; rw [D.pys_eq] at this; exact this
      refine sorted_data (vs := its) (bs := es) (enc := D.py) (by exact pl.isList) e1 e2 ak' so hz (fun b hb => ?_) fun out hlen eo => ?_
      · have := (D.okn_lay 8 b (List.all_eq_true.mp ok b hb)).2
        omega
      · obtain ⟨ys, v1, v2⟩ := rd_each eo
        obtain ⟨ep, he'⟩ := PyProof.Rows.sortedAll_at s.heap its out.toArray
        have hl : ys.length ≤ sizeLine := by rw [v2.len, List.length_mergeSort]; exact hz
        exact ⟨.ref _, upd H (s.heap.objs.size + 1) (.lst ys), I.laid (t' := s.toks) (fun _ _ => PyProof.Rows.sortedAll_old) (Nat.le_succ _) ⟨hl, out, ep, v1, he'⟩, rfl, newL_ok rs v2 q k _ (I.hok.fresh (Nat.le_succ _))⟩
    · exact q.elim
  · exact q.elim
end
end PL
/-! isinstance, methods, membership, tuple * int, * in displays, [::-1], sum -/
namespace PL
open PySem PySem.Spec PySem.W PyProof.Rows L2

/-! ### isinstance -/
def D.tyN (S : Sto) : D → Option String
  | .non => some "NoneType"
  | .bl _ => some "bool"
  | .int _ => some "int"
  | .str _ => some "str"
  | .tup _ => some "tuple"
  | .lst _ => some "list"
  | .fz _ => some "list"
  | .ref p => match S p with
    | some (.lst _) => some "list"
    | some _ => some "dict"
    | none => none
theorem tyX_of {K : PySem.W.Frag} {S : Sto} {H : Hp} {d : D} {v : V} {n : String} (r : RD K S H d v) (rs : RS K S H) (h : d.tyN S = some n) : TyX K H v (.type n) := by
  cases d with
  | non => rw [RD] at r; subst r; cases h; exact .base .non
  | bl b => rw [RD] at r; subst r; cases h; exact .base (.bl b)
  | int b => rw [RD] at r; subst r; cases h; exact .base (.int b)
  | str b => rw [RD] at r; subst r; cases h; exact .base (.str b)
  | tup ds =>
    rw [RD] at r
    obtain ⟨a, vs, rfl, t, _⟩ := r
    cases h
    rcases t with (t | ⟨o, t⟩) | ⟨o, its, n, h1, h2, _⟩
    · exact .base (.tup t)
    · exact .fTuple t
    · exact .kTuple h1 h2
  | lst ds =>
    rw [RD] at r
    obtain ⟨a, vs, rfl, _, t, _⟩ := r
    cases h
    exact .base (.lst t)
  | fz ds =>
    rw [RD] at r
    obtain ⟨a, vs, rfl, t, _⟩ := r
    cases h
    rcases t with ⟨o, t⟩ | ⟨o, its, n, t1, t2, _⟩
    · exact .base (.frz t)
    · exact .kList t1 t2
  | ref p =>
    rw [RD] at r
    subst r
    have h' : (match S p with
      | some (.lst _) => some "list"
      | some _ => some "dict"
      | none => none) = some n := h
    split at h'
    · rename_i ds e
      cases h'
      obtain ⟨vs, h1, _⟩ := rs p _ e
      exact .base (.lst h1)
    · rename_i mo e2 e
      cases h'
      cases mo with
      | lst ds => exact absurd rfl (e2 ds)
      | dK kvs => obtain ⟨ws, h1, _⟩ := rs p _ e; exact .base (.dK h1)
      | dT kvs => obtain ⟨ws, h1, _⟩ := rs p _ e; exact .base (.dT h1)
    · cases h'
section
variable {X : Cx} {e : Expr} {δ : TED} {p p2 pos : Pos} {es : List Expr} {α : TAD}
/-- isinstance(e, T), T a built-in type's name -/
def dIsi (T : String) (δ : TED) : TED := fun ρ S Q => δ ρ S fun x S1 => match x.tyN S1 with
  | some n => ∃ b, kitB n T = some b ∧ Q (.bl b) S1
  | none => False
theorem de_isi {x : Str} (T : String) (hm : X.mg "isinstance" = none) (hm2 : X.mg x = none) (hv : bootBuiltins x = some (.type T)) (ha : DE X e δ) (hg : Gl X "isinstance" := by rfl) (hg2 : Gl X x := by rfl) (hn : x ≠ "__name__" := by decide) (hd : (x == ("__debug__" : Str)) = false := by decide)
    (hs : starEach [e, .Name x p2] X.env = (false, eval e X.env) :: starEach [.Name x p2] X.env := by rfl) (hs2 : starEach [.Name x p2] X.env = (false, eval (.Name x p2) X.env) :: starEach [] X.env := by rfl) (hpl : (backTo pos (starEach [.Name x p2] X.env)).any (·.1) = false := by rfl) :
    DE X (.Call (.Name "isinstance" p) [e, .Name x p2] [] pos) (dIsi T δ) := by
  have hb : bootBuiltins "isinstance" = some (.builtin "isinstance") := by decide +kernel
  refine peW (pe_callB call_isi hg hm hb (pa_cons ha (pa_cons (pe_bltn (v := .ty T) hg2 hm2 hv rfl hn hd) pa_nil hs2) hs) (by decide) (by decide) hs hpl) fun σ H Q ⟨ρ, S, Qd, re, rs, q, k⟩ => ?_
  refine ⟨ρ, S, _, re, rs, q, fun d S1 v H1 q1 g1 r1 => ?_⟩
  try dsimp only at q1
  split at q1
  · rename_i n hn
    obtain ⟨b, hb, q1⟩ := q1
    exact ⟨v, .ty T, _, _, b, rfl, .ty T, tyX_of r1 g1.rs hn, kit_ty hb, (k.go g1).here g1.rs q1 RD.bl⟩
  · exact q1.elim

/-! ### methods of lists -/
theorem mtM_of {id : String} {r : V → List V → Hp → VK → Prop} {o : RMD} (h : MtM X id r) (w : ∀ d ds x xs S H Qd Q, RD X.K S H d x → RDs X.K S H ds xs → RS X.K S H → o d ds S Qd → Aft X.K S H Qd Q → r x xs H Q) : MtD X id o :=
  fun pins s σ H x xs v us Q I rx rxs ⟨d, ds, S, Qd, r1, r2, rs, q, k⟩ => h pins s σ H x xs v us Q I rx rxs (w d ds x xs S H Qd Q r1 r2 rs q k)
def Sto.trk (S : Sto) : D → Option (Addr × List D)
  | .ref p => match S p with
    | some (.lst ds) => some (p, ds)
    | _ => none
  | _ => none
theorem trk_is {S : Sto} {d : D} {p : Addr} {ds : List D} (h : S.trk d = some (p, ds)) : d = .ref p ∧ S p = some (.lst ds) := by
  cases d with
  | ref q =>
    have h' : (match S q with
      | some (.lst ds) => some (q, ds)
      | _ => none) = some (p, ds) := h
    split at h'
    · rename_i es e
      cases h'
      exact ⟨rfl, e⟩
    · cases h'
  | _ => cases h
def oAppend : RMD := fun d ds S Q => match S.trk d, ds with
  | some (p, es), [x] => es.length < sizeLine ∧ Q .non (S.up p (.lst (es ++ [x])))
  | _, _ => False
theorem m_append : MtD X "list.append" oAppend := mtM_of mt_append fun d ds x xs S H Qd Q r1 r2 rs q k => by
  unfold oAppend at q
  split at q
  · rename_i y p es z ht
    obtain ⟨rfl, hs⟩ := trk_is ht
    obtain ⟨v, rfl, r3⟩ := r2.one
    obtain ⟨vs, h1, h2⟩ := rs p _ hs
    rw [RD] at r1
    have g := Go.wrote (mo' := .lst (es ++ [z])) rs hs fun S' H' tp e => ⟨_, e, (h2.tp tp).snoc (r3.tp tp)⟩
    exact ⟨p, vs, v, r1, rfl, h1, by rw [h2.len]; exact q.1, k _ _ _ _ q.2 g RD.non⟩
  · exact q.elim
def oExtend : RMD := fun d ds S Q => match S.trk d, ds with
  | some (p, es), [x] => match S.list x with
    | some zs => es.length + zs.length ≤ sizeLine ∧ Q .non (S.up p (.lst (es ++ zs)))
    | none => False
  | _, _ => False
theorem m_extend : MtD X "list.extend" oExtend := mtM_of mt_extend fun d ds x xs S H Qd Q r1 r2 rs q k => by
  unfold oExtend at q
  split at q
  · rename_i y p es z ht
    split at q
    · rename_i zs hz
      obtain ⟨rfl, hs⟩ := trk_is ht
      obtain ⟨v, rfl, r3⟩ := r2.one
      obtain ⟨vs, h1, h2⟩ := rs p _ hs
      obtain ⟨b, ws, rfl, h3, h4⟩ := list_at hz r3 rs
      rw [RD] at r1
      have g := Go.wrote (mo' := .lst (es ++ zs)) rs hs fun S' H' tp e => ⟨_, e, (h2.tp tp).append (h4.tp tp)⟩
      exact ⟨p, b, vs, ws, r1, rfl, h1, h3, by rw [h2.len, h4.len]; exact q.1, k _ _ _ _ q.2 g RD.non⟩
    · exact q.elim
  · exact q.elim
theorem RDs.dropLast {K : PySem.W.Frag} {S : Sto} {H : Hp} {ds : List D} {vs : List V} (h : RDs K S H ds vs) : RDs K S H ds.dropLast vs.dropLast := by
  rw [List.dropLast_eq_take, List.dropLast_eq_take, h.len]
  exact h.take _
def oPop : RMD := fun d ds S Q => match S.trk d, ds with
  | some (p, es), [] => ∃ y, es[es.length - 1]? = some y ∧ Q y (S.up p (.lst es.dropLast))
  | _, _ => False
theorem m_pop : MtD X "list.pop" oPop := mtM_of mt_pop fun d ds x xs S H Qd Q r1 r2 rs q k => by
  unfold oPop at q
  split at q
  · rename_i y p es ht
    obtain ⟨y, hy, q⟩ := q
    obtain ⟨rfl, hs⟩ := trk_is ht
    obtain ⟨vs, h1, h2⟩ := rs p _ hs
    obtain ⟨v, e1, e2⟩ := h2.get hy
    rw [RD] at r1
    have g := Go.wrote (mo' := .lst es.dropLast) rs hs fun S' H' tp e => ⟨_, e, (h2.tp tp).dropLast⟩
    exact ⟨p, vs, v, r1, RDs.nil.mp r2, h1, by rw [h2.len]; exact e1, k _ _ _ _ q g (e2.tp g.tp)⟩
  · exact q.elim
def oPopAt : RMD := fun d ds S Q => match S.trk d, ds with
  | some (p, es), [.int i] => es.length ≤ sizeLine ∧ ∃ j y, ixN es.length i = some j ∧ es[j]? = some y ∧ Q y (S.up p (.lst (es.eraseIdx j)))
  | _, _ => False
theorem m_popAt : MtD X "list.pop" oPopAt := mtM_of mt_popAt fun d ds x xs S H Qd Q r1 r2 rs q k => by
  unfold oPopAt at q
  split at q
  · rename_i y p es i ht
    obtain ⟨hz, j, y, hj, hy, q⟩ := q
    have hsl := sizeLine_eq
    obtain ⟨rfl, hs⟩ := trk_is ht
    obtain ⟨vs, h1, h2⟩ := rs p _ hs
    obtain ⟨v, e1, e2⟩ := h2.get hy
    obtain ⟨w, rfl, r3⟩ := r2.one
    rw [RD] at r1 
    rw [RD] at r3
    subst r3
    have g := Go.wrote (mo' := .lst (es.eraseIdx j)) rs hs fun S' H' tp e => ⟨_, e, (h2.tp tp).erase j⟩
    obtain ⟨a1, a2, a3, a4⟩ := ixN_seq hj
    obtain ⟨b1, _⟩ := List.getElem?_eq_some_iff.mp e1
    refine ⟨p, vs, i, j, v, r1, rfl, h1, ?_, ?_, by rw [h2.len]; exact a1, e1, k _ _ _ _ q g (e2.tp g.tp)⟩
    · omega
    · omega
  · exact q.elim

/-! ### x in t, x not in t: data -/
def oIn (neg : Bool) : R2D := fun d e S Q => match S.seq e with
  | some es => (D.okn 8 d = true ∧ es.all (D.okn 8) = true) ∧ Q (.bl (if neg then !(es.any fun z => eqD z d) else es.any fun z => eqD z d)) S
  | none => False
theorem any_pys (d : D) : ∀ es : List D, (D.pys es).any (fun y => PyData.eqv y (D.py d)) = es.any fun z => eqD z d
  | [] => by rw [D.pys]; rfl
  | e :: es => by rw [D.pys, List.any_cons, List.any_cons, any_pys d es]; rfl
theorem in_go {S : Sto} {H : Hp} {s : Shared} {pins : List (Addr × Obj)} {σ : L2.St} {d : D} {es : List D} {a : Addr} {ws : List V} {x : V} {v : Value} {Q : Value → Shared → Prop} (neg : Bool) (hu : X.A.units + 64 < cLine) (I : Inv X pins σ H s) (h1 : D.okn 8 d = true) (h2 : es.all (D.okn 8) = true)
    (rx : RelV x v) (r1 : RD X.K S H d x) (t : SqL X.K H a ws ∨ SqT X.K H a ws) (s1 : RDs X.K S H es ws) (hq : Q (.bool (if neg then !(es.any fun z => eqD z d) else es.any fun z => eqD z d)) s) :
    wpAny (model X.prog X.w) X.A (compareOp (if neg then .NotIn else .In) v (.ref a)) Q X.xe s := by
  obtain ⟨as, ra⟩ := Dp.reads I _ _ _ (D.okn_dp 8 d _ h1 r1) rx
  obtain ⟨c1, c2⟩ := D.okn_lay 8 d h1
  obtain ⟨b1, b2⟩ := depth_all h2
  have hm : X.A.units + 1 + min (PyData.depthAll (D.pys es)) (D.py d).depth < cLine := by
    have := Nat.min_le_left (PyData.depthAll (D.pys es)) (D.py d).depth
    omega
  rcases t with t | t
  · obtain ⟨its, rv, pl, hz⟩ := I.list t
    obtain ⟨bs, rb⟩ := reads_of (K := X.K) (P := X.prog) (w := X.w) I h2 s1 rv
    cases neg with
    | true =>
      rw [if_pos rfl] at hq ⊢
      refine PySem.SeqAt.notIn_listAt _ pl.isList (PySem.SeqAt.items_eqAt (show ReadsAll s.heap its.toArray.toList _ _ by simpa using rb) ra b2 c1 hm) ?_
      rw [PySem.SeqAt.any_by_data (show ReadsAll s.heap its.toArray.toList _ _ by simpa using rb) b2, any_pys]
      exact hq
    | false =>
      rw [if_neg Bool.false_ne_true] at hq ⊢
      refine PySem.SeqAt.in_listAt _ pl.isList (PySem.SeqAt.items_eqAt (show ReadsAll s.heap its.toArray.toList _ _ by simpa using rb) ra b2 c1 hm) ?_
      rw [PySem.SeqAt.any_by_data (show ReadsAll s.heap its.toArray.toList _ _ by simpa using rb) b2, any_pys]
      exact hq
  · obtain ⟨its, rv, pl, hz⟩ := I.tuple t
    obtain ⟨bs, rb⟩ := reads_of (K := X.K) (P := X.prog) (w := X.w) I h2 s1 rv
    cases neg with
    | true =>
      rw [if_pos rfl] at hq ⊢
      refine PySem.SeqAt.notIn_tupleAt _ (show s.heap.IsTuple a its.toArray from pl) (PySem.SeqAt.items_eqAt (show ReadsAll s.heap its.toArray.toList _ _ by simpa using rb) ra b2 c1 hm) ?_
      rw [PySem.SeqAt.any_by_data (show ReadsAll s.heap its.toArray.toList _ _ by simpa using rb) b2, any_pys]
      exact hq
    | false =>
      rw [if_neg Bool.false_ne_true] at hq ⊢
      refine PySem.SeqAt.in_tupleAt _ (show s.heap.IsTuple a its.toArray from pl) (PySem.SeqAt.items_eqAt (show ReadsAll s.heap its.toArray.toList _ _ by simpa using rb) ra b2 c1 hm) ?_
      rw [PySem.SeqAt.any_by_data (show ReadsAll s.heap its.toArray.toList _ _ by simpa using rb) b2, any_pys]
      exact hq
theorem p_in (hu : X.A.units + 64 < cLine) : OpD X (compareOp .In) (oIn false) := by
  intro pins s σ H x y v u Q I rx ry ⟨d, e, S, Qd, r1, r2, rs, q, k⟩
  unfold oIn at q
  split at q
  · rename_i es hs
    obtain ⟨a, ws, rfl, t1, s1⟩ := seq_at hs r2 rs
    cases ry
    exact in_go false hu I q.1.1 q.1.2 rx r1 t1 s1 ⟨.bl _, H, I, rfl, k.here rs q.2 RD.bl⟩
  · exact q.elim
theorem p_notIn (hu : X.A.units + 64 < cLine) : OpD X (compareOp .NotIn) (oIn true) := by
  intro pins s σ H x y v u Q I rx ry ⟨d, e, S, Qd, r1, r2, rs, q, k⟩
  unfold oIn at q
  split at q
  · rename_i es hs
    obtain ⟨a, ws, rfl, t1, s1⟩ := seq_at hs r2 rs
    cases ry
    exact in_go true hu I q.1.1 q.1.2 rx r1 t1 s1 ⟨.bl _, H, I, rfl, k.here rs q.2 RD.bl⟩
  · exact q.elim

/-! ### * in displays and calls -/
theorem da_star (he : DE X e δ) (hr : DA X es α) (hs : starEach (.Starred e p :: es) X.env = (true, eval e X.env) :: starEach es X.env := by rfl) : DA X (.Starred e p :: es) (dStar δ α) := paW (StX.pa_star he hr hs) fun σ H Q ⟨ρ, S, Qd, re, rs, q, k⟩ => by
  refine ⟨ρ, S, _, re, rs, q, fun x S1 v H1 q1 g1 r1 => ?_⟩
  obtain ⟨ds, hds, q1⟩ := q1
  obtain ⟨a, vs, e1, e2, e3⟩ := seq_at hds r1 g1.rs
  exact ⟨a, vs, e1, e2.symm, ρ, S1, _, re.tp g1.tp, g1.rs, q1, fun xs S2 ws H2 q2 g2 r2 => k _ _ _ _ q2 (g1.trans g2) ((e3.tp g2.tp).append r2)⟩

/-! ### t[::-1] -/
def dRev (r : Bool) (δ : TED) : TED := fun ρ S Q => δ ρ S fun x S1 => match x with
  | .tup ds => Q (.tup ds.reverse) S1
  | x => match S1.lsts x with
    | some ds => newL r ds.reverse S1 Q
    | none => False
theorem adjust_rev (n : Nat) : Builtin.Slice.sliceAdjust none none (-1) (n : Int) = ((n : Int) - 1, -1) := by
  unfold Builtin.Slice.sliceAdjust
  rfl
theorem places_rev (n : Nat) : Builtin.Slice.slicePlaces ((n : Int) - 1) (-1) (-1) = n := by
  unfold Builtin.Slice.slicePlaces
  rw [if_neg (by decide)]
  split
  · have : (((n : Int) - 1 - -1 - 1) / (- -1) + 1) = n := by
      rw [show (- -1 : Int) = 1 by decide, Int.ediv_one]; omega
    rw [this]; rfl
  · omega
end
section
variable {prog : Program} {w : World} {A : Around} {E : Value → Shared → Prop} {s : Shared}
theorem sliceApplied_rev {sl : Addr} {vs : Value} {n : Nat} {Q : Int × Int × Nat → Shared → Prop} (hs : s.heap.IsSliceOf sl .none .none vs) (ps : IsPart vs (some (-1)))
    (h : Q ((n : Int) - 1, -1, n) s) : wpAny (model prog w) A (Builtin.Slice.sliceApplied (.ref sl) (pure (n : Int))) Q E s := by
  obtain ⟨os, hos, hcs, hds⟩ := id hs
  unfold Builtin.Slice.sliceApplied Builtin.Slice.sliceFields
  refine wpAny_bind (wpAny_bind (wpAny_field hos hds (x := .none) rfl (wpAny_bind (wpAny_field hos hds (x := .none) rfl (wpAny_bind (wpAny_field hos hds (x := vs) rfl (wpAny_pure ?_)))))))
  refine wpAny_bind (HT.slicePart_ ps ?_)
  show wpAny _ _ (if ((-1 : Int) == 0) = true then _ else _) _ _ s
  rw [if_neg (by decide)]
  refine wpAny_bind (HT.slicePart_ .none (wpAny_bind (HT.slicePart_ .none (wpAny_bind (wpAny_pure ?_)))))
  show wpAny _ _ (match Builtin.Slice.sliceAdjust none none (-1) (n : Int) with | (lo, hi) => pure (lo, (-1 : Int), Builtin.Slice.slicePlaces lo hi (-1))) _ _ s
  rw [adjust_rev n]
  show wpAny _ _ (pure ((n : Int) - 1, (-1 : Int), Builtin.Slice.slicePlaces ((n : Int) - 1) (-1) (-1))) _ _ s
  rw [places_rev]
  exact wpAny_pure h
theorem range_all : ∀ l : List Value, (List.range l.length).filterMap (fun i => l[i]?) = l
  | [] => rfl
  | x :: l => by
    rw [List.length_cons, List.range_succ_eq_map, List.filterMap_cons]
    show x :: _ = _
    rw [List.filterMap_map]
    exact congrArg (x :: ·) (range_all l)
theorem pick_rev (xs : Array Value) : ((List.range xs.size).filterMap fun (m : Nat) => xs[((xs.size : Int) - 1 + (m : Int) * -1).toNat]?).toArray = xs.toList.reverse.toArray := by
  congr 1
  have e : (fun (m : Nat) => xs[((xs.size : Int) - 1 + (m : Int) * -1).toNat]?) = fun m => xs[(xs.size - 1 - m)]? := by
    funext m
    congr 1
    omega
  rw [e]
  have e2 : (fun m => xs[(xs.size - 1 - m)]?) = (fun i => xs[i]?) ∘ fun k => xs.size - 1 - k := rfl
  rw [e2, ← List.filterMap_map, krv_range, List.filterMap_reverse]
  congr 1
  have h := range_all xs.toList
  rw [Array.length_toList] at h
  have e3 : (fun i : Nat => xs[i]?) = fun i => xs.toList[i]? := by funext i; rw [Array.getElem?_toList]
  rw [e3]
  exact h
theorem getItem_tuple_rev {t sl : Addr} {items : Array Value} {vs : Value} {Q : Value → Shared → Prop} (ht : IsTup s.heap t items) (hs : s.heap.IsSliceOf sl .none .none vs) (ps : IsPart vs (some (-1)))
    (h : Q (.ref s.heap.objs.size) { s with heap := s.heap.push { cls := .type "tuple", data := .seq items.toList.reverse.toArray } })
    (hsz : items.size ≤ sizeLine) : wpAny (model prog w) A (getItem (.ref t) (.ref sl)) Q E s := by
  have htake : sizeOk (.seq items.toList.reverse.toArray) := by
    show items.toList.reverse.toArray.size ≤ sizeLine
    rw [List.size_toArray, List.length_reverse, Array.length_toList]
    exact hsz
  obtain ⟨os, hos, hcs, hds⟩ := id hs
  have hTs : s.TypeIs (.ref sl) "slice" := ⟨os, hos, hcs⟩
  unfold getItem
  try with_reducible refine wpAny_holding ?_
  first | refine wpAny_bind (wpAny_pure ?_) | skip
  refine wpAny_bind (wpAny_sequenceKey ht.typeIs (by decide) ?_)
  refine wpAny_bind (wpAny_callSpecial?_slot (name := Str.ofString "__getitem__") ht.typeIs PyProof.Rows.slot_tuple_getitem
    (wpAny_call_entry PyProof.Rows.slot_tuple_getitem ht.typeIs PyProof.Rows.entry_tuple_getitem ?_ (PyProof.Rows.args_tuple_getitem _ _)))
  show wpAny _ _ (Builtin.Tuple.tupleItemsOf (.ref t) >>= _) _ _ s
  refine wpAny_bind (tupleItemsOf_ ht ?_)
  refine wpAny_bind (wpAny_typeOf hTs ?_)
  rw [if_pos (by decide)]
  refine wpAny_bind (sliceApplied_rev hs ps ?_)
  have hno : ¬ (((items.size : Int) - 1 == 0 && (-1 : Int) == 1 && items.size == items.size) = true) := by
    intro q
    rw [Bool.and_eq_true, Bool.and_eq_true] at q
    exact absurd q.1.2 (by decide)
  show wpAny _ _ (if ((items.size : Int) - 1 == 0 && (-1 : Int) == 1 && items.size == items.size) = true then _ else _) _ _ s
  rw [if_neg hno, pick_rev]
  first
    | exact wpAny_bind (m := Builtin.Tuple.tupleExact _) (wpAny_newObj_type (wpAny_pure ⟨_, rfl, wpAny_pure h⟩) htake)
    | exact wpAny_bind (m := Builtin.Tuple.tupleExact _) (wpAny_newObj_type (wpAny_bind (wpAny_pure (wpAny_pure ⟨_, rfl, wpAny_pure h⟩))) htake)
    | exact wpAny_bind (wpAny_bind (m := Builtin.Tuple.tupleExact _) (wpAny_newObj_type (wpAny_pure (wpAny_pure ⟨_, rfl, wpAny_pure h⟩)) htake))
    | exact wpAny_bind (wpAny_bind (m := Builtin.Tuple.tupleExact _) (wpAny_newObj_type (wpAny_pure ⟨_, rfl, wpAny_pure h⟩) htake))
end

section
variable {X : Cx} {e : Expr} {δ : TED} {p p2 pos : Pos} {es : List Expr} {α : TAD}
theorem de_rev {r : Bool} {k : Nat} {p1 p2 p3 : Pos} (he : DE X e δ) : DE X (.Subscript e (.Slice none none (some (.UnaryOp .USub (.Constant (.int 1) k p1) p2)) p3) pos) (dRev r δ) := by
  refine peW (t := fun σ H Q => LE X.K δ σ H fun x H1 => ∃ a xs, x = .ref a ∧ ((SqL X.K H1 a xs ∧ ∀ p, H1 p = none → Q (.ref p) (upd H1 p (.lst xs.reverse))) ∨ (SqT X.K H1 a xs ∧ ∀ p, H1 p = none → Q (.ref p) (upd H1 p (.tup xs.reverse))))) ⟨fun pins s σ H Q I h => ?_⟩ fun σ H Q ⟨ρ, S, Qd, re, rs, q, k⟩ => ?_
  · refine Subscript_ (thn (he.run pins s σ H _ I h) fun v s1 ⟨x, H1, I1, r1, q1⟩ => ?_)
    obtain ⟨a, xs, ex, q⟩ := q1
    subst ex
    cases r1
    have hst : PO X (some (.UnaryOp .USub (.Constant (.int 1) k p1) p2)) (tPart (tUn (rU fun i => .int (-i)) (tC (.int 1)))) := po_some (pe_un un_neg pe_int)
    refine wpAny_Slice (thn (po_none.run pins s1 σ H1 (fun o H2 => o = none ∧ H2 = H1) I1 ⟨rfl, rfl⟩) fun vl s2 ⟨l, H2, I2, pl, el, e2⟩ => ?_)
    subst el e2
    refine thn (po_none.run pins s2 σ H2 (fun o H3 => o = none ∧ H3 = H2) I2 ⟨rfl, rfl⟩) fun vu s3 ⟨u, H3, I3, pu, eu, e3⟩ => ?_
    subst eu e3
    refine thn (hst.run pins s3 σ H3 (fun o H4 => o = some (-1) ∧ H4 = H3) I3 ⟨1, rfl, -1, rfl, rfl, rfl⟩) fun vs s4 ⟨o, H4, I4, ps, eo, e4⟩ => ?_
    subst eo e4
    have I5 : Inv X pins σ H4 { s4 with heap := s4.heap.push { cls := .type "slice", data := .fields #[vl, vu, vs] } } := I4.kept (t' := s4.toks) fun b ob q => Heap.get?_push_of_some _ q
    show wpAny (model X.prog X.w) X.A (subscriptTail e (.Slice none none (some (.UnaryOp .USub (.Constant (.int 1) k p1) p2)) p3) (.ref a) (.ref s4.heap.objs.size)) (EP X pins σ Q) X.xe { s4 with heap := s4.heap.push { cls := .type "slice", data := .fields #[vl, vu, vs] } }
    rcases q with ⟨hx, q⟩ | ⟨hx, q⟩
    · obtain ⟨its, r, ht, hz⟩ := I5.list hx
      have hlen := r.length
      refine tail_any (ops := [.ref a, .ref s4.heap.objs.size]) ht.isList.typeIs (PySem.slot_list_getitem.lookup) ?_ (by with_unfolding_all rfl)
      refine wpAny_getItem_list_slice ht.isList (Heap.IsSliceOf.new _ vl vu vs) pl pu ps (by decide) ?_ (by rw [List.size_toArray]; omega)
      rw [PySem.W.krv_pick]
      refine ⟨.ref _, _, I5.laid (t' := s4.toks) (o := .lst xs.reverse) (fun b ob q => Heap.get?_push_of_some _ q) (Nat.le_refl _) ?_, rfl, q _ (I5.hok.fresh (Nat.le_refl _))⟩
      exact ⟨by rw [List.length_reverse]; exact hz, _, 0, r.reverse, Heap.get?_push_size _ rfl⟩
    · obtain ⟨its, r, ht, hz⟩ := I5.tuple hx
      have hlen := r.length
      cases pl
      cases pu
      refine tail_any (ops := [.ref a, .ref s4.heap.objs.size]) ht.typeIs (PyProof.Rows.slot_tuple_getitem.lookup) ?_ (by with_unfolding_all rfl)
      refine getItem_tuple_rev ht (Heap.IsSliceOf.new _ .none .none vs) ps ?_ (by rw [List.size_toArray]; omega)
      refine ⟨.ref _, _, I5.laid (t' := s4.toks) (o := .tup xs.reverse) (fun b ob q => Heap.get?_push_of_some _ q) (Nat.le_refl _) ?_, rfl, q _ (I5.hok.fresh (Nat.le_refl _))⟩
      exact ⟨by rw [List.length_reverse]; exact hz, _, r.reverse, IsTup.new _ _⟩
  · refine ⟨ρ, S, _, re, rs, q, fun x S1 v H1 q1 g1 r1 => ?_⟩
    try dsimp only at q1
    split at q1
    · rw [RD] at r1
      obtain ⟨a, vs, rfl, t1, s1⟩ := r1
      exact ⟨a, vs, rfl, .inr ⟨t1, fun p hp => newT_ok g1.rs s1.reverse q1 (k.go g1) p hp⟩⟩
    · split at q1
      · rename_i ds hs
        obtain ⟨a, vs, rfl, t1, s1⟩ := lsts_at hs r1 g1.rs
        exact ⟨a, vs, rfl, .inl ⟨t1, fun p hp => newL_ok g1.rs s1.reverse q1 (k.go g1) p hp⟩⟩
      · exact q1.elim

/-! ### sum -/
theorem preSum_take (ns : List Int) : ∀ i, i ≤ ns.length → preSum (fun i => ns.getD i 0) i = (ns.take i).sum
  | 0, _ => rfl
  | i + 1, h => by
    have hlt : i < ns.length := h
    rw [preSum, preSum_take ns i (by omega), List.take_succ, List.getElem?_eq_getElem hlt, List.sum_append]
    have e : ns.getD i 0 = ns[i] := by rw [List.getD_eq_getElem?_getD, List.getElem?_eq_getElem hlt]; rfl
    show _ + ns.getD i 0 = _ + ([ns[i]] : List Int).sum
    rw [e, List.sum_singleton]
theorem sum_go {its : List Value} {ns : List Int} (h : IntsAre its ns) : ∀ (i : Nat) (v : Value), its.toArray[i]? = some v → ∃ t, v = .int (ns.getD i 0) t := by
  induction h with
  | nil => intro i v hv; simp at hv
  | cons n k r ih =>
    intro i v hv
    cases i with
    | zero => 
      have e : Value.int n k = v := by simpa using hv
      exact ⟨k, e.symm⟩
    | succ i =>
      obtain ⟨t, e⟩ := ih i v (by simpa using hv)
      exact ⟨t, e⟩
theorem p_sum (hc : X.calm = true) : CallD X (.builtin "sum") oSum := by
  intro pins s σ H vs us Q I r ⟨ds, S, Qd, rr, rs, q, k⟩
  unfold oSum at q
  split at q
  · obtain ⟨ns, hs, q⟩ := q
    obtain ⟨v, rfl, r1⟩ := rr.one
    obtain ⟨a, ws, rfl, t1, s1⟩ := seq_at hs r1 rs
    rw [Vals.ref1 r]
    have e := rds_ints s1
    subst e
    have fin : ∀ (its : List Value), Vals (ns.map V.int) its → ∀ (h' : Heap) tk t', (∀ b o, s.heap.get? b = some o → h'.get? b = some o) → EP X pins σ Q (.int (preSum (fun i => ns.getD i 0) its.toArray.size) t') { s with heap := h', toks := tk } := by
      intro its rv h' tk t' hk
      have hl : its.toArray.size = ns.length := by rw [List.size_toArray, ← rv.length, List.length_map]
      rw [hl, preSum_take ns ns.length (Nat.le_refl _), List.take_length]
      exact ⟨.int ns.sum, H, I.kept hk, ⟨_, rfl⟩, k.here rs q RD.int⟩
    rcases t1 with t1 | t1
    · obtain ⟨its, rv, pl, hz⟩ := I.list t1
      refine call_sum_walkAnyS (iter_listW (A := X.A.in1) (I.ok.hd hc) pl.isList fun s₂ e W st hfp hw hk => ?_)
      refine ⟨_, _, _, _, _, _, _, fun i => ns.getD i 0, rfl, W, st, hfp, sum_go rv.ints, fun s' t' m => ?_⟩
      obtain ⟨h', tk, rfl, hk'⟩ := moved_old e rfl m
      exact fin its rv h' tk t' hk'
    · obtain ⟨its, rv, pl, hz⟩ := I.tuple t1
      refine call_sum_walkAnyS (iter_tupleW (A := X.A.in1) (I.ok.hd hc) (show s.heap.IsTuple a its.toArray from pl) fun s₂ e W st hfp hw hk => ?_)
      refine ⟨_, _, _, _, _, _, _, fun i => ns.getD i 0, rfl, W, st, hfp, sum_go rv.ints, fun s' t' m => ?_⟩
      obtain ⟨h', tk, rfl, hk'⟩ := moved_old e rfl m
      exact fin its rv h' tk t' hk'
  · exact q.elim

/-! ### tuple * 0, tuple * 1 -/
end
section
theorem tuple_mul1 (l : Addr) (items : Array Value) (n : Nat) (dd : Option Addr) (sl : Array (Option Value)) (u : Tok) :
    Meets (Builtin.«tuple.__mul__» ⟨[.ref l, .int 1 u], []⟩) (fun _ R s => s.heap.get? l = some { cls := .type "tuple", dict := dd, data := .seq items n, slots := sl } ∧ R (.ok (.ret (Value.ref l))) s) :=
  .of_wp fun prog w A R s h => by
    obtain ⟨hp, g, d, tk, os⟩ := s
    obtain ⟨hl, h⟩ := h
    have f1 := AutoSeq1.idx_int
    wp_walk using wpAny_loadPart' hl
    exact ⟨_, rfl, h⟩
theorem tuple_mul0 (l : Addr) (items : Array Value) (n : Nat) (dd : Option Addr) (sl : Array (Option Value)) (u : Tok) (c1 : items.isEmpty = false) :
    Meets (Builtin.«tuple.__mul__» ⟨[.ref l, .int 0 u], []⟩) (fun _ R s => s.heap.get? l = some { cls := .type "tuple", dict := dd, data := .seq items n, slots := sl } ∧
      R (.ok (.ret (Value.ref s.heap.objs.size))) { s with heap := s.heap.push { cls := Value.type "tuple", data := Data.seq #[] }, toks := s.toks }) :=
  .of_wp fun prog w A R s h => by
    obtain ⟨hp, g, d, tk, os⟩ := s
    obtain ⟨hl, h⟩ := h
    have f1 := AutoSeq1.idx_int
    have c2 : (items.isEmpty || (0 : Int) == 1) = false := by rw [c1]; rfl
    wp_walk using wpAny_loadPart' hl
    repeat (first
      | (refine wpAny_ite_false (decide_eq_false (by rw [c2]; exact Bool.false_ne_true)) ?_; wp_walk using wpAny_loadPart' hl)
      | (rw [c1]; wp_walk using wpAny_loadPart' hl))
    exact ⟨_, rfl, h⟩
section
variable {X : Cx}
def rRepS (K : PySem.W.Frag) : R2 := fun x y H Q => ∃ l xs, x = .ref l ∧ SqT K H l xs ∧ ((y = .int 1 ∧ Q (.ref l) H) ∨ (y = .int 0 ∧ xs ≠ [] ∧ ∀ p, H p = none → Q (.ref p) (upd H p (.tup []))))
theorem op_repS : OpR X (binaryOp .Mult) (rRepS X.K) := by
  intro pins s σ H x y v u Q I rx ry h
  obtain ⟨l, xs, rfl, hT, h⟩ := h
  cases rx
  obtain ⟨its, r, ⟨⟨cls, dd, data, sl⟩, ho, hc, n, hd⟩, hs⟩ := I.tuple hT
  simp only at hc hd
  subst hc hd
  rcases h with ⟨rfl, q⟩ | ⟨rfl, hne, q⟩
  · obtain ⟨t, rfl⟩ := ry
    refine wpAny_binaryOp_repeat_ref (T := "tuple") (U := "int") (by decide) ⟨_, ho, rfl⟩ (fun s' => typeIs_int s' 1 t) noFill_tuple_mul F.fills_int_mul F.slot_int_rmul repeat_tuple F.slot_int_index.lookup
      (call_meets F.slot_int_rmul (typeIs_int s 1 t) F.entry_int_rmul (F.args_int_rmul_2 _ _) (int_rmul_tuple 1 t l its.toArray n dd sl)
        ⟨ho, rfl, ⟨_, ho, rfl⟩, call_meets F.slot_tuple_mul ⟨_, ho, rfl⟩ F.entry_tuple_mul (F.args_tuple_mul_2 _ _) (tuple_mul1 l its.toArray n dd sl t) ⟨ho, ?_⟩⟩)
    exact ⟨.ref l, H, I, rfl, q⟩
  · obtain ⟨t, rfl⟩ := ry
    have hi : its.toArray.isEmpty = false := by
      cases its with
      | nil => cases r; exact absurd rfl hne
      | cons a b => rfl
    refine wpAny_binaryOp_repeat_ref (T := "tuple") (U := "int") (by decide) ⟨_, ho, rfl⟩ (fun s' => typeIs_int s' 0 t) noFill_tuple_mul F.fills_int_mul F.slot_int_rmul repeat_tuple F.slot_int_index.lookup
      (call_meets F.slot_int_rmul (typeIs_int s 0 t) F.entry_int_rmul (F.args_int_rmul_2 _ _) (int_rmul_tuple 0 t l its.toArray n dd sl)
        ⟨ho, rfl, ⟨_, ho, rfl⟩, call_meets F.slot_tuple_mul ⟨_, ho, rfl⟩ F.entry_tuple_mul (F.args_tuple_mul_2 _ _) (tuple_mul0 l its.toArray n dd sl t hi) ⟨ho, ?_⟩⟩)
    refine ⟨.ref s.heap.objs.size, _, I.laid (t' := s.toks) (o := .tup []) (fun b ob q => Heap.get?_push_of_some _ q) (Nat.le_refl _) ?_, rfl, q _ (I.hok.fresh (Nat.le_refl _))⟩
    exact ⟨Nat.zero_le _, [], .nil, IsTup.new _ _⟩
/-- tuple * int, any count; ints; lists -/
def oMulA (r : Bool) : R2D := fun d e S Q => match e with
  | .int k => match d with
    | .int i => CMul' i k ∧ Q (.int (i * k)) S
    | .tup a => (a ≠ [] ∧ 0 ≤ k ∧ k ≤ 1000 ∧ a.length ≤ 1000) ∧ Q (.tup (List.replicate k.toNat a).flatten) S
    | d => match S.list d with
      | some a => (0 ≤ k ∧ k < 2 ^ 62 ∧ a.length * k.toNat ≤ sizeLine) ∧ newL r (List.replicate k.toNat a).flatten S Q
      | none => False
  | _ => False
theorem p_mulA {r : Bool} : OpD X (binaryOp .Mult) (oMulA r) := by
  have small : OpD X (binaryOp .Mult) (fun d e S Q => ∃ a, d = .tup a ∧ a ≠ [] ∧ ((e = .int 0 ∧ Q (.tup []) S) ∨ (e = .int 1 ∧ Q (.tup a) S))) := opD_of op_repS fun d e x y S H Qd Q r1 r2 rs q k => by
    obtain ⟨a, rfl, hne, q⟩ := q
    rw [RD] at r1
    have r1' := r1
    obtain ⟨b, vs, rfl, t1, s1⟩ := r1
    refine ⟨b, vs, rfl, t1, ?_⟩
    rcases q with ⟨rfl, q⟩ | ⟨rfl, q⟩
    · rw [RD] at r2
      exact .inr ⟨r2, fun z => hne ((vals_nil_iff s1).mp z), fun p hp => newT_ok rs (RDs.nil.mpr rfl) q k p hp⟩
    · rw [RD] at r2
      exact .inl ⟨r2, k.here rs q (by rw [RD]; exact ⟨b, vs, rfl, t1, s1⟩)⟩
  refine opD_W (opD_or (p_mul (r := r)) small) fun d e S Q q => ?_
  cases e with
  | int kk =>
    cases d with
    | tup a =>
      obtain ⟨⟨c0, c1, c2, c3⟩, q⟩ := q
      by_cases h0 : kk = 0
      · subst h0
        exact .inr ⟨a, rfl, c0, .inl ⟨rfl, q⟩⟩
      · by_cases h1 : kk = 1
        · subst h1
          have e : (List.replicate (Int.toNat 1) a).flatten = a := by simp
          rw [e] at q
          exact .inr ⟨a, rfl, c0, .inr ⟨rfl, q⟩⟩
        · exact .inl ⟨⟨c0, by omega, c2, c3⟩, q⟩
    | _ => exact .inl q
  | _ => exact q.elim
end
end
end PL
/-! plain reasoning over the readings -/
namespace PL
open PySem PySem.Spec PySem.W PyProof.Rows L2

def Ext (S S' : Sto) : Prop := ∀ p o, S p = some o → S' p = some o
theorem Ext.refl {S : Sto} : Ext S S := fun _ _ h => h
theorem Ext.trans {S S1 S2 : Sto} (a : Ext S S1) (b : Ext S1 S2) : Ext S S2 := fun p o h => b p o (a p o h)
theorem Ext.up {S : Sto} {p : Addr} {o : MO} (h : S p = none) : Ext S (S.up p o) := fun q u e => by rw [Sto.up_ne (fun z => by subst z; rw [h] at e; cases e)]; exact e

/-! ### loops -/
theorem loopD_inv {ok : Sto → Prop} {f : D → TSD} {De : EndsD} (I : List D → DEnv → Sto → Prop)
    (step : ∀ x xs ρ S, I (x :: xs) ρ S → ok S → ∀ N : DEnv → Sto → Prop, (∀ ρ' S', ok S' → I xs ρ' S' → N ρ' S') → f x { nx := N, ct := N, bk := De.nx, rt := De.rt } ρ S)
    (fin : ∀ ρ S, I [] ρ S → De.nx ρ S) : ∀ (xs : List D) (ρ : DEnv) (S : Sto), I xs ρ S → ok S → loopD ok f xs De ρ S
  | [], ρ, S, h, _ => fin ρ S h
  | x :: xs, ρ, S, h, o => step x xs ρ S h o _ fun ρ' S' o' h' => ⟨o', loopD_inv I step fin xs ρ' S' h' o'⟩

theorem lcD_inv {Dl : Addr} {ok : Sto → Prop} {ρ : DEnv} {γ : TGD} {t : TTD} {el : TED} (I : List D → List D → Sto → Prop)
    (step : ∀ x xs acc S, I (x :: xs) acc S → S Dl = some (.lst acc) → ok S → ∀ N : List D → Sto → Prop, (∀ acc' S', S' Dl = some (.lst acc') → ok S' → I xs acc' S' → N acc' S') →
      γ x ρ S fun ρ' S1 => t ρ' S1 fun b S2 => match b with
        | true => el ρ' S2 fun y S3 => S3 Dl = some (.lst acc) ∧ acc.length < sizeLine ∧ ok (S3.up Dl (.lst (acc ++ [y]))) ∧ N (acc ++ [y]) (S3.up Dl (.lst (acc ++ [y])))
        | false => S2 Dl = some (.lst acc) ∧ ok S2 ∧ N acc S2) {Q : List D → Sto → Prop} (fin : ∀ acc S, I [] acc S → S Dl = some (.lst acc) → Q acc S) :
    ∀ (xs acc : List D) (S : Sto), I xs acc S → S Dl = some (.lst acc) → ok S → lcD Dl ok ρ γ t el xs acc S Q
  | [], acc, S, h, d, _ => fin acc S h d
  | x :: xs, acc, S, h, d, o => step x xs acc S h d o (fun acc S => lcD Dl ok ρ γ t el xs acc S Q) fun acc' S' d' o' h' => lcD_inv I step fin xs acc' S' h' d' o'

theorem newL_of {r : Bool} {ds : List D} {S : Sto} {Q : QD} {Dl : Addr} (h : newL r ds S Q) (hD : S Dl = none) : endL r Dl Q ds (S.up Dl (.lst ds)) := by
  cases r with
  | true => exact h Dl hD
  | false =>
    show Q (.lst ds) ((S.up Dl (.lst ds)).del Dl)
    rw [Sto.del_up hD]
    exact h
/-- a comprehension that changes nothing -/
theorem lc_map {r : Bool} {ρ0 : DEnv} {γ : TGD} {t : TTD} {el : TED} {it : ItD} {S : Sto} {Q : QD} (keep : D → Bool) (f : D → D) (hok : ∀ S', Ext S S' → it.ok S') (hlen : it.xs.length ≤ sizeLine)
    (hx : ∀ x ∈ it.xs, ∀ S', Ext S S' → ∀ (N : D → Sto → Prop) (M : Sto → Prop), (keep x = true → N (f x) S') → (keep x = false → M S') → γ x ρ0 S' fun ρ' S1 => t ρ' S1 fun b S2 => match b with
      | true => el ρ' S2 N
      | false => M S2)
    (q : newL r ((it.xs.filter keep).map f) S Q) : ∀ Dl, S Dl = none → it.ok (S.up Dl (.lst [])) ∧ lcD Dl it.ok ρ0 γ t el it.xs [] (S.up Dl (.lst [])) (endL r Dl Q) := by
  intro Dl hD
  refine ⟨hok _ (Ext.up hD), lcD_inv (fun xs acc S' => S' = S.up Dl (.lst acc) ∧ ∃ dn, dn ++ xs = it.xs ∧ acc = (dn.filter keep).map f) ?_ ?_ it.xs [] _ ⟨rfl, [], rfl, rfl⟩ Sto.up_same (hok _ (Ext.up hD))⟩
  · rintro x xs acc S' ⟨rfl, dn, e, rfl⟩ d o N n
    have hm : x ∈ it.xs := by rw [← e]; simp
    have hl : ((dn.filter keep).map f).length < sizeLine := by
      rw [List.length_map]
      have h1 : (dn.filter keep).length ≤ dn.length := List.length_filter_le _ _
      have h2 : dn.length + (x :: xs).length = it.xs.length := by rw [← e, List.length_append]
      rw [List.length_cons] at h2
      omega
    refine hx x hm _ (Ext.up hD) _ _ (fun hk => ?_) (fun hk => ?_)
    · refine ⟨Sto.up_same, hl, ?_, ?_⟩
      · rw [Sto.up_up]; exact hok _ (Ext.up hD)
      · refine n _ _ Sto.up_same ?_ ⟨Sto.up_up, dn ++ [x], by simpa using e, ?_⟩
        · rw [Sto.up_up]; exact hok _ (Ext.up hD)
        · rw [List.filter_append, List.map_append, List.filter_cons_of_pos hk]; rfl
    · refine ⟨Sto.up_same, hok _ (Ext.up hD), n _ _ Sto.up_same (hok _ (Ext.up hD)) ⟨rfl, dn ++ [x], by simpa using e, ?_⟩⟩
      rw [List.filter_append, List.filter_cons_of_neg (by rw [hk]; exact Bool.false_ne_true)]
      simp
  · rintro acc S' ⟨rfl, dn, e, rfl⟩ d
    rw [List.append_nil] at e
    subst e
    exact newL_of q hD
/-- of all items -/
theorem lc_mapA {r : Bool} {ρ0 : DEnv} {γ : TGD} {t : TTD} {el : TED} {it : ItD} {S : Sto} {Q : QD} (f : D → D) (hok : ∀ S', Ext S S' → it.ok S') (hlen : it.xs.length ≤ sizeLine)
    (hx : ∀ x ∈ it.xs, ∀ S', Ext S S' → ∀ (N : D → Sto → Prop) (M : Sto → Prop), N (f x) S' → γ x ρ0 S' fun ρ' S1 => t ρ' S1 fun b S2 => match b with
      | true => el ρ' S2 N
      | false => M S2)
    (q : newL r (it.xs.map f) S Q) : ∀ Dl, S Dl = none → it.ok (S.up Dl (.lst [])) ∧ lcD Dl it.ok ρ0 γ t el it.xs [] (S.up Dl (.lst [])) (endL r Dl Q) :=
  lc_map (fun _ => true) f hok hlen (fun x hm S' e N M h1 _ => hx x hm S' e N M (h1 rfl)) (by rw [List.filter_eq_self.mpr (fun _ _ => rfl)]; exact q)
/-- a comprehension whose element changes the store elsewhere: I says how it stands behind the items so far -/
theorem lc_run {r : Bool} {ρ0 : DEnv} {γ : TGD} {t : TTD} {el : TED} {it : ItD} {S : Sto} {Q : QD} (I : List D → List D → Sto → Prop) (hok : ∀ S', it.ok S') (hlen : it.xs.length ≤ sizeLine)
    (h0 : ∀ Dl, S Dl = none → I it.xs [] (S.up Dl (.lst [])))
    (hx : ∀ x xs acc S', (∃ dn, dn ++ x :: xs = it.xs) → I (x :: xs) acc S' → ∀ Dl, S Dl = none → S' Dl = some (.lst acc) → ∀ (N : D → Sto → Prop) (M : Sto → Prop), (∀ y S2, S2 Dl = some (.lst acc) → acc.length < sizeLine → I xs (acc ++ [y]) (S2.up Dl (.lst (acc ++ [y]))) → N y S2) → γ x ρ0 S' fun ρ' S1 => t ρ' S1 fun b S2 => match b with
      | true => el ρ' S2 N
      | false => M S2)
    (hlenA : ∀ x xs acc S', I (x :: xs) acc S' → acc.length + (x :: xs).length ≤ it.xs.length)
    (q : ∀ Dl acc S', S Dl = none → I [] acc S' → S' Dl = some (.lst acc) → endL r Dl Q acc S') : ∀ Dl, S Dl = none → it.ok (S.up Dl (.lst [])) ∧ lcD Dl it.ok ρ0 γ t el it.xs [] (S.up Dl (.lst [])) (endL r Dl Q) := by
  intro Dl hD
  refine ⟨hok _, lcD_inv (fun xs acc S' => I xs acc S' ∧ ∃ dn, dn ++ xs = it.xs) ?_ ?_ it.xs [] _ ⟨h0 Dl hD, [], rfl⟩ Sto.up_same (hok _)⟩
  · rintro x xs acc S' ⟨i, dn, e⟩ d o N n
    have hl := hlenA x xs acc S' i
    rw [List.length_cons] at hl
    refine hx x xs acc S' ⟨dn, e⟩ i Dl hD d _ _ (fun y S2 d2 l2 i2 => ⟨d2, l2, hok _, n _ _ Sto.up_same (hok _) ⟨i2, dn ++ [x], by simpa using e⟩⟩)
  · rintro acc S' ⟨i, _⟩ d
    exact q Dl acc S' hD i d
end PL
/-! defs by name -/
namespace PL
open PySem PySem.Spec PySem.W PyProof.Rows L2
abbrev FnP (K : PySem.W.Frag) (x : Str) (st : Stmt) (f : Addr) (fd : FuncData) : Prop := FunD K x x (defArgs st) (defBody st) (defScope st) [] [] f fd
/-- the def x of the text stands -/
def Own (K : PySem.W.Frag) (mg : Str → Option Value) (x : Str) (st : Stmt) : Prop := ∃ f fd, FnP K x st f fd ∧ mg x = some (.ref f)
/-- x keeps the promise sp -/
structure Has (P : Program) (w : World) (K : PySem.W.Frag) (mg : Str → Option Value) (base : Heap) (k : Nat) (x : Str) (ps : List Str) (sp : DSp) : Prop where
  ex : ∃ f fd, FnOk P w K mg base CX0 k f fd ps (LSp K sp) ∧ mg x = some (.ref f) ∧ PySem.W.keepIn K (.ref f) = true ∧ Binds K fd ps []
section
variable {X : Cx} {e : Expr} {es : List Expr} {α : TAD} {δ : TED} {x : Str} {p pos : Pos} {k j : Nat} {ps : List Str} {sp : DSp}
theorem de_own (h : Has X.prog X.w X.K X.mg X.base j x ps sp) (hr : Room k X.A) (ha : DA X (e :: es) α) (hj : j ≤ k := by decide)
    (hg : Gl X x := by rfl) (hdb : (x == ("__debug__" : Str)) = false := by decide) (he : starEach (e :: es) X.env = (false, eval e X.env) :: starEach es X.env := by rfl) (hpl : (backTo pos (starEach es X.env)).any (·.1) = false := by rfl) :
    DE X (.Call (.Name x p) (e :: es) [] pos) (dCall sp α) := by
  obtain ⟨f, fd, F, hm, hk, hb⟩ := h.ex
  exact de_call (E := fun _ _ _ => False) F (hr.mono hj) hm hk hb (fun _ _ _ _ _ _ _ h => h.elim) ha hg hdb he hpl
def dNeg (δ : TED) : TED := fun ρ S Q => δ ρ S fun x S1 => match x with
  | .int i => Q (.int (-i)) S1
  | _ => False
theorem de_neg (ha : DE X e δ) : DE X (.UnaryOp .USub e pos) (dNeg δ) := peW (pe_un un_neg ha) fun σ H Q ⟨ρ, S, Qd, re, rs, q, k⟩ => by
  refine ⟨ρ, S, _, re, rs, q, fun x S1 v H1 q1 g1 r1 => ?_⟩
  try dsimp only at q1
  split at q1
  · rw [RD] at r1
    exact ⟨_, r1, (k.go g1).here g1.rs q1 RD.int⟩
  · exact q1.elim
end
section
variable {P : Program} {w : World} {K : PySem.W.Frag} {mg : Str → Option Value} {base : Heap}
theorem has_of {x : Str} {st : Stmt} {N ps : List Str} {k : Nat} {sp : DSp} {τ : TSD} (O : Own K mg x st) (Sc : FnScope N ps (defScope st)) (len : ∀ ds S Q, sp ds S Q → ds.length = ps.length)
    (hb : ∀ (kV doc pm : Value) (an : Option Addr) (cdv ct : Value) (us : List Value), us.length = ps.length → bindArgs (PySem.W.fnOf x x (defArgs st) (defBody st) (defScope st) .none kV doc pm an cdv ct) ⟨us, []⟩ = pure (ps.zip us))
    (hbody : ∀ (f : Addr) (cdv : Value) (A : Around) (outer : List Env) (s : Shared) (H : Hp) (E : XK), Room k (A.deeper (envOfC x (defScope st) s.heap.objs.size f cdv)) →
      DSs (cxOf CX0 P w K mg base N x (defScope st) f cdv A outer s H E).nox (defBody st) τ) (hq : ∀ ds S Q, sp ds S Q → τ { nx := fun _ S' => FzQ Q .non S', rt := FzQ Q } (startD N ds) S) : Has P w K mg base (k + 1) x ps sp := by
  obtain ⟨f, fd, F, hm⟩ := O
  exact ⟨f, fd, fnD F Sc len fun cdv A outer s H E hr => ⟨τ, PSs.nox (hbody f cdv A outer s H E hr), hq⟩, hm, F.kp, F.bindsN hb⟩
end
def blkB (N : List Str) (sn : List (Str × NameKind)) (scope : Scope) (own : List (Str × Nat)) : Bool :=
  scope.kind == .function && (scope.names.all fun y => scope.names.lookup y.1 == some y.2) && (own.all fun p => N[p.2]? == some p.1) &&
  (scope.names.all fun y => y.2 != .free || (sn.lookup y.1 == some .cell || sn.lookup y.1 == some .free)) &&
  (scope.names.all fun y => !(y.2 == .local || y.2 == .cell) || ((own.map (·.1)).contains y.1 || !N.contains y.1))
theorem kind_beq {a b : NameKind} (h : (a == b) = true) : a = b := by cases a <;> cases b <;> first | rfl | (exact absurd h (by decide))
theorem kind_bne {a b : NameKind} (h : (a != b) = true) : a ≠ b := fun e => by subst e; cases a <;> exact absurd h (by decide)
theorem kind_refl (a : NameKind) : (a == a) = true := by cases a <;> decide
theorem okind_beq {a b : Option NameKind} (h : (a == b) = true) : a = b := by
  cases a with
  | none => cases b with
    | none => rfl
    | some y => exact absurd h (by cases y <;> decide)
  | some x => cases b with
    | none => exact absurd h (by cases x <;> decide)
    | some y => exact congrArg some (kind_beq h)
theorem blk_of {N : List Str} {sc scope : Scope} {own : List (Str × Nat)} (h : blkB N sc.names scope own = true) : BlkOk N sc scope own := by
  unfold blkB at h
  rw [Bool.and_eq_true, Bool.and_eq_true, Bool.and_eq_true, Bool.and_eq_true] at h
  obtain ⟨⟨⟨⟨h1, h2⟩, h3⟩, h4⟩, h5⟩ := h
  refine ⟨?_, fun y hy => ?_, fun p hp => ?_, fun y hy hf => ?_, fun y hy hl => ?_⟩
  · cases e : scope.kind <;> first | rfl | (rw [e] at h1; exact absurd h1 (by decide))
  · exact okind_beq (List.all_eq_true.mp h2 y hy)
  · exact eq_of_beq (List.all_eq_true.mp h3 p hp)
  · have := List.all_eq_true.mp h4 y hy
    rw [hf] at this
    rcases (Bool.or_eq_true _ _).mp this with z | z
    · exact absurd z (by decide)
    · rcases (Bool.or_eq_true _ _).mp z with z | z
      · exact .inl (okind_beq z)
      · exact .inr (okind_beq z)
  · have := List.all_eq_true.mp h5 y hy
    have t : (y.2 == .local || y.2 == .cell) = true := by
      rcases hl with e | e <;> rw [e] <;> decide
    rw [t] at this
    have z : ((own.map (·.1)).contains y.1 || !N.contains y.1) = true := by simpa using this
    rcases (Bool.or_eq_true _ _).mp z with z | z
    · exact .inl (List.contains_iff_mem.mp z)
    · exact .inr fun m => by
        rw [List.contains_iff_mem.mpr m] at z
        exact absurd z (by decide)
end PL
/-! plain reasoning over mapped lists -/
namespace PL
open PySem PySem.Spec PySem.W PyProof.Rows L2
theorem kb_ii : kitB "int" "int" = some true := by decide +kernel
theorem kb_ib : kitB "int" "bool" = some false := by decide +kernel
theorem kb_it : kitB "int" "tuple" = some false := by decide +kernel
theorem kb_is : kitB "int" "str" = some false := by decide +kernel
theorem kb_bi : kitB "bool" "int" = some true := by decide +kernel
theorem kb_bb : kitB "bool" "bool" = some true := by decide +kernel
theorem kb_bt : kitB "bool" "tuple" = some false := by decide +kernel
theorem kb_bs : kitB "bool" "str" = some false := by decide +kernel
theorem kb_tt : kitB "tuple" "tuple" = some true := by decide +kernel
theorem kb_ti : kitB "tuple" "int" = some false := by decide +kernel
theorem kb_ts : kitB "tuple" "str" = some false := by decide +kernel
theorem kb_ss : kitB "str" "str" = some true := by decide +kernel
theorem kb_si : kitB "str" "int" = some false := by decide +kernel
theorem kb_st : kitB "str" "tuple" = some false := by decide +kernel
theorem kb_nt : kitB "NoneType" "tuple" = some false := by decide +kernel
theorem kb_ni : kitB "NoneType" "int" = some false := by decide +kernel
theorem kb_ns : kitB "NoneType" "str" = some false := by decide +kernel
theorem kb_lt : kitB "list" "tuple" = some false := by decide +kernel
theorem kb_li : kitB "list" "int" = some false := by decide +kernel
theorem kb_ls : kitB "list" "str" = some false := by decide +kernel
theorem ex_some {α : Type} {a : α} {P : α → Prop} : (∃ b, some a = some b ∧ P b) ↔ P a := ⟨fun ⟨b, e, h⟩ => by cases e; exact h, fun h => ⟨a, rfl, h⟩⟩

/-! ### comprehensions over mapped lists -/
theorem lc_mapK {α : Type} {r : Bool} {ρ0 : DEnv} {γ : TGD} {t : TTD} {el : TED} {ok : Sto → Prop} {S : Sto} {Q : QD} (l : List α) (enc : α → D) (keep : α → Bool) (f : α → D) (hok : ∀ S', Ext S S' → ok S') (hlen : l.length ≤ sizeLine)
    (hx : ∀ x ∈ l, ∀ S', Ext S S' → ∀ (N : D → Sto → Prop) (M : Sto → Prop), (keep x = true → N (f x) S') → (keep x = false → M S') → γ (enc x) ρ0 S' fun ρ' S1 => t ρ' S1 fun b S2 => match b with
      | true => el ρ' S2 N
      | false => M S2)
    (q : newL r ((l.filter keep).map f) S Q) : ∀ Dl, S Dl = none → ok (S.up Dl (.lst [])) ∧ lcD Dl ok ρ0 γ t el (l.map enc) [] (S.up Dl (.lst [])) (endL r Dl Q) := by
  intro Dl hD
  refine ⟨hok _ (Ext.up hD), lcD_inv (fun xs acc S' => S' = S.up Dl (.lst acc) ∧ ∃ dn re, xs = re.map enc ∧ dn ++ re = l ∧ acc = (dn.filter keep).map f) ?_ ?_ (l.map enc) [] _ ⟨rfl, [], l, rfl, rfl, rfl⟩ Sto.up_same (hok _ (Ext.up hD))⟩
  · rintro x xs acc S' ⟨rfl, dn, re, e1, e, rfl⟩ d o N n
    cases re with
    | nil => cases e1
    | cons a re =>
    rw [List.map_cons] at e1
    obtain ⟨rfl, rfl⟩ := List.cons.inj e1
    have hm : a ∈ l := by rw [← e]; simp
    have hl : ((dn.filter keep).map f).length < sizeLine := by
      rw [List.length_map]
      have h1 : (dn.filter keep).length ≤ dn.length := List.length_filter_le _ _
      have h2 : dn.length + (a :: re).length = l.length := by rw [← e, List.length_append]
      rw [List.length_cons] at h2
      omega
    refine hx a hm _ (Ext.up hD) _ _ (fun hk => ?_) (fun hk => ?_)
    · refine ⟨Sto.up_same, hl, ?_, ?_⟩
      · rw [Sto.up_up]; exact hok _ (Ext.up hD)
      · refine n _ _ Sto.up_same ?_ ⟨Sto.up_up, dn ++ [a], re, rfl, by simpa using e, ?_⟩
        · rw [Sto.up_up]; exact hok _ (Ext.up hD)
        · rw [List.filter_append, List.map_append, List.filter_cons_of_pos hk]; rfl
    · refine ⟨Sto.up_same, hok _ (Ext.up hD), n _ _ Sto.up_same (hok _ (Ext.up hD)) ⟨rfl, dn ++ [a], re, rfl, by simpa using e, ?_⟩⟩
      rw [List.filter_append, List.filter_cons_of_neg (by rw [hk]; exact Bool.false_ne_true)]
      simp
  · rintro acc S' ⟨rfl, dn, re, e1, e, rfl⟩ d
    have : re = [] := by cases re with
      | nil => rfl
      | cons a re => cases e1
    subst this
    rw [List.append_nil] at e
    subst e
    exact newL_of q hD
theorem lc_mapE {α : Type} {r : Bool} {ρ0 : DEnv} {γ : TGD} {t : TTD} {el : TED} {ok : Sto → Prop} {S : Sto} {Q : QD} (l : List α) (enc : α → D) (f : α → D) (hok : ∀ S', Ext S S' → ok S') (hlen : l.length ≤ sizeLine)
    (hx : ∀ x ∈ l, ∀ S', Ext S S' → ∀ (N : D → Sto → Prop) (M : Sto → Prop), N (f x) S' → γ (enc x) ρ0 S' fun ρ' S1 => t ρ' S1 fun b S2 => match b with
      | true => el ρ' S2 N
      | false => M S2)
    (q : newL r (l.map f) S Q) : ∀ Dl, S Dl = none → ok (S.up Dl (.lst [])) ∧ lcD Dl ok ρ0 γ t el (l.map enc) [] (S.up Dl (.lst [])) (endL r Dl Q) :=
  lc_mapK l enc (fun _ => true) f hok hlen (fun x hm S' e N M h1 _ => hx x hm S' e N M (h1 rfl)) (by rw [List.filter_eq_self.mpr (fun _ _ => rfl)]; exact q)
theorem loopD_invE {α : Type} {ok : Sto → Prop} {f : D → TSD} {De : EndsD} (enc : α → D) (I : List α → DEnv → Sto → Prop)
    (step : ∀ x xs ρ S, I (x :: xs) ρ S → ok S → ∀ N : DEnv → Sto → Prop, (∀ ρ' S', ok S' → I xs ρ' S' → N ρ' S') → f (enc x) { nx := N, ct := N, bk := De.nx, rt := De.rt } ρ S)
    (fin : ∀ ρ S, I [] ρ S → De.nx ρ S) : ∀ (xs : List α) (ρ : DEnv) (S : Sto), I xs ρ S → ok S → loopD ok f (xs.map enc) De ρ S
  | [], ρ, S, h, _ => fin ρ S h
  | x :: xs, ρ, S, h, o => step x xs ρ S h o _ fun ρ' S' o' h' => ⟨o', loopD_invE enc I step fin xs ρ' S' h' o'⟩
/-! ### sources -/
theorem enum_map {α : Type} (enc : α → D) : ∀ (xs : List α) (n : Nat), enumFrom n (xs.map enc) = (xs.zipIdx n).map fun p => .tup [.int (p.2 : Nat), enc p.1]
  | [], n => rfl
  | x :: xs, n => by
    rw [List.map_cons, enumFrom, List.zipIdx_cons, List.map_cons, enum_map enc xs (n + 1)]
theorem zip_map2 {α β : Type} (e1 : α → D) (e2 : β → D) : ∀ (xs : List α) (ys : List β), List.zipWith (fun d e => D.tup [d, e]) (xs.map e1) (ys.map e2) = (List.zip xs ys).map fun p => .tup [e1 p.1, e2 p.2]
  | [], _ => by simp
  | _ :: _, [] => by simp
  | x :: xs, y :: ys => by
    rw [List.map_cons, List.map_cons, List.zipWith_cons_cons, zip_map2 e1 e2 xs ys, List.zip_cons_cons, List.map_cons]
/-! ### items -/
theorem atI_map {α β : Type} (f : α → β) (xs : List α) (i : Int) : atI (xs.map f) i = (atI xs i).map f := by
  unfold atI
  rw [List.length_map]
  cases ixN xs.length i with
  | none => rfl
  | some j => simp
theorem ixN_nn {n : Nat} {i : Int} (h0 : 0 ≤ i) (h1 : i < n) : ixN n i = some i.toNat := by unfold ixN; rw [if_pos h0, if_pos h1]
theorem atI_nn {α : Type} [Inhabited α] {xs : List α} {i : Int} (d : α) (h0 : 0 ≤ i) (h1 : i < xs.length) : atI xs i = some (xs.getD i.toNat d) := by
  unfold atI
  rw [ixN_nn h0 h1]
  have : i.toNat < xs.length := by omega
  simp [List.getD_eq_getElem?_getD, List.getElem?_eq_getElem this]
theorem atI_last {α : Type} {xs : List α} (h : xs ≠ []) : atI xs (-1) = some (xs.getLast h) := by
  have hp : 0 < xs.length := List.length_pos_iff.mpr h
  have e : ixN xs.length (-1) = some (xs.length - 1) := by
    unfold ixN
    rw [if_neg (by omega), if_pos (by omega)]
    congr 1
    omega
  unfold atI
  rw [e]
  simp [List.getLast_eq_getElem]
theorem ix_int {xs : List Int} {i : Int} (h0 : 0 ≤ i) (h1 : i < xs.length) : atI (xs.map D.int) i = some (.int (xs.getD i.toNat 0)) := by
  rw [atI_map, atI_nn 0 h0 h1]; rfl
/-! ### forgetting -/
theorem go_ext {K : PySem.W.Frag} {S S' : Sto} {H : Hp} (h : Ext S S') (rs : RS K S' H) : Go K S' H S H := by
  have tp : Tp S' H S H := ⟨fun _ _ h => h, fun _ _ _ h => h, fun a o h1 h2 => ⟨by
    cases e : S a with
    | none => rfl
    | some mo => exact absurd ((h a mo e).symm.trans h1) (by simp), h2⟩⟩
  exact ⟨tp, fun p mo e => (rs p mo (h p mo e)).mv tp fun _ h => h⟩
theorem Fz.ext {S S' : Sto} {d : D} (h : Ext S S') : Fz S' d S d := ⟨fun K H v rs r => ⟨go_ext h rs, r.tp (go_ext h rs).tp⟩⟩
theorem Fz.extL {S S' : Sto} {a : Addr} {ds : List D} (h : Ext S S') (ha : S' a = some (.lst ds)) (hn : S a = none) : Fz S' (.ref a) S (.lst ds) := ⟨fun K H v rs r => by
  have g := go_ext h rs
  obtain ⟨ws, hw, r1⟩ := rs a _ ha
  rw [RD] at r
  refine ⟨g, ?_⟩
  rw [RD]
  exact ⟨a, ws, r, hn, hw, r1.tp g.tp⟩⟩
theorem FzQ.ext {Q : QD} {d : D} {S S' : Sto} (h : Ext S S') (q : Q d S) : FzQ Q d S' := ⟨d, S, q, Fz.ext h⟩
theorem FzQ.extL {Q : QD} {a : Addr} {ds : List D} {S S' : Sto} (h : Ext S S') (ha : S' a = some (.lst ds)) (hn : S a = none) (q : Q (.lst ds) S) : FzQ Q (.ref a) S' := ⟨_, S, q, Fz.extL h ha hn⟩
end PL
/-! data, equality, orders: small facts -/
namespace PL
open PySem PySem.Spec PySem.W PyProof.Rows L2
theorem okn_int {n : Nat} {i : Int} : D.okn n (.int i) = true := by cases n <;> simp [D.okn]
theorem okn_bl {n : Nat} {i : Bool} : D.okn n (.bl i) = true := by cases n <;> simp [D.okn]
theorem okn_non {n : Nat} : D.okn n .non = true := by cases n <;> simp [D.okn]
theorem okn_str {n : Nat} {x : Str} (h : PyData.strOk x = true) : D.okn n (.str x) = true := by cases n <;> simp [D.okn, h]
theorem okn_tup {n : Nat} {ds : List D} : D.okn (n + 1) (.tup ds) = ds.all (D.okn n) := by simp [D.okn]
theorem okn_lst {n : Nat} {ds : List D} : D.okn (n + 1) (.lst ds) = ds.all (D.okn n) := by simp [D.okn]
theorem okn_ints {n : Nat} {xs : List Int} : (xs.map D.int).all (D.okn n) = true := by
  rw [List.all_map, List.all_eq_true]; intro x _; exact okn_int
theorem okn_eI {n : Nat} {xs : List Int} : D.okn (n + 1) (.tup (xs.map D.int)) = true := by rw [okn_tup, okn_ints]
theorem now_int {S : Sto} {i : Int} : S.now (.int i) = .int i := rfl
theorem now_tup {S : Sto} {i : List D} : S.now (.tup i) = .tup i := rfl
theorem now_lst {S : Sto} {i : List D} : S.now (.lst i) = .lst i := rfl
theorem now_str {S : Sto} {i : Str} : S.now (.str i) = .str i := rfl
theorem now_bl {S : Sto} {i : Bool} : S.now (.bl i) = .bl i := rfl
theorem now_non {S : Sto} : S.now .non = .non := rfl
theorem eqD_int {a b : Int} : eqD (.int a) (.int b) = decide (a = b) := by
  unfold eqD
  rw [D.py, D.py, PyData.eqv]
  by_cases h : a = b <;> simp [h]
theorem eqD_refl {d : D} {n : Nat} (h : D.okn n d = true) : eqD d d = true := PySem.SeqAt.eqv_refl _ (D.okn_lay n d h).1
theorem ltD_int {a b : Int} : ltD (.int a) (.int b) = decide (a < b) := by
  unfold ltD; rw [D.py, D.py, dataLt_int]
theorem ltD_ii {a b c d : Int} : ltD (.tup [.int a, .int b]) (.tup [.int c, .int d]) = decide (a < c ∨ (a = c ∧ b < d)) := by
  unfold ltD; simp only [D.py, D.pys]; exact dataLt_ii a b c d
theorem ltD_fst {a c : Int} {x y : D} (hk : alike (D.py x) (D.py y) = true) (h : ltD (.tup [.int a, x]) (.tup [.int c, y]) = false) : c ≤ a := by
  unfold ltD at h
  simp only [D.py, D.pys] at h
  rw [dataLt_pair (by rfl) hk] at h
  have e : PyData.eqv (.int a) (.int c) = decide (a = c) := by
    rw [PyData.eqv]; by_cases h : a = c <;> simp [h]
  rw [e] at h
  by_cases q : a = c
  · omega
  · rw [decide_eq_false q, if_neg Bool.false_ne_true, dataLt_int] at h
    have := of_decide_eq_false h
    omega
theorem leD_int {a b : Int} : leD (.int a) (.int b) = decide (a ≤ b) := by
  unfold leD
  rw [dataLe_eq]
  simp only [D.py, dataLt_int, cond_false]
  by_cases h : a ≤ b <;> simp [h] <;> omega
theorem akin_ints {xs : List Int} : akin (xs.map D.int) := by
  intro d hd e he
  obtain ⟨a, _, rfl⟩ := List.mem_map.mp hd
  obtain ⟨b, _, rfl⟩ := List.mem_map.mp he
  simp only [D.py]
  exact ⟨by rfl, fun h => nomatch h⟩
theorem sortable_ints {xs : List Int} : Sortable ((xs.map D.int).map D.py) := .inr fun d hd => by
  rw [List.map_map] at hd
  obtain ⟨a, _, rfl⟩ := List.mem_map.mp hd
  simp only [Function.comp, D.py]
  exact ⟨nofun, fun xs => nofun⟩
theorem sort_ints {xs : List Int} : (xs.map D.int).mergeSort leD = (xs.mergeSort fun a b => decide (a ≤ b)).map D.int :=
  (sort_maps D.int fun a _ b _ => leD_int.symm).symm
theorem sorted_pair {xs : List Int} : (xs.mergeSort fun a b => decide (a ≤ b)).Pairwise (· ≤ ·) := by
  have := List.pairwise_mergeSort (le := fun a b : Int => decide (a ≤ b)) (fun a b c h1 h2 => by simp at *; omega) (fun a b => by simp; omega) xs
  exact this.imp fun h => by simpa using h
theorem akin_pairs {ps : List (Int × Int)} : akin (ps.map fun p => .tup [.int p.1, .int p.2]) := by
  intro d hd e he
  obtain ⟨a, _, rfl⟩ := List.mem_map.mp hd
  obtain ⟨b, _, rfl⟩ := List.mem_map.mp he
  simp only [D.py, D.pys]
  exact ⟨by rfl, fun h => nomatch h⟩
theorem okn_pairs {n : Nat} {ps : List (Int × Int)} : (ps.map fun p => D.tup [.int p.1, .int p.2]).all (D.okn (n + 1)) = true := by
  rw [List.all_map, List.all_eq_true]; intro x _; simp [okn_tup, okn_int, Function.comp]
theorem alikeAll_ints : ∀ xs ys : List Int, alike (D.py (.tup (xs.map D.int))) (D.py (.tup (ys.map D.int))) = true := by
  intro xs ys
  simp only [D.py, D.pys_eq, List.map_map]
  have e : ∀ l : List Int, l.map (D.py ∘ D.int) = l.map PyData.int := fun l => by
    apply List.map_congr_left; intro a _; simp only [Function.comp, D.py]
  rw [e, e]
  exact alike_ints xs ys
/-! ### the least, the greatest of ints -/
theorem mem_int {xs : List Int} {m : D} (h : m ∈ xs.map D.int) : ∃ a ∈ xs, m = .int a := by
  obtain ⟨a, h1, rfl⟩ := List.mem_map.mp h
  exact ⟨a, h1, rfl⟩

/-! ### looks into the store -/
section
variable {S S' : Sto} {ds : List D} {p : Addr} {d : D}
theorem seq_tup : S.seq (.tup ds) = some ds := rfl
theorem seq_lst : S.seq (.lst ds) = some ds := rfl
theorem seq_fz : S.seq (.fz ds) = some ds := rfl
theorem seq_ref (h : S p = some (.lst ds)) : S.seq (.ref p) = some ds := by show (match S p with | some (.lst ds) => some ds | _ => none) = _; rw [h]
theorem list_lst : S.list (.lst ds) = some ds := rfl
theorem list_ref (h : S p = some (.lst ds)) : S.list (.ref p) = some ds := by show (match S p with | some (.lst ds) => some ds | _ => none) = _; rw [h]
theorem lsts_lst : S.lsts (.lst ds) = some ds := rfl
theorem lsts_fz : S.lsts (.fz ds) = some ds := rfl
theorem lsts_ref (h : S p = some (.lst ds)) : S.lsts (.ref p) = some ds := by show (match S p with | some (.lst ds) => some ds | _ => none) = _; rw [h]
theorem itOf_tup : S.itOf (.tup ds) = some ⟨ds, fun _ => True⟩ := rfl
theorem itOf_lst : S.itOf (.lst ds) = some ⟨ds, fun _ => True⟩ := rfl
theorem itOf_fz : S.itOf (.fz ds) = some ⟨ds, fun _ => True⟩ := rfl
theorem itOf_ref (h : S p = some (.lst ds)) : S.itOf (.ref p) = some ⟨ds, fun S' => S' p = some (.lst ds)⟩ := by show (match S p with | some (.lst ds) => some _ | _ => none) = _; rw [h]
theorem trk_ref (h : S p = some (.lst ds)) : S.trk (.ref p) = some (p, ds) := by show (match S p with | some (.lst ds) => some _ | _ => none) = _; rw [h]
theorem now_ref (h : S p = some (.lst ds)) : S.now (.ref p) = .lst ds := by show (match S p with | some (.lst ds) => D.lst ds | _ => .ref p) = _; rw [h]
theorem seq_ext (e : Ext S S') (h : S.seq d = some ds) : S'.seq d = some ds := by
  cases d with
  | ref q =>
    have h' : (match S q with | some (.lst ds) => some ds | _ => none) = some ds := h
    split at h'
    · rename_i es he
      rw [seq_ref (e _ _ he)]; exact h'
    · cases h'
  | _ => exact h
theorem Ext.set {T : Sto} {o : MO} (h : Ext T S) (hp : T p = none) : Ext T (S.up p o) := fun q u e => by
  rw [Sto.up_ne (fun z => by subst z; rw [hp] at e; cases e)]; exact h q u e
theorem Ext.none (h : Ext S S') (hp : S' p = none) : S p = none := by
  cases e : S p with
  | none => rfl
  | some o => rw [h p o e] at hp; cases hp
theorem ne_of_in {o : MO} {q : Addr} (h1 : S p = some o) (h2 : S q = none) : p ≠ q := fun z => by subst z; rw [h1] at h2; cases h2
end
theorem isNon_non : D.isNon .non = true := rfl
theorem isNon_int {i : Int} : D.isNon (.int i) = false := rfl
theorem isNon_tup {i : List D} : D.isNon (.tup i) = false := rfl
theorem isNon_lst {i : List D} : D.isNon (.lst i) = false := rfl
theorem isNon_ref {i : Addr} : D.isNon (.ref i) = false := rfl
theorem isNon_str {i : Str} : D.isNon (.str i) = false := rfl
theorem isNon_bl {i : Bool} : D.isNon (.bl i) = false := rfl
section
variable {P : Program} {w : World} {K : PySem.W.Frag} {mg : Str → Option Value} {base : Heap}
theorem fn_def {x : Str} {st : Stmt} {N ps : List Str} {k : Nat} {sp : DSp} {τ : TSD} {f : Addr} {fd : FuncData} (F : FnP K x st f fd) (Sc : FnScope N ps (defScope st)) (len : ∀ ds S Q, sp ds S Q → ds.length = ps.length)
    (hbody : ∀ (f : Addr) (cdv : Value) (A : Around) (outer : List Env) (s : Shared) (H : Hp) (E : XK), Room k (A.deeper (envOfC x (defScope st) s.heap.objs.size f cdv)) →
      DSs (cxOf CX0 P w K mg base N x (defScope st) f cdv A outer s H E).nox (defBody st) τ) (hq : ∀ ds S Q, sp ds S Q → τ { nx := fun _ S' => FzQ Q .non S', rt := FzQ Q } (startD N ds) S) : FnOk P w K mg base CX0 (k + 1) f fd ps (LSp K sp) :=
  fnD F Sc len fun cdv A outer s H E hr => ⟨τ, PSs.nox (hbody f cdv A outer s H E hr), hq⟩
/-- the script, at the law's call -/
theorem script_rd {H : Hp} {a : Addr} {ns : List Int} (hO : Only H) (h : SqL K H a (ns.map V.int)) : RDs K (fun _ => none) H [.fz (ns.map D.int)] [.ref a] := by
  refine RDs.cons ?_ (RDs.nil.mpr rfl)
  rw [RD]
  refine ⟨a, ns.map V.int, rfl, ?_, ints_rds ns⟩
  rcases h with (h | ⟨o, h⟩) | h
  · rcases hO a with z | ⟨o, xs, z⟩
    · rw [z] at h; cases h
    · rw [z] at h; cases h
  · exact .inl ⟨o, h⟩
  · exact .inr h
theorem rs_empty {H : Hp} : RS K (fun _ => none) H := fun p mo h => by cases h
end
end PL
namespace L46
open PySem PySem.Spec PySem.W PyProof.Rows L2 PL
abbrev N_is_int : List Str := ["value", "low", "high"]
def t_is_int  : TSD := (dRet (dAndV (dIsi "int" (dVar 0)) (dAndV (dNotV (dIsi "bool" (dVar 0))) (dChain oLe oLe (dVar 1) (dVar 0) (dVar 2)))))
abbrev N_are_ints : List Str := ["value", "low", "high", "one"]
def t_are_ints (sp_is_int : DSp) : TSD := (dRet (dAndV (dIsi "tuple" (dVar 0)) (dCB oAll (dCons (dLc false (dIt (dVar 0)) (gN 3) dYes (dCall sp_is_int (dCons (dVar 3) (dCons (dVar 1) (dCons (dVar 2) dNil)))) [3]) dNil))))
abbrev N_is_told : List Str := ["value", "sizes"]
def t_is_told  : TSD := (dRet (dAndV (dIsi "tuple" (dVar 0)) (dAndV (dOp (oIn false) (dCB oLen (dCons (dVar 0) dNil)) (dVar 1)) (dIsi "str" (dOp oIx (dVar 0) (dC (.int 0)))))))
abbrev N_are_waits : List Str := ["value", "row", "one", "other"]
def t_are_waits (sp_are_ints : DSp) : TSD := (dSeq (dIfS (dOr (dNot (dTest (dIsi "tuple" (dVar 0)))) (dNot (dTest (dChain oLe oLe (dC (.int 1)) (dCB oLen (dCons (dVar 0) dNil)) (dC (.int 8)))))) (dRet (dC (.bl false))) dNext)
  (dSeq (dIfS (dNot (dTest (dCB oAll (dCons (dLc false (dIt (dVar 0)) (gN 1) dYes (dAndV (dCall sp_are_ints (dCons (dVar 1) (dCons (dC (.int 0)) (dCons (dC (.int 1000000)) dNil)))) (dChain oLe oLe (dC (.int 1)) (dCB oLen (dCons (dVar 1) dNil)) (dC (.int 60)))) [1]) dNil)))) (dRet (dC (.bl false))) dNext)
  (dSeq (dIfS (dNot (dTest (dCB oAll (dCons (dLc false (dIt (dVar 0)) (gN 1) dYes (dOp oEq (dCB oLen (dCons (dVar 1) dNil)) (dCB oLen (dCons (dOp oIx (dVar 0) (dC (.int 0))) dNil))) [1]) dNil)))) (dRet (dC (.bl false))) dNext)
  (dRet (dCB oAll (dCons (dLc false (dIt (dVar 0)) (gN 1) dYes (dCB oAll (dCons (dLc false (dZip2 (dVar 1) (dSl (oSl false) (dVar 1) (dPart (dC (.int 1))) dNoPart)) (gT 2 (gsCons (gN 2) (gsCons (gN 3) gsNil))) dYes (dOp oLe (dVar 2) (dVar 3)) [2, 3]) dNil)) [1]) dNil))))))
abbrev N_look_at_waits : List Str := ["waits", "many"]
def t_look_at_waits (sp_are_waits : DSp) (sp_is_int : DSp) : TSD := (dSeq (dIfS (dNot (dTest (dCall sp_are_waits (dCons (dVar 0) dNil)))) dNever dNext)
  (dIfS (dNot (dTest (dCall sp_is_int (dCons (dVar 1) (dCons (dC (.int 0)) (dCons (dCB oLen (dCons (dOp oIx (dVar 0) (dC (.int 0))) dNil)) dNil)))))) dNever dNext))
abbrev N_are_counts : List Str := ["waits", "many", "value"]
def t_are_counts (sp_are_ints : DSp) : TSD := (dRet (dAndV (dCall sp_are_ints (dCons (dVar 2) (dCons (dC (.int 0)) (dCons (dVar 1) dNil)))) (dAndV (dOp oEq (dCB oLen (dCons (dVar 2) dNil)) (dCB oLen (dCons (dVar 0) dNil))) (dOp oEq (dCB oSum (dCons (dVar 2) dNil)) (dVar 1)))))
abbrev N_look_at_counts : List Str := ["waits", "counts"]
def t_look_at_counts (sp_are_waits : DSp) (sp_are_ints : DSp) : TSD := (dSeq (dIfS (dNot (dTest (dCall sp_are_waits (dCons (dVar 0) dNil)))) dNever dNext)
  (dIfS (dOr (dNot (dTest (dCall sp_are_ints (dCons (dVar 1) (dCons (dC (.int 0)) (dCons (dCB oLen (dCons (dOp oIx (dVar 0) (dC (.int 0))) dNil)) dNil)))))) (dOr (dTest (dOp oNe (dCB oLen (dCons (dVar 1) dNil)) (dCB oLen (dCons (dVar 0) dNil)))) (dTest (dOp oGt (dCB oSum (dCons (dVar 1) dNil)) (dCB oLen (dCons (dOp oIx (dVar 0) (dC (.int 0))) dNil)))))) dNever dNext))
abbrev N_told_settled : List Str := ["waits", "many", "found", "comer", "at", "row"]
def t_told_settled  : TSD := (dSeq (dAsg 2 (dOp (oMulA true) (dLst false (dCons (dC (.int 0)) dNil)) (dCB oLen (dCons (dVar 0) dNil))))
  (dSeq (dFor (dRng1 (dVar 1)) (gN 3)
  (dAugS (dVar 2) (dOp oIx (dCB oMin (dCons (dLc false (dEnum (dVar 0)) (gT 2 (gsCons (gN 4) (gsCons (gN 5) gsNil))) dYes (dTup (dCons (dOp oIx (dVar 5) (dOp oIx (dVar 2) (dVar 4))) (dCons (dVar 4) dNil))) [4, 5]) dNil)) (dC (.int 1))) (dC (.int 1)) oGet oAddI oSet))
  (dRet (dVar 2))))
abbrev N_settled : List Str := ["waits", "many"]
def t_settled (sp_look_at_waits : DSp) (sp_told_settled : DSp) : TSD := (dSeq (dDrop (dCall sp_look_at_waits (dCons (dVar 0) (dCons (dVar 1) dNil))))
  (dRet (dTup (dCons (dC (.str "counts")) (dCons (dCB oTuple (dCons (dCall sp_told_settled (dCons (dVar 0) (dCons (dVar 1) dNil))) dNil)) dNil)))))
abbrev N_told_change : List Str := ["waits", "counts", "one", "mine", "other", "its"]
def t_told_change  : TSD := (dSeq (dFor (dEnum (dVar 0)) (gT 2 (gsCons (gN 2) (gsCons (gN 3) gsNil)))
  (dFor (dEnum (dVar 0)) (gT 2 (gsCons (gN 4) (gsCons (gN 5) gsNil)))
  (dIfS (dAnd (dTest (dOp oNe (dVar 2) (dVar 4))) (dAnd (dTest (dOp oGt (dOp oIx (dVar 1) (dVar 2)) (dC (.int 0)))) (dTest (dOp oLt (dOp oIx (dVar 1) (dVar 4)) (dCB oLen (dCons (dVar 5) dNil)))))) (dIfS (dTest (dOp oLt (dOp oIx (dVar 5) (dOp oIx (dVar 1) (dVar 4))) (dOp oIx (dVar 3) (dOp oSub (dOp oIx (dVar 1) (dVar 2)) (dC (.int 1)))))) (dRet (dTup (dCons (dVar 2) (dCons (dVar 4) dNil)))) dNext) dNext)))
  (dRet (dC .non)))
abbrev N_would_change : List Str := ["waits", "counts", "pair"]
def t_would_change (sp_look_at_counts : DSp) (sp_told_change : DSp) : TSD := (dSeq (dDrop (dCall sp_look_at_counts (dCons (dVar 0) (dCons (dVar 1) dNil))))
  (dSeq (dAsg 2 (dCall sp_told_change (dCons (dVar 0) (dCons (dVar 1) dNil))))
  (dRet (dIf (dTest (dOp oIsN (dVar 2) (dC .non))) (dTup (dCons (dC (.str "settled")) dNil)) (dTup (dCons (dC (.str "changes")) (dStar (dVar 2) dNil)))))))
abbrev N_shows_settled : List Str := ["waits", "many", "value"]
def t_shows_settled (sp_look_at_waits : DSp) (sp_is_told : DSp) (sp_are_counts : DSp) (sp_told_change : DSp) : TSD := (dSeq (dDrop (dCall sp_look_at_waits (dCons (dVar 0) (dCons (dVar 1) dNil))))
  (dSeq (dIfS (dOr (dNot (dTest (dCall sp_is_told (dCons (dVar 2) (dCons (dTup (dCons (dC (.int 2)) dNil)) dNil))))) (dOr (dTest (dOp oNe (dOp oIx (dVar 2) (dC (.int 0))) (dC (.str "counts")))) (dNot (dTest (dCall sp_are_counts (dCons (dVar 0) (dCons (dVar 1) (dCons (dOp oIx (dVar 2) (dC (.int 1))) dNil)))))))) (dRet (dC (.bl false))) dNext)
  (dRet (dOp oIsN (dCall sp_told_change (dCons (dVar 0) (dCons (dOp oIx (dVar 2) (dC (.int 1))) dNil))) (dC .non)))))
abbrev N_told_total : List Str := ["waits", "counts", "row", "count"]
def t_told_total  : TSD := (dRet (dCB oSum (dCons (dLc false (dZip2 (dVar 0) (dVar 1)) (gT 2 (gsCons (gN 2) (gsCons (gN 3) gsNil))) (dTest (dOp oGt (dVar 3) (dC (.int 0)))) (dOp (oMulA false) (dVar 3) (dOp oIx (dVar 2) (dOp oSub (dVar 3) (dC (.int 1))))) [2, 3]) dNil)))
abbrev N_total_wait : List Str := ["waits", "counts"]
def t_total_wait (sp_look_at_counts : DSp) (sp_told_total : DSp) : TSD := (dSeq (dDrop (dCall sp_look_at_counts (dCons (dVar 0) (dCons (dVar 1) dNil))))
  (dRet (dCall sp_told_total (dCons (dVar 0) (dCons (dVar 1) dNil)))))
abbrev N_told_least : List Str := ["waits", "many", "best", "row", "later", "comers", "some", "here", "cost", "counts"]
def t_told_least  : TSD := (dSeq (dAsg 2 (dOp (oAdd false) (dLst false (dCons (dTup (dCons (dC (.int 0)) (dCons (dTup dNil) dNil))) dNil)) (dOp (oMulA false) (dLst false (dCons (dC .non) dNil)) (dVar 1))))
  (dSeq (dFor (dIt (dVar 0)) (gN 3)
  (dSeq (dAsg 4 (dLst true dNil))
  (dSeq (dFor (dRng1 (dOp (oAdd false) (dVar 1) (dC (.int 1)))) (gN 5)
  (dSeq (dAsg 6 (dLst true dNil))
  (dSeq (dFor (dRng1 (dOp (oAdd false) (dVar 5) (dC (.int 1)))) (gN 7)
  (dIfS (dTest (dOp oNotN (dOp oIx (dVar 2) (dOp oSub (dVar 5) (dVar 7))) (dC .non))) (dSeq (dAsgG (gT 2 (gsCons (gN 8) (gsCons (gN 9) gsNil))) (dOp oIx (dVar 2) (dOp oSub (dVar 5) (dVar 7))))
  (dDrop (dBM oAppend (dVar 6) (dCons (dTup (dCons (dOp (oAdd false) (dVar 8) (dIf (dTest (dOp oGt (dVar 7) (dC (.int 0)))) (dOp (oMulA false) (dVar 7) (dOp oIx (dVar 3) (dOp oSub (dVar 7) (dC (.int 1))))) (dC (.int 0)))) (dCons (dTup (dStar (dVar 9) (dCons (dVar 7) dNil))) dNil))) dNil)))) dNext))
  (dDrop (dBM oAppend (dVar 4) (dCons (dIf (dTest (dOp oNe (dVar 6) (dLst false dNil))) (dCB oMin (dCons (dVar 6) dNil)) (dC .non)) dNil))))))
  (dAsg 2 (dVar 4)))))
  (dRet (dOp oIx (dVar 2) (dVar 1)))))
abbrev N_least_total : List Str := ["waits", "many"]
def t_least_total (sp_look_at_waits : DSp) (sp_told_least : DSp) : TSD := (dSeq (dDrop (dCall sp_look_at_waits (dCons (dVar 0) (dCons (dVar 1) dNil))))
  (dRet (dCall sp_told_least (dCons (dVar 0) (dCons (dVar 1) dNil)))))
abbrev N_price_of_choice : List Str := ["waits", "many"]
def t_price_of_choice (sp_look_at_waits : DSp) (sp_told_least : DSp) (sp_told_total : DSp) (sp_told_settled : DSp) : TSD := (dSeq (dDrop (dCall sp_look_at_waits (dCons (dVar 0) (dCons (dVar 1) dNil))))
  (dRet (dTup (dCons (dCall sp_told_total (dCons (dVar 0) (dCons (dCall sp_told_settled (dCons (dVar 0) (dCons (dVar 1) dNil))) dNil))) (dCons (dOp oIx (dCall sp_told_least (dCons (dVar 0) (dCons (dVar 1) dNil))) (dC (.int 0))) dNil)))))
abbrev N_ways_to_settle : List Str := ["waits", "counts", "found", "pair", "here"]
def t_ways_to_settle (sp_look_at_counts : DSp) (sp_told_change : DSp) : TSD := (dSeq (dDrop (dCall sp_look_at_counts (dCons (dVar 0) (dCons (dVar 1) dNil))))
  (dSeq (dAsg 2 (dLst true (dCons (dCB oTuple (dCons (dVar 1) dNil)) dNil)))
  (dSeq (dAsg 3 (dCall sp_told_change (dCons (dVar 0) (dCons (dOp oIx (dVar 2) (dNeg (dC (.int 1)))) dNil))))
  (dSeq (dWhile (dTest (dOp oNotN (dVar 3) (dC .non)))
  (dSeq (dAsg 4 (dCB (oList true) (dCons (dOp oIx (dVar 2) (dNeg (dC (.int 1)))) dNil)))
  (dSeq (dAugS (dVar 4) (dOp oIx (dVar 3) (dC (.int 0))) (dC (.int 1)) oGet oSub oSet)
  (dSeq (dAugS (dVar 4) (dOp oIx (dVar 3) (dC (.int 1))) (dC (.int 1)) oGet oAddI oSet)
  (dSeq (dDrop (dBM oAppend (dVar 2) (dCons (dCB oTuple (dCons (dVar 4) dNil)) dNil)))
  (dAsg 3 (dCall sp_told_change (dCons (dVar 0) (dCons (dOp oIx (dVar 2) (dNeg (dC (.int 1)))) dNil)))))))))
  (dRet (dCB oTuple (dCons (dVar 2) dNil)))))))
abbrev N__law_pot : List Str := ["script", "place", "cell", "own", "small"]
def t__law_pot  : TSD := (dSeq (dAsg 2 (dIf (dTest (dOp oLt (dVar 1) (dCB oLen (dCons (dVar 0) dNil)))) (dOp oIx (dVar 0) (dVar 1)) (dOp (oAdd false) (dOp (oAdd false) (dOp oMod (dCB oInt (dCons (dCB oSum (dCons (dSl (oSl false) (dVar 0) dNoPart (dPart (dC (.int 1)))) dNil)) dNil)) (dC (.int 1000211))) (dOp (oMulA false) (dC (.int 4639)) (dVar 1))) (dC (.int 3163)))))
  (dSeq (dAsg 3 (dOp (oMulA false) (dOp oMod (dCB oInt (dCons (dCB oAbs (dCons (dVar 2) dNil)) dNil)) (dOp oPow (dOp oPow (dC (.int 10)) (dC (.int 60))) (dC (.int 5)))) (dCB oInt (dCons (dOp oGe (dCB oAbs (dCons (dVar 2) dNil)) (dOp oPow (dC (.int 10)) (dC (.int 18)))) dNil))))
  (dSeq (dAsg 4 (dOp oMod (dCB oInt (dCons (dVar 2) dNil)) (dC (.int 2305843009213693951))))
  (dRet (dLst true (dCons (dVar 3) (dCons (dOp oMod (dCB oInt (dCons (dOp (oAdd false) (dOp (oAdd false) (dOp (oMulA false) (dVar 4) (dC (.int 72161))) (dOp (oMulA false) (dOp (oMulA false) (dC (.int 10853)) (dVar 1)) (dVar 1))) (dC (.int 2843))) dNil)) (dC (.int 2305843009213693921))) (dCons (dC (.int 0)) dNil))))))))
abbrev N__law_take : List Str := ["pot", "upto", "digit", "prime", "mixture"]
def t__law_take  : TSD := (dSeq (dIfS (dTest (dOp oGt (dOp oIx (dVar 0) (dC (.int 0))) (dC (.int 0)))) (dSeq (dAsg 2 (dOp oMod (dCB oInt (dCons (dOp oIx (dVar 0) (dC (.int 0))) dNil)) (dVar 1)))
  (dSeq (dAsgG (gSb (dVar 0) (dC (.int 0)) oSet) (dOp oFdiv (dOp oIx (dVar 0) (dC (.int 0))) (dVar 1)))
  (dRet (dVar 2)))) dNext)
  (dSeq (dAsgG (gSb (dVar 0) (dC (.int 2)) oSet) (dOp (oAdd false) (dOp oIx (dVar 0) (dC (.int 2))) (dC (.int 1))))
  (dSeq (dAsg 3 (dOp oIx (dLst false (dCons (dC (.int 2147483647)) (dCons (dC (.int 2147483629)) (dCons (dC (.int 2147483587)) (dCons (dC (.int 2147483579)) (dCons (dC (.int 2147483563)) dNil)))))) (dOp oMod (dCB oInt (dCons (dOp oIx (dVar 0) (dC (.int 2))) dNil)) (dC (.int 5)))))
  (dSeq (dAsg 4 (dOp oMod (dCB oInt (dCons (dOp oPow (dCB oInt (dCons (dOp (oAdd false) (dOp (oAdd false) (dOp oIx (dVar 0) (dC (.int 1))) (dOp (oMulA false) (dOp (oMulA false) (dC (.int 95257)) (dOp oIx (dVar 0) (dC (.int 2)))) (dOp oIx (dVar 0) (dC (.int 2))))) (dC (.int 3163))) dNil)) (dC (.int 3))) dNil)) (dVar 3)))
  (dSeq (dAsg 4 (dOp oMod (dCB oInt (dCons (dOp (oMulA false) (dVar 4) (dOp (oAdd false) (dOp oMod (dCB oInt (dCons (dVar 4) dNil)) (dC (.int 13441))) (dOp (oMulA false) (dC (.int 419)) (dOp oIx (dVar 0) (dC (.int 2)))))) dNil)) (dC (.int 2305843009213693907))))
  (dRet (dOp oMod (dCB oInt (dCons (dOp oFdiv (dVar 4) (dC (.int 229))) dNil)) (dVar 1))))))))
abbrev N__law_cells : List Str := ["script", "most"]
def t__law_cells  : TSD := (dRet (dListRg false (dRg1 (dCB oMax (dCons (dC (.int 1)) (dCons (dCB oMin (dCons (dVar 1) (dCons (dCB oLen (dCons (dVar 0) dNil)) dNil))) dNil))))))
abbrev N__law_heap : List Str := ["waits", "counts", "row", "count"]
def t__law_heap  : TSD := (dRet (dCB oSum (dCons (dLc false (dZip2 (dVar 0) (dVar 1)) (gT 2 (gsCons (gN 2) (gsCons (gN 3) gsNil))) dYes (dCB oSum (dCons (dSl (oSl false) (dVar 2) dNoPart (dPart (dVar 3))) dNil)) [2, 3]) dNil)))
abbrev N__law_are_ways_right : List Str := ["waits", "many", "first", "ways", "heaps", "counts", "one", "other"]
def t__law_are_ways_right (sp_ways_to_settle : DSp) (sp__law_heap : DSp) (sp_would_change : DSp) : TSD := (dSeq (dAsg 2 (dOp (oAdd false) (dTup (dCons (dVar 1) dNil)) (dOp (oMulA false) (dTup (dCons (dC (.int 0)) dNil)) (dOp oSub (dCB oLen (dCons (dVar 0) dNil)) (dC (.int 1))))))
  (dSeq (dAsg 3 (dCall sp_ways_to_settle (dCons (dVar 0) (dCons (dVar 2) dNil))))
  (dSeq (dAsg 4 (dLc false (dIt (dVar 3)) (gN 5) dYes (dCall sp__law_heap (dCons (dVar 0) (dCons (dVar 5) dNil))) [5]))
  (dSeq (dIfS (dOr (dTest (dOp oNe (dOp oIx (dVar 3) (dC (.int 0))) (dVar 2))) (dTest (dOp oNe (dCall sp_would_change (dCons (dVar 0) (dCons (dOp oIx (dVar 3) (dNeg (dC (.int 1)))) dNil))) (dTup (dCons (dC (.str "settled")) dNil))))) (dRet (dC (.bl false))) dNext)
  (dSeq (dIfS (dTest (dCB oAny (dCons (dLc false (dIt (dVar 3)) (gN 5) dYes (dOp oNe (dCB oSum (dCons (dVar 5) dNil)) (dVar 1)) [5]) dNil))) (dRet (dC (.bl false))) dNext)
  (dRet (dNotV (dCB oAny (dCons (dLc false (dZip2 (dVar 4) (dSl (oSl false) (dVar 4) (dPart (dC (.int 1))) dNoPart)) (gT 2 (gsCons (gN 6) (gsCons (gN 7) gsNil))) dYes (dOp oLe (dVar 6) (dVar 7)) [6, 7]) dNil)))))))))
abbrev N__law_right : List Str := ["pot", "lap", "long", "waits", "at", "comer", "many", "told", "other", "twice", "wait", "row", "price", "least", "flat", "low", "counts"]
def t__law_right (sp__law_take : DSp) (sp_settled : DSp) (sp_would_change : DSp) (sp_shows_settled : DSp) (sp_least_total : DSp) (sp__law_are_ways_right : DSp) (sp_price_of_choice : DSp) (sp_total_wait : DSp) : TSD := (dSeq (dFor (dRng1 (dC (.int 8))) (gN 1)
  (dSeq (dAsgG (gT 2 (gsCons (gN 2) (gsCons (gN 3) gsNil))) (dTup (dCons (dCB oInt (dCons (dOp (oAdd false) (dC (.int 1)) (dCall sp__law_take (dCons (dVar 0) (dCons (dC (.int 20)) dNil)))) dNil)) (dCons (dLst true dNil) dNil))))
  (dSeq (dFor (dRng1 (dOp (oAdd false) (dC (.int 1)) (dCall sp__law_take (dCons (dVar 0) (dCons (dC (.int 6)) dNil))))) (gN 4)
  (dDrop (dBM oAppend (dVar 3) (dCons (dCB oTuple (dCons (dCB (oSorted false) (dCons (dLc false (dRng1 (dVar 2)) (gN 5) dYes (dCB oInt (dCons (dCall sp__law_take (dCons (dVar 0) (dCons (dC (.int 30)) dNil))) dNil)) [5]) dNil)) dNil)) dNil))))
  (dSeq (dPar2 3 6 (dCons (dCB oTuple (dCons (dVar 3) dNil)) (dCons (dCB oInt (dCons (dCall sp__law_take (dCons (dVar 0) (dCons (dOp (oAdd false) (dVar 2) (dC (.int 1))) dNil))) dNil)) dNil)))
  (dSeq (dPar2 7 8 (dCons (dOp oIx (dCall sp_settled (dCons (dVar 3) (dCons (dVar 6) dNil))) (dC (.int 1))) (dCons (dRev false (dVar 3)) dNil)))
  (dSeq (dIfS (dOr (dTest (dOp oNe (dCall sp_would_change (dCons (dVar 3) (dCons (dVar 7) dNil))) (dTup (dCons (dC (.str "settled")) dNil)))) (dTest (dOp oNe (dCB oSum (dCons (dVar 7) dNil)) (dVar 6)))) (dRet (dC (.bl false))) dNext)
  (dSeq (dIfS (dTest (dOp oNotB (dCall sp_shows_settled (dCons (dVar 8) (dCons (dVar 6) (dCons (dTup (dCons (dC (.str "counts")) (dCons (dRev false (dVar 7)) dNil))) dNil)))) (dC (.bl true)))) (dRet (dC (.bl false))) dNext)
  (dSeq (dIfS (dOr (dTest (dOp oNe (dOp oIx (dCall sp_least_total (dCons (dVar 8) (dCons (dVar 6) dNil))) (dC (.int 0))) (dOp oIx (dCall sp_least_total (dCons (dVar 3) (dCons (dVar 6) dNil))) (dC (.int 0))))) (dNot (dTest (dCall sp__law_are_ways_right (dCons (dVar 3) (dCons (dVar 6) dNil)))))) (dRet (dC (.bl false))) dNext)
  (dSeq (dAsg 9 (dCB oTuple (dCons (dLc false (dIt (dVar 3)) (gN 11) dYes (dCB oTuple (dCons (dLc false (dIt (dVar 11)) (gN 10) dYes (dOp (oMulA false) (dC (.int 2)) (dVar 10)) [10]) dNil)) [11]) dNil)))
  (dSeq (dIfS (dTest (dOp oNotB (dCall sp_shows_settled (dCons (dVar 9) (dCons (dVar 6) (dCons (dTup (dCons (dC (.str "counts")) (dCons (dVar 7) dNil))) dNil)))) (dC (.bl true)))) (dRet (dC (.bl false))) dNext)
  (dSeq (dAsgG (gT 2 (gsCons (gN 12) (gsCons (gN 13) gsNil))) (dCall sp_price_of_choice (dCons (dVar 3) (dCons (dVar 6) dNil))))
  (dSeq (dIfS (dOr (dTest (dOp oNe (dCall sp_total_wait (dCons (dVar 9) (dCons (dVar 7) dNil))) (dOp (oMulA false) (dC (.int 2)) (dCall sp_total_wait (dCons (dVar 3) (dCons (dVar 7) dNil)))))) (dTest (dOp oNe (dVar 13) (dOp oIx (dCall sp_least_total (dCons (dVar 3) (dCons (dVar 6) dNil))) (dC (.int 0)))))) (dRet (dC (.bl false))) dNext)
  (dSeq (dIfS (dOr (dTest (dOp oLt (dVar 12) (dVar 13))) (dTest (dOp oGt (dVar 13) (dCall sp_total_wait (dCons (dVar 3) (dCons (dVar 7) dNil)))))) (dRet (dC (.bl false))) dNext)
  (dSeq (dAsg 14 (dCB oTuple (dCons (dLc false (dIt (dVar 3)) (gN 11) dYes (dOp (oMulA false) (dTup (dCons (dCB oInt (dCons (dCall sp__law_take (dCons (dVar 0) (dCons (dC (.int 9)) dNil))) dNil)) dNil)) (dVar 2)) [11]) dNil)))
  (dSeq (dAsg 15 (dOp (oMulA false) (dVar 6) (dCB oMin (dCons (dLc false (dIt (dVar 14)) (gN 11) dYes (dOp oIx (dVar 11) (dC (.int 0))) [11]) dNil))))
  (dSeq (dIfS (dOr (dTest (dOp oNe (dCall sp_price_of_choice (dCons (dVar 14) (dCons (dVar 6) dNil))) (dTup (dCons (dVar 15) (dCons (dVar 15) dNil))))) (dTest (dOp oNe (dCall sp_total_wait (dCons (dVar 14) (dCons (dOp oIx (dCall sp_settled (dCons (dVar 14) (dCons (dVar 6) dNil))) (dC (.int 1))) dNil))) (dVar 15)))) (dRet (dC (.bl false))) dNext)
  (dSeq (dAsg 16 (dOp oIx (dCall sp_settled (dCons (dOp (oMulA false) (dTup (dCons (dTupRg (dRg2 (dC (.int 1)) (dOp (oAdd false) (dVar 2) (dC (.int 1))))) dNil)) (dCB oLen (dCons (dVar 3) dNil))) (dCons (dVar 6) dNil))) (dC (.int 1))))
  (dIfS (dOr (dTest (dOp oGt (dOp oSub (dCB oMax (dCons (dVar 16) dNil)) (dCB oMin (dCons (dVar 16) dNil))) (dC (.int 1)))) (dTest (dOp oNe (dCall sp_settled (dCons (dTup (dCons (dOp oIx (dVar 3) (dC (.int 0))) dNil)) (dCons (dVar 6) dNil))) (dTup (dCons (dC (.str "counts")) (dCons (dTup (dCons (dVar 6) dNil)) dNil)))))) (dRet (dC (.bl false))) dNext))))))))))))))))))
  (dRet (dC (.bl true))))
abbrev N_law : List Str := ["script", "place"]
def t_law (sp__law_cells : DSp) (sp__law_right : DSp) (sp__law_pot : DSp) : TSD := (dRet (dCB oAll (dCons (dLc false (dIt (dCall sp__law_cells (dCons (dVar 0) (dCons (dC (.int 3)) dNil)))) (gN 1) dYes (dCall sp__law_right (dCons (dCall sp__law_pot (dCons (dVar 0) (dCons (dVar 1) dNil))) dNil)) [1]) dNil)))
end L46
namespace L46
open PySem PySem.Spec PySem.W PyProof.Rows L2 PL
abbrev DeN (Q : QD) : EndsD := { nx := fun _ S' => FzQ Q .non S', rt := FzQ Q }
def eI (xs : List Int) : D := .tup (xs.map .int)
def eW (W : List (List Int)) : D := .tup (W.map eI)
structure GW (W : List (List Int)) (L : Nat) : Prop where
  n1 : 1 ≤ W.length
  n8 : W.length ≤ 8
  l1 : 1 ≤ L
  l60 : L ≤ 60
  len : ∀ r ∈ W, r.length = L
  ord : ∀ r ∈ W, r.Pairwise (· ≤ ·)
  bd : ∀ r ∈ W, ∀ x ∈ r, 0 ≤ x ∧ x ≤ 1000000
theorem row_mem {W : List (List Int)} {i : Nat} (h : i < W.length) : W.getD i [] ∈ W := by
  rw [List.getD_eq_getElem?_getD, List.getElem?_eq_getElem h]; exact List.getElem_mem h
theorem ix_row {W : List (List Int)} {i : Int} (h0 : 0 ≤ i) (h1 : i < W.length) : atI (W.map eI) i = some (eI (W.getD i.toNat [])) := by
  rw [atI_map, atI_nn [] h0 h1]; rfl
theorem cut_tail (r : List Int) : PL.cutD (r.map D.int) (some 1) none = r.tail.map D.int := by
  unfold PL.cutD
  cases r with
  | nil => rfl
  | cons x r =>
    have h1 : HT.sIx ((x :: r).map D.int).length 0 (some 1) = 1 := by simp [HT.sIx]
    have h2 : HT.sIx ((x :: r).map D.int).length ((x :: r).map D.int).length none = ((x :: r).map D.int).length := rfl
    rw [h1, h2]
    simp [List.take_of_length_le]
theorem pair_le : ∀ {r : List Int} {p : Int × Int}, r.Pairwise (· ≤ ·) → p ∈ List.zip r r.tail → p.1 ≤ p.2
  | [], p, _, h => by simp at h
  | [x], p, _, h => by simp at h
  | x :: y :: r, p, o, h => by
    rw [List.tail_cons, List.zip_cons_cons] at h
    rcases List.mem_cons.mp h with rfl | h
    · exact (List.pairwise_cons.mp o).1 y (List.mem_cons_self ..)
    · exact pair_le (List.pairwise_cons.mp o).2 h
theorem small {n : Nat} (h : n ≤ 1000000) : n ≤ sizeLine := by rw [sizeLine_eq]; omega
def sp_is_int : DSp := fun ds S Q => ∃ v lo hi : Int, ds = [.int v, .int lo, .int hi] ∧ Q (.bl (decide (lo ≤ v) && decide (v ≤ hi))) S
theorem pure_is_int : ∀ ds S Q, sp_is_int ds S Q → t_is_int (DeN Q) (startD N_is_int ds) S := by
  rintro ds S Q ⟨v, lo, hi, rfl, q⟩
  simp only [t_is_int, dSeq, dNext, dRet, dRetN, dIfS, dAsg, dAsgG, dDrop, dPar2, dPar3, dAug, dAugS, dFor, dOp, dVar, dC, dTest, dChain, dAnd, dOr, dNot, dAndV, dOrV, dNotV, dIf, dTup, dLst, dNil, dCons, dStar, dCB, dCall, dSl, dNoPart, dPart, dBM, dRev, dNeg, dIsi, dListRg, dTupRg, dRg1, dRg2, dLc, dIt, dEnum, dZip2, dZip3, dRng1, dRng2, dYes, gN, gT, gsNil, gsCons, gSb, oI, oI0, oAdd, oMulA, oSub, oFdiv, oMod, oPow, oLt, oLe, oGt, oGe, oEq, oNe, oIsN, oNotN, oIsB, oNotB, oIx, oSl, oLen, oSum, oAll, oAny, oAbs, o1I, o2I, oMin2, oMax2, oMin, oMax, oMinL, oMaxL, oInt, oBool, oList, oTuple, oSorted, oIn, oAddI, oGet, oSet, oAppend, oExtend, oPop, oPopAt, D.isNon, newL, Sto.seq, Sto.list, Sto.lsts, Sto.itOf, Sto.trk, Sto.now, startD, wipeD, D.tyN, List.map_cons, List.map_nil, List.cons_append, List.nil_append, List.length_cons, List.length_nil, List.getElem?_cons_zero, List.getElem?_cons_succ, List.set_cons_zero, List.set_cons_succ, List.replicate, Nat.sub_self, Nat.reduceSub, Nat.reduceAdd, Nat.zero_add, kb_ii, kb_ib, kb_it, kb_is, kb_bi, kb_bb, kb_bt, kb_bs, kb_tt, kb_ti, kb_ts, kb_ss, kb_si, kb_st, kb_nt, kb_ni, kb_ns, kb_lt, kb_li, kb_ls, ex_some, Bool.not_false]
  by_cases h : lo ≤ v
  · simp only [decide_eq_true h, Bool.true_and] at q ⊢
    exact .here q
  · simp only [decide_eq_false h, Bool.false_and] at q ⊢
    exact .here q
def inB (lo hi : Int) (xs : List Int) : Bool := xs.all fun v => decide (lo ≤ v) && decide (v ≤ hi)
def sp_are_ints : DSp := fun ds S Q => ∃ (xs : List Int) (lo hi : Int), ds = [eI xs, .int lo, .int hi] ∧ xs.length ≤ sizeLine ∧ Q (.bl (inB lo hi xs)) S
theorem pure_are_ints : ∀ ds S Q, sp_are_ints ds S Q → t_are_ints sp_is_int (DeN Q) (startD N_are_ints ds) S := by
  rintro ds S Q ⟨xs, lo, hi, rfl, hl, q⟩
  simp only [t_are_ints, dSeq, dNext, dRet, dRetN, dIfS, dAsg, dAsgG, dDrop, dPar2, dPar3, dAug, dAugS, dFor, dOp, dVar, dC, dTest, dChain, dAnd, dOr, dNot, dAndV, dOrV, dNotV, dIf, dTup, dLst, dNil, dCons, dStar, dCB, dCall, dSl, dNoPart, dPart, dBM, dRev, dNeg, dIsi, dListRg, dTupRg, dRg1, dRg2, dLc, dIt, dEnum, dZip2, dZip3, dRng1, dRng2, dYes, gN, gT, gsNil, gsCons, gSb, oI, oI0, oAdd, oMulA, oSub, oFdiv, oMod, oPow, oLt, oLe, oGt, oGe, oEq, oNe, oIsN, oNotN, oIsB, oNotB, oIx, oSl, oLen, oSum, oAll, oAny, oAbs, o1I, o2I, oMin2, oMax2, oMin, oMax, oMinL, oMaxL, oInt, oBool, oList, oTuple, oSorted, oIn, oAddI, oGet, oSet, oAppend, oExtend, oPop, oPopAt, D.isNon, newL, Sto.seq, Sto.list, Sto.lsts, Sto.itOf, Sto.trk, Sto.now, startD, wipeD, D.tyN, List.map_cons, List.map_nil, List.cons_append, List.nil_append, List.length_cons, List.length_nil, List.getElem?_cons_zero, List.getElem?_cons_succ, List.set_cons_zero, List.set_cons_succ, List.replicate, Nat.sub_self, Nat.reduceSub, Nat.reduceAdd, Nat.zero_add, kb_ii, kb_ib, kb_it, kb_is, kb_bi, kb_bb, kb_bt, kb_bs, kb_tt, kb_ti, kb_ts, kb_ss, kb_si, kb_st, kb_nt, kb_ni, kb_ns, kb_lt, kb_li, kb_ls, ex_some, eI]
  refine lc_mapE xs D.int (fun v => .bl (decide (lo ≤ v) && decide (v ≤ hi))) (fun _ _ => trivial) hl (fun v hv S' e N M h => ?_) ?_
  · simp only [dSeq, dNext, dRet, dRetN, dIfS, dAsg, dAsgG, dDrop, dPar2, dPar3, dAug, dAugS, dFor, dOp, dVar, dC, dTest, dChain, dAnd, dOr, dNot, dAndV, dOrV, dNotV, dIf, dTup, dLst, dNil, dCons, dStar, dCB, dCall, dSl, dNoPart, dPart, dBM, dRev, dNeg, dIsi, dListRg, dTupRg, dRg1, dRg2, dLc, dIt, dEnum, dZip2, dZip3, dRng1, dRng2, dYes, gN, gT, gsNil, gsCons, gSb, oI, oI0, oAdd, oMulA, oSub, oFdiv, oMod, oPow, oLt, oLe, oGt, oGe, oEq, oNe, oIsN, oNotN, oIsB, oNotB, oIx, oSl, oLen, oSum, oAll, oAny, oAbs, o1I, o2I, oMin2, oMax2, oMin, oMax, oMinL, oMaxL, oInt, oBool, oList, oTuple, oSorted, oIn, oAddI, oGet, oSet, oAppend, oExtend, oPop, oPopAt, D.isNon, newL, Sto.seq, Sto.list, Sto.lsts, Sto.itOf, Sto.trk, Sto.now, startD, wipeD, D.tyN, List.map_cons, List.map_nil, List.cons_append, List.nil_append, List.length_cons, List.length_nil, List.getElem?_cons_zero, List.getElem?_cons_succ, List.set_cons_zero, List.set_cons_succ, List.replicate, Nat.sub_self, Nat.reduceSub, Nat.reduceAdd, Nat.zero_add, kb_ii, kb_ib, kb_it, kb_is, kb_bi, kb_bb, kb_bt, kb_bs, kb_tt, kb_ti, kb_ts, kb_ss, kb_si, kb_st, kb_nt, kb_ni, kb_ns, kb_lt, kb_li, kb_ls, ex_some]
    exact ⟨v, lo, hi, rfl, h⟩
  · simp only [dSeq, dNext, dRet, dRetN, dIfS, dAsg, dAsgG, dDrop, dPar2, dPar3, dAug, dAugS, dFor, dOp, dVar, dC, dTest, dChain, dAnd, dOr, dNot, dAndV, dOrV, dNotV, dIf, dTup, dLst, dNil, dCons, dStar, dCB, dCall, dSl, dNoPart, dPart, dBM, dRev, dNeg, dIsi, dListRg, dTupRg, dRg1, dRg2, dLc, dIt, dEnum, dZip2, dZip3, dRng1, dRng2, dYes, gN, gT, gsNil, gsCons, gSb, oI, oI0, oAdd, oMulA, oSub, oFdiv, oMod, oPow, oLt, oLe, oGt, oGe, oEq, oNe, oIsN, oNotN, oIsB, oNotB, oIx, oSl, oLen, oSum, oAll, oAny, oAbs, o1I, o2I, oMin2, oMax2, oMin, oMax, oMinL, oMaxL, oInt, oBool, oList, oTuple, oSorted, oIn, oAddI, oGet, oSet, oAppend, oExtend, oPop, oPopAt, D.isNon, newL, Sto.seq, Sto.list, Sto.lsts, Sto.itOf, Sto.trk, Sto.now, startD, wipeD, D.tyN, List.map_cons, List.map_nil, List.cons_append, List.nil_append, List.length_cons, List.length_nil, List.getElem?_cons_zero, List.getElem?_cons_succ, List.set_cons_zero, List.set_cons_succ, List.replicate, Nat.sub_self, Nat.reduceSub, Nat.reduceAdd, Nat.zero_add, kb_ii, kb_ib, kb_it, kb_is, kb_bi, kb_bb, kb_bt, kb_bs, kb_tt, kb_ti, kb_ts, kb_ss, kb_si, kb_st, kb_nt, kb_ni, kb_ns, kb_lt, kb_li, kb_ls, ex_some]
    refine ⟨xs.map fun v => decide (lo ≤ v) && decide (v ≤ hi), by rw [List.map_map]; rfl, .here ?_⟩
    unfold inB at q
    rw [List.all_map]
    exact q
theorem ok2 : D.okn 8 (.tup [.int 2]) = true := by decide
def sp_is_told : DSp := fun ds S Q => ∃ (x : Str) (d : D), ds = [.tup [.str x, d], .tup [.int 2]] ∧ Q (.bl true) S
theorem pure_is_told : ∀ ds S Q, sp_is_told ds S Q → t_is_told (DeN Q) (startD N_is_told ds) S := by
  rintro ds S Q ⟨x, d, rfl, q⟩
  simp only [t_is_told, dSeq, dNext, dRet, dRetN, dIfS, dAsg, dAsgG, dDrop, dPar2, dPar3, dAug, dAugS, dFor, dOp, dVar, dC, dTest, dChain, dAnd, dOr, dNot, dAndV, dOrV, dNotV, dIf, dTup, dLst, dNil, dCons, dStar, dCB, dCall, dSl, dNoPart, dPart, dBM, dRev, dNeg, dIsi, dListRg, dTupRg, dRg1, dRg2, dLc, dIt, dEnum, dZip2, dZip3, dRng1, dRng2, dYes, gN, gT, gsNil, gsCons, gSb, oI, oI0, oAdd, oMulA, oSub, oFdiv, oMod, oPow, oLt, oLe, oGt, oGe, oEq, oNe, oIsN, oNotN, oIsB, oNotB, oIx, oSl, oLen, oSum, oAll, oAny, oAbs, o1I, o2I, oMin2, oMax2, oMin, oMax, oMinL, oMaxL, oInt, oBool, oList, oTuple, oSorted, oIn, oAddI, oGet, oSet, oAppend, oExtend, oPop, oPopAt, D.isNon, newL, Sto.seq, Sto.list, Sto.lsts, Sto.itOf, Sto.trk, Sto.now, startD, wipeD, D.tyN, List.map_cons, List.map_nil, List.cons_append, List.nil_append, List.length_cons, List.length_nil, List.getElem?_cons_zero, List.getElem?_cons_succ, List.set_cons_zero, List.set_cons_succ, List.replicate, Nat.sub_self, Nat.reduceSub, Nat.reduceAdd, Nat.zero_add, kb_ii, kb_ib, kb_it, kb_is, kb_bi, kb_bb, kb_bt, kb_bs, kb_tt, kb_ti, kb_ts, kb_ss, kb_si, kb_st, kb_nt, kb_ni, kb_ns, kb_lt, kb_li, kb_ls, ex_some]
  refine ⟨⟨okn_int, by simp [okn_int]⟩, ?_⟩
  simp [eqD_int, atI, ixN, dSeq, dNext, dRet, dRetN, dIfS, dAsg, dAsgG, dDrop, dPar2, dPar3, dAug, dAugS, dFor, dOp, dVar, dC, dTest, dChain, dAnd, dOr, dNot, dAndV, dOrV, dNotV, dIf, dTup, dLst, dNil, dCons, dStar, dCB, dCall, dSl, dNoPart, dPart, dBM, dRev, dNeg, dIsi, dListRg, dTupRg, dRg1, dRg2, dLc, dIt, dEnum, dZip2, dZip3, dRng1, dRng2, dYes, gN, gT, gsNil, gsCons, gSb, oI, oI0, oAdd, oMulA, oSub, oFdiv, oMod, oPow, oLt, oLe, oGt, oGe, oEq, oNe, oIsN, oNotN, oIsB, oNotB, oIx, oSl, oLen, oSum, oAll, oAny, oAbs, o1I, o2I, oMin2, oMax2, oMin, oMax, oMinL, oMaxL, oInt, oBool, oList, oTuple, oSorted, oIn, oAddI, oGet, oSet, oAppend, oExtend, oPop, oPopAt, D.isNon, newL, Sto.seq, Sto.list, Sto.lsts, Sto.itOf, Sto.trk, Sto.now, startD, wipeD, D.tyN, List.map_cons, List.map_nil, List.cons_append, List.nil_append, List.length_cons, List.length_nil, List.getElem?_cons_zero, List.getElem?_cons_succ, List.set_cons_zero, List.set_cons_succ, List.replicate, Nat.sub_self, Nat.reduceSub, Nat.reduceAdd, Nat.zero_add, kb_ii, kb_ib, kb_it, kb_is, kb_bi, kb_bb, kb_bt, kb_bs, kb_tt, kb_ti, kb_ts, kb_ss, kb_si, kb_st, kb_nt, kb_ni, kb_ns, kb_lt, kb_li, kb_ls, ex_some]
  exact .here q
def sp_are_waits : DSp := fun ds S Q => ∃ (W : List (List Int)) (L : Nat), ds = [eW W] ∧ GW W L ∧ Q (.bl true) S
theorem pure_are_waits : ∀ ds S Q, sp_are_waits ds S Q → t_are_waits sp_are_ints (DeN Q) (startD N_are_waits ds) S := by
  rintro ds S Q ⟨W, L, rfl, g, q⟩
  have h1 : (1 : Int) ≤ ((W.map eI).length : Nat) := by rw [List.length_map]; have := g.n1; omega
  have h8 : (((W.map eI).length : Nat) : Int) ≤ 8 := by rw [List.length_map]; have := g.n8; omega
  simp only [t_are_waits, dSeq, dNext, dRet, dRetN, dIfS, dAsg, dAsgG, dDrop, dPar2, dPar3, dAug, dAugS, dFor, dOp, dVar, dC, dTest, dChain, dAnd, dOr, dNot, dAndV, dOrV, dNotV, dIf, dTup, dLst, dNil, dCons, dStar, dCB, dCall, dSl, dNoPart, dPart, dBM, dRev, dNeg, dIsi, dListRg, dTupRg, dRg1, dRg2, dLc, dIt, dEnum, dZip2, dZip3, dRng1, dRng2, dYes, gN, gT, gsNil, gsCons, gSb, oI, oI0, oAdd, oMulA, oSub, oFdiv, oMod, oPow, oLt, oLe, oGt, oGe, oEq, oNe, oIsN, oNotN, oIsB, oNotB, oIx, oSl, oLen, oSum, oAll, oAny, oAbs, o1I, o2I, oMin2, oMax2, oMin, oMax, oMinL, oMaxL, oInt, oBool, oList, oTuple, oSorted, oIn, oAddI, oGet, oSet, oAppend, oExtend, oPop, oPopAt, D.isNon, newL, Sto.seq, Sto.list, Sto.lsts, Sto.itOf, Sto.trk, Sto.now, startD, wipeD, D.tyN, List.map_cons, List.map_nil, List.cons_append, List.nil_append, List.length_cons, List.length_nil, List.getElem?_cons_zero, List.getElem?_cons_succ, List.set_cons_zero, List.set_cons_succ, List.replicate, Nat.sub_self, Nat.reduceSub, Nat.reduceAdd, Nat.zero_add, kb_ii, kb_ib, kb_it, kb_is, kb_bi, kb_bb, kb_bt, kb_bs, kb_tt, kb_ti, kb_ts, kb_ss, kb_si, kb_st, kb_nt, kb_ni, kb_ns, kb_lt, kb_li, kb_ls, ex_some, eW, Bool.not_true, decide_eq_true h1, decide_eq_true h8]
  have hl : W.length ≤ sizeLine := small (by have := g.n8; omega)
  refine lc_mapE W eI (fun _ => .bl true) (fun _ _ => trivial) hl (fun r hr S' e N M h => ?_) ?_
  · simp only [dSeq, dNext, dRet, dRetN, dIfS, dAsg, dAsgG, dDrop, dPar2, dPar3, dAug, dAugS, dFor, dOp, dVar, dC, dTest, dChain, dAnd, dOr, dNot, dAndV, dOrV, dNotV, dIf, dTup, dLst, dNil, dCons, dStar, dCB, dCall, dSl, dNoPart, dPart, dBM, dRev, dNeg, dIsi, dListRg, dTupRg, dRg1, dRg2, dLc, dIt, dEnum, dZip2, dZip3, dRng1, dRng2, dYes, gN, gT, gsNil, gsCons, gSb, oI, oI0, oAdd, oMulA, oSub, oFdiv, oMod, oPow, oLt, oLe, oGt, oGe, oEq, oNe, oIsN, oNotN, oIsB, oNotB, oIx, oSl, oLen, oSum, oAll, oAny, oAbs, o1I, o2I, oMin2, oMax2, oMin, oMax, oMinL, oMaxL, oInt, oBool, oList, oTuple, oSorted, oIn, oAddI, oGet, oSet, oAppend, oExtend, oPop, oPopAt, D.isNon, newL, Sto.seq, Sto.list, Sto.lsts, Sto.itOf, Sto.trk, Sto.now, startD, wipeD, D.tyN, List.map_cons, List.map_nil, List.cons_append, List.nil_append, List.length_cons, List.length_nil, List.getElem?_cons_zero, List.getElem?_cons_succ, List.set_cons_zero, List.set_cons_succ, List.replicate, Nat.sub_self, Nat.reduceSub, Nat.reduceAdd, Nat.zero_add, kb_ii, kb_ib, kb_it, kb_is, kb_bi, kb_bb, kb_bt, kb_bs, kb_tt, kb_ti, kb_ts, kb_ss, kb_si, kb_st, kb_nt, kb_ni, kb_ns, kb_lt, kb_li, kb_ls, ex_some]
    have hL := g.len r hr
    refine ⟨r, 0, 1000000, rfl, small (by have := g.l60; omega), ?_⟩
    have : inB 0 1000000 r = true := List.all_eq_true.mpr fun x hx => by have := g.bd r hr x hx; simp [this.1, this.2]
    rw [this]
    have h1 : (1 : Int) ≤ ((r.map D.int).length : Nat) := by rw [List.length_map]; have := g.l1; omega
    have h2 : (((r.map D.int).length : Nat) : Int) ≤ 60 := by rw [List.length_map]; have := g.l60; omega
    simp only [eI, dSeq, dNext, dRet, dRetN, dIfS, dAsg, dAsgG, dDrop, dPar2, dPar3, dAug, dAugS, dFor, dOp, dVar, dC, dTest, dChain, dAnd, dOr, dNot, dAndV, dOrV, dNotV, dIf, dTup, dLst, dNil, dCons, dStar, dCB, dCall, dSl, dNoPart, dPart, dBM, dRev, dNeg, dIsi, dListRg, dTupRg, dRg1, dRg2, dLc, dIt, dEnum, dZip2, dZip3, dRng1, dRng2, dYes, gN, gT, gsNil, gsCons, gSb, oI, oI0, oAdd, oMulA, oSub, oFdiv, oMod, oPow, oLt, oLe, oGt, oGe, oEq, oNe, oIsN, oNotN, oIsB, oNotB, oIx, oSl, oLen, oSum, oAll, oAny, oAbs, o1I, o2I, oMin2, oMax2, oMin, oMax, oMinL, oMaxL, oInt, oBool, oList, oTuple, oSorted, oIn, oAddI, oGet, oSet, oAppend, oExtend, oPop, oPopAt, D.isNon, newL, Sto.seq, Sto.list, Sto.lsts, Sto.itOf, Sto.trk, Sto.now, startD, wipeD, D.tyN, List.map_cons, List.map_nil, List.cons_append, List.nil_append, List.length_cons, List.length_nil, List.getElem?_cons_zero, List.getElem?_cons_succ, List.set_cons_zero, List.set_cons_succ, List.replicate, Nat.sub_self, Nat.reduceSub, Nat.reduceAdd, Nat.zero_add, kb_ii, kb_ib, kb_it, kb_is, kb_bi, kb_bb, kb_bt, kb_bs, kb_tt, kb_ti, kb_ts, kb_ss, kb_si, kb_st, kb_nt, kb_ni, kb_ns, kb_lt, kb_li, kb_ls, ex_some, decide_eq_true h1, decide_eq_true h2]
    exact h
  simp only [dSeq, dNext, dRet, dRetN, dIfS, dAsg, dAsgG, dDrop, dPar2, dPar3, dAug, dAugS, dFor, dOp, dVar, dC, dTest, dChain, dAnd, dOr, dNot, dAndV, dOrV, dNotV, dIf, dTup, dLst, dNil, dCons, dStar, dCB, dCall, dSl, dNoPart, dPart, dBM, dRev, dNeg, dIsi, dListRg, dTupRg, dRg1, dRg2, dLc, dIt, dEnum, dZip2, dZip3, dRng1, dRng2, dYes, gN, gT, gsNil, gsCons, gSb, oI, oI0, oAdd, oMulA, oSub, oFdiv, oMod, oPow, oLt, oLe, oGt, oGe, oEq, oNe, oIsN, oNotN, oIsB, oNotB, oIx, oSl, oLen, oSum, oAll, oAny, oAbs, o1I, o2I, oMin2, oMax2, oMin, oMax, oMinL, oMaxL, oInt, oBool, oList, oTuple, oSorted, oIn, oAddI, oGet, oSet, oAppend, oExtend, oPop, oPopAt, D.isNon, newL, Sto.seq, Sto.list, Sto.lsts, Sto.itOf, Sto.trk, Sto.now, startD, wipeD, D.tyN, List.map_cons, List.map_nil, List.cons_append, List.nil_append, List.length_cons, List.length_nil, List.getElem?_cons_zero, List.getElem?_cons_succ, List.set_cons_zero, List.set_cons_succ, List.replicate, Nat.sub_self, Nat.reduceSub, Nat.reduceAdd, Nat.zero_add, kb_ii, kb_ib, kb_it, kb_is, kb_bi, kb_bb, kb_bt, kb_bs, kb_tt, kb_ti, kb_ts, kb_ss, kb_si, kb_st, kb_nt, kb_ni, kb_ns, kb_lt, kb_li, kb_ls, ex_some]
  refine ⟨W.map fun _ => true, by rw [List.map_map]; rfl, ?_⟩
  have ha : (W.map fun _ => true).all id = true := by simp
  simp only [ha, Bool.not_true]
  have hix := ix_row (W := W) (i := 0) (by decide) (by have := g.n1; omega)
  refine lc_mapE W eI (fun _ => .bl true) (fun _ _ => trivial) hl (fun r hr S' e N M h => ?_) ?_
  · simp only [dSeq, dNext, dRet, dRetN, dIfS, dAsg, dAsgG, dDrop, dPar2, dPar3, dAug, dAugS, dFor, dOp, dVar, dC, dTest, dChain, dAnd, dOr, dNot, dAndV, dOrV, dNotV, dIf, dTup, dLst, dNil, dCons, dStar, dCB, dCall, dSl, dNoPart, dPart, dBM, dRev, dNeg, dIsi, dListRg, dTupRg, dRg1, dRg2, dLc, dIt, dEnum, dZip2, dZip3, dRng1, dRng2, dYes, gN, gT, gsNil, gsCons, gSb, oI, oI0, oAdd, oMulA, oSub, oFdiv, oMod, oPow, oLt, oLe, oGt, oGe, oEq, oNe, oIsN, oNotN, oIsB, oNotB, oIx, oSl, oLen, oSum, oAll, oAny, oAbs, o1I, o2I, oMin2, oMax2, oMin, oMax, oMinL, oMaxL, oInt, oBool, oList, oTuple, oSorted, oIn, oAddI, oGet, oSet, oAppend, oExtend, oPop, oPopAt, D.isNon, newL, Sto.seq, Sto.list, Sto.lsts, Sto.itOf, Sto.trk, Sto.now, startD, wipeD, D.tyN, List.map_cons, List.map_nil, List.cons_append, List.nil_append, List.length_cons, List.length_nil, List.getElem?_cons_zero, List.getElem?_cons_succ, List.set_cons_zero, List.set_cons_succ, List.replicate, Nat.sub_self, Nat.reduceSub, Nat.reduceAdd, Nat.zero_add, kb_ii, kb_ib, kb_it, kb_is, kb_bi, kb_bb, kb_bt, kb_bs, kb_tt, kb_ti, kb_ts, kb_ss, kb_si, kb_st, kb_nt, kb_ni, kb_ns, kb_lt, kb_li, kb_ls, ex_some, eI] at hix ⊢
    rw [hix]
    simp only [dSeq, dNext, dRet, dRetN, dIfS, dAsg, dAsgG, dDrop, dPar2, dPar3, dAug, dAugS, dFor, dOp, dVar, dC, dTest, dChain, dAnd, dOr, dNot, dAndV, dOrV, dNotV, dIf, dTup, dLst, dNil, dCons, dStar, dCB, dCall, dSl, dNoPart, dPart, dBM, dRev, dNeg, dIsi, dListRg, dTupRg, dRg1, dRg2, dLc, dIt, dEnum, dZip2, dZip3, dRng1, dRng2, dYes, gN, gT, gsNil, gsCons, gSb, oI, oI0, oAdd, oMulA, oSub, oFdiv, oMod, oPow, oLt, oLe, oGt, oGe, oEq, oNe, oIsN, oNotN, oIsB, oNotB, oIx, oSl, oLen, oSum, oAll, oAny, oAbs, o1I, o2I, oMin2, oMax2, oMin, oMax, oMinL, oMaxL, oInt, oBool, oList, oTuple, oSorted, oIn, oAddI, oGet, oSet, oAppend, oExtend, oPop, oPopAt, D.isNon, newL, Sto.seq, Sto.list, Sto.lsts, Sto.itOf, Sto.trk, Sto.now, startD, wipeD, D.tyN, List.map_cons, List.map_nil, List.cons_append, List.nil_append, List.length_cons, List.length_nil, List.getElem?_cons_zero, List.getElem?_cons_succ, List.set_cons_zero, List.set_cons_succ, List.replicate, Nat.sub_self, Nat.reduceSub, Nat.reduceAdd, Nat.zero_add, kb_ii, kb_ib, kb_it, kb_is, kb_bi, kb_bb, kb_bt, kb_bs, kb_tt, kb_ti, kb_ts, kb_ss, kb_si, kb_st, kb_nt, kb_ni, kb_ns, kb_lt, kb_li, kb_ls, ex_some]
    refine ⟨⟨okn_int, okn_int⟩, ?_⟩
    rw [eqD_int, List.length_map, List.length_map, g.len r hr, g.len _ (row_mem (by have := g.n1; exact Nat.lt_of_lt_of_le (by decide) this))]
    simpa using h
  simp only [dSeq, dNext, dRet, dRetN, dIfS, dAsg, dAsgG, dDrop, dPar2, dPar3, dAug, dAugS, dFor, dOp, dVar, dC, dTest, dChain, dAnd, dOr, dNot, dAndV, dOrV, dNotV, dIf, dTup, dLst, dNil, dCons, dStar, dCB, dCall, dSl, dNoPart, dPart, dBM, dRev, dNeg, dIsi, dListRg, dTupRg, dRg1, dRg2, dLc, dIt, dEnum, dZip2, dZip3, dRng1, dRng2, dYes, gN, gT, gsNil, gsCons, gSb, oI, oI0, oAdd, oMulA, oSub, oFdiv, oMod, oPow, oLt, oLe, oGt, oGe, oEq, oNe, oIsN, oNotN, oIsB, oNotB, oIx, oSl, oLen, oSum, oAll, oAny, oAbs, o1I, o2I, oMin2, oMax2, oMin, oMax, oMinL, oMaxL, oInt, oBool, oList, oTuple, oSorted, oIn, oAddI, oGet, oSet, oAppend, oExtend, oPop, oPopAt, D.isNon, newL, Sto.seq, Sto.list, Sto.lsts, Sto.itOf, Sto.trk, Sto.now, startD, wipeD, D.tyN, List.map_cons, List.map_nil, List.cons_append, List.nil_append, List.length_cons, List.length_nil, List.getElem?_cons_zero, List.getElem?_cons_succ, List.set_cons_zero, List.set_cons_succ, List.replicate, Nat.sub_self, Nat.reduceSub, Nat.reduceAdd, Nat.zero_add, kb_ii, kb_ib, kb_it, kb_is, kb_bi, kb_bb, kb_bt, kb_bs, kb_tt, kb_ti, kb_ts, kb_ss, kb_si, kb_st, kb_nt, kb_ni, kb_ns, kb_lt, kb_li, kb_ls, ex_some]
  refine ⟨W.map fun _ => true, by rw [List.map_map]; rfl, ?_⟩
  simp only [ha, Bool.not_true]
  refine lc_mapE W eI (fun _ => .bl true) (fun _ _ => trivial) hl (fun r hr S' e N M h => ?_) ?_
  · simp only [dSeq, dNext, dRet, dRetN, dIfS, dAsg, dAsgG, dDrop, dPar2, dPar3, dAug, dAugS, dFor, dOp, dVar, dC, dTest, dChain, dAnd, dOr, dNot, dAndV, dOrV, dNotV, dIf, dTup, dLst, dNil, dCons, dStar, dCB, dCall, dSl, dNoPart, dPart, dBM, dRev, dNeg, dIsi, dListRg, dTupRg, dRg1, dRg2, dLc, dIt, dEnum, dZip2, dZip3, dRng1, dRng2, dYes, gN, gT, gsNil, gsCons, gSb, oI, oI0, oAdd, oMulA, oSub, oFdiv, oMod, oPow, oLt, oLe, oGt, oGe, oEq, oNe, oIsN, oNotN, oIsB, oNotB, oIx, oSl, oLen, oSum, oAll, oAny, oAbs, o1I, o2I, oMin2, oMax2, oMin, oMax, oMinL, oMaxL, oInt, oBool, oList, oTuple, oSorted, oIn, oAddI, oGet, oSet, oAppend, oExtend, oPop, oPopAt, D.isNon, newL, Sto.seq, Sto.list, Sto.lsts, Sto.itOf, Sto.trk, Sto.now, startD, wipeD, D.tyN, List.map_cons, List.map_nil, List.cons_append, List.nil_append, List.length_cons, List.length_nil, List.getElem?_cons_zero, List.getElem?_cons_succ, List.set_cons_zero, List.set_cons_succ, List.replicate, Nat.sub_self, Nat.reduceSub, Nat.reduceAdd, Nat.zero_add, kb_ii, kb_ib, kb_it, kb_is, kb_bi, kb_bb, kb_bt, kb_bs, kb_tt, kb_ti, kb_ts, kb_ss, kb_si, kb_st, kb_nt, kb_ni, kb_ns, kb_lt, kb_li, kb_ls, ex_some, eI]
    have hcut : PL.cutD (r.map D.int) (some 1) none = r.tail.map D.int := cut_tail r
    rw [hcut, zip_map2]
    refine lc_mapE (ok := fun _ => True ∧ True) (List.zip r r.tail) (fun p => D.tup [.int p.1, .int p.2]) (fun _ => .bl true) (fun _ _ => ⟨trivial, trivial⟩) (small ?_) (fun p hp S2 e2 N2 M2 h2 => ?_) ?_
    · have := g.len r hr; have := g.l60; simp; omega
    · simp only [dSeq, dNext, dRet, dRetN, dIfS, dAsg, dAsgG, dDrop, dPar2, dPar3, dAug, dAugS, dFor, dOp, dVar, dC, dTest, dChain, dAnd, dOr, dNot, dAndV, dOrV, dNotV, dIf, dTup, dLst, dNil, dCons, dStar, dCB, dCall, dSl, dNoPart, dPart, dBM, dRev, dNeg, dIsi, dListRg, dTupRg, dRg1, dRg2, dLc, dIt, dEnum, dZip2, dZip3, dRng1, dRng2, dYes, gN, gT, gsNil, gsCons, gSb, oI, oI0, oAdd, oMulA, oSub, oFdiv, oMod, oPow, oLt, oLe, oGt, oGe, oEq, oNe, oIsN, oNotN, oIsB, oNotB, oIx, oSl, oLen, oSum, oAll, oAny, oAbs, o1I, o2I, oMin2, oMax2, oMin, oMax, oMinL, oMaxL, oInt, oBool, oList, oTuple, oSorted, oIn, oAddI, oGet, oSet, oAppend, oExtend, oPop, oPopAt, D.isNon, newL, Sto.seq, Sto.list, Sto.lsts, Sto.itOf, Sto.trk, Sto.now, startD, wipeD, D.tyN, List.map_cons, List.map_nil, List.cons_append, List.nil_append, List.length_cons, List.length_nil, List.getElem?_cons_zero, List.getElem?_cons_succ, List.set_cons_zero, List.set_cons_succ, List.replicate, Nat.sub_self, Nat.reduceSub, Nat.reduceAdd, Nat.zero_add, kb_ii, kb_ib, kb_it, kb_is, kb_bi, kb_bb, kb_bt, kb_bs, kb_tt, kb_ti, kb_ts, kb_ss, kb_si, kb_st, kb_nt, kb_ni, kb_ns, kb_lt, kb_li, kb_ls, ex_some]
      have hle : p.1 ≤ p.2 := pair_le (g.ord r hr) hp
      rw [decide_eq_true hle]
      exact ⟨trivial, h2⟩
    · simp only [dSeq, dNext, dRet, dRetN, dIfS, dAsg, dAsgG, dDrop, dPar2, dPar3, dAug, dAugS, dFor, dOp, dVar, dC, dTest, dChain, dAnd, dOr, dNot, dAndV, dOrV, dNotV, dIf, dTup, dLst, dNil, dCons, dStar, dCB, dCall, dSl, dNoPart, dPart, dBM, dRev, dNeg, dIsi, dListRg, dTupRg, dRg1, dRg2, dLc, dIt, dEnum, dZip2, dZip3, dRng1, dRng2, dYes, gN, gT, gsNil, gsCons, gSb, oI, oI0, oAdd, oMulA, oSub, oFdiv, oMod, oPow, oLt, oLe, oGt, oGe, oEq, oNe, oIsN, oNotN, oIsB, oNotB, oIx, oSl, oLen, oSum, oAll, oAny, oAbs, o1I, o2I, oMin2, oMax2, oMin, oMax, oMinL, oMaxL, oInt, oBool, oList, oTuple, oSorted, oIn, oAddI, oGet, oSet, oAppend, oExtend, oPop, oPopAt, D.isNon, newL, Sto.seq, Sto.list, Sto.lsts, Sto.itOf, Sto.trk, Sto.now, startD, wipeD, D.tyN, List.map_cons, List.map_nil, List.cons_append, List.nil_append, List.length_cons, List.length_nil, List.getElem?_cons_zero, List.getElem?_cons_succ, List.set_cons_zero, List.set_cons_succ, List.replicate, Nat.sub_self, Nat.reduceSub, Nat.reduceAdd, Nat.zero_add, kb_ii, kb_ib, kb_it, kb_is, kb_bi, kb_bb, kb_bt, kb_bs, kb_tt, kb_ti, kb_ts, kb_ss, kb_si, kb_st, kb_nt, kb_ni, kb_ns, kb_lt, kb_li, kb_ls, ex_some]
      refine ⟨(List.zip r r.tail).map fun _ => true, by rw [List.map_map]; rfl, ?_⟩
      have : ((List.zip r r.tail).map fun _ => true).all id = true := by simp
      rw [this]; exact h
  simp only [dSeq, dNext, dRet, dRetN, dIfS, dAsg, dAsgG, dDrop, dPar2, dPar3, dAug, dAugS, dFor, dOp, dVar, dC, dTest, dChain, dAnd, dOr, dNot, dAndV, dOrV, dNotV, dIf, dTup, dLst, dNil, dCons, dStar, dCB, dCall, dSl, dNoPart, dPart, dBM, dRev, dNeg, dIsi, dListRg, dTupRg, dRg1, dRg2, dLc, dIt, dEnum, dZip2, dZip3, dRng1, dRng2, dYes, gN, gT, gsNil, gsCons, gSb, oI, oI0, oAdd, oMulA, oSub, oFdiv, oMod, oPow, oLt, oLe, oGt, oGe, oEq, oNe, oIsN, oNotN, oIsB, oNotB, oIx, oSl, oLen, oSum, oAll, oAny, oAbs, o1I, o2I, oMin2, oMax2, oMin, oMax, oMinL, oMaxL, oInt, oBool, oList, oTuple, oSorted, oIn, oAddI, oGet, oSet, oAppend, oExtend, oPop, oPopAt, D.isNon, newL, Sto.seq, Sto.list, Sto.lsts, Sto.itOf, Sto.trk, Sto.now, startD, wipeD, D.tyN, List.map_cons, List.map_nil, List.cons_append, List.nil_append, List.length_cons, List.length_nil, List.getElem?_cons_zero, List.getElem?_cons_succ, List.set_cons_zero, List.set_cons_succ, List.replicate, Nat.sub_self, Nat.reduceSub, Nat.reduceAdd, Nat.zero_add, kb_ii, kb_ib, kb_it, kb_is, kb_bi, kb_bb, kb_bt, kb_bs, kb_tt, kb_ti, kb_ts, kb_ss, kb_si, kb_st, kb_nt, kb_ni, kb_ns, kb_lt, kb_li, kb_ls, ex_some]
  refine ⟨W.map fun _ => true, by rw [List.map_map]; rfl, ?_⟩
  rw [ha]
  exact .here q

theorem GW.pos {W : List (List Int)} {L : Nat} (g : GW W L) : 0 < W.length := Nat.lt_of_lt_of_le (by decide) g.n1
theorem GW.ix0 {W : List (List Int)} {L : Nat} (g : GW W L) : ∃ r, atI (W.map eI) 0 = some (eI r) ∧ r.length = L := by
  refine ⟨_, ix_row (W := W) (i := 0) (by decide) (by have := g.pos; omega), g.len _ (row_mem g.pos)⟩
def sp_look_at_waits : DSp := fun ds S Q => ∃ (W : List (List Int)) (L : Nat) (m : Int), ds = [eW W, .int m] ∧ GW W L ∧ 0 ≤ m ∧ m ≤ L ∧ Q .non S
theorem pure_look_at_waits : ∀ ds S Q, sp_look_at_waits ds S Q → t_look_at_waits sp_are_waits sp_is_int (DeN Q) (startD N_look_at_waits ds) S := by
  rintro ds S Q ⟨W, L, m, rfl, g, h0, h1, q⟩
  simp only [t_look_at_waits, dSeq, dNext, dRet, dRetN, dIfS, dAsg, dAsgG, dDrop, dPar2, dPar3, dAug, dAugS, dFor, dOp, dVar, dC, dTest, dChain, dAnd, dOr, dNot, dAndV, dOrV, dNotV, dIf, dTup, dLst, dNil, dCons, dStar, dCB, dCall, dSl, dNoPart, dPart, dBM, dRev, dNeg, dIsi, dListRg, dTupRg, dRg1, dRg2, dLc, dIt, dEnum, dZip2, dZip3, dRng1, dRng2, dYes, gN, gT, gsNil, gsCons, gSb, oI, oI0, oAdd, oMulA, oSub, oFdiv, oMod, oPow, oLt, oLe, oGt, oGe, oEq, oNe, oIsN, oNotN, oIsB, oNotB, oIx, oSl, oLen, oSum, oAll, oAny, oAbs, o1I, o2I, oMin2, oMax2, oMin, oMax, oMinL, oMaxL, oInt, oBool, oList, oTuple, oSorted, oIn, oAddI, oGet, oSet, oAppend, oExtend, oPop, oPopAt, D.isNon, newL, Sto.seq, Sto.list, Sto.lsts, Sto.itOf, Sto.trk, Sto.now, startD, wipeD, D.tyN, List.map_cons, List.map_nil, List.cons_append, List.nil_append, List.length_cons, List.length_nil, List.getElem?_cons_zero, List.getElem?_cons_succ, List.set_cons_zero, List.set_cons_succ, List.replicate, Nat.sub_self, Nat.reduceSub, Nat.reduceAdd, Nat.zero_add, kb_ii, kb_ib, kb_it, kb_is, kb_bi, kb_bb, kb_bt, kb_bs, kb_tt, kb_ti, kb_ts, kb_ss, kb_si, kb_st, kb_nt, kb_ni, kb_ns, kb_lt, kb_li, kb_ls, ex_some]
  refine ⟨W, L, rfl, g, ?_⟩
  obtain ⟨r, hr, hl⟩ := g.ix0
  simp only [dSeq, dNext, dRet, dRetN, dIfS, dAsg, dAsgG, dDrop, dPar2, dPar3, dAug, dAugS, dFor, dOp, dVar, dC, dTest, dChain, dAnd, dOr, dNot, dAndV, dOrV, dNotV, dIf, dTup, dLst, dNil, dCons, dStar, dCB, dCall, dSl, dNoPart, dPart, dBM, dRev, dNeg, dIsi, dListRg, dTupRg, dRg1, dRg2, dLc, dIt, dEnum, dZip2, dZip3, dRng1, dRng2, dYes, gN, gT, gsNil, gsCons, gSb, oI, oI0, oAdd, oMulA, oSub, oFdiv, oMod, oPow, oLt, oLe, oGt, oGe, oEq, oNe, oIsN, oNotN, oIsB, oNotB, oIx, oSl, oLen, oSum, oAll, oAny, oAbs, o1I, o2I, oMin2, oMax2, oMin, oMax, oMinL, oMaxL, oInt, oBool, oList, oTuple, oSorted, oIn, oAddI, oGet, oSet, oAppend, oExtend, oPop, oPopAt, D.isNon, newL, Sto.seq, Sto.list, Sto.lsts, Sto.itOf, Sto.trk, Sto.now, startD, wipeD, D.tyN, List.map_cons, List.map_nil, List.cons_append, List.nil_append, List.length_cons, List.length_nil, List.getElem?_cons_zero, List.getElem?_cons_succ, List.set_cons_zero, List.set_cons_succ, List.replicate, Nat.sub_self, Nat.reduceSub, Nat.reduceAdd, Nat.zero_add, kb_ii, kb_ib, kb_it, kb_is, kb_bi, kb_bb, kb_bt, kb_bs, kb_tt, kb_ti, kb_ts, kb_ss, kb_si, kb_st, kb_nt, kb_ni, kb_ns, kb_lt, kb_li, kb_ls, ex_some, eW, Bool.not_true, hr]
  simp only [dSeq, dNext, dRet, dRetN, dIfS, dAsg, dAsgG, dDrop, dPar2, dPar3, dAug, dAugS, dFor, dOp, dVar, dC, dTest, dChain, dAnd, dOr, dNot, dAndV, dOrV, dNotV, dIf, dTup, dLst, dNil, dCons, dStar, dCB, dCall, dSl, dNoPart, dPart, dBM, dRev, dNeg, dIsi, dListRg, dTupRg, dRg1, dRg2, dLc, dIt, dEnum, dZip2, dZip3, dRng1, dRng2, dYes, gN, gT, gsNil, gsCons, gSb, oI, oI0, oAdd, oMulA, oSub, oFdiv, oMod, oPow, oLt, oLe, oGt, oGe, oEq, oNe, oIsN, oNotN, oIsB, oNotB, oIx, oSl, oLen, oSum, oAll, oAny, oAbs, o1I, o2I, oMin2, oMax2, oMin, oMax, oMinL, oMaxL, oInt, oBool, oList, oTuple, oSorted, oIn, oAddI, oGet, oSet, oAppend, oExtend, oPop, oPopAt, D.isNon, newL, Sto.seq, Sto.list, Sto.lsts, Sto.itOf, Sto.trk, Sto.now, startD, wipeD, D.tyN, List.map_cons, List.map_nil, List.cons_append, List.nil_append, List.length_cons, List.length_nil, List.getElem?_cons_zero, List.getElem?_cons_succ, List.set_cons_zero, List.set_cons_succ, List.replicate, Nat.sub_self, Nat.reduceSub, Nat.reduceAdd, Nat.zero_add, kb_ii, kb_ib, kb_it, kb_is, kb_bi, kb_bb, kb_bt, kb_bs, kb_tt, kb_ti, kb_ts, kb_ss, kb_si, kb_st, kb_nt, kb_ni, kb_ns, kb_lt, kb_li, kb_ls, ex_some, eI]
  refine ⟨m, 0, L, by rw [List.length_map, hl], ?_⟩
  simp only [decide_eq_true h0, decide_eq_true h1, Bool.and_true, Bool.not_true]
  exact .here q
/-- a vector of counts -/
structure Vec (W : List (List Int)) (L : Nat) (m : Int) (c : List Int) : Prop where
  len : c.length = W.length
  nn : ∀ x ∈ c, 0 ≤ x
  le : ∀ x ∈ c, x ≤ L
  sum : c.sum = m
theorem nn_sum : ∀ {c : List Int}, (∀ x ∈ c, 0 ≤ x) → 0 ≤ c.sum ∧ ∀ x ∈ c, x ≤ c.sum
  | [], _ => ⟨by simp, by simp⟩
  | y :: c, h => by
    obtain ⟨h1, h2⟩ := nn_sum (c := c) fun x hx => h x (List.mem_cons_of_mem _ hx)
    have := h y List.mem_cons_self
    rw [List.sum_cons]
    refine ⟨by omega, fun x hx => ?_⟩
    rcases List.mem_cons.mp hx with rfl | hx
    · omega
    · have := h2 x hx; omega
def sp_are_counts : DSp := fun ds S Q => ∃ (W : List (List Int)) (L : Nat) (m : Int) (c : List Int), ds = [eW W, .int m, eI c] ∧ GW W L ∧ Vec W L m c ∧ Q (.bl true) S
theorem pure_are_counts : ∀ ds S Q, sp_are_counts ds S Q → t_are_counts sp_are_ints (DeN Q) (startD N_are_counts ds) S := by
  rintro ds S Q ⟨W, L, m, c, rfl, g, v, q⟩
  simp only [t_are_counts, dSeq, dNext, dRet, dRetN, dIfS, dAsg, dAsgG, dDrop, dPar2, dPar3, dAug, dAugS, dFor, dOp, dVar, dC, dTest, dChain, dAnd, dOr, dNot, dAndV, dOrV, dNotV, dIf, dTup, dLst, dNil, dCons, dStar, dCB, dCall, dSl, dNoPart, dPart, dBM, dRev, dNeg, dIsi, dListRg, dTupRg, dRg1, dRg2, dLc, dIt, dEnum, dZip2, dZip3, dRng1, dRng2, dYes, gN, gT, gsNil, gsCons, gSb, oI, oI0, oAdd, oMulA, oSub, oFdiv, oMod, oPow, oLt, oLe, oGt, oGe, oEq, oNe, oIsN, oNotN, oIsB, oNotB, oIx, oSl, oLen, oSum, oAll, oAny, oAbs, o1I, o2I, oMin2, oMax2, oMin, oMax, oMinL, oMaxL, oInt, oBool, oList, oTuple, oSorted, oIn, oAddI, oGet, oSet, oAppend, oExtend, oPop, oPopAt, D.isNon, newL, Sto.seq, Sto.list, Sto.lsts, Sto.itOf, Sto.trk, Sto.now, startD, wipeD, D.tyN, List.map_cons, List.map_nil, List.cons_append, List.nil_append, List.length_cons, List.length_nil, List.getElem?_cons_zero, List.getElem?_cons_succ, List.set_cons_zero, List.set_cons_succ, List.replicate, Nat.sub_self, Nat.reduceSub, Nat.reduceAdd, Nat.zero_add, kb_ii, kb_ib, kb_it, kb_is, kb_bi, kb_bb, kb_bt, kb_bs, kb_tt, kb_ti, kb_ts, kb_ss, kb_si, kb_st, kb_nt, kb_ni, kb_ns, kb_lt, kb_li, kb_ls, ex_some]
  refine ⟨c, 0, m, rfl, small (by rw [v.len]; have := g.n8; omega), ?_⟩
  have : inB 0 m c = true := List.all_eq_true.mpr fun x hx => by
    have h1 := v.nn x hx
    have h2 := (nn_sum v.nn).2 x hx
    rw [v.sum] at h2
    simp [h1, h2]
  rw [this]
  simp only [dSeq, dNext, dRet, dRetN, dIfS, dAsg, dAsgG, dDrop, dPar2, dPar3, dAug, dAugS, dFor, dOp, dVar, dC, dTest, dChain, dAnd, dOr, dNot, dAndV, dOrV, dNotV, dIf, dTup, dLst, dNil, dCons, dStar, dCB, dCall, dSl, dNoPart, dPart, dBM, dRev, dNeg, dIsi, dListRg, dTupRg, dRg1, dRg2, dLc, dIt, dEnum, dZip2, dZip3, dRng1, dRng2, dYes, gN, gT, gsNil, gsCons, gSb, oI, oI0, oAdd, oMulA, oSub, oFdiv, oMod, oPow, oLt, oLe, oGt, oGe, oEq, oNe, oIsN, oNotN, oIsB, oNotB, oIx, oSl, oLen, oSum, oAll, oAny, oAbs, o1I, o2I, oMin2, oMax2, oMin, oMax, oMinL, oMaxL, oInt, oBool, oList, oTuple, oSorted, oIn, oAddI, oGet, oSet, oAppend, oExtend, oPop, oPopAt, D.isNon, newL, Sto.seq, Sto.list, Sto.lsts, Sto.itOf, Sto.trk, Sto.now, startD, wipeD, D.tyN, List.map_cons, List.map_nil, List.cons_append, List.nil_append, List.length_cons, List.length_nil, List.getElem?_cons_zero, List.getElem?_cons_succ, List.set_cons_zero, List.set_cons_succ, List.replicate, Nat.sub_self, Nat.reduceSub, Nat.reduceAdd, Nat.zero_add, kb_ii, kb_ib, kb_it, kb_is, kb_bi, kb_bb, kb_bt, kb_bs, kb_tt, kb_ti, kb_ts, kb_ss, kb_si, kb_st, kb_nt, kb_ni, kb_ns, kb_lt, kb_li, kb_ls, ex_some, eW, eI]
  refine ⟨⟨okn_int, okn_int⟩, ?_⟩
  rw [eqD_int, List.length_map, List.length_map, v.len]
  simp only [decide_true]
  refine ⟨c, rfl, ⟨okn_int, okn_int⟩, ?_⟩
  rw [eqD_int, v.sum, decide_eq_true rfl]
  exact .here q
def sp_look_at_counts : DSp := fun ds S Q => ∃ (W : List (List Int)) (L : Nat) (m : Int) (c : List Int), ds = [eW W, eI c] ∧ GW W L ∧ Vec W L m c ∧ m ≤ L ∧ Q .non S
theorem pure_look_at_counts : ∀ ds S Q, sp_look_at_counts ds S Q → t_look_at_counts sp_are_waits sp_are_ints (DeN Q) (startD N_look_at_counts ds) S := by
  rintro ds S Q ⟨W, L, m, c, rfl, g, v, hm, q⟩
  simp only [t_look_at_counts, dSeq, dNext, dRet, dRetN, dIfS, dAsg, dAsgG, dDrop, dPar2, dPar3, dAug, dAugS, dFor, dOp, dVar, dC, dTest, dChain, dAnd, dOr, dNot, dAndV, dOrV, dNotV, dIf, dTup, dLst, dNil, dCons, dStar, dCB, dCall, dSl, dNoPart, dPart, dBM, dRev, dNeg, dIsi, dListRg, dTupRg, dRg1, dRg2, dLc, dIt, dEnum, dZip2, dZip3, dRng1, dRng2, dYes, gN, gT, gsNil, gsCons, gSb, oI, oI0, oAdd, oMulA, oSub, oFdiv, oMod, oPow, oLt, oLe, oGt, oGe, oEq, oNe, oIsN, oNotN, oIsB, oNotB, oIx, oSl, oLen, oSum, oAll, oAny, oAbs, o1I, o2I, oMin2, oMax2, oMin, oMax, oMinL, oMaxL, oInt, oBool, oList, oTuple, oSorted, oIn, oAddI, oGet, oSet, oAppend, oExtend, oPop, oPopAt, D.isNon, newL, Sto.seq, Sto.list, Sto.lsts, Sto.itOf, Sto.trk, Sto.now, startD, wipeD, D.tyN, List.map_cons, List.map_nil, List.cons_append, List.nil_append, List.length_cons, List.length_nil, List.getElem?_cons_zero, List.getElem?_cons_succ, List.set_cons_zero, List.set_cons_succ, List.replicate, Nat.sub_self, Nat.reduceSub, Nat.reduceAdd, Nat.zero_add, kb_ii, kb_ib, kb_it, kb_is, kb_bi, kb_bb, kb_bt, kb_bs, kb_tt, kb_ti, kb_ts, kb_ss, kb_si, kb_st, kb_nt, kb_ni, kb_ns, kb_lt, kb_li, kb_ls, ex_some]
  refine ⟨W, L, rfl, g, ?_⟩
  obtain ⟨r, hr, hl⟩ := g.ix0
  simp only [dSeq, dNext, dRet, dRetN, dIfS, dAsg, dAsgG, dDrop, dPar2, dPar3, dAug, dAugS, dFor, dOp, dVar, dC, dTest, dChain, dAnd, dOr, dNot, dAndV, dOrV, dNotV, dIf, dTup, dLst, dNil, dCons, dStar, dCB, dCall, dSl, dNoPart, dPart, dBM, dRev, dNeg, dIsi, dListRg, dTupRg, dRg1, dRg2, dLc, dIt, dEnum, dZip2, dZip3, dRng1, dRng2, dYes, gN, gT, gsNil, gsCons, gSb, oI, oI0, oAdd, oMulA, oSub, oFdiv, oMod, oPow, oLt, oLe, oGt, oGe, oEq, oNe, oIsN, oNotN, oIsB, oNotB, oIx, oSl, oLen, oSum, oAll, oAny, oAbs, o1I, o2I, oMin2, oMax2, oMin, oMax, oMinL, oMaxL, oInt, oBool, oList, oTuple, oSorted, oIn, oAddI, oGet, oSet, oAppend, oExtend, oPop, oPopAt, D.isNon, newL, Sto.seq, Sto.list, Sto.lsts, Sto.itOf, Sto.trk, Sto.now, startD, wipeD, D.tyN, List.map_cons, List.map_nil, List.cons_append, List.nil_append, List.length_cons, List.length_nil, List.getElem?_cons_zero, List.getElem?_cons_succ, List.set_cons_zero, List.set_cons_succ, List.replicate, Nat.sub_self, Nat.reduceSub, Nat.reduceAdd, Nat.zero_add, kb_ii, kb_ib, kb_it, kb_is, kb_bi, kb_bb, kb_bt, kb_bs, kb_tt, kb_ti, kb_ts, kb_ss, kb_si, kb_st, kb_nt, kb_ni, kb_ns, kb_lt, kb_li, kb_ls, ex_some, eW, Bool.not_true, hr]
  simp only [dSeq, dNext, dRet, dRetN, dIfS, dAsg, dAsgG, dDrop, dPar2, dPar3, dAug, dAugS, dFor, dOp, dVar, dC, dTest, dChain, dAnd, dOr, dNot, dAndV, dOrV, dNotV, dIf, dTup, dLst, dNil, dCons, dStar, dCB, dCall, dSl, dNoPart, dPart, dBM, dRev, dNeg, dIsi, dListRg, dTupRg, dRg1, dRg2, dLc, dIt, dEnum, dZip2, dZip3, dRng1, dRng2, dYes, gN, gT, gsNil, gsCons, gSb, oI, oI0, oAdd, oMulA, oSub, oFdiv, oMod, oPow, oLt, oLe, oGt, oGe, oEq, oNe, oIsN, oNotN, oIsB, oNotB, oIx, oSl, oLen, oSum, oAll, oAny, oAbs, o1I, o2I, oMin2, oMax2, oMin, oMax, oMinL, oMaxL, oInt, oBool, oList, oTuple, oSorted, oIn, oAddI, oGet, oSet, oAppend, oExtend, oPop, oPopAt, D.isNon, newL, Sto.seq, Sto.list, Sto.lsts, Sto.itOf, Sto.trk, Sto.now, startD, wipeD, D.tyN, List.map_cons, List.map_nil, List.cons_append, List.nil_append, List.length_cons, List.length_nil, List.getElem?_cons_zero, List.getElem?_cons_succ, List.set_cons_zero, List.set_cons_succ, List.replicate, Nat.sub_self, Nat.reduceSub, Nat.reduceAdd, Nat.zero_add, kb_ii, kb_ib, kb_it, kb_is, kb_bi, kb_bb, kb_bt, kb_bs, kb_tt, kb_ti, kb_ts, kb_ss, kb_si, kb_st, kb_nt, kb_ni, kb_ns, kb_lt, kb_li, kb_ls, ex_some, eI]
  refine ⟨c, 0, L, by rw [List.length_map, hl]; rfl, small (by rw [v.len]; have := g.n8; omega), ?_⟩
  have : inB 0 L c = true := List.all_eq_true.mpr fun x hx => by
    have h1 := v.nn x hx
    have h2 := v.le x hx
    simp [h1, h2]
  rw [this]
  simp only [Bool.not_true]
  refine ⟨⟨okn_int, okn_int⟩, ?_⟩
  rw [eqD_int, List.length_map, List.length_map, v.len]
  simp only [decide_true, Bool.not_true]
  refine ⟨c, rfl, ?_⟩
  have : ¬ ((r.map D.int).length : Int) < c.sum := by rw [List.length_map, hl, v.sum]; omega
  simp only [hr, decide_eq_false this]
  exact .here q

/-! ### settled -/
def at2 (W : List (List Int)) (i : Nat) (k : Int) : Int := (W.getD i []).getD k.toNat 0
def cA (c : List Int) (i : Nat) : Int := c.getD i 0
structure Stl (W : List (List Int)) (L : Nat) (m : Int) (c : List Int) : Prop extends Vec W L m c where
  eq : ∀ i j, i < W.length → j < W.length → i ≠ j → 0 < cA c i → cA c j < L → at2 W i (cA c i - 1) ≤ at2 W j (cA c j)
theorem cA_mem {c : List Int} {i : Nat} (h : i < c.length) : cA c i ∈ c := by
  unfold cA; rw [List.getD_eq_getElem?_getD, List.getElem?_eq_getElem h]; exact List.getElem_mem h
theorem cA_set_same {c : List Int} {i : Nat} {x : Int} (h : i < c.length) : cA (c.set i x) i = x := by
  unfold cA; rw [List.getD_eq_getElem?_getD, List.getElem?_set_self h]; rfl
theorem cA_set_ne {c : List Int} {i j : Nat} {x : Int} (h : i ≠ j) : cA (c.set i x) j = cA c j := by
  unfold cA; rw [List.getD_eq_getElem?_getD, List.getD_eq_getElem?_getD, List.getElem?_set_ne h]
theorem sum_setA {c : List Int} {i : Nat} {x : Int} (h : i < c.length) : (c.set i x).sum = c.sum - cA c i + x := by
  induction c generalizing i with
  | nil => simp at h
  | cons y c ih =>
    cases i with
    | zero => simp [cA]; omega
    | succ i =>
      rw [List.set_cons_succ, List.sum_cons, List.sum_cons, ih (by simpa using h)]
      have : cA (y :: c) (i + 1) = cA c i := rfl
      rw [this]; omega
theorem sorted_at {r : List Int} (o : r.Pairwise (· ≤ ·)) {a b : Nat} (h : a ≤ b) (hb : b < r.length) : r.getD a 0 ≤ r.getD b 0 := by
  rw [List.getD_eq_getElem?_getD, List.getD_eq_getElem?_getD, List.getElem?_eq_getElem hb, List.getElem?_eq_getElem (by omega)]
  show r[a] ≤ r[b]
  by_cases e : a = b
  · subst e; exact Int.le_refl _
  · exact List.pairwise_iff_getElem.mp o a b (by omega) hb (by omega)
theorem stl_step {W : List (List Int)} {L : Nat} {m : Int} {c : List Int} {k : Nat} (g : GW W L) (h : Stl W L m c) (hm : m < L) (hk : k < W.length) (hmin : ∀ j, j < W.length → at2 W k (cA c k) ≤ at2 W j (cA c j)) : Stl W L (m + 1) (c.set k (cA c k + 1)) := by
  have hkc : k < c.length := by rw [h.len]; exact hk
  have hle : ∀ i, i < c.length → cA c i ≤ m ∧ 0 ≤ cA c i := fun i hi => by
    have h2 := (nn_sum h.nn).2 _ (cA_mem hi)
    rw [h.sum] at h2
    exact ⟨h2, h.nn _ (cA_mem hi)⟩
  have bk := hle k hkc
  refine ⟨⟨by rw [List.length_set]; exact h.len, fun x hx => ?_, fun x hx => ?_, by rw [sum_setA hkc, h.sum]; omega⟩, fun i j hi hj ne hci hcj => ?_⟩
  · rcases List.mem_or_eq_of_mem_set hx with q | q
    · exact h.nn x q
    · omega
  · rcases List.mem_or_eq_of_mem_set hx with q | q
    · exact h.le x q
    · omega
  · have hic : i < c.length := by rw [h.len]; exact hi
    have hjc : j < c.length := by rw [h.len]; exact hj
    by_cases e1 : i = k
    · subst e1
      rw [cA_set_same hkc, cA_set_ne ne]
      have : cA c i + 1 - 1 = cA c i := by omega
      rw [this]
      exact hmin j hj
    · by_cases e2 : j = k
      · subst e2
        rw [cA_set_ne (Ne.symm ne)] at hci ⊢
        rw [cA_set_same hkc] at hcj ⊢
        have a := h.eq i j hi hj ne hci (by omega)
        have b : at2 W j (cA c j) ≤ at2 W j (cA c j + 1) := by
          have hr := row_mem hj
          exact sorted_at (g.ord _ hr) (by omega) (by rw [g.len _ hr]; omega)
        omega
      · rw [cA_set_ne (Ne.symm e1)] at hci ⊢
        rw [cA_set_ne (Ne.symm e2)] at hcj ⊢
        exact h.eq i j hi hj ne hci hcj
theorem stl_zero {W : List (List Int)} {L : Nat} : Stl W L 0 (List.replicate W.length 0) := by
  refine ⟨⟨by simp, fun x hx => ?_, fun x hx => ?_, ?_⟩, fun i j hi hj ne hci hcj => ?_⟩
  · rw [(List.mem_replicate.mp hx).2]; decide
  · rw [(List.mem_replicate.mp hx).2]; omega
  · rw [List.sum_replicate_int]; omega
  · exfalso
    unfold cA at hci
    rw [List.getD_eq_getElem?_getD, List.getElem?_replicate, if_pos hi] at hci
    exact absurd hci (by decide)
def sp_told_settled : DSp := fun ds S Q => ∃ (W : List (List Int)) (L : Nat) (m : Int), ds = [eW W, .int m] ∧ GW W L ∧ 0 ≤ m ∧ m ≤ L ∧ ∀ c, Stl W L m c → Q (.lst (c.map .int)) S
theorem rep_zero (n : Nat) : (List.replicate n [D.int 0]).flatten = (List.replicate n (0 : Int)).map D.int := by
  induction n with
  | zero => rfl
  | succ n ih => rw [List.replicate_succ, List.replicate_succ, List.flatten_cons, List.map_cons, ih]; rfl
theorem pure_told_settled : ∀ ds S Q, sp_told_settled ds S Q → t_told_settled (DeN Q) (startD N_told_settled ds) S := by
  rintro ds S Q ⟨W, L, m, rfl, g, h0, h1, q⟩
  have hn : W.length ≤ 8 := g.n8
  simp only [t_told_settled, dSeq, dNext, dRet, dRetN, dIfS, dAsg, dAsgG, dDrop, dPar2, dPar3, dAug, dAugS, dFor, dOp, dVar, dC, dTest, dChain, dAnd, dOr, dNot, dAndV, dOrV, dNotV, dIf, dTup, dLst, dNil, dCons, dStar, dCB, dCall, dSl, dNoPart, dPart, dBM, dRev, dNeg, dIsi, dListRg, dTupRg, dRg1, dRg2, dLc, dIt, dEnum, dZip2, dZip3, dRng1, dRng2, dYes, gN, gT, gsNil, gsCons, gSb, oI, oI0, oAdd, oMulA, oSub, oFdiv, oMod, oPow, oLt, oLe, oGt, oGe, oEq, oNe, oIsN, oNotN, oIsB, oNotB, oIx, oSl, oLen, oSum, oAll, oAny, oAbs, o1I, o2I, oMin2, oMax2, oMin, oMax, oMinL, oMaxL, oInt, oBool, oList, oTuple, oSorted, oIn, oAddI, oGet, oSet, oAppend, oExtend, oPop, oPopAt, D.isNon, newL, Sto.seq, Sto.list, Sto.lsts, Sto.itOf, Sto.trk, Sto.now, startD, wipeD, D.tyN, List.map_cons, List.map_nil, List.cons_append, List.nil_append, List.length_cons, List.length_nil, List.getElem?_cons_zero, List.getElem?_cons_succ, List.set_cons_zero, List.set_cons_succ, List.replicate, Nat.sub_self, Nat.reduceSub, Nat.reduceAdd, Nat.zero_add, kb_ii, kb_ib, kb_it, kb_is, kb_bi, kb_bb, kb_bt, kb_bs, kb_tt, kb_ti, kb_ts, kb_ss, kb_si, kb_st, kb_nt, kb_ni, kb_ns, kb_lt, kb_li, kb_ls, ex_some, eW]
  have hw : 0 ≤ (((W.map eI).length : Nat) : Int) ∧ (((W.map eI).length : Nat) : Int) ≤ 8 := by rw [List.length_map]; omega
  refine ⟨by decide, ⟨hw.1, Int.lt_of_le_of_lt hw.2 (by decide), small (by rw [List.length_map]; simp; omega)⟩, fun p hp => ?_⟩
  have e1 : (List.replicate (((W.map eI).length : Nat) : Int).toNat [D.int 0]).flatten = (List.replicate W.length (0 : Int)).map D.int := by
    rw [Int.toNat_natCast, List.length_map]; exact rep_zero _
  rw [e1]
  have hL := g.l60
  refine ⟨⟨by omega, by omega⟩, trivial, ?_⟩
  refine loopD_invE (α := Nat) (fun i => .int (0 + (i : Int))) (fun xs ρ S' => ∃ c o, ρ = [some (D.tup (W.map eI)), some (D.int m), some (D.ref p), o, none, none] ∧ S' = S.up p (.lst (c.map .int)) ∧ Stl W L (m - xs.length) c ∧ (xs.length : Int) ≤ m) ?_ ?_ _ _ _ ⟨List.replicate W.length 0, none, rfl, rfl, ?_, by simp; omega⟩ trivial
  · rintro x xs ρ S' ⟨c, o, rfl, rfl, st, hxl⟩ _ N hN
    rw [List.length_cons] at st hxl
    have hpp : (S.up p (MO.lst (c.map D.int))) p = some (.lst (c.map D.int)) := Sto.up_same
    simp only [dSeq, dNext, dRet, dRetN, dIfS, dAsg, dAsgG, dDrop, dPar2, dPar3, dAug, dAugS, dFor, dOp, dVar, dC, dTest, dChain, dAnd, dOr, dNot, dAndV, dOrV, dNotV, dIf, dTup, dLst, dNil, dCons, dStar, dCB, dCall, dSl, dNoPart, dPart, dBM, dRev, dNeg, dIsi, dListRg, dTupRg, dRg1, dRg2, dLc, dIt, dEnum, dZip2, dZip3, dRng1, dRng2, dYes, gN, gT, gsNil, gsCons, gSb, oI, oI0, oAdd, oMulA, oSub, oFdiv, oMod, oPow, oLt, oLe, oGt, oGe, oEq, oNe, oIsN, oNotN, oIsB, oNotB, oIx, oSl, oLen, oSum, oAll, oAny, oAbs, o1I, o2I, oMin2, oMax2, oMin, oMax, oMinL, oMaxL, oInt, oBool, oList, oTuple, oSorted, oIn, oAddI, oGet, oSet, oAppend, oExtend, oPop, oPopAt, D.isNon, newL, Sto.seq, Sto.list, Sto.lsts, Sto.itOf, Sto.trk, Sto.now, startD, wipeD, D.tyN, List.map_cons, List.map_nil, List.cons_append, List.nil_append, List.length_cons, List.length_nil, List.getElem?_cons_zero, List.getElem?_cons_succ, List.set_cons_zero, List.set_cons_succ, List.replicate, Nat.sub_self, Nat.reduceSub, Nat.reduceAdd, Nat.zero_add, kb_ii, kb_ib, kb_it, kb_is, kb_bi, kb_bb, kb_bt, kb_bs, kb_tt, kb_ti, kb_ts, kb_ss, kb_si, kb_st, kb_nt, kb_ni, kb_ns, kb_lt, kb_li, kb_ls, ex_some, hpp, enum_map]
    refine lc_mapE (W.zipIdx 0) _ (fun q => D.tup [.int (at2 W q.2 (cA c q.2)), .int (q.2 : Nat)]) (fun _ _ => trivial) (small (by simp; omega)) (fun q hq S2 e2 N2 M2 h2 => ?_) ?_
    · have hq2 := List.mem_zipIdx hq
      simp only [dSeq, dNext, dRet, dRetN, dIfS, dAsg, dAsgG, dDrop, dPar2, dPar3, dAug, dAugS, dFor, dOp, dVar, dC, dTest, dChain, dAnd, dOr, dNot, dAndV, dOrV, dNotV, dIf, dTup, dLst, dNil, dCons, dStar, dCB, dCall, dSl, dNoPart, dPart, dBM, dRev, dNeg, dIsi, dListRg, dTupRg, dRg1, dRg2, dLc, dIt, dEnum, dZip2, dZip3, dRng1, dRng2, dYes, gN, gT, gsNil, gsCons, gSb, oI, oI0, oAdd, oMulA, oSub, oFdiv, oMod, oPow, oLt, oLe, oGt, oGe, oEq, oNe, oIsN, oNotN, oIsB, oNotB, oIx, oSl, oLen, oSum, oAll, oAny, oAbs, o1I, o2I, oMin2, oMax2, oMin, oMax, oMinL, oMaxL, oInt, oBool, oList, oTuple, oSorted, oIn, oAddI, oGet, oSet, oAppend, oExtend, oPop, oPopAt, D.isNon, newL, Sto.seq, Sto.list, Sto.lsts, Sto.itOf, Sto.trk, Sto.now, startD, wipeD, D.tyN, List.map_cons, List.map_nil, List.cons_append, List.nil_append, List.length_cons, List.length_nil, List.getElem?_cons_zero, List.getElem?_cons_succ, List.set_cons_zero, List.set_cons_succ, List.replicate, Nat.sub_self, Nat.reduceSub, Nat.reduceAdd, Nat.zero_add, kb_ii, kb_ib, kb_it, kb_is, kb_bi, kb_bb, kb_bt, kb_bs, kb_tt, kb_ti, kb_ts, kb_ss, kb_si, kb_st, kb_nt, kb_ni, kb_ns, kb_lt, kb_li, kb_ls, ex_some, e2 p _ hpp]
      obtain ⟨row, k⟩ := q
      obtain ⟨_, hk, hrow⟩ := hq2
      simp only [Nat.zero_add, Nat.sub_zero] at hk hrow
      have hkc : k < c.length := by rw [st.len]; exact hk
      have hle := (nn_sum st.nn).2 _ (cA_mem hkc)
      have hnn := st.nn _ (cA_mem hkc)
      rw [st.sum] at hle
      have hr : row ∈ W := by rw [hrow]; exact List.getElem_mem hk
      have ea : atI (c.map D.int) ((k : Nat) : Int) = some (.int (cA c k)) := ix_int (by omega) (by omega)
      have eb : atI (row.map D.int) (cA c k) = some (.int (row.getD (cA c k).toNat 0)) := ix_int hnn (by rw [g.len _ hr]; omega)
      have ec : W.getD k [] = row := by rw [List.getD_eq_getElem?_getD, List.getElem?_eq_getElem hk, hrow]; rfl
      simp only [ea, dSeq, dNext, dRet, dRetN, dIfS, dAsg, dAsgG, dDrop, dPar2, dPar3, dAug, dAugS, dFor, dOp, dVar, dC, dTest, dChain, dAnd, dOr, dNot, dAndV, dOrV, dNotV, dIf, dTup, dLst, dNil, dCons, dStar, dCB, dCall, dSl, dNoPart, dPart, dBM, dRev, dNeg, dIsi, dListRg, dTupRg, dRg1, dRg2, dLc, dIt, dEnum, dZip2, dZip3, dRng1, dRng2, dYes, gN, gT, gsNil, gsCons, gSb, oI, oI0, oAdd, oMulA, oSub, oFdiv, oMod, oPow, oLt, oLe, oGt, oGe, oEq, oNe, oIsN, oNotN, oIsB, oNotB, oIx, oSl, oLen, oSum, oAll, oAny, oAbs, o1I, o2I, oMin2, oMax2, oMin, oMax, oMinL, oMaxL, oInt, oBool, oList, oTuple, oSorted, oIn, oAddI, oGet, oSet, oAppend, oExtend, oPop, oPopAt, D.isNon, newL, Sto.seq, Sto.list, Sto.lsts, Sto.itOf, Sto.trk, Sto.now, startD, wipeD, D.tyN, List.map_cons, List.map_nil, List.cons_append, List.nil_append, List.length_cons, List.length_nil, List.getElem?_cons_zero, List.getElem?_cons_succ, List.set_cons_zero, List.set_cons_succ, List.replicate, Nat.sub_self, Nat.reduceSub, Nat.reduceAdd, Nat.zero_add, kb_ii, kb_ib, kb_it, kb_is, kb_bi, kb_bb, kb_bt, kb_bs, kb_tt, kb_ti, kb_ts, kb_ss, kb_si, kb_st, kb_nt, kb_ni, kb_ns, kb_lt, kb_li, kb_ls, ex_some, eI, eb]
      refine ⟨trivial, by rw [sizeLine_eq]; omega, ?_⟩
      unfold at2 at h2
      simp only [ec] at h2
      exact h2
    · have em : (W.zipIdx 0).map (fun q => D.tup [.int (at2 W q.2 (cA c q.2)), .int (q.2 : Nat)]) = ((W.zipIdx 0).map fun q => (at2 W q.2 (cA c q.2), ((q.2 : Nat) : Int))).map fun p => D.tup [.int p.1, .int p.2] := by rw [List.map_map]; rfl
      simp only [dSeq, dNext, dRet, dRetN, dIfS, dAsg, dAsgG, dDrop, dPar2, dPar3, dAug, dAugS, dFor, dOp, dVar, dC, dTest, dChain, dAnd, dOr, dNot, dAndV, dOrV, dNotV, dIf, dTup, dLst, dNil, dCons, dStar, dCB, dCall, dSl, dNoPart, dPart, dBM, dRev, dNeg, dIsi, dListRg, dTupRg, dRg1, dRg2, dLc, dIt, dEnum, dZip2, dZip3, dRng1, dRng2, dYes, gN, gT, gsNil, gsCons, gSb, oI, oI0, oAdd, oMulA, oSub, oFdiv, oMod, oPow, oLt, oLe, oGt, oGe, oEq, oNe, oIsN, oNotN, oIsB, oNotB, oIx, oSl, oLen, oSum, oAll, oAny, oAbs, o1I, o2I, oMin2, oMax2, oMin, oMax, oMinL, oMaxL, oInt, oBool, oList, oTuple, oSorted, oIn, oAddI, oGet, oSet, oAppend, oExtend, oPop, oPopAt, D.isNon, newL, Sto.seq, Sto.list, Sto.lsts, Sto.itOf, Sto.trk, Sto.now, startD, wipeD, D.tyN, List.map_cons, List.map_nil, List.cons_append, List.nil_append, List.length_cons, List.length_nil, List.getElem?_cons_zero, List.getElem?_cons_succ, List.set_cons_zero, List.set_cons_succ, List.replicate, Nat.sub_self, Nat.reduceSub, Nat.reduceAdd, Nat.zero_add, kb_ii, kb_ib, kb_it, kb_is, kb_bi, kb_bb, kb_bt, kb_bs, kb_tt, kb_ti, kb_ts, kb_ss, kb_si, kb_st, kb_nt, kb_ni, kb_ns, kb_lt, kb_li, kb_ls, ex_some]
      rw [em]
      refine ⟨⟨?_, okn_pairs, akin_pairs⟩, fun y hy hmin => ?_⟩
      · intro z
        have := congrArg List.length z
        simp at this
        have := g.pos
        rw [‹W = []›] at this
        exact absurd this (by decide)
      obtain ⟨⟨v, kI⟩, hv, rfl⟩ := List.mem_map.mp hy
      obtain ⟨⟨row, k⟩, hq, e⟩ := List.mem_map.mp hv
      have hq2 := List.mem_zipIdx hq
      obtain ⟨_, hk, hrow⟩ := hq2
      simp only [Nat.zero_add, Nat.sub_zero] at hk hrow
      simp only [Prod.mk.injEq] at e
      obtain ⟨rfl, rfl⟩ := e
      have hmin2 : ∀ j, j < W.length → at2 W k (cA c k) ≤ at2 W j (cA c j) := fun j hj => by
        have hm : (D.tup [.int (at2 W j (cA c j)), .int ((j : Nat) : Int)]) ∈ ((W.zipIdx 0).map fun q => (at2 W q.2 (cA c q.2), ((q.2 : Nat) : Int))).map fun p => D.tup [.int p.1, .int p.2] := by
          refine List.mem_map.mpr ⟨(at2 W j (cA c j), ((j : Nat) : Int)), List.mem_map.mpr ⟨(W[j], j), ?_, rfl⟩, rfl⟩
          have := List.getElem_mem (l := W.zipIdx 0) (n := j) (by simpa using hj)
          simpa using this
        have := hmin _ hm
        rw [ltD_ii] at this
        have := of_decide_eq_false this
        omega
      have hkc : k < c.length := by rw [st.len]; exact hk
      have ea : atI (c.map D.int) ((k : Nat) : Int) = some (.int (cA c k)) := ix_int (by omega) (by omega)
      have eb : atI [D.int (at2 W k (cA c k)), D.int ((k : Nat) : Int)] 1 = some (.int ((k : Nat) : Int)) := rfl
      simp only [eb, dSeq, dNext, dRet, dRetN, dIfS, dAsg, dAsgG, dDrop, dPar2, dPar3, dAug, dAugS, dFor, dOp, dVar, dC, dTest, dChain, dAnd, dOr, dNot, dAndV, dOrV, dNotV, dIf, dTup, dLst, dNil, dCons, dStar, dCB, dCall, dSl, dNoPart, dPart, dBM, dRev, dNeg, dIsi, dListRg, dTupRg, dRg1, dRg2, dLc, dIt, dEnum, dZip2, dZip3, dRng1, dRng2, dYes, gN, gT, gsNil, gsCons, gSb, oI, oI0, oAdd, oMulA, oSub, oFdiv, oMod, oPow, oLt, oLe, oGt, oGe, oEq, oNe, oIsN, oNotN, oIsB, oNotB, oIx, oSl, oLen, oSum, oAll, oAny, oAbs, o1I, o2I, oMin2, oMax2, oMin, oMax, oMinL, oMaxL, oInt, oBool, oList, oTuple, oSorted, oIn, oAddI, oGet, oSet, oAppend, oExtend, oPop, oPopAt, D.isNon, newL, Sto.seq, Sto.list, Sto.lsts, Sto.itOf, Sto.trk, Sto.now, startD, wipeD, D.tyN, List.map_cons, List.map_nil, List.cons_append, List.nil_append, List.length_cons, List.length_nil, List.getElem?_cons_zero, List.getElem?_cons_succ, List.set_cons_zero, List.set_cons_succ, List.replicate, Nat.sub_self, Nat.reduceSub, Nat.reduceAdd, Nat.zero_add, kb_ii, kb_ib, kb_it, kb_is, kb_bi, kb_bb, kb_bt, kb_bs, kb_tt, kb_ti, kb_ts, kb_ss, kb_si, kb_st, kb_nt, kb_ni, kb_ns, kb_lt, kb_li, kb_ls, ex_some, hpp, ea]
      refine ⟨k, by rw [ixN_nn (by omega) (by rw [List.length_map]; omega), Int.toNat_natCast], hN _ _ trivial ⟨c.set k (cA c k + 1), _, rfl, ?_, ?_, by omega⟩⟩
      · rw [Sto.up_up, List.map_set]
      · have := stl_step g st (by omega) hk hmin2
        have e3 : m - ((xs.length + 1 : Nat) : Int) + 1 = m - (xs.length : Int) := by omega
        rw [e3] at this
        exact this
  · rintro ρ S' ⟨c, o, rfl, rfl, st, _⟩
    simp only [dSeq, dNext, dRet, dRetN, dIfS, dAsg, dAsgG, dDrop, dPar2, dPar3, dAug, dAugS, dFor, dOp, dVar, dC, dTest, dChain, dAnd, dOr, dNot, dAndV, dOrV, dNotV, dIf, dTup, dLst, dNil, dCons, dStar, dCB, dCall, dSl, dNoPart, dPart, dBM, dRev, dNeg, dIsi, dListRg, dTupRg, dRg1, dRg2, dLc, dIt, dEnum, dZip2, dZip3, dRng1, dRng2, dYes, gN, gT, gsNil, gsCons, gSb, oI, oI0, oAdd, oMulA, oSub, oFdiv, oMod, oPow, oLt, oLe, oGt, oGe, oEq, oNe, oIsN, oNotN, oIsB, oNotB, oIx, oSl, oLen, oSum, oAll, oAny, oAbs, o1I, o2I, oMin2, oMax2, oMin, oMax, oMinL, oMaxL, oInt, oBool, oList, oTuple, oSorted, oIn, oAddI, oGet, oSet, oAppend, oExtend, oPop, oPopAt, D.isNon, newL, Sto.seq, Sto.list, Sto.lsts, Sto.itOf, Sto.trk, Sto.now, startD, wipeD, D.tyN, List.map_cons, List.map_nil, List.cons_append, List.nil_append, List.length_cons, List.length_nil, List.getElem?_cons_zero, List.getElem?_cons_succ, List.set_cons_zero, List.set_cons_succ, List.replicate, Nat.sub_self, Nat.reduceSub, Nat.reduceAdd, Nat.zero_add, kb_ii, kb_ib, kb_it, kb_is, kb_bi, kb_bb, kb_bt, kb_bs, kb_tt, kb_ti, kb_ts, kb_ss, kb_si, kb_st, kb_nt, kb_ni, kb_ns, kb_lt, kb_li, kb_ls, ex_some]
    have e0 : m - (([] : List Nat).length : Int) = m := by simp
    rw [e0] at st
    exact FzQ.extL (Ext.up hp) Sto.up_same hp (q c st)
  · have e : m - ((List.range m.toNat).length : Int) = 0 := by simp; omega
    rw [e]
    exact stl_zero
def sp_settled : DSp := fun ds S Q => ∃ (W : List (List Int)) (L : Nat) (m : Int), ds = [eW W, .int m] ∧ GW W L ∧ 0 ≤ m ∧ m ≤ L ∧ ∀ c, Stl W L m c → Q (.tup [.str "counts", eI c]) S
theorem pure_settled : ∀ ds S Q, sp_settled ds S Q → t_settled sp_look_at_waits sp_told_settled (DeN Q) (startD N_settled ds) S := by
  rintro ds S Q ⟨W, L, m, rfl, g, h0, h1, q⟩
  simp only [t_settled, dSeq, dNext, dRet, dRetN, dIfS, dAsg, dAsgG, dDrop, dPar2, dPar3, dAug, dAugS, dFor, dOp, dVar, dC, dTest, dChain, dAnd, dOr, dNot, dAndV, dOrV, dNotV, dIf, dTup, dLst, dNil, dCons, dStar, dCB, dCall, dSl, dNoPart, dPart, dBM, dRev, dNeg, dIsi, dListRg, dTupRg, dRg1, dRg2, dLc, dIt, dEnum, dZip2, dZip3, dRng1, dRng2, dYes, gN, gT, gsNil, gsCons, gSb, oI, oI0, oAdd, oMulA, oSub, oFdiv, oMod, oPow, oLt, oLe, oGt, oGe, oEq, oNe, oIsN, oNotN, oIsB, oNotB, oIx, oSl, oLen, oSum, oAll, oAny, oAbs, o1I, o2I, oMin2, oMax2, oMin, oMax, oMinL, oMaxL, oInt, oBool, oList, oTuple, oSorted, oIn, oAddI, oGet, oSet, oAppend, oExtend, oPop, oPopAt, D.isNon, newL, Sto.seq, Sto.list, Sto.lsts, Sto.itOf, Sto.trk, Sto.now, startD, wipeD, D.tyN, List.map_cons, List.map_nil, List.cons_append, List.nil_append, List.length_cons, List.length_nil, List.getElem?_cons_zero, List.getElem?_cons_succ, List.set_cons_zero, List.set_cons_succ, List.replicate, Nat.sub_self, Nat.reduceSub, Nat.reduceAdd, Nat.zero_add, kb_ii, kb_ib, kb_it, kb_is, kb_bi, kb_bb, kb_bt, kb_bs, kb_tt, kb_ti, kb_ts, kb_ss, kb_si, kb_st, kb_nt, kb_ni, kb_ns, kb_lt, kb_li, kb_ls, ex_some]
  refine ⟨W, L, m, rfl, g, h0, h1, W, L, m, rfl, g, h0, h1, fun c st => ?_⟩
  simp only [dSeq, dNext, dRet, dRetN, dIfS, dAsg, dAsgG, dDrop, dPar2, dPar3, dAug, dAugS, dFor, dOp, dVar, dC, dTest, dChain, dAnd, dOr, dNot, dAndV, dOrV, dNotV, dIf, dTup, dLst, dNil, dCons, dStar, dCB, dCall, dSl, dNoPart, dPart, dBM, dRev, dNeg, dIsi, dListRg, dTupRg, dRg1, dRg2, dLc, dIt, dEnum, dZip2, dZip3, dRng1, dRng2, dYes, gN, gT, gsNil, gsCons, gSb, oI, oI0, oAdd, oMulA, oSub, oFdiv, oMod, oPow, oLt, oLe, oGt, oGe, oEq, oNe, oIsN, oNotN, oIsB, oNotB, oIx, oSl, oLen, oSum, oAll, oAny, oAbs, o1I, o2I, oMin2, oMax2, oMin, oMax, oMinL, oMaxL, oInt, oBool, oList, oTuple, oSorted, oIn, oAddI, oGet, oSet, oAppend, oExtend, oPop, oPopAt, D.isNon, newL, Sto.seq, Sto.list, Sto.lsts, Sto.itOf, Sto.trk, Sto.now, startD, wipeD, D.tyN, List.map_cons, List.map_nil, List.cons_append, List.nil_append, List.length_cons, List.length_nil, List.getElem?_cons_zero, List.getElem?_cons_succ, List.set_cons_zero, List.set_cons_succ, List.replicate, Nat.sub_self, Nat.reduceSub, Nat.reduceAdd, Nat.zero_add, kb_ii, kb_ib, kb_it, kb_is, kb_bi, kb_bb, kb_bt, kb_bs, kb_tt, kb_ti, kb_ts, kb_ss, kb_si, kb_st, kb_nt, kb_ni, kb_ns, kb_lt, kb_li, kb_ls, ex_some]
  exact ⟨by rw [sizeLine_eq]; omega, .here (q c st)⟩

/-! ### changes -/
structure Imp (W : List (List Int)) (L : Nat) (c : List Int) (i j : Nat) : Prop where
  hi : i < W.length
  hj : j < W.length
  ne : i ≠ j
  ci : 0 < cA c i
  cj : cA c j < L
  lt : at2 W j (cA c j) < at2 W i (cA c i - 1)
theorem drop_at {α : Type} {l : List α} {k : Nat} {x : α} {xs : List α} (h : x :: xs = l.drop k) : ∃ hk : k < l.length, x = l[k] ∧ xs = l.drop (k + 1) := by
  have hk : k < l.length := by
    have := congrArg List.length h
    rw [List.length_cons, List.length_drop] at this
    omega
  rw [List.drop_eq_getElem_cons hk] at h
  obtain ⟨h1, h2⟩ := List.cons.inj h
  exact ⟨hk, h1, h2⟩
theorem drop_nil {α : Type} {l : List α} {k : Nat} (h : [] = l.drop k) : l.length ≤ k := by
  have := congrArg List.length h
  rw [List.length_nil, List.length_drop] at this
  omega
def sp_told_change : DSp := fun ds S Q => ∃ (W : List (List Int)) (L : Nat) (m : Int) (c : List Int), ds = [eW W, eI c] ∧ GW W L ∧ Vec W L m c ∧ (∀ i j, Imp W L c i j → Q (.tup [.int (i : Nat), .int (j : Nat)]) S) ∧ ((∀ i j, ¬ Imp W L c i j) → Q .non S)
theorem pure_told_change : ∀ ds S Q, sp_told_change ds S Q → t_told_change (DeN Q) (startD N_told_change ds) S := by
  rintro ds S Q ⟨W, L, m, c, rfl, g, v, q1, q2⟩
  simp only [t_told_change, dSeq, dNext, dRet, dRetN, dIfS, dAsg, dAsgG, dDrop, dPar2, dPar3, dAug, dAugS, dFor, dOp, dVar, dC, dTest, dChain, dAnd, dOr, dNot, dAndV, dOrV, dNotV, dIf, dTup, dLst, dNil, dCons, dStar, dCB, dCall, dSl, dNoPart, dPart, dBM, dRev, dNeg, dIsi, dListRg, dTupRg, dRg1, dRg2, dLc, dIt, dEnum, dZip2, dZip3, dRng1, dRng2, dYes, gN, gT, gsNil, gsCons, gSb, oI, oI0, oAdd, oMulA, oSub, oFdiv, oMod, oPow, oLt, oLe, oGt, oGe, oEq, oNe, oIsN, oNotN, oIsB, oNotB, oIx, oSl, oLen, oSum, oAll, oAny, oAbs, o1I, o2I, oMin2, oMax2, oMin, oMax, oMinL, oMaxL, oInt, oBool, oList, oTuple, oSorted, oIn, oAddI, oGet, oSet, oAppend, oExtend, oPop, oPopAt, D.isNon, newL, Sto.seq, Sto.list, Sto.lsts, Sto.itOf, Sto.trk, Sto.now, startD, wipeD, D.tyN, List.map_cons, List.map_nil, List.cons_append, List.nil_append, List.length_cons, List.length_nil, List.getElem?_cons_zero, List.getElem?_cons_succ, List.set_cons_zero, List.set_cons_succ, List.replicate, Nat.sub_self, Nat.reduceSub, Nat.reduceAdd, Nat.zero_add, kb_ii, kb_ib, kb_it, kb_is, kb_bi, kb_bb, kb_bt, kb_bs, kb_tt, kb_ti, kb_ts, kb_ss, kb_si, kb_st, kb_nt, kb_ni, kb_ns, kb_lt, kb_li, kb_ls, ex_some, eW, eI, enum_map]
  refine ⟨trivial, ?_⟩
  have hcl := v.len
  have rowi : ∀ i, i < W.length → W.getD i [] ∈ W ∧ (W.getD i []).length = L := fun i hi => ⟨row_mem hi, g.len _ (row_mem hi)⟩
  refine loopD_invE (α := List Int × Nat) (fun p => D.tup [.int (p.2 : Nat), eI p.1]) (fun xs ρ S' => ∃ o2 o3 o4 o5, ρ = [some (D.tup (W.map eI)), some (D.tup (c.map D.int)), o2, o3, o4, o5] ∧ S = S' ∧ ∃ k, xs = (W.zipIdx 0).drop k ∧ ∀ i j, i < k → ¬ Imp W L c i j) ?_ ?_ _ _ _ ⟨none, none, none, none, rfl, rfl, 0, rfl, fun _ _ h => absurd h (by omega)⟩ trivial
  · rintro ⟨mine, i⟩ xs ρ S' ⟨o2, o3, o4, o5, rfl, rfl, k, hx, hno⟩ _ N hN
    obtain ⟨hk, e1, e2⟩ := drop_at hx
    rw [List.getElem_zipIdx] at e1
    simp only [Nat.zero_add, Prod.mk.injEq] at e1
    obtain ⟨em, rfl⟩ := e1
    have hiW : i < W.length := by simpa using hk
    have eg : W.getD i [] = mine := by rw [List.getD_eq_getElem?_getD, List.getElem?_eq_getElem hiW, em]; rfl
    have hic : i < c.length := by omega
    have ai : atI (c.map D.int) ((i : Nat) : Int) = some (.int (cA c i)) := ix_int (by omega) (by omega)
    have ni := v.nn _ (cA_mem hic)
    have li := v.le _ (cA_mem hic)
    have hml := (rowi i hiW).2
    rw [eg] at hml
    simp only [dSeq, dNext, dRet, dRetN, dIfS, dAsg, dAsgG, dDrop, dPar2, dPar3, dAug, dAugS, dFor, dOp, dVar, dC, dTest, dChain, dAnd, dOr, dNot, dAndV, dOrV, dNotV, dIf, dTup, dLst, dNil, dCons, dStar, dCB, dCall, dSl, dNoPart, dPart, dBM, dRev, dNeg, dIsi, dListRg, dTupRg, dRg1, dRg2, dLc, dIt, dEnum, dZip2, dZip3, dRng1, dRng2, dYes, gN, gT, gsNil, gsCons, gSb, oI, oI0, oAdd, oMulA, oSub, oFdiv, oMod, oPow, oLt, oLe, oGt, oGe, oEq, oNe, oIsN, oNotN, oIsB, oNotB, oIx, oSl, oLen, oSum, oAll, oAny, oAbs, o1I, o2I, oMin2, oMax2, oMin, oMax, oMinL, oMaxL, oInt, oBool, oList, oTuple, oSorted, oIn, oAddI, oGet, oSet, oAppend, oExtend, oPop, oPopAt, D.isNon, newL, Sto.seq, Sto.list, Sto.lsts, Sto.itOf, Sto.trk, Sto.now, startD, wipeD, D.tyN, List.map_cons, List.map_nil, List.cons_append, List.nil_append, List.length_cons, List.length_nil, List.getElem?_cons_zero, List.getElem?_cons_succ, List.set_cons_zero, List.set_cons_succ, List.replicate, Nat.sub_self, Nat.reduceSub, Nat.reduceAdd, Nat.zero_add, kb_ii, kb_ib, kb_it, kb_is, kb_bi, kb_bb, kb_bt, kb_bs, kb_tt, kb_ti, kb_ts, kb_ss, kb_si, kb_st, kb_nt, kb_ni, kb_ns, kb_lt, kb_li, kb_ls, ex_some, enum_map]
    refine ⟨trivial, trivial, ?_⟩
    refine loopD_invE (α := List Int × Nat) (fun p => D.tup [.int (p.2 : Nat), eI p.1]) (fun ys ρ S' => ∃ o4 o5, ρ = [some (D.tup (W.map eI)), some (D.tup (c.map D.int)), some (D.int ((i : Nat) : Int)), some (eI mine), o4, o5] ∧ S = S' ∧ ∃ l, ys = (W.zipIdx 0).drop l ∧ ∀ j, j < l → ¬ Imp W L c i j) ?_ ?_ _ _ _ ⟨_, _, rfl, rfl, 0, rfl, fun _ h => absurd h (by omega)⟩ trivial
    · rintro ⟨its, j⟩ ys ρ S' ⟨o4, o5, rfl, rfl, l, hy, hno2⟩ _ N2 hN2
      obtain ⟨hl, f1, f2⟩ := drop_at hy
      rw [List.getElem_zipIdx] at f1
      simp only [Nat.zero_add, Prod.mk.injEq] at f1
      obtain ⟨ei, rfl⟩ := f1
      have hjW : j < W.length := by simpa using hl
      have eg2 : W.getD j [] = its := by rw [List.getD_eq_getElem?_getD, List.getElem?_eq_getElem hjW, ei]; rfl
      have hjc : j < c.length := by omega
      have aj : atI (c.map D.int) ((j : Nat) : Int) = some (.int (cA c j)) := ix_int (by omega) (by omega)
      have nj := v.nn _ (cA_mem hjc)
      have lj := v.le _ (cA_mem hjc)
      have hil := (rowi j hjW).2
      rw [eg2] at hil
      have go : ¬ Imp W L c i j → N2 [some (D.tup (W.map eI)), some (D.tup (c.map D.int)), some (D.int ((i : Nat) : Int)), some (eI mine), some (D.int ((j : Nat) : Int)), some (eI its)] S := fun hnI =>
        hN2 _ _ trivial ⟨_, _, rfl, rfl, j + 1, f2, fun j' hj' => by
          by_cases q : j' = j
          · subst q; exact hnI
          · exact hno2 j' (by omega)⟩
      simp only [dSeq, dNext, dRet, dRetN, dIfS, dAsg, dAsgG, dDrop, dPar2, dPar3, dAug, dAugS, dFor, dOp, dVar, dC, dTest, dChain, dAnd, dOr, dNot, dAndV, dOrV, dNotV, dIf, dTup, dLst, dNil, dCons, dStar, dCB, dCall, dSl, dNoPart, dPart, dBM, dRev, dNeg, dIsi, dListRg, dTupRg, dRg1, dRg2, dLc, dIt, dEnum, dZip2, dZip3, dRng1, dRng2, dYes, gN, gT, gsNil, gsCons, gSb, oI, oI0, oAdd, oMulA, oSub, oFdiv, oMod, oPow, oLt, oLe, oGt, oGe, oEq, oNe, oIsN, oNotN, oIsB, oNotB, oIx, oSl, oLen, oSum, oAll, oAny, oAbs, o1I, o2I, oMin2, oMax2, oMin, oMax, oMinL, oMaxL, oInt, oBool, oList, oTuple, oSorted, oIn, oAddI, oGet, oSet, oAppend, oExtend, oPop, oPopAt, D.isNon, newL, Sto.seq, Sto.list, Sto.lsts, Sto.itOf, Sto.trk, Sto.now, startD, wipeD, D.tyN, List.map_cons, List.map_nil, List.cons_append, List.nil_append, List.length_cons, List.length_nil, List.getElem?_cons_zero, List.getElem?_cons_succ, List.set_cons_zero, List.set_cons_succ, List.replicate, Nat.sub_self, Nat.reduceSub, Nat.reduceAdd, Nat.zero_add, kb_ii, kb_ib, kb_it, kb_is, kb_bi, kb_bb, kb_bt, kb_bs, kb_tt, kb_ti, kb_ts, kb_ss, kb_si, kb_st, kb_nt, kb_ni, kb_ns, kb_lt, kb_li, kb_ls, ex_some]
      refine ⟨trivial, ⟨okn_int, okn_int⟩, ?_⟩
      rw [eqD_int]
      by_cases hij : i = j
      · subst hij
        simp only [decide_true, Bool.not_true]
        exact go fun z => z.ne rfl
      · have hij2 : ¬ ((i : Int) = (j : Int)) := by omega
        simp only [decide_eq_false hij2, Bool.not_false, ai, aj]
        by_cases hci : 0 < cA c i
        · simp only [decide_eq_true hci, eI, dSeq, dNext, dRet, dRetN, dIfS, dAsg, dAsgG, dDrop, dPar2, dPar3, dAug, dAugS, dFor, dOp, dVar, dC, dTest, dChain, dAnd, dOr, dNot, dAndV, dOrV, dNotV, dIf, dTup, dLst, dNil, dCons, dStar, dCB, dCall, dSl, dNoPart, dPart, dBM, dRev, dNeg, dIsi, dListRg, dTupRg, dRg1, dRg2, dLc, dIt, dEnum, dZip2, dZip3, dRng1, dRng2, dYes, gN, gT, gsNil, gsCons, gSb, oI, oI0, oAdd, oMulA, oSub, oFdiv, oMod, oPow, oLt, oLe, oGt, oGe, oEq, oNe, oIsN, oNotN, oIsB, oNotB, oIx, oSl, oLen, oSum, oAll, oAny, oAbs, o1I, o2I, oMin2, oMax2, oMin, oMax, oMinL, oMaxL, oInt, oBool, oList, oTuple, oSorted, oIn, oAddI, oGet, oSet, oAppend, oExtend, oPop, oPopAt, D.isNon, newL, Sto.seq, Sto.list, Sto.lsts, Sto.itOf, Sto.trk, Sto.now, startD, wipeD, D.tyN, List.map_cons, List.map_nil, List.cons_append, List.nil_append, List.length_cons, List.length_nil, List.getElem?_cons_zero, List.getElem?_cons_succ, List.set_cons_zero, List.set_cons_succ, List.replicate, Nat.sub_self, Nat.reduceSub, Nat.reduceAdd, Nat.zero_add, kb_ii, kb_ib, kb_it, kb_is, kb_bi, kb_bb, kb_bt, kb_bs, kb_tt, kb_ti, kb_ts, kb_ss, kb_si, kb_st, kb_nt, kb_ni, kb_ns, kb_lt, kb_li, kb_ls, ex_some]
          rw [List.length_map, hil]
          by_cases hcj : cA c j < (L : Int)
          · simp only [decide_eq_true hcj]
            have b1 : atI (its.map D.int) (cA c j) = some (.int (its.getD (cA c j).toNat 0)) := ix_int nj (by omega)
            have b2 : atI (mine.map D.int) (cA c i - 1) = some (.int (mine.getD (cA c i - 1).toNat 0)) := ix_int (by omega) (by omega)
            have d1 : at2 W j (cA c j) = its.getD (cA c j).toNat 0 := by unfold at2; rw [eg2]
            have d2 : at2 W i (cA c i - 1) = mine.getD (cA c i - 1).toNat 0 := by unfold at2; rw [eg]
            simp only [b1, b2, ← d1, ← d2]
            by_cases hlt : at2 W j (cA c j) < at2 W i (cA c i - 1)
            · simp only [decide_eq_true hlt]
              exact ⟨by rw [sizeLine_eq]; omega, .here (q1 i j ⟨hiW, hjW, hij, hci, hcj, hlt⟩)⟩
            · simp only [decide_eq_false hlt]
              exact go fun z => hlt z.lt
          · simp only [decide_eq_false hcj]
            exact go fun z => hcj z.cj
        · simp only [decide_eq_false hci]
          exact go fun z => hci z.ci
    · rintro ρ S' ⟨o4, o5, rfl, rfl, l, hy, hno2⟩
      have hl := drop_nil hy
      rw [List.length_zipIdx] at hl
      refine hN _ _ trivial ⟨_, _, _, _, rfl, rfl, i + 1, e2, fun i' j hi' => ?_⟩
      by_cases q : i' = i
      · subst q
        exact fun z => hno2 j (by have := z.hj; omega) z
      · exact hno i' j (by omega)
  · rintro ρ S' ⟨o2, o3, o4, o5, rfl, rfl, k, hx, hno⟩
    have hl := drop_nil hx
    rw [List.length_zipIdx] at hl
    simp only [dSeq, dNext, dRet, dRetN, dIfS, dAsg, dAsgG, dDrop, dPar2, dPar3, dAug, dAugS, dFor, dOp, dVar, dC, dTest, dChain, dAnd, dOr, dNot, dAndV, dOrV, dNotV, dIf, dTup, dLst, dNil, dCons, dStar, dCB, dCall, dSl, dNoPart, dPart, dBM, dRev, dNeg, dIsi, dListRg, dTupRg, dRg1, dRg2, dLc, dIt, dEnum, dZip2, dZip3, dRng1, dRng2, dYes, gN, gT, gsNil, gsCons, gSb, oI, oI0, oAdd, oMulA, oSub, oFdiv, oMod, oPow, oLt, oLe, oGt, oGe, oEq, oNe, oIsN, oNotN, oIsB, oNotB, oIx, oSl, oLen, oSum, oAll, oAny, oAbs, o1I, o2I, oMin2, oMax2, oMin, oMax, oMinL, oMaxL, oInt, oBool, oList, oTuple, oSorted, oIn, oAddI, oGet, oSet, oAppend, oExtend, oPop, oPopAt, D.isNon, newL, Sto.seq, Sto.list, Sto.lsts, Sto.itOf, Sto.trk, Sto.now, startD, wipeD, D.tyN, List.map_cons, List.map_nil, List.cons_append, List.nil_append, List.length_cons, List.length_nil, List.getElem?_cons_zero, List.getElem?_cons_succ, List.set_cons_zero, List.set_cons_succ, List.replicate, Nat.sub_self, Nat.reduceSub, Nat.reduceAdd, Nat.zero_add, kb_ii, kb_ib, kb_it, kb_is, kb_bi, kb_bb, kb_bt, kb_bs, kb_tt, kb_ti, kb_ts, kb_ss, kb_si, kb_st, kb_nt, kb_ni, kb_ns, kb_lt, kb_li, kb_ls, ex_some]
    exact .here (q2 fun i j z => hno i j (by have := z.hi; omega) z)
theorem stl_no {W : List (List Int)} {L : Nat} {m : Int} {c : List Int} (h : Stl W L m c) : ∀ i j, ¬ Imp W L c i j := fun i j z => by
  have := h.eq i j z.hi z.hj z.ne z.ci z.cj
  have := z.lt
  omega
/-- nobody would change -/
structure Calm (W : List (List Int)) (L : Nat) (m : Int) (c : List Int) : Prop extends Vec W L m c where
  no : ∀ i j, ¬ Imp W L c i j
theorem Stl.calm {W : List (List Int)} {L : Nat} {m : Int} {c : List Int} (h : Stl W L m c) : Calm W L m c := ⟨h.toVec, stl_no h⟩
def sp_would_change : DSp := fun ds S Q => ∃ (W : List (List Int)) (L : Nat) (m : Int) (c : List Int), ds = [eW W, eI c] ∧ GW W L ∧ Calm W L m c ∧ m ≤ L ∧ Q (.tup [.str "settled"]) S
theorem pure_would_change : ∀ ds S Q, sp_would_change ds S Q → t_would_change sp_look_at_counts sp_told_change (DeN Q) (startD N_would_change ds) S := by
  rintro ds S Q ⟨W, L, m, c, rfl, g, k, hm, q⟩
  simp only [t_would_change, dSeq, dNext, dRet, dRetN, dIfS, dAsg, dAsgG, dDrop, dPar2, dPar3, dAug, dAugS, dFor, dOp, dVar, dC, dTest, dChain, dAnd, dOr, dNot, dAndV, dOrV, dNotV, dIf, dTup, dLst, dNil, dCons, dStar, dCB, dCall, dSl, dNoPart, dPart, dBM, dRev, dNeg, dIsi, dListRg, dTupRg, dRg1, dRg2, dLc, dIt, dEnum, dZip2, dZip3, dRng1, dRng2, dYes, gN, gT, gsNil, gsCons, gSb, oI, oI0, oAdd, oMulA, oSub, oFdiv, oMod, oPow, oLt, oLe, oGt, oGe, oEq, oNe, oIsN, oNotN, oIsB, oNotB, oIx, oSl, oLen, oSum, oAll, oAny, oAbs, o1I, o2I, oMin2, oMax2, oMin, oMax, oMinL, oMaxL, oInt, oBool, oList, oTuple, oSorted, oIn, oAddI, oGet, oSet, oAppend, oExtend, oPop, oPopAt, D.isNon, newL, Sto.seq, Sto.list, Sto.lsts, Sto.itOf, Sto.trk, Sto.now, startD, wipeD, D.tyN, List.map_cons, List.map_nil, List.cons_append, List.nil_append, List.length_cons, List.length_nil, List.getElem?_cons_zero, List.getElem?_cons_succ, List.set_cons_zero, List.set_cons_succ, List.replicate, Nat.sub_self, Nat.reduceSub, Nat.reduceAdd, Nat.zero_add, kb_ii, kb_ib, kb_it, kb_is, kb_bi, kb_bb, kb_bt, kb_bs, kb_tt, kb_ti, kb_ts, kb_ss, kb_si, kb_st, kb_nt, kb_ni, kb_ns, kb_lt, kb_li, kb_ls, ex_some]
  refine ⟨W, L, m, c, rfl, g, k.toVec, hm, W, L, m, c, rfl, g, k.toVec, fun i j z => absurd z (k.no i j), fun _ => ?_⟩
  simp only [dSeq, dNext, dRet, dRetN, dIfS, dAsg, dAsgG, dDrop, dPar2, dPar3, dAug, dAugS, dFor, dOp, dVar, dC, dTest, dChain, dAnd, dOr, dNot, dAndV, dOrV, dNotV, dIf, dTup, dLst, dNil, dCons, dStar, dCB, dCall, dSl, dNoPart, dPart, dBM, dRev, dNeg, dIsi, dListRg, dTupRg, dRg1, dRg2, dLc, dIt, dEnum, dZip2, dZip3, dRng1, dRng2, dYes, gN, gT, gsNil, gsCons, gSb, oI, oI0, oAdd, oMulA, oSub, oFdiv, oMod, oPow, oLt, oLe, oGt, oGe, oEq, oNe, oIsN, oNotN, oIsB, oNotB, oIx, oSl, oLen, oSum, oAll, oAny, oAbs, o1I, o2I, oMin2, oMax2, oMin, oMax, oMinL, oMaxL, oInt, oBool, oList, oTuple, oSorted, oIn, oAddI, oGet, oSet, oAppend, oExtend, oPop, oPopAt, D.isNon, newL, Sto.seq, Sto.list, Sto.lsts, Sto.itOf, Sto.trk, Sto.now, startD, wipeD, D.tyN, List.map_cons, List.map_nil, List.cons_append, List.nil_append, List.length_cons, List.length_nil, List.getElem?_cons_zero, List.getElem?_cons_succ, List.set_cons_zero, List.set_cons_succ, List.replicate, Nat.sub_self, Nat.reduceSub, Nat.reduceAdd, Nat.zero_add, kb_ii, kb_ib, kb_it, kb_is, kb_bi, kb_bb, kb_bt, kb_bs, kb_tt, kb_ti, kb_ts, kb_ss, kb_si, kb_st, kb_nt, kb_ni, kb_ns, kb_lt, kb_li, kb_ls, ex_some]
  exact ⟨by rw [sizeLine_eq]; omega, .here q⟩
def sp_shows_settled : DSp := fun ds S Q => ∃ (W : List (List Int)) (L : Nat) (m : Int) (c : List Int), ds = [eW W, .int m, .tup [.str "counts", eI c]] ∧ GW W L ∧ 0 ≤ m ∧ Calm W L m c ∧ m ≤ L ∧ Q (.bl true) S
theorem pure_shows_settled : ∀ ds S Q, sp_shows_settled ds S Q → t_shows_settled sp_look_at_waits sp_is_told sp_are_counts sp_told_change (DeN Q) (startD N_shows_settled ds) S := by
  rintro ds S Q ⟨W, L, m, c, rfl, g, h0, k, hm, q⟩
  simp only [t_shows_settled, dSeq, dNext, dRet, dRetN, dIfS, dAsg, dAsgG, dDrop, dPar2, dPar3, dAug, dAugS, dFor, dOp, dVar, dC, dTest, dChain, dAnd, dOr, dNot, dAndV, dOrV, dNotV, dIf, dTup, dLst, dNil, dCons, dStar, dCB, dCall, dSl, dNoPart, dPart, dBM, dRev, dNeg, dIsi, dListRg, dTupRg, dRg1, dRg2, dLc, dIt, dEnum, dZip2, dZip3, dRng1, dRng2, dYes, gN, gT, gsNil, gsCons, gSb, oI, oI0, oAdd, oMulA, oSub, oFdiv, oMod, oPow, oLt, oLe, oGt, oGe, oEq, oNe, oIsN, oNotN, oIsB, oNotB, oIx, oSl, oLen, oSum, oAll, oAny, oAbs, o1I, o2I, oMin2, oMax2, oMin, oMax, oMinL, oMaxL, oInt, oBool, oList, oTuple, oSorted, oIn, oAddI, oGet, oSet, oAppend, oExtend, oPop, oPopAt, D.isNon, newL, Sto.seq, Sto.list, Sto.lsts, Sto.itOf, Sto.trk, Sto.now, startD, wipeD, D.tyN, List.map_cons, List.map_nil, List.cons_append, List.nil_append, List.length_cons, List.length_nil, List.getElem?_cons_zero, List.getElem?_cons_succ, List.set_cons_zero, List.set_cons_succ, List.replicate, Nat.sub_self, Nat.reduceSub, Nat.reduceAdd, Nat.zero_add, kb_ii, kb_ib, kb_it, kb_is, kb_bi, kb_bb, kb_bt, kb_bs, kb_tt, kb_ti, kb_ts, kb_ss, kb_si, kb_st, kb_nt, kb_ni, kb_ns, kb_lt, kb_li, kb_ls, ex_some]
  refine ⟨W, L, m, rfl, g, h0, hm, by rw [sizeLine_eq]; omega, "counts", eI c, rfl, ?_⟩
  have a0 : atI [D.str "counts", eI c] 0 = some (.str "counts") := rfl
  have a1 : atI [D.str "counts", eI c] 1 = some (eI c) := rfl
  simp only [Bool.not_true, a0, a1, dSeq, dNext, dRet, dRetN, dIfS, dAsg, dAsgG, dDrop, dPar2, dPar3, dAug, dAugS, dFor, dOp, dVar, dC, dTest, dChain, dAnd, dOr, dNot, dAndV, dOrV, dNotV, dIf, dTup, dLst, dNil, dCons, dStar, dCB, dCall, dSl, dNoPart, dPart, dBM, dRev, dNeg, dIsi, dListRg, dTupRg, dRg1, dRg2, dLc, dIt, dEnum, dZip2, dZip3, dRng1, dRng2, dYes, gN, gT, gsNil, gsCons, gSb, oI, oI0, oAdd, oMulA, oSub, oFdiv, oMod, oPow, oLt, oLe, oGt, oGe, oEq, oNe, oIsN, oNotN, oIsB, oNotB, oIx, oSl, oLen, oSum, oAll, oAny, oAbs, o1I, o2I, oMin2, oMax2, oMin, oMax, oMinL, oMaxL, oInt, oBool, oList, oTuple, oSorted, oIn, oAddI, oGet, oSet, oAppend, oExtend, oPop, oPopAt, D.isNon, newL, Sto.seq, Sto.list, Sto.lsts, Sto.itOf, Sto.trk, Sto.now, startD, wipeD, D.tyN, List.map_cons, List.map_nil, List.cons_append, List.nil_append, List.length_cons, List.length_nil, List.getElem?_cons_zero, List.getElem?_cons_succ, List.set_cons_zero, List.set_cons_succ, List.replicate, Nat.sub_self, Nat.reduceSub, Nat.reduceAdd, Nat.zero_add, kb_ii, kb_ib, kb_it, kb_is, kb_bi, kb_bb, kb_bt, kb_bs, kb_tt, kb_ti, kb_ts, kb_ss, kb_si, kb_st, kb_nt, kb_ni, kb_ns, kb_lt, kb_li, kb_ls, ex_some]
  refine ⟨⟨okn_str (by decide +kernel), okn_str (by decide +kernel)⟩, ?_⟩
  rw [eqD_refl (n := 8) (okn_str (by decide +kernel))]
  simp only [Bool.not_true]
  refine ⟨W, L, m, c, rfl, g, k.toVec, ?_⟩
  simp only [Bool.not_true, dSeq, dNext, dRet, dRetN, dIfS, dAsg, dAsgG, dDrop, dPar2, dPar3, dAug, dAugS, dFor, dOp, dVar, dC, dTest, dChain, dAnd, dOr, dNot, dAndV, dOrV, dNotV, dIf, dTup, dLst, dNil, dCons, dStar, dCB, dCall, dSl, dNoPart, dPart, dBM, dRev, dNeg, dIsi, dListRg, dTupRg, dRg1, dRg2, dLc, dIt, dEnum, dZip2, dZip3, dRng1, dRng2, dYes, gN, gT, gsNil, gsCons, gSb, oI, oI0, oAdd, oMulA, oSub, oFdiv, oMod, oPow, oLt, oLe, oGt, oGe, oEq, oNe, oIsN, oNotN, oIsB, oNotB, oIx, oSl, oLen, oSum, oAll, oAny, oAbs, o1I, o2I, oMin2, oMax2, oMin, oMax, oMinL, oMaxL, oInt, oBool, oList, oTuple, oSorted, oIn, oAddI, oGet, oSet, oAppend, oExtend, oPop, oPopAt, D.isNon, newL, Sto.seq, Sto.list, Sto.lsts, Sto.itOf, Sto.trk, Sto.now, startD, wipeD, D.tyN, List.map_cons, List.map_nil, List.cons_append, List.nil_append, List.length_cons, List.length_nil, List.getElem?_cons_zero, List.getElem?_cons_succ, List.set_cons_zero, List.set_cons_succ, List.replicate, Nat.sub_self, Nat.reduceSub, Nat.reduceAdd, Nat.zero_add, kb_ii, kb_ib, kb_it, kb_is, kb_bi, kb_bb, kb_bt, kb_bs, kb_tt, kb_ti, kb_ts, kb_ss, kb_si, kb_st, kb_nt, kb_ni, kb_ns, kb_lt, kb_li, kb_ls, ex_some]
  refine ⟨W, L, m, c, rfl, g, k.toVec, fun i j z => absurd z (k.no i j), fun _ => ?_⟩
  simp only [dSeq, dNext, dRet, dRetN, dIfS, dAsg, dAsgG, dDrop, dPar2, dPar3, dAug, dAugS, dFor, dOp, dVar, dC, dTest, dChain, dAnd, dOr, dNot, dAndV, dOrV, dNotV, dIf, dTup, dLst, dNil, dCons, dStar, dCB, dCall, dSl, dNoPart, dPart, dBM, dRev, dNeg, dIsi, dListRg, dTupRg, dRg1, dRg2, dLc, dIt, dEnum, dZip2, dZip3, dRng1, dRng2, dYes, gN, gT, gsNil, gsCons, gSb, oI, oI0, oAdd, oMulA, oSub, oFdiv, oMod, oPow, oLt, oLe, oGt, oGe, oEq, oNe, oIsN, oNotN, oIsB, oNotB, oIx, oSl, oLen, oSum, oAll, oAny, oAbs, o1I, o2I, oMin2, oMax2, oMin, oMax, oMinL, oMaxL, oInt, oBool, oList, oTuple, oSorted, oIn, oAddI, oGet, oSet, oAppend, oExtend, oPop, oPopAt, D.isNon, newL, Sto.seq, Sto.list, Sto.lsts, Sto.itOf, Sto.trk, Sto.now, startD, wipeD, D.tyN, List.map_cons, List.map_nil, List.cons_append, List.nil_append, List.length_cons, List.length_nil, List.getElem?_cons_zero, List.getElem?_cons_succ, List.set_cons_zero, List.set_cons_succ, List.replicate, Nat.sub_self, Nat.reduceSub, Nat.reduceAdd, Nat.zero_add, kb_ii, kb_ib, kb_it, kb_is, kb_bi, kb_bb, kb_bt, kb_bs, kb_tt, kb_ti, kb_ts, kb_ss, kb_si, kb_st, kb_nt, kb_ni, kb_ns, kb_lt, kb_li, kb_ls, ex_some]
  exact .here q

/-! ### totals -/
def costR (r : List Int) (c : Int) : Int := if 0 < c then c * r.getD (c - 1).toNat 0 else 0
def total (W : List (List Int)) (c : List Int) : Int := ((List.zip W c).map fun p => costR p.1 p.2).sum
theorem total_filter (W : List (List Int)) (c : List Int) : (((List.zip W c).filter fun p => decide (0 < p.2)).map fun p => p.2 * p.1.getD (p.2 - 1).toNat 0).sum = total W c := by
  unfold total
  induction List.zip W c with
  | nil => rfl
  | cons p l ih =>
    rw [List.map_cons, List.sum_cons, ← ih]
    by_cases h : 0 < p.2
    · rw [List.filter_cons_of_pos (by simpa using h), List.map_cons, List.sum_cons]
      unfold costR
      rw [if_pos h]
    · rw [List.filter_cons_of_neg (by simpa using h)]
      unfold costR
      rw [if_neg h]; omega
/-- W at most so great -/
def sp_told_total : DSp := fun ds S Q => ∃ (W : List (List Int)) (L : Nat) (m : Int) (c : List Int) (cs : D), ds = [eW W, cs] ∧ (cs = eI c ∨ cs = .lst (c.map .int)) ∧ GW W L ∧ Vec W L m c ∧ Q (.int (total W c)) S
theorem cost_mul {a b : Int} (h0 : 0 ≤ a) (h1 : a ≤ 60) (h2 : 0 ≤ b) (h3 : b ≤ 1000000) : CMul' a b := by
  refine ⟨?_, ?_⟩
  · exact Nat.lt_of_le_of_lt (show a.natAbs ≤ 60 by omega) (by decide +kernel)
  · exact Nat.lt_of_le_of_lt (show b.natAbs ≤ 1000000 by omega) (by decide +kernel)
theorem pure_told_total : ∀ ds S Q, sp_told_total ds S Q → t_told_total (DeN Q) (startD N_told_total ds) S := by
  rintro ds S Q ⟨W, L, m, c, cs, rfl, hcs, g, v, q⟩
  have key : ∀ (ok : Sto → Prop), (∀ S', ok S') → ∀ Dl, S Dl = none → ok (S.up Dl (.lst [])) ∧ lcD Dl ok [some (eW W), some cs, none, none] (gT 2 (gsCons (gN 2) (gsCons (gN 3) gsNil))) (dTest (dOp oGt (dVar 3) (dC (.int 0)))) (dOp (oMulA false) (dVar 3) (dOp oIx (dVar 2) (dOp oSub (dVar 3) (dC (.int 1))))) ((List.zip W c).map fun p => D.tup [eI p.1, .int p.2]) [] (S.up Dl (.lst [])) (endL false Dl fun x S1 => oSum [x] S1 (FzQ Q)) := by
    intro ok hok
    refine lc_mapK (List.zip W c) (fun p => D.tup [eI p.1, .int p.2]) (fun p => decide (0 < p.2)) (fun p => .int (p.2 * p.1.getD (p.2 - 1).toNat 0)) (fun S' _ => hok S') (small (by have := g.n8; simp; omega)) (fun p hp S' e N M h1 h2 => ?_) ?_
    · obtain ⟨r, k⟩ := p
      have hr := (List.of_mem_zip hp).1
      have hk := (List.of_mem_zip hp).2
      have k0 := v.nn _ hk
      have kL := v.le _ hk
      have hl := g.len _ hr
      simp only [dSeq, dNext, dRet, dRetN, dIfS, dAsg, dAsgG, dDrop, dPar2, dPar3, dAug, dAugS, dFor, dOp, dVar, dC, dTest, dChain, dAnd, dOr, dNot, dAndV, dOrV, dNotV, dIf, dTup, dLst, dNil, dCons, dStar, dCB, dCall, dSl, dNoPart, dPart, dBM, dRev, dNeg, dIsi, dListRg, dTupRg, dRg1, dRg2, dLc, dIt, dEnum, dZip2, dZip3, dRng1, dRng2, dYes, gN, gT, gsNil, gsCons, gSb, oI, oI0, oAdd, oMulA, oSub, oFdiv, oMod, oPow, oLt, oLe, oGt, oGe, oEq, oNe, oIsN, oNotN, oIsB, oNotB, oIx, oSl, oLen, oSum, oAll, oAny, oAbs, o1I, o2I, oMin2, oMax2, oMin, oMax, oMinL, oMaxL, oInt, oBool, oList, oTuple, oSorted, oIn, oAddI, oGet, oSet, oAppend, oExtend, oPop, oPopAt, D.isNon, newL, Sto.seq, Sto.list, Sto.lsts, Sto.itOf, Sto.trk, Sto.now, startD, wipeD, D.tyN, List.map_cons, List.map_nil, List.cons_append, List.nil_append, List.length_cons, List.length_nil, List.getElem?_cons_zero, List.getElem?_cons_succ, List.set_cons_zero, List.set_cons_succ, List.replicate, Nat.sub_self, Nat.reduceSub, Nat.reduceAdd, Nat.zero_add, kb_ii, kb_ib, kb_it, kb_is, kb_bi, kb_bb, kb_bt, kb_bs, kb_tt, kb_ti, kb_ts, kb_ss, kb_si, kb_st, kb_nt, kb_ni, kb_ns, kb_lt, kb_li, kb_ls, ex_some, eI]
      refine ⟨trivial, ?_⟩
      by_cases hp : 0 < k
      · simp only [decide_eq_true hp] at h1 ⊢
        have b : atI (r.map D.int) (k - 1) = some (.int (r.getD (k - 1).toNat 0)) := ix_int (by omega) (by omega)
        simp only [b]
        have hm : r.getD (k - 1).toNat 0 ∈ r := by
          have hlt : (k - 1).toNat < r.length := by omega
          rw [List.getD_eq_getElem?_getD, List.getElem?_eq_getElem hlt]; exact List.getElem_mem hlt
        have bd := g.bd _ hr _ hm
        have := g.l60
        exact ⟨cost_mul k0 (by omega) bd.1 bd.2, h1 trivial⟩
      · simp only [decide_eq_false hp] at h2 ⊢
        exact h2 trivial
    · simp only [dSeq, dNext, dRet, dRetN, dIfS, dAsg, dAsgG, dDrop, dPar2, dPar3, dAug, dAugS, dFor, dOp, dVar, dC, dTest, dChain, dAnd, dOr, dNot, dAndV, dOrV, dNotV, dIf, dTup, dLst, dNil, dCons, dStar, dCB, dCall, dSl, dNoPart, dPart, dBM, dRev, dNeg, dIsi, dListRg, dTupRg, dRg1, dRg2, dLc, dIt, dEnum, dZip2, dZip3, dRng1, dRng2, dYes, gN, gT, gsNil, gsCons, gSb, oI, oI0, oAdd, oMulA, oSub, oFdiv, oMod, oPow, oLt, oLe, oGt, oGe, oEq, oNe, oIsN, oNotN, oIsB, oNotB, oIx, oSl, oLen, oSum, oAll, oAny, oAbs, o1I, o2I, oMin2, oMax2, oMin, oMax, oMinL, oMaxL, oInt, oBool, oList, oTuple, oSorted, oIn, oAddI, oGet, oSet, oAppend, oExtend, oPop, oPopAt, D.isNon, newL, Sto.seq, Sto.list, Sto.lsts, Sto.itOf, Sto.trk, Sto.now, startD, wipeD, D.tyN, List.map_cons, List.map_nil, List.cons_append, List.nil_append, List.length_cons, List.length_nil, List.getElem?_cons_zero, List.getElem?_cons_succ, List.set_cons_zero, List.set_cons_succ, List.replicate, Nat.sub_self, Nat.reduceSub, Nat.reduceAdd, Nat.zero_add, kb_ii, kb_ib, kb_it, kb_is, kb_bi, kb_bb, kb_bt, kb_bs, kb_tt, kb_ti, kb_ts, kb_ss, kb_si, kb_st, kb_nt, kb_ni, kb_ns, kb_lt, kb_li, kb_ls, ex_some]
      refine ⟨((List.zip W c).filter fun p => decide (0 < p.2)).map fun p => p.2 * p.1.getD (p.2 - 1).toNat 0, by rw [List.map_map]; rfl, ?_⟩
      rw [total_filter]
      exact .here q
  rcases hcs with rfl | rfl
  · simp only [t_told_total, dSeq, dNext, dRet, dRetN, dIfS, dAsg, dAsgG, dDrop, dPar2, dPar3, dAug, dAugS, dFor, dOp, dVar, dC, dTest, dChain, dAnd, dOr, dNot, dAndV, dOrV, dNotV, dIf, dTup, dLst, dNil, dCons, dStar, dCB, dCall, dSl, dNoPart, dPart, dBM, dRev, dNeg, dIsi, dListRg, dTupRg, dRg1, dRg2, dLc, dIt, dEnum, dZip2, dZip3, dRng1, dRng2, dYes, gN, gT, gsNil, gsCons, gSb, oI, oI0, oAdd, oMulA, oSub, oFdiv, oMod, oPow, oLt, oLe, oGt, oGe, oEq, oNe, oIsN, oNotN, oIsB, oNotB, oIx, oSl, oLen, oSum, oAll, oAny, oAbs, o1I, o2I, oMin2, oMax2, oMin, oMax, oMinL, oMaxL, oInt, oBool, oList, oTuple, oSorted, oIn, oAddI, oGet, oSet, oAppend, oExtend, oPop, oPopAt, D.isNon, newL, Sto.seq, Sto.list, Sto.lsts, Sto.itOf, Sto.trk, Sto.now, startD, wipeD, D.tyN, List.map_cons, List.map_nil, List.cons_append, List.nil_append, List.length_cons, List.length_nil, List.getElem?_cons_zero, List.getElem?_cons_succ, List.set_cons_zero, List.set_cons_succ, List.replicate, Nat.sub_self, Nat.reduceSub, Nat.reduceAdd, Nat.zero_add, kb_ii, kb_ib, kb_it, kb_is, kb_bi, kb_bb, kb_bt, kb_bs, kb_tt, kb_ti, kb_ts, kb_ss, kb_si, kb_st, kb_nt, kb_ni, kb_ns, kb_lt, kb_li, kb_ls, ex_some, eW, eI]
    have := key (fun _ => True ∧ True) (fun _ => ⟨trivial, trivial⟩)
    simp only [dSeq, dNext, dRet, dRetN, dIfS, dAsg, dAsgG, dDrop, dPar2, dPar3, dAug, dAugS, dFor, dOp, dVar, dC, dTest, dChain, dAnd, dOr, dNot, dAndV, dOrV, dNotV, dIf, dTup, dLst, dNil, dCons, dStar, dCB, dCall, dSl, dNoPart, dPart, dBM, dRev, dNeg, dIsi, dListRg, dTupRg, dRg1, dRg2, dLc, dIt, dEnum, dZip2, dZip3, dRng1, dRng2, dYes, gN, gT, gsNil, gsCons, gSb, oI, oI0, oAdd, oMulA, oSub, oFdiv, oMod, oPow, oLt, oLe, oGt, oGe, oEq, oNe, oIsN, oNotN, oIsB, oNotB, oIx, oSl, oLen, oSum, oAll, oAny, oAbs, o1I, o2I, oMin2, oMax2, oMin, oMax, oMinL, oMaxL, oInt, oBool, oList, oTuple, oSorted, oIn, oAddI, oGet, oSet, oAppend, oExtend, oPop, oPopAt, D.isNon, newL, Sto.seq, Sto.list, Sto.lsts, Sto.itOf, Sto.trk, Sto.now, startD, wipeD, D.tyN, List.map_cons, List.map_nil, List.cons_append, List.nil_append, List.length_cons, List.length_nil, List.getElem?_cons_zero, List.getElem?_cons_succ, List.set_cons_zero, List.set_cons_succ, List.replicate, Nat.sub_self, Nat.reduceSub, Nat.reduceAdd, Nat.zero_add, kb_ii, kb_ib, kb_it, kb_is, kb_bi, kb_bb, kb_bt, kb_bs, kb_tt, kb_ti, kb_ts, kb_ss, kb_si, kb_st, kb_nt, kb_ni, kb_ns, kb_lt, kb_li, kb_ls, ex_some, eW, eI] at this
    rw [zip_map2]
    exact this
  · simp only [t_told_total, dSeq, dNext, dRet, dRetN, dIfS, dAsg, dAsgG, dDrop, dPar2, dPar3, dAug, dAugS, dFor, dOp, dVar, dC, dTest, dChain, dAnd, dOr, dNot, dAndV, dOrV, dNotV, dIf, dTup, dLst, dNil, dCons, dStar, dCB, dCall, dSl, dNoPart, dPart, dBM, dRev, dNeg, dIsi, dListRg, dTupRg, dRg1, dRg2, dLc, dIt, dEnum, dZip2, dZip3, dRng1, dRng2, dYes, gN, gT, gsNil, gsCons, gSb, oI, oI0, oAdd, oMulA, oSub, oFdiv, oMod, oPow, oLt, oLe, oGt, oGe, oEq, oNe, oIsN, oNotN, oIsB, oNotB, oIx, oSl, oLen, oSum, oAll, oAny, oAbs, o1I, o2I, oMin2, oMax2, oMin, oMax, oMinL, oMaxL, oInt, oBool, oList, oTuple, oSorted, oIn, oAddI, oGet, oSet, oAppend, oExtend, oPop, oPopAt, D.isNon, newL, Sto.seq, Sto.list, Sto.lsts, Sto.itOf, Sto.trk, Sto.now, startD, wipeD, D.tyN, List.map_cons, List.map_nil, List.cons_append, List.nil_append, List.length_cons, List.length_nil, List.getElem?_cons_zero, List.getElem?_cons_succ, List.set_cons_zero, List.set_cons_succ, List.replicate, Nat.sub_self, Nat.reduceSub, Nat.reduceAdd, Nat.zero_add, kb_ii, kb_ib, kb_it, kb_is, kb_bi, kb_bb, kb_bt, kb_bs, kb_tt, kb_ti, kb_ts, kb_ss, kb_si, kb_st, kb_nt, kb_ni, kb_ns, kb_lt, kb_li, kb_ls, ex_some, eW]
    have := key (fun _ => True ∧ True) (fun _ => ⟨trivial, trivial⟩)
    simp only [dSeq, dNext, dRet, dRetN, dIfS, dAsg, dAsgG, dDrop, dPar2, dPar3, dAug, dAugS, dFor, dOp, dVar, dC, dTest, dChain, dAnd, dOr, dNot, dAndV, dOrV, dNotV, dIf, dTup, dLst, dNil, dCons, dStar, dCB, dCall, dSl, dNoPart, dPart, dBM, dRev, dNeg, dIsi, dListRg, dTupRg, dRg1, dRg2, dLc, dIt, dEnum, dZip2, dZip3, dRng1, dRng2, dYes, gN, gT, gsNil, gsCons, gSb, oI, oI0, oAdd, oMulA, oSub, oFdiv, oMod, oPow, oLt, oLe, oGt, oGe, oEq, oNe, oIsN, oNotN, oIsB, oNotB, oIx, oSl, oLen, oSum, oAll, oAny, oAbs, o1I, o2I, oMin2, oMax2, oMin, oMax, oMinL, oMaxL, oInt, oBool, oList, oTuple, oSorted, oIn, oAddI, oGet, oSet, oAppend, oExtend, oPop, oPopAt, D.isNon, newL, Sto.seq, Sto.list, Sto.lsts, Sto.itOf, Sto.trk, Sto.now, startD, wipeD, D.tyN, List.map_cons, List.map_nil, List.cons_append, List.nil_append, List.length_cons, List.length_nil, List.getElem?_cons_zero, List.getElem?_cons_succ, List.set_cons_zero, List.set_cons_succ, List.replicate, Nat.sub_self, Nat.reduceSub, Nat.reduceAdd, Nat.zero_add, kb_ii, kb_ib, kb_it, kb_is, kb_bi, kb_bb, kb_bt, kb_bs, kb_tt, kb_ti, kb_ts, kb_ss, kb_si, kb_st, kb_nt, kb_ni, kb_ns, kb_lt, kb_li, kb_ls, ex_some, eW] at this
    rw [zip_map2]
    exact this
def sp_total_wait : DSp := fun ds S Q => ∃ (W : List (List Int)) (L : Nat) (m : Int) (c : List Int), ds = [eW W, eI c] ∧ GW W L ∧ Vec W L m c ∧ m ≤ L ∧ Q (.int (total W c)) S
theorem pure_total_wait : ∀ ds S Q, sp_total_wait ds S Q → t_total_wait sp_look_at_counts sp_told_total (DeN Q) (startD N_total_wait ds) S := by
  rintro ds S Q ⟨W, L, m, c, rfl, g, v, hm, q⟩
  simp only [t_total_wait, dSeq, dNext, dRet, dRetN, dIfS, dAsg, dAsgG, dDrop, dPar2, dPar3, dAug, dAugS, dFor, dOp, dVar, dC, dTest, dChain, dAnd, dOr, dNot, dAndV, dOrV, dNotV, dIf, dTup, dLst, dNil, dCons, dStar, dCB, dCall, dSl, dNoPart, dPart, dBM, dRev, dNeg, dIsi, dListRg, dTupRg, dRg1, dRg2, dLc, dIt, dEnum, dZip2, dZip3, dRng1, dRng2, dYes, gN, gT, gsNil, gsCons, gSb, oI, oI0, oAdd, oMulA, oSub, oFdiv, oMod, oPow, oLt, oLe, oGt, oGe, oEq, oNe, oIsN, oNotN, oIsB, oNotB, oIx, oSl, oLen, oSum, oAll, oAny, oAbs, o1I, o2I, oMin2, oMax2, oMin, oMax, oMinL, oMaxL, oInt, oBool, oList, oTuple, oSorted, oIn, oAddI, oGet, oSet, oAppend, oExtend, oPop, oPopAt, D.isNon, newL, Sto.seq, Sto.list, Sto.lsts, Sto.itOf, Sto.trk, Sto.now, startD, wipeD, D.tyN, List.map_cons, List.map_nil, List.cons_append, List.nil_append, List.length_cons, List.length_nil, List.getElem?_cons_zero, List.getElem?_cons_succ, List.set_cons_zero, List.set_cons_succ, List.replicate, Nat.sub_self, Nat.reduceSub, Nat.reduceAdd, Nat.zero_add, kb_ii, kb_ib, kb_it, kb_is, kb_bi, kb_bb, kb_bt, kb_bs, kb_tt, kb_ti, kb_ts, kb_ss, kb_si, kb_st, kb_nt, kb_ni, kb_ns, kb_lt, kb_li, kb_ls, ex_some]
  exact ⟨W, L, m, c, rfl, g, v, hm, W, L, m, c, _, rfl, .inl rfl, g, v, .here q⟩
end L46
namespace L46
open PySem PySem.Spec PySem.W PyProof.Rows L2 PL
/-! ### the least total -/
def eO : Option (Int × List Int) → D
  | none => .non
  | some (v, c) => .tup [.int v, eI c]
structure VP (k : Nat) (x : Int) (c : List Int) : Prop where
  len : c.length = k
  nn : ∀ y ∈ c, 0 ≤ y
  sum : c.sum = x
def Lst (W : List (List Int)) (k : Nat) (x : Int) : Option (Int × List Int) → Prop
  | none => ∀ c, ¬ VP k x c
  | some (v, c) => VP k x c ∧ total (W.take k) c = v ∧ ∀ c', VP k x c' → v ≤ total (W.take k) c'
structure DP (W : List (List Int)) (k n : Nat) (best : List (Option (Int × List Int))) : Prop where
  len : best.length = n + 1
  at_ : ∀ (x : Nat) o, best[x]? = some o → Lst W k (x : Int) o
theorem total_snoc {W : List (List Int)} {k : Nat} {c : List Int} {h : Int} (hk : k < W.length) (hc : c.length = k) : total (W.take (k + 1)) (c ++ [h]) = total (W.take k) c + costR (W.getD k []) h := by
  unfold total
  rw [List.take_succ, List.getElem?_eq_getElem hk, List.zip_append (by rw [List.length_take, hc]; omega), List.map_append, List.sum_append]
  have e : W.getD k [] = W[k] := by rw [List.getD_eq_getElem?_getD, List.getElem?_eq_getElem hk]; rfl
  rw [e]
  simp
theorem VP.snoc {k : Nat} {x h : Int} {c : List Int} (v : VP k (x - h) c) (h0 : 0 ≤ h) : VP (k + 1) x (c ++ [h]) := by
  refine ⟨by simp [v.len], fun y hy => ?_, ?_⟩
  · rcases List.mem_append.mp hy with q | q
    · exact v.nn y q
    · rw [List.mem_singleton.mp q]; exact h0
  · rw [List.sum_append, v.sum, List.sum_singleton]; omega
theorem VP.split {k : Nat} {x : Int} {c : List Int} (v : VP (k + 1) x c) : ∃ c' h, c = c' ++ [h] ∧ 0 ≤ h ∧ h ≤ x ∧ VP k (x - h) c' := by
  have hne : c ≠ [] := fun z => by have := v.len; rw [z] at this; simp at this
  refine ⟨c.dropLast, c.getLast hne, (List.dropLast_concat_getLast hne).symm, v.nn _ (List.getLast_mem hne), ?_, ?_⟩
  · have := (nn_sum v.nn).2 _ (List.getLast_mem hne)
    rw [v.sum] at this; exact this
  · refine ⟨by rw [List.length_dropLast, v.len]; rfl, fun y hy => v.nn y (by rw [List.dropLast_eq_take] at hy; exact List.mem_of_mem_take hy), ?_⟩
    have e := v.sum
    rw [← List.dropLast_concat_getLast hne, List.sum_append, List.sum_singleton] at e
    omega
/-- the choices for x comers at the first k + 1 rows, h of the last row's counts looked at -/
structure Some_ (W : List (List Int)) (k : Nat) (x : Int) (h : Nat) (sm : List (Int × List Int)) : Prop where
  in_ : ∀ p ∈ sm, VP (k + 1) x p.2 ∧ total (W.take (k + 1)) p.2 = p.1
  all : ∀ h' : Nat, h' < h → ∀ c, VP k (x - h') c → ∃ p ∈ sm, p.1 ≤ total (W.take k) c + costR (W.getD k []) h'
  few : sm.length ≤ h
theorem some_end {W : List (List Int)} {k : Nat} {x : Nat} {sm : List (Int × List Int)} (hk : k < W.length) (s : Some_ W k x (x + 1) sm) : (sm = [] → Lst W (k + 1) x none) ∧ ∀ p ∈ sm, (∀ q ∈ sm, p.1 ≤ q.1) → Lst W (k + 1) x (some p) := by
  refine ⟨fun e c v => ?_, fun p hp hmin => ⟨(s.in_ p hp).1, (s.in_ p hp).2, fun c v => ?_⟩⟩
  · obtain ⟨c', h, rfl, h0, h1, v'⟩ := v.split
    obtain ⟨q, hq, _⟩ := s.all h.toNat (by omega) c' (by rw [Int.toNat_of_nonneg h0]; exact v')
    rw [e] at hq; cases hq
  · obtain ⟨c', h, rfl, h0, h1, v'⟩ := v.split
    obtain ⟨q, hq, hle⟩ := s.all h.toNat (by omega) c' (by rw [Int.toNat_of_nonneg h0]; exact v')
    rw [Int.toNat_of_nonneg h0] at hle
    rw [total_snoc hk v'.len]
    have := hmin q hq
    omega
theorem dp_zero (W : List (List Int)) (n : Nat) : DP W 0 n (some (0, []) :: List.replicate n none) := by
  refine ⟨by simp, fun x o h => ?_⟩
  cases x with
  | zero =>
    simp at h; subst h
    refine ⟨⟨rfl, by simp, rfl⟩, rfl, fun c v => ?_⟩
    have : c = [] := List.eq_nil_of_length_eq_zero v.len
    subst this; exact Int.le_refl _
  | succ x =>
    rw [List.getElem?_cons_succ, List.getElem?_replicate] at h
    split at h
    · cases h
      intro c v
      have : c = [] := List.eq_nil_of_length_eq_zero v.len
      subst this
      have := v.sum
      simp at this
      omega
    · cases h
theorem akin_pc {sm : List (Int × List Int)} : akin (sm.map fun p => D.tup [.int p.1, eI p.2]) := by
  intro d hd e he
  obtain ⟨a, _, rfl⟩ := List.mem_map.mp hd
  obtain ⟨b, _, rfl⟩ := List.mem_map.mp he
  have := alikeAll_ints a.2 b.2
  simp only [D.py, D.pys, eI] at this ⊢
  refine ⟨?_, nofun⟩
  simp only [alike] at this
  simp only [alike, alikeAll, this, Bool.true_and]
theorem okn_pc {sm : List (Int × List Int)} {n : Nat} : (sm.map fun p => D.tup [.int p.1, eI p.2]).all (D.okn (n + 2)) = true := by
  rw [List.all_map, List.all_eq_true]; intro x _
  simp [okn_tup, okn_int, Function.comp, eI, okn_ints]
theorem eqD_nil {ds : List D} : eqD (.lst ds) (.lst []) = ds.isEmpty := by
  unfold eqD
  cases ds with
  | nil => simp [D.py, D.pys, PyData.eqv, PyData.eqvAll]
  | cons d ds => simp [D.py, D.pys, PyData.eqv, PyData.eqvAll]

def sp_told_least : DSp := fun ds S Q => ∃ (W : List (List Int)) (L : Nat) (m : Nat), ds = [eW W, .int (m : Nat)] ∧ GW W L ∧ m ≤ L ∧ ∀ o, Lst W W.length (m : Int) o → Q (eO o) S
theorem ix_eO {l : List (Option (Int × List Int))} {i : Int} (h0 : 0 ≤ i) (h1 : i < l.length) : ∃ o, l[i.toNat]? = some o ∧ atI (l.map eO) i = some (eO o) := by
  have h : i.toNat < l.length := by omega
  refine ⟨l[i.toNat], List.getElem?_eq_getElem h, ?_⟩
  rw [atI_map, atI_nn none h0 h1, List.getD_eq_getElem?_getD, List.getElem?_eq_getElem h]; rfl
theorem eO_non (o : Option (Int × List Int)) : (eO o).isNon = o.isNone := by
  cases o with
  | none => rfl
  | some p => rfl
theorem rep_none (n : Nat) : (List.replicate n [D.non]).flatten = (List.replicate n (none : Option (Int × List Int))).map eO := by
  induction n with
  | zero => rfl
  | succ n ih => rw [List.replicate_succ, List.replicate_succ, List.flatten_cons, List.map_cons, ih]; rfl
theorem pure_told_least : ∀ ds S Q, sp_told_least ds S Q → t_told_least (DeN Q) (startD N_told_least ds) S := by
  rintro ds S0 Q ⟨W, L, n, rfl, g, hnL, q⟩
  have hL := g.l60
  have hn8 := g.n8
  simp only [t_told_least, dSeq, dNext, dRet, dRetN, dIfS, dAsg, dAsgG, dDrop, dPar2, dPar3, dAug, dAugS, dFor, dOp, dVar, dC, dTest, dChain, dAnd, dOr, dNot, dAndV, dOrV, dNotV, dIf, dTup, dLst, dNil, dCons, dStar, dCB, dCall, dSl, dNoPart, dPart, dBM, dRev, dNeg, dIsi, dListRg, dTupRg, dRg1, dRg2, dLc, dIt, dEnum, dZip2, dZip3, dRng1, dRng2, dYes, gN, gT, gsNil, gsCons, gSb, oI, oI0, oAdd, oMulA, oSub, oFdiv, oMod, oPow, oLt, oLe, oGt, oGe, oEq, oNe, oIsN, oNotN, oIsB, oNotB, oIx, oSl, oLen, oSum, oAll, oAny, oAbs, o1I, o2I, oMin2, oMax2, oMin, oMax, oMinL, oMaxL, oInt, oBool, oList, oTuple, oSorted, oIn, oAddI, oGet, oSet, oAppend, oExtend, oPop, oPopAt, newL, startD, wipeD, D.tyN, List.map_cons, List.map_nil, List.cons_append, List.nil_append, List.length_cons, List.length_nil, List.getElem?_cons_zero, List.getElem?_cons_succ, List.set_cons_zero, List.set_cons_succ, List.replicate, Nat.sub_self, Nat.reduceSub, Nat.reduceAdd, Nat.zero_add, kb_ii, kb_ib, kb_it, kb_is, kb_bi, kb_bb, kb_bt, kb_bs, kb_tt, kb_ti, kb_ts, kb_ss, kb_si, kb_st, kb_nt, kb_ni, kb_ns, kb_lt, kb_li, kb_ls, ex_some, seq_tup, seq_lst, seq_fz, list_lst, lsts_lst, lsts_fz, itOf_tup, itOf_lst, itOf_fz, now_int, now_bl, now_non, now_str, now_tup, now_lst, isNon_non, isNon_int, isNon_tup, isNon_ref, isNon_lst, isNon_str, isNon_bl]
  have e1 : (List.replicate ((n : Int)).toNat [D.non]).flatten = (List.replicate n (none : Option (Int × List Int))).map eO := by
    rw [Int.toNat_natCast]; exact rep_none n
  simp only [eW, dSeq, dNext, dRet, dRetN, dIfS, dAsg, dAsgG, dDrop, dPar2, dPar3, dAug, dAugS, dFor, dOp, dVar, dC, dTest, dChain, dAnd, dOr, dNot, dAndV, dOrV, dNotV, dIf, dTup, dLst, dNil, dCons, dStar, dCB, dCall, dSl, dNoPart, dPart, dBM, dRev, dNeg, dIsi, dListRg, dTupRg, dRg1, dRg2, dLc, dIt, dEnum, dZip2, dZip3, dRng1, dRng2, dYes, gN, gT, gsNil, gsCons, gSb, oI, oI0, oAdd, oMulA, oSub, oFdiv, oMod, oPow, oLt, oLe, oGt, oGe, oEq, oNe, oIsN, oNotN, oIsB, oNotB, oIx, oSl, oLen, oSum, oAll, oAny, oAbs, o1I, o2I, oMin2, oMax2, oMin, oMax, oMinL, oMaxL, oInt, oBool, oList, oTuple, oSorted, oIn, oAddI, oGet, oSet, oAppend, oExtend, oPop, oPopAt, newL, startD, wipeD, D.tyN, List.map_cons, List.map_nil, List.cons_append, List.nil_append, List.length_cons, List.length_nil, List.getElem?_cons_zero, List.getElem?_cons_succ, List.set_cons_zero, List.set_cons_succ, List.replicate, Nat.sub_self, Nat.reduceSub, Nat.reduceAdd, Nat.zero_add, kb_ii, kb_ib, kb_it, kb_is, kb_bi, kb_bb, kb_bt, kb_bs, kb_tt, kb_ti, kb_ts, kb_ss, kb_si, kb_st, kb_nt, kb_ni, kb_ns, kb_lt, kb_li, kb_ls, ex_some, seq_tup, seq_lst, seq_fz, list_lst, lsts_lst, lsts_fz, itOf_tup, itOf_lst, itOf_fz, now_int, now_bl, now_non, now_str, now_tup, now_lst, isNon_non, isNon_int, isNon_tup, isNon_ref, isNon_lst, isNon_str, isNon_bl]
  have hz : (60 : Nat) ≤ 1000000 := by decide
  refine ⟨Nat.zero_le _, small (by omega), small (by omega), small (by omega), ⟨by omega, by omega, small (by rw [Int.toNat_natCast]; omega)⟩, ?_, trivial, ?_⟩
  · rw [e1, List.length_map, List.length_replicate]; exact small (by omega)
  rw [e1]
  refine loopD_invE (α := List Int) eI (fun xs ρ S => ∃ b o3 o4 o5 o6 o7 o8 o9 best k, ρ = [some (D.tup (W.map eI)), some (D.int (n : Nat)), some b, o3, o4, o5, o6, o7, o8, o9] ∧ Ext S0 S ∧ S.seq b = some (best.map eO) ∧ xs = W.drop k ∧ k ≤ W.length ∧ DP W k n best) ?_ ?_ _ _ _
    ⟨_, none, none, none, none, none, none, none, some (0, []) :: List.replicate n none, 0, rfl, Ext.refl, rfl, rfl, Nat.zero_le _, dp_zero W n⟩ trivial
  · rintro row xs ρ S ⟨b, o3, o4, o5, o6, o7, o8, o9, best, k, rfl, hE, hb, hx, hkW, dp⟩ _ N hN
    obtain ⟨hk, er, ex⟩ := drop_at hx
    have hrm : row ∈ W := by rw [er]; exact List.getElem_mem hk
    have hrl := g.len _ hrm
    have hrg : W.getD k [] = row := by rw [List.getD_eq_getElem?_getD, List.getElem?_eq_getElem hk, er]; rfl
    simp only [dSeq, dNext, dRet, dRetN, dIfS, dAsg, dAsgG, dDrop, dPar2, dPar3, dAug, dAugS, dFor, dOp, dVar, dC, dTest, dChain, dAnd, dOr, dNot, dAndV, dOrV, dNotV, dIf, dTup, dLst, dNil, dCons, dStar, dCB, dCall, dSl, dNoPart, dPart, dBM, dRev, dNeg, dIsi, dListRg, dTupRg, dRg1, dRg2, dLc, dIt, dEnum, dZip2, dZip3, dRng1, dRng2, dYes, gN, gT, gsNil, gsCons, gSb, oI, oI0, oAdd, oMulA, oSub, oFdiv, oMod, oPow, oLt, oLe, oGt, oGe, oEq, oNe, oIsN, oNotN, oIsB, oNotB, oIx, oSl, oLen, oSum, oAll, oAny, oAbs, o1I, o2I, oMin2, oMax2, oMin, oMax, oMinL, oMaxL, oInt, oBool, oList, oTuple, oSorted, oIn, oAddI, oGet, oSet, oAppend, oExtend, oPop, oPopAt, newL, startD, wipeD, D.tyN, List.map_cons, List.map_nil, List.cons_append, List.nil_append, List.length_cons, List.length_nil, List.getElem?_cons_zero, List.getElem?_cons_succ, List.set_cons_zero, List.set_cons_succ, List.replicate, Nat.sub_self, Nat.reduceSub, Nat.reduceAdd, Nat.zero_add, kb_ii, kb_ib, kb_it, kb_is, kb_bi, kb_bb, kb_bt, kb_bs, kb_tt, kb_ti, kb_ts, kb_ss, kb_si, kb_st, kb_nt, kb_ni, kb_ns, kb_lt, kb_li, kb_ls, ex_some, seq_tup, seq_lst, seq_fz, list_lst, lsts_lst, lsts_fz, itOf_tup, itOf_lst, itOf_fz, now_int, now_bl, now_non, now_str, now_tup, now_lst, isNon_non, isNon_int, isNon_tup, isNon_ref, isNon_lst, isNon_str, isNon_bl]
    refine ⟨Nat.zero_le _, fun p4 hp4 => ⟨by omega, trivial, ?_⟩⟩
    have hp4' : S0 p4 = none := hE.none hp4
    have en : ((n : Int) + 1).toNat = n + 1 := by omega
    rw [en]
    refine loopD_invE (α := Nat) (fun i => .int (0 + (i : Int))) (fun ys ρ S2 => ∃ o5 o6 o7 o8 o9 later x, ρ = [some (D.tup (W.map eI)), some (D.int (n : Nat)), some b, some (eI row), some (.ref p4), o5, o6, o7, o8, o9] ∧ Ext S S2 ∧ S2 p4 = some (.lst (later.map eO)) ∧ ys = (List.range (n + 1)).drop x ∧ (later.length = x ∧ x ≤ n + 1) ∧ ∀ (y : Nat) o, later[y]? = some o → Lst W (k + 1) (y : Int) o) ?_ ?_ _ _ _
      ⟨_, _, _, _, _, [], 0, rfl, Ext.up hp4, Sto.up_same, rfl, ⟨rfl, Nat.zero_le _⟩, by simp⟩ trivial
    · rintro y ys ρ S2 ⟨o5, o6, o7, o8, o9, later, x, rfl, hE2, hl4, hy, ⟨hlx, hxx⟩, hlat⟩ _ N2 hN2
      obtain ⟨hxn, ey, ey2⟩ := drop_at hy
      rw [List.getElem_range] at ey
      subst ey
      rw [List.length_range] at hxn
      simp only [dSeq, dNext, dRet, dRetN, dIfS, dAsg, dAsgG, dDrop, dPar2, dPar3, dAug, dAugS, dFor, dOp, dVar, dC, dTest, dChain, dAnd, dOr, dNot, dAndV, dOrV, dNotV, dIf, dTup, dLst, dNil, dCons, dStar, dCB, dCall, dSl, dNoPart, dPart, dBM, dRev, dNeg, dIsi, dListRg, dTupRg, dRg1, dRg2, dLc, dIt, dEnum, dZip2, dZip3, dRng1, dRng2, dYes, gN, gT, gsNil, gsCons, gSb, oI, oI0, oAdd, oMulA, oSub, oFdiv, oMod, oPow, oLt, oLe, oGt, oGe, oEq, oNe, oIsN, oNotN, oIsB, oNotB, oIx, oSl, oLen, oSum, oAll, oAny, oAbs, o1I, o2I, oMin2, oMax2, oMin, oMax, oMinL, oMaxL, oInt, oBool, oList, oTuple, oSorted, oIn, oAddI, oGet, oSet, oAppend, oExtend, oPop, oPopAt, newL, startD, wipeD, D.tyN, List.map_cons, List.map_nil, List.cons_append, List.nil_append, List.length_cons, List.length_nil, List.getElem?_cons_zero, List.getElem?_cons_succ, List.set_cons_zero, List.set_cons_succ, List.replicate, Nat.sub_self, Nat.reduceSub, Nat.reduceAdd, Nat.zero_add, kb_ii, kb_ib, kb_it, kb_is, kb_bi, kb_bb, kb_bt, kb_bs, kb_tt, kb_ti, kb_ts, kb_ss, kb_si, kb_st, kb_nt, kb_ni, kb_ns, kb_lt, kb_li, kb_ls, ex_some, seq_tup, seq_lst, seq_fz, list_lst, lsts_lst, lsts_fz, itOf_tup, itOf_lst, itOf_fz, now_int, now_bl, now_non, now_str, now_tup, now_lst, isNon_non, isNon_int, isNon_tup, isNon_ref, isNon_lst, isNon_str, isNon_bl]
      refine ⟨Nat.zero_le _, fun p6 hp6 => ⟨by omega, trivial, ?_⟩⟩
      have hp6' : S p6 = none := hE2.none hp6
      have h64 : p4 ≠ p6 := ne_of_in hl4 hp6
      have en2 : (0 + (y : Int) + 1).toNat = y + 1 := by omega
      rw [en2]
      refine loopD_invE (α := Nat) (fun i => .int (0 + (i : Int))) (fun zs ρ S3 => ∃ o7 o8 o9 sm h, ρ = [some (D.tup (W.map eI)), some (D.int (n : Nat)), some b, some (eI row), some (.ref p4), some (.int (0 + (y : Int))), some (.ref p6), o7, o8, o9] ∧ Ext S S3 ∧ S3 p4 = some (.lst (later.map eO)) ∧ S3 p6 = some (.lst (sm.map fun p => D.tup [.int p.1, eI p.2])) ∧ zs = (List.range (y + 1)).drop h ∧ h ≤ y + 1 ∧ Some_ W k (y : Int) h sm) ?_ ?_ _ _ _
        ⟨_, _, _, [], 0, rfl, hE2.trans (Ext.up hp6), by rw [Sto.up_ne h64]; exact hl4, Sto.up_same, rfl, Nat.zero_le _, ⟨by simp, fun h' hh => absurd hh (by omega), Nat.le_refl _⟩⟩ trivial
      · rintro z zs ρ S3 ⟨o7, o8, o9, sm, h, rfl, hE3, hl4', hs6, hz', hhy, hsm⟩ _ N3 hN3
        obtain ⟨hhn, ez, ez2⟩ := drop_at hz'
        rw [List.getElem_range] at ez
        subst ez
        rw [List.length_range] at hhn
        have hb3 := seq_ext hE3 hb
        have ei : (0 + (y : Int) - (0 + (z : Int))) = ((y - z : Nat) : Int) := by omega
        obtain ⟨o, ho, hao⟩ := ix_eO (l := best) (i := ((y - z : Nat) : Int)) (by omega) (by rw [dp.len]; omega)
        rw [Int.toNat_natCast] at ho
        have hL1 := dp.at_ _ _ ho
        have sub : ((y - z : Nat) : Int) = (y : Int) - (z : Int) := by omega
        simp only [dSeq, dNext, dRet, dRetN, dIfS, dAsg, dAsgG, dDrop, dPar2, dPar3, dAug, dAugS, dFor, dOp, dVar, dC, dTest, dChain, dAnd, dOr, dNot, dAndV, dOrV, dNotV, dIf, dTup, dLst, dNil, dCons, dStar, dCB, dCall, dSl, dNoPart, dPart, dBM, dRev, dNeg, dIsi, dListRg, dTupRg, dRg1, dRg2, dLc, dIt, dEnum, dZip2, dZip3, dRng1, dRng2, dYes, gN, gT, gsNil, gsCons, gSb, oI, oI0, oAdd, oMulA, oSub, oFdiv, oMod, oPow, oLt, oLe, oGt, oGe, oEq, oNe, oIsN, oNotN, oIsB, oNotB, oIx, oSl, oLen, oSum, oAll, oAny, oAbs, o1I, o2I, oMin2, oMax2, oMin, oMax, oMinL, oMaxL, oInt, oBool, oList, oTuple, oSorted, oIn, oAddI, oGet, oSet, oAppend, oExtend, oPop, oPopAt, newL, startD, wipeD, D.tyN, List.map_cons, List.map_nil, List.cons_append, List.nil_append, List.length_cons, List.length_nil, List.getElem?_cons_zero, List.getElem?_cons_succ, List.set_cons_zero, List.set_cons_succ, List.replicate, Nat.sub_self, Nat.reduceSub, Nat.reduceAdd, Nat.zero_add, kb_ii, kb_ib, kb_it, kb_is, kb_bi, kb_bb, kb_bt, kb_bs, kb_tt, kb_ti, kb_ts, kb_ss, kb_si, kb_st, kb_nt, kb_ni, kb_ns, kb_lt, kb_li, kb_ls, ex_some, seq_tup, seq_lst, seq_fz, list_lst, lsts_lst, lsts_fz, itOf_tup, itOf_lst, itOf_fz, now_int, now_bl, now_non, now_str, now_tup, now_lst, isNon_non, isNon_int, isNon_tup, isNon_ref, isNon_lst, isNon_str, isNon_bl, hb3, ei, hao, eO_non]
        cases o with
        | none =>
          simp only [Option.isNone_none, Bool.not_true]
          refine hN3 _ _ trivial ⟨_, _, _, sm, z + 1, rfl, hE3, hl4', hs6, ez2, hhn, ⟨hsm.in_, fun h' hh c v => ?_, by have := hsm.few; omega⟩⟩
          by_cases q : h' = z
          · subst q
            rw [← sub] at v
            exact absurd v (hL1 c)
          · exact hsm.all h' (by omega) c v
        | some vc =>
          obtain ⟨v, c⟩ := vc
          obtain ⟨hv, ht, hm⟩ := hL1
          have hcl := hv.len
          have fin : ∀ w, w = costR row (z : Int) → N3 [some (D.tup (W.map eI)), some (D.int (n : Nat)), some b, some (eI row), some (.ref p4), some (.int (0 + (y : Int))), some (.ref p6), some (.int (0 + (z : Int))), some (.int v), some (eI c)] (S3.up p6 (.lst ((sm ++ [(v + w, c ++ [(z : Int)])]).map fun p => D.tup [.int p.1, eI p.2]))) := by
            rintro w rfl
            refine hN3 _ _ trivial ⟨_, _, _, sm ++ [(v + costR row (z : Int), c ++ [(z : Int)])], z + 1, rfl, hE3.set hp6', by rw [Sto.up_ne h64]; exact hl4', Sto.up_same, ez2, hhn, ⟨fun p hp => ?_, fun h' hh c' v' => ?_, by have := hsm.few; simp; omega⟩⟩
            · rcases List.mem_append.mp hp with q | q
              · exact hsm.in_ p q
              · rw [List.mem_singleton.mp q]
                refine ⟨VP.snoc (by rw [← sub]; exact hv) (by omega), ?_⟩
                show total _ (c ++ [(z : Int)]) = v + costR row (z : Int)
                rw [total_snoc hk hcl, ht, hrg]
            · by_cases q : h' = z
              · subst q
                rw [← sub] at v'
                refine ⟨_, List.mem_append_right _ (List.mem_singleton.mpr rfl), ?_⟩
                have := hm c' v'
                rw [hrg]
                show v + costR row (h' : Int) ≤ _
                omega
              · obtain ⟨p, hp, hle⟩ := hsm.all h' (by omega) c' v'
                exact ⟨p, List.mem_append_left _ hp, hle⟩
          have hfew := hsm.few
          have lq : S3.list (.ref p6) = some (sm.map fun p => D.tup [.int p.1, eI p.2]) := list_ref hs6
          have tq : S3.trk (.ref p6) = some (p6, sm.map fun p => D.tup [.int p.1, eI p.2]) := trk_ref hs6
          have emap : ∀ w, (sm ++ [(v + w, c ++ [(z : Int)])]).map (fun p => D.tup [.int p.1, eI p.2]) = (sm.map fun p => D.tup [.int p.1, eI p.2]) ++ [D.tup [.int (v + w), D.tup ((c.map D.int) ++ [.int (0 + (z : Int))])]] := fun w => by
            rw [List.map_append]
            simp [eI]
          simp only [Option.isNone_some, Bool.not_false, eO, dSeq, dNext, dRet, dRetN, dIfS, dAsg, dAsgG, dDrop, dPar2, dPar3, dAug, dAugS, dFor, dOp, dVar, dC, dTest, dChain, dAnd, dOr, dNot, dAndV, dOrV, dNotV, dIf, dTup, dLst, dNil, dCons, dStar, dCB, dCall, dSl, dNoPart, dPart, dBM, dRev, dNeg, dIsi, dListRg, dTupRg, dRg1, dRg2, dLc, dIt, dEnum, dZip2, dZip3, dRng1, dRng2, dYes, gN, gT, gsNil, gsCons, gSb, oI, oI0, oAdd, oMulA, oSub, oFdiv, oMod, oPow, oLt, oLe, oGt, oGe, oEq, oNe, oIsN, oNotN, oIsB, oNotB, oIx, oSl, oLen, oSum, oAll, oAny, oAbs, o1I, o2I, oMin2, oMax2, oMin, oMax, oMinL, oMaxL, oInt, oBool, oList, oTuple, oSorted, oIn, oAddI, oGet, oSet, oAppend, oExtend, oPop, oPopAt, newL, startD, wipeD, D.tyN, List.map_cons, List.map_nil, List.cons_append, List.nil_append, List.length_cons, List.length_nil, List.getElem?_cons_zero, List.getElem?_cons_succ, List.set_cons_zero, List.set_cons_succ, List.replicate, Nat.sub_self, Nat.reduceSub, Nat.reduceAdd, Nat.zero_add, kb_ii, kb_ib, kb_it, kb_is, kb_bi, kb_bb, kb_bt, kb_bs, kb_tt, kb_ti, kb_ts, kb_ss, kb_si, kb_st, kb_nt, kb_ni, kb_ns, kb_lt, kb_li, kb_ls, ex_some, seq_tup, seq_lst, seq_fz, list_lst, lsts_lst, lsts_fz, itOf_tup, itOf_lst, itOf_fz, now_int, now_bl, now_non, now_str, now_tup, now_lst, isNon_non, isNon_int, isNon_tup, isNon_ref, isNon_lst, isNon_str, isNon_bl, lq, tq, eI]
          have hsz : ((sm.map fun p => D.tup [.int p.1, D.tup (p.2.map D.int)])).length < sizeLine := by rw [List.length_map, sizeLine_eq]; omega
          have hcz : (c.map D.int ++ [D.int (0 + (z : Int))]).length ≤ sizeLine := small (by simp; omega)
          refine ⟨trivial, ⟨_, rfl⟩, ?_⟩
          by_cases hz0 : (0 : Int) < 0 + (z : Int)
          · have hb1 : atI (row.map D.int) (0 + (z : Int) - 1) = some (.int (row.getD (0 + (z : Int) - 1).toNat 0)) := ix_int (by omega) (by omega)
            have hmem : row.getD (0 + (z : Int) - 1).toNat 0 ∈ row := by
              have hlt : (0 + (z : Int) - 1).toNat < row.length := by omega
              rw [List.getD_eq_getElem?_getD, List.getElem?_eq_getElem hlt]; exact List.getElem_mem hlt
            have bd := g.bd _ hrm _ hmem
            have := fin ((0 + (z : Int)) * row.getD (0 + (z : Int) - 1).toNat 0) (by unfold costR; rw [if_pos (by omega), Int.zero_add])
            rw [emap] at this
            simp only [decide_eq_true hz0, hb1]
            exact ⟨cost_mul (by omega) (by omega) bd.1 bd.2, hcz, small (by simp), hsz, this⟩
          · have := fin 0 (by unfold costR; rw [if_neg (by omega)])
            rw [emap] at this
            simp only [decide_eq_false hz0]
            exact ⟨hcz, small (by simp), hsz, this⟩
      · rintro ρ S3 ⟨o7, o8, o9, sm, h, rfl, hE3, hl4', hs6, hz', hhy, hsm⟩
        have hh := drop_nil hz'
        rw [List.length_range] at hh
        have hsm' : Some_ W k (y : Int) (y + 1) sm := by
          have e : h = y + 1 := by omega
          rw [e] at hsm
          exact hsm
        obtain ⟨hnil, hpick⟩ := some_end hk hsm'
        have lq : S3.list (.ref p4) = some (later.map eO) := list_ref hl4'
        have tq : S3.trk (.ref p4) = some (p4, later.map eO) := trk_ref hl4'
        have nq : S3.now (.ref p6) = .lst (sm.map fun p => D.tup [.int p.1, eI p.2]) := now_ref hs6
        have sq : S3.seq (.ref p6) = some (sm.map fun p => D.tup [.int p.1, eI p.2]) := seq_ref hs6
        have fin : ∀ o, Lst W (k + 1) (y : Int) o → (later.map eO).length < sizeLine ∧ N2 [some (D.tup (W.map eI)), some (D.int (n : Nat)), some b, some (eI row), some (.ref p4), some (.int (0 + (y : Int))), some (.ref p6), o7, o8, o9] (S3.up p4 (.lst (later.map eO ++ [eO o]))) := by
          intro o ho
          refine ⟨by rw [List.length_map, sizeLine_eq]; omega, hN2 _ _ trivial ⟨_, _, _, _, _, later ++ [o], y + 1, rfl, hE3.set hp4, by rw [Sto.up_same, List.map_append]; rfl, ey2, by simp; omega, fun y' o' ho' => ?_⟩⟩
          by_cases q : y' < later.length
          · rw [List.getElem?_append_left q] at ho'
            exact hlat y' o' ho'
          · rw [List.getElem?_append_right (by omega)] at ho'
            have : y' = y := by
              by_cases q2 : y' - later.length = 0
              · omega
              · rw [List.getElem?_eq_none (by simp; omega)] at ho'; cases ho'
            subst this
            rw [hlx, Nat.sub_self] at ho'
            cases ho'
            exact ho
        simp only [dSeq, dNext, dRet, dRetN, dIfS, dAsg, dAsgG, dDrop, dPar2, dPar3, dAug, dAugS, dFor, dOp, dVar, dC, dTest, dChain, dAnd, dOr, dNot, dAndV, dOrV, dNotV, dIf, dTup, dLst, dNil, dCons, dStar, dCB, dCall, dSl, dNoPart, dPart, dBM, dRev, dNeg, dIsi, dListRg, dTupRg, dRg1, dRg2, dLc, dIt, dEnum, dZip2, dZip3, dRng1, dRng2, dYes, gN, gT, gsNil, gsCons, gSb, oI, oI0, oAdd, oMulA, oSub, oFdiv, oMod, oPow, oLt, oLe, oGt, oGe, oEq, oNe, oIsN, oNotN, oIsB, oNotB, oIx, oSl, oLen, oSum, oAll, oAny, oAbs, o1I, o2I, oMin2, oMax2, oMin, oMax, oMinL, oMaxL, oInt, oBool, oList, oTuple, oSorted, oIn, oAddI, oGet, oSet, oAppend, oExtend, oPop, oPopAt, newL, startD, wipeD, D.tyN, List.map_cons, List.map_nil, List.cons_append, List.nil_append, List.length_cons, List.length_nil, List.getElem?_cons_zero, List.getElem?_cons_succ, List.set_cons_zero, List.set_cons_succ, List.replicate, Nat.sub_self, Nat.reduceSub, Nat.reduceAdd, Nat.zero_add, kb_ii, kb_ib, kb_it, kb_is, kb_bi, kb_bb, kb_bt, kb_bs, kb_tt, kb_ti, kb_ts, kb_ss, kb_si, kb_st, kb_nt, kb_ni, kb_ns, kb_lt, kb_li, kb_ls, ex_some, seq_tup, seq_lst, seq_fz, list_lst, lsts_lst, lsts_fz, itOf_tup, itOf_lst, itOf_fz, now_int, now_bl, now_non, now_str, now_tup, now_lst, isNon_non, isNon_int, isNon_tup, isNon_ref, isNon_lst, isNon_str, isNon_bl, lq, tq, nq, sq, eqD_nil]
        refine ⟨⟨_, rfl⟩, Nat.zero_le _, ⟨by rw [okn_lst]; exact okn_pc, by decide⟩, ?_⟩
        cases sm with
        | nil =>
          simp only [List.map_nil, List.isEmpty_nil, Bool.not_true]
          exact fin none (hnil rfl)
        | cons s0 sm0 =>
          simp only [List.map_cons, List.isEmpty_cons, Bool.not_false]
          rw [← List.map_cons (f := fun p : Int × List Int => D.tup [.int p.1, eI p.2])]
          refine ⟨⟨by simp, okn_pc, akin_pc⟩, fun mm hmm hmin => ?_⟩
          obtain ⟨p, hp, rfl⟩ := List.mem_map.mp hmm
          exact fin (some p) (hpick p hp fun q hq => by
            have := hmin _ (List.mem_map.mpr ⟨q, hq, rfl⟩)
            exact ltD_fst (alikeAll_ints _ _) this)
    · rintro ρ S2 ⟨o5, o6, o7, o8, o9, later, x, rfl, hE2, hl4, hy, ⟨hlx, hxx⟩, hlat⟩
      have hx2 := drop_nil hy
      rw [List.length_range] at hx2
      simp only [dSeq, dNext, dRet, dRetN, dIfS, dAsg, dAsgG, dDrop, dPar2, dPar3, dAug, dAugS, dFor, dOp, dVar, dC, dTest, dChain, dAnd, dOr, dNot, dAndV, dOrV, dNotV, dIf, dTup, dLst, dNil, dCons, dStar, dCB, dCall, dSl, dNoPart, dPart, dBM, dRev, dNeg, dIsi, dListRg, dTupRg, dRg1, dRg2, dLc, dIt, dEnum, dZip2, dZip3, dRng1, dRng2, dYes, gN, gT, gsNil, gsCons, gSb, oI, oI0, oAdd, oMulA, oSub, oFdiv, oMod, oPow, oLt, oLe, oGt, oGe, oEq, oNe, oIsN, oNotN, oIsB, oNotB, oIx, oSl, oLen, oSum, oAll, oAny, oAbs, o1I, o2I, oMin2, oMax2, oMin, oMax, oMinL, oMaxL, oInt, oBool, oList, oTuple, oSorted, oIn, oAddI, oGet, oSet, oAppend, oExtend, oPop, oPopAt, newL, startD, wipeD, D.tyN, List.map_cons, List.map_nil, List.cons_append, List.nil_append, List.length_cons, List.length_nil, List.getElem?_cons_zero, List.getElem?_cons_succ, List.set_cons_zero, List.set_cons_succ, List.replicate, Nat.sub_self, Nat.reduceSub, Nat.reduceAdd, Nat.zero_add, kb_ii, kb_ib, kb_it, kb_is, kb_bi, kb_bb, kb_bt, kb_bs, kb_tt, kb_ti, kb_ts, kb_ss, kb_si, kb_st, kb_nt, kb_ni, kb_ns, kb_lt, kb_li, kb_ls, ex_some, seq_tup, seq_lst, seq_fz, list_lst, lsts_lst, lsts_fz, itOf_tup, itOf_lst, itOf_fz, now_int, now_bl, now_non, now_str, now_tup, now_lst, isNon_non, isNon_int, isNon_tup, isNon_ref, isNon_lst, isNon_str, isNon_bl]
      refine hN _ _ trivial ⟨.ref p4, _, _, _, _, _, _, _, later, k + 1, rfl, hE.trans hE2, seq_ref hl4, ex, hk, ⟨by omega, hlat⟩⟩
  · rintro ρ S ⟨b, o3, o4, o5, o6, o7, o8, o9, best, k, rfl, hE, hb, hx, hkW, dp⟩
    have hk2 := drop_nil hx
    have : k = W.length := by omega
    subst this
    obtain ⟨o, ho, hao⟩ := ix_eO (l := best) (i := (n : Int)) (by omega) (by rw [dp.len]; omega)
    rw [Int.toNat_natCast] at ho
    simp only [dSeq, dNext, dRet, dRetN, dIfS, dAsg, dAsgG, dDrop, dPar2, dPar3, dAug, dAugS, dFor, dOp, dVar, dC, dTest, dChain, dAnd, dOr, dNot, dAndV, dOrV, dNotV, dIf, dTup, dLst, dNil, dCons, dStar, dCB, dCall, dSl, dNoPart, dPart, dBM, dRev, dNeg, dIsi, dListRg, dTupRg, dRg1, dRg2, dLc, dIt, dEnum, dZip2, dZip3, dRng1, dRng2, dYes, gN, gT, gsNil, gsCons, gSb, oI, oI0, oAdd, oMulA, oSub, oFdiv, oMod, oPow, oLt, oLe, oGt, oGe, oEq, oNe, oIsN, oNotN, oIsB, oNotB, oIx, oSl, oLen, oSum, oAll, oAny, oAbs, o1I, o2I, oMin2, oMax2, oMin, oMax, oMinL, oMaxL, oInt, oBool, oList, oTuple, oSorted, oIn, oAddI, oGet, oSet, oAppend, oExtend, oPop, oPopAt, newL, startD, wipeD, D.tyN, List.map_cons, List.map_nil, List.cons_append, List.nil_append, List.length_cons, List.length_nil, List.getElem?_cons_zero, List.getElem?_cons_succ, List.set_cons_zero, List.set_cons_succ, List.replicate, Nat.sub_self, Nat.reduceSub, Nat.reduceAdd, Nat.zero_add, kb_ii, kb_ib, kb_it, kb_is, kb_bi, kb_bb, kb_bt, kb_bs, kb_tt, kb_ti, kb_ts, kb_ss, kb_si, kb_st, kb_nt, kb_ni, kb_ns, kb_lt, kb_li, kb_ls, ex_some, seq_tup, seq_lst, seq_fz, list_lst, lsts_lst, lsts_fz, itOf_tup, itOf_lst, itOf_fz, now_int, now_bl, now_non, now_str, now_tup, now_lst, isNon_non, isNon_int, isNon_tup, isNon_ref, isNon_lst, isNon_str, isNon_bl, hb, hao]
    exact FzQ.ext hE (q o (dp.at_ _ _ ho))
def sp_least_total : DSp := fun ds S Q => ∃ (W : List (List Int)) (L : Nat) (m : Nat), ds = [eW W, .int (m : Nat)] ∧ GW W L ∧ m ≤ L ∧ ∀ o, Lst W W.length (m : Int) o → Q (eO o) S
theorem pure_least_total : ∀ ds S Q, sp_least_total ds S Q → t_least_total sp_look_at_waits sp_told_least (DeN Q) (startD N_least_total ds) S := by
  rintro ds S Q ⟨W, L, n, rfl, g, hn, q⟩
  simp only [t_least_total, dSeq, dNext, dRet, dRetN, dIfS, dAsg, dAsgG, dDrop, dPar2, dPar3, dAug, dAugS, dFor, dOp, dVar, dC, dTest, dChain, dAnd, dOr, dNot, dAndV, dOrV, dNotV, dIf, dTup, dLst, dNil, dCons, dStar, dCB, dCall, dSl, dNoPart, dPart, dBM, dRev, dNeg, dIsi, dListRg, dTupRg, dRg1, dRg2, dLc, dIt, dEnum, dZip2, dZip3, dRng1, dRng2, dYes, gN, gT, gsNil, gsCons, gSb, oI, oI0, oAdd, oMulA, oSub, oFdiv, oMod, oPow, oLt, oLe, oGt, oGe, oEq, oNe, oIsN, oNotN, oIsB, oNotB, oIx, oSl, oLen, oSum, oAll, oAny, oAbs, o1I, o2I, oMin2, oMax2, oMin, oMax, oMinL, oMaxL, oInt, oBool, oList, oTuple, oSorted, oIn, oAddI, oGet, oSet, oAppend, oExtend, oPop, oPopAt, D.isNon, newL, Sto.seq, Sto.list, Sto.lsts, Sto.itOf, Sto.trk, Sto.now, startD, wipeD, D.tyN, List.map_cons, List.map_nil, List.cons_append, List.nil_append, List.length_cons, List.length_nil, List.getElem?_cons_zero, List.getElem?_cons_succ, List.set_cons_zero, List.set_cons_succ, List.replicate, Nat.sub_self, Nat.reduceSub, Nat.reduceAdd, Nat.zero_add, kb_ii, kb_ib, kb_it, kb_is, kb_bi, kb_bb, kb_bt, kb_bs, kb_tt, kb_ti, kb_ts, kb_ss, kb_si, kb_st, kb_nt, kb_ni, kb_ns, kb_lt, kb_li, kb_ls, ex_some]
  exact ⟨W, L, n, rfl, g, by omega, by omega, W, L, n, rfl, g, hn, fun o ho => .here (q o ho)⟩
/-- there is a vector with each sum -/
theorem vp_any (W : List (List Int)) (L : Nat) (g : GW W L) (x : Int) (h : 0 ≤ x) : ∃ c, VP W.length x c := by
  refine ⟨x :: List.replicate (W.length - 1) 0, by have := g.pos; simp; omega, fun y hy => ?_, ?_⟩
  · rcases List.mem_cons.mp hy with rfl | hy
    · exact h
    · rw [(List.mem_replicate.mp hy).2]; decide
  · rw [List.sum_cons, List.sum_replicate_int]; omega
/-- the least of all totals -/
structure Best (W : List (List Int)) (x v : Int) : Prop where
  at_ : ∃ c, VP W.length x c ∧ total W c = v
  le : ∀ c, VP W.length x c → v ≤ total W c
theorem lst_some {W : List (List Int)} {L : Nat} {x : Int} {o : Option (Int × List Int)} (g : GW W L) (h : 0 ≤ x) (ho : Lst W W.length x o) : ∃ v c, o = some (v, c) ∧ Best W x v := by
  cases o with
  | none =>
    obtain ⟨c, hc⟩ := vp_any W L g x h
    exact absurd hc (ho c)
  | some p =>
    obtain ⟨v, c⟩ := p
    obtain ⟨h1, h2, h3⟩ := ho
    rw [List.take_length] at h2 h3
    exact ⟨v, c, rfl, ⟨⟨c, h1, h2⟩, h3⟩⟩
def sp_price_of_choice : DSp := fun ds S Q => ∃ (W : List (List Int)) (L : Nat) (m : Nat), ds = [eW W, .int (m : Nat)] ∧ GW W L ∧ m ≤ L ∧ ∀ c v, Stl W L m c → Best W m v → Q (.tup [.int (total W c), .int v]) S
theorem pure_price_of_choice : ∀ ds S Q, sp_price_of_choice ds S Q → t_price_of_choice sp_look_at_waits sp_told_least sp_told_total sp_told_settled (DeN Q) (startD N_price_of_choice ds) S := by
  rintro ds S Q ⟨W, L, n, rfl, g, hn, q⟩
  simp only [t_price_of_choice, dSeq, dNext, dRet, dRetN, dIfS, dAsg, dAsgG, dDrop, dPar2, dPar3, dAug, dAugS, dFor, dOp, dVar, dC, dTest, dChain, dAnd, dOr, dNot, dAndV, dOrV, dNotV, dIf, dTup, dLst, dNil, dCons, dStar, dCB, dCall, dSl, dNoPart, dPart, dBM, dRev, dNeg, dIsi, dListRg, dTupRg, dRg1, dRg2, dLc, dIt, dEnum, dZip2, dZip3, dRng1, dRng2, dYes, gN, gT, gsNil, gsCons, gSb, oI, oI0, oAdd, oMulA, oSub, oFdiv, oMod, oPow, oLt, oLe, oGt, oGe, oEq, oNe, oIsN, oNotN, oIsB, oNotB, oIx, oSl, oLen, oSum, oAll, oAny, oAbs, o1I, o2I, oMin2, oMax2, oMin, oMax, oMinL, oMaxL, oInt, oBool, oList, oTuple, oSorted, oIn, oAddI, oGet, oSet, oAppend, oExtend, oPop, oPopAt, D.isNon, newL, Sto.seq, Sto.list, Sto.lsts, Sto.itOf, Sto.trk, Sto.now, startD, wipeD, D.tyN, List.map_cons, List.map_nil, List.cons_append, List.nil_append, List.length_cons, List.length_nil, List.getElem?_cons_zero, List.getElem?_cons_succ, List.set_cons_zero, List.set_cons_succ, List.replicate, Nat.sub_self, Nat.reduceSub, Nat.reduceAdd, Nat.zero_add, kb_ii, kb_ib, kb_it, kb_is, kb_bi, kb_bb, kb_bt, kb_bs, kb_tt, kb_ti, kb_ts, kb_ss, kb_si, kb_st, kb_nt, kb_ni, kb_ns, kb_lt, kb_li, kb_ls, ex_some]
  refine ⟨W, L, n, rfl, g, by omega, by omega, W, L, n, rfl, g, by omega, by omega, fun c st => ?_⟩
  refine ⟨W, L, n, c, _, rfl, .inr rfl, g, st.toVec, W, L, n, rfl, g, hn, fun o ho => ?_⟩
  obtain ⟨v, c', rfl, hb⟩ := lst_some g (by omega) ho
  simp only [eO, dSeq, dNext, dRet, dRetN, dIfS, dAsg, dAsgG, dDrop, dPar2, dPar3, dAug, dAugS, dFor, dOp, dVar, dC, dTest, dChain, dAnd, dOr, dNot, dAndV, dOrV, dNotV, dIf, dTup, dLst, dNil, dCons, dStar, dCB, dCall, dSl, dNoPart, dPart, dBM, dRev, dNeg, dIsi, dListRg, dTupRg, dRg1, dRg2, dLc, dIt, dEnum, dZip2, dZip3, dRng1, dRng2, dYes, gN, gT, gsNil, gsCons, gSb, oI, oI0, oAdd, oMulA, oSub, oFdiv, oMod, oPow, oLt, oLe, oGt, oGe, oEq, oNe, oIsN, oNotN, oIsB, oNotB, oIx, oSl, oLen, oSum, oAll, oAny, oAbs, o1I, o2I, oMin2, oMax2, oMin, oMax, oMinL, oMaxL, oInt, oBool, oList, oTuple, oSorted, oIn, oAddI, oGet, oSet, oAppend, oExtend, oPop, oPopAt, D.isNon, newL, Sto.seq, Sto.list, Sto.lsts, Sto.itOf, Sto.trk, Sto.now, startD, wipeD, D.tyN, List.map_cons, List.map_nil, List.cons_append, List.nil_append, List.length_cons, List.length_nil, List.getElem?_cons_zero, List.getElem?_cons_succ, List.set_cons_zero, List.set_cons_succ, List.replicate, Nat.sub_self, Nat.reduceSub, Nat.reduceAdd, Nat.zero_add, kb_ii, kb_ib, kb_it, kb_is, kb_bi, kb_bb, kb_bt, kb_bs, kb_tt, kb_ti, kb_ts, kb_ss, kb_si, kb_st, kb_nt, kb_ni, kb_ns, kb_lt, kb_li, kb_ls, ex_some, atI, ixN]
  exact ⟨small (by omega), .here (q c v st hb)⟩
end L46
namespace L46
open PySem PySem.Spec PySem.W PyProof.Rows L2 PL
/-! ### ways to settle -/
def heap (W : List (List Int)) (c : List Int) : Int := ((List.zip W c).map fun p => (p.1.take p.2.toNat).sum).sum
theorem heap_set {W : List (List Int)} {c : List Int} {i : Nat} {x : Int} (hi : i < W.length) (hc : c.length = W.length) : heap W (c.set i x) = heap W c - ((W.getD i []).take (cA c i).toNat).sum + ((W.getD i []).take x.toNat).sum := by
  induction W generalizing c i with
  | nil => simp at hi
  | cons r W ih =>
    cases c with
    | nil => simp at hc
    | cons y c =>
      cases i with
      | zero =>
        simp only [heap, List.set_cons_zero, List.zip_cons_cons, List.map_cons, List.sum_cons, cA, List.getD_cons_zero]
        omega
      | succ i =>
        have := ih (c := c) (i := i) (by simpa using hi) (by simpa using hc)
        simp only [heap] at this
        have e : cA (y :: c) (i + 1) = cA c i := rfl
        simp only [heap, List.set_cons_succ, List.zip_cons_cons, List.map_cons, List.sum_cons, List.getD_cons_succ, e]
        omega
theorem take_next {r : List Int} {n : Nat} (h : n < r.length) : (r.take (n + 1)).sum = (r.take n).sum + r.getD n 0 := by
  rw [List.take_succ, List.getElem?_eq_getElem h, List.sum_append, List.getD_eq_getElem?_getD, List.getElem?_eq_getElem h]; simp
def mv (c : List Int) (i j : Nat) : List Int := (c.set i (cA c i - 1)).set j (cA c j + 1)
theorem mv_vec {W : List (List Int)} {L : Nat} {m : Int} {c : List Int} {i j : Nat} (v : Vec W L m c) (h : Imp W L c i j) : Vec W L m (mv c i j) := by
  have hi : i < c.length := by rw [v.len]; exact h.hi
  have hj : j < c.length := by rw [v.len]; exact h.hj
  have a := h.ci
  have b := h.cj
  have li := v.le _ (cA_mem hi)
  have nj := v.nn _ (cA_mem hj)
  refine ⟨by simp [mv, v.len], fun x hx => ?_, fun x hx => ?_, ?_⟩
  · rcases List.mem_or_eq_of_mem_set hx with q | q
    · rcases List.mem_or_eq_of_mem_set q with q | q
      · exact v.nn x q
      · omega
    · omega
  · rcases List.mem_or_eq_of_mem_set hx with q | q
    · rcases List.mem_or_eq_of_mem_set q with q | q
      · exact v.le x q
      · omega
    · omega
  · unfold mv
    rw [sum_setA (by simpa using hj), cA_set_ne h.ne, sum_setA hi, v.sum]; omega
theorem mv_heap {W : List (List Int)} {L : Nat} {m : Int} {c : List Int} {i j : Nat} (g : GW W L) (v : Vec W L m c) (h : Imp W L c i j) : heap W (mv c i j) < heap W c := by
  have hi : i < c.length := by rw [v.len]; exact h.hi
  have hj : j < c.length := by rw [v.len]; exact h.hj
  have a := h.ci
  have b := h.cj
  have li := v.le _ (cA_mem hi)
  have nj := v.nn _ (cA_mem hj)
  have rl := g.len _ (row_mem h.hi)
  have rl2 := g.len _ (row_mem h.hj)
  unfold mv
  rw [heap_set h.hj (by simp [v.len]), heap_set h.hi v.len, cA_set_ne h.ne]
  have e1 : (cA c i).toNat = (cA c i - 1).toNat + 1 := by omega
  have e2 : (cA c j + 1).toNat = (cA c j).toNat + 1 := by omega
  rw [e1, e2, take_next (by omega), take_next (by omega)]
  have := h.lt
  unfold at2 at this
  omega
theorem sum_nn {r : List Int} (h : ∀ x ∈ r, 0 ≤ x) : 0 ≤ r.sum := (nn_sum h).1
theorem heap_nn {W : List (List Int)} {L : Nat} (g : GW W L) (c : List Int) : 0 ≤ heap W c := by
  unfold heap
  refine sum_nn fun x hx => ?_
  obtain ⟨p, hp, rfl⟩ := List.mem_map.mp hx
  exact sum_nn fun y hy => (g.bd _ (List.of_mem_zip hp).1 y (List.mem_of_mem_take hy)).1
structure Ways (W : List (List Int)) (L : Nat) (m : Int) (c : List Int) (pre : List (List Int)) (last : List Int) : Prop where
  head : (pre ++ [last]).head? = some c
  vec : ∀ x ∈ pre ++ [last], Vec W L m x
  dec : ((pre ++ [last]).map (heap W)).Pairwise (· > ·)
  few : ((pre.length : Nat) : Int) + heap W last ≤ heap W c
theorem ways_step {W : List (List Int)} {L : Nat} {m : Int} {c : List Int} {pre : List (List Int)} {last : List Int} {i j : Nat} (g : GW W L) (w : Ways W L m c pre last) (h : Imp W L last i j) : Ways W L m c (pre ++ [last]) (mv last i j) := by
  have vl := w.vec last (by simp)
  have hlt := mv_heap g vl h
  refine ⟨?_, fun x hx => ?_, ?_, ?_⟩
  · have := w.head
    cases pre with
    | nil => simpa using this
    | cons a pre => simpa using this
  · rcases List.mem_append.mp hx with q | q
    · exact w.vec x q
    · rw [List.mem_singleton.mp q]; exact mv_vec vl h
  · rw [List.map_append]
    refine List.pairwise_append.mpr ⟨w.dec, by simp, fun a ha b hb => ?_⟩
    have hb' : b = heap W (mv last i j) := by simpa using hb
    rw [hb']
    obtain ⟨x, hx, rfl⟩ := List.mem_map.mp ha
    rcases List.mem_append.mp hx with q | q
    · have := w.dec
      rw [List.map_append] at this
      have h2 := (List.pairwise_append.mp this).2.2 (heap W x) (List.mem_map.mpr ⟨x, q, rfl⟩) (heap W last) (by simp)
      show heap W (mv last i j) < heap W x
      omega
    · rw [List.mem_singleton.mp q]; exact hlt
  · have := w.few
    simp
    omega
theorem ix_last {pre : List (List Int)} {last : List Int} : atI ((pre ++ [last]).map eI) (-1) = some (eI last) := by
  rw [atI_map, atI_last (by simp)]; simp
def sp_ways_to_settle : DSp := fun ds S Q => ∃ (W : List (List Int)) (L : Nat) (m : Int) (c : List Int), ds = [eW W, eI c] ∧ GW W L ∧ Vec W L m c ∧ m ≤ L ∧ heap W c ≤ 100000 ∧ ∀ pre last, Ways W L m c pre last → (∀ i j, ¬ Imp W L last i j) → Q (.tup ((pre ++ [last]).map eI)) S
theorem pure_ways_to_settle : ∀ ds S Q, sp_ways_to_settle ds S Q → t_ways_to_settle sp_look_at_counts sp_told_change (DeN Q) (startD N_ways_to_settle ds) S := by
  rintro ds S0 Q ⟨W, L, m, c, rfl, g, v, hm, hh, q⟩
  simp only [t_ways_to_settle, dSeq, dNext, dRet, dRetN, dIfS, dAsg, dAsgG, dDrop, dPar2, dPar3, dAug, dAugS, dFor, dOp, dVar, dC, dTest, dChain, dAnd, dOr, dNot, dAndV, dOrV, dNotV, dIf, dTup, dLst, dNil, dCons, dStar, dCB, dCall, dSl, dNoPart, dPart, dBM, dRev, dNeg, dIsi, dListRg, dTupRg, dRg1, dRg2, dLc, dIt, dEnum, dZip2, dZip3, dRng1, dRng2, dYes, gN, gT, gsNil, gsCons, gSb, oI, oI0, oAdd, oMulA, oSub, oFdiv, oMod, oPow, oLt, oLe, oGt, oGe, oEq, oNe, oIsN, oNotN, oIsB, oNotB, oIx, oSl, oLen, oSum, oAll, oAny, oAbs, o1I, o2I, oMin2, oMax2, oMin, oMax, oMinL, oMaxL, oInt, oBool, oList, oTuple, oSorted, oIn, oAddI, oGet, oSet, oAppend, oExtend, oPop, oPopAt, newL, startD, wipeD, D.tyN, List.map_cons, List.map_nil, List.cons_append, List.nil_append, List.length_cons, List.length_nil, List.getElem?_cons_zero, List.getElem?_cons_succ, List.set_cons_zero, List.set_cons_succ, List.replicate, Nat.sub_self, Nat.reduceSub, Nat.reduceAdd, Nat.zero_add, kb_ii, kb_ib, kb_it, kb_is, kb_bi, kb_bb, kb_bt, kb_bs, kb_tt, kb_ti, kb_ts, kb_ss, kb_si, kb_st, kb_nt, kb_ni, kb_ns, kb_lt, kb_li, kb_ls, ex_some, seq_tup, seq_lst, seq_fz, list_lst, lsts_lst, lsts_fz, itOf_tup, itOf_lst, itOf_fz, now_int, now_bl, now_non, now_str, now_tup, now_lst, isNon_non, isNon_int, isNon_tup, isNon_ref, isNon_lst, isNon_str, isNon_bl]
  refine ⟨W, L, m, c, rfl, g, v, hm, ?_⟩
  simp only [eI, eW, dSeq, dNext, dRet, dRetN, dIfS, dAsg, dAsgG, dDrop, dPar2, dPar3, dAug, dAugS, dFor, dOp, dVar, dC, dTest, dChain, dAnd, dOr, dNot, dAndV, dOrV, dNotV, dIf, dTup, dLst, dNil, dCons, dStar, dCB, dCall, dSl, dNoPart, dPart, dBM, dRev, dNeg, dIsi, dListRg, dTupRg, dRg1, dRg2, dLc, dIt, dEnum, dZip2, dZip3, dRng1, dRng2, dYes, gN, gT, gsNil, gsCons, gSb, oI, oI0, oAdd, oMulA, oSub, oFdiv, oMod, oPow, oLt, oLe, oGt, oGe, oEq, oNe, oIsN, oNotN, oIsB, oNotB, oIx, oSl, oLen, oSum, oAll, oAny, oAbs, o1I, o2I, oMin2, oMax2, oMin, oMax, oMinL, oMaxL, oInt, oBool, oList, oTuple, oSorted, oIn, oAddI, oGet, oSet, oAppend, oExtend, oPop, oPopAt, newL, startD, wipeD, D.tyN, List.map_cons, List.map_nil, List.cons_append, List.nil_append, List.length_cons, List.length_nil, List.getElem?_cons_zero, List.getElem?_cons_succ, List.set_cons_zero, List.set_cons_succ, List.replicate, Nat.sub_self, Nat.reduceSub, Nat.reduceAdd, Nat.zero_add, kb_ii, kb_ib, kb_it, kb_is, kb_bi, kb_bb, kb_bt, kb_bs, kb_tt, kb_ti, kb_ts, kb_ss, kb_si, kb_st, kb_nt, kb_ni, kb_ns, kb_lt, kb_li, kb_ls, ex_some, seq_tup, seq_lst, seq_fz, list_lst, lsts_lst, lsts_fz, itOf_tup, itOf_lst, itOf_fz, now_int, now_bl, now_non, now_str, now_tup, now_lst, isNon_non, isNon_int, isNon_tup, isNon_ref, isNon_lst, isNon_str, isNon_bl]
  refine ⟨small (by omega), fun p hp => ?_⟩
  have hpp : S0.up p (MO.lst [D.tup (c.map D.int)]) p = some (.lst ([c].map eI)) := Sto.up_same
  have tup0 : ∀ {S : Sto} {l : List D}, S p = some (.lst l) → S.seq (.ref p) = some l := fun h => seq_ref h
  rw [tup0 hpp]
  have il := ix_last (pre := []) (last := c)
  rw [List.nil_append] at il
  simp only [il]
  have w0 : Ways W L m c [] c := ⟨rfl, fun x hx => by rw [List.mem_singleton.mp hx]; exact v, by simp, by simp⟩
  -- the loop
  have loop : ∀ (pr : D), ((pr = .non ∧ ∀ i j, ¬ Imp W L c i j) ∨ ∃ i j, pr = .tup [.int (i : Nat), .int (j : Nat)] ∧ Imp W L c i j) →
      dWhile (dTest (dOp oNotN (dVar 3) (dC .non))) (dSeq (dAsg 4 (dCB (oList true) (dCons (dOp oIx (dVar 2) (dNeg (dC (.int 1)))) dNil))) (dSeq (dAugS (dVar 4) (dOp oIx (dVar 3) (dC (.int 0))) (dC (.int 1)) oGet oSub oSet) (dSeq (dAugS (dVar 4) (dOp oIx (dVar 3) (dC (.int 1))) (dC (.int 1)) oGet oAddI oSet)
        (dSeq (dDrop (dBM oAppend (dVar 2) (dCons (dCB oTuple (dCons (dVar 4) dNil)) dNil))) (dAsg 3 (dCall sp_told_change (dCons (dVar 0) (dCons (dOp oIx (dVar 2) (dNeg (dC (.int 1)))) dNil)))))))) { (DeN Q) with nx := fun ρ' S' => dRet (dCB oTuple (dCons (dVar 2) dNil)) (DeN Q) ρ' S' }
        [some (D.tup (W.map eI)), some (D.tup (c.map D.int)), some (.ref p), some pr, none] (S0.up p (MO.lst [D.tup (c.map D.int)])) := by
    intro pr hpr
    refine ⟨fun n ρ S => ∃ pre last pr o, ρ = [some (D.tup (W.map eI)), some (D.tup (c.map D.int)), some (.ref p), some pr, o] ∧ Ext S0 S ∧ S p = some (.lst ((pre ++ [last]).map eI)) ∧ Ways W L m c pre last ∧ n = (heap W last).toNat ∧ ((pr = .non ∧ ∀ i j, ¬ Imp W L last i j) ∨ ∃ i j, pr = .tup [.int (i : Nat), .int (j : Nat)] ∧ Imp W L last i j),
      ⟨_, [], c, pr, none, rfl, Ext.up hp, hpp, w0, rfl, hpr⟩, ?_⟩
    rintro n ρ S ⟨pre, last, pr, o, rfl, hE, hS, w, rfl, hpr⟩
    simp only [dSeq, dNext, dRet, dRetN, dIfS, dAsg, dAsgG, dDrop, dPar2, dPar3, dAug, dAugS, dFor, dOp, dVar, dC, dTest, dChain, dAnd, dOr, dNot, dAndV, dOrV, dNotV, dIf, dTup, dLst, dNil, dCons, dStar, dCB, dCall, dSl, dNoPart, dPart, dBM, dRev, dNeg, dIsi, dListRg, dTupRg, dRg1, dRg2, dLc, dIt, dEnum, dZip2, dZip3, dRng1, dRng2, dYes, gN, gT, gsNil, gsCons, gSb, oI, oI0, oAdd, oMulA, oSub, oFdiv, oMod, oPow, oLt, oLe, oGt, oGe, oEq, oNe, oIsN, oNotN, oIsB, oNotB, oIx, oSl, oLen, oSum, oAll, oAny, oAbs, o1I, o2I, oMin2, oMax2, oMin, oMax, oMinL, oMaxL, oInt, oBool, oList, oTuple, oSorted, oIn, oAddI, oGet, oSet, oAppend, oExtend, oPop, oPopAt, newL, startD, wipeD, D.tyN, List.map_cons, List.map_nil, List.cons_append, List.nil_append, List.length_cons, List.length_nil, List.getElem?_cons_zero, List.getElem?_cons_succ, List.set_cons_zero, List.set_cons_succ, List.replicate, Nat.sub_self, Nat.reduceSub, Nat.reduceAdd, Nat.zero_add, kb_ii, kb_ib, kb_it, kb_is, kb_bi, kb_bb, kb_bt, kb_bs, kb_tt, kb_ti, kb_ts, kb_ss, kb_si, kb_st, kb_nt, kb_ni, kb_ns, kb_lt, kb_li, kb_ls, ex_some, seq_tup, seq_lst, seq_fz, list_lst, lsts_lst, lsts_fz, itOf_tup, itOf_lst, itOf_fz, now_int, now_bl, now_non, now_str, now_tup, now_lst, isNon_non, isNon_int, isNon_tup, isNon_ref, isNon_lst, isNon_str, isNon_bl]
    rcases hpr with ⟨rfl, hno⟩ | ⟨i, j, rfl, him⟩
    · simp only [isNon_non, Bool.not_true]
      rw [seq_ref hS]
      exact FzQ.ext hE (q pre last w hno)
    · simp only [isNon_tup, Bool.not_false]
      have vl := w.vec last (by simp)
      have hi : i < last.length := by rw [vl.len]; exact him.hi
      have hj : j < last.length := by rw [vl.len]; exact him.hj
      rw [seq_ref hS]
      simp only [ix_last, eI, dSeq, dNext, dRet, dRetN, dIfS, dAsg, dAsgG, dDrop, dPar2, dPar3, dAug, dAugS, dFor, dOp, dVar, dC, dTest, dChain, dAnd, dOr, dNot, dAndV, dOrV, dNotV, dIf, dTup, dLst, dNil, dCons, dStar, dCB, dCall, dSl, dNoPart, dPart, dBM, dRev, dNeg, dIsi, dListRg, dTupRg, dRg1, dRg2, dLc, dIt, dEnum, dZip2, dZip3, dRng1, dRng2, dYes, gN, gT, gsNil, gsCons, gSb, oI, oI0, oAdd, oMulA, oSub, oFdiv, oMod, oPow, oLt, oLe, oGt, oGe, oEq, oNe, oIsN, oNotN, oIsB, oNotB, oIx, oSl, oLen, oSum, oAll, oAny, oAbs, o1I, o2I, oMin2, oMax2, oMin, oMax, oMinL, oMaxL, oInt, oBool, oList, oTuple, oSorted, oIn, oAddI, oGet, oSet, oAppend, oExtend, oPop, oPopAt, newL, startD, wipeD, D.tyN, List.map_cons, List.map_nil, List.cons_append, List.nil_append, List.length_cons, List.length_nil, List.getElem?_cons_zero, List.getElem?_cons_succ, List.set_cons_zero, List.set_cons_succ, List.replicate, Nat.sub_self, Nat.reduceSub, Nat.reduceAdd, Nat.zero_add, kb_ii, kb_ib, kb_it, kb_is, kb_bi, kb_bb, kb_bt, kb_bs, kb_tt, kb_ti, kb_ts, kb_ss, kb_si, kb_st, kb_nt, kb_ni, kb_ns, kb_lt, kb_li, kb_ls, ex_some, seq_tup, seq_lst, seq_fz, list_lst, lsts_lst, lsts_fz, itOf_tup, itOf_lst, itOf_fz, now_int, now_bl, now_non, now_str, now_tup, now_lst, isNon_non, isNon_int, isNon_tup, isNon_ref, isNon_lst, isNon_str, isNon_bl]
      intro p4 hp4
      have h4p : p4 ≠ p := Ne.symm (ne_of_in hS hp4)
      have i0 : atI [D.int (i : Nat), D.int (j : Nat)] 0 = some (.int (i : Nat)) := rfl
      have i1 : atI [D.int (i : Nat), D.int (j : Nat)] 1 = some (.int (j : Nat)) := rfl
      have s4 : S.up p4 (MO.lst (last.map D.int)) p4 = some (.lst (last.map D.int)) := Sto.up_same
      have ai : atI (last.map D.int) ((i : Nat) : Int) = some (.int (cA last i)) := ix_int (by omega) (by omega)
      simp only [i0, i1, lsts_ref s4, ai, s4]
      refine ⟨i, by rw [ixN_nn (by omega) (by simp; omega), Int.toNat_natCast], ?_⟩
      rw [Sto.up_up, ← List.map_set]
      have s5 : S.up p4 (MO.lst ((last.set i (cA last i - 1)).map D.int)) p4 = some (.lst ((last.set i (cA last i - 1)).map D.int)) := Sto.up_same
      have aj : atI ((last.set i (cA last i - 1)).map D.int) ((j : Nat) : Int) = some (.int (cA last j)) := by
        have := ix_int (xs := last.set i (cA last i - 1)) (i := (j : Int)) (by omega) (by simp; omega)
        rw [this]
        have := cA_set_ne (c := last) (x := cA last i - 1) him.ne
        unfold cA at this ⊢
        rw [Int.toNat_natCast, this]
      simp only [lsts_ref s5, aj, s5]
      refine ⟨j, by rw [ixN_nn (by omega) (by simp; omega), Int.toNat_natCast], ?_⟩
      rw [Sto.up_up, ← List.map_set]
      have s6 : S.up p4 (MO.lst ((mv last i j).map D.int)) p4 = some (.lst ((mv last i j).map D.int)) := Sto.up_same
      have s7 : S.up p4 (MO.lst ((mv last i j).map D.int)) p = some (.lst ((pre ++ [last]).map eI)) := by rw [Sto.up_ne (Ne.symm h4p)]; exact hS
      have w2 := ways_step g w him
      have few := w2.few
      have hn := heap_nn g (mv last i j)
      rw [show (last.set i (cA last i - 1)).set j (cA last j + 1) = mv last i j from rfl]
      simp only [list_ref s7, trk_ref s7, seq_ref s6]
      refine ⟨⟨_, rfl⟩, by rw [List.length_map, sizeLine_eq]; simp at few ⊢; omega, ?_⟩
      have s8 : (S.up p4 (MO.lst ((mv last i j).map D.int))).up p (MO.lst ((pre ++ [last]).map eI ++ [D.tup ((mv last i j).map D.int)])) p = some (.lst (((pre ++ [last]) ++ [mv last i j]).map eI)) := by rw [Sto.up_same, List.map_append (l₁ := pre ++ [last])]; rfl
      rw [seq_ref s8]
      simp only [ix_last]
      have hE2 : Ext S0 ((S.up p4 (MO.lst ((mv last i j).map D.int))).up p (MO.lst ((pre ++ [last]).map eI ++ [D.tup ((mv last i j).map D.int)]))) := (hE.trans (Ext.up hp4)).set hp
      have vm := mv_vec vl him
      have hlt := mv_heap g vl him
      refine ⟨W, L, m, mv last i j, rfl, g, vm, fun i' j' hi' => ?_, fun hno => ?_⟩
      · exact ⟨(heap W (mv last i j)).toNat, by omega, pre ++ [last], mv last i j, _, _, rfl, hE2, s8, w2, rfl, .inr ⟨i', j', rfl, hi'⟩⟩
      · exact ⟨(heap W (mv last i j)).toNat, by omega, pre ++ [last], mv last i j, _, _, rfl, hE2, s8, w2, rfl, .inl ⟨rfl, hno⟩⟩
  refine ⟨W, L, m, c, rfl, g, v, fun i j hi => ?_, fun hno => ?_⟩
  · exact loop _ (.inr ⟨i, j, rfl, hi⟩)
  · exact loop _ (.inl ⟨rfl, hno⟩)
end L46
namespace L46
open PySem PySem.Spec PySem.W PyProof.Rows L2 PL
/-! ### the law's draws -/
def PotO (b : Nat) (o : MO) : Prop := ∃ own small c : Int, o = .lst [.int own, .int small, .int c] ∧ 0 ≤ own ∧ 0 ≤ small ∧ small < 2 ^ 62 ∧ 0 ≤ c ∧ c ≤ b
theorem PotO.mono {b b' : Nat} {o : MO} (h : PotO b o) (hb : b ≤ b') : PotO b' o := by
  obtain ⟨own, small, c, e, h1, h2, h3, h4, h5⟩ := h
  exact ⟨own, small, c, e, h1, h2, h3, h4, by omega⟩
def sp__law_pot : DSp := fun ds S Q => ∃ (ns : List Int) (pl : Nat), ds = [.fz (ns.map .int), .int (pl : Nat)] ∧ pl ≤ 1000 ∧ ∀ p o, S p = none → PotO 0 o → Q (.ref p) (S.up p o)
theorem cmul_small {a b : Int} {n m : Nat} (h1 : a.natAbs ≤ n) (h2 : b.natAbs ≤ m) (hn : n < 2 ^ 1000) (hm : m < 2 ^ 1000) : CMul' a b := ⟨Nat.lt_of_le_of_lt h1 hn, Nat.lt_of_le_of_lt h2 hm⟩
theorem cut_one (ns : List Int) : PL.cutD (ns.map D.int) none (some 1) = (ns.take 1).map D.int := by
  unfold PL.cutD
  cases ns with
  | nil => rfl
  | cons x ns =>
    have h1 : HT.sIx ((x :: ns).map D.int).length 0 none = 0 := rfl
    have h2 : HT.sIx ((x :: ns).map D.int).length ((x :: ns).map D.int).length (some 1) = 1 := by simp [HT.sIx]
    rw [h1, h2]; rfl
theorem pure__law_pot : ∀ ds S Q, sp__law_pot ds S Q → t__law_pot (DeN Q) (startD N__law_pot ds) S := by
  rintro ds S Q ⟨ns, pl, rfl, hpl, q⟩
  have key : ∀ cell : Int, ∀ ρ : DEnv, ρ = [some (.fz (ns.map D.int)), some (.int (pl : Nat)), some (.int cell), none, none] →
      (dSeq (dAsg 3 (dOp (oMulA false) (dOp oMod (dCB oInt (dCons (dCB oAbs (dCons (dVar 2) dNil)) dNil)) (dOp oPow (dOp oPow (dC (.int 10)) (dC (.int 60))) (dC (.int 5)))) (dCB oInt (dCons (dOp oGe (dCB oAbs (dCons (dVar 2) dNil)) (dOp oPow (dC (.int 10)) (dC (.int 18)))) dNil))))
  (dSeq (dAsg 4 (dOp oMod (dCB oInt (dCons (dVar 2) dNil)) (dC (.int 2305843009213693951))))
  (dRet (dLst true (dCons (dVar 3) (dCons (dOp oMod (dCB oInt (dCons (dOp (oAdd false) (dOp (oAdd false) (dOp (oMulA false) (dVar 4) (dC (.int 72161))) (dOp (oMulA false) (dOp (oMulA false) (dC (.int 10853)) (dVar 1)) (dVar 1))) (dC (.int 2843))) dNil)) (dC (.int 2305843009213693921))) (dCons (dC (.int 0)) dNil))))))) (DeN Q) ρ S := by
    rintro cell ρ rfl
    simp only [dSeq, dNext, dRet, dRetN, dIfS, dAsg, dAsgG, dDrop, dPar2, dPar3, dAug, dAugS, dFor, dOp, dVar, dC, dTest, dChain, dAnd, dOr, dNot, dAndV, dOrV, dNotV, dIf, dTup, dLst, dNil, dCons, dStar, dCB, dCall, dSl, dNoPart, dPart, dBM, dRev, dNeg, dIsi, dListRg, dTupRg, dRg1, dRg2, dLc, dIt, dEnum, dZip2, dZip3, dRng1, dRng2, dYes, gN, gT, gsNil, gsCons, gSb, oI, oI0, oAdd, oMulA, oSub, oFdiv, oMod, oPow, oLt, oLe, oGt, oGe, oEq, oNe, oIsN, oNotN, oIsB, oNotB, oIx, oSl, oLen, oSum, oAll, oAny, oAbs, o1I, o2I, oMin2, oMax2, oMin, oMax, oMinL, oMaxL, oInt, oBool, oList, oTuple, oSorted, oIn, oAddI, oGet, oSet, oAppend, oExtend, oPop, oPopAt, D.isNon, newL, Sto.seq, Sto.list, Sto.lsts, Sto.itOf, Sto.trk, Sto.now, startD, wipeD, D.tyN, List.map_cons, List.map_nil, List.cons_append, List.nil_append, List.length_cons, List.length_nil, List.getElem?_cons_zero, List.getElem?_cons_succ, List.set_cons_zero, List.set_cons_succ, List.replicate, Nat.sub_self, Nat.reduceSub, Nat.reduceAdd, Nat.zero_add, kb_ii, kb_ib, kb_it, kb_is, kb_bi, kb_bb, kb_bt, kb_bs, kb_tt, kb_ti, kb_ts, kb_ss, kb_si, kb_st, kb_nt, kb_ni, kb_ns, kb_lt, kb_li, kb_ls, ex_some]
    have hb : ∀ g : Bool, (if g = true then (1 : Int) else 0).natAbs ≤ 1 := fun g => by cases g <;> decide
    have hpos : (0 : Int) < (10 ^ Int.toNat 60) ^ Int.toNat 5 := by decide +kernel
    generalize hM : ((10 : Int) ^ Int.toNat 60) ^ Int.toNat 5 = M at hpos ⊢
    have hMs : M < 2 ^ 1000 := by rw [← hM]; decide +kernel
    have a1 := Int.emod_nonneg (if cell < 0 then -cell else cell) (Int.ne_of_gt hpos)
    have a2 := Int.emod_lt_of_pos (if cell < 0 then -cell else cell) hpos
    have s1 := Int.emod_nonneg cell (show (2305843009213693951 : Int) ≠ 0 by decide)
    have s2 := Int.emod_lt_of_pos cell (show (0 : Int) < 2305843009213693951 by decide)
    have pp : ((10853 * (pl : Int)) * (pl : Int)).natAbs ≤ 10853 * 1000 * 1000 := by
      rw [Int.natAbs_mul, Int.natAbs_mul]
      exact Nat.mul_le_mul (Nat.mul_le_mul (by decide) (by omega)) (by omega)
    refine ⟨⟨by decide, by decide, by decide +kernel⟩, ⟨by decide, by decide, by decide +kernel⟩, hpos, ⟨by decide, by decide, by decide +kernel⟩, ?_, by decide, ?_, ?_, ?_, by decide, ?_, ?_⟩
    · exact ⟨Nat.lt_of_lt_of_le (show _ < M.toNat by omega) (by omega), Nat.lt_of_le_of_lt (hb _) (by decide +kernel)⟩
    · exact cmul_small (n := 2305843009213693951) (m := 72161) (by omega) (by decide) (by decide +kernel) (by decide +kernel)
    · exact cmul_small (n := 10853) (m := 1000) (by decide) (by omega) (by decide +kernel) (by decide +kernel)
    · exact cmul_small (n := 10853000) (m := 1000) (by omega) (by omega) (by decide +kernel) (by decide +kernel)
    · exact small (by omega)
    · intro p hp
      refine .here (q p _ hp ⟨_, _, _, rfl, ?_, ?_, ?_, by decide, by decide⟩)
      · refine Int.mul_nonneg a1 ?_
        repeat' split
        all_goals first | decide | omega
      · exact Int.emod_nonneg _ (by decide)
      · exact Int.lt_trans (Int.emod_lt_of_pos _ (by decide)) (by decide)
  simp only [t__law_pot]
  have fin := fun cell => key cell _ rfl
  show dIf _ _ _ _ S _
  by_cases h : (pl : Int) < ((ns.map D.int).length : Nat)
  · have hi : atI (ns.map D.int) (pl : Int) = some (.int (ns.getD pl 0)) := by
      have := ix_int (xs := ns) (i := (pl : Int)) (by omega) (by rw [List.length_map] at h; omega)
      rw [Int.toNat_natCast] at this; exact this
    simp only [dSeq, dNext, dRet, dRetN, dIfS, dAsg, dAsgG, dDrop, dPar2, dPar3, dAug, dAugS, dFor, dOp, dVar, dC, dTest, dChain, dAnd, dOr, dNot, dAndV, dOrV, dNotV, dIf, dTup, dLst, dNil, dCons, dStar, dCB, dCall, dSl, dNoPart, dPart, dBM, dRev, dNeg, dIsi, dListRg, dTupRg, dRg1, dRg2, dLc, dIt, dEnum, dZip2, dZip3, dRng1, dRng2, dYes, gN, gT, gsNil, gsCons, gSb, oI, oI0, oAdd, oMulA, oSub, oFdiv, oMod, oPow, oLt, oLe, oGt, oGe, oEq, oNe, oIsN, oNotN, oIsB, oNotB, oIx, oSl, oLen, oSum, oAll, oAny, oAbs, o1I, o2I, oMin2, oMax2, oMin, oMax, oMinL, oMaxL, oInt, oBool, oList, oTuple, oSorted, oIn, oAddI, oGet, oSet, oAppend, oExtend, oPop, oPopAt, D.isNon, newL, Sto.seq, Sto.list, Sto.lsts, Sto.itOf, Sto.trk, Sto.now, startD, wipeD, D.tyN, List.map_cons, List.map_nil, List.cons_append, List.nil_append, List.length_cons, List.length_nil, List.getElem?_cons_zero, List.getElem?_cons_succ, List.set_cons_zero, List.set_cons_succ, List.replicate, Nat.sub_self, Nat.reduceSub, Nat.reduceAdd, Nat.zero_add, kb_ii, kb_ib, kb_it, kb_is, kb_bi, kb_bb, kb_bt, kb_bs, kb_tt, kb_ti, kb_ts, kb_ss, kb_si, kb_st, kb_nt, kb_ni, kb_ns, kb_lt, kb_li, kb_ls, ex_some, decide_eq_true h, hi]
    have := fin (ns.getD pl 0)
    simp only [dSeq, dNext, dRet, dRetN, dIfS, dAsg, dAsgG, dDrop, dPar2, dPar3, dAug, dAugS, dFor, dOp, dVar, dC, dTest, dChain, dAnd, dOr, dNot, dAndV, dOrV, dNotV, dIf, dTup, dLst, dNil, dCons, dStar, dCB, dCall, dSl, dNoPart, dPart, dBM, dRev, dNeg, dIsi, dListRg, dTupRg, dRg1, dRg2, dLc, dIt, dEnum, dZip2, dZip3, dRng1, dRng2, dYes, gN, gT, gsNil, gsCons, gSb, oI, oI0, oAdd, oMulA, oSub, oFdiv, oMod, oPow, oLt, oLe, oGt, oGe, oEq, oNe, oIsN, oNotN, oIsB, oNotB, oIx, oSl, oLen, oSum, oAll, oAny, oAbs, o1I, o2I, oMin2, oMax2, oMin, oMax, oMinL, oMaxL, oInt, oBool, oList, oTuple, oSorted, oIn, oAddI, oGet, oSet, oAppend, oExtend, oPop, oPopAt, D.isNon, newL, Sto.seq, Sto.list, Sto.lsts, Sto.itOf, Sto.trk, Sto.now, startD, wipeD, D.tyN, List.map_cons, List.map_nil, List.cons_append, List.nil_append, List.length_cons, List.length_nil, List.getElem?_cons_zero, List.getElem?_cons_succ, List.set_cons_zero, List.set_cons_succ, List.replicate, Nat.sub_self, Nat.reduceSub, Nat.reduceAdd, Nat.zero_add, kb_ii, kb_ib, kb_it, kb_is, kb_bi, kb_bb, kb_bt, kb_bs, kb_tt, kb_ti, kb_ts, kb_ss, kb_si, kb_st, kb_nt, kb_ni, kb_ns, kb_lt, kb_li, kb_ls, ex_some] at this
    exact this
  · simp only [dSeq, dNext, dRet, dRetN, dIfS, dAsg, dAsgG, dDrop, dPar2, dPar3, dAug, dAugS, dFor, dOp, dVar, dC, dTest, dChain, dAnd, dOr, dNot, dAndV, dOrV, dNotV, dIf, dTup, dLst, dNil, dCons, dStar, dCB, dCall, dSl, dNoPart, dPart, dBM, dRev, dNeg, dIsi, dListRg, dTupRg, dRg1, dRg2, dLc, dIt, dEnum, dZip2, dZip3, dRng1, dRng2, dYes, gN, gT, gsNil, gsCons, gSb, oI, oI0, oAdd, oMulA, oSub, oFdiv, oMod, oPow, oLt, oLe, oGt, oGe, oEq, oNe, oIsN, oNotN, oIsB, oNotB, oIx, oSl, oLen, oSum, oAll, oAny, oAbs, o1I, o2I, oMin2, oMax2, oMin, oMax, oMinL, oMaxL, oInt, oBool, oList, oTuple, oSorted, oIn, oAddI, oGet, oSet, oAppend, oExtend, oPop, oPopAt, D.isNon, newL, Sto.seq, Sto.list, Sto.lsts, Sto.itOf, Sto.trk, Sto.now, startD, wipeD, D.tyN, List.map_cons, List.map_nil, List.cons_append, List.nil_append, List.length_cons, List.length_nil, List.getElem?_cons_zero, List.getElem?_cons_succ, List.set_cons_zero, List.set_cons_succ, List.replicate, Nat.sub_self, Nat.reduceSub, Nat.reduceAdd, Nat.zero_add, kb_ii, kb_ib, kb_it, kb_is, kb_bi, kb_bb, kb_bt, kb_bs, kb_tt, kb_ti, kb_ts, kb_ss, kb_si, kb_st, kb_nt, kb_ni, kb_ns, kb_lt, kb_li, kb_ls, ex_some, decide_eq_false h, cut_one]
    refine ⟨ns.take 1, rfl, by decide, cmul_small (n := 4639) (m := 1000) (by decide) (by omega) (by decide +kernel) (by decide +kernel), ?_⟩
    have := fin ((ns.take 1).sum % 1000211 + 4639 * (pl : Int) + 3163)
    simp only [dSeq, dNext, dRet, dRetN, dIfS, dAsg, dAsgG, dDrop, dPar2, dPar3, dAug, dAugS, dFor, dOp, dVar, dC, dTest, dChain, dAnd, dOr, dNot, dAndV, dOrV, dNotV, dIf, dTup, dLst, dNil, dCons, dStar, dCB, dCall, dSl, dNoPart, dPart, dBM, dRev, dNeg, dIsi, dListRg, dTupRg, dRg1, dRg2, dLc, dIt, dEnum, dZip2, dZip3, dRng1, dRng2, dYes, gN, gT, gsNil, gsCons, gSb, oI, oI0, oAdd, oMulA, oSub, oFdiv, oMod, oPow, oLt, oLe, oGt, oGe, oEq, oNe, oIsN, oNotN, oIsB, oNotB, oIx, oSl, oLen, oSum, oAll, oAny, oAbs, o1I, o2I, oMin2, oMax2, oMin, oMax, oMinL, oMaxL, oInt, oBool, oList, oTuple, oSorted, oIn, oAddI, oGet, oSet, oAppend, oExtend, oPop, oPopAt, D.isNon, newL, Sto.seq, Sto.list, Sto.lsts, Sto.itOf, Sto.trk, Sto.now, startD, wipeD, D.tyN, List.map_cons, List.map_nil, List.cons_append, List.nil_append, List.length_cons, List.length_nil, List.getElem?_cons_zero, List.getElem?_cons_succ, List.set_cons_zero, List.set_cons_succ, List.replicate, Nat.sub_self, Nat.reduceSub, Nat.reduceAdd, Nat.zero_add, kb_ii, kb_ib, kb_it, kb_is, kb_bi, kb_bb, kb_bt, kb_bs, kb_tt, kb_ti, kb_ts, kb_ss, kb_si, kb_st, kb_nt, kb_ni, kb_ns, kb_lt, kb_li, kb_ls, ex_some] at this
    exact this
def sp__law_take : DSp := fun ds S Q => ∃ (p : Addr) (n : Int) (b : Nat) (o : MO), ds = [.ref p, .int n] ∧ 0 < n ∧ n < 1000000 ∧ S p = some o ∧ PotO b o ∧ b ≤ 1000000 ∧ ∀ k o', 0 ≤ k → k < n → PotO (b + 1) o' → Q (.int k) (S.up p o')
theorem pure__law_take : ∀ ds S Q, sp__law_take ds S Q → t__law_take (DeN Q) (startD N__law_take ds) S := by
  rintro ds S Q ⟨p, n, b, o, rfl, hn, hn2, hS, ⟨own, small_, c, rfl, h1, h2, h3, h4, h5⟩, hb, q⟩
  have i0 : ∀ x y z : Int, atI [D.int x, D.int y, D.int z] 0 = some (.int x) := fun _ _ _ => rfl
  have i1 : ∀ x y z : Int, atI [D.int x, D.int y, D.int z] 1 = some (.int y) := fun _ _ _ => rfl
  have i2 : ∀ x y z : Int, atI [D.int x, D.int y, D.int z] 2 = some (.int z) := fun _ _ _ => rfl
  simp only [t__law_take, dSeq, dNext, dRet, dRetN, dIfS, dAsg, dAsgG, dDrop, dPar2, dPar3, dAug, dAugS, dFor, dOp, dVar, dC, dTest, dChain, dAnd, dOr, dNot, dAndV, dOrV, dNotV, dIf, dTup, dLst, dNil, dCons, dStar, dCB, dCall, dSl, dNoPart, dPart, dBM, dRev, dNeg, dIsi, dListRg, dTupRg, dRg1, dRg2, dLc, dIt, dEnum, dZip2, dZip3, dRng1, dRng2, dYes, gN, gT, gsNil, gsCons, gSb, oI, oI0, oAdd, oMulA, oSub, oFdiv, oMod, oPow, oLt, oLe, oGt, oGe, oEq, oNe, oIsN, oNotN, oIsB, oNotB, oIx, oSl, oLen, oSum, oAll, oAny, oAbs, o1I, o2I, oMin2, oMax2, oMin, oMax, oMinL, oMaxL, oInt, oBool, oList, oTuple, oSorted, oIn, oAddI, oGet, oSet, oAppend, oExtend, oPop, oPopAt, D.isNon, newL, Sto.seq, Sto.list, Sto.lsts, Sto.itOf, Sto.trk, Sto.now, startD, wipeD, D.tyN, List.map_cons, List.map_nil, List.cons_append, List.nil_append, List.length_cons, List.length_nil, List.getElem?_cons_zero, List.getElem?_cons_succ, List.set_cons_zero, List.set_cons_succ, List.replicate, Nat.sub_self, Nat.reduceSub, Nat.reduceAdd, Nat.zero_add, kb_ii, kb_ib, kb_it, kb_is, kb_bi, kb_bb, kb_bt, kb_bs, kb_tt, kb_ti, kb_ts, kb_ss, kb_si, kb_st, kb_nt, kb_ni, kb_ns, kb_lt, kb_li, kb_ls, ex_some, hS, i0]
  by_cases ho : 0 < own
  · simp only [decide_eq_true ho, hS, i0, dSeq, dNext, dRet, dRetN, dIfS, dAsg, dAsgG, dDrop, dPar2, dPar3, dAug, dAugS, dFor, dOp, dVar, dC, dTest, dChain, dAnd, dOr, dNot, dAndV, dOrV, dNotV, dIf, dTup, dLst, dNil, dCons, dStar, dCB, dCall, dSl, dNoPart, dPart, dBM, dRev, dNeg, dIsi, dListRg, dTupRg, dRg1, dRg2, dLc, dIt, dEnum, dZip2, dZip3, dRng1, dRng2, dYes, gN, gT, gsNil, gsCons, gSb, oI, oI0, oAdd, oMulA, oSub, oFdiv, oMod, oPow, oLt, oLe, oGt, oGe, oEq, oNe, oIsN, oNotN, oIsB, oNotB, oIx, oSl, oLen, oSum, oAll, oAny, oAbs, o1I, o2I, oMin2, oMax2, oMin, oMax, oMinL, oMaxL, oInt, oBool, oList, oTuple, oSorted, oIn, oAddI, oGet, oSet, oAppend, oExtend, oPop, oPopAt, D.isNon, newL, Sto.seq, Sto.list, Sto.lsts, Sto.itOf, Sto.trk, Sto.now, startD, wipeD, D.tyN, List.map_cons, List.map_nil, List.cons_append, List.nil_append, List.length_cons, List.length_nil, List.getElem?_cons_zero, List.getElem?_cons_succ, List.set_cons_zero, List.set_cons_succ, List.replicate, Nat.sub_self, Nat.reduceSub, Nat.reduceAdd, Nat.zero_add, kb_ii, kb_ib, kb_it, kb_is, kb_bi, kb_bb, kb_bt, kb_bs, kb_tt, kb_ti, kb_ts, kb_ss, kb_si, kb_st, kb_nt, kb_ni, kb_ns, kb_lt, kb_li, kb_ls, ex_some]
    refine ⟨hn, ⟨hn, by omega⟩, 0, rfl, ?_⟩
    simp only [dSeq, dNext, dRet, dRetN, dIfS, dAsg, dAsgG, dDrop, dPar2, dPar3, dAug, dAugS, dFor, dOp, dVar, dC, dTest, dChain, dAnd, dOr, dNot, dAndV, dOrV, dNotV, dIf, dTup, dLst, dNil, dCons, dStar, dCB, dCall, dSl, dNoPart, dPart, dBM, dRev, dNeg, dIsi, dListRg, dTupRg, dRg1, dRg2, dLc, dIt, dEnum, dZip2, dZip3, dRng1, dRng2, dYes, gN, gT, gsNil, gsCons, gSb, oI, oI0, oAdd, oMulA, oSub, oFdiv, oMod, oPow, oLt, oLe, oGt, oGe, oEq, oNe, oIsN, oNotN, oIsB, oNotB, oIx, oSl, oLen, oSum, oAll, oAny, oAbs, o1I, o2I, oMin2, oMax2, oMin, oMax, oMinL, oMaxL, oInt, oBool, oList, oTuple, oSorted, oIn, oAddI, oGet, oSet, oAppend, oExtend, oPop, oPopAt, D.isNon, newL, Sto.seq, Sto.list, Sto.lsts, Sto.itOf, Sto.trk, Sto.now, startD, wipeD, D.tyN, List.map_cons, List.map_nil, List.cons_append, List.nil_append, List.length_cons, List.length_nil, List.getElem?_cons_zero, List.getElem?_cons_succ, List.set_cons_zero, List.set_cons_succ, List.replicate, Nat.sub_self, Nat.reduceSub, Nat.reduceAdd, Nat.zero_add, kb_ii, kb_ib, kb_it, kb_is, kb_bi, kb_bb, kb_bt, kb_bs, kb_tt, kb_ti, kb_ts, kb_ss, kb_si, kb_st, kb_nt, kb_ni, kb_ns, kb_lt, kb_li, kb_ls, ex_some]
    refine .here (q _ _ (Int.emod_nonneg _ (by omega)) (Int.emod_lt_of_pos _ hn) ⟨_, _, _, rfl, Int.ediv_nonneg h1 (by omega), h2, h3, h4, by omega⟩)
  · simp only [decide_eq_false ho, i2, dSeq, dNext, dRet, dRetN, dIfS, dAsg, dAsgG, dDrop, dPar2, dPar3, dAug, dAugS, dFor, dOp, dVar, dC, dTest, dChain, dAnd, dOr, dNot, dAndV, dOrV, dNotV, dIf, dTup, dLst, dNil, dCons, dStar, dCB, dCall, dSl, dNoPart, dPart, dBM, dRev, dNeg, dIsi, dListRg, dTupRg, dRg1, dRg2, dLc, dIt, dEnum, dZip2, dZip3, dRng1, dRng2, dYes, gN, gT, gsNil, gsCons, gSb, oI, oI0, oAdd, oMulA, oSub, oFdiv, oMod, oPow, oLt, oLe, oGt, oGe, oEq, oNe, oIsN, oNotN, oIsB, oNotB, oIx, oSl, oLen, oSum, oAll, oAny, oAbs, o1I, o2I, oMin2, oMax2, oMin, oMax, oMinL, oMaxL, oInt, oBool, oList, oTuple, oSorted, oIn, oAddI, oGet, oSet, oAppend, oExtend, oPop, oPopAt, D.isNon, newL, Sto.seq, Sto.list, Sto.lsts, Sto.itOf, Sto.trk, Sto.now, startD, wipeD, D.tyN, List.map_cons, List.map_nil, List.cons_append, List.nil_append, List.length_cons, List.length_nil, List.getElem?_cons_zero, List.getElem?_cons_succ, List.set_cons_zero, List.set_cons_succ, List.replicate, Nat.sub_self, Nat.reduceSub, Nat.reduceAdd, Nat.zero_add, kb_ii, kb_ib, kb_it, kb_is, kb_bi, kb_bb, kb_bt, kb_bs, kb_tt, kb_ti, kb_ts, kb_ss, kb_si, kb_st, kb_nt, kb_ni, kb_ns, kb_lt, kb_li, kb_ls, ex_some]
    refine ⟨2, rfl, ?_⟩
    simp only [Sto.up_same, dSeq, dNext, dRet, dRetN, dIfS, dAsg, dAsgG, dDrop, dPar2, dPar3, dAug, dAugS, dFor, dOp, dVar, dC, dTest, dChain, dAnd, dOr, dNot, dAndV, dOrV, dNotV, dIf, dTup, dLst, dNil, dCons, dStar, dCB, dCall, dSl, dNoPart, dPart, dBM, dRev, dNeg, dIsi, dListRg, dTupRg, dRg1, dRg2, dLc, dIt, dEnum, dZip2, dZip3, dRng1, dRng2, dYes, gN, gT, gsNil, gsCons, gSb, oI, oI0, oAdd, oMulA, oSub, oFdiv, oMod, oPow, oLt, oLe, oGt, oGe, oEq, oNe, oIsN, oNotN, oIsB, oNotB, oIx, oSl, oLen, oSum, oAll, oAny, oAbs, o1I, o2I, oMin2, oMax2, oMin, oMax, oMinL, oMaxL, oInt, oBool, oList, oTuple, oSorted, oIn, oAddI, oGet, oSet, oAppend, oExtend, oPop, oPopAt, D.isNon, newL, Sto.seq, Sto.list, Sto.lsts, Sto.itOf, Sto.trk, Sto.now, startD, wipeD, D.tyN, List.map_cons, List.map_nil, List.cons_append, List.nil_append, List.length_cons, List.length_nil, List.getElem?_cons_zero, List.getElem?_cons_succ, List.set_cons_zero, List.set_cons_succ, List.replicate, Nat.sub_self, Nat.reduceSub, Nat.reduceAdd, Nat.zero_add, kb_ii, kb_ib, kb_it, kb_is, kb_bi, kb_bb, kb_bt, kb_bs, kb_tt, kb_ti, kb_ts, kb_ss, kb_si, kb_st, kb_nt, kb_ni, kb_ns, kb_lt, kb_li, kb_ls, ex_some, i2, i1]
    refine ⟨small (by omega), by decide, ?_⟩
    have hm0 := Int.emod_nonneg (c + 1) (show (5 : Int) ≠ 0 by decide)
    have hm1 := Int.emod_lt_of_pos (c + 1) (show (0 : Int) < 5 by decide)
    have hpr : ∃ P : Int, 0 < P ∧ P ≤ 2147483647 ∧ atI [D.int 2147483647, D.int 2147483629, D.int 2147483587, D.int 2147483579, D.int 2147483563] ((c + 1) % 5) = some (.int P) := by
      have : (c + 1) % 5 = 0 ∨ (c + 1) % 5 = 1 ∨ (c + 1) % 5 = 2 ∨ (c + 1) % 5 = 3 ∨ (c + 1) % 5 = 4 := by omega
      rcases this with e | e | e | e | e <;> rw [e]
      · exact ⟨2147483647, by decide, by decide, rfl⟩
      · exact ⟨2147483629, by decide, by decide, rfl⟩
      · exact ⟨2147483587, by decide, by decide, rfl⟩
      · exact ⟨2147483579, by decide, by decide, rfl⟩
      · exact ⟨2147483563, by decide, by decide, rfl⟩
    obtain ⟨P, hP0, hP1, hP⟩ := hpr
    have cc : ((95257 * (c + 1)) * (c + 1)).natAbs ≤ 95257 * 1000001 * 1000001 := by
      rw [Int.natAbs_mul, Int.natAbs_mul]
      exact Nat.mul_le_mul (Nat.mul_le_mul (by decide) (by omega)) (by omega)
    simp only [hP, Sto.up_same, i2, i1, dSeq, dNext, dRet, dRetN, dIfS, dAsg, dAsgG, dDrop, dPar2, dPar3, dAug, dAugS, dFor, dOp, dVar, dC, dTest, dChain, dAnd, dOr, dNot, dAndV, dOrV, dNotV, dIf, dTup, dLst, dNil, dCons, dStar, dCB, dCall, dSl, dNoPart, dPart, dBM, dRev, dNeg, dIsi, dListRg, dTupRg, dRg1, dRg2, dLc, dIt, dEnum, dZip2, dZip3, dRng1, dRng2, dYes, gN, gT, gsNil, gsCons, gSb, oI, oI0, oAdd, oMulA, oSub, oFdiv, oMod, oPow, oLt, oLe, oGt, oGe, oEq, oNe, oIsN, oNotN, oIsB, oNotB, oIx, oSl, oLen, oSum, oAll, oAny, oAbs, o1I, o2I, oMin2, oMax2, oMin, oMax, oMinL, oMaxL, oInt, oBool, oList, oTuple, oSorted, oIn, oAddI, oGet, oSet, oAppend, oExtend, oPop, oPopAt, D.isNon, newL, Sto.seq, Sto.list, Sto.lsts, Sto.itOf, Sto.trk, Sto.now, startD, wipeD, D.tyN, List.map_cons, List.map_nil, List.cons_append, List.nil_append, List.length_cons, List.length_nil, List.getElem?_cons_zero, List.getElem?_cons_succ, List.set_cons_zero, List.set_cons_succ, List.replicate, Nat.sub_self, Nat.reduceSub, Nat.reduceAdd, Nat.zero_add, kb_ii, kb_ib, kb_it, kb_is, kb_bi, kb_bb, kb_bt, kb_bs, kb_tt, kb_ti, kb_ts, kb_ss, kb_si, kb_st, kb_nt, kb_ni, kb_ns, kb_lt, kb_li, kb_ls, ex_some]
    generalize hX : ((small_ + 95257 * (c + 1) * (c + 1) + 3163 : Int)) ^ Int.toNat 3 = X
    have m0 := Int.emod_nonneg X (Int.ne_of_gt hP0)
    have m1 := Int.emod_lt_of_pos X hP0
    have k0 := Int.emod_nonneg (X % P) (show (13441 : Int) ≠ 0 by decide)
    have k1 := Int.emod_lt_of_pos (X % P) (show (0 : Int) < 13441 by decide)
    refine ⟨cmul_small (n := 95257) (m := 1000001) (by decide) (by omega) (by decide +kernel) (by decide +kernel), cmul_small (n := 95257 * 1000001) (m := 1000001) (by omega) (by omega) (by decide +kernel) (by decide +kernel),
      ⟨by decide, by decide, Nat.lt_of_le_of_lt (show _ ≤ 2 ^ 70 by omega) (by decide +kernel)⟩, hP0, by decide,
      cmul_small (n := 419) (m := 1000001) (by decide) (by omega) (by decide +kernel) (by decide +kernel), cmul_small (n := 2147483647) (m := 2 ^ 40) (by omega) (by omega) (by decide +kernel) (by decide +kernel), by decide, ⟨by decide, by decide⟩, hn, ?_⟩
    refine .here (q _ _ (Int.emod_nonneg _ (by omega)) (Int.emod_lt_of_pos _ hn) ⟨own, small_, c + 1, rfl, h1, h2, h3, by omega, by omega⟩)
def sp__law_cells : DSp := fun ds S Q => ∃ (ns : List Int), ds = [.fz (ns.map .int), .int 3] ∧ ns.length ≤ 1000 ∧ ∀ n : Nat, n ≤ 3 → Q (.lst ((List.range n).map fun (i : Nat) => .int ((0 : Int) + (i : Nat)))) S
theorem pure__law_cells : ∀ ds S Q, sp__law_cells ds S Q → t__law_cells (DeN Q) (startD N__law_cells ds) S := by
  rintro ds S Q ⟨ns, rfl, hl, q⟩
  simp only [t__law_cells, dSeq, dNext, dRet, dRetN, dIfS, dAsg, dAsgG, dDrop, dPar2, dPar3, dAug, dAugS, dFor, dOp, dVar, dC, dTest, dChain, dAnd, dOr, dNot, dAndV, dOrV, dNotV, dIf, dTup, dLst, dNil, dCons, dStar, dCB, dCall, dSl, dNoPart, dPart, dBM, dRev, dNeg, dIsi, dListRg, dTupRg, dRg1, dRg2, dLc, dIt, dEnum, dZip2, dZip3, dRng1, dRng2, dYes, gN, gT, gsNil, gsCons, gSb, oI, oI0, oAdd, oMulA, oSub, oFdiv, oMod, oPow, oLt, oLe, oGt, oGe, oEq, oNe, oIsN, oNotN, oIsB, oNotB, oIx, oSl, oLen, oSum, oAll, oAny, oAbs, o1I, o2I, oMin2, oMax2, oMin, oMax, oMinL, oMaxL, oInt, oBool, oList, oTuple, oSorted, oIn, oAddI, oGet, oSet, oAppend, oExtend, oPop, oPopAt, D.isNon, newL, Sto.seq, Sto.list, Sto.lsts, Sto.itOf, Sto.trk, Sto.now, startD, wipeD, D.tyN, List.map_cons, List.map_nil, List.cons_append, List.nil_append, List.length_cons, List.length_nil, List.getElem?_cons_zero, List.getElem?_cons_succ, List.set_cons_zero, List.set_cons_succ, List.replicate, Nat.sub_self, Nat.reduceSub, Nat.reduceAdd, Nat.zero_add, kb_ii, kb_ib, kb_it, kb_is, kb_bi, kb_bb, kb_bt, kb_bs, kb_tt, kb_ti, kb_ts, kb_ss, kb_si, kb_st, kb_nt, kb_ni, kb_ns, kb_lt, kb_li, kb_ls, ex_some]
  have key : ∀ k : Int, 0 ≤ k → k ≤ 3 → RgOk 0 k ∧ FzQ Q (.lst (rgD 0 k)) S := fun k h0 h1 => by
    refine ⟨.of_le (by decide) (by omega) (by decide) h0, .here ?_⟩
    unfold rgD
    rw [show (k - 0).toNat = k.toNat by omega]
    exact q k.toNat (by omega)
  by_cases h1 : (((ns.map D.int).length : Nat) : Int) < 3
  · simp only [if_pos h1]
    by_cases h2 : (((ns.map D.int).length : Nat) : Int) > 1
    · simp only [if_pos h2]; exact key _ (by omega) (by omega)
    · simp only [if_neg h2]; exact key 1 (by decide) (by decide)
  · simp only [if_neg h1]
    have : (3 : Int) > 1 := by decide
    simp only [if_pos this]; exact key 3 (by decide) (by decide)
theorem cut_take (r : List Int) (k : Int) (h0 : 0 ≤ k) : PL.cutD (r.map D.int) none (some k) = (r.take k.toNat).map D.int := by
  unfold PL.cutD
  have h1 : HT.sIx (r.map D.int).length 0 none = 0 := rfl
  have h2 : HT.sIx (r.map D.int).length (r.map D.int).length (some k) = min k.toNat r.length := by
    unfold HT.sIx; simp only [if_neg (Int.not_lt.mpr h0), List.length_map]
  rw [h1, h2, List.drop_zero, Nat.sub_zero, List.map_take]
  rw [← List.length_map (as := r) (f := D.int), ← List.take_eq_take_min]
def sp__law_heap : DSp := fun ds S Q => ∃ (W : List (List Int)) (L : Nat) (m : Int) (c : List Int), ds = [eW W, eI c] ∧ GW W L ∧ Vec W L m c ∧ Q (.int (heap W c)) S
theorem pure__law_heap : ∀ ds S Q, sp__law_heap ds S Q → t__law_heap (DeN Q) (startD N__law_heap ds) S := by
  rintro ds S Q ⟨W, L, m, c, rfl, g, v, q⟩
  simp only [t__law_heap, dSeq, dNext, dRet, dRetN, dIfS, dAsg, dAsgG, dDrop, dPar2, dPar3, dAug, dAugS, dFor, dOp, dVar, dC, dTest, dChain, dAnd, dOr, dNot, dAndV, dOrV, dNotV, dIf, dTup, dLst, dNil, dCons, dStar, dCB, dCall, dSl, dNoPart, dPart, dBM, dRev, dNeg, dIsi, dListRg, dTupRg, dRg1, dRg2, dLc, dIt, dEnum, dZip2, dZip3, dRng1, dRng2, dYes, gN, gT, gsNil, gsCons, gSb, oI, oI0, oAdd, oMulA, oSub, oFdiv, oMod, oPow, oLt, oLe, oGt, oGe, oEq, oNe, oIsN, oNotN, oIsB, oNotB, oIx, oSl, oLen, oSum, oAll, oAny, oAbs, o1I, o2I, oMin2, oMax2, oMin, oMax, oMinL, oMaxL, oInt, oBool, oList, oTuple, oSorted, oIn, oAddI, oGet, oSet, oAppend, oExtend, oPop, oPopAt, newL, startD, wipeD, D.tyN, List.map_cons, List.map_nil, List.cons_append, List.nil_append, List.length_cons, List.length_nil, List.getElem?_cons_zero, List.getElem?_cons_succ, List.set_cons_zero, List.set_cons_succ, List.replicate, Nat.sub_self, Nat.reduceSub, Nat.reduceAdd, Nat.zero_add, kb_ii, kb_ib, kb_it, kb_is, kb_bi, kb_bb, kb_bt, kb_bs, kb_tt, kb_ti, kb_ts, kb_ss, kb_si, kb_st, kb_nt, kb_ni, kb_ns, kb_lt, kb_li, kb_ls, ex_some, seq_tup, seq_lst, seq_fz, list_lst, lsts_lst, lsts_fz, itOf_tup, itOf_lst, itOf_fz, now_int, now_bl, now_non, now_str, now_tup, now_lst, isNon_non, isNon_int, isNon_tup, isNon_ref, isNon_lst, isNon_str, isNon_bl, eW, eI, zip_map2]
  refine lc_mapE (ok := fun _ => True ∧ True) (List.zip W c) (fun p => D.tup [eI p.1, .int p.2]) (fun p => .int (p.1.take p.2.toNat).sum) (fun _ _ => ⟨trivial, trivial⟩) (small (by have := g.n8; simp; omega)) (fun p hp S' e N M h => ?_) ?_
  · obtain ⟨r, k⟩ := p
    have k0 := v.nn _ (List.of_mem_zip hp).2
    simp only [dSeq, dNext, dRet, dRetN, dIfS, dAsg, dAsgG, dDrop, dPar2, dPar3, dAug, dAugS, dFor, dOp, dVar, dC, dTest, dChain, dAnd, dOr, dNot, dAndV, dOrV, dNotV, dIf, dTup, dLst, dNil, dCons, dStar, dCB, dCall, dSl, dNoPart, dPart, dBM, dRev, dNeg, dIsi, dListRg, dTupRg, dRg1, dRg2, dLc, dIt, dEnum, dZip2, dZip3, dRng1, dRng2, dYes, gN, gT, gsNil, gsCons, gSb, oI, oI0, oAdd, oMulA, oSub, oFdiv, oMod, oPow, oLt, oLe, oGt, oGe, oEq, oNe, oIsN, oNotN, oIsB, oNotB, oIx, oSl, oLen, oSum, oAll, oAny, oAbs, o1I, o2I, oMin2, oMax2, oMin, oMax, oMinL, oMaxL, oInt, oBool, oList, oTuple, oSorted, oIn, oAddI, oGet, oSet, oAppend, oExtend, oPop, oPopAt, newL, startD, wipeD, D.tyN, List.map_cons, List.map_nil, List.cons_append, List.nil_append, List.length_cons, List.length_nil, List.getElem?_cons_zero, List.getElem?_cons_succ, List.set_cons_zero, List.set_cons_succ, List.replicate, Nat.sub_self, Nat.reduceSub, Nat.reduceAdd, Nat.zero_add, kb_ii, kb_ib, kb_it, kb_is, kb_bi, kb_bb, kb_bt, kb_bs, kb_tt, kb_ti, kb_ts, kb_ss, kb_si, kb_st, kb_nt, kb_ni, kb_ns, kb_lt, kb_li, kb_ls, ex_some, seq_tup, seq_lst, seq_fz, list_lst, lsts_lst, lsts_fz, itOf_tup, itOf_lst, itOf_fz, now_int, now_bl, now_non, now_str, now_tup, now_lst, isNon_non, isNon_int, isNon_tup, isNon_ref, isNon_lst, isNon_str, isNon_bl, eI, cut_take r k k0]
    exact ⟨trivial, _, rfl, h⟩
  · simp only [dSeq, dNext, dRet, dRetN, dIfS, dAsg, dAsgG, dDrop, dPar2, dPar3, dAug, dAugS, dFor, dOp, dVar, dC, dTest, dChain, dAnd, dOr, dNot, dAndV, dOrV, dNotV, dIf, dTup, dLst, dNil, dCons, dStar, dCB, dCall, dSl, dNoPart, dPart, dBM, dRev, dNeg, dIsi, dListRg, dTupRg, dRg1, dRg2, dLc, dIt, dEnum, dZip2, dZip3, dRng1, dRng2, dYes, gN, gT, gsNil, gsCons, gSb, oI, oI0, oAdd, oMulA, oSub, oFdiv, oMod, oPow, oLt, oLe, oGt, oGe, oEq, oNe, oIsN, oNotN, oIsB, oNotB, oIx, oSl, oLen, oSum, oAll, oAny, oAbs, o1I, o2I, oMin2, oMax2, oMin, oMax, oMinL, oMaxL, oInt, oBool, oList, oTuple, oSorted, oIn, oAddI, oGet, oSet, oAppend, oExtend, oPop, oPopAt, newL, startD, wipeD, D.tyN, List.map_cons, List.map_nil, List.cons_append, List.nil_append, List.length_cons, List.length_nil, List.getElem?_cons_zero, List.getElem?_cons_succ, List.set_cons_zero, List.set_cons_succ, List.replicate, Nat.sub_self, Nat.reduceSub, Nat.reduceAdd, Nat.zero_add, kb_ii, kb_ib, kb_it, kb_is, kb_bi, kb_bb, kb_bt, kb_bs, kb_tt, kb_ti, kb_ts, kb_ss, kb_si, kb_st, kb_nt, kb_ni, kb_ns, kb_lt, kb_li, kb_ls, ex_some, seq_tup, seq_lst, seq_fz, list_lst, lsts_lst, lsts_fz, itOf_tup, itOf_lst, itOf_fz, now_int, now_bl, now_non, now_str, now_tup, now_lst, isNon_non, isNon_int, isNon_tup, isNon_ref, isNon_lst, isNon_str, isNon_bl]
    refine ⟨(List.zip W c).map fun p => (p.1.take p.2.toNat).sum, by rw [List.map_map]; rfl, .here (by unfold heap at q; exact q)⟩
end L46
namespace L46
open PySem PySem.Spec PySem.W PyProof.Rows L2 PL
/-! ### turned about -/
theorem getD_rev {α : Type} {l : List α} {i : Nat} (d : α) (h : i < l.length) : l.reverse.getD i d = l.getD (l.length - 1 - i) d := by
  rw [List.getD_eq_getElem?_getD, List.getD_eq_getElem?_getD, List.getElem?_reverse h]
theorem GW.rev {W : List (List Int)} {L : Nat} (g : GW W L) : GW W.reverse L :=
  ⟨by rw [List.length_reverse]; exact g.n1, by rw [List.length_reverse]; exact g.n8, g.l1, g.l60, fun r h => g.len r (List.mem_reverse.mp h), fun r h => g.ord r (List.mem_reverse.mp h), fun r h => g.bd r (List.mem_reverse.mp h)⟩
theorem Vec.rev {W : List (List Int)} {L : Nat} {m : Int} {c : List Int} (v : Vec W L m c) : Vec W.reverse L m c.reverse :=
  ⟨by rw [List.length_reverse, List.length_reverse, v.len], fun x h => v.nn x (List.mem_reverse.mp h), fun x h => v.le x (List.mem_reverse.mp h), by rw [List.sum_reverse, v.sum]⟩
theorem Calm.rev {W : List (List Int)} {L : Nat} {m : Int} {c : List Int} (k : Calm W L m c) : Calm W.reverse L m c.reverse := by
  refine ⟨k.toVec.rev, fun i j h => k.no (W.length - 1 - i) (W.length - 1 - j) ?_⟩
  have hi := h.hi
  have hj := h.hj
  rw [List.length_reverse] at hi hj
  have hl := k.len
  have e1 : cA c.reverse i = cA c (W.length - 1 - i) := by unfold cA; rw [getD_rev 0 (by omega), hl]
  have e2 : cA c.reverse j = cA c (W.length - 1 - j) := by unfold cA; rw [getD_rev 0 (by omega), hl]
  have a := h.ci
  have b := h.cj
  have d := h.lt
  have ne := h.ne
  unfold at2 at d
  rw [e1, e2, getD_rev [] hi, getD_rev [] hj] at d
  rw [e1] at a
  rw [e2] at b
  exact ⟨by omega, by omega, by omega, a, b, d⟩
theorem total_rev {W : List (List Int)} {c : List Int} (h : c.length = W.length) : total W.reverse c.reverse = total W c := by
  unfold total
  have e : W.reverse.zip c.reverse = (W.zip c).reverse := by
    rw [List.zip_eq_zipWith, List.zip_eq_zipWith, List.reverse_zipWith h.symm]
  rw [e, List.map_reverse, List.sum_reverse]
theorem VP.rev {k : Nat} {x : Int} {c : List Int} (v : VP k x c) : VP k x c.reverse := ⟨by rw [List.length_reverse, v.len], fun y h => v.nn y (List.mem_reverse.mp h), by rw [List.sum_reverse, v.sum]⟩
theorem Best.uniq {W : List (List Int)} {x v v' : Int} (a : Best W x v) (b : Best W x v') : v = v' := by
  obtain ⟨c, h1, h2⟩ := a.at_
  obtain ⟨c', h1', h2'⟩ := b.at_
  have := a.le c' h1'
  have := b.le c h1
  omega
theorem Best.rev {W : List (List Int)} {x v : Int} (a : Best W x v) : Best W.reverse x v := by
  obtain ⟨⟨c, h1, h2⟩, h3⟩ := a
  refine ⟨⟨c.reverse, by rw [List.length_reverse]; exact h1.rev, by rw [total_rev h1.len]; exact h2⟩, fun c' h' => ?_⟩
  rw [List.length_reverse] at h'
  have := h3 c'.reverse h'.rev
  have e := total_rev (W := W) (c := c'.reverse) (by rw [List.length_reverse, h'.len])
  rw [List.reverse_reverse] at e
  omega
theorem Vec.vp {W : List (List Int)} {L : Nat} {m : Int} {c : List Int} (v : Vec W L m c) : VP W.length m c := ⟨v.len, v.nn, v.sum⟩
/-! ### twice as long -/
def dbl (W : List (List Int)) : List (List Int) := W.map fun r => r.map fun x => 2 * x
theorem dbl_row {W : List (List Int)} {r : List Int} (h : r ∈ dbl W) : ∃ r0 ∈ W, r = r0.map fun x => 2 * x := by
  obtain ⟨r0, h1, h2⟩ := List.mem_map.mp h
  exact ⟨r0, h1, h2.symm⟩
theorem GW.dbl {W : List (List Int)} {L : Nat} (g : GW W L) (hb : ∀ r ∈ W, ∀ x ∈ r, x ≤ 1000) : GW (dbl W) L := by
  refine ⟨by unfold L46.dbl; rw [List.length_map]; exact g.n1, by unfold L46.dbl; rw [List.length_map]; exact g.n8, g.l1, g.l60, fun r h => ?_, fun r h => ?_, fun r h x hx => ?_⟩
  · obtain ⟨r0, h0, rfl⟩ := dbl_row h
    rw [List.length_map]; exact g.len _ h0
  · obtain ⟨r0, h0, rfl⟩ := dbl_row h
    exact List.pairwise_map.mpr ((g.ord _ h0).imp fun h => by omega)
  · obtain ⟨r0, h0, rfl⟩ := dbl_row h
    obtain ⟨y, hy, rfl⟩ := List.mem_map.mp hx
    have := g.bd _ h0 y hy
    have := hb _ h0 y hy
    omega
theorem dbl_len {W : List (List Int)} : (dbl W).length = W.length := by unfold dbl; rw [List.length_map]
theorem dbl_get {W : List (List Int)} {i : Nat} (h : i < W.length) : (dbl W).getD i [] = (W.getD i []).map fun x => 2 * x := by
  unfold dbl
  rw [List.getD_eq_getElem?_getD, List.getD_eq_getElem?_getD, List.getElem?_map, List.getElem?_eq_getElem h]; rfl
theorem dbl_at (r : List Int) (k : Nat) : (r.map fun x => 2 * x).getD k 0 = 2 * r.getD k 0 := by
  rw [List.getD_eq_getElem?_getD, List.getD_eq_getElem?_getD, List.getElem?_map]
  cases r[k]? with
  | none => rfl
  | some x => rfl
theorem at2_dbl {W : List (List Int)} {i : Nat} {k : Int} (h : i < W.length) : at2 (dbl W) i k = 2 * at2 W i k := by
  unfold at2
  rw [dbl_get h]
  exact dbl_at _ _
theorem Calm.dbl {W : List (List Int)} {L : Nat} {m : Int} {c : List Int} (k : Calm W L m c) : Calm (dbl W) L m c := by
  refine ⟨⟨by rw [dbl_len]; exact k.len, k.nn, k.le, k.sum⟩, fun i j h => k.no i j ?_⟩
  have hi := h.hi
  have hj := h.hj
  have d := h.lt
  rw [dbl_len] at hi hj
  rw [at2_dbl hi, at2_dbl hj] at d
  exact ⟨hi, hj, h.ne, h.ci, h.cj, by omega⟩
theorem total_dbl {W : List (List Int)} {c : List Int} : total (dbl W) c = 2 * total W c := by
  unfold total dbl
  induction W generalizing c with
  | nil => simp
  | cons r W ih =>
    cases c with
    | nil => simp
    | cons x c =>
      rw [List.map_cons, List.zip_cons_cons, List.zip_cons_cons, List.map_cons, List.map_cons, List.sum_cons, List.sum_cons, ih]
      have : costR (r.map fun x => 2 * x) x = 2 * costR r x := by
        unfold costR
        by_cases h : 0 < x
        · rw [if_pos h, if_pos h]
          have e : (r.map fun x => 2 * x).getD (x - 1).toNat 0 = 2 * r.getD (x - 1).toNat 0 := by
            rw [List.getD_eq_getElem?_getD, List.getD_eq_getElem?_getD, List.getElem?_map]
            cases r[(x - 1).toNat]? with
            | none => rfl
            | some y => rfl
          rw [e, Int.mul_left_comm]
        · rw [if_neg h, if_neg h]; rfl
      show costR (r.map fun x => 2 * x) x + _ = _
      rw [this]
      show 2 * costR r x + _ = 2 * (costR r x + _)
      omega
theorem costR_bd {r : List Int} {x : Int} (h0 : 0 ≤ x) (hb : ∀ y ∈ r, 0 ≤ y ∧ y ≤ 1000000) : 0 ≤ costR r x ∧ costR r x ≤ 1000000 * x := by
  unfold costR
  by_cases h : 0 < x
  · rw [if_pos h]
    have : 0 ≤ r.getD (x - 1).toNat 0 ∧ r.getD (x - 1).toNat 0 ≤ 1000000 := by
      rw [List.getD_eq_getElem?_getD]
      cases e : r[(x - 1).toNat]? with
      | none => exact ⟨by decide, by decide⟩
      | some y => exact hb y (List.mem_of_getElem? e)
    refine ⟨Int.mul_nonneg h0 this.1, ?_⟩
    rw [Int.mul_comm]
    exact Int.mul_le_mul_of_nonneg_right this.2 h0
  · rw [if_neg h]; omega
theorem total_bd : ∀ {W : List (List Int)} {c : List Int}, c.length = W.length → (∀ x ∈ c, 0 ≤ x) → (∀ r ∈ W, ∀ y ∈ r, 0 ≤ y ∧ y ≤ 1000000) → 0 ≤ total W c ∧ total W c ≤ 1000000 * c.sum
  | [], [], _, _, _ => by simp [total]
  | r :: W, [], h, _, _ => by simp at h
  | [], x :: c, h, _, _ => by simp at h
  | r :: W, x :: c, h, h0, hb => by
    obtain ⟨a1, a2⟩ := total_bd (W := W) (c := c) (by simpa using h) (fun y hy => h0 y (List.mem_cons_of_mem _ hy)) (fun r hr => hb r (List.mem_cons_of_mem _ hr))
    obtain ⟨b1, b2⟩ := costR_bd (r := r) (x := x) (h0 x List.mem_cons_self) (hb r List.mem_cons_self)
    have e : total (r :: W) (x :: c) = costR r x + total W c := by simp [total]
    rw [e, List.sum_cons]
    omega
/-! ### flat rows -/
def flat (L : Nat) (ws : List Int) : List (List Int) := ws.map fun w => List.replicate L w
theorem GW.flat {L : Nat} {ws : List Int} (h1 : 1 ≤ ws.length) (h8 : ws.length ≤ 8) (l1 : 1 ≤ L) (l60 : L ≤ 60) (hb : ∀ w ∈ ws, 0 ≤ w ∧ w ≤ 1000) : GW (flat L ws) L := by
  have row : ∀ r ∈ L46.flat L ws, ∃ w ∈ ws, r = List.replicate L w := fun r h => by
    obtain ⟨w, a, b⟩ := List.mem_map.mp h
    exact ⟨w, a, b.symm⟩
  refine ⟨by unfold L46.flat; rw [List.length_map]; exact h1, by unfold L46.flat; rw [List.length_map]; exact h8, l1, l60, fun r h => ?_, fun r h => ?_, fun r h x hx => ?_⟩
  · obtain ⟨w, a, rfl⟩ := row r h; simp
  · obtain ⟨w, a, rfl⟩ := row r h; exact List.pairwise_replicate.mpr (.inr (Int.le_refl _))
  · obtain ⟨w, a, rfl⟩ := row r h
    rw [(List.mem_replicate.mp hx).2]
    have := hb w a
    omega
theorem cost_flat {L : Nat} {w x : Int} (h0 : 0 ≤ x) (hx : x ≤ L) : costR (List.replicate L w) x = x * w := by
  unfold costR
  by_cases h : 0 < x
  · rw [if_pos h]
    have : (List.replicate L w).getD (x - 1).toNat 0 = w := by
      rw [List.getD_eq_getElem?_getD, List.getElem?_replicate, if_pos (by omega)]; rfl
    rw [this]
  · rw [if_neg h]
    have : x = 0 := by omega
    rw [this, Int.zero_mul]
/-- sums where each is weighed at least low, just low where it counts -/
theorem total_flat_ge {L : Nat} {low : Int} : ∀ {ws c : List Int}, c.length = ws.length → (∀ x ∈ c, 0 ≤ x ∧ x ≤ L) → (∀ w ∈ ws, low ≤ w) → c.sum * low ≤ total (flat L ws) c
  | [], [], _, _, _ => by simp [total]
  | w :: ws, [], h, _, _ => by simp at h
  | [], x :: c, h, _, _ => by simp at h
  | w :: ws, x :: c, h, h0, hb => by
    have ih := total_flat_ge (L := L) (low := low) (ws := ws) (c := c) (by simpa using h) (fun y hy => h0 y (List.mem_cons_of_mem _ hy)) (fun r hr => hb r (List.mem_cons_of_mem _ hr))
    have e : total (flat L (w :: ws)) (x :: c) = costR (List.replicate L w) x + total (flat L ws) c := by simp [total, flat]
    obtain ⟨x0, x1⟩ := h0 x List.mem_cons_self
    rw [e, List.sum_cons, cost_flat x0 x1, Int.add_mul]
    have := Int.mul_le_mul_of_nonneg_left (hb w List.mem_cons_self) x0
    omega
theorem total_flat_eq {L : Nat} {low : Int} : ∀ {ws c : List Int}, c.length = ws.length → (∀ x ∈ c, 0 ≤ x ∧ x ≤ L) → (∀ i, i < ws.length → 0 < cA c i → ws.getD i 0 = low) → total (flat L ws) c = c.sum * low
  | [], [], _, _, _ => by simp [total]
  | w :: ws, [], h, _, _ => by simp at h
  | [], x :: c, h, _, _ => by simp at h
  | w :: ws, x :: c, h, h0, hb => by
    have ih := total_flat_eq (L := L) (low := low) (ws := ws) (c := c) (by simpa using h) (fun y hy => h0 y (List.mem_cons_of_mem _ hy)) (fun i hi hc => hb (i + 1) (by simpa using hi) hc)
    have e : total (flat L (w :: ws)) (x :: c) = costR (List.replicate L w) x + total (flat L ws) c := by simp [total, flat]
    obtain ⟨x0, x1⟩ := h0 x List.mem_cons_self
    rw [e, List.sum_cons, cost_flat x0 x1, Int.add_mul, ih]
    by_cases hx : 0 < x
    · have := hb 0 (by simp) hx
      have : w = low := this
      rw [this]
    · have : x = 0 := by omega
      rw [this, Int.zero_mul, Int.zero_mul]
theorem flat_at {L : Nat} {ws : List Int} {i : Nat} {k : Int} (hi : i < ws.length) (h0 : 0 ≤ k) (h1 : k < L) : at2 (flat L ws) i k = ws.getD i 0 := by
  unfold at2 flat
  rw [List.getD_eq_getElem?_getD, List.getD_eq_getElem?_getD, List.getD_eq_getElem?_getD, List.getElem?_map, List.getElem?_eq_getElem hi]
  show ((List.replicate L ws[i])[k.toNat]?).getD 0 = ws[i]
  rw [List.getElem?_replicate, if_pos (by omega)]; rfl
theorem flat_len {L : Nat} {ws : List Int} : (flat L ws).length = ws.length := by unfold flat; rw [List.length_map]
/-- two places of a vector are no more than all -/
theorem two_sum : ∀ {c : List Int} {i j : Nat}, (∀ x ∈ c, 0 ≤ x) → i < c.length → j < c.length → i ≠ j → cA c i + cA c j ≤ c.sum := by
  intro c i j h0 hi hj ne
  have a := sum_setA (c := c) (i := i) (x := 0) hi
  have b : ∀ x ∈ c.set i 0, 0 ≤ x := fun x hx => by
    rcases List.mem_or_eq_of_mem_set hx with q | q
    · exact h0 x q
    · omega
  have d := (nn_sum b).2 _ (cA_mem (c := c.set i 0) (i := j) (by simpa using hj))
  rw [cA_set_ne ne] at d
  omega
theorem flat_total {L : Nat} {ws : List Int} {m low : Int} {c : List Int} (hm : m ≤ L) (st : Stl (flat L ws) L m c) (hin : low ∈ ws) (hle : ∀ w ∈ ws, low ≤ w) : total (flat L ws) c = m * low := by
  have hl := st.len
  rw [flat_len] at hl
  rw [← st.sum]
  refine total_flat_eq hl (fun x hx => ⟨st.nn x hx, st.le x hx⟩) fun i hi hc => ?_
  obtain ⟨j, hj, e⟩ := List.getElem_of_mem hin
  have ej : ws.getD j 0 = low := by rw [List.getD_eq_getElem?_getD, List.getElem?_eq_getElem hj, e]; rfl
  have hwi : low ≤ ws.getD i 0 := hle _ (by rw [List.getD_eq_getElem?_getD, List.getElem?_eq_getElem hi]; exact List.getElem_mem hi)
  by_cases hij : i = j
  · rw [hij]; exact ej
  · have ni := st.le _ (cA_mem (c := c) (i := i) (by omega))
    have nj := st.nn _ (cA_mem (c := c) (i := j) (by omega))
    have := two_sum st.nn (i := i) (j := j) (by omega) (by omega) hij
    rw [st.sum] at this
    have q := st.eq i j (by rw [flat_len]; exact hi) (by rw [flat_len]; exact hj) hij hc (by omega)
    rw [flat_at hi (by omega) (by omega), flat_at hj nj (by omega), ej] at q
    omega
theorem flat_best {L : Nat} {ws : List Int} {m low v : Int} (h0 : 0 ≤ m) (hm : m ≤ L) (hin : low ∈ ws) (hle : ∀ w ∈ ws, low ≤ w) (b : Best (flat L ws) m v) : v = m * low := by
  obtain ⟨⟨c, h1, h2⟩, h3⟩ := b
  have ok : ∀ c, VP (flat L ws).length m c → c.length = ws.length ∧ ∀ x ∈ c, 0 ≤ x ∧ x ≤ L := fun c v => ⟨by rw [v.len, flat_len], fun x hx => by
    have := (nn_sum v.nn).2 x hx
    rw [v.sum] at this
    exact ⟨v.nn x hx, by omega⟩⟩
  have a1 := total_flat_ge (L := L) (ok c h1).1 (ok c h1).2 hle
  rw [h1.sum, h2] at a1
  obtain ⟨j, hj, e⟩ := List.getElem_of_mem hin
  have hvp : VP (flat L ws).length m ((List.replicate ws.length 0).set j m) := by
    refine ⟨by simp [flat_len], fun x hx => ?_, ?_⟩
    · rcases List.mem_or_eq_of_mem_set hx with q | q
      · rw [(List.mem_replicate.mp q).2]; decide
      · omega
    · rw [sum_setA (by simpa using hj), List.sum_replicate_int]
      have : cA (List.replicate ws.length (0 : Int)) j = 0 := by unfold cA; rw [List.getD_eq_getElem?_getD, List.getElem?_replicate, if_pos hj]; rfl
      rw [this]; omega
  have a2 := h3 _ hvp
  rw [total_flat_eq (low := low) (ok _ hvp).1 (ok _ hvp).2 (fun i hi hc => ?_), hvp.sum] at a2
  · omega
  · by_cases q : j = i
    · subst q
      rw [List.getD_eq_getElem?_getD, List.getElem?_eq_getElem hj, e]; rfl
    · rw [cA_set_ne q] at hc
      have : cA (List.replicate ws.length (0 : Int)) i = 0 := by unfold cA; rw [List.getD_eq_getElem?_getD, List.getElem?_replicate, if_pos hi]; rfl
      omega
/-! ### stairs -/
def stairs (L : Nat) : List Int := (List.range L).map fun i => 1 + ((i : Nat) : Int)
theorem stairs_at {L : Nat} {k : Int} (h0 : 0 ≤ k) (h1 : k < L) : (stairs L).getD k.toNat 0 = k + 1 := by
  unfold stairs
  rw [List.getD_eq_getElem?_getD, List.getElem?_map, List.getElem?_range (by omega)]
  show 1 + ((k.toNat : Nat) : Int) = _
  omega
theorem stairs_GW {n L : Nat} (h1 : 1 ≤ n) (h8 : n ≤ 8) (l1 : 1 ≤ L) (l60 : L ≤ 60) : GW (List.replicate n (stairs L)) L := by
  refine ⟨by simpa using h1, by simpa using h8, l1, l60, fun r h => ?_, fun r h => ?_, fun r h x hx => ?_⟩
  · rw [(List.mem_replicate.mp h).2]; simp [stairs]
  · rw [(List.mem_replicate.mp h).2]
    unfold stairs
    refine List.pairwise_map.mpr (List.pairwise_lt_range.imp fun h => by omega)
  · rw [(List.mem_replicate.mp h).2] at hx
    obtain ⟨i, hi, rfl⟩ := List.mem_map.mp hx
    have := List.mem_range.mp hi
    omega
theorem stairs_near {n L : Nat} {m : Int} {c : List Int} (st : Stl (List.replicate n (stairs L)) L m c) : ∀ x ∈ c, ∀ y ∈ c, x ≤ y + 1 := by
  intro x hx y hy
  obtain ⟨i, hi, rfl⟩ := List.getElem_of_mem hx
  obtain ⟨j, hj, rfl⟩ := List.getElem_of_mem hy
  have ei : cA c i = c[i] := by unfold cA; rw [List.getD_eq_getElem?_getD, List.getElem?_eq_getElem hi]; rfl
  have ej : cA c j = c[j] := by unfold cA; rw [List.getD_eq_getElem?_getD, List.getElem?_eq_getElem hj]; rfl
  have hl := st.len
  rw [List.length_replicate] at hl
  have a := st.nn _ hy
  have b := st.le _ hx
  by_cases q : i = j
  · subst q; omega
  · by_cases h0 : 0 < c[i]
    · by_cases h1 : c[j] < (L : Int)
      · have := st.eq i j (by simp; omega) (by simp; omega) q (by omega) (by omega)
        unfold at2 at this
        rw [List.getD_eq_getElem?_getD (l := List.replicate n (stairs L)), List.getD_eq_getElem?_getD (l := List.replicate n (stairs L)), List.getElem?_replicate, List.getElem?_replicate, if_pos (by omega), if_pos (by omega), ei, ej] at this
        simp only [Option.getD_some] at this
        rw [stairs_at (by omega) (by omega), stairs_at (by omega) (by omega)] at this
        omega
      · omega
    · omega
end L46
namespace L46
open PySem PySem.Spec PySem.W PyProof.Rows L2 PL
def fst_ (n : Nat) (m : Int) : List Int := m :: List.replicate (n - 1) 0
theorem fst_vec {W : List (List Int)} {L : Nat} {m : Int} (g : GW W L) (h0 : 0 ≤ m) (h1 : m ≤ L) : Vec W L m (fst_ W.length m) := by
  refine ⟨by have := g.pos; simp [fst_]; omega, fun y hy => ?_, fun y hy => ?_, ?_⟩
  · rcases List.mem_cons.mp hy with rfl | hy
    · exact h0
    · rw [(List.mem_replicate.mp hy).2]; decide
  · rcases List.mem_cons.mp hy with rfl | hy
    · exact h1
    · rw [(List.mem_replicate.mp hy).2]; omega
  · unfold fst_; rw [List.sum_cons, List.sum_replicate_int]; omega
theorem sum_le {r : List Int} (h : ∀ x ∈ r, x ≤ 1000) : r.sum ≤ 1000 * (r.length : Int) := by
  induction r with
  | nil => simp
  | cons x r ih =>
    have := ih fun y hy => h y (List.mem_cons_of_mem _ hy)
    have := h x List.mem_cons_self
    rw [List.sum_cons, List.length_cons]; omega
theorem heap_fst {W : List (List Int)} {L : Nat} {m : Int} (g : GW W L) (hb : ∀ r ∈ W, ∀ x ∈ r, x ≤ 1000) : heap W (fst_ W.length m) ≤ 100000 := by
  obtain ⟨r, W', rfl⟩ := List.exists_cons_of_ne_nil (show W ≠ [] from fun z => by have := g.pos; rw [z] at this; exact absurd this (by decide))
  have e : heap (r :: W') (fst_ (r :: W').length m) = (r.take m.toNat).sum + heap W' (List.replicate W'.length 0) := by
    simp [heap, fst_]
  have z : heap W' (List.replicate W'.length 0) = 0 := by
    unfold heap
    have : ∀ W'' : List (List Int), ((List.zip W'' (List.replicate W''.length (0 : Int))).map fun p => (p.1.take p.2.toNat).sum).sum = 0 := by
      intro W''
      induction W'' with
      | nil => rfl
      | cons a l ih =>
        rw [List.length_cons, List.replicate_succ, List.zip_cons_cons, List.map_cons, List.sum_cons, ih]
        simp
    exact this W'
  have hl := g.len r List.mem_cons_self
  have := sum_le (r := r.take m.toNat) fun x hx => hb r List.mem_cons_self x (List.mem_of_mem_take hx)
  have hlt : (r.take m.toNat).length ≤ r.length := List.length_take_le' _ _
  have := g.l60
  rw [e, z]
  omega
theorem atI_head {α : Type} {l : List α} {x : α} (h : l.head? = some x) : atI l 0 = some x := by
  cases l with
  | nil => cases h
  | cons a l =>
    have e : ixN (a :: l).length 0 = some 0 := ixN_nn (by decide) (by rw [List.length_cons]; omega)
    unfold atI
    rw [e]
    exact h
theorem pair_gt : ∀ {r : List Int} {p : Int × Int}, r.Pairwise (· > ·) → p ∈ List.zip r r.tail → p.2 < p.1
  | [], p, _, h => by simp at h
  | [x], p, _, h => by simp at h
  | x :: y :: r, p, o, h => by
    rw [List.tail_cons, List.zip_cons_cons] at h
    rcases List.mem_cons.mp h with rfl | h
    · exact (List.pairwise_cons.mp o).1 y (List.mem_cons_self ..)
    · exact pair_gt (List.pairwise_cons.mp o).2 h
def sp__law_are_ways_right : DSp := fun ds S Q => ∃ (W : List (List Int)) (L : Nat) (m : Int), ds = [eW W, .int m] ∧ GW W L ∧ 0 ≤ m ∧ m ≤ L ∧ (∀ r ∈ W, ∀ x ∈ r, x ≤ 1000) ∧ Q (.bl true) S
theorem rep0 (n : Nat) : (List.replicate n [D.int 0]).flatten = (List.replicate n (0 : Int)).map D.int := rep_zero n
theorem set_ok : D.okn 8 (.tup [.str "settled"]) = true := by
  rw [okn_tup, List.all_cons, okn_str (by decide +kernel)]; rfl
theorem pure__law_are_ways_right : ∀ ds S Q, sp__law_are_ways_right ds S Q → t__law_are_ways_right sp_ways_to_settle sp__law_heap sp_would_change (DeN Q) (startD N__law_are_ways_right ds) S := by
  rintro ds S Q ⟨W, L, m, rfl, g, h0, h1, hb, q⟩
  have hn := g.pos
  have hn8 := g.n8
  simp only [t__law_are_ways_right, dSeq, dNext, dRet, dRetN, dIfS, dAsg, dAsgG, dDrop, dPar2, dPar3, dAug, dAugS, dFor, dOp, dVar, dC, dTest, dChain, dAnd, dOr, dNot, dAndV, dOrV, dNotV, dIf, dTup, dLst, dNil, dCons, dStar, dCB, dCall, dSl, dNoPart, dPart, dBM, dRev, dNeg, dIsi, dListRg, dTupRg, dRg1, dRg2, dLc, dIt, dEnum, dZip2, dZip3, dRng1, dRng2, dYes, gN, gT, gsNil, gsCons, gSb, oI, oI0, oAdd, oMulA, oSub, oFdiv, oMod, oPow, oLt, oLe, oGt, oGe, oEq, oNe, oIsN, oNotN, oIsB, oNotB, oIx, oSl, oLen, oSum, oAll, oAny, oAbs, o1I, o2I, oMin2, oMax2, oMin, oMax, oMinL, oMaxL, oInt, oBool, oList, oTuple, oSorted, oIn, oAddI, oGet, oSet, oAppend, oExtend, oPop, oPopAt, newL, startD, wipeD, D.tyN, List.map_cons, List.map_nil, List.cons_append, List.nil_append, List.length_cons, List.length_nil, List.getElem?_cons_zero, List.getElem?_cons_succ, List.set_cons_zero, List.set_cons_succ, List.replicate, Nat.sub_self, Nat.reduceSub, Nat.reduceAdd, Nat.zero_add, kb_ii, kb_ib, kb_it, kb_is, kb_bi, kb_bb, kb_bt, kb_bs, kb_tt, kb_ti, kb_ts, kb_ss, kb_si, kb_st, kb_nt, kb_ni, kb_ns, kb_lt, kb_li, kb_ls, ex_some, seq_tup, seq_lst, seq_fz, list_lst, lsts_lst, lsts_fz, itOf_tup, itOf_lst, itOf_fz, now_int, now_bl, now_non, now_str, now_tup, now_lst, isNon_non, isNon_int, isNon_tup, isNon_ref, isNon_lst, isNon_str, isNon_bl, eW]
  have e1 : (List.replicate ((((W.map eI).length : Nat) : Int) - 1).toNat [D.int 0]).flatten = (List.replicate (W.length - 1) (0 : Int)).map D.int := by
    rw [List.length_map, rep0]; congr 2; omega
  refine ⟨small (by omega), small (by omega), ⟨by decide, by rw [List.length_map]; omega, by rw [List.length_map]; omega, by decide⟩, ?_, ?_⟩
  · rw [e1]; exact small (by simp; omega)
  rw [e1]
  refine ⟨W, L, m, fst_ W.length m, rfl, g, fst_vec g h0 h1, h1, heap_fst g hb, fun pre last w hno => ?_⟩
  have few := w.few
  have hlast := heap_nn g last
  have hfst := heap_fst (m := m) g hb
  have hlen : (pre ++ [last]).length ≤ 1000000 := by simp; omega
  simp only [dSeq, dNext, dRet, dRetN, dIfS, dAsg, dAsgG, dDrop, dPar2, dPar3, dAug, dAugS, dFor, dOp, dVar, dC, dTest, dChain, dAnd, dOr, dNot, dAndV, dOrV, dNotV, dIf, dTup, dLst, dNil, dCons, dStar, dCB, dCall, dSl, dNoPart, dPart, dBM, dRev, dNeg, dIsi, dListRg, dTupRg, dRg1, dRg2, dLc, dIt, dEnum, dZip2, dZip3, dRng1, dRng2, dYes, gN, gT, gsNil, gsCons, gSb, oI, oI0, oAdd, oMulA, oSub, oFdiv, oMod, oPow, oLt, oLe, oGt, oGe, oEq, oNe, oIsN, oNotN, oIsB, oNotB, oIx, oSl, oLen, oSum, oAll, oAny, oAbs, o1I, o2I, oMin2, oMax2, oMin, oMax, oMinL, oMaxL, oInt, oBool, oList, oTuple, oSorted, oIn, oAddI, oGet, oSet, oAppend, oExtend, oPop, oPopAt, newL, startD, wipeD, D.tyN, List.map_cons, List.map_nil, List.cons_append, List.nil_append, List.length_cons, List.length_nil, List.getElem?_cons_zero, List.getElem?_cons_succ, List.set_cons_zero, List.set_cons_succ, List.replicate, Nat.sub_self, Nat.reduceSub, Nat.reduceAdd, Nat.zero_add, kb_ii, kb_ib, kb_it, kb_is, kb_bi, kb_bb, kb_bt, kb_bs, kb_tt, kb_ti, kb_ts, kb_ss, kb_si, kb_st, kb_nt, kb_ni, kb_ns, kb_lt, kb_li, kb_ls, ex_some, seq_tup, seq_lst, seq_fz, list_lst, lsts_lst, lsts_fz, itOf_tup, itOf_lst, itOf_fz, now_int, now_bl, now_non, now_str, now_tup, now_lst, isNon_non, isNon_int, isNon_tup, isNon_ref, isNon_lst, isNon_str, isNon_bl]
  refine lc_mapE (pre ++ [last]) eI (fun c => .int (heap W c)) (fun _ _ => trivial) (small hlen) (fun c hc S' e N M h => ?_) ?_
  · simp only [dSeq, dNext, dRet, dRetN, dIfS, dAsg, dAsgG, dDrop, dPar2, dPar3, dAug, dAugS, dFor, dOp, dVar, dC, dTest, dChain, dAnd, dOr, dNot, dAndV, dOrV, dNotV, dIf, dTup, dLst, dNil, dCons, dStar, dCB, dCall, dSl, dNoPart, dPart, dBM, dRev, dNeg, dIsi, dListRg, dTupRg, dRg1, dRg2, dLc, dIt, dEnum, dZip2, dZip3, dRng1, dRng2, dYes, gN, gT, gsNil, gsCons, gSb, oI, oI0, oAdd, oMulA, oSub, oFdiv, oMod, oPow, oLt, oLe, oGt, oGe, oEq, oNe, oIsN, oNotN, oIsB, oNotB, oIx, oSl, oLen, oSum, oAll, oAny, oAbs, o1I, o2I, oMin2, oMax2, oMin, oMax, oMinL, oMaxL, oInt, oBool, oList, oTuple, oSorted, oIn, oAddI, oGet, oSet, oAppend, oExtend, oPop, oPopAt, newL, startD, wipeD, D.tyN, List.map_cons, List.map_nil, List.cons_append, List.nil_append, List.length_cons, List.length_nil, List.getElem?_cons_zero, List.getElem?_cons_succ, List.set_cons_zero, List.set_cons_succ, List.replicate, Nat.sub_self, Nat.reduceSub, Nat.reduceAdd, Nat.zero_add, kb_ii, kb_ib, kb_it, kb_is, kb_bi, kb_bb, kb_bt, kb_bs, kb_tt, kb_ti, kb_ts, kb_ss, kb_si, kb_st, kb_nt, kb_ni, kb_ns, kb_lt, kb_li, kb_ls, ex_some, seq_tup, seq_lst, seq_fz, list_lst, lsts_lst, lsts_fz, itOf_tup, itOf_lst, itOf_fz, now_int, now_bl, now_non, now_str, now_tup, now_lst, isNon_non, isNon_int, isNon_tup, isNon_ref, isNon_lst, isNon_str, isNon_bl]
    exact ⟨W, L, m, c, rfl, g, w.vec c hc, h⟩
  simp only [dSeq, dNext, dRet, dRetN, dIfS, dAsg, dAsgG, dDrop, dPar2, dPar3, dAug, dAugS, dFor, dOp, dVar, dC, dTest, dChain, dAnd, dOr, dNot, dAndV, dOrV, dNotV, dIf, dTup, dLst, dNil, dCons, dStar, dCB, dCall, dSl, dNoPart, dPart, dBM, dRev, dNeg, dIsi, dListRg, dTupRg, dRg1, dRg2, dLc, dIt, dEnum, dZip2, dZip3, dRng1, dRng2, dYes, gN, gT, gsNil, gsCons, gSb, oI, oI0, oAdd, oMulA, oSub, oFdiv, oMod, oPow, oLt, oLe, oGt, oGe, oEq, oNe, oIsN, oNotN, oIsB, oNotB, oIx, oSl, oLen, oSum, oAll, oAny, oAbs, o1I, o2I, oMin2, oMax2, oMin, oMax, oMinL, oMaxL, oInt, oBool, oList, oTuple, oSorted, oIn, oAddI, oGet, oSet, oAppend, oExtend, oPop, oPopAt, newL, startD, wipeD, D.tyN, List.map_cons, List.map_nil, List.cons_append, List.nil_append, List.length_cons, List.length_nil, List.getElem?_cons_zero, List.getElem?_cons_succ, List.set_cons_zero, List.set_cons_succ, List.replicate, Nat.sub_self, Nat.reduceSub, Nat.reduceAdd, Nat.zero_add, kb_ii, kb_ib, kb_it, kb_is, kb_bi, kb_bb, kb_bt, kb_bs, kb_tt, kb_ti, kb_ts, kb_ss, kb_si, kb_st, kb_nt, kb_ni, kb_ns, kb_lt, kb_li, kb_ls, ex_some, seq_tup, seq_lst, seq_fz, list_lst, lsts_lst, lsts_fz, itOf_tup, itOf_lst, itOf_fz, now_int, now_bl, now_non, now_str, now_tup, now_lst, isNon_non, isNon_int, isNon_tup, isNon_ref, isNon_lst, isNon_str, isNon_bl]
  have a0 : atI ((pre ++ [last]).map eI) 0 = some (eI (fst_ W.length m)) := by
    rw [atI_map, atI_head w.head]; rfl
  have vl := w.vec last (by simp)
  simp only [a0, ix_last]
  refine ⟨⟨okn_eI, by rw [okn_tup, List.all_cons, okn_int, okn_ints]; rfl⟩, ?_⟩
  have e2 : D.tup (D.int m :: (List.replicate (W.length - 1) (0 : Int)).map D.int) = eI (fst_ W.length m) := rfl
  rw [e2]
  have now2 : ∀ c, S.now (eI c) = eI c := fun _ => rfl
  rw [now2, eqD_refl (d := eI (fst_ W.length m)) (n := 8) okn_eI]
  simp only [Bool.not_true]
  refine ⟨W, L, m, last, rfl, g, ⟨vl, hno⟩, h1, ?_⟩
  simp only [dSeq, dNext, dRet, dRetN, dIfS, dAsg, dAsgG, dDrop, dPar2, dPar3, dAug, dAugS, dFor, dOp, dVar, dC, dTest, dChain, dAnd, dOr, dNot, dAndV, dOrV, dNotV, dIf, dTup, dLst, dNil, dCons, dStar, dCB, dCall, dSl, dNoPart, dPart, dBM, dRev, dNeg, dIsi, dListRg, dTupRg, dRg1, dRg2, dLc, dIt, dEnum, dZip2, dZip3, dRng1, dRng2, dYes, gN, gT, gsNil, gsCons, gSb, oI, oI0, oAdd, oMulA, oSub, oFdiv, oMod, oPow, oLt, oLe, oGt, oGe, oEq, oNe, oIsN, oNotN, oIsB, oNotB, oIx, oSl, oLen, oSum, oAll, oAny, oAbs, o1I, o2I, oMin2, oMax2, oMin, oMax, oMinL, oMaxL, oInt, oBool, oList, oTuple, oSorted, oIn, oAddI, oGet, oSet, oAppend, oExtend, oPop, oPopAt, newL, startD, wipeD, D.tyN, List.map_cons, List.map_nil, List.cons_append, List.nil_append, List.length_cons, List.length_nil, List.getElem?_cons_zero, List.getElem?_cons_succ, List.set_cons_zero, List.set_cons_succ, List.replicate, Nat.sub_self, Nat.reduceSub, Nat.reduceAdd, Nat.zero_add, kb_ii, kb_ib, kb_it, kb_is, kb_bi, kb_bb, kb_bt, kb_bs, kb_tt, kb_ti, kb_ts, kb_ss, kb_si, kb_st, kb_nt, kb_ni, kb_ns, kb_lt, kb_li, kb_ls, ex_some, seq_tup, seq_lst, seq_fz, list_lst, lsts_lst, lsts_fz, itOf_tup, itOf_lst, itOf_fz, now_int, now_bl, now_non, now_str, now_tup, now_lst, isNon_non, isNon_int, isNon_tup, isNon_ref, isNon_lst, isNon_str, isNon_bl]
  refine ⟨by rw [sizeLine_eq]; omega, ⟨set_ok, set_ok⟩, ?_⟩
  rw [eqD_refl set_ok]
  simp only [Bool.not_true]
  refine lc_mapE (pre ++ [last]) eI (fun c => .bl false) (fun _ _ => trivial) (small hlen) (fun c hc S' e N M h => ?_) ?_
  · simp only [dSeq, dNext, dRet, dRetN, dIfS, dAsg, dAsgG, dDrop, dPar2, dPar3, dAug, dAugS, dFor, dOp, dVar, dC, dTest, dChain, dAnd, dOr, dNot, dAndV, dOrV, dNotV, dIf, dTup, dLst, dNil, dCons, dStar, dCB, dCall, dSl, dNoPart, dPart, dBM, dRev, dNeg, dIsi, dListRg, dTupRg, dRg1, dRg2, dLc, dIt, dEnum, dZip2, dZip3, dRng1, dRng2, dYes, gN, gT, gsNil, gsCons, gSb, oI, oI0, oAdd, oMulA, oSub, oFdiv, oMod, oPow, oLt, oLe, oGt, oGe, oEq, oNe, oIsN, oNotN, oIsB, oNotB, oIx, oSl, oLen, oSum, oAll, oAny, oAbs, o1I, o2I, oMin2, oMax2, oMin, oMax, oMinL, oMaxL, oInt, oBool, oList, oTuple, oSorted, oIn, oAddI, oGet, oSet, oAppend, oExtend, oPop, oPopAt, newL, startD, wipeD, D.tyN, List.map_cons, List.map_nil, List.cons_append, List.nil_append, List.length_cons, List.length_nil, List.getElem?_cons_zero, List.getElem?_cons_succ, List.set_cons_zero, List.set_cons_succ, List.replicate, Nat.sub_self, Nat.reduceSub, Nat.reduceAdd, Nat.zero_add, kb_ii, kb_ib, kb_it, kb_is, kb_bi, kb_bb, kb_bt, kb_bs, kb_tt, kb_ti, kb_ts, kb_ss, kb_si, kb_st, kb_nt, kb_ni, kb_ns, kb_lt, kb_li, kb_ls, ex_some, seq_tup, seq_lst, seq_fz, list_lst, lsts_lst, lsts_fz, itOf_tup, itOf_lst, itOf_fz, now_int, now_bl, now_non, now_str, now_tup, now_lst, isNon_non, isNon_int, isNon_tup, isNon_ref, isNon_lst, isNon_str, isNon_bl, eI]
    refine ⟨c, rfl, ⟨okn_int, okn_int⟩, ?_⟩
    rw [eqD_int, (w.vec c hc).sum]
    simpa using h
  simp only [dSeq, dNext, dRet, dRetN, dIfS, dAsg, dAsgG, dDrop, dPar2, dPar3, dAug, dAugS, dFor, dOp, dVar, dC, dTest, dChain, dAnd, dOr, dNot, dAndV, dOrV, dNotV, dIf, dTup, dLst, dNil, dCons, dStar, dCB, dCall, dSl, dNoPart, dPart, dBM, dRev, dNeg, dIsi, dListRg, dTupRg, dRg1, dRg2, dLc, dIt, dEnum, dZip2, dZip3, dRng1, dRng2, dYes, gN, gT, gsNil, gsCons, gSb, oI, oI0, oAdd, oMulA, oSub, oFdiv, oMod, oPow, oLt, oLe, oGt, oGe, oEq, oNe, oIsN, oNotN, oIsB, oNotB, oIx, oSl, oLen, oSum, oAll, oAny, oAbs, o1I, o2I, oMin2, oMax2, oMin, oMax, oMinL, oMaxL, oInt, oBool, oList, oTuple, oSorted, oIn, oAddI, oGet, oSet, oAppend, oExtend, oPop, oPopAt, newL, startD, wipeD, D.tyN, List.map_cons, List.map_nil, List.cons_append, List.nil_append, List.length_cons, List.length_nil, List.getElem?_cons_zero, List.getElem?_cons_succ, List.set_cons_zero, List.set_cons_succ, List.replicate, Nat.sub_self, Nat.reduceSub, Nat.reduceAdd, Nat.zero_add, kb_ii, kb_ib, kb_it, kb_is, kb_bi, kb_bb, kb_bt, kb_bs, kb_tt, kb_ti, kb_ts, kb_ss, kb_si, kb_st, kb_nt, kb_ni, kb_ns, kb_lt, kb_li, kb_ls, ex_some, seq_tup, seq_lst, seq_fz, list_lst, lsts_lst, lsts_fz, itOf_tup, itOf_lst, itOf_fz, now_int, now_bl, now_non, now_str, now_tup, now_lst, isNon_non, isNon_int, isNon_tup, isNon_ref, isNon_lst, isNon_str, isNon_bl]
  refine ⟨(pre ++ [last]).map fun _ => false, by rw [List.map_map]; rfl, ?_⟩
  have hany : ((pre ++ [last]).map fun _ => false).any id = false := by simp
  rw [hany]
  have eh : (pre ++ [last]).map (fun c => D.int (heap W c)) = ((pre ++ [last]).map (heap W)).map D.int := by rw [List.map_map]; rfl
  simp only [eh, cut_tail, zip_map2]
  refine lc_mapE (ok := fun _ => True ∧ True) (List.zip ((pre ++ [last]).map (heap W)) ((pre ++ [last]).map (heap W)).tail) (fun p => D.tup [.int p.1, .int p.2]) (fun _ => .bl false) (fun _ _ => ⟨trivial, trivial⟩) (small (by rw [List.length_zip, List.length_map]; omega)) (fun p hp S' e N M h => ?_) ?_
  · have := pair_gt w.dec hp
    simp only [dSeq, dNext, dRet, dRetN, dIfS, dAsg, dAsgG, dDrop, dPar2, dPar3, dAug, dAugS, dFor, dOp, dVar, dC, dTest, dChain, dAnd, dOr, dNot, dAndV, dOrV, dNotV, dIf, dTup, dLst, dNil, dCons, dStar, dCB, dCall, dSl, dNoPart, dPart, dBM, dRev, dNeg, dIsi, dListRg, dTupRg, dRg1, dRg2, dLc, dIt, dEnum, dZip2, dZip3, dRng1, dRng2, dYes, gN, gT, gsNil, gsCons, gSb, oI, oI0, oAdd, oMulA, oSub, oFdiv, oMod, oPow, oLt, oLe, oGt, oGe, oEq, oNe, oIsN, oNotN, oIsB, oNotB, oIx, oSl, oLen, oSum, oAll, oAny, oAbs, o1I, o2I, oMin2, oMax2, oMin, oMax, oMinL, oMaxL, oInt, oBool, oList, oTuple, oSorted, oIn, oAddI, oGet, oSet, oAppend, oExtend, oPop, oPopAt, newL, startD, wipeD, D.tyN, List.map_cons, List.map_nil, List.cons_append, List.nil_append, List.length_cons, List.length_nil, List.getElem?_cons_zero, List.getElem?_cons_succ, List.set_cons_zero, List.set_cons_succ, List.replicate, Nat.sub_self, Nat.reduceSub, Nat.reduceAdd, Nat.zero_add, kb_ii, kb_ib, kb_it, kb_is, kb_bi, kb_bb, kb_bt, kb_bs, kb_tt, kb_ti, kb_ts, kb_ss, kb_si, kb_st, kb_nt, kb_ni, kb_ns, kb_lt, kb_li, kb_ls, ex_some, seq_tup, seq_lst, seq_fz, list_lst, lsts_lst, lsts_fz, itOf_tup, itOf_lst, itOf_fz, now_int, now_bl, now_non, now_str, now_tup, now_lst, isNon_non, isNon_int, isNon_tup, isNon_ref, isNon_lst, isNon_str, isNon_bl]
    refine ⟨trivial, ?_⟩
    rw [decide_eq_false (by omega)]
    exact h
  simp only [dSeq, dNext, dRet, dRetN, dIfS, dAsg, dAsgG, dDrop, dPar2, dPar3, dAug, dAugS, dFor, dOp, dVar, dC, dTest, dChain, dAnd, dOr, dNot, dAndV, dOrV, dNotV, dIf, dTup, dLst, dNil, dCons, dStar, dCB, dCall, dSl, dNoPart, dPart, dBM, dRev, dNeg, dIsi, dListRg, dTupRg, dRg1, dRg2, dLc, dIt, dEnum, dZip2, dZip3, dRng1, dRng2, dYes, gN, gT, gsNil, gsCons, gSb, oI, oI0, oAdd, oMulA, oSub, oFdiv, oMod, oPow, oLt, oLe, oGt, oGe, oEq, oNe, oIsN, oNotN, oIsB, oNotB, oIx, oSl, oLen, oSum, oAll, oAny, oAbs, o1I, o2I, oMin2, oMax2, oMin, oMax, oMinL, oMaxL, oInt, oBool, oList, oTuple, oSorted, oIn, oAddI, oGet, oSet, oAppend, oExtend, oPop, oPopAt, newL, startD, wipeD, D.tyN, List.map_cons, List.map_nil, List.cons_append, List.nil_append, List.length_cons, List.length_nil, List.getElem?_cons_zero, List.getElem?_cons_succ, List.set_cons_zero, List.set_cons_succ, List.replicate, Nat.sub_self, Nat.reduceSub, Nat.reduceAdd, Nat.zero_add, kb_ii, kb_ib, kb_it, kb_is, kb_bi, kb_bb, kb_bt, kb_bs, kb_tt, kb_ti, kb_ts, kb_ss, kb_si, kb_st, kb_nt, kb_ni, kb_ns, kb_lt, kb_li, kb_ls, ex_some, seq_tup, seq_lst, seq_fz, list_lst, lsts_lst, lsts_fz, itOf_tup, itOf_lst, itOf_fz, now_int, now_bl, now_non, now_str, now_tup, now_lst, isNon_non, isNon_int, isNon_tup, isNon_ref, isNon_lst, isNon_str, isNon_bl]
  refine ⟨(List.zip ((pre ++ [last]).map (heap W)) ((pre ++ [last]).map (heap W)).tail).map fun _ => false, by rw [List.map_map]; rfl, ?_⟩
  have : ((List.zip ((pre ++ [last]).map (heap W)) ((pre ++ [last]).map (heap W)).tail).map fun _ => false).any id = false := by simp
  rw [this]
  exact .here q
/-- all but p as it was -/
def Fr (p : Addr) (S S' : Sto) : Prop := ∀ q u, q ≠ p → S q = some u → S' q = some u
theorem Fr.refl {p : Addr} {S : Sto} : Fr p S S := fun _ _ _ h => h
theorem Fr.trans {p : Addr} {S S1 S2 : Sto} (a : Fr p S S1) (b : Fr p S1 S2) : Fr p S S2 := fun q u n h => b q u n (a q u n h)
theorem Fr.new {p x : Addr} {S S' : Sto} {o : MO} (a : Fr p S S') (h : S' x = none) : Fr p S (S'.up x o) := fun q u n e => by
  have := a q u n e
  rw [Sto.up_ne (fun z => by subst z; rw [h] at this; cases this)]; exact this
theorem Fr.old {p x : Addr} {S S' : Sto} {o : MO} (a : Fr p S S') (h : S x = none) : Fr p S (S'.up x o) := fun q u n e => by
  rw [Sto.up_ne (fun z => by subst z; rw [h] at e; cases e)]; exact a q u n e
theorem Fr.del {p x : Addr} {S S' : Sto} (a : Fr p S S') (h : S x = none) : Fr p S (S'.del x) := fun q u n e => by
  rw [Sto.del_ne (fun z => by subst z; rw [h] at e; cases e)]; exact a q u n e
theorem Fr.own {p : Addr} {S S' : Sto} {o : MO} (a : Fr p S S') : Fr p S (S'.up p o) := fun q u n e => by
  rw [Sto.up_ne n]; exact a q u n e
theorem Fr.none {p x : Addr} {S S' : Sto} (a : Fr p S S') (hx : x ≠ p) (h : S' x = none) : S x = none := by
  cases e : S x with
  | none => rfl
  | some u => rw [a x u hx e] at h; cases h
/-- draws in a comprehension: [int(take(pot, n)) for _ in range(k)] -/
theorem lc_draws {p : Addr} {n : Int} {b : Nat} {o : MO} {S : Sto} {Q : QD} {ρ0 : DEnv} {γ : TGD} {el : TED} (l : List D) (hS : S p = some o) (hp : PotO b o) (hl : l.length ≤ 1000)
    (f : Int → D) (hγ : ∀ x S' N o0 b0, S' p = some o0 → PotO b0 o0 → b0 ≤ 1000000 → (∀ k o', 0 ≤ k → k < n → PotO (b0 + 1) o' → N (f k) (S'.up p o')) → γ x ρ0 S' fun ρ' S1 => el ρ' S1 N)
    (hb : b ≤ 100000) (q : ∀ (vs : List Int) o' S', vs.length = l.length → (∀ v ∈ vs, 0 ≤ v ∧ v < n) → S' p = some o' → PotO (b + l.length) o' → Fr p S S' → Q (.lst (vs.map f)) S') :
    ∀ Dl, S Dl = none → True ∧ lcD Dl (fun _ => True) ρ0 γ dYes el l [] (S.up Dl (.lst [])) (endL false Dl Q) := by
  have inv := lc_run (r := false) (ρ0 := ρ0) (γ := γ) (t := dYes) (el := el) (it := ⟨l, fun _ => True⟩) (S := S) (Q := Q) (fun xs acc S' => ∃ (vs : List Int) (o' : MO), acc = vs.map f ∧ vs.length + xs.length = l.length ∧ (∀ v ∈ vs, 0 ≤ v ∧ v < n) ∧ S' p = some o' ∧ PotO (b + vs.length) o' ∧ Fr p S S')
    (fun _ => trivial) (small (by show l.length ≤ _; omega)) (fun Dl hD => ⟨[], o, rfl, by simp, by simp, by rw [Sto.up_ne (ne_of_in hS hD)]; exact hS, hp, Fr.refl.new hD⟩) ?_ ?_ ?_
  · exact inv
  · rintro x xs acc S' _ ⟨vs, o', rfl, hlen, hv, hS', hp', hfr⟩ Dl hD hDl N M hN
    have hDp : Dl ≠ p := fun z => by subst z; rw [hD] at hS; cases hS
    simp only [dYes]
    rw [List.length_cons] at hlen
    refine hγ x S' N o' (b + vs.length) hS' hp' (by omega) (fun k o2 h0 h1 h2 => ?_)
    refine hN _ _ (by rw [Sto.up_ne hDp]; exact hDl) (by rw [List.length_map, sizeLine_eq]; omega) ⟨vs ++ [k], o2, by rw [List.map_append]; rfl, by simp; omega, fun v hv' => ?_, ?_, ?_, ?_⟩
    · rcases List.mem_append.mp hv' with z | z
      · exact hv v z
      · rw [List.mem_singleton.mp z]; exact ⟨h0, h1⟩
    · rw [Sto.up_ne (Ne.symm hDp)]; exact Sto.up_same
    · rw [List.length_append]; exact h2
    · exact (hfr.own).old hD
  · rintro x xs acc S' ⟨vs, o', rfl, hlen, _⟩
    rw [List.length_map]
    show _ ≤ l.length
    omega
  · rintro Dl acc S' hD ⟨vs, o', rfl, hlen, hv, hS', hp', hfr⟩ hDl
    have hDp : Dl ≠ p := fun z => by subst z; rw [hD] at hS; cases hS
    rw [List.length_nil, Nat.add_zero] at hlen
    rw [hlen] at hp'
    show Q (.lst _) _
    exact q vs o' _ hlen hv (by rw [Sto.del_ne (Ne.symm hDp)]; exact hS') hp' (hfr.del hD)
end L46
namespace L46
open PySem PySem.Spec PySem.W PyProof.Rows L2 PL
theorem seqG {t u : TSD} {De : EndsD} {ρ : DEnv} {S : Sto} (h : ∀ v : TSD, v = u → dSeq t v De ρ S) : dSeq t u De ρ S := h u rfl
theorem forG {ι : TID} {γ : TGD} {τ : TSD} {De : EndsD} {ρ : DEnv} {S : Sto} (h : ∀ v : TSD, v = τ → dFor ι γ v De ρ S) : dFor ι γ τ De ρ S := h τ rfl
def sp__law_right : DSp := fun ds S Q => ∃ (p : Addr) (o : MO), ds = [.ref p] ∧ S p = some o ∧ PotO 0 o ∧ ∀ o', Q (.bl true) (S.up p o')
/-- a row as it is drawn -/
structure Row (L : Nat) (r : List Int) : Prop where
  len : r.length = L
  ord : r.Pairwise (· ≤ ·)
  bd : ∀ x ∈ r, 0 ≤ x ∧ x < 30
theorem rep_map {α : Type} (f : α → D) (x : α) (n : Nat) : (List.replicate n [f x]).flatten = (List.replicate n x).map f := by
  induction n with
  | zero => rfl
  | succ n ih => rw [List.replicate_succ, List.replicate_succ, List.flatten_cons, List.map_cons, ih]; rfl
theorem rg_stairs (L : Nat) : D.tup (rgD 1 ((L : Int) + 1)) = eI (stairs L) := by
  unfold rgD eI stairs
  rw [show ((L : Int) + 1 - 1).toNat = L by omega, List.map_map]; rfl
theorem pure__law_right : ∀ ds S Q, sp__law_right ds S Q → t__law_right sp__law_take sp_settled sp_would_change sp_shows_settled sp_least_total sp__law_are_ways_right sp_price_of_choice sp_total_wait (DeN Q) (startD N__law_right ds) S := by
  rintro ds S0 Q ⟨p, o0, rfl, hS0, hp0, q⟩
  unfold t__law_right
  refine seqG fun v hv => ?_
  refine forG fun τ hτ => ?_
  simp only [dSeq, dNext, dRet, dRetN, dIfS, dAsg, dAsgG, dDrop, dPar2, dPar3, dAug, dAugS, dFor, dOp, dVar, dC, dTest, dChain, dAnd, dOr, dNot, dAndV, dOrV, dNotV, dIf, dTup, dLst, dNil, dCons, dStar, dCB, dCall, dSl, dNoPart, dPart, dBM, dRev, dNeg, dIsi, dListRg, dTupRg, dRg1, dRg2, dLc, dIt, dEnum, dZip2, dZip3, dRng1, dRng2, dYes, gN, gT, gsNil, gsCons, gSb, oI, oI0, oAdd, oMulA, oSub, oFdiv, oMod, oPow, oLt, oLe, oGt, oGe, oEq, oNe, oIsN, oNotN, oIsB, oNotB, oIx, oSl, oLen, oSum, oAll, oAny, oAbs, o1I, o2I, oMin2, oMax2, oMin, oMax, oMinL, oMaxL, oInt, oBool, oList, oTuple, oSorted, oIn, oAddI, oGet, oSet, oAppend, oExtend, oPop, oPopAt, newL, startD, wipeD, D.tyN, List.map_cons, List.map_nil, List.cons_append, List.nil_append, List.length_cons, List.length_nil, List.getElem?_cons_zero, List.getElem?_cons_succ, List.set_cons_zero, List.set_cons_succ, List.replicate, Nat.sub_self, Nat.reduceSub, Nat.reduceAdd, Nat.zero_add, kb_ii, kb_ib, kb_it, kb_is, kb_bi, kb_bb, kb_bt, kb_bs, kb_tt, kb_ti, kb_ts, kb_ss, kb_si, kb_st, kb_nt, kb_ni, kb_ns, kb_lt, kb_li, kb_ls, ex_some, seq_tup, seq_lst, seq_fz, list_lst, lsts_lst, lsts_fz, itOf_tup, itOf_lst, itOf_fz, now_int, now_bl, now_non, now_str, now_tup, now_lst, isNon_non, isNon_int, isNon_tup, isNon_ref, isNon_lst, isNon_str, isNon_bl]
  refine ⟨by decide, trivial, ?_⟩
  refine loopD_invE (α := Nat) (fun i => .int (0 + (i : Int))) (fun xs ρ S => ∃ o1 o2 o3 o4 o5 o6 o7 o8 o9 o10 o11 o12 o13 o14 o15 o16 o, ρ = [some (.ref p), o1, o2, o3, o4, o5, o6, o7, o8, o9, o10, o11, o12, o13, o14, o15, o16] ∧ S p = some o ∧ PotO (200 * (8 - xs.length)) o ∧ Fr p S0 S ∧ xs.length ≤ 8) ?_ ?_ _ _ _
    ⟨none, none, none, none, none, none, none, none, none, none, none, none, none, none, none, none, o0, rfl, hS0, hp0.mono (Nat.zero_le _), Fr.refl, Nat.le_refl _⟩ trivial
  · rintro x xs ρ S ⟨o1, o2, o3, o4, o5, o6, o7, o8, o9, o10, o11, o12, o13, o14, o15, o16, o, rfl, hS, hp, hfr, hxl⟩ _ N hN
    rw [List.length_cons] at hp hxl
    generalize hb : 200 * (8 - (xs.length + 1)) = b at hp
    have hb2 : b ≤ 2000 := by omega
    subst hτ
    simp only [gN, List.set_cons_zero, List.set_cons_succ]
    refine seqG fun v1 hv1 => ?_
    simp only [dSeq, dNext, dRet, dRetN, dIfS, dAsg, dAsgG, dDrop, dPar2, dPar3, dAug, dAugS, dFor, dOp, dVar, dC, dTest, dChain, dAnd, dOr, dNot, dAndV, dOrV, dNotV, dIf, dTup, dLst, dNil, dCons, dStar, dCB, dCall, dSl, dNoPart, dPart, dBM, dRev, dNeg, dIsi, dListRg, dTupRg, dRg1, dRg2, dLc, dIt, dEnum, dZip2, dZip3, dRng1, dRng2, dYes, gN, gT, gsNil, gsCons, gSb, oI, oI0, oAdd, oMulA, oSub, oFdiv, oMod, oPow, oLt, oLe, oGt, oGe, oEq, oNe, oIsN, oNotN, oIsB, oNotB, oIx, oSl, oLen, oSum, oAll, oAny, oAbs, o1I, o2I, oMin2, oMax2, oMin, oMax, oMinL, oMaxL, oInt, oBool, oList, oTuple, oSorted, oIn, oAddI, oGet, oSet, oAppend, oExtend, oPop, oPopAt, newL, startD, wipeD, D.tyN, List.map_cons, List.map_nil, List.cons_append, List.nil_append, List.length_cons, List.length_nil, List.getElem?_cons_zero, List.getElem?_cons_succ, List.set_cons_zero, List.set_cons_succ, List.replicate, Nat.sub_self, Nat.reduceSub, Nat.reduceAdd, Nat.zero_add, kb_ii, kb_ib, kb_it, kb_is, kb_bi, kb_bb, kb_bt, kb_bs, kb_tt, kb_ti, kb_ts, kb_ss, kb_si, kb_st, kb_nt, kb_ni, kb_ns, kb_lt, kb_li, kb_ls, ex_some, seq_tup, seq_lst, seq_fz, list_lst, lsts_lst, lsts_fz, itOf_tup, itOf_lst, itOf_fz, now_int, now_bl, now_non, now_str, now_tup, now_lst, isNon_non, isNon_int, isNon_tup, isNon_ref, isNon_lst, isNon_str, isNon_bl]
    refine ⟨p, 20, b, o, rfl, by decide, by decide, hS, hp, by omega, fun k1 oa k10 k11 hpa => ?_⟩
    simp only [dSeq, dNext, dRet, dRetN, dIfS, dAsg, dAsgG, dDrop, dPar2, dPar3, dAug, dAugS, dFor, dOp, dVar, dC, dTest, dChain, dAnd, dOr, dNot, dAndV, dOrV, dNotV, dIf, dTup, dLst, dNil, dCons, dStar, dCB, dCall, dSl, dNoPart, dPart, dBM, dRev, dNeg, dIsi, dListRg, dTupRg, dRg1, dRg2, dLc, dIt, dEnum, dZip2, dZip3, dRng1, dRng2, dYes, gN, gT, gsNil, gsCons, gSb, oI, oI0, oAdd, oMulA, oSub, oFdiv, oMod, oPow, oLt, oLe, oGt, oGe, oEq, oNe, oIsN, oNotN, oIsB, oNotB, oIx, oSl, oLen, oSum, oAll, oAny, oAbs, o1I, o2I, oMin2, oMax2, oMin, oMax, oMinL, oMaxL, oInt, oBool, oList, oTuple, oSorted, oIn, oAddI, oGet, oSet, oAppend, oExtend, oPop, oPopAt, newL, startD, wipeD, D.tyN, List.map_cons, List.map_nil, List.cons_append, List.nil_append, List.length_cons, List.length_nil, List.getElem?_cons_zero, List.getElem?_cons_succ, List.set_cons_zero, List.set_cons_succ, List.replicate, Nat.sub_self, Nat.reduceSub, Nat.reduceAdd, Nat.zero_add, kb_ii, kb_ib, kb_it, kb_is, kb_bi, kb_bb, kb_bt, kb_bs, kb_tt, kb_ti, kb_ts, kb_ss, kb_si, kb_st, kb_nt, kb_ni, kb_ns, kb_lt, kb_li, kb_ls, ex_some, seq_tup, seq_lst, seq_fz, list_lst, lsts_lst, lsts_fz, itOf_tup, itOf_lst, itOf_fz, now_int, now_bl, now_non, now_str, now_tup, now_lst, isNon_non, isNon_int, isNon_tup, isNon_ref, isNon_lst, isNon_str, isNon_bl]
    refine ⟨Nat.zero_le _, fun pw hpw => ⟨by rw [sizeLine_eq]; omega, trivial, ?_⟩⟩
    have hpwp : pw ≠ p := fun z => by subst z; rw [Sto.up_same] at hpw; cases hpw
    have hn0 : S0 pw = none := hfr.own.none hpwp hpw
    have hSa : ((S.up p oa).up pw (MO.lst [])) p = some oa := by rw [Sto.up_ne (Ne.symm hpwp)]; exact Sto.up_same
    have hfa : Fr p S0 ((S.up p oa).up pw (MO.lst [])) := (hfr.own).new hpw
    have hwa : ((S.up p oa).up pw (MO.lst [])) pw = some (.lst (([] : List (List Int)).map eI)) := Sto.up_same
    generalize (S.up p oa).up pw (MO.lst []) = Sa at hSa hfa hwa ⊢
    subst hv1
    refine seqG fun v2 hv2 => ?_
    refine forG fun τ2 hτ2 => ?_
    simp only [dSeq, dNext, dRet, dRetN, dIfS, dAsg, dAsgG, dDrop, dPar2, dPar3, dAug, dAugS, dFor, dOp, dVar, dC, dTest, dChain, dAnd, dOr, dNot, dAndV, dOrV, dNotV, dIf, dTup, dLst, dNil, dCons, dStar, dCB, dCall, dSl, dNoPart, dPart, dBM, dRev, dNeg, dIsi, dListRg, dTupRg, dRg1, dRg2, dLc, dIt, dEnum, dZip2, dZip3, dRng1, dRng2, dYes, gN, gT, gsNil, gsCons, gSb, oI, oI0, oAdd, oMulA, oSub, oFdiv, oMod, oPow, oLt, oLe, oGt, oGe, oEq, oNe, oIsN, oNotN, oIsB, oNotB, oIx, oSl, oLen, oSum, oAll, oAny, oAbs, o1I, o2I, oMin2, oMax2, oMin, oMax, oMinL, oMaxL, oInt, oBool, oList, oTuple, oSorted, oIn, oAddI, oGet, oSet, oAppend, oExtend, oPop, oPopAt, newL, startD, wipeD, D.tyN, List.map_cons, List.map_nil, List.cons_append, List.nil_append, List.length_cons, List.length_nil, List.getElem?_cons_zero, List.getElem?_cons_succ, List.set_cons_zero, List.set_cons_succ, List.replicate, Nat.sub_self, Nat.reduceSub, Nat.reduceAdd, Nat.zero_add, kb_ii, kb_ib, kb_it, kb_is, kb_bi, kb_bb, kb_bt, kb_bs, kb_tt, kb_ti, kb_ts, kb_ss, kb_si, kb_st, kb_nt, kb_ni, kb_ns, kb_lt, kb_li, kb_ls, ex_some, seq_tup, seq_lst, seq_fz, list_lst, lsts_lst, lsts_fz, itOf_tup, itOf_lst, itOf_fz, now_int, now_bl, now_non, now_str, now_tup, now_lst, isNon_non, isNon_int, isNon_tup, isNon_ref, isNon_lst, isNon_str, isNon_bl]
    refine ⟨p, 6, b + 1, oa, rfl, by decide, by decide, hSa, hpa, by omega, fun k2 ob k20 k21 hpb => ?_⟩
    simp only [dSeq, dNext, dRet, dRetN, dIfS, dAsg, dAsgG, dDrop, dPar2, dPar3, dAug, dAugS, dFor, dOp, dVar, dC, dTest, dChain, dAnd, dOr, dNot, dAndV, dOrV, dNotV, dIf, dTup, dLst, dNil, dCons, dStar, dCB, dCall, dSl, dNoPart, dPart, dBM, dRev, dNeg, dIsi, dListRg, dTupRg, dRg1, dRg2, dLc, dIt, dEnum, dZip2, dZip3, dRng1, dRng2, dYes, gN, gT, gsNil, gsCons, gSb, oI, oI0, oAdd, oMulA, oSub, oFdiv, oMod, oPow, oLt, oLe, oGt, oGe, oEq, oNe, oIsN, oNotN, oIsB, oNotB, oIx, oSl, oLen, oSum, oAll, oAny, oAbs, o1I, o2I, oMin2, oMax2, oMin, oMax, oMinL, oMaxL, oInt, oBool, oList, oTuple, oSorted, oIn, oAddI, oGet, oSet, oAppend, oExtend, oPop, oPopAt, newL, startD, wipeD, D.tyN, List.map_cons, List.map_nil, List.cons_append, List.nil_append, List.length_cons, List.length_nil, List.getElem?_cons_zero, List.getElem?_cons_succ, List.set_cons_zero, List.set_cons_succ, List.replicate, Nat.sub_self, Nat.reduceSub, Nat.reduceAdd, Nat.zero_add, kb_ii, kb_ib, kb_it, kb_is, kb_bi, kb_bb, kb_bt, kb_bs, kb_tt, kb_ti, kb_ts, kb_ss, kb_si, kb_st, kb_nt, kb_ni, kb_ns, kb_lt, kb_li, kb_ls, ex_some, seq_tup, seq_lst, seq_fz, list_lst, lsts_lst, lsts_fz, itOf_tup, itOf_lst, itOf_fz, now_int, now_bl, now_non, now_str, now_tup, now_lst, isNon_non, isNon_int, isNon_tup, isNon_ref, isNon_lst, isNon_str, isNon_bl]
    refine ⟨⟨by omega, by omega⟩, trivial, ?_⟩
    obtain ⟨L, hL⟩ : ∃ L : Nat, (L : Int) = 1 + k1 := ⟨(1 + k1).toNat, by omega⟩
    rw [← hL]
    have hL1 : 1 ≤ L := by omega
    have hL20 : L ≤ 20 := by omega
    obtain ⟨R, hR⟩ : ∃ R : Nat, (1 + k2).toNat = R := ⟨_, rfl⟩
    have hR1 : 1 ≤ R := by omega
    have hR6 : R ≤ 6 := by omega
    rw [hR]
    refine loopD_invE (α := Nat) (fun i => .int (0 + (i : Int))) (fun ys ρ S => ∃ o4 o5 W oc, ρ = [some (.ref p), some (.int (0 + (x : Int))), some (.int (L : Int)), some (.ref pw), o4, o5, o6, o7, o8, o9, o10, o11, o12, o13, o14, o15, o16] ∧ S pw = some (.lst (W.map eI)) ∧ W.length + ys.length = R ∧ (∀ r ∈ W, Row L r) ∧ S p = some oc ∧ PotO (b + 2 + 20 * W.length) oc ∧ Fr p S0 S) ?_ ?_ _ _ _
      ⟨_, _, [], ob, rfl, by rw [Sto.up_ne hpwp]; exact hwa, by simp, by simp, Sto.up_same, hpb, hfa.own⟩ trivial
    · rintro y ys ρ S ⟨o4', o5', W, oc, rfl, hw, hlen, hrow, hSp, hpp, hfr2⟩ _ N2 hN2
      rw [List.length_cons] at hlen
      subst hτ2
      simp only [gN, List.set_cons_zero, List.set_cons_succ]
      simp only [dSeq, dNext, dRet, dRetN, dIfS, dAsg, dAsgG, dDrop, dPar2, dPar3, dAug, dAugS, dFor, dOp, dVar, dC, dTest, dChain, dAnd, dOr, dNot, dAndV, dOrV, dNotV, dIf, dTup, dLst, dNil, dCons, dStar, dCB, dCall, dSl, dNoPart, dPart, dBM, dRev, dNeg, dIsi, dListRg, dTupRg, dRg1, dRg2, dLc, dIt, dEnum, dZip2, dZip3, dRng1, dRng2, dYes, gN, gT, gsNil, gsCons, gSb, oI, oI0, oAdd, oMulA, oSub, oFdiv, oMod, oPow, oLt, oLe, oGt, oGe, oEq, oNe, oIsN, oNotN, oIsB, oNotB, oIx, oSl, oLen, oSum, oAll, oAny, oAbs, o1I, o2I, oMin2, oMax2, oMin, oMax, oMinL, oMaxL, oInt, oBool, oList, oTuple, oSorted, oIn, oAddI, oGet, oSet, oAppend, oExtend, oPop, oPopAt, newL, startD, wipeD, D.tyN, List.map_cons, List.map_nil, List.cons_append, List.nil_append, List.length_cons, List.length_nil, List.getElem?_cons_zero, List.getElem?_cons_succ, List.set_cons_zero, List.set_cons_succ, List.replicate, Nat.sub_self, Nat.reduceSub, Nat.reduceAdd, Nat.zero_add, kb_ii, kb_ib, kb_it, kb_is, kb_bi, kb_bb, kb_bt, kb_bs, kb_tt, kb_ti, kb_ts, kb_ss, kb_si, kb_st, kb_nt, kb_ni, kb_ns, kb_lt, kb_li, kb_ls, ex_some, seq_tup, seq_lst, seq_fz, list_lst, lsts_lst, lsts_fz, itOf_tup, itOf_lst, itOf_fz, now_int, now_bl, now_non, now_str, now_tup, now_lst, isNon_non, isNon_int, isNon_tup, isNon_ref, isNon_lst, isNon_str, isNon_bl, list_ref hw]
      refine ⟨⟨_, rfl⟩, ⟨by omega, by omega⟩, ?_⟩
      rw [Int.toNat_natCast]
      refine lc_draws (p := p) (n := 30) (f := D.int) (rangeD 0 L) hSp hpp (by rw [rangeD_len]; omega) (fun d S' M o' b' hS' hp' hb' hM => ?_) (by omega) fun vs o' S' hvl hvs hS' hp' hfr3 => ?_
      · simp only [dSeq, dNext, dRet, dRetN, dIfS, dAsg, dAsgG, dDrop, dPar2, dPar3, dAug, dAugS, dFor, dOp, dVar, dC, dTest, dChain, dAnd, dOr, dNot, dAndV, dOrV, dNotV, dIf, dTup, dLst, dNil, dCons, dStar, dCB, dCall, dSl, dNoPart, dPart, dBM, dRev, dNeg, dIsi, dListRg, dTupRg, dRg1, dRg2, dLc, dIt, dEnum, dZip2, dZip3, dRng1, dRng2, dYes, gN, gT, gsNil, gsCons, gSb, oI, oI0, oAdd, oMulA, oSub, oFdiv, oMod, oPow, oLt, oLe, oGt, oGe, oEq, oNe, oIsN, oNotN, oIsB, oNotB, oIx, oSl, oLen, oSum, oAll, oAny, oAbs, o1I, o2I, oMin2, oMax2, oMin, oMax, oMinL, oMaxL, oInt, oBool, oList, oTuple, oSorted, oIn, oAddI, oGet, oSet, oAppend, oExtend, oPop, oPopAt, newL, startD, wipeD, D.tyN, List.map_cons, List.map_nil, List.cons_append, List.nil_append, List.length_cons, List.length_nil, List.getElem?_cons_zero, List.getElem?_cons_succ, List.set_cons_zero, List.set_cons_succ, List.replicate, Nat.sub_self, Nat.reduceSub, Nat.reduceAdd, Nat.zero_add, kb_ii, kb_ib, kb_it, kb_is, kb_bi, kb_bb, kb_bt, kb_bs, kb_tt, kb_ti, kb_ts, kb_ss, kb_si, kb_st, kb_nt, kb_ni, kb_ns, kb_lt, kb_li, kb_ls, ex_some, seq_tup, seq_lst, seq_fz, list_lst, lsts_lst, lsts_fz, itOf_tup, itOf_lst, itOf_fz, now_int, now_bl, now_non, now_str, now_tup, now_lst, isNon_non, isNon_int, isNon_tup, isNon_ref, isNon_lst, isNon_str, isNon_bl]
        refine ⟨p, 30, b', o', rfl, by decide, by decide, hS', hp', by omega, fun k oq k0 k1 hq => ?_⟩
        simp only [dSeq, dNext, dRet, dRetN, dIfS, dAsg, dAsgG, dDrop, dPar2, dPar3, dAug, dAugS, dFor, dOp, dVar, dC, dTest, dChain, dAnd, dOr, dNot, dAndV, dOrV, dNotV, dIf, dTup, dLst, dNil, dCons, dStar, dCB, dCall, dSl, dNoPart, dPart, dBM, dRev, dNeg, dIsi, dListRg, dTupRg, dRg1, dRg2, dLc, dIt, dEnum, dZip2, dZip3, dRng1, dRng2, dYes, gN, gT, gsNil, gsCons, gSb, oI, oI0, oAdd, oMulA, oSub, oFdiv, oMod, oPow, oLt, oLe, oGt, oGe, oEq, oNe, oIsN, oNotN, oIsB, oNotB, oIx, oSl, oLen, oSum, oAll, oAny, oAbs, o1I, o2I, oMin2, oMax2, oMin, oMax, oMinL, oMaxL, oInt, oBool, oList, oTuple, oSorted, oIn, oAddI, oGet, oSet, oAppend, oExtend, oPop, oPopAt, newL, startD, wipeD, D.tyN, List.map_cons, List.map_nil, List.cons_append, List.nil_append, List.length_cons, List.length_nil, List.getElem?_cons_zero, List.getElem?_cons_succ, List.set_cons_zero, List.set_cons_succ, List.replicate, Nat.sub_self, Nat.reduceSub, Nat.reduceAdd, Nat.zero_add, kb_ii, kb_ib, kb_it, kb_is, kb_bi, kb_bb, kb_bt, kb_bs, kb_tt, kb_ti, kb_ts, kb_ss, kb_si, kb_st, kb_nt, kb_ni, kb_ns, kb_lt, kb_li, kb_ls, ex_some, seq_tup, seq_lst, seq_fz, list_lst, lsts_lst, lsts_fz, itOf_tup, itOf_lst, itOf_fz, now_int, now_bl, now_non, now_str, now_tup, now_lst, isNon_non, isNon_int, isNon_tup, isNon_ref, isNon_lst, isNon_str, isNon_bl]
        exact hM k oq k0 k1 hq
      · rw [rangeD_len] at hvl hp'
        have hw' := hfr3 pw _ hpwp hw
        simp only [dSeq, dNext, dRet, dRetN, dIfS, dAsg, dAsgG, dDrop, dPar2, dPar3, dAug, dAugS, dFor, dOp, dVar, dC, dTest, dChain, dAnd, dOr, dNot, dAndV, dOrV, dNotV, dIf, dTup, dLst, dNil, dCons, dStar, dCB, dCall, dSl, dNoPart, dPart, dBM, dRev, dNeg, dIsi, dListRg, dTupRg, dRg1, dRg2, dLc, dIt, dEnum, dZip2, dZip3, dRng1, dRng2, dYes, gN, gT, gsNil, gsCons, gSb, oI, oI0, oAdd, oMulA, oSub, oFdiv, oMod, oPow, oLt, oLe, oGt, oGe, oEq, oNe, oIsN, oNotN, oIsB, oNotB, oIx, oSl, oLen, oSum, oAll, oAny, oAbs, o1I, o2I, oMin2, oMax2, oMin, oMax, oMinL, oMaxL, oInt, oBool, oList, oTuple, oSorted, oIn, oAddI, oGet, oSet, oAppend, oExtend, oPop, oPopAt, newL, startD, wipeD, D.tyN, List.map_cons, List.map_nil, List.cons_append, List.nil_append, List.length_cons, List.length_nil, List.getElem?_cons_zero, List.getElem?_cons_succ, List.set_cons_zero, List.set_cons_succ, List.replicate, Nat.sub_self, Nat.reduceSub, Nat.reduceAdd, Nat.zero_add, kb_ii, kb_ib, kb_it, kb_is, kb_bi, kb_bb, kb_bt, kb_bs, kb_tt, kb_ti, kb_ts, kb_ss, kb_si, kb_st, kb_nt, kb_ni, kb_ns, kb_lt, kb_li, kb_ls, ex_some, seq_tup, seq_lst, seq_fz, list_lst, lsts_lst, lsts_fz, itOf_tup, itOf_lst, itOf_fz, now_int, now_bl, now_non, now_str, now_tup, now_lst, isNon_non, isNon_int, isNon_tup, isNon_ref, isNon_lst, isNon_str, isNon_bl, trk_ref hw', sort_ints]
        refine ⟨⟨okn_ints, akin_ints, sortable_ints, small (by rw [List.length_map]; omega)⟩, by rw [List.length_map, sizeLine_eq]; omega, ?_⟩
        refine hN2 _ _ trivial ⟨_, _, W ++ [vs.mergeSort fun a b => decide (a ≤ b)], o', rfl, by rw [Sto.up_same, List.map_append]; rfl, by simp; omega, fun r hr => ?_, by rw [Sto.up_ne (Ne.symm hpwp)]; exact hS', ?_, (hfr2.trans hfr3).old hn0⟩
        · rcases List.mem_append.mp hr with z | z
          · exact hrow r z
          · rw [List.mem_singleton.mp z]
            exact ⟨by rw [List.length_mergeSort, hvl], sorted_pair, fun x hx => hvs x (List.mem_mergeSort.mp hx)⟩
        · rw [List.length_append]
          exact hp'.mono (by simp; omega)
    · rintro ρ S2 ⟨o4', o5', W, oc, rfl, hw, hlen, hrow, hSp, hpp, hfr2⟩
      rw [List.length_nil, Nat.add_zero] at hlen
      show v2 _ _ _
      subst hv2
      refine seqG fun v3 hv3 => ?_
      simp only [dSeq, dNext, dRet, dRetN, dIfS, dAsg, dAsgG, dDrop, dPar2, dPar3, dAug, dAugS, dFor, dOp, dVar, dC, dTest, dChain, dAnd, dOr, dNot, dAndV, dOrV, dNotV, dIf, dTup, dLst, dNil, dCons, dStar, dCB, dCall, dSl, dNoPart, dPart, dBM, dRev, dNeg, dIsi, dListRg, dTupRg, dRg1, dRg2, dLc, dIt, dEnum, dZip2, dZip3, dRng1, dRng2, dYes, gN, gT, gsNil, gsCons, gSb, oI, oI0, oAdd, oMulA, oSub, oFdiv, oMod, oPow, oLt, oLe, oGt, oGe, oEq, oNe, oIsN, oNotN, oIsB, oNotB, oIx, oSl, oLen, oSum, oAll, oAny, oAbs, o1I, o2I, oMin2, oMax2, oMin, oMax, oMinL, oMaxL, oInt, oBool, oList, oTuple, oSorted, oIn, oAddI, oGet, oSet, oAppend, oExtend, oPop, oPopAt, newL, startD, wipeD, D.tyN, List.map_cons, List.map_nil, List.cons_append, List.nil_append, List.length_cons, List.length_nil, List.getElem?_cons_zero, List.getElem?_cons_succ, List.set_cons_zero, List.set_cons_succ, List.replicate, Nat.sub_self, Nat.reduceSub, Nat.reduceAdd, Nat.zero_add, kb_ii, kb_ib, kb_it, kb_is, kb_bi, kb_bb, kb_bt, kb_bs, kb_tt, kb_ti, kb_ts, kb_ss, kb_si, kb_st, kb_nt, kb_ni, kb_ns, kb_lt, kb_li, kb_ls, ex_some, seq_tup, seq_lst, seq_fz, list_lst, lsts_lst, lsts_fz, itOf_tup, itOf_lst, itOf_fz, now_int, now_bl, now_non, now_str, now_tup, now_lst, isNon_non, isNon_int, isNon_tup, isNon_ref, isNon_lst, isNon_str, isNon_bl, seq_ref hw]
      refine ⟨p, (L : Int) + 1, _, oc, rfl, by omega, by omega, hSp, hpp, by omega, fun m od m0 m1 hpd => ?_⟩
      simp only [dSeq, dNext, dRet, dRetN, dIfS, dAsg, dAsgG, dDrop, dPar2, dPar3, dAug, dAugS, dFor, dOp, dVar, dC, dTest, dChain, dAnd, dOr, dNot, dAndV, dOrV, dNotV, dIf, dTup, dLst, dNil, dCons, dStar, dCB, dCall, dSl, dNoPart, dPart, dBM, dRev, dNeg, dIsi, dListRg, dTupRg, dRg1, dRg2, dLc, dIt, dEnum, dZip2, dZip3, dRng1, dRng2, dYes, gN, gT, gsNil, gsCons, gSb, oI, oI0, oAdd, oMulA, oSub, oFdiv, oMod, oPow, oLt, oLe, oGt, oGe, oEq, oNe, oIsN, oNotN, oIsB, oNotB, oIx, oSl, oLen, oSum, oAll, oAny, oAbs, o1I, o2I, oMin2, oMax2, oMin, oMax, oMinL, oMaxL, oInt, oBool, oList, oTuple, oSorted, oIn, oAddI, oGet, oSet, oAppend, oExtend, oPop, oPopAt, newL, startD, wipeD, D.tyN, List.map_cons, List.map_nil, List.cons_append, List.nil_append, List.length_cons, List.length_nil, List.getElem?_cons_zero, List.getElem?_cons_succ, List.set_cons_zero, List.set_cons_succ, List.replicate, Nat.sub_self, Nat.reduceSub, Nat.reduceAdd, Nat.zero_add, kb_ii, kb_ib, kb_it, kb_is, kb_bi, kb_bb, kb_bt, kb_bs, kb_tt, kb_ti, kb_ts, kb_ss, kb_si, kb_st, kb_nt, kb_ni, kb_ns, kb_lt, kb_li, kb_ls, ex_some, seq_tup, seq_lst, seq_fz, list_lst, lsts_lst, lsts_fz, itOf_tup, itOf_lst, itOf_fz, now_int, now_bl, now_non, now_str, now_tup, now_lst, isNon_non, isNon_int, isNon_tup, isNon_ref, isNon_lst, isNon_str, isNon_bl]
      have hE : S2.up p od p = some od := Sto.up_same
      have hfr3 : Fr p S0 (S2.up p od) := hfr2.own
      generalize S2.up p od = S3 at hE hfr3 ⊢
      have gW : GW W L := ⟨by omega, by omega, hL1, by omega, fun r h => (hrow r h).len, fun r h => (hrow r h).ord, fun r h x hx => by have := (hrow r h).bd x hx; omega⟩
      have hW30 : ∀ r ∈ W, ∀ x ∈ r, x ≤ 1000 := fun r h x hx => by have := (hrow r h).bd x hx; omega
      subst hv3
      refine seqG fun v4 hv4 => ?_
      simp only [dSeq, dNext, dRet, dRetN, dIfS, dAsg, dAsgG, dDrop, dPar2, dPar3, dAug, dAugS, dFor, dOp, dVar, dC, dTest, dChain, dAnd, dOr, dNot, dAndV, dOrV, dNotV, dIf, dTup, dLst, dNil, dCons, dStar, dCB, dCall, dSl, dNoPart, dPart, dBM, dRev, dNeg, dIsi, dListRg, dTupRg, dRg1, dRg2, dLc, dIt, dEnum, dZip2, dZip3, dRng1, dRng2, dYes, gN, gT, gsNil, gsCons, gSb, oI, oI0, oAdd, oMulA, oSub, oFdiv, oMod, oPow, oLt, oLe, oGt, oGe, oEq, oNe, oIsN, oNotN, oIsB, oNotB, oIx, oSl, oLen, oSum, oAll, oAny, oAbs, o1I, o2I, oMin2, oMax2, oMin, oMax, oMinL, oMaxL, oInt, oBool, oList, oTuple, oSorted, oIn, oAddI, oGet, oSet, oAppend, oExtend, oPop, oPopAt, newL, startD, wipeD, D.tyN, List.map_cons, List.map_nil, List.cons_append, List.nil_append, List.length_cons, List.length_nil, List.getElem?_cons_zero, List.getElem?_cons_succ, List.set_cons_zero, List.set_cons_succ, List.replicate, Nat.sub_self, Nat.reduceSub, Nat.reduceAdd, Nat.zero_add, kb_ii, kb_ib, kb_it, kb_is, kb_bi, kb_bb, kb_bt, kb_bs, kb_tt, kb_ti, kb_ts, kb_ss, kb_si, kb_st, kb_nt, kb_ni, kb_ns, kb_lt, kb_li, kb_ls, ex_some, seq_tup, seq_lst, seq_fz, list_lst, lsts_lst, lsts_fz, itOf_tup, itOf_lst, itOf_fz, now_int, now_bl, now_non, now_str, now_tup, now_lst, isNon_non, isNon_int, isNon_tup, isNon_ref, isNon_lst, isNon_str, isNon_bl]
      have a1 : ∀ x y : D, atI [x, y] 1 = some y := fun _ _ => rfl
      have a0 : ∀ x y : D, atI [x, y] 0 = some x := fun _ _ => rfl
      refine ⟨W, L, m, rfl, gW, m0, by omega, fun c st => ?_⟩
      simp only [dSeq, dNext, dRet, dRetN, dIfS, dAsg, dAsgG, dDrop, dPar2, dPar3, dAug, dAugS, dFor, dOp, dVar, dC, dTest, dChain, dAnd, dOr, dNot, dAndV, dOrV, dNotV, dIf, dTup, dLst, dNil, dCons, dStar, dCB, dCall, dSl, dNoPart, dPart, dBM, dRev, dNeg, dIsi, dListRg, dTupRg, dRg1, dRg2, dLc, dIt, dEnum, dZip2, dZip3, dRng1, dRng2, dYes, gN, gT, gsNil, gsCons, gSb, oI, oI0, oAdd, oMulA, oSub, oFdiv, oMod, oPow, oLt, oLe, oGt, oGe, oEq, oNe, oIsN, oNotN, oIsB, oNotB, oIx, oSl, oLen, oSum, oAll, oAny, oAbs, o1I, o2I, oMin2, oMax2, oMin, oMax, oMinL, oMaxL, oInt, oBool, oList, oTuple, oSorted, oIn, oAddI, oGet, oSet, oAppend, oExtend, oPop, oPopAt, newL, startD, wipeD, D.tyN, List.map_cons, List.map_nil, List.cons_append, List.nil_append, List.length_cons, List.length_nil, List.getElem?_cons_zero, List.getElem?_cons_succ, List.set_cons_zero, List.set_cons_succ, List.replicate, Nat.sub_self, Nat.reduceSub, Nat.reduceAdd, Nat.zero_add, kb_ii, kb_ib, kb_it, kb_is, kb_bi, kb_bb, kb_bt, kb_bs, kb_tt, kb_ti, kb_ts, kb_ss, kb_si, kb_st, kb_nt, kb_ni, kb_ns, kb_lt, kb_li, kb_ls, ex_some, seq_tup, seq_lst, seq_fz, list_lst, lsts_lst, lsts_fz, itOf_tup, itOf_lst, itOf_fz, now_int, now_bl, now_non, now_str, now_tup, now_lst, isNon_non, isNon_int, isNon_tup, isNon_ref, isNon_lst, isNon_str, isNon_bl, a1, ← List.map_reverse]
      subst hv4
      refine seqG fun v5 hv5 => ?_
      simp only [dSeq, dNext, dRet, dRetN, dIfS, dAsg, dAsgG, dDrop, dPar2, dPar3, dAug, dAugS, dFor, dOp, dVar, dC, dTest, dChain, dAnd, dOr, dNot, dAndV, dOrV, dNotV, dIf, dTup, dLst, dNil, dCons, dStar, dCB, dCall, dSl, dNoPart, dPart, dBM, dRev, dNeg, dIsi, dListRg, dTupRg, dRg1, dRg2, dLc, dIt, dEnum, dZip2, dZip3, dRng1, dRng2, dYes, gN, gT, gsNil, gsCons, gSb, oI, oI0, oAdd, oMulA, oSub, oFdiv, oMod, oPow, oLt, oLe, oGt, oGe, oEq, oNe, oIsN, oNotN, oIsB, oNotB, oIx, oSl, oLen, oSum, oAll, oAny, oAbs, o1I, o2I, oMin2, oMax2, oMin, oMax, oMinL, oMaxL, oInt, oBool, oList, oTuple, oSorted, oIn, oAddI, oGet, oSet, oAppend, oExtend, oPop, oPopAt, newL, startD, wipeD, D.tyN, List.map_cons, List.map_nil, List.cons_append, List.nil_append, List.length_cons, List.length_nil, List.getElem?_cons_zero, List.getElem?_cons_succ, List.set_cons_zero, List.set_cons_succ, List.replicate, Nat.sub_self, Nat.reduceSub, Nat.reduceAdd, Nat.zero_add, kb_ii, kb_ib, kb_it, kb_is, kb_bi, kb_bb, kb_bt, kb_bs, kb_tt, kb_ti, kb_ts, kb_ss, kb_si, kb_st, kb_nt, kb_ni, kb_ns, kb_lt, kb_li, kb_ls, ex_some, seq_tup, seq_lst, seq_fz, list_lst, lsts_lst, lsts_fz, itOf_tup, itOf_lst, itOf_fz, now_int, now_bl, now_non, now_str, now_tup, now_lst, isNon_non, isNon_int, isNon_tup, isNon_ref, isNon_lst, isNon_str, isNon_bl]
      refine ⟨W, L, m, c, rfl, gW, st.calm, by omega, ?_⟩
      simp only [dSeq, dNext, dRet, dRetN, dIfS, dAsg, dAsgG, dDrop, dPar2, dPar3, dAug, dAugS, dFor, dOp, dVar, dC, dTest, dChain, dAnd, dOr, dNot, dAndV, dOrV, dNotV, dIf, dTup, dLst, dNil, dCons, dStar, dCB, dCall, dSl, dNoPart, dPart, dBM, dRev, dNeg, dIsi, dListRg, dTupRg, dRg1, dRg2, dLc, dIt, dEnum, dZip2, dZip3, dRng1, dRng2, dYes, gN, gT, gsNil, gsCons, gSb, oI, oI0, oAdd, oMulA, oSub, oFdiv, oMod, oPow, oLt, oLe, oGt, oGe, oEq, oNe, oIsN, oNotN, oIsB, oNotB, oIx, oSl, oLen, oSum, oAll, oAny, oAbs, o1I, o2I, oMin2, oMax2, oMin, oMax, oMinL, oMaxL, oInt, oBool, oList, oTuple, oSorted, oIn, oAddI, oGet, oSet, oAppend, oExtend, oPop, oPopAt, newL, startD, wipeD, D.tyN, List.map_cons, List.map_nil, List.cons_append, List.nil_append, List.length_cons, List.length_nil, List.getElem?_cons_zero, List.getElem?_cons_succ, List.set_cons_zero, List.set_cons_succ, List.replicate, Nat.sub_self, Nat.reduceSub, Nat.reduceAdd, Nat.zero_add, kb_ii, kb_ib, kb_it, kb_is, kb_bi, kb_bb, kb_bt, kb_bs, kb_tt, kb_ti, kb_ts, kb_ss, kb_si, kb_st, kb_nt, kb_ni, kb_ns, kb_lt, kb_li, kb_ls, ex_some, seq_tup, seq_lst, seq_fz, list_lst, lsts_lst, lsts_fz, itOf_tup, itOf_lst, itOf_fz, now_int, now_bl, now_non, now_str, now_tup, now_lst, isNon_non, isNon_int, isNon_tup, isNon_ref, isNon_lst, isNon_str, isNon_bl]
      refine ⟨by rw [sizeLine_eq]; omega, ⟨set_ok, set_ok⟩, ?_⟩
      rw [eqD_refl set_ok]
      simp only [Bool.not_true, eI, dSeq, dNext, dRet, dRetN, dIfS, dAsg, dAsgG, dDrop, dPar2, dPar3, dAug, dAugS, dFor, dOp, dVar, dC, dTest, dChain, dAnd, dOr, dNot, dAndV, dOrV, dNotV, dIf, dTup, dLst, dNil, dCons, dStar, dCB, dCall, dSl, dNoPart, dPart, dBM, dRev, dNeg, dIsi, dListRg, dTupRg, dRg1, dRg2, dLc, dIt, dEnum, dZip2, dZip3, dRng1, dRng2, dYes, gN, gT, gsNil, gsCons, gSb, oI, oI0, oAdd, oMulA, oSub, oFdiv, oMod, oPow, oLt, oLe, oGt, oGe, oEq, oNe, oIsN, oNotN, oIsB, oNotB, oIx, oSl, oLen, oSum, oAll, oAny, oAbs, o1I, o2I, oMin2, oMax2, oMin, oMax, oMinL, oMaxL, oInt, oBool, oList, oTuple, oSorted, oIn, oAddI, oGet, oSet, oAppend, oExtend, oPop, oPopAt, newL, startD, wipeD, D.tyN, List.map_cons, List.map_nil, List.cons_append, List.nil_append, List.length_cons, List.length_nil, List.getElem?_cons_zero, List.getElem?_cons_succ, List.set_cons_zero, List.set_cons_succ, List.replicate, Nat.sub_self, Nat.reduceSub, Nat.reduceAdd, Nat.zero_add, kb_ii, kb_ib, kb_it, kb_is, kb_bi, kb_bb, kb_bt, kb_bs, kb_tt, kb_ti, kb_ts, kb_ss, kb_si, kb_st, kb_nt, kb_ni, kb_ns, kb_lt, kb_li, kb_ls, ex_some, seq_tup, seq_lst, seq_fz, list_lst, lsts_lst, lsts_fz, itOf_tup, itOf_lst, itOf_fz, now_int, now_bl, now_non, now_str, now_tup, now_lst, isNon_non, isNon_int, isNon_tup, isNon_ref, isNon_lst, isNon_str, isNon_bl]
      refine ⟨c, rfl, ⟨okn_int, okn_int⟩, ?_⟩
      rw [eqD_int, st.sum, decide_eq_true rfl]
      simp only [Bool.not_true]
      subst hv5
      refine seqG fun v6 hv6 => ?_
      simp only [dSeq, dNext, dRet, dRetN, dIfS, dAsg, dAsgG, dDrop, dPar2, dPar3, dAug, dAugS, dFor, dOp, dVar, dC, dTest, dChain, dAnd, dOr, dNot, dAndV, dOrV, dNotV, dIf, dTup, dLst, dNil, dCons, dStar, dCB, dCall, dSl, dNoPart, dPart, dBM, dRev, dNeg, dIsi, dListRg, dTupRg, dRg1, dRg2, dLc, dIt, dEnum, dZip2, dZip3, dRng1, dRng2, dYes, gN, gT, gsNil, gsCons, gSb, oI, oI0, oAdd, oMulA, oSub, oFdiv, oMod, oPow, oLt, oLe, oGt, oGe, oEq, oNe, oIsN, oNotN, oIsB, oNotB, oIx, oSl, oLen, oSum, oAll, oAny, oAbs, o1I, o2I, oMin2, oMax2, oMin, oMax, oMinL, oMaxL, oInt, oBool, oList, oTuple, oSorted, oIn, oAddI, oGet, oSet, oAppend, oExtend, oPop, oPopAt, newL, startD, wipeD, D.tyN, List.map_cons, List.map_nil, List.cons_append, List.nil_append, List.length_cons, List.length_nil, List.getElem?_cons_zero, List.getElem?_cons_succ, List.set_cons_zero, List.set_cons_succ, List.replicate, Nat.sub_self, Nat.reduceSub, Nat.reduceAdd, Nat.zero_add, kb_ii, kb_ib, kb_it, kb_is, kb_bi, kb_bb, kb_bt, kb_bs, kb_tt, kb_ti, kb_ts, kb_ss, kb_si, kb_st, kb_nt, kb_ni, kb_ns, kb_lt, kb_li, kb_ls, ex_some, seq_tup, seq_lst, seq_fz, list_lst, lsts_lst, lsts_fz, itOf_tup, itOf_lst, itOf_fz, now_int, now_bl, now_non, now_str, now_tup, now_lst, isNon_non, isNon_int, isNon_tup, isNon_ref, isNon_lst, isNon_str, isNon_bl, ← List.map_reverse]
      refine ⟨by rw [sizeLine_eq]; omega, W.reverse, L, m, c.reverse, rfl, gW.rev, m0, st.calm.rev, by omega, ?_⟩
      simp only [decide_true, Bool.not_true]
      subst hv6
      refine seqG fun v7 hv7 => ?_
      obtain ⟨mn, rfl⟩ : ∃ mn : Nat, m = (mn : Int) := ⟨m.toNat, by omega⟩
      simp only [dSeq, dNext, dRet, dRetN, dIfS, dAsg, dAsgG, dDrop, dPar2, dPar3, dAug, dAugS, dFor, dOp, dVar, dC, dTest, dChain, dAnd, dOr, dNot, dAndV, dOrV, dNotV, dIf, dTup, dLst, dNil, dCons, dStar, dCB, dCall, dSl, dNoPart, dPart, dBM, dRev, dNeg, dIsi, dListRg, dTupRg, dRg1, dRg2, dLc, dIt, dEnum, dZip2, dZip3, dRng1, dRng2, dYes, gN, gT, gsNil, gsCons, gSb, oI, oI0, oAdd, oMulA, oSub, oFdiv, oMod, oPow, oLt, oLe, oGt, oGe, oEq, oNe, oIsN, oNotN, oIsB, oNotB, oIx, oSl, oLen, oSum, oAll, oAny, oAbs, o1I, o2I, oMin2, oMax2, oMin, oMax, oMinL, oMaxL, oInt, oBool, oList, oTuple, oSorted, oIn, oAddI, oGet, oSet, oAppend, oExtend, oPop, oPopAt, newL, startD, wipeD, D.tyN, List.map_cons, List.map_nil, List.cons_append, List.nil_append, List.length_cons, List.length_nil, List.getElem?_cons_zero, List.getElem?_cons_succ, List.set_cons_zero, List.set_cons_succ, List.replicate, Nat.sub_self, Nat.reduceSub, Nat.reduceAdd, Nat.zero_add, kb_ii, kb_ib, kb_it, kb_is, kb_bi, kb_bb, kb_bt, kb_bs, kb_tt, kb_ti, kb_ts, kb_ss, kb_si, kb_st, kb_nt, kb_ni, kb_ns, kb_lt, kb_li, kb_ls, ex_some, seq_tup, seq_lst, seq_fz, list_lst, lsts_lst, lsts_fz, itOf_tup, itOf_lst, itOf_fz, now_int, now_bl, now_non, now_str, now_tup, now_lst, isNon_non, isNon_int, isNon_tup, isNon_ref, isNon_lst, isNon_str, isNon_bl, eI]
      refine ⟨W.reverse, L, mn, rfl, gW.rev, by omega, fun o1' ho1 => ?_⟩
      rw [List.length_reverse] at ho1
      obtain ⟨bv1, bc1, rfl, hB1⟩ := lst_some gW.rev (by omega) (by rw [List.length_reverse]; exact ho1)
      simp only [dSeq, dNext, dRet, dRetN, dIfS, dAsg, dAsgG, dDrop, dPar2, dPar3, dAug, dAugS, dFor, dOp, dVar, dC, dTest, dChain, dAnd, dOr, dNot, dAndV, dOrV, dNotV, dIf, dTup, dLst, dNil, dCons, dStar, dCB, dCall, dSl, dNoPart, dPart, dBM, dRev, dNeg, dIsi, dListRg, dTupRg, dRg1, dRg2, dLc, dIt, dEnum, dZip2, dZip3, dRng1, dRng2, dYes, gN, gT, gsNil, gsCons, gSb, oI, oI0, oAdd, oMulA, oSub, oFdiv, oMod, oPow, oLt, oLe, oGt, oGe, oEq, oNe, oIsN, oNotN, oIsB, oNotB, oIx, oSl, oLen, oSum, oAll, oAny, oAbs, o1I, o2I, oMin2, oMax2, oMin, oMax, oMinL, oMaxL, oInt, oBool, oList, oTuple, oSorted, oIn, oAddI, oGet, oSet, oAppend, oExtend, oPop, oPopAt, newL, startD, wipeD, D.tyN, List.map_cons, List.map_nil, List.cons_append, List.nil_append, List.length_cons, List.length_nil, List.getElem?_cons_zero, List.getElem?_cons_succ, List.set_cons_zero, List.set_cons_succ, List.replicate, Nat.sub_self, Nat.reduceSub, Nat.reduceAdd, Nat.zero_add, kb_ii, kb_ib, kb_it, kb_is, kb_bi, kb_bb, kb_bt, kb_bs, kb_tt, kb_ti, kb_ts, kb_ss, kb_si, kb_st, kb_nt, kb_ni, kb_ns, kb_lt, kb_li, kb_ls, ex_some, seq_tup, seq_lst, seq_fz, list_lst, lsts_lst, lsts_fz, itOf_tup, itOf_lst, itOf_fz, now_int, now_bl, now_non, now_str, now_tup, now_lst, isNon_non, isNon_int, isNon_tup, isNon_ref, isNon_lst, isNon_str, isNon_bl, eO, a0]
      refine ⟨W, L, mn, rfl, gW, by omega, fun o2' ho2 => ?_⟩
      obtain ⟨bv, bc2, rfl, hB⟩ := lst_some gW (by omega) ho2
      simp only [dSeq, dNext, dRet, dRetN, dIfS, dAsg, dAsgG, dDrop, dPar2, dPar3, dAug, dAugS, dFor, dOp, dVar, dC, dTest, dChain, dAnd, dOr, dNot, dAndV, dOrV, dNotV, dIf, dTup, dLst, dNil, dCons, dStar, dCB, dCall, dSl, dNoPart, dPart, dBM, dRev, dNeg, dIsi, dListRg, dTupRg, dRg1, dRg2, dLc, dIt, dEnum, dZip2, dZip3, dRng1, dRng2, dYes, gN, gT, gsNil, gsCons, gSb, oI, oI0, oAdd, oMulA, oSub, oFdiv, oMod, oPow, oLt, oLe, oGt, oGe, oEq, oNe, oIsN, oNotN, oIsB, oNotB, oIx, oSl, oLen, oSum, oAll, oAny, oAbs, o1I, o2I, oMin2, oMax2, oMin, oMax, oMinL, oMaxL, oInt, oBool, oList, oTuple, oSorted, oIn, oAddI, oGet, oSet, oAppend, oExtend, oPop, oPopAt, newL, startD, wipeD, D.tyN, List.map_cons, List.map_nil, List.cons_append, List.nil_append, List.length_cons, List.length_nil, List.getElem?_cons_zero, List.getElem?_cons_succ, List.set_cons_zero, List.set_cons_succ, List.replicate, Nat.sub_self, Nat.reduceSub, Nat.reduceAdd, Nat.zero_add, kb_ii, kb_ib, kb_it, kb_is, kb_bi, kb_bb, kb_bt, kb_bs, kb_tt, kb_ti, kb_ts, kb_ss, kb_si, kb_st, kb_nt, kb_ni, kb_ns, kb_lt, kb_li, kb_ls, ex_some, seq_tup, seq_lst, seq_fz, list_lst, lsts_lst, lsts_fz, itOf_tup, itOf_lst, itOf_fz, now_int, now_bl, now_non, now_str, now_tup, now_lst, isNon_non, isNon_int, isNon_tup, isNon_ref, isNon_lst, isNon_str, isNon_bl, eO, a0]
      refine ⟨⟨okn_int, okn_int⟩, ?_⟩
      have hbv : bv1 = bv := hB1.uniq hB.rev
      rw [eqD_int, decide_eq_true hbv]
      simp only [Bool.not_true]
      refine ⟨W, L, mn, rfl, gW, by omega, by omega, hW30, ?_⟩
      simp only [Bool.not_true]
      subst hv7
      refine seqG fun v8 hv8 => ?_
      simp only [dSeq, dNext, dRet, dRetN, dIfS, dAsg, dAsgG, dDrop, dPar2, dPar3, dAug, dAugS, dFor, dOp, dVar, dC, dTest, dChain, dAnd, dOr, dNot, dAndV, dOrV, dNotV, dIf, dTup, dLst, dNil, dCons, dStar, dCB, dCall, dSl, dNoPart, dPart, dBM, dRev, dNeg, dIsi, dListRg, dTupRg, dRg1, dRg2, dLc, dIt, dEnum, dZip2, dZip3, dRng1, dRng2, dYes, gN, gT, gsNil, gsCons, gSb, oI, oI0, oAdd, oMulA, oSub, oFdiv, oMod, oPow, oLt, oLe, oGt, oGe, oEq, oNe, oIsN, oNotN, oIsB, oNotB, oIx, oSl, oLen, oSum, oAll, oAny, oAbs, o1I, o2I, oMin2, oMax2, oMin, oMax, oMinL, oMaxL, oInt, oBool, oList, oTuple, oSorted, oIn, oAddI, oGet, oSet, oAppend, oExtend, oPop, oPopAt, newL, startD, wipeD, D.tyN, List.map_cons, List.map_nil, List.cons_append, List.nil_append, List.length_cons, List.length_nil, List.getElem?_cons_zero, List.getElem?_cons_succ, List.set_cons_zero, List.set_cons_succ, List.replicate, Nat.sub_self, Nat.reduceSub, Nat.reduceAdd, Nat.zero_add, kb_ii, kb_ib, kb_it, kb_is, kb_bi, kb_bb, kb_bt, kb_bs, kb_tt, kb_ti, kb_ts, kb_ss, kb_si, kb_st, kb_nt, kb_ni, kb_ns, kb_lt, kb_li, kb_ls, ex_some, seq_tup, seq_lst, seq_fz, list_lst, lsts_lst, lsts_fz, itOf_tup, itOf_lst, itOf_fz, now_int, now_bl, now_non, now_str, now_tup, now_lst, isNon_non, isNon_int, isNon_tup, isNon_ref, isNon_lst, isNon_str, isNon_bl, eI]
      refine lc_mapE W eI (fun r => eI (r.map fun x => 2 * x)) (fun _ _ => trivial) (small (by omega)) (fun r hr S' e M M2 h => ?_) ?_
      · have hrl := (hrow r hr).len
        simp only [dSeq, dNext, dRet, dRetN, dIfS, dAsg, dAsgG, dDrop, dPar2, dPar3, dAug, dAugS, dFor, dOp, dVar, dC, dTest, dChain, dAnd, dOr, dNot, dAndV, dOrV, dNotV, dIf, dTup, dLst, dNil, dCons, dStar, dCB, dCall, dSl, dNoPart, dPart, dBM, dRev, dNeg, dIsi, dListRg, dTupRg, dRg1, dRg2, dLc, dIt, dEnum, dZip2, dZip3, dRng1, dRng2, dYes, gN, gT, gsNil, gsCons, gSb, oI, oI0, oAdd, oMulA, oSub, oFdiv, oMod, oPow, oLt, oLe, oGt, oGe, oEq, oNe, oIsN, oNotN, oIsB, oNotB, oIx, oSl, oLen, oSum, oAll, oAny, oAbs, o1I, o2I, oMin2, oMax2, oMin, oMax, oMinL, oMaxL, oInt, oBool, oList, oTuple, oSorted, oIn, oAddI, oGet, oSet, oAppend, oExtend, oPop, oPopAt, newL, startD, wipeD, D.tyN, List.map_cons, List.map_nil, List.cons_append, List.nil_append, List.length_cons, List.length_nil, List.getElem?_cons_zero, List.getElem?_cons_succ, List.set_cons_zero, List.set_cons_succ, List.replicate, Nat.sub_self, Nat.reduceSub, Nat.reduceAdd, Nat.zero_add, kb_ii, kb_ib, kb_it, kb_is, kb_bi, kb_bb, kb_bt, kb_bs, kb_tt, kb_ti, kb_ts, kb_ss, kb_si, kb_st, kb_nt, kb_ni, kb_ns, kb_lt, kb_li, kb_ls, ex_some, seq_tup, seq_lst, seq_fz, list_lst, lsts_lst, lsts_fz, itOf_tup, itOf_lst, itOf_fz, now_int, now_bl, now_non, now_str, now_tup, now_lst, isNon_non, isNon_int, isNon_tup, isNon_ref, isNon_lst, isNon_str, isNon_bl, eI]
        refine lc_mapE r D.int (fun x => .int (2 * x)) (fun _ _ => trivial) (small (by omega)) (fun y hy S2' e' M3 M4 h' => ?_) ?_
        · have := (hrow r hr).bd y hy
          simp only [dSeq, dNext, dRet, dRetN, dIfS, dAsg, dAsgG, dDrop, dPar2, dPar3, dAug, dAugS, dFor, dOp, dVar, dC, dTest, dChain, dAnd, dOr, dNot, dAndV, dOrV, dNotV, dIf, dTup, dLst, dNil, dCons, dStar, dCB, dCall, dSl, dNoPart, dPart, dBM, dRev, dNeg, dIsi, dListRg, dTupRg, dRg1, dRg2, dLc, dIt, dEnum, dZip2, dZip3, dRng1, dRng2, dYes, gN, gT, gsNil, gsCons, gSb, oI, oI0, oAdd, oMulA, oSub, oFdiv, oMod, oPow, oLt, oLe, oGt, oGe, oEq, oNe, oIsN, oNotN, oIsB, oNotB, oIx, oSl, oLen, oSum, oAll, oAny, oAbs, o1I, o2I, oMin2, oMax2, oMin, oMax, oMinL, oMaxL, oInt, oBool, oList, oTuple, oSorted, oIn, oAddI, oGet, oSet, oAppend, oExtend, oPop, oPopAt, newL, startD, wipeD, D.tyN, List.map_cons, List.map_nil, List.cons_append, List.nil_append, List.length_cons, List.length_nil, List.getElem?_cons_zero, List.getElem?_cons_succ, List.set_cons_zero, List.set_cons_succ, List.replicate, Nat.sub_self, Nat.reduceSub, Nat.reduceAdd, Nat.zero_add, kb_ii, kb_ib, kb_it, kb_is, kb_bi, kb_bb, kb_bt, kb_bs, kb_tt, kb_ti, kb_ts, kb_ss, kb_si, kb_st, kb_nt, kb_ni, kb_ns, kb_lt, kb_li, kb_ls, ex_some, seq_tup, seq_lst, seq_fz, list_lst, lsts_lst, lsts_fz, itOf_tup, itOf_lst, itOf_fz, now_int, now_bl, now_non, now_str, now_tup, now_lst, isNon_non, isNon_int, isNon_tup, isNon_ref, isNon_lst, isNon_str, isNon_bl]
          exact ⟨cmul_small (n := 2) (m := 30) (by decide) (by omega) (by decide +kernel) (by decide +kernel), h'⟩
        · simp only [dSeq, dNext, dRet, dRetN, dIfS, dAsg, dAsgG, dDrop, dPar2, dPar3, dAug, dAugS, dFor, dOp, dVar, dC, dTest, dChain, dAnd, dOr, dNot, dAndV, dOrV, dNotV, dIf, dTup, dLst, dNil, dCons, dStar, dCB, dCall, dSl, dNoPart, dPart, dBM, dRev, dNeg, dIsi, dListRg, dTupRg, dRg1, dRg2, dLc, dIt, dEnum, dZip2, dZip3, dRng1, dRng2, dYes, gN, gT, gsNil, gsCons, gSb, oI, oI0, oAdd, oMulA, oSub, oFdiv, oMod, oPow, oLt, oLe, oGt, oGe, oEq, oNe, oIsN, oNotN, oIsB, oNotB, oIx, oSl, oLen, oSum, oAll, oAny, oAbs, o1I, o2I, oMin2, oMax2, oMin, oMax, oMinL, oMaxL, oInt, oBool, oList, oTuple, oSorted, oIn, oAddI, oGet, oSet, oAppend, oExtend, oPop, oPopAt, newL, startD, wipeD, D.tyN, List.map_cons, List.map_nil, List.cons_append, List.nil_append, List.length_cons, List.length_nil, List.getElem?_cons_zero, List.getElem?_cons_succ, List.set_cons_zero, List.set_cons_succ, List.replicate, Nat.sub_self, Nat.reduceSub, Nat.reduceAdd, Nat.zero_add, kb_ii, kb_ib, kb_it, kb_is, kb_bi, kb_bb, kb_bt, kb_bs, kb_tt, kb_ti, kb_ts, kb_ss, kb_si, kb_st, kb_nt, kb_ni, kb_ns, kb_lt, kb_li, kb_ls, ex_some, seq_tup, seq_lst, seq_fz, list_lst, lsts_lst, lsts_fz, itOf_tup, itOf_lst, itOf_fz, now_int, now_bl, now_non, now_str, now_tup, now_lst, isNon_non, isNon_int, isNon_tup, isNon_ref, isNon_lst, isNon_str, isNon_bl]
          have : r.map (fun x => D.int (2 * x)) = (r.map fun x => 2 * x).map D.int := by rw [List.map_map]; rfl
          rw [this]
          exact h
      simp only [dSeq, dNext, dRet, dRetN, dIfS, dAsg, dAsgG, dDrop, dPar2, dPar3, dAug, dAugS, dFor, dOp, dVar, dC, dTest, dChain, dAnd, dOr, dNot, dAndV, dOrV, dNotV, dIf, dTup, dLst, dNil, dCons, dStar, dCB, dCall, dSl, dNoPart, dPart, dBM, dRev, dNeg, dIsi, dListRg, dTupRg, dRg1, dRg2, dLc, dIt, dEnum, dZip2, dZip3, dRng1, dRng2, dYes, gN, gT, gsNil, gsCons, gSb, oI, oI0, oAdd, oMulA, oSub, oFdiv, oMod, oPow, oLt, oLe, oGt, oGe, oEq, oNe, oIsN, oNotN, oIsB, oNotB, oIx, oSl, oLen, oSum, oAll, oAny, oAbs, o1I, o2I, oMin2, oMax2, oMin, oMax, oMinL, oMaxL, oInt, oBool, oList, oTuple, oSorted, oIn, oAddI, oGet, oSet, oAppend, oExtend, oPop, oPopAt, newL, startD, wipeD, D.tyN, List.map_cons, List.map_nil, List.cons_append, List.nil_append, List.length_cons, List.length_nil, List.getElem?_cons_zero, List.getElem?_cons_succ, List.set_cons_zero, List.set_cons_succ, List.replicate, Nat.sub_self, Nat.reduceSub, Nat.reduceAdd, Nat.zero_add, kb_ii, kb_ib, kb_it, kb_is, kb_bi, kb_bb, kb_bt, kb_bs, kb_tt, kb_ti, kb_ts, kb_ss, kb_si, kb_st, kb_nt, kb_ni, kb_ns, kb_lt, kb_li, kb_ls, ex_some, seq_tup, seq_lst, seq_fz, list_lst, lsts_lst, lsts_fz, itOf_tup, itOf_lst, itOf_fz, now_int, now_bl, now_non, now_str, now_tup, now_lst, isNon_non, isNon_int, isNon_tup, isNon_ref, isNon_lst, isNon_str, isNon_bl]
      have edb : W.map (fun r => eI (r.map fun x => 2 * x)) = (dbl W).map eI := by unfold dbl; rw [List.map_map]; rfl
      rw [edb]
      subst hv8
      refine seqG fun v9 hv9 => ?_
      simp only [dSeq, dNext, dRet, dRetN, dIfS, dAsg, dAsgG, dDrop, dPar2, dPar3, dAug, dAugS, dFor, dOp, dVar, dC, dTest, dChain, dAnd, dOr, dNot, dAndV, dOrV, dNotV, dIf, dTup, dLst, dNil, dCons, dStar, dCB, dCall, dSl, dNoPart, dPart, dBM, dRev, dNeg, dIsi, dListRg, dTupRg, dRg1, dRg2, dLc, dIt, dEnum, dZip2, dZip3, dRng1, dRng2, dYes, gN, gT, gsNil, gsCons, gSb, oI, oI0, oAdd, oMulA, oSub, oFdiv, oMod, oPow, oLt, oLe, oGt, oGe, oEq, oNe, oIsN, oNotN, oIsB, oNotB, oIx, oSl, oLen, oSum, oAll, oAny, oAbs, o1I, o2I, oMin2, oMax2, oMin, oMax, oMinL, oMaxL, oInt, oBool, oList, oTuple, oSorted, oIn, oAddI, oGet, oSet, oAppend, oExtend, oPop, oPopAt, newL, startD, wipeD, D.tyN, List.map_cons, List.map_nil, List.cons_append, List.nil_append, List.length_cons, List.length_nil, List.getElem?_cons_zero, List.getElem?_cons_succ, List.set_cons_zero, List.set_cons_succ, List.replicate, Nat.sub_self, Nat.reduceSub, Nat.reduceAdd, Nat.zero_add, kb_ii, kb_ib, kb_it, kb_is, kb_bi, kb_bb, kb_bt, kb_bs, kb_tt, kb_ti, kb_ts, kb_ss, kb_si, kb_st, kb_nt, kb_ni, kb_ns, kb_lt, kb_li, kb_ls, ex_some, seq_tup, seq_lst, seq_fz, list_lst, lsts_lst, lsts_fz, itOf_tup, itOf_lst, itOf_fz, now_int, now_bl, now_non, now_str, now_tup, now_lst, isNon_non, isNon_int, isNon_tup, isNon_ref, isNon_lst, isNon_str, isNon_bl]
      have gD := gW.dbl hW30
      refine ⟨by rw [sizeLine_eq]; omega, dbl W, L, mn, c, rfl, gD, by omega, st.calm.dbl, by omega, ?_⟩
      simp only [decide_true, Bool.not_true]
      subst hv9
      refine seqG fun v10 hv10 => ?_
      simp only [dSeq, dNext, dRet, dRetN, dIfS, dAsg, dAsgG, dDrop, dPar2, dPar3, dAug, dAugS, dFor, dOp, dVar, dC, dTest, dChain, dAnd, dOr, dNot, dAndV, dOrV, dNotV, dIf, dTup, dLst, dNil, dCons, dStar, dCB, dCall, dSl, dNoPart, dPart, dBM, dRev, dNeg, dIsi, dListRg, dTupRg, dRg1, dRg2, dLc, dIt, dEnum, dZip2, dZip3, dRng1, dRng2, dYes, gN, gT, gsNil, gsCons, gSb, oI, oI0, oAdd, oMulA, oSub, oFdiv, oMod, oPow, oLt, oLe, oGt, oGe, oEq, oNe, oIsN, oNotN, oIsB, oNotB, oIx, oSl, oLen, oSum, oAll, oAny, oAbs, o1I, o2I, oMin2, oMax2, oMin, oMax, oMinL, oMaxL, oInt, oBool, oList, oTuple, oSorted, oIn, oAddI, oGet, oSet, oAppend, oExtend, oPop, oPopAt, newL, startD, wipeD, D.tyN, List.map_cons, List.map_nil, List.cons_append, List.nil_append, List.length_cons, List.length_nil, List.getElem?_cons_zero, List.getElem?_cons_succ, List.set_cons_zero, List.set_cons_succ, List.replicate, Nat.sub_self, Nat.reduceSub, Nat.reduceAdd, Nat.zero_add, kb_ii, kb_ib, kb_it, kb_is, kb_bi, kb_bb, kb_bt, kb_bs, kb_tt, kb_ti, kb_ts, kb_ss, kb_si, kb_st, kb_nt, kb_ni, kb_ns, kb_lt, kb_li, kb_ls, ex_some, seq_tup, seq_lst, seq_fz, list_lst, lsts_lst, lsts_fz, itOf_tup, itOf_lst, itOf_fz, now_int, now_bl, now_non, now_str, now_tup, now_lst, isNon_non, isNon_int, isNon_tup, isNon_ref, isNon_lst, isNon_str, isNon_bl]
      refine ⟨W, L, mn, rfl, gW, by omega, fun c2 bv2 st2 hB2 => ?_⟩
      simp only [dSeq, dNext, dRet, dRetN, dIfS, dAsg, dAsgG, dDrop, dPar2, dPar3, dAug, dAugS, dFor, dOp, dVar, dC, dTest, dChain, dAnd, dOr, dNot, dAndV, dOrV, dNotV, dIf, dTup, dLst, dNil, dCons, dStar, dCB, dCall, dSl, dNoPart, dPart, dBM, dRev, dNeg, dIsi, dListRg, dTupRg, dRg1, dRg2, dLc, dIt, dEnum, dZip2, dZip3, dRng1, dRng2, dYes, gN, gT, gsNil, gsCons, gSb, oI, oI0, oAdd, oMulA, oSub, oFdiv, oMod, oPow, oLt, oLe, oGt, oGe, oEq, oNe, oIsN, oNotN, oIsB, oNotB, oIx, oSl, oLen, oSum, oAll, oAny, oAbs, o1I, o2I, oMin2, oMax2, oMin, oMax, oMinL, oMaxL, oInt, oBool, oList, oTuple, oSorted, oIn, oAddI, oGet, oSet, oAppend, oExtend, oPop, oPopAt, newL, startD, wipeD, D.tyN, List.map_cons, List.map_nil, List.cons_append, List.nil_append, List.length_cons, List.length_nil, List.getElem?_cons_zero, List.getElem?_cons_succ, List.set_cons_zero, List.set_cons_succ, List.replicate, Nat.sub_self, Nat.reduceSub, Nat.reduceAdd, Nat.zero_add, kb_ii, kb_ib, kb_it, kb_is, kb_bi, kb_bb, kb_bt, kb_bs, kb_tt, kb_ti, kb_ts, kb_ss, kb_si, kb_st, kb_nt, kb_ni, kb_ns, kb_lt, kb_li, kb_ls, ex_some, seq_tup, seq_lst, seq_fz, list_lst, lsts_lst, lsts_fz, itOf_tup, itOf_lst, itOf_fz, now_int, now_bl, now_non, now_str, now_tup, now_lst, isNon_non, isNon_int, isNon_tup, isNon_ref, isNon_lst, isNon_str, isNon_bl]
      refine ⟨trivial, ?_⟩
      subst hv10
      refine seqG fun v11 hv11 => ?_
      simp only [dSeq, dNext, dRet, dRetN, dIfS, dAsg, dAsgG, dDrop, dPar2, dPar3, dAug, dAugS, dFor, dOp, dVar, dC, dTest, dChain, dAnd, dOr, dNot, dAndV, dOrV, dNotV, dIf, dTup, dLst, dNil, dCons, dStar, dCB, dCall, dSl, dNoPart, dPart, dBM, dRev, dNeg, dIsi, dListRg, dTupRg, dRg1, dRg2, dLc, dIt, dEnum, dZip2, dZip3, dRng1, dRng2, dYes, gN, gT, gsNil, gsCons, gSb, oI, oI0, oAdd, oMulA, oSub, oFdiv, oMod, oPow, oLt, oLe, oGt, oGe, oEq, oNe, oIsN, oNotN, oIsB, oNotB, oIx, oSl, oLen, oSum, oAll, oAny, oAbs, o1I, o2I, oMin2, oMax2, oMin, oMax, oMinL, oMaxL, oInt, oBool, oList, oTuple, oSorted, oIn, oAddI, oGet, oSet, oAppend, oExtend, oPop, oPopAt, newL, startD, wipeD, D.tyN, List.map_cons, List.map_nil, List.cons_append, List.nil_append, List.length_cons, List.length_nil, List.getElem?_cons_zero, List.getElem?_cons_succ, List.set_cons_zero, List.set_cons_succ, List.replicate, Nat.sub_self, Nat.reduceSub, Nat.reduceAdd, Nat.zero_add, kb_ii, kb_ib, kb_it, kb_is, kb_bi, kb_bb, kb_bt, kb_bs, kb_tt, kb_ti, kb_ts, kb_ss, kb_si, kb_st, kb_nt, kb_ni, kb_ns, kb_lt, kb_li, kb_ls, ex_some, seq_tup, seq_lst, seq_fz, list_lst, lsts_lst, lsts_fz, itOf_tup, itOf_lst, itOf_fz, now_int, now_bl, now_non, now_str, now_tup, now_lst, isNon_non, isNon_int, isNon_tup, isNon_ref, isNon_lst, isNon_str, isNon_bl, eI]
      have vD : Vec (dbl W) L mn c := st.calm.dbl.toVec
      refine ⟨dbl W, L, mn, c, rfl, gD, vD, by omega, W, L, mn, c, rfl, gW, st.toVec, by omega, ?_⟩
      simp only [dSeq, dNext, dRet, dRetN, dIfS, dAsg, dAsgG, dDrop, dPar2, dPar3, dAug, dAugS, dFor, dOp, dVar, dC, dTest, dChain, dAnd, dOr, dNot, dAndV, dOrV, dNotV, dIf, dTup, dLst, dNil, dCons, dStar, dCB, dCall, dSl, dNoPart, dPart, dBM, dRev, dNeg, dIsi, dListRg, dTupRg, dRg1, dRg2, dLc, dIt, dEnum, dZip2, dZip3, dRng1, dRng2, dYes, gN, gT, gsNil, gsCons, gSb, oI, oI0, oAdd, oMulA, oSub, oFdiv, oMod, oPow, oLt, oLe, oGt, oGe, oEq, oNe, oIsN, oNotN, oIsB, oNotB, oIx, oSl, oLen, oSum, oAll, oAny, oAbs, o1I, o2I, oMin2, oMax2, oMin, oMax, oMinL, oMaxL, oInt, oBool, oList, oTuple, oSorted, oIn, oAddI, oGet, oSet, oAppend, oExtend, oPop, oPopAt, newL, startD, wipeD, D.tyN, List.map_cons, List.map_nil, List.cons_append, List.nil_append, List.length_cons, List.length_nil, List.getElem?_cons_zero, List.getElem?_cons_succ, List.set_cons_zero, List.set_cons_succ, List.replicate, Nat.sub_self, Nat.reduceSub, Nat.reduceAdd, Nat.zero_add, kb_ii, kb_ib, kb_it, kb_is, kb_bi, kb_bb, kb_bt, kb_bs, kb_tt, kb_ti, kb_ts, kb_ss, kb_si, kb_st, kb_nt, kb_ni, kb_ns, kb_lt, kb_li, kb_ls, ex_some, seq_tup, seq_lst, seq_fz, list_lst, lsts_lst, lsts_fz, itOf_tup, itOf_lst, itOf_fz, now_int, now_bl, now_non, now_str, now_tup, now_lst, isNon_non, isNon_int, isNon_tup, isNon_ref, isNon_lst, isNon_str, isNon_bl, eI]
      have tb := total_bd st.len st.nn gW.bd
      rw [st.sum] at tb
      refine ⟨cmul_small (n := 2) (m := 1000000 * 60) (by decide) (by omega) (by decide +kernel) (by decide +kernel), ⟨okn_int, okn_int⟩, ?_⟩
      rw [eqD_int, total_dbl, decide_eq_true rfl]
      simp only [Bool.not_true]
      refine ⟨W, L, mn, rfl, gW, by omega, fun o3' ho3 => ?_⟩
      obtain ⟨bv3, bc3, rfl, hB3⟩ := lst_some gW (by omega) ho3
      simp only [dSeq, dNext, dRet, dRetN, dIfS, dAsg, dAsgG, dDrop, dPar2, dPar3, dAug, dAugS, dFor, dOp, dVar, dC, dTest, dChain, dAnd, dOr, dNot, dAndV, dOrV, dNotV, dIf, dTup, dLst, dNil, dCons, dStar, dCB, dCall, dSl, dNoPart, dPart, dBM, dRev, dNeg, dIsi, dListRg, dTupRg, dRg1, dRg2, dLc, dIt, dEnum, dZip2, dZip3, dRng1, dRng2, dYes, gN, gT, gsNil, gsCons, gSb, oI, oI0, oAdd, oMulA, oSub, oFdiv, oMod, oPow, oLt, oLe, oGt, oGe, oEq, oNe, oIsN, oNotN, oIsB, oNotB, oIx, oSl, oLen, oSum, oAll, oAny, oAbs, o1I, o2I, oMin2, oMax2, oMin, oMax, oMinL, oMaxL, oInt, oBool, oList, oTuple, oSorted, oIn, oAddI, oGet, oSet, oAppend, oExtend, oPop, oPopAt, newL, startD, wipeD, D.tyN, List.map_cons, List.map_nil, List.cons_append, List.nil_append, List.length_cons, List.length_nil, List.getElem?_cons_zero, List.getElem?_cons_succ, List.set_cons_zero, List.set_cons_succ, List.replicate, Nat.sub_self, Nat.reduceSub, Nat.reduceAdd, Nat.zero_add, kb_ii, kb_ib, kb_it, kb_is, kb_bi, kb_bb, kb_bt, kb_bs, kb_tt, kb_ti, kb_ts, kb_ss, kb_si, kb_st, kb_nt, kb_ni, kb_ns, kb_lt, kb_li, kb_ls, ex_some, seq_tup, seq_lst, seq_fz, list_lst, lsts_lst, lsts_fz, itOf_tup, itOf_lst, itOf_fz, now_int, now_bl, now_non, now_str, now_tup, now_lst, isNon_non, isNon_int, isNon_tup, isNon_ref, isNon_lst, isNon_str, isNon_bl, eO, a0]
      refine ⟨⟨okn_int, okn_int⟩, ?_⟩
      rw [eqD_int, decide_eq_true (hB2.uniq hB3)]
      simp only [Bool.not_true]
      subst hv11
      refine seqG fun v12 hv12 => ?_
      have le2 := hB2.le c2 st2.toVec.vp
      have le1 := hB2.le c st.toVec.vp
      simp only [dSeq, dNext, dRet, dRetN, dIfS, dAsg, dAsgG, dDrop, dPar2, dPar3, dAug, dAugS, dFor, dOp, dVar, dC, dTest, dChain, dAnd, dOr, dNot, dAndV, dOrV, dNotV, dIf, dTup, dLst, dNil, dCons, dStar, dCB, dCall, dSl, dNoPart, dPart, dBM, dRev, dNeg, dIsi, dListRg, dTupRg, dRg1, dRg2, dLc, dIt, dEnum, dZip2, dZip3, dRng1, dRng2, dYes, gN, gT, gsNil, gsCons, gSb, oI, oI0, oAdd, oMulA, oSub, oFdiv, oMod, oPow, oLt, oLe, oGt, oGe, oEq, oNe, oIsN, oNotN, oIsB, oNotB, oIx, oSl, oLen, oSum, oAll, oAny, oAbs, o1I, o2I, oMin2, oMax2, oMin, oMax, oMinL, oMaxL, oInt, oBool, oList, oTuple, oSorted, oIn, oAddI, oGet, oSet, oAppend, oExtend, oPop, oPopAt, newL, startD, wipeD, D.tyN, List.map_cons, List.map_nil, List.cons_append, List.nil_append, List.length_cons, List.length_nil, List.getElem?_cons_zero, List.getElem?_cons_succ, List.set_cons_zero, List.set_cons_succ, List.replicate, Nat.sub_self, Nat.reduceSub, Nat.reduceAdd, Nat.zero_add, kb_ii, kb_ib, kb_it, kb_is, kb_bi, kb_bb, kb_bt, kb_bs, kb_tt, kb_ti, kb_ts, kb_ss, kb_si, kb_st, kb_nt, kb_ni, kb_ns, kb_lt, kb_li, kb_ls, ex_some, seq_tup, seq_lst, seq_fz, list_lst, lsts_lst, lsts_fz, itOf_tup, itOf_lst, itOf_fz, now_int, now_bl, now_non, now_str, now_tup, now_lst, isNon_non, isNon_int, isNon_tup, isNon_ref, isNon_lst, isNon_str, isNon_bl]
      rw [decide_eq_false (by omega)]
      simp only [dSeq, dNext, dRet, dRetN, dIfS, dAsg, dAsgG, dDrop, dPar2, dPar3, dAug, dAugS, dFor, dOp, dVar, dC, dTest, dChain, dAnd, dOr, dNot, dAndV, dOrV, dNotV, dIf, dTup, dLst, dNil, dCons, dStar, dCB, dCall, dSl, dNoPart, dPart, dBM, dRev, dNeg, dIsi, dListRg, dTupRg, dRg1, dRg2, dLc, dIt, dEnum, dZip2, dZip3, dRng1, dRng2, dYes, gN, gT, gsNil, gsCons, gSb, oI, oI0, oAdd, oMulA, oSub, oFdiv, oMod, oPow, oLt, oLe, oGt, oGe, oEq, oNe, oIsN, oNotN, oIsB, oNotB, oIx, oSl, oLen, oSum, oAll, oAny, oAbs, o1I, o2I, oMin2, oMax2, oMin, oMax, oMinL, oMaxL, oInt, oBool, oList, oTuple, oSorted, oIn, oAddI, oGet, oSet, oAppend, oExtend, oPop, oPopAt, newL, startD, wipeD, D.tyN, List.map_cons, List.map_nil, List.cons_append, List.nil_append, List.length_cons, List.length_nil, List.getElem?_cons_zero, List.getElem?_cons_succ, List.set_cons_zero, List.set_cons_succ, List.replicate, Nat.sub_self, Nat.reduceSub, Nat.reduceAdd, Nat.zero_add, kb_ii, kb_ib, kb_it, kb_is, kb_bi, kb_bb, kb_bt, kb_bs, kb_tt, kb_ti, kb_ts, kb_ss, kb_si, kb_st, kb_nt, kb_ni, kb_ns, kb_lt, kb_li, kb_ls, ex_some, seq_tup, seq_lst, seq_fz, list_lst, lsts_lst, lsts_fz, itOf_tup, itOf_lst, itOf_fz, now_int, now_bl, now_non, now_str, now_tup, now_lst, isNon_non, isNon_int, isNon_tup, isNon_ref, isNon_lst, isNon_str, isNon_bl, eI]
      refine ⟨W, L, mn, c, rfl, gW, st.toVec, by omega, ?_⟩
      simp only [dSeq, dNext, dRet, dRetN, dIfS, dAsg, dAsgG, dDrop, dPar2, dPar3, dAug, dAugS, dFor, dOp, dVar, dC, dTest, dChain, dAnd, dOr, dNot, dAndV, dOrV, dNotV, dIf, dTup, dLst, dNil, dCons, dStar, dCB, dCall, dSl, dNoPart, dPart, dBM, dRev, dNeg, dIsi, dListRg, dTupRg, dRg1, dRg2, dLc, dIt, dEnum, dZip2, dZip3, dRng1, dRng2, dYes, gN, gT, gsNil, gsCons, gSb, oI, oI0, oAdd, oMulA, oSub, oFdiv, oMod, oPow, oLt, oLe, oGt, oGe, oEq, oNe, oIsN, oNotN, oIsB, oNotB, oIx, oSl, oLen, oSum, oAll, oAny, oAbs, o1I, o2I, oMin2, oMax2, oMin, oMax, oMinL, oMaxL, oInt, oBool, oList, oTuple, oSorted, oIn, oAddI, oGet, oSet, oAppend, oExtend, oPop, oPopAt, newL, startD, wipeD, D.tyN, List.map_cons, List.map_nil, List.cons_append, List.nil_append, List.length_cons, List.length_nil, List.getElem?_cons_zero, List.getElem?_cons_succ, List.set_cons_zero, List.set_cons_succ, List.replicate, Nat.sub_self, Nat.reduceSub, Nat.reduceAdd, Nat.zero_add, kb_ii, kb_ib, kb_it, kb_is, kb_bi, kb_bb, kb_bt, kb_bs, kb_tt, kb_ti, kb_ts, kb_ss, kb_si, kb_st, kb_nt, kb_ni, kb_ns, kb_lt, kb_li, kb_ls, ex_some, seq_tup, seq_lst, seq_fz, list_lst, lsts_lst, lsts_fz, itOf_tup, itOf_lst, itOf_fz, now_int, now_bl, now_non, now_str, now_tup, now_lst, isNon_non, isNon_int, isNon_tup, isNon_ref, isNon_lst, isNon_str, isNon_bl]
      rw [decide_eq_false (by omega)]
      simp only []
      subst hv12
      refine seqG fun v13 hv13 => ?_
      simp only [dSeq, dNext, dRet, dRetN, dIfS, dAsg, dAsgG, dDrop, dPar2, dPar3, dAug, dAugS, dFor, dOp, dVar, dC, dTest, dChain, dAnd, dOr, dNot, dAndV, dOrV, dNotV, dIf, dTup, dLst, dNil, dCons, dStar, dCB, dCall, dSl, dNoPart, dPart, dBM, dRev, dNeg, dIsi, dListRg, dTupRg, dRg1, dRg2, dLc, dIt, dEnum, dZip2, dZip3, dRng1, dRng2, dYes, gN, gT, gsNil, gsCons, gSb, oI, oI0, oAdd, oMulA, oSub, oFdiv, oMod, oPow, oLt, oLe, oGt, oGe, oEq, oNe, oIsN, oNotN, oIsB, oNotB, oIx, oSl, oLen, oSum, oAll, oAny, oAbs, o1I, o2I, oMin2, oMax2, oMin, oMax, oMinL, oMaxL, oInt, oBool, oList, oTuple, oSorted, oIn, oAddI, oGet, oSet, oAppend, oExtend, oPop, oPopAt, newL, startD, wipeD, D.tyN, List.map_cons, List.map_nil, List.cons_append, List.nil_append, List.length_cons, List.length_nil, List.getElem?_cons_zero, List.getElem?_cons_succ, List.set_cons_zero, List.set_cons_succ, List.replicate, Nat.sub_self, Nat.reduceSub, Nat.reduceAdd, Nat.zero_add, kb_ii, kb_ib, kb_it, kb_is, kb_bi, kb_bb, kb_bt, kb_bs, kb_tt, kb_ti, kb_ts, kb_ss, kb_si, kb_st, kb_nt, kb_ni, kb_ns, kb_lt, kb_li, kb_ls, ex_some, seq_tup, seq_lst, seq_fz, list_lst, lsts_lst, lsts_fz, itOf_tup, itOf_lst, itOf_fz, now_int, now_bl, now_non, now_str, now_tup, now_lst, isNon_non, isNon_int, isNon_tup, isNon_ref, isNon_lst, isNon_str, isNon_bl]
      have repk : ∀ k : Int, (List.replicate ((L : Int)).toNat [D.int k]).flatten = (List.replicate L k).map D.int := fun k => by
        rw [Int.toNat_natCast]; exact rep_map D.int k L
      refine lc_draws (p := p) (n := 9) (f := fun k => eI (List.replicate L k)) (W.map eI) hE hpd (by rw [List.length_map]; omega) (fun d S' M o' b' hS' hp' hb' hM => ?_) (by omega) fun ws o' S4 hwl hws hS4 hp4 hfr4 => ?_
      · simp only [dSeq, dNext, dRet, dRetN, dIfS, dAsg, dAsgG, dDrop, dPar2, dPar3, dAug, dAugS, dFor, dOp, dVar, dC, dTest, dChain, dAnd, dOr, dNot, dAndV, dOrV, dNotV, dIf, dTup, dLst, dNil, dCons, dStar, dCB, dCall, dSl, dNoPart, dPart, dBM, dRev, dNeg, dIsi, dListRg, dTupRg, dRg1, dRg2, dLc, dIt, dEnum, dZip2, dZip3, dRng1, dRng2, dYes, gN, gT, gsNil, gsCons, gSb, oI, oI0, oAdd, oMulA, oSub, oFdiv, oMod, oPow, oLt, oLe, oGt, oGe, oEq, oNe, oIsN, oNotN, oIsB, oNotB, oIx, oSl, oLen, oSum, oAll, oAny, oAbs, o1I, o2I, oMin2, oMax2, oMin, oMax, oMinL, oMaxL, oInt, oBool, oList, oTuple, oSorted, oIn, oAddI, oGet, oSet, oAppend, oExtend, oPop, oPopAt, newL, startD, wipeD, D.tyN, List.map_cons, List.map_nil, List.cons_append, List.nil_append, List.length_cons, List.length_nil, List.getElem?_cons_zero, List.getElem?_cons_succ, List.set_cons_zero, List.set_cons_succ, List.replicate, Nat.sub_self, Nat.reduceSub, Nat.reduceAdd, Nat.zero_add, kb_ii, kb_ib, kb_it, kb_is, kb_bi, kb_bb, kb_bt, kb_bs, kb_tt, kb_ti, kb_ts, kb_ss, kb_si, kb_st, kb_nt, kb_ni, kb_ns, kb_lt, kb_li, kb_ls, ex_some, seq_tup, seq_lst, seq_fz, list_lst, lsts_lst, lsts_fz, itOf_tup, itOf_lst, itOf_fz, now_int, now_bl, now_non, now_str, now_tup, now_lst, isNon_non, isNon_int, isNon_tup, isNon_ref, isNon_lst, isNon_str, isNon_bl]
        refine ⟨p, 9, b', o', rfl, by decide, by decide, hS', hp', by omega, fun k oq k0 k1 hq => ?_⟩
        simp only [dSeq, dNext, dRet, dRetN, dIfS, dAsg, dAsgG, dDrop, dPar2, dPar3, dAug, dAugS, dFor, dOp, dVar, dC, dTest, dChain, dAnd, dOr, dNot, dAndV, dOrV, dNotV, dIf, dTup, dLst, dNil, dCons, dStar, dCB, dCall, dSl, dNoPart, dPart, dBM, dRev, dNeg, dIsi, dListRg, dTupRg, dRg1, dRg2, dLc, dIt, dEnum, dZip2, dZip3, dRng1, dRng2, dYes, gN, gT, gsNil, gsCons, gSb, oI, oI0, oAdd, oMulA, oSub, oFdiv, oMod, oPow, oLt, oLe, oGt, oGe, oEq, oNe, oIsN, oNotN, oIsB, oNotB, oIx, oSl, oLen, oSum, oAll, oAny, oAbs, o1I, o2I, oMin2, oMax2, oMin, oMax, oMinL, oMaxL, oInt, oBool, oList, oTuple, oSorted, oIn, oAddI, oGet, oSet, oAppend, oExtend, oPop, oPopAt, newL, startD, wipeD, D.tyN, List.map_cons, List.map_nil, List.cons_append, List.nil_append, List.length_cons, List.length_nil, List.getElem?_cons_zero, List.getElem?_cons_succ, List.set_cons_zero, List.set_cons_succ, List.replicate, Nat.sub_self, Nat.reduceSub, Nat.reduceAdd, Nat.zero_add, kb_ii, kb_ib, kb_it, kb_is, kb_bi, kb_bb, kb_bt, kb_bs, kb_tt, kb_ti, kb_ts, kb_ss, kb_si, kb_st, kb_nt, kb_ni, kb_ns, kb_lt, kb_li, kb_ls, ex_some, seq_tup, seq_lst, seq_fz, list_lst, lsts_lst, lsts_fz, itOf_tup, itOf_lst, itOf_fz, now_int, now_bl, now_non, now_str, now_tup, now_lst, isNon_non, isNon_int, isNon_tup, isNon_ref, isNon_lst, isNon_str, isNon_bl]
        refine ⟨small (by omega), ⟨List.cons_ne_nil _ _, by omega, by omega, by decide⟩, ?_⟩
        rw [repk]
        exact hM k oq k0 k1 hq
      simp only [dSeq, dNext, dRet, dRetN, dIfS, dAsg, dAsgG, dDrop, dPar2, dPar3, dAug, dAugS, dFor, dOp, dVar, dC, dTest, dChain, dAnd, dOr, dNot, dAndV, dOrV, dNotV, dIf, dTup, dLst, dNil, dCons, dStar, dCB, dCall, dSl, dNoPart, dPart, dBM, dRev, dNeg, dIsi, dListRg, dTupRg, dRg1, dRg2, dLc, dIt, dEnum, dZip2, dZip3, dRng1, dRng2, dYes, gN, gT, gsNil, gsCons, gSb, oI, oI0, oAdd, oMulA, oSub, oFdiv, oMod, oPow, oLt, oLe, oGt, oGe, oEq, oNe, oIsN, oNotN, oIsB, oNotB, oIx, oSl, oLen, oSum, oAll, oAny, oAbs, o1I, o2I, oMin2, oMax2, oMin, oMax, oMinL, oMaxL, oInt, oBool, oList, oTuple, oSorted, oIn, oAddI, oGet, oSet, oAppend, oExtend, oPop, oPopAt, newL, startD, wipeD, D.tyN, List.map_cons, List.map_nil, List.cons_append, List.nil_append, List.length_cons, List.length_nil, List.getElem?_cons_zero, List.getElem?_cons_succ, List.set_cons_zero, List.set_cons_succ, List.replicate, Nat.sub_self, Nat.reduceSub, Nat.reduceAdd, Nat.zero_add, kb_ii, kb_ib, kb_it, kb_is, kb_bi, kb_bb, kb_bt, kb_bs, kb_tt, kb_ti, kb_ts, kb_ss, kb_si, kb_st, kb_nt, kb_ni, kb_ns, kb_lt, kb_li, kb_ls, ex_some, seq_tup, seq_lst, seq_fz, list_lst, lsts_lst, lsts_fz, itOf_tup, itOf_lst, itOf_fz, now_int, now_bl, now_non, now_str, now_tup, now_lst, isNon_non, isNon_int, isNon_tup, isNon_ref, isNon_lst, isNon_str, isNon_bl]
      have efl : ws.map (fun k => eI (List.replicate L k)) = (flat L ws).map eI := by unfold flat; rw [List.map_map]; rfl
      rw [efl]
      rw [List.length_map] at hwl hp4
      have gF : GW (flat L ws) L := GW.flat (by omega) (by omega) hL1 (by omega) fun w hw => by have := hws w hw; omega
      have hfr5 := hfr3.trans hfr4
      subst hv13
      refine seqG fun v14 hv14 => ?_
      simp only [dSeq, dNext, dRet, dRetN, dIfS, dAsg, dAsgG, dDrop, dPar2, dPar3, dAug, dAugS, dFor, dOp, dVar, dC, dTest, dChain, dAnd, dOr, dNot, dAndV, dOrV, dNotV, dIf, dTup, dLst, dNil, dCons, dStar, dCB, dCall, dSl, dNoPart, dPart, dBM, dRev, dNeg, dIsi, dListRg, dTupRg, dRg1, dRg2, dLc, dIt, dEnum, dZip2, dZip3, dRng1, dRng2, dYes, gN, gT, gsNil, gsCons, gSb, oI, oI0, oAdd, oMulA, oSub, oFdiv, oMod, oPow, oLt, oLe, oGt, oGe, oEq, oNe, oIsN, oNotN, oIsB, oNotB, oIx, oSl, oLen, oSum, oAll, oAny, oAbs, o1I, o2I, oMin2, oMax2, oMin, oMax, oMinL, oMaxL, oInt, oBool, oList, oTuple, oSorted, oIn, oAddI, oGet, oSet, oAppend, oExtend, oPop, oPopAt, newL, startD, wipeD, D.tyN, List.map_cons, List.map_nil, List.cons_append, List.nil_append, List.length_cons, List.length_nil, List.getElem?_cons_zero, List.getElem?_cons_succ, List.set_cons_zero, List.set_cons_succ, List.replicate, Nat.sub_self, Nat.reduceSub, Nat.reduceAdd, Nat.zero_add, kb_ii, kb_ib, kb_it, kb_is, kb_bi, kb_bb, kb_bt, kb_bs, kb_tt, kb_ti, kb_ts, kb_ss, kb_si, kb_st, kb_nt, kb_ni, kb_ns, kb_lt, kb_li, kb_ls, ex_some, seq_tup, seq_lst, seq_fz, list_lst, lsts_lst, lsts_fz, itOf_tup, itOf_lst, itOf_fz, now_int, now_bl, now_non, now_str, now_tup, now_lst, isNon_non, isNon_int, isNon_tup, isNon_ref, isNon_lst, isNon_str, isNon_bl]
      refine lc_mapE (flat L ws) eI (fun r => .int (r.getD 0 0)) (fun _ _ => trivial) (small (by rw [flat_len]; omega)) (fun r hr S' e M M2 h => ?_) ?_
      · have hrl := gF.len r hr
        have : atI (r.map D.int) 0 = some (.int (r.getD 0 0)) := ix_int (by decide) (by omega)
        simp only [dSeq, dNext, dRet, dRetN, dIfS, dAsg, dAsgG, dDrop, dPar2, dPar3, dAug, dAugS, dFor, dOp, dVar, dC, dTest, dChain, dAnd, dOr, dNot, dAndV, dOrV, dNotV, dIf, dTup, dLst, dNil, dCons, dStar, dCB, dCall, dSl, dNoPart, dPart, dBM, dRev, dNeg, dIsi, dListRg, dTupRg, dRg1, dRg2, dLc, dIt, dEnum, dZip2, dZip3, dRng1, dRng2, dYes, gN, gT, gsNil, gsCons, gSb, oI, oI0, oAdd, oMulA, oSub, oFdiv, oMod, oPow, oLt, oLe, oGt, oGe, oEq, oNe, oIsN, oNotN, oIsB, oNotB, oIx, oSl, oLen, oSum, oAll, oAny, oAbs, o1I, o2I, oMin2, oMax2, oMin, oMax, oMinL, oMaxL, oInt, oBool, oList, oTuple, oSorted, oIn, oAddI, oGet, oSet, oAppend, oExtend, oPop, oPopAt, newL, startD, wipeD, D.tyN, List.map_cons, List.map_nil, List.cons_append, List.nil_append, List.length_cons, List.length_nil, List.getElem?_cons_zero, List.getElem?_cons_succ, List.set_cons_zero, List.set_cons_succ, List.replicate, Nat.sub_self, Nat.reduceSub, Nat.reduceAdd, Nat.zero_add, kb_ii, kb_ib, kb_it, kb_is, kb_bi, kb_bb, kb_bt, kb_bs, kb_tt, kb_ti, kb_ts, kb_ss, kb_si, kb_st, kb_nt, kb_ni, kb_ns, kb_lt, kb_li, kb_ls, ex_some, seq_tup, seq_lst, seq_fz, list_lst, lsts_lst, lsts_fz, itOf_tup, itOf_lst, itOf_fz, now_int, now_bl, now_non, now_str, now_tup, now_lst, isNon_non, isNon_int, isNon_tup, isNon_ref, isNon_lst, isNon_str, isNon_bl, eI, this]
        exact h
      simp only [dSeq, dNext, dRet, dRetN, dIfS, dAsg, dAsgG, dDrop, dPar2, dPar3, dAug, dAugS, dFor, dOp, dVar, dC, dTest, dChain, dAnd, dOr, dNot, dAndV, dOrV, dNotV, dIf, dTup, dLst, dNil, dCons, dStar, dCB, dCall, dSl, dNoPart, dPart, dBM, dRev, dNeg, dIsi, dListRg, dTupRg, dRg1, dRg2, dLc, dIt, dEnum, dZip2, dZip3, dRng1, dRng2, dYes, gN, gT, gsNil, gsCons, gSb, oI, oI0, oAdd, oMulA, oSub, oFdiv, oMod, oPow, oLt, oLe, oGt, oGe, oEq, oNe, oIsN, oNotN, oIsB, oNotB, oIx, oSl, oLen, oSum, oAll, oAny, oAbs, o1I, o2I, oMin2, oMax2, oMin, oMax, oMinL, oMaxL, oInt, oBool, oList, oTuple, oSorted, oIn, oAddI, oGet, oSet, oAppend, oExtend, oPop, oPopAt, newL, startD, wipeD, D.tyN, List.map_cons, List.map_nil, List.cons_append, List.nil_append, List.length_cons, List.length_nil, List.getElem?_cons_zero, List.getElem?_cons_succ, List.set_cons_zero, List.set_cons_succ, List.replicate, Nat.sub_self, Nat.reduceSub, Nat.reduceAdd, Nat.zero_add, kb_ii, kb_ib, kb_it, kb_is, kb_bi, kb_bb, kb_bt, kb_bs, kb_tt, kb_ti, kb_ts, kb_ss, kb_si, kb_st, kb_nt, kb_ni, kb_ns, kb_lt, kb_li, kb_ls, ex_some, seq_tup, seq_lst, seq_fz, list_lst, lsts_lst, lsts_fz, itOf_tup, itOf_lst, itOf_fz, now_int, now_bl, now_non, now_str, now_tup, now_lst, isNon_non, isNon_int, isNon_tup, isNon_ref, isNon_lst, isNon_str, isNon_bl]
      have efl2 : (flat L ws).map (fun r => D.int (r.getD 0 0)) = ws.map D.int := by
        unfold flat
        rw [List.map_map]
        apply List.map_congr_left
        intro w _
        show D.int ((List.replicate L w).getD 0 0) = D.int w
        rw [List.getD_eq_getElem?_getD, List.getElem?_replicate, if_pos (by omega)]; rfl
      rw [efl2]
      refine ⟨⟨?_, okn_ints, akin_ints⟩, fun lowD hlowD hmin => ?_⟩
      · intro z
        have := congrArg List.length z
        simp at this
        rw [this] at hwl
        simp at hwl
        omega
      obtain ⟨low, hlow, rfl⟩ := mem_int hlowD
      have hle : ∀ w ∈ ws, low ≤ w := fun w hw => by
        have := hmin _ (List.mem_map.mpr ⟨w, hw, rfl⟩)
        rw [ltD_int] at this
        have := of_decide_eq_false this
        omega
      have hl9 := hws low hlow
      simp only [dSeq, dNext, dRet, dRetN, dIfS, dAsg, dAsgG, dDrop, dPar2, dPar3, dAug, dAugS, dFor, dOp, dVar, dC, dTest, dChain, dAnd, dOr, dNot, dAndV, dOrV, dNotV, dIf, dTup, dLst, dNil, dCons, dStar, dCB, dCall, dSl, dNoPart, dPart, dBM, dRev, dNeg, dIsi, dListRg, dTupRg, dRg1, dRg2, dLc, dIt, dEnum, dZip2, dZip3, dRng1, dRng2, dYes, gN, gT, gsNil, gsCons, gSb, oI, oI0, oAdd, oMulA, oSub, oFdiv, oMod, oPow, oLt, oLe, oGt, oGe, oEq, oNe, oIsN, oNotN, oIsB, oNotB, oIx, oSl, oLen, oSum, oAll, oAny, oAbs, o1I, o2I, oMin2, oMax2, oMin, oMax, oMinL, oMaxL, oInt, oBool, oList, oTuple, oSorted, oIn, oAddI, oGet, oSet, oAppend, oExtend, oPop, oPopAt, newL, startD, wipeD, D.tyN, List.map_cons, List.map_nil, List.cons_append, List.nil_append, List.length_cons, List.length_nil, List.getElem?_cons_zero, List.getElem?_cons_succ, List.set_cons_zero, List.set_cons_succ, List.replicate, Nat.sub_self, Nat.reduceSub, Nat.reduceAdd, Nat.zero_add, kb_ii, kb_ib, kb_it, kb_is, kb_bi, kb_bb, kb_bt, kb_bs, kb_tt, kb_ti, kb_ts, kb_ss, kb_si, kb_st, kb_nt, kb_ni, kb_ns, kb_lt, kb_li, kb_ls, ex_some, seq_tup, seq_lst, seq_fz, list_lst, lsts_lst, lsts_fz, itOf_tup, itOf_lst, itOf_fz, now_int, now_bl, now_non, now_str, now_tup, now_lst, isNon_non, isNon_int, isNon_tup, isNon_ref, isNon_lst, isNon_str, isNon_bl]
      refine ⟨cmul_small (n := 60) (m := 9) (by omega) (by omega) (by decide +kernel) (by decide +kernel), ?_⟩
      subst hv14
      refine seqG fun v15 hv15 => ?_
      simp only [dSeq, dNext, dRet, dRetN, dIfS, dAsg, dAsgG, dDrop, dPar2, dPar3, dAug, dAugS, dFor, dOp, dVar, dC, dTest, dChain, dAnd, dOr, dNot, dAndV, dOrV, dNotV, dIf, dTup, dLst, dNil, dCons, dStar, dCB, dCall, dSl, dNoPart, dPart, dBM, dRev, dNeg, dIsi, dListRg, dTupRg, dRg1, dRg2, dLc, dIt, dEnum, dZip2, dZip3, dRng1, dRng2, dYes, gN, gT, gsNil, gsCons, gSb, oI, oI0, oAdd, oMulA, oSub, oFdiv, oMod, oPow, oLt, oLe, oGt, oGe, oEq, oNe, oIsN, oNotN, oIsB, oNotB, oIx, oSl, oLen, oSum, oAll, oAny, oAbs, o1I, o2I, oMin2, oMax2, oMin, oMax, oMinL, oMaxL, oInt, oBool, oList, oTuple, oSorted, oIn, oAddI, oGet, oSet, oAppend, oExtend, oPop, oPopAt, newL, startD, wipeD, D.tyN, List.map_cons, List.map_nil, List.cons_append, List.nil_append, List.length_cons, List.length_nil, List.getElem?_cons_zero, List.getElem?_cons_succ, List.set_cons_zero, List.set_cons_succ, List.replicate, Nat.sub_self, Nat.reduceSub, Nat.reduceAdd, Nat.zero_add, kb_ii, kb_ib, kb_it, kb_is, kb_bi, kb_bb, kb_bt, kb_bs, kb_tt, kb_ti, kb_ts, kb_ss, kb_si, kb_st, kb_nt, kb_ni, kb_ns, kb_lt, kb_li, kb_ls, ex_some, seq_tup, seq_lst, seq_fz, list_lst, lsts_lst, lsts_fz, itOf_tup, itOf_lst, itOf_fz, now_int, now_bl, now_non, now_str, now_tup, now_lst, isNon_non, isNon_int, isNon_tup, isNon_ref, isNon_lst, isNon_str, isNon_bl]
      refine ⟨flat L ws, L, mn, rfl, gF, by omega, fun c3 v3' st3 hB4 => ?_⟩
      rw [flat_total (by omega) st3 hlow hle, flat_best (by omega) (by omega) hlow hle hB4]
      have okp : D.okn 8 (D.tup [D.int ((mn : Int) * low), D.int ((mn : Int) * low)]) = true := by rw [okn_tup, List.all_cons, List.all_cons, okn_int]; rfl
      simp only [dSeq, dNext, dRet, dRetN, dIfS, dAsg, dAsgG, dDrop, dPar2, dPar3, dAug, dAugS, dFor, dOp, dVar, dC, dTest, dChain, dAnd, dOr, dNot, dAndV, dOrV, dNotV, dIf, dTup, dLst, dNil, dCons, dStar, dCB, dCall, dSl, dNoPart, dPart, dBM, dRev, dNeg, dIsi, dListRg, dTupRg, dRg1, dRg2, dLc, dIt, dEnum, dZip2, dZip3, dRng1, dRng2, dYes, gN, gT, gsNil, gsCons, gSb, oI, oI0, oAdd, oMulA, oSub, oFdiv, oMod, oPow, oLt, oLe, oGt, oGe, oEq, oNe, oIsN, oNotN, oIsB, oNotB, oIx, oSl, oLen, oSum, oAll, oAny, oAbs, o1I, o2I, oMin2, oMax2, oMin, oMax, oMinL, oMaxL, oInt, oBool, oList, oTuple, oSorted, oIn, oAddI, oGet, oSet, oAppend, oExtend, oPop, oPopAt, newL, startD, wipeD, D.tyN, List.map_cons, List.map_nil, List.cons_append, List.nil_append, List.length_cons, List.length_nil, List.getElem?_cons_zero, List.getElem?_cons_succ, List.set_cons_zero, List.set_cons_succ, List.replicate, Nat.sub_self, Nat.reduceSub, Nat.reduceAdd, Nat.zero_add, kb_ii, kb_ib, kb_it, kb_is, kb_bi, kb_bb, kb_bt, kb_bs, kb_tt, kb_ti, kb_ts, kb_ss, kb_si, kb_st, kb_nt, kb_ni, kb_ns, kb_lt, kb_li, kb_ls, ex_some, seq_tup, seq_lst, seq_fz, list_lst, lsts_lst, lsts_fz, itOf_tup, itOf_lst, itOf_fz, now_int, now_bl, now_non, now_str, now_tup, now_lst, isNon_non, isNon_int, isNon_tup, isNon_ref, isNon_lst, isNon_str, isNon_bl]
      refine ⟨by rw [sizeLine_eq]; omega, ⟨okp, okp⟩, ?_⟩
      rw [eqD_refl okp]
      simp only [Bool.not_true]
      refine ⟨flat L ws, L, mn, rfl, gF, by omega, by omega, fun c4 st4 => ?_⟩
      simp only [dSeq, dNext, dRet, dRetN, dIfS, dAsg, dAsgG, dDrop, dPar2, dPar3, dAug, dAugS, dFor, dOp, dVar, dC, dTest, dChain, dAnd, dOr, dNot, dAndV, dOrV, dNotV, dIf, dTup, dLst, dNil, dCons, dStar, dCB, dCall, dSl, dNoPart, dPart, dBM, dRev, dNeg, dIsi, dListRg, dTupRg, dRg1, dRg2, dLc, dIt, dEnum, dZip2, dZip3, dRng1, dRng2, dYes, gN, gT, gsNil, gsCons, gSb, oI, oI0, oAdd, oMulA, oSub, oFdiv, oMod, oPow, oLt, oLe, oGt, oGe, oEq, oNe, oIsN, oNotN, oIsB, oNotB, oIx, oSl, oLen, oSum, oAll, oAny, oAbs, o1I, o2I, oMin2, oMax2, oMin, oMax, oMinL, oMaxL, oInt, oBool, oList, oTuple, oSorted, oIn, oAddI, oGet, oSet, oAppend, oExtend, oPop, oPopAt, newL, startD, wipeD, D.tyN, List.map_cons, List.map_nil, List.cons_append, List.nil_append, List.length_cons, List.length_nil, List.getElem?_cons_zero, List.getElem?_cons_succ, List.set_cons_zero, List.set_cons_succ, List.replicate, Nat.sub_self, Nat.reduceSub, Nat.reduceAdd, Nat.zero_add, kb_ii, kb_ib, kb_it, kb_is, kb_bi, kb_bb, kb_bt, kb_bs, kb_tt, kb_ti, kb_ts, kb_ss, kb_si, kb_st, kb_nt, kb_ni, kb_ns, kb_lt, kb_li, kb_ls, ex_some, seq_tup, seq_lst, seq_fz, list_lst, lsts_lst, lsts_fz, itOf_tup, itOf_lst, itOf_fz, now_int, now_bl, now_non, now_str, now_tup, now_lst, isNon_non, isNon_int, isNon_tup, isNon_ref, isNon_lst, isNon_str, isNon_bl, a1]
      refine ⟨flat L ws, L, mn, c4, rfl, gF, st4.toVec, by omega, ?_⟩
      rw [flat_total (by omega) st4 hlow hle]
      simp only [dSeq, dNext, dRet, dRetN, dIfS, dAsg, dAsgG, dDrop, dPar2, dPar3, dAug, dAugS, dFor, dOp, dVar, dC, dTest, dChain, dAnd, dOr, dNot, dAndV, dOrV, dNotV, dIf, dTup, dLst, dNil, dCons, dStar, dCB, dCall, dSl, dNoPart, dPart, dBM, dRev, dNeg, dIsi, dListRg, dTupRg, dRg1, dRg2, dLc, dIt, dEnum, dZip2, dZip3, dRng1, dRng2, dYes, gN, gT, gsNil, gsCons, gSb, oI, oI0, oAdd, oMulA, oSub, oFdiv, oMod, oPow, oLt, oLe, oGt, oGe, oEq, oNe, oIsN, oNotN, oIsB, oNotB, oIx, oSl, oLen, oSum, oAll, oAny, oAbs, o1I, o2I, oMin2, oMax2, oMin, oMax, oMinL, oMaxL, oInt, oBool, oList, oTuple, oSorted, oIn, oAddI, oGet, oSet, oAppend, oExtend, oPop, oPopAt, newL, startD, wipeD, D.tyN, List.map_cons, List.map_nil, List.cons_append, List.nil_append, List.length_cons, List.length_nil, List.getElem?_cons_zero, List.getElem?_cons_succ, List.set_cons_zero, List.set_cons_succ, List.replicate, Nat.sub_self, Nat.reduceSub, Nat.reduceAdd, Nat.zero_add, kb_ii, kb_ib, kb_it, kb_is, kb_bi, kb_bb, kb_bt, kb_bs, kb_tt, kb_ti, kb_ts, kb_ss, kb_si, kb_st, kb_nt, kb_ni, kb_ns, kb_lt, kb_li, kb_ls, ex_some, seq_tup, seq_lst, seq_fz, list_lst, lsts_lst, lsts_fz, itOf_tup, itOf_lst, itOf_fz, now_int, now_bl, now_non, now_str, now_tup, now_lst, isNon_non, isNon_int, isNon_tup, isNon_ref, isNon_lst, isNon_str, isNon_bl]
      refine ⟨⟨okn_int, okn_int⟩, ?_⟩
      rw [eqD_int, decide_eq_true rfl]
      simp only [Bool.not_true]
      subst hv15
      refine seqG fun v16 hv16 => ?_
      simp only [dSeq, dNext, dRet, dRetN, dIfS, dAsg, dAsgG, dDrop, dPar2, dPar3, dAug, dAugS, dFor, dOp, dVar, dC, dTest, dChain, dAnd, dOr, dNot, dAndV, dOrV, dNotV, dIf, dTup, dLst, dNil, dCons, dStar, dCB, dCall, dSl, dNoPart, dPart, dBM, dRev, dNeg, dIsi, dListRg, dTupRg, dRg1, dRg2, dLc, dIt, dEnum, dZip2, dZip3, dRng1, dRng2, dYes, gN, gT, gsNil, gsCons, gSb, oI, oI0, oAdd, oMulA, oSub, oFdiv, oMod, oPow, oLt, oLe, oGt, oGe, oEq, oNe, oIsN, oNotN, oIsB, oNotB, oIx, oSl, oLen, oSum, oAll, oAny, oAbs, o1I, o2I, oMin2, oMax2, oMin, oMax, oMinL, oMaxL, oInt, oBool, oList, oTuple, oSorted, oIn, oAddI, oGet, oSet, oAppend, oExtend, oPop, oPopAt, newL, startD, wipeD, D.tyN, List.map_cons, List.map_nil, List.cons_append, List.nil_append, List.length_cons, List.length_nil, List.getElem?_cons_zero, List.getElem?_cons_succ, List.set_cons_zero, List.set_cons_succ, List.replicate, Nat.sub_self, Nat.reduceSub, Nat.reduceAdd, Nat.zero_add, kb_ii, kb_ib, kb_it, kb_is, kb_bi, kb_bb, kb_bt, kb_bs, kb_tt, kb_ti, kb_ts, kb_ss, kb_si, kb_st, kb_nt, kb_ni, kb_ns, kb_lt, kb_li, kb_ls, ex_some, seq_tup, seq_lst, seq_fz, list_lst, lsts_lst, lsts_fz, itOf_tup, itOf_lst, itOf_fz, now_int, now_bl, now_non, now_str, now_tup, now_lst, isNon_non, isNon_int, isNon_tup, isNon_ref, isNon_lst, isNon_str, isNon_bl]
      refine ⟨.of_le (by decide) (by omega) (by decide) (by omega), by rw [sizeLine_eq]; omega, ⟨List.cons_ne_nil _ _, by omega, by rw [List.length_map]; omega, by decide⟩, ?_⟩
      rw [rg_stairs, Int.toNat_natCast, List.length_map, rep_map eI]
      have gS : GW (List.replicate W.length (stairs L)) L := stairs_GW (by omega) (by omega) hL1 (by omega)
      refine ⟨_, L, mn, rfl, gS, by omega, by omega, fun c5 st5 => ?_⟩
      simp only [dSeq, dNext, dRet, dRetN, dIfS, dAsg, dAsgG, dDrop, dPar2, dPar3, dAug, dAugS, dFor, dOp, dVar, dC, dTest, dChain, dAnd, dOr, dNot, dAndV, dOrV, dNotV, dIf, dTup, dLst, dNil, dCons, dStar, dCB, dCall, dSl, dNoPart, dPart, dBM, dRev, dNeg, dIsi, dListRg, dTupRg, dRg1, dRg2, dLc, dIt, dEnum, dZip2, dZip3, dRng1, dRng2, dYes, gN, gT, gsNil, gsCons, gSb, oI, oI0, oAdd, oMulA, oSub, oFdiv, oMod, oPow, oLt, oLe, oGt, oGe, oEq, oNe, oIsN, oNotN, oIsB, oNotB, oIx, oSl, oLen, oSum, oAll, oAny, oAbs, o1I, o2I, oMin2, oMax2, oMin, oMax, oMinL, oMaxL, oInt, oBool, oList, oTuple, oSorted, oIn, oAddI, oGet, oSet, oAppend, oExtend, oPop, oPopAt, newL, startD, wipeD, D.tyN, List.map_cons, List.map_nil, List.cons_append, List.nil_append, List.length_cons, List.length_nil, List.getElem?_cons_zero, List.getElem?_cons_succ, List.set_cons_zero, List.set_cons_succ, List.replicate, Nat.sub_self, Nat.reduceSub, Nat.reduceAdd, Nat.zero_add, kb_ii, kb_ib, kb_it, kb_is, kb_bi, kb_bb, kb_bt, kb_bs, kb_tt, kb_ti, kb_ts, kb_ss, kb_si, kb_st, kb_nt, kb_ni, kb_ns, kb_lt, kb_li, kb_ls, ex_some, seq_tup, seq_lst, seq_fz, list_lst, lsts_lst, lsts_fz, itOf_tup, itOf_lst, itOf_fz, now_int, now_bl, now_non, now_str, now_tup, now_lst, isNon_non, isNon_int, isNon_tup, isNon_ref, isNon_lst, isNon_str, isNon_bl, a1]
      subst hv16
      simp only [dSeq, dNext, dRet, dRetN, dIfS, dAsg, dAsgG, dDrop, dPar2, dPar3, dAug, dAugS, dFor, dOp, dVar, dC, dTest, dChain, dAnd, dOr, dNot, dAndV, dOrV, dNotV, dIf, dTup, dLst, dNil, dCons, dStar, dCB, dCall, dSl, dNoPart, dPart, dBM, dRev, dNeg, dIsi, dListRg, dTupRg, dRg1, dRg2, dLc, dIt, dEnum, dZip2, dZip3, dRng1, dRng2, dYes, gN, gT, gsNil, gsCons, gSb, oI, oI0, oAdd, oMulA, oSub, oFdiv, oMod, oPow, oLt, oLe, oGt, oGe, oEq, oNe, oIsN, oNotN, oIsB, oNotB, oIx, oSl, oLen, oSum, oAll, oAny, oAbs, o1I, o2I, oMin2, oMax2, oMin, oMax, oMinL, oMaxL, oInt, oBool, oList, oTuple, oSorted, oIn, oAddI, oGet, oSet, oAppend, oExtend, oPop, oPopAt, newL, startD, wipeD, D.tyN, List.map_cons, List.map_nil, List.cons_append, List.nil_append, List.length_cons, List.length_nil, List.getElem?_cons_zero, List.getElem?_cons_succ, List.set_cons_zero, List.set_cons_succ, List.replicate, Nat.sub_self, Nat.reduceSub, Nat.reduceAdd, Nat.zero_add, kb_ii, kb_ib, kb_it, kb_is, kb_bi, kb_bb, kb_bt, kb_bs, kb_tt, kb_ti, kb_ts, kb_ss, kb_si, kb_st, kb_nt, kb_ni, kb_ns, kb_lt, kb_li, kb_ls, ex_some, seq_tup, seq_lst, seq_fz, list_lst, lsts_lst, lsts_fz, itOf_tup, itOf_lst, itOf_fz, now_int, now_bl, now_non, now_str, now_tup, now_lst, isNon_non, isNon_int, isNon_tup, isNon_ref, isNon_lst, isNon_str, isNon_bl, eI]
      have hc5 : c5 ≠ [] := fun z => by have := st5.len; rw [z] at this; simp at this; omega
      refine ⟨⟨?_, okn_ints, akin_ints⟩, fun mxD hmx hmxm => ⟨⟨?_, okn_ints, akin_ints⟩, fun mnD hmn hmnm => ?_⟩⟩
      · intro z; exact hc5 (List.map_eq_nil_iff.mp z)
      · intro z; exact hc5 (List.map_eq_nil_iff.mp z)
      obtain ⟨mx, hmx', rfl⟩ := mem_int hmx
      obtain ⟨mi, hmi', rfl⟩ := mem_int hmn
      have hnear := stairs_near st5 mx hmx' mi hmi'
      simp only [dSeq, dNext, dRet, dRetN, dIfS, dAsg, dAsgG, dDrop, dPar2, dPar3, dAug, dAugS, dFor, dOp, dVar, dC, dTest, dChain, dAnd, dOr, dNot, dAndV, dOrV, dNotV, dIf, dTup, dLst, dNil, dCons, dStar, dCB, dCall, dSl, dNoPart, dPart, dBM, dRev, dNeg, dIsi, dListRg, dTupRg, dRg1, dRg2, dLc, dIt, dEnum, dZip2, dZip3, dRng1, dRng2, dYes, gN, gT, gsNil, gsCons, gSb, oI, oI0, oAdd, oMulA, oSub, oFdiv, oMod, oPow, oLt, oLe, oGt, oGe, oEq, oNe, oIsN, oNotN, oIsB, oNotB, oIx, oSl, oLen, oSum, oAll, oAny, oAbs, o1I, o2I, oMin2, oMax2, oMin, oMax, oMinL, oMaxL, oInt, oBool, oList, oTuple, oSorted, oIn, oAddI, oGet, oSet, oAppend, oExtend, oPop, oPopAt, newL, startD, wipeD, D.tyN, List.map_cons, List.map_nil, List.cons_append, List.nil_append, List.length_cons, List.length_nil, List.getElem?_cons_zero, List.getElem?_cons_succ, List.set_cons_zero, List.set_cons_succ, List.replicate, Nat.sub_self, Nat.reduceSub, Nat.reduceAdd, Nat.zero_add, kb_ii, kb_ib, kb_it, kb_is, kb_bi, kb_bb, kb_bt, kb_bs, kb_tt, kb_ti, kb_ts, kb_ss, kb_si, kb_st, kb_nt, kb_ni, kb_ns, kb_lt, kb_li, kb_ls, ex_some, seq_tup, seq_lst, seq_fz, list_lst, lsts_lst, lsts_fz, itOf_tup, itOf_lst, itOf_fz, now_int, now_bl, now_non, now_str, now_tup, now_lst, isNon_non, isNon_int, isNon_tup, isNon_ref, isNon_lst, isNon_str, isNon_bl]
      rw [decide_eq_false (by omega)]
      have hr0 : atI (W.map eI) 0 = some (eI (W.getD 0 [])) := ix_row (by decide) (by omega)
      simp only [hr0, dSeq, dNext, dRet, dRetN, dIfS, dAsg, dAsgG, dDrop, dPar2, dPar3, dAug, dAugS, dFor, dOp, dVar, dC, dTest, dChain, dAnd, dOr, dNot, dAndV, dOrV, dNotV, dIf, dTup, dLst, dNil, dCons, dStar, dCB, dCall, dSl, dNoPart, dPart, dBM, dRev, dNeg, dIsi, dListRg, dTupRg, dRg1, dRg2, dLc, dIt, dEnum, dZip2, dZip3, dRng1, dRng2, dYes, gN, gT, gsNil, gsCons, gSb, oI, oI0, oAdd, oMulA, oSub, oFdiv, oMod, oPow, oLt, oLe, oGt, oGe, oEq, oNe, oIsN, oNotN, oIsB, oNotB, oIx, oSl, oLen, oSum, oAll, oAny, oAbs, o1I, o2I, oMin2, oMax2, oMin, oMax, oMinL, oMaxL, oInt, oBool, oList, oTuple, oSorted, oIn, oAddI, oGet, oSet, oAppend, oExtend, oPop, oPopAt, newL, startD, wipeD, D.tyN, List.map_cons, List.map_nil, List.cons_append, List.nil_append, List.length_cons, List.length_nil, List.getElem?_cons_zero, List.getElem?_cons_succ, List.set_cons_zero, List.set_cons_succ, List.replicate, Nat.sub_self, Nat.reduceSub, Nat.reduceAdd, Nat.zero_add, kb_ii, kb_ib, kb_it, kb_is, kb_bi, kb_bb, kb_bt, kb_bs, kb_tt, kb_ti, kb_ts, kb_ss, kb_si, kb_st, kb_nt, kb_ni, kb_ns, kb_lt, kb_li, kb_ls, ex_some, seq_tup, seq_lst, seq_fz, list_lst, lsts_lst, lsts_fz, itOf_tup, itOf_lst, itOf_fz, now_int, now_bl, now_non, now_str, now_tup, now_lst, isNon_non, isNon_int, isNon_tup, isNon_ref, isNon_lst, isNon_str, isNon_bl]
      have g1 : GW [W.getD 0 []] L := ⟨by simp, by simp, hL1, by omega, fun r h => by rw [List.mem_singleton.mp h]; exact gW.len _ (row_mem gW.pos), fun r h => by rw [List.mem_singleton.mp h]; exact gW.ord _ (row_mem gW.pos), fun r h => by rw [List.mem_singleton.mp h]; exact gW.bd _ (row_mem gW.pos)⟩
      refine ⟨by rw [sizeLine_eq]; omega, [W.getD 0 []], L, mn, rfl, g1, by omega, by omega, fun c6 st6 => ?_⟩
      have e6 : c6 = [(mn : Int)] := by
        have hl := st6.len
        have hs := st6.sum
        cases c6 with
        | nil => simp at hl
        | cons y c6 =>
          cases c6 with
          | nil => simp at hs; rw [hs]
          | cons _ _ => simp at hl
      have okq : D.okn 8 (D.tup [D.str "counts", D.tup [D.int (mn : Int)]]) = true := by rw [okn_tup, List.all_cons, List.all_cons, okn_str (by decide +kernel), okn_tup, List.all_cons, okn_int]; rfl
      subst e6
      simp only [dSeq, dNext, dRet, dRetN, dIfS, dAsg, dAsgG, dDrop, dPar2, dPar3, dAug, dAugS, dFor, dOp, dVar, dC, dTest, dChain, dAnd, dOr, dNot, dAndV, dOrV, dNotV, dIf, dTup, dLst, dNil, dCons, dStar, dCB, dCall, dSl, dNoPart, dPart, dBM, dRev, dNeg, dIsi, dListRg, dTupRg, dRg1, dRg2, dLc, dIt, dEnum, dZip2, dZip3, dRng1, dRng2, dYes, gN, gT, gsNil, gsCons, gSb, oI, oI0, oAdd, oMulA, oSub, oFdiv, oMod, oPow, oLt, oLe, oGt, oGe, oEq, oNe, oIsN, oNotN, oIsB, oNotB, oIx, oSl, oLen, oSum, oAll, oAny, oAbs, o1I, o2I, oMin2, oMax2, oMin, oMax, oMinL, oMaxL, oInt, oBool, oList, oTuple, oSorted, oIn, oAddI, oGet, oSet, oAppend, oExtend, oPop, oPopAt, newL, startD, wipeD, D.tyN, List.map_cons, List.map_nil, List.cons_append, List.nil_append, List.length_cons, List.length_nil, List.getElem?_cons_zero, List.getElem?_cons_succ, List.set_cons_zero, List.set_cons_succ, List.replicate, Nat.sub_self, Nat.reduceSub, Nat.reduceAdd, Nat.zero_add, kb_ii, kb_ib, kb_it, kb_is, kb_bi, kb_bb, kb_bt, kb_bs, kb_tt, kb_ti, kb_ts, kb_ss, kb_si, kb_st, kb_nt, kb_ni, kb_ns, kb_lt, kb_li, kb_ls, ex_some, seq_tup, seq_lst, seq_fz, list_lst, lsts_lst, lsts_fz, itOf_tup, itOf_lst, itOf_fz, now_int, now_bl, now_non, now_str, now_tup, now_lst, isNon_non, isNon_int, isNon_tup, isNon_ref, isNon_lst, isNon_str, isNon_bl, eI]
      refine ⟨by rw [sizeLine_eq]; omega, by rw [sizeLine_eq]; omega, ⟨okq, okq⟩, ?_⟩
      rw [eqD_refl okq]
      simp only [Bool.not_true]
      exact hN _ _ trivial ⟨_, _, _, _, _, _, _, _, _, _, _, _, _, _, _, _, o', rfl, hS4, hp4.mono (by omega), hfr5, by omega⟩
  · rintro ρ S ⟨o1, o2, o3, o4, o5, o6, o7, o8, o9, o10, o11, o12, o13, o14, o15, o16, o, rfl, hS, hp, hfr, hxl⟩
    subst hv
    simp only [dSeq, dNext, dRet, dRetN, dIfS, dAsg, dAsgG, dDrop, dPar2, dPar3, dAug, dAugS, dFor, dOp, dVar, dC, dTest, dChain, dAnd, dOr, dNot, dAndV, dOrV, dNotV, dIf, dTup, dLst, dNil, dCons, dStar, dCB, dCall, dSl, dNoPart, dPart, dBM, dRev, dNeg, dIsi, dListRg, dTupRg, dRg1, dRg2, dLc, dIt, dEnum, dZip2, dZip3, dRng1, dRng2, dYes, gN, gT, gsNil, gsCons, gSb, oI, oI0, oAdd, oMulA, oSub, oFdiv, oMod, oPow, oLt, oLe, oGt, oGe, oEq, oNe, oIsN, oNotN, oIsB, oNotB, oIx, oSl, oLen, oSum, oAll, oAny, oAbs, o1I, o2I, oMin2, oMax2, oMin, oMax, oMinL, oMaxL, oInt, oBool, oList, oTuple, oSorted, oIn, oAddI, oGet, oSet, oAppend, oExtend, oPop, oPopAt, newL, startD, wipeD, D.tyN, List.map_cons, List.map_nil, List.cons_append, List.nil_append, List.length_cons, List.length_nil, List.getElem?_cons_zero, List.getElem?_cons_succ, List.set_cons_zero, List.set_cons_succ, List.replicate, Nat.sub_self, Nat.reduceSub, Nat.reduceAdd, Nat.zero_add, kb_ii, kb_ib, kb_it, kb_is, kb_bi, kb_bb, kb_bt, kb_bs, kb_tt, kb_ti, kb_ts, kb_ss, kb_si, kb_st, kb_nt, kb_ni, kb_ns, kb_lt, kb_li, kb_ls, ex_some, seq_tup, seq_lst, seq_fz, list_lst, lsts_lst, lsts_fz, itOf_tup, itOf_lst, itOf_fz, now_int, now_bl, now_non, now_str, now_tup, now_lst, isNon_non, isNon_int, isNon_tup, isNon_ref, isNon_lst, isNon_str, isNon_bl]
    refine FzQ.ext (S := S0.up p o) (fun a u h => ?_) (q o)
    by_cases e : a = p
    · subst e; rw [Sto.up_same] at h; rw [hS]; exact h
    · rw [Sto.up_ne e] at h; exact hfr a u e h
def sp_law : DSp := fun ds S Q => ∃ ns : List Int, ds = [.fz (ns.map .int)] ∧ ns.length ≤ 63 ∧ ∀ S', Q (.bl true) S'
theorem pure_law : ∀ ds S Q, sp_law ds S Q → t_law sp__law_cells sp__law_right sp__law_pot (DeN Q) (startD N_law ds) S := by
  rintro ds S Q ⟨ns, rfl, hl, q⟩
  simp only [t_law, dSeq, dNext, dRet, dRetN, dIfS, dAsg, dAsgG, dDrop, dPar2, dPar3, dAug, dAugS, dFor, dOp, dVar, dC, dTest, dChain, dAnd, dOr, dNot, dAndV, dOrV, dNotV, dIf, dTup, dLst, dNil, dCons, dStar, dCB, dCall, dSl, dNoPart, dPart, dBM, dRev, dNeg, dIsi, dListRg, dTupRg, dRg1, dRg2, dLc, dIt, dEnum, dZip2, dZip3, dRng1, dRng2, dYes, gN, gT, gsNil, gsCons, gSb, oI, oI0, oAdd, oMulA, oSub, oFdiv, oMod, oPow, oLt, oLe, oGt, oGe, oEq, oNe, oIsN, oNotN, oIsB, oNotB, oIx, oSl, oLen, oSum, oAll, oAny, oAbs, o1I, o2I, oMin2, oMax2, oMin, oMax, oMinL, oMaxL, oInt, oBool, oList, oTuple, oSorted, oIn, oAddI, oGet, oSet, oAppend, oExtend, oPop, oPopAt, newL, startD, wipeD, D.tyN, List.map_cons, List.map_nil, List.cons_append, List.nil_append, List.length_cons, List.length_nil, List.getElem?_cons_zero, List.getElem?_cons_succ, List.set_cons_zero, List.set_cons_succ, List.replicate, Nat.sub_self, Nat.reduceSub, Nat.reduceAdd, Nat.zero_add, kb_ii, kb_ib, kb_it, kb_is, kb_bi, kb_bb, kb_bt, kb_bs, kb_tt, kb_ti, kb_ts, kb_ss, kb_si, kb_st, kb_nt, kb_ni, kb_ns, kb_lt, kb_li, kb_ls, ex_some, seq_tup, seq_lst, seq_fz, list_lst, lsts_lst, lsts_fz, itOf_tup, itOf_lst, itOf_fz, now_int, now_bl, now_non, now_str, now_tup, now_lst, isNon_non, isNon_int, isNon_tup, isNon_ref, isNon_lst, isNon_str, isNon_bl]
  refine ⟨ns, rfl, by omega, fun n hn => ?_⟩
  simp only [dSeq, dNext, dRet, dRetN, dIfS, dAsg, dAsgG, dDrop, dPar2, dPar3, dAug, dAugS, dFor, dOp, dVar, dC, dTest, dChain, dAnd, dOr, dNot, dAndV, dOrV, dNotV, dIf, dTup, dLst, dNil, dCons, dStar, dCB, dCall, dSl, dNoPart, dPart, dBM, dRev, dNeg, dIsi, dListRg, dTupRg, dRg1, dRg2, dLc, dIt, dEnum, dZip2, dZip3, dRng1, dRng2, dYes, gN, gT, gsNil, gsCons, gSb, oI, oI0, oAdd, oMulA, oSub, oFdiv, oMod, oPow, oLt, oLe, oGt, oGe, oEq, oNe, oIsN, oNotN, oIsB, oNotB, oIx, oSl, oLen, oSum, oAll, oAny, oAbs, o1I, o2I, oMin2, oMax2, oMin, oMax, oMinL, oMaxL, oInt, oBool, oList, oTuple, oSorted, oIn, oAddI, oGet, oSet, oAppend, oExtend, oPop, oPopAt, newL, startD, wipeD, D.tyN, List.map_cons, List.map_nil, List.cons_append, List.nil_append, List.length_cons, List.length_nil, List.getElem?_cons_zero, List.getElem?_cons_succ, List.set_cons_zero, List.set_cons_succ, List.replicate, Nat.sub_self, Nat.reduceSub, Nat.reduceAdd, Nat.zero_add, kb_ii, kb_ib, kb_it, kb_is, kb_bi, kb_bb, kb_bt, kb_bs, kb_tt, kb_ti, kb_ts, kb_ss, kb_si, kb_st, kb_nt, kb_ni, kb_ns, kb_lt, kb_li, kb_ls, ex_some, seq_tup, seq_lst, seq_fz, list_lst, lsts_lst, lsts_fz, itOf_tup, itOf_lst, itOf_fz, now_int, now_bl, now_non, now_str, now_tup, now_lst, isNon_non, isNon_int, isNon_tup, isNon_ref, isNon_lst, isNon_str, isNon_bl]
  have inv := lc_run (r := false) (ρ0 := [some (.fz (ns.map D.int)), none]) (γ := gN 1) (t := dYes) (el := dCall sp__law_right (dCons (dCall sp__law_pot (dCons (dVar 0) (dCons (dVar 1) dNil))) dNil)) (it := ⟨(List.range n).map fun (i : Nat) => D.int ((0 : Int) + (i : Nat)), fun _ => True⟩) (S := S)
    (Q := fun x S1 => oAll [x] S1 (FzQ Q)) (fun xs acc S' => ∃ k i, acc = (List.replicate k true).map D.bl ∧ k + xs.length = n ∧ xs = ((List.range n).drop i).map fun (i : Nat) => D.int ((0 : Int) + (i : Nat)))
    (fun _ => trivial) (small (by simp; omega)) (fun Dl hD => ⟨0, 0, rfl, by simp, rfl⟩) ?_ ?_ ?_
  · simp only [dSeq, dNext, dRet, dRetN, dIfS, dAsg, dAsgG, dDrop, dPar2, dPar3, dAug, dAugS, dFor, dOp, dVar, dC, dTest, dChain, dAnd, dOr, dNot, dAndV, dOrV, dNotV, dIf, dTup, dLst, dNil, dCons, dStar, dCB, dCall, dSl, dNoPart, dPart, dBM, dRev, dNeg, dIsi, dListRg, dTupRg, dRg1, dRg2, dLc, dIt, dEnum, dZip2, dZip3, dRng1, dRng2, dYes, gN, gT, gsNil, gsCons, gSb, oI, oI0, oAdd, oMulA, oSub, oFdiv, oMod, oPow, oLt, oLe, oGt, oGe, oEq, oNe, oIsN, oNotN, oIsB, oNotB, oIx, oSl, oLen, oSum, oAll, oAny, oAbs, o1I, o2I, oMin2, oMax2, oMin, oMax, oMinL, oMaxL, oInt, oBool, oList, oTuple, oSorted, oIn, oAddI, oGet, oSet, oAppend, oExtend, oPop, oPopAt, newL, startD, wipeD, D.tyN, List.map_cons, List.map_nil, List.cons_append, List.nil_append, List.length_cons, List.length_nil, List.getElem?_cons_zero, List.getElem?_cons_succ, List.set_cons_zero, List.set_cons_succ, List.replicate, Nat.sub_self, Nat.reduceSub, Nat.reduceAdd, Nat.zero_add, kb_ii, kb_ib, kb_it, kb_is, kb_bi, kb_bb, kb_bt, kb_bs, kb_tt, kb_ti, kb_ts, kb_ss, kb_si, kb_st, kb_nt, kb_ni, kb_ns, kb_lt, kb_li, kb_ls, ex_some, seq_tup, seq_lst, seq_fz, list_lst, lsts_lst, lsts_fz, itOf_tup, itOf_lst, itOf_fz, now_int, now_bl, now_non, now_str, now_tup, now_lst, isNon_non, isNon_int, isNon_tup, isNon_ref, isNon_lst, isNon_str, isNon_bl] at inv
    exact inv
  · rintro x xs acc S' _ ⟨k, i, rfl, hk, hx⟩ Dl hD hDl N M hN
    cases hd : (List.range n).drop i with
    | nil => rw [hd] at hx; cases hx
    | cons a re =>
      obtain ⟨hi, ea, er⟩ := drop_at hd.symm
      rw [List.getElem_range] at ea
      subst ea
      rw [List.length_range] at hi
      rw [hd, List.map_cons] at hx
      obtain ⟨rfl, rfl⟩ := List.cons.inj hx
      rw [List.length_cons] at hk
      simp only [dSeq, dNext, dRet, dRetN, dIfS, dAsg, dAsgG, dDrop, dPar2, dPar3, dAug, dAugS, dFor, dOp, dVar, dC, dTest, dChain, dAnd, dOr, dNot, dAndV, dOrV, dNotV, dIf, dTup, dLst, dNil, dCons, dStar, dCB, dCall, dSl, dNoPart, dPart, dBM, dRev, dNeg, dIsi, dListRg, dTupRg, dRg1, dRg2, dLc, dIt, dEnum, dZip2, dZip3, dRng1, dRng2, dYes, gN, gT, gsNil, gsCons, gSb, oI, oI0, oAdd, oMulA, oSub, oFdiv, oMod, oPow, oLt, oLe, oGt, oGe, oEq, oNe, oIsN, oNotN, oIsB, oNotB, oIx, oSl, oLen, oSum, oAll, oAny, oAbs, o1I, o2I, oMin2, oMax2, oMin, oMax, oMinL, oMaxL, oInt, oBool, oList, oTuple, oSorted, oIn, oAddI, oGet, oSet, oAppend, oExtend, oPop, oPopAt, newL, startD, wipeD, D.tyN, List.map_cons, List.map_nil, List.cons_append, List.nil_append, List.length_cons, List.length_nil, List.getElem?_cons_zero, List.getElem?_cons_succ, List.set_cons_zero, List.set_cons_succ, List.replicate, Nat.sub_self, Nat.reduceSub, Nat.reduceAdd, Nat.zero_add, kb_ii, kb_ib, kb_it, kb_is, kb_bi, kb_bb, kb_bt, kb_bs, kb_tt, kb_ti, kb_ts, kb_ss, kb_si, kb_st, kb_nt, kb_ni, kb_ns, kb_lt, kb_li, kb_ls, ex_some, seq_tup, seq_lst, seq_fz, list_lst, lsts_lst, lsts_fz, itOf_tup, itOf_lst, itOf_fz, now_int, now_bl, now_non, now_str, now_tup, now_lst, isNon_non, isNon_int, isNon_tup, isNon_ref, isNon_lst, isNon_str, isNon_bl, Int.zero_add]
      refine ⟨ns, a, rfl, by omega, fun p o hp ho => ?_⟩
      have hDp : Dl ≠ p := ne_of_in hDl hp
      refine ⟨p, o, rfl, Sto.up_same, ho, fun o' => ?_⟩
      refine hN _ _ (by rw [Sto.up_ne hDp, Sto.up_ne hDp]; exact hDl) (by rw [List.length_map, List.length_replicate, sizeLine_eq]; omega) ⟨k + 1, a + 1, ?_, by omega, by rw [er]⟩
      rw [List.replicate_succ', List.map_append]; rfl
  · rintro x xs acc S' ⟨k, i, rfl, hk, hx⟩
    simp
    rw [List.length_cons] at hk
    omega
  · rintro Dl acc S' hD ⟨k, i, rfl, hk, hx⟩ hDl
    show oAll [.lst _] _ _
    simp only [dSeq, dNext, dRet, dRetN, dIfS, dAsg, dAsgG, dDrop, dPar2, dPar3, dAug, dAugS, dFor, dOp, dVar, dC, dTest, dChain, dAnd, dOr, dNot, dAndV, dOrV, dNotV, dIf, dTup, dLst, dNil, dCons, dStar, dCB, dCall, dSl, dNoPart, dPart, dBM, dRev, dNeg, dIsi, dListRg, dTupRg, dRg1, dRg2, dLc, dIt, dEnum, dZip2, dZip3, dRng1, dRng2, dYes, gN, gT, gsNil, gsCons, gSb, oI, oI0, oAdd, oMulA, oSub, oFdiv, oMod, oPow, oLt, oLe, oGt, oGe, oEq, oNe, oIsN, oNotN, oIsB, oNotB, oIx, oSl, oLen, oSum, oAll, oAny, oAbs, o1I, o2I, oMin2, oMax2, oMin, oMax, oMinL, oMaxL, oInt, oBool, oList, oTuple, oSorted, oIn, oAddI, oGet, oSet, oAppend, oExtend, oPop, oPopAt, newL, startD, wipeD, D.tyN, List.map_cons, List.map_nil, List.cons_append, List.nil_append, List.length_cons, List.length_nil, List.getElem?_cons_zero, List.getElem?_cons_succ, List.set_cons_zero, List.set_cons_succ, List.replicate, Nat.sub_self, Nat.reduceSub, Nat.reduceAdd, Nat.zero_add, kb_ii, kb_ib, kb_it, kb_is, kb_bi, kb_bb, kb_bt, kb_bs, kb_tt, kb_ti, kb_ts, kb_ss, kb_si, kb_st, kb_nt, kb_ni, kb_ns, kb_lt, kb_li, kb_ls, ex_some, seq_tup, seq_lst, seq_fz, list_lst, lsts_lst, lsts_fz, itOf_tup, itOf_lst, itOf_fz, now_int, now_bl, now_non, now_str, now_tup, now_lst, isNon_non, isNon_int, isNon_tup, isNon_ref, isNon_lst, isNon_str, isNon_bl]
    refine ⟨List.replicate k true, rfl, .here ?_⟩
    have : (List.replicate k true).all id = true := by simp
    rw [this]
    exact q _
end L46
set_option maxHeartbeats 0
namespace L46
open PySem PySem.Spec PyProof.Rows L2 PL
def top (i : Nat) : Stmt := PySem.Challenge.pw_nobodywaitsbeyond_k46_whole_crossings_al.main.body.getD i (.Pass ⟨0, 0, 0, 0⟩)
abbrev s_is_int : Stmt := top 5
abbrev s_are_ints : Stmt := top 6
abbrev s_is_told : Stmt := top 7
abbrev s_are_waits : Stmt := top 15
abbrev s_look_at_waits : Stmt := top 16
abbrev s_are_counts : Stmt := top 17
abbrev s_look_at_counts : Stmt := top 18
abbrev s_told_settled : Stmt := top 19
abbrev s_settled : Stmt := top 20
abbrev s_told_change : Stmt := top 21
abbrev s_would_change : Stmt := top 22
abbrev s_shows_settled : Stmt := top 23
abbrev s_told_total : Stmt := top 24
abbrev s_total_wait : Stmt := top 25
abbrev s_told_least : Stmt := top 26
abbrev s_least_total : Stmt := top 27
abbrev s_price_of_choice : Stmt := top 28
abbrev s_ways_to_settle : Stmt := top 29
abbrev s__law_pot : Stmt := top 31
abbrev s__law_take : Stmt := top 32
abbrev s__law_cells : Stmt := top 33
abbrev s__law_heap : Stmt := top 34
abbrev s__law_are_ways_right : Stmt := top 35
abbrev s__law_right : Stmt := top 36
abbrev s_law : Stmt := top 37
def mkD (x : Str) (st : Stmt) : He.DefD := ⟨(x, none), x, x, defArgs st, defBody st, defScope st, [], []⟩
def fn0 : List He.DefD := [mkD "is_int" s_is_int, mkD "are_ints" s_are_ints, mkD "is_told" s_is_told, mkD "are_waits" s_are_waits, mkD "look_at_waits" s_look_at_waits, mkD "are_counts" s_are_counts, mkD "look_at_counts" s_look_at_counts, mkD "told_settled" s_told_settled, mkD "settled" s_settled, mkD "told_change" s_told_change, mkD "would_change" s_would_change, mkD "shows_settled" s_shows_settled, mkD "told_total" s_told_total, mkD "total_wait" s_total_wait, mkD "told_least" s_told_least, mkD "least_total" s_least_total, mkD "price_of_choice" s_price_of_choice, mkD "ways_to_settle" s_ways_to_settle, mkD "_law_pot" s__law_pot, mkD "_law_take" s__law_take, mkD "_law_cells" s__law_cells, mkD "_law_heap" s__law_heap, mkD "_law_are_ways_right" s__law_are_ways_right, mkD "_law_right" s__law_right, mkD "law" s_law]
def fn : List He.DefD := fn0
def fa0 : List He.Fa := [.glo "is_int", .glo "are_ints", .glo "is_told", .glo "are_waits", .glo "look_at_waits", .glo "are_counts", .glo "look_at_counts", .glo "told_settled", .glo "settled", .glo "told_change", .glo "would_change", .glo "shows_settled", .glo "told_total", .glo "total_wait", .glo "told_least", .glo "least_total", .glo "price_of_choice", .glo "ways_to_settle", .glo "_law_pot", .glo "_law_take", .glo "_law_cells", .glo "_law_heap", .glo "_law_are_ways_right", .glo "_law_right", .glo "law", .free "abs", .free "all", .free "any", .free "bool", .free "enumerate"]
def fa1 : List He.Fa := [.free "int", .free "isinstance", .free "len", .free "list", .free "max", .free "min", .free "range", .free "sorted", .free "str", .free "sum", .free "tuple", .free "zip", .int "MOST_CROSSINGS" 8, .int "MOST_COUNT" 60, .int "MOST_WAIT" 1000000, .str "COUNTS" "counts", .str "SETTLED" "settled", .str "CHANGES" "changes"]
def fa : List He.Fa := fa0 ++ fa1
def lo0 : List Str := ["BorderError", "BadInt", "BadPlan", "is_int", "are_ints", "is_told", "MOST_CROSSINGS", "MOST_COUNT", "MOST_WAIT", "COUNTS", "SETTLED", "CHANGES", "are_waits", "look_at_waits", "are_counts", "look_at_counts", "told_settled", "settled", "told_change", "would_change", "shows_settled", "told_total", "total_wait", "told_least", "least_total", "price_of_choice", "ways_to_settle", "_law_pot", "_law_take", "_law_cells"]
def lo1 : List Str := ["_law_heap", "_law_are_ways_right", "_law_right"]
def loose : List Str := lo0 ++ lo1
abbrev R : PySem.W.OpenRow := PySem.W.OpenLaw.row PySem.Challenge.rw_nobodywaitsbeyond_k46_whole_crossings_al
abbrev hk : PySem.W.Hook := He.hookD 4 fa fn
def ob (s : PySem.W.SharedT) : He.AlD := He.obsDG 4 fa fn (HandSHeadRun.getT s)
theorem ob_eq (s : PySem.W.SharedT) : ob s = hk.obs s.abs := He.obsDG_eq (HandSHeadRun.getT_eq s)
theorem run (w : World) : HandSHeadRun.RunEq R (PySem.W.view R.prog [37]) hk ob 3000 loose w := by
  intro os
  kernel_rfl

theorem len_is_int : ∀ ds S Q, sp_is_int ds S Q → ds.length = 3 := by
  intro ds S Q h
  unfold sp_is_int at h
  repeat (obtain ⟨_, h⟩ := h)
  subst_vars
  rfl
theorem len_are_ints : ∀ ds S Q, sp_are_ints ds S Q → ds.length = 3 := by
  intro ds S Q h
  unfold sp_are_ints at h
  repeat (obtain ⟨_, h⟩ := h)
  subst_vars
  rfl
theorem len_is_told : ∀ ds S Q, sp_is_told ds S Q → ds.length = 2 := by
  intro ds S Q h
  unfold sp_is_told at h
  repeat (obtain ⟨_, h⟩ := h)
  subst_vars
  rfl
theorem len_are_waits : ∀ ds S Q, sp_are_waits ds S Q → ds.length = 1 := by
  intro ds S Q h
  unfold sp_are_waits at h
  repeat (obtain ⟨_, h⟩ := h)
  subst_vars
  rfl
theorem len_look_at_waits : ∀ ds S Q, sp_look_at_waits ds S Q → ds.length = 2 := by
  intro ds S Q h
  unfold sp_look_at_waits at h
  repeat (obtain ⟨_, h⟩ := h)
  subst_vars
  rfl
theorem len_are_counts : ∀ ds S Q, sp_are_counts ds S Q → ds.length = 3 := by
  intro ds S Q h
  unfold sp_are_counts at h
  repeat (obtain ⟨_, h⟩ := h)
  subst_vars
  rfl
theorem len_look_at_counts : ∀ ds S Q, sp_look_at_counts ds S Q → ds.length = 2 := by
  intro ds S Q h
  unfold sp_look_at_counts at h
  repeat (obtain ⟨_, h⟩ := h)
  subst_vars
  rfl
theorem len_told_settled : ∀ ds S Q, sp_told_settled ds S Q → ds.length = 2 := by
  intro ds S Q h
  unfold sp_told_settled at h
  repeat (obtain ⟨_, h⟩ := h)
  subst_vars
  rfl
theorem len_settled : ∀ ds S Q, sp_settled ds S Q → ds.length = 2 := by
  intro ds S Q h
  unfold sp_settled at h
  repeat (obtain ⟨_, h⟩ := h)
  subst_vars
  rfl
theorem len_told_change : ∀ ds S Q, sp_told_change ds S Q → ds.length = 2 := by
  intro ds S Q h
  unfold sp_told_change at h
  repeat (obtain ⟨_, h⟩ := h)
  subst_vars
  rfl
theorem len_would_change : ∀ ds S Q, sp_would_change ds S Q → ds.length = 2 := by
  intro ds S Q h
  unfold sp_would_change at h
  repeat (obtain ⟨_, h⟩ := h)
  subst_vars
  rfl
theorem len_shows_settled : ∀ ds S Q, sp_shows_settled ds S Q → ds.length = 3 := by
  intro ds S Q h
  unfold sp_shows_settled at h
  repeat (obtain ⟨_, h⟩ := h)
  subst_vars
  rfl
theorem len_told_total : ∀ ds S Q, sp_told_total ds S Q → ds.length = 2 := by
  intro ds S Q h
  unfold sp_told_total at h
  repeat (obtain ⟨_, h⟩ := h)
  subst_vars
  rfl
theorem len_total_wait : ∀ ds S Q, sp_total_wait ds S Q → ds.length = 2 := by
  intro ds S Q h
  unfold sp_total_wait at h
  repeat (obtain ⟨_, h⟩ := h)
  subst_vars
  rfl
theorem len_told_least : ∀ ds S Q, sp_told_least ds S Q → ds.length = 2 := by
  intro ds S Q h
  unfold sp_told_least at h
  repeat (obtain ⟨_, h⟩ := h)
  subst_vars
  rfl
theorem len_least_total : ∀ ds S Q, sp_least_total ds S Q → ds.length = 2 := by
  intro ds S Q h
  unfold sp_least_total at h
  repeat (obtain ⟨_, h⟩ := h)
  subst_vars
  rfl
theorem len_price_of_choice : ∀ ds S Q, sp_price_of_choice ds S Q → ds.length = 2 := by
  intro ds S Q h
  unfold sp_price_of_choice at h
  repeat (obtain ⟨_, h⟩ := h)
  subst_vars
  rfl
theorem len_ways_to_settle : ∀ ds S Q, sp_ways_to_settle ds S Q → ds.length = 2 := by
  intro ds S Q h
  unfold sp_ways_to_settle at h
  repeat (obtain ⟨_, h⟩ := h)
  subst_vars
  rfl
theorem len__law_pot : ∀ ds S Q, sp__law_pot ds S Q → ds.length = 2 := by
  intro ds S Q h
  unfold sp__law_pot at h
  repeat (obtain ⟨_, h⟩ := h)
  subst_vars
  rfl
theorem len__law_take : ∀ ds S Q, sp__law_take ds S Q → ds.length = 2 := by
  intro ds S Q h
  unfold sp__law_take at h
  repeat (obtain ⟨_, h⟩ := h)
  subst_vars
  rfl
theorem len__law_cells : ∀ ds S Q, sp__law_cells ds S Q → ds.length = 2 := by
  intro ds S Q h
  unfold sp__law_cells at h
  repeat (obtain ⟨_, h⟩ := h)
  subst_vars
  rfl
theorem len__law_heap : ∀ ds S Q, sp__law_heap ds S Q → ds.length = 2 := by
  intro ds S Q h
  unfold sp__law_heap at h
  repeat (obtain ⟨_, h⟩ := h)
  subst_vars
  rfl
theorem len__law_are_ways_right : ∀ ds S Q, sp__law_are_ways_right ds S Q → ds.length = 2 := by
  intro ds S Q h
  unfold sp__law_are_ways_right at h
  repeat (obtain ⟨_, h⟩ := h)
  subst_vars
  rfl
theorem len__law_right : ∀ ds S Q, sp__law_right ds S Q → ds.length = 1 := by
  intro ds S Q h
  unfold sp__law_right at h
  repeat (obtain ⟨_, h⟩ := h)
  subst_vars
  rfl
theorem len_law : ∀ ds S Q, sp_law ds S Q → ds.length = 1 := by
  intro ds S Q h
  unfold sp_law at h
  repeat (obtain ⟨_, h⟩ := h)
  subst_vars
  rfl
section
variable {P : Program} {w : World} {K : PySem.W.Frag} {mg : Str → Option Value} {base : Heap}
structure Blt (mg : Str → Option Value) : Prop where
  b_abs : mg "abs" = none
  b_all : mg "all" = none
  b_any : mg "any" = none
  b_bool : mg "bool" = none
  b_enumerate : mg "enumerate" = none
  b_int : mg "int" = none
  b_isinstance : mg "isinstance" = none
  b_len : mg "len" = none
  b_list : mg "list" = none
  b_max : mg "max" = none
  b_min : mg "min" = none
  b_range : mg "range" = none
  b_sorted : mg "sorted" = none
  b_str : mg "str" = none
  b_sum : mg "sum" = none
  b_tuple : mg "tuple" = none
  b_zip : mg "zip" = none
  c_CHANGES : ∃ t, mg "CHANGES" = some (.str "changes" t)
  c_COUNTS : ∃ t, mg "COUNTS" = some (.str "counts" t)
  c_MOST_COUNT : ∃ t, mg "MOST_COUNT" = some (.int 60 t)
  c_MOST_CROSSINGS : ∃ t, mg "MOST_CROSSINGS" = some (.int 8 t)
  c_MOST_WAIT : ∃ t, mg "MOST_WAIT" = some (.int 1000000 t)
  c_SETTLED : ∃ t, mg "SETTLED" = some (.str "settled" t)
theorem sc_is_int : FnScope N_is_int ["value", "low", "high"] (defScope s_is_int) := ⟨rfl, rfl, rfl, by decide +kernel, rfl, by decide +kernel, by decide +kernel⟩
theorem ok_is_int (B : Blt mg) (O : Own K mg "is_int" s_is_int)  : Has P w K mg base 1 "is_int" ["value", "low", "high"] sp_is_int :=
  has_of (N := N_is_int) (τ := t_is_int ) O sc_is_int (len_is_int) (fun _ _ _ _ _ _ us hl => match us, hl with | [_, _, _], _ => rfl) (fun f cdv A outer s H E hr =>
  (dss_one (ds_ret (de_and (de_isi "int" B.b_isinstance B.b_int (by decide +kernel) (dv 0)) (de_and (de_not (de_isi "bool" B.b_isinstance B.b_bool (by decide +kernel) (dv 0))) (de_one (de_chain p_le p_le (dv 1) (dv 0) (dv 2)))))))) pure_is_int
theorem sc_are_ints : FnScope N_are_ints ["value", "low", "high"] (defScope s_are_ints) := ⟨rfl, rfl, rfl, by decide +kernel, rfl, by decide +kernel, by decide +kernel⟩
theorem ok_are_ints (B : Blt mg) (O : Own K mg "are_ints" s_are_ints) (H_is_int : Has P w K mg base 1 "is_int" ["value", "low", "high"] sp_is_int) : Has P w K mg base 2 "are_ints" ["value", "low", "high"] sp_are_ints :=
  has_of (N := N_are_ints) (τ := t_are_ints sp_is_int) O sc_are_ints (len_are_ints) (fun _ _ _ _ _ _ us hl => match us, hl with | [_, _, _], _ => rfl) (fun f cdv A outer s H E hr =>
  (dss_one (ds_ret (de_and (de_isi "tuple" B.b_isinstance B.b_tuple (by decide +kernel) (dv 0)) (de_one (de_callB (p_all rfl) B.b_all (by decide +kernel) (da_cons (de_lc (r := false) (own := [("one", 3)]) sc_are_ints.nd (di_sq (dv 0)) (blk_of (by kernel_rfl)) (by decide) (fun _ _ _ _ _ => (dg_name 3 sc_are_ints.nd)) (fun _ _ _ _ _ => dts_nil) (fun _ _ _ _ _ => (de_own H_is_int hr (da_cons (dv 3) (da_cons (dv 1) (da_cons (dv 2) da_nil)))))) da_nil))))))) pure_are_ints
theorem sc_is_told : FnScope N_is_told ["value", "sizes"] (defScope s_is_told) := ⟨rfl, rfl, rfl, by decide +kernel, rfl, by decide +kernel, by decide +kernel⟩
theorem ok_is_told (B : Blt mg) (O : Own K mg "is_told" s_is_told)  : Has P w K mg base 1 "is_told" ["value", "sizes"] sp_is_told :=
  has_of (N := N_is_told) (τ := t_is_told ) O sc_is_told (len_is_told) (fun _ _ _ _ _ _ us hl => match us, hl with | [_, _], _ => rfl) (fun f cdv A outer s H E hr =>
  (dss_one (ds_ret (de_and (de_isi "tuple" B.b_isinstance B.b_tuple (by decide +kernel) (dv 0)) (de_and (de_cmp (p_in hr.units) (de_callB p_len B.b_len (by decide +kernel) (da_cons (dv 0) da_nil)) (dv 1) rfl) (de_one (de_isi "str" B.b_isinstance B.b_str (by decide +kernel) (de_ix p_ix (dv 0) de_int)))))))) pure_is_told
theorem sc_are_waits : FnScope N_are_waits ["value"] (defScope s_are_waits) := ⟨rfl, rfl, rfl, by decide +kernel, rfl, by decide +kernel, by decide +kernel⟩
theorem ok_are_waits (B : Blt mg) (O : Own K mg "are_waits" s_are_waits) (H_are_ints : Has P w K mg base 2 "are_ints" ["value", "low", "high"] sp_are_ints) : Has P w K mg base 3 "are_waits" ["value"] sp_are_waits :=
  has_of (N := N_are_waits) (τ := t_are_waits sp_are_ints) O sc_are_waits (len_are_waits) (fun _ _ _ _ _ _ us hl => match us, hl with | [_], _ => rfl) (fun f cdv A outer s H E hr =>
  (dss_cons (ds_if (dt_w (dw_or (dt_not (dt_val (de_isi "tuple" B.b_isinstance B.b_tuple (by decide +kernel) (dv 0)))) (dw_or1 (dt_not (dt_chain p_le p_le de_int (de_callB p_len B.b_len (by decide +kernel) (da_cons (dv 0) da_nil)) (de_gint B.c_MOST_CROSSINGS)))))) (dss_one (ds_ret de_bl)) dss_nil)
  (dss_cons (ds_if (dt_not (dt_val (de_callB (p_all rfl) B.b_all (by decide +kernel) (da_cons (de_lc (r := false) (own := [("row", 1)]) sc_are_waits.nd (di_sq (dv 0)) (blk_of (by kernel_rfl)) (by decide) (fun _ _ _ _ _ => (dg_name 1 sc_are_waits.nd)) (fun _ _ _ _ _ => dts_nil) (fun _ _ _ _ _ => (de_and (de_own H_are_ints hr (da_cons (dv 1) (da_cons de_int (da_cons (de_gint B.c_MOST_WAIT) da_nil)))) (de_one (de_chain p_le p_le de_int (de_callB p_len B.b_len (by decide +kernel) (da_cons (dv 1) da_nil)) (de_gint B.c_MOST_COUNT)))))) da_nil)))) (dss_one (ds_ret de_bl)) dss_nil)
  (dss_cons (ds_if (dt_not (dt_val (de_callB (p_all rfl) B.b_all (by decide +kernel) (da_cons (de_lc (r := false) (own := [("row", 1)]) sc_are_waits.nd (di_sq (dv 0)) (blk_of (by kernel_rfl)) (by decide) (fun _ _ _ _ _ => (dg_name 1 sc_are_waits.nd)) (fun _ _ _ _ _ => dts_nil) (fun _ _ _ _ _ => (de_cmp (p_eq hr.units) (de_callB p_len B.b_len (by decide +kernel) (da_cons (dv 1) da_nil)) (de_callB p_len B.b_len (by decide +kernel) (da_cons (de_ix p_ix (dv 0) de_int) da_nil)) rfl))) da_nil)))) (dss_one (ds_ret de_bl)) dss_nil)
  (dss_one (ds_ret (de_callB (p_all rfl) B.b_all (by decide +kernel) (da_cons (de_lc (r := false) (own := [("row", 1)]) sc_are_waits.nd (di_sq (dv 0)) (blk_of (by kernel_rfl)) (by decide) (fun _ _ _ _ _ => (dg_name 1 sc_are_waits.nd)) (fun _ _ _ _ _ => dts_nil) (fun _ _ _ _ _ => (de_callB (p_all rfl) B.b_all (by decide +kernel) (da_cons (de_lc (r := false) (own := [("one", 2), ("other", 3)]) sc_are_waits.nd (di_zip2 B.b_zip (dv 1) (de_slice (p_sl (r := false)) (dv 1) (do_some de_int) do_none)) (blk_of (by kernel_rfl)) (by decide) (fun _ _ _ _ _ => (dg_tup (dgs_cons (dg_name 2 sc_are_waits.nd) (dgs_cons (dg_name 3 sc_are_waits.nd) dgs_nil)))) (fun _ _ _ _ _ => dts_nil) (fun _ _ _ _ _ => (de_cmp p_le (dv 2) (dv 3) rfl))) da_nil)))) da_nil)))))))) pure_are_waits
theorem sc_look_at_waits : FnScope N_look_at_waits ["waits", "many"] (defScope s_look_at_waits) := ⟨rfl, rfl, rfl, by decide +kernel, rfl, by decide +kernel, by decide +kernel⟩
theorem ok_look_at_waits (B : Blt mg) (O : Own K mg "look_at_waits" s_look_at_waits) (H_are_waits : Has P w K mg base 3 "are_waits" ["value"] sp_are_waits) (H_is_int : Has P w K mg base 1 "is_int" ["value", "low", "high"] sp_is_int) : Has P w K mg base 4 "look_at_waits" ["waits", "many"] sp_look_at_waits :=
  has_of (N := N_look_at_waits) (τ := t_look_at_waits sp_are_waits sp_is_int) O sc_look_at_waits (len_look_at_waits) (fun _ _ _ _ _ _ us hl => match us, hl with | [_, _], _ => rfl) (fun f cdv A outer s H E hr =>
  (dss_cons (ds_if (dt_not (dt_val (de_own H_are_waits hr (da_cons (dv 0) da_nil)))) (dss_one ds_never) dss_nil)
  (dss_one (ds_if (dt_not (dt_val (de_own H_is_int hr (da_cons (dv 1) (da_cons de_int (da_cons (de_callB p_len B.b_len (by decide +kernel) (da_cons (de_ix p_ix (dv 0) de_int) da_nil)) da_nil)))))) (dss_one ds_never) dss_nil)))) pure_look_at_waits
theorem sc_are_counts : FnScope N_are_counts ["waits", "many", "value"] (defScope s_are_counts) := ⟨rfl, rfl, rfl, by decide +kernel, rfl, by decide +kernel, by decide +kernel⟩
theorem ok_are_counts (B : Blt mg) (O : Own K mg "are_counts" s_are_counts) (H_are_ints : Has P w K mg base 2 "are_ints" ["value", "low", "high"] sp_are_ints) : Has P w K mg base 3 "are_counts" ["waits", "many", "value"] sp_are_counts :=
  has_of (N := N_are_counts) (τ := t_are_counts sp_are_ints) O sc_are_counts (len_are_counts) (fun _ _ _ _ _ _ us hl => match us, hl with | [_, _, _], _ => rfl) (fun f cdv A outer s H E hr =>
  (dss_one (ds_ret (de_and (de_own H_are_ints hr (da_cons (dv 2) (da_cons de_int (da_cons (dv 1) da_nil)))) (de_and (de_cmp (p_eq hr.units) (de_callB p_len B.b_len (by decide +kernel) (da_cons (dv 2) da_nil)) (de_callB p_len B.b_len (by decide +kernel) (da_cons (dv 0) da_nil)) rfl) (de_one (de_cmp (p_eq hr.units) (de_callB (p_sum rfl) B.b_sum (by decide +kernel) (da_cons (dv 2) da_nil)) (dv 1) rfl))))))) pure_are_counts
theorem sc_look_at_counts : FnScope N_look_at_counts ["waits", "counts"] (defScope s_look_at_counts) := ⟨rfl, rfl, rfl, by decide +kernel, rfl, by decide +kernel, by decide +kernel⟩
theorem ok_look_at_counts (B : Blt mg) (O : Own K mg "look_at_counts" s_look_at_counts) (H_are_waits : Has P w K mg base 3 "are_waits" ["value"] sp_are_waits) (H_are_ints : Has P w K mg base 2 "are_ints" ["value", "low", "high"] sp_are_ints) : Has P w K mg base 4 "look_at_counts" ["waits", "counts"] sp_look_at_counts :=
  has_of (N := N_look_at_counts) (τ := t_look_at_counts sp_are_waits sp_are_ints) O sc_look_at_counts (len_look_at_counts) (fun _ _ _ _ _ _ us hl => match us, hl with | [_, _], _ => rfl) (fun f cdv A outer s H E hr =>
  (dss_cons (ds_if (dt_not (dt_val (de_own H_are_waits hr (da_cons (dv 0) da_nil)))) (dss_one ds_never) dss_nil)
  (dss_one (ds_if (dt_w (dw_or (dt_not (dt_val (de_own H_are_ints hr (da_cons (dv 1) (da_cons de_int (da_cons (de_callB p_len B.b_len (by decide +kernel) (da_cons (de_ix p_ix (dv 0) de_int) da_nil)) da_nil)))))) (dw_or (dt_cmp (p_ne hr.units) (de_callB p_len B.b_len (by decide +kernel) (da_cons (dv 1) da_nil)) (de_callB p_len B.b_len (by decide +kernel) (da_cons (dv 0) da_nil)) rfl) (dw_or1 (dt_cmp p_gt (de_callB (p_sum rfl) B.b_sum (by decide +kernel) (da_cons (dv 1) da_nil)) (de_callB p_len B.b_len (by decide +kernel) (da_cons (de_ix p_ix (dv 0) de_int) da_nil)) rfl))))) (dss_one ds_never) dss_nil)))) pure_look_at_counts
theorem sc_told_settled : FnScope N_told_settled ["waits", "many"] (defScope s_told_settled) := ⟨rfl, rfl, rfl, by decide +kernel, rfl, by decide +kernel, by decide +kernel⟩
theorem ok_told_settled (B : Blt mg) (O : Own K mg "told_settled" s_told_settled)  : Has P w K mg base 1 "told_settled" ["waits", "many"] sp_told_settled :=
  has_of (N := N_told_settled) (τ := t_told_settled ) O sc_told_settled (len_told_settled) (fun _ _ _ _ _ _ us hl => match us, hl with | [_, _], _ => rfl) (fun f cdv A outer s H E hr =>
  (dss_cons (ds_set 2 sc_told_settled.nd (de_op (p_mulA (r := true)) (de_lst (r := false) (da_cons de_int da_nil)) (de_callB p_len B.b_len (by decide +kernel) (da_cons (dv 0) da_nil))))
  (dss_cons (ds_for PassesOwn.never (di_range1 B.b_range (dv 1)) (dg_name 3 sc_told_settled.nd)
  (dss_one (ds_augS (dv 2) (de_ix p_ix (de_callB (p_min hr.units rfl) B.b_min (by decide +kernel) (da_cons (de_lc (r := false) (own := [("at", 4), ("row", 5)]) sc_told_settled.nd (di_enum B.b_enumerate (dv 0)) (blk_of (by kernel_rfl)) (by decide) (fun _ _ _ _ _ => (dg_tup (dgs_cons (dg_name 4 sc_told_settled.nd) (dgs_cons (dg_name 5 sc_told_settled.nd) dgs_nil)))) (fun _ _ _ _ _ => dts_nil) (fun _ _ _ _ _ => (de_tup (da_cons (de_ix p_ix (dv 5) (de_ix p_ix (dv 2) (dv 4))) (da_cons (dv 4) da_nil))))) da_nil)) de_int) p_get de_int p_iadd p_set)))
  (dss_one (ds_ret (dv 2)))))) pure_told_settled
theorem sc_settled : FnScope N_settled ["waits", "many"] (defScope s_settled) := ⟨rfl, rfl, rfl, by decide +kernel, rfl, by decide +kernel, by decide +kernel⟩
theorem ok_settled (B : Blt mg) (O : Own K mg "settled" s_settled) (H_look_at_waits : Has P w K mg base 4 "look_at_waits" ["waits", "many"] sp_look_at_waits) (H_told_settled : Has P w K mg base 1 "told_settled" ["waits", "many"] sp_told_settled) : Has P w K mg base 5 "settled" ["waits", "many"] sp_settled :=
  has_of (N := N_settled) (τ := t_settled sp_look_at_waits sp_told_settled) O sc_settled (len_settled) (fun _ _ _ _ _ _ us hl => match us, hl with | [_, _], _ => rfl) (fun f cdv A outer s H E hr =>
  (dss_cons (ds_expr (de_own H_look_at_waits hr (da_cons (dv 0) (da_cons (dv 1) da_nil))))
  (dss_one (ds_ret (de_tup (da_cons (de_gstr B.c_COUNTS) (da_cons (de_callTy p_tuple B.b_tuple (by decide +kernel) (da_cons (de_own H_told_settled hr (da_cons (dv 0) (da_cons (dv 1) da_nil))) da_nil)) da_nil))))))) pure_settled
theorem sc_told_change : FnScope N_told_change ["waits", "counts"] (defScope s_told_change) := ⟨rfl, rfl, rfl, by decide +kernel, rfl, by decide +kernel, by decide +kernel⟩
theorem ok_told_change (B : Blt mg) (O : Own K mg "told_change" s_told_change)  : Has P w K mg base 1 "told_change" ["waits", "counts"] sp_told_change :=
  has_of (N := N_told_change) (τ := t_told_change ) O sc_told_change (len_told_change) (fun _ _ _ _ _ _ us hl => match us, hl with | [_, _], _ => rfl) (fun f cdv A outer s H E hr =>
  (dss_cons (ds_for PassesOwn.never (di_enum B.b_enumerate (dv 0)) (dg_tup (dgs_cons (dg_name 2 sc_told_change.nd) (dgs_cons (dg_name 3 sc_told_change.nd) dgs_nil)))
  (dss_one (ds_for PassesOwn.never (di_enum B.b_enumerate (dv 0)) (dg_tup (dgs_cons (dg_name 4 sc_told_change.nd) (dgs_cons (dg_name 5 sc_told_change.nd) dgs_nil)))
  (dss_one (ds_if (dt_w (dw_and (dt_cmp (p_ne hr.units) (dv 2) (dv 4) rfl) (dw_and (dt_cmp p_gt (de_ix p_ix (dv 1) (dv 2)) de_int rfl) (dw_and1 (dt_cmp p_lt (de_ix p_ix (dv 1) (dv 4)) (de_callB p_len B.b_len (by decide +kernel) (da_cons (dv 5) da_nil)) rfl))))) (dss_one (ds_if (dt_cmp p_lt (de_ix p_ix (dv 5) (de_ix p_ix (dv 1) (dv 4))) (de_ix p_ix (dv 3) (de_op p_sub (de_ix p_ix (dv 1) (dv 2)) de_int)) rfl) (dss_one (ds_ret (de_tup (da_cons (dv 2) (da_cons (dv 4) da_nil))))) dss_nil)) dss_nil)))))
  (dss_one (ds_ret de_non)))) pure_told_change
theorem sc_would_change : FnScope N_would_change ["waits", "counts"] (defScope s_would_change) := ⟨rfl, rfl, rfl, by decide +kernel, rfl, by decide +kernel, by decide +kernel⟩
theorem ok_would_change (B : Blt mg) (O : Own K mg "would_change" s_would_change) (H_look_at_counts : Has P w K mg base 4 "look_at_counts" ["waits", "counts"] sp_look_at_counts) (H_told_change : Has P w K mg base 1 "told_change" ["waits", "counts"] sp_told_change) : Has P w K mg base 5 "would_change" ["waits", "counts"] sp_would_change :=
  has_of (N := N_would_change) (τ := t_would_change sp_look_at_counts sp_told_change) O sc_would_change (len_would_change) (fun _ _ _ _ _ _ us hl => match us, hl with | [_, _], _ => rfl) (fun f cdv A outer s H E hr =>
  (dss_cons (ds_expr (de_own H_look_at_counts hr (da_cons (dv 0) (da_cons (dv 1) da_nil))))
  (dss_cons (ds_set 2 sc_would_change.nd (de_own H_told_change hr (da_cons (dv 0) (da_cons (dv 1) da_nil))))
  (dss_one (ds_ret (de_if (dt_cmp p_isN (dv 2) de_non rfl) (de_tup (da_cons (de_gstr B.c_SETTLED) da_nil)) (de_tup (da_cons (de_gstr B.c_CHANGES) (da_star (dv 2) da_nil))))))))) pure_would_change
theorem sc_shows_settled : FnScope N_shows_settled ["waits", "many", "value"] (defScope s_shows_settled) := ⟨rfl, rfl, rfl, by decide +kernel, rfl, by decide +kernel, by decide +kernel⟩
theorem ok_shows_settled (B : Blt mg) (O : Own K mg "shows_settled" s_shows_settled) (H_look_at_waits : Has P w K mg base 4 "look_at_waits" ["waits", "many"] sp_look_at_waits) (H_is_told : Has P w K mg base 1 "is_told" ["value", "sizes"] sp_is_told) (H_are_counts : Has P w K mg base 3 "are_counts" ["waits", "many", "value"] sp_are_counts) (H_told_change : Has P w K mg base 1 "told_change" ["waits", "counts"] sp_told_change) : Has P w K mg base 5 "shows_settled" ["waits", "many", "value"] sp_shows_settled :=
  has_of (N := N_shows_settled) (τ := t_shows_settled sp_look_at_waits sp_is_told sp_are_counts sp_told_change) O sc_shows_settled (len_shows_settled) (fun _ _ _ _ _ _ us hl => match us, hl with | [_, _, _], _ => rfl) (fun f cdv A outer s H E hr =>
  (dss_cons (ds_expr (de_own H_look_at_waits hr (da_cons (dv 0) (da_cons (dv 1) da_nil))))
  (dss_cons (ds_if (dt_w (dw_or (dt_not (dt_val (de_own H_is_told hr (da_cons (dv 2) (da_cons (de_tup (da_cons de_int da_nil)) da_nil))))) (dw_or (dt_cmp (p_ne hr.units) (de_ix p_ix (dv 2) de_int) (de_gstr B.c_COUNTS) rfl) (dw_or1 (dt_not (dt_val (de_own H_are_counts hr (da_cons (dv 0) (da_cons (dv 1) (da_cons (de_ix p_ix (dv 2) de_int) da_nil)))))))))) (dss_one (ds_ret de_bl)) dss_nil)
  (dss_one (ds_ret (de_cmp p_isN (de_own H_told_change hr (da_cons (dv 0) (da_cons (de_ix p_ix (dv 2) de_int) da_nil))) de_non rfl)))))) pure_shows_settled
theorem sc_told_total : FnScope N_told_total ["waits", "counts"] (defScope s_told_total) := ⟨rfl, rfl, rfl, by decide +kernel, rfl, by decide +kernel, by decide +kernel⟩
theorem ok_told_total (B : Blt mg) (O : Own K mg "told_total" s_told_total)  : Has P w K mg base 1 "told_total" ["waits", "counts"] sp_told_total :=
  has_of (N := N_told_total) (τ := t_told_total ) O sc_told_total (len_told_total) (fun _ _ _ _ _ _ us hl => match us, hl with | [_, _], _ => rfl) (fun f cdv A outer s H E hr =>
  (dss_one (ds_ret (de_callB (p_sum rfl) B.b_sum (by decide +kernel) (da_cons (de_lc (r := false) (own := [("row", 2), ("count", 3)]) sc_told_total.nd (di_zip2 B.b_zip (dv 0) (dv 1)) (blk_of (by kernel_rfl)) (by decide) (fun _ _ _ _ _ => (dg_tup (dgs_cons (dg_name 2 sc_told_total.nd) (dgs_cons (dg_name 3 sc_told_total.nd) dgs_nil)))) (fun _ _ _ _ _ => (dts_one (dt_cmp p_gt (dv 3) de_int rfl))) (fun _ _ _ _ _ => (de_op (p_mulA (r := false)) (dv 3) (de_ix p_ix (dv 2) (de_op p_sub (dv 3) de_int))))) da_nil))))) pure_told_total
theorem sc_total_wait : FnScope N_total_wait ["waits", "counts"] (defScope s_total_wait) := ⟨rfl, rfl, rfl, by decide +kernel, rfl, by decide +kernel, by decide +kernel⟩
theorem ok_total_wait (B : Blt mg) (O : Own K mg "total_wait" s_total_wait) (H_look_at_counts : Has P w K mg base 4 "look_at_counts" ["waits", "counts"] sp_look_at_counts) (H_told_total : Has P w K mg base 1 "told_total" ["waits", "counts"] sp_told_total) : Has P w K mg base 5 "total_wait" ["waits", "counts"] sp_total_wait :=
  has_of (N := N_total_wait) (τ := t_total_wait sp_look_at_counts sp_told_total) O sc_total_wait (len_total_wait) (fun _ _ _ _ _ _ us hl => match us, hl with | [_, _], _ => rfl) (fun f cdv A outer s H E hr =>
  (dss_cons (ds_expr (de_own H_look_at_counts hr (da_cons (dv 0) (da_cons (dv 1) da_nil))))
  (dss_one (ds_ret (de_own H_told_total hr (da_cons (dv 0) (da_cons (dv 1) da_nil))))))) pure_total_wait
theorem sc_told_least : FnScope N_told_least ["waits", "many"] (defScope s_told_least) := ⟨rfl, rfl, rfl, by decide +kernel, rfl, by decide +kernel, by decide +kernel⟩
theorem ok_told_least (B : Blt mg) (O : Own K mg "told_least" s_told_least)  : Has P w K mg base 1 "told_least" ["waits", "many"] sp_told_least :=
  has_of (N := N_told_least) (τ := t_told_least ) O sc_told_least (len_told_least) (fun _ _ _ _ _ _ us hl => match us, hl with | [_, _], _ => rfl) (fun f cdv A outer s H E hr =>
  (dss_cons (ds_set 2 sc_told_least.nd (de_op (p_add (r := false)) (de_lst (r := false) (da_cons (de_tup (da_cons de_int (da_cons (de_tup da_nil) da_nil))) da_nil)) (de_op (p_mulA (r := false)) (de_lst (r := false) (da_cons de_non da_nil)) (dv 1))))
  (dss_cons (ds_for PassesOwn.never (di_sq (dv 0)) (dg_name 3 sc_told_least.nd)
  (dss_cons (ds_set 4 sc_told_least.nd (de_lst (r := true) da_nil))
  (dss_cons (ds_for PassesOwn.never (di_range1 B.b_range (de_op (p_add (r := false)) (dv 1) de_int)) (dg_name 5 sc_told_least.nd)
  (dss_cons (ds_set 6 sc_told_least.nd (de_lst (r := true) da_nil))
  (dss_cons (ds_for PassesOwn.never (di_range1 B.b_range (de_op (p_add (r := false)) (dv 5) de_int)) (dg_name 7 sc_told_least.nd)
  (dss_one (ds_if (dt_cmp p_notN (de_ix p_ix (dv 2) (de_op p_sub (dv 5) (dv 7))) de_non rfl) (dss_cons (ds_asg (de_ix p_ix (dv 2) (de_op p_sub (dv 5) (dv 7))) (dg_tup (dgs_cons (dg_name 8 sc_told_least.nd) (dgs_cons (dg_name 9 sc_told_least.nd) dgs_nil))))
  (dss_one (ds_expr (de_bm PySem.F.plainAttrs_list PySem.F.slot_list_append PySem.F.type_list_append m_append (dv 6) (da_cons (de_tup (da_cons (de_op (p_add (r := false)) (dv 8) (de_if (dt_cmp p_gt (dv 7) de_int rfl) (de_op (p_mulA (r := false)) (dv 7) (de_ix p_ix (dv 3) (de_op p_sub (dv 7) de_int))) de_int)) (da_cons (de_tup (da_star (dv 9) (da_cons (dv 7) da_nil))) da_nil))) da_nil))))) dss_nil)))
  (dss_one (ds_expr (de_bm PySem.F.plainAttrs_list PySem.F.slot_list_append PySem.F.type_list_append m_append (dv 4) (da_cons (de_if (dt_cmp (p_ne hr.units) (dv 6) (de_lst (r := false) da_nil) rfl) (de_callB (p_min hr.units rfl) B.b_min (by decide +kernel) (da_cons (dv 6) da_nil)) de_non) da_nil)))))))
  (dss_one (ds_set 2 sc_told_least.nd (dv 4))))))
  (dss_one (ds_ret (de_ix p_ix (dv 2) (dv 1))))))) pure_told_least
theorem sc_least_total : FnScope N_least_total ["waits", "many"] (defScope s_least_total) := ⟨rfl, rfl, rfl, by decide +kernel, rfl, by decide +kernel, by decide +kernel⟩
theorem ok_least_total (B : Blt mg) (O : Own K mg "least_total" s_least_total) (H_look_at_waits : Has P w K mg base 4 "look_at_waits" ["waits", "many"] sp_look_at_waits) (H_told_least : Has P w K mg base 1 "told_least" ["waits", "many"] sp_told_least) : Has P w K mg base 5 "least_total" ["waits", "many"] sp_least_total :=
  has_of (N := N_least_total) (τ := t_least_total sp_look_at_waits sp_told_least) O sc_least_total (len_least_total) (fun _ _ _ _ _ _ us hl => match us, hl with | [_, _], _ => rfl) (fun f cdv A outer s H E hr =>
  (dss_cons (ds_expr (de_own H_look_at_waits hr (da_cons (dv 0) (da_cons (dv 1) da_nil))))
  (dss_one (ds_ret (de_own H_told_least hr (da_cons (dv 0) (da_cons (dv 1) da_nil))))))) pure_least_total
theorem sc_price_of_choice : FnScope N_price_of_choice ["waits", "many"] (defScope s_price_of_choice) := ⟨rfl, rfl, rfl, by decide +kernel, rfl, by decide +kernel, by decide +kernel⟩
theorem ok_price_of_choice (B : Blt mg) (O : Own K mg "price_of_choice" s_price_of_choice) (H_look_at_waits : Has P w K mg base 4 "look_at_waits" ["waits", "many"] sp_look_at_waits) (H_told_least : Has P w K mg base 1 "told_least" ["waits", "many"] sp_told_least) (H_told_total : Has P w K mg base 1 "told_total" ["waits", "counts"] sp_told_total) (H_told_settled : Has P w K mg base 1 "told_settled" ["waits", "many"] sp_told_settled) : Has P w K mg base 5 "price_of_choice" ["waits", "many"] sp_price_of_choice :=
  has_of (N := N_price_of_choice) (τ := t_price_of_choice sp_look_at_waits sp_told_least sp_told_total sp_told_settled) O sc_price_of_choice (len_price_of_choice) (fun _ _ _ _ _ _ us hl => match us, hl with | [_, _], _ => rfl) (fun f cdv A outer s H E hr =>
  (dss_cons (ds_expr (de_own H_look_at_waits hr (da_cons (dv 0) (da_cons (dv 1) da_nil))))
  (dss_one (ds_ret (de_tup (da_cons (de_own H_told_total hr (da_cons (dv 0) (da_cons (de_own H_told_settled hr (da_cons (dv 0) (da_cons (dv 1) da_nil))) da_nil))) (da_cons (de_ix p_ix (de_own H_told_least hr (da_cons (dv 0) (da_cons (dv 1) da_nil))) de_int) da_nil))))))) pure_price_of_choice
theorem sc_ways_to_settle : FnScope N_ways_to_settle ["waits", "counts"] (defScope s_ways_to_settle) := ⟨rfl, rfl, rfl, by decide +kernel, rfl, by decide +kernel, by decide +kernel⟩
theorem ok_ways_to_settle (B : Blt mg) (O : Own K mg "ways_to_settle" s_ways_to_settle) (H_look_at_counts : Has P w K mg base 4 "look_at_counts" ["waits", "counts"] sp_look_at_counts) (H_told_change : Has P w K mg base 1 "told_change" ["waits", "counts"] sp_told_change) : Has P w K mg base 5 "ways_to_settle" ["waits", "counts"] sp_ways_to_settle :=
  has_of (N := N_ways_to_settle) (τ := t_ways_to_settle sp_look_at_counts sp_told_change) O sc_ways_to_settle (len_ways_to_settle) (fun _ _ _ _ _ _ us hl => match us, hl with | [_, _], _ => rfl) (fun f cdv A outer s H E hr =>
  (dss_cons (ds_expr (de_own H_look_at_counts hr (da_cons (dv 0) (da_cons (dv 1) da_nil))))
  (dss_cons (ds_set 2 sc_ways_to_settle.nd (de_lst (r := true) (da_cons (de_callTy p_tuple B.b_tuple (by decide +kernel) (da_cons (dv 1) da_nil)) da_nil)))
  (dss_cons (ds_set 3 sc_ways_to_settle.nd (de_own H_told_change hr (da_cons (dv 0) (da_cons (de_ix p_ix (dv 2) (de_neg de_int)) da_nil))))
  (dss_cons (ds_while PassesOwn.never (dt_cmp p_notN (dv 3) de_non rfl)
  (dss_cons (ds_set 4 sc_ways_to_settle.nd (de_callTy (p_list (r := true)) B.b_list (by decide +kernel) (da_cons (de_ix p_ix (dv 2) (de_neg de_int)) da_nil)))
  (dss_cons (ds_augS (dv 4) (de_ix p_ix (dv 3) de_int) p_get de_int p_isub p_set)
  (dss_cons (ds_augS (dv 4) (de_ix p_ix (dv 3) de_int) p_get de_int p_iadd p_set)
  (dss_cons (ds_expr (de_bm PySem.F.plainAttrs_list PySem.F.slot_list_append PySem.F.type_list_append m_append (dv 2) (da_cons (de_callTy p_tuple B.b_tuple (by decide +kernel) (da_cons (dv 4) da_nil)) da_nil)))
  (dss_one (ds_set 3 sc_ways_to_settle.nd (de_own H_told_change hr (da_cons (dv 0) (da_cons (de_ix p_ix (dv 2) (de_neg de_int)) da_nil))))))))))
  (dss_one (ds_ret (de_callTy p_tuple B.b_tuple (by decide +kernel) (da_cons (dv 2) da_nil))))))))) pure_ways_to_settle
theorem sc__law_pot : FnScope N__law_pot ["script", "place"] (defScope s__law_pot) := ⟨rfl, rfl, rfl, by decide +kernel, rfl, by decide +kernel, by decide +kernel⟩
theorem ok__law_pot (B : Blt mg) (O : Own K mg "_law_pot" s__law_pot)  : Has P w K mg base 1 "_law_pot" ["script", "place"] sp__law_pot :=
  has_of (N := N__law_pot) (τ := t__law_pot ) O sc__law_pot (len__law_pot) (fun _ _ _ _ _ _ us hl => match us, hl with | [_, _], _ => rfl) (fun f cdv A outer s H E hr =>
  (dss_cons (ds_set 2 sc__law_pot.nd (de_if (dt_cmp p_lt (dv 1) (de_callB p_len B.b_len (by decide +kernel) (da_cons (dv 0) da_nil)) rfl) (de_ix p_ix (dv 0) (dv 1)) (de_op (p_add (r := false)) (de_op (p_add (r := false)) (de_op p_mod (de_callTy p_int B.b_int (by decide +kernel) (da_cons (de_callB (p_sum rfl) B.b_sum (by decide +kernel) (da_cons (de_slice (p_sl (r := false)) (dv 0) do_none (do_some de_int)) da_nil)) da_nil)) de_int) (de_op (p_mulA (r := false)) de_int (dv 1))) de_int)))
  (dss_cons (ds_set 3 sc__law_pot.nd (de_op (p_mulA (r := false)) (de_op p_mod (de_callTy p_int B.b_int (by decide +kernel) (da_cons (de_callB p_abs B.b_abs (by decide +kernel) (da_cons (dv 2) da_nil)) da_nil)) (de_op p_pow (de_op p_pow de_int de_int) de_int)) (de_callTy p_int B.b_int (by decide +kernel) (da_cons (de_cmp p_ge (de_callB p_abs B.b_abs (by decide +kernel) (da_cons (dv 2) da_nil)) (de_op p_pow de_int de_int) rfl) da_nil))))
  (dss_cons (ds_set 4 sc__law_pot.nd (de_op p_mod (de_callTy p_int B.b_int (by decide +kernel) (da_cons (dv 2) da_nil)) de_int))
  (dss_one (ds_ret (de_lst (r := true) (da_cons (dv 3) (da_cons (de_op p_mod (de_callTy p_int B.b_int (by decide +kernel) (da_cons (de_op (p_add (r := false)) (de_op (p_add (r := false)) (de_op (p_mulA (r := false)) (dv 4) de_int) (de_op (p_mulA (r := false)) (de_op (p_mulA (r := false)) de_int (dv 1)) (dv 1))) de_int) da_nil)) de_int) (da_cons de_int da_nil)))))))))) pure__law_pot
theorem sc__law_take : FnScope N__law_take ["pot", "upto"] (defScope s__law_take) := ⟨rfl, rfl, rfl, by decide +kernel, rfl, by decide +kernel, by decide +kernel⟩
theorem ok__law_take (B : Blt mg) (O : Own K mg "_law_take" s__law_take)  : Has P w K mg base 1 "_law_take" ["pot", "upto"] sp__law_take :=
  has_of (N := N__law_take) (τ := t__law_take ) O sc__law_take (len__law_take) (fun _ _ _ _ _ _ us hl => match us, hl with | [_, _], _ => rfl) (fun f cdv A outer s H E hr =>
  (dss_cons (ds_if (dt_cmp p_gt (de_ix p_ix (dv 0) de_int) de_int rfl) (dss_cons (ds_set 2 sc__law_take.nd (de_op p_mod (de_callTy p_int B.b_int (by decide +kernel) (da_cons (de_ix p_ix (dv 0) de_int) da_nil)) (dv 1)))
  (dss_cons (ds_asg (de_op p_fdiv (de_ix p_ix (dv 0) de_int) (dv 1)) (dg_sub (dv 0) de_int p_set))
  (dss_one (ds_ret (dv 2))))) dss_nil)
  (dss_cons (ds_asg (de_op (p_add (r := false)) (de_ix p_ix (dv 0) de_int) de_int) (dg_sub (dv 0) de_int p_set))
  (dss_cons (ds_set 3 sc__law_take.nd (de_ix p_ix (de_lst (r := false) (da_cons de_int (da_cons de_int (da_cons de_int (da_cons de_int (da_cons de_int da_nil)))))) (de_op p_mod (de_callTy p_int B.b_int (by decide +kernel) (da_cons (de_ix p_ix (dv 0) de_int) da_nil)) de_int)))
  (dss_cons (ds_set 4 sc__law_take.nd (de_op p_mod (de_callTy p_int B.b_int (by decide +kernel) (da_cons (de_op p_pow (de_callTy p_int B.b_int (by decide +kernel) (da_cons (de_op (p_add (r := false)) (de_op (p_add (r := false)) (de_ix p_ix (dv 0) de_int) (de_op (p_mulA (r := false)) (de_op (p_mulA (r := false)) de_int (de_ix p_ix (dv 0) de_int)) (de_ix p_ix (dv 0) de_int))) de_int) da_nil)) de_int) da_nil)) (dv 3)))
  (dss_cons (ds_set 4 sc__law_take.nd (de_op p_mod (de_callTy p_int B.b_int (by decide +kernel) (da_cons (de_op (p_mulA (r := false)) (dv 4) (de_op (p_add (r := false)) (de_op p_mod (de_callTy p_int B.b_int (by decide +kernel) (da_cons (dv 4) da_nil)) de_int) (de_op (p_mulA (r := false)) de_int (de_ix p_ix (dv 0) de_int)))) da_nil)) de_int))
  (dss_one (ds_ret (de_op p_mod (de_callTy p_int B.b_int (by decide +kernel) (da_cons (de_op p_fdiv (dv 4) de_int) da_nil)) (dv 1)))))))))) pure__law_take
theorem sc__law_cells : FnScope N__law_cells ["script", "most"] (defScope s__law_cells) := ⟨rfl, rfl, rfl, by decide +kernel, rfl, by decide +kernel, by decide +kernel⟩
theorem ok__law_cells (B : Blt mg) (O : Own K mg "_law_cells" s__law_cells)  : Has P w K mg base 1 "_law_cells" ["script", "most"] sp__law_cells :=
  has_of (N := N__law_cells) (τ := t__law_cells ) O sc__law_cells (len__law_cells) (fun _ _ _ _ _ _ us hl => match us, hl with | [_, _], _ => rfl) (fun f cdv A outer s H E hr =>
  (dss_one (ds_ret (de_listRg (r := false) rfl B.b_list (drg_1 B.b_range (de_callB (p_max hr.units rfl) B.b_max (by decide +kernel) (da_cons de_int (da_cons (de_callB (p_min hr.units rfl) B.b_min (by decide +kernel) (da_cons (dv 1) (da_cons (de_callB p_len B.b_len (by decide +kernel) (da_cons (dv 0) da_nil)) da_nil))) da_nil)))))))) pure__law_cells
theorem sc__law_heap : FnScope N__law_heap ["waits", "counts"] (defScope s__law_heap) := ⟨rfl, rfl, rfl, by decide +kernel, rfl, by decide +kernel, by decide +kernel⟩
theorem ok__law_heap (B : Blt mg) (O : Own K mg "_law_heap" s__law_heap)  : Has P w K mg base 1 "_law_heap" ["waits", "counts"] sp__law_heap :=
  has_of (N := N__law_heap) (τ := t__law_heap ) O sc__law_heap (len__law_heap) (fun _ _ _ _ _ _ us hl => match us, hl with | [_, _], _ => rfl) (fun f cdv A outer s H E hr =>
  (dss_one (ds_ret (de_callB (p_sum rfl) B.b_sum (by decide +kernel) (da_cons (de_lc (r := false) (own := [("row", 2), ("count", 3)]) sc__law_heap.nd (di_zip2 B.b_zip (dv 0) (dv 1)) (blk_of (by kernel_rfl)) (by decide) (fun _ _ _ _ _ => (dg_tup (dgs_cons (dg_name 2 sc__law_heap.nd) (dgs_cons (dg_name 3 sc__law_heap.nd) dgs_nil)))) (fun _ _ _ _ _ => dts_nil) (fun _ _ _ _ _ => (de_callB (p_sum rfl) B.b_sum (by decide +kernel) (da_cons (de_slice (p_sl (r := false)) (dv 2) do_none (do_some (dv 3))) da_nil)))) da_nil))))) pure__law_heap
theorem sc__law_are_ways_right : FnScope N__law_are_ways_right ["waits", "many"] (defScope s__law_are_ways_right) := ⟨rfl, rfl, rfl, by decide +kernel, rfl, by decide +kernel, by decide +kernel⟩
theorem ok__law_are_ways_right (B : Blt mg) (O : Own K mg "_law_are_ways_right" s__law_are_ways_right) (H_ways_to_settle : Has P w K mg base 5 "ways_to_settle" ["waits", "counts"] sp_ways_to_settle) (H__law_heap : Has P w K mg base 1 "_law_heap" ["waits", "counts"] sp__law_heap) (H_would_change : Has P w K mg base 5 "would_change" ["waits", "counts"] sp_would_change) : Has P w K mg base 6 "_law_are_ways_right" ["waits", "many"] sp__law_are_ways_right :=
  has_of (N := N__law_are_ways_right) (τ := t__law_are_ways_right sp_ways_to_settle sp__law_heap sp_would_change) O sc__law_are_ways_right (len__law_are_ways_right) (fun _ _ _ _ _ _ us hl => match us, hl with | [_, _], _ => rfl) (fun f cdv A outer s H E hr =>
  (dss_cons (ds_set 2 sc__law_are_ways_right.nd (de_op (p_add (r := false)) (de_tup (da_cons (dv 1) da_nil)) (de_op (p_mulA (r := false)) (de_tup (da_cons de_int da_nil)) (de_op p_sub (de_callB p_len B.b_len (by decide +kernel) (da_cons (dv 0) da_nil)) de_int))))
  (dss_cons (ds_set 3 sc__law_are_ways_right.nd (de_own H_ways_to_settle hr (da_cons (dv 0) (da_cons (dv 2) da_nil))))
  (dss_cons (ds_setLc 4 (r := false) (own := [("counts", 5)]) sc__law_are_ways_right.nd (di_sq (dv 3)) (blk_of (by kernel_rfl)) (by decide) (fun _ _ _ _ _ => (dg_name 5 sc__law_are_ways_right.nd)) (fun _ _ _ _ _ => dts_nil) (fun _ _ _ _ _ => (de_own H__law_heap hr (da_cons (dv 0) (da_cons (dv 5) da_nil)))))
  (dss_cons (ds_if (dt_w (dw_or (dt_cmp (p_ne hr.units) (de_ix p_ix (dv 3) de_int) (dv 2) rfl) (dw_or1 (dt_cmp (p_ne hr.units) (de_own H_would_change hr (da_cons (dv 0) (da_cons (de_ix p_ix (dv 3) (de_neg de_int)) da_nil))) (de_tup (da_cons de_str da_nil)) rfl)))) (dss_one (ds_ret de_bl)) dss_nil)
  (dss_cons (ds_if (dt_val (de_callB (p_any rfl) B.b_any (by decide +kernel) (da_cons (de_lc (r := false) (own := [("counts", 5)]) sc__law_are_ways_right.nd (di_sq (dv 3)) (blk_of (by kernel_rfl)) (by decide) (fun _ _ _ _ _ => (dg_name 5 sc__law_are_ways_right.nd)) (fun _ _ _ _ _ => dts_nil) (fun _ _ _ _ _ => (de_cmp (p_ne hr.units) (de_callB (p_sum rfl) B.b_sum (by decide +kernel) (da_cons (dv 5) da_nil)) (dv 1) rfl))) da_nil))) (dss_one (ds_ret de_bl)) dss_nil)
  (dss_one (ds_ret (de_not (de_callB (p_any rfl) B.b_any (by decide +kernel) (da_cons (de_lc (r := false) (own := [("one", 6), ("other", 7)]) sc__law_are_ways_right.nd (di_zip2 B.b_zip (dv 4) (de_slice (p_sl (r := false)) (dv 4) (do_some de_int) do_none)) (blk_of (by kernel_rfl)) (by decide) (fun _ _ _ _ _ => (dg_tup (dgs_cons (dg_name 6 sc__law_are_ways_right.nd) (dgs_cons (dg_name 7 sc__law_are_ways_right.nd) dgs_nil)))) (fun _ _ _ _ _ => dts_nil) (fun _ _ _ _ _ => (de_cmp p_le (dv 6) (dv 7) rfl))) da_nil))))))))))) pure__law_are_ways_right
theorem sc__law_right : FnScope N__law_right ["pot"] (defScope s__law_right) := ⟨rfl, rfl, rfl, by decide +kernel, rfl, by decide +kernel, by decide +kernel⟩
theorem ok__law_right (B : Blt mg) (O : Own K mg "_law_right" s__law_right) (H__law_take : Has P w K mg base 1 "_law_take" ["pot", "upto"] sp__law_take) (H_settled : Has P w K mg base 5 "settled" ["waits", "many"] sp_settled) (H_would_change : Has P w K mg base 5 "would_change" ["waits", "counts"] sp_would_change) (H_shows_settled : Has P w K mg base 5 "shows_settled" ["waits", "many", "value"] sp_shows_settled) (H_least_total : Has P w K mg base 5 "least_total" ["waits", "many"] sp_least_total) (H__law_are_ways_right : Has P w K mg base 6 "_law_are_ways_right" ["waits", "many"] sp__law_are_ways_right) (H_price_of_choice : Has P w K mg base 5 "price_of_choice" ["waits", "many"] sp_price_of_choice) (H_total_wait : Has P w K mg base 5 "total_wait" ["waits", "counts"] sp_total_wait) : Has P w K mg base 7 "_law_right" ["pot"] sp__law_right :=
  has_of (N := N__law_right) (τ := t__law_right sp__law_take sp_settled sp_would_change sp_shows_settled sp_least_total sp__law_are_ways_right sp_price_of_choice sp_total_wait) O sc__law_right (len__law_right) (fun _ _ _ _ _ _ us hl => match us, hl with | [_], _ => rfl) (fun f cdv A outer s H E hr =>
  (dss_cons (ds_for PassesOwn.never (di_range1 B.b_range de_int) (dg_name 1 sc__law_right.nd)
  (dss_cons (ds_asg (de_tup (da_cons (de_callTy p_int B.b_int (by decide +kernel) (da_cons (de_op (p_add (r := false)) de_int (de_own H__law_take hr (da_cons (dv 0) (da_cons de_int da_nil)))) da_nil)) (da_cons (de_lst (r := true) da_nil) da_nil))) (dg_tup (dgs_cons (dg_name 2 sc__law_right.nd) (dgs_cons (dg_name 3 sc__law_right.nd) dgs_nil))))
  (dss_cons (ds_for PassesOwn.never (di_range1 B.b_range (de_op (p_add (r := false)) de_int (de_own H__law_take hr (da_cons (dv 0) (da_cons de_int da_nil))))) (dg_name 4 sc__law_right.nd)
  (dss_one (ds_expr (de_bm PySem.F.plainAttrs_list PySem.F.slot_list_append PySem.F.type_list_append m_append (dv 3) (da_cons (de_callTy p_tuple B.b_tuple (by decide +kernel) (da_cons (de_callB (p_sorted hr.units (r := false)) B.b_sorted (by decide +kernel) (da_cons (de_lc (r := false) (own := [("comer", 5)]) sc__law_right.nd (di_range1 B.b_range (dv 2)) (blk_of (by kernel_rfl)) (by decide) (fun _ _ _ _ _ => (dg_name 5 sc__law_right.nd)) (fun _ _ _ _ _ => dts_nil) (fun _ _ _ _ _ => (de_callTy p_int B.b_int (by decide +kernel) (da_cons (de_own H__law_take hr (da_cons (dv 0) (da_cons de_int da_nil))) da_nil)))) da_nil)) da_nil)) da_nil)))))
  (dss_cons (ds_par2 3 6 sc__law_right.nd (da_cons (de_callTy p_tuple B.b_tuple (by decide +kernel) (da_cons (dv 3) da_nil)) (da_cons (de_callTy p_int B.b_int (by decide +kernel) (da_cons (de_own H__law_take hr (da_cons (dv 0) (da_cons (de_op (p_add (r := false)) (dv 2) de_int) da_nil))) da_nil)) da_nil)))
  (dss_cons (ds_par2 7 8 sc__law_right.nd (da_cons (de_ix p_ix (de_own H_settled hr (da_cons (dv 3) (da_cons (dv 6) da_nil))) de_int) (da_cons (de_rev (r := false) (dv 3)) da_nil)))
  (dss_cons (ds_if (dt_w (dw_or (dt_cmp (p_ne hr.units) (de_own H_would_change hr (da_cons (dv 3) (da_cons (dv 7) da_nil))) (de_tup (da_cons de_str da_nil)) rfl) (dw_or1 (dt_cmp (p_ne hr.units) (de_callB (p_sum rfl) B.b_sum (by decide +kernel) (da_cons (dv 7) da_nil)) (dv 6) rfl)))) (dss_one (ds_ret de_bl)) dss_nil)
  (dss_cons (ds_if (dt_cmp p_notB (de_own H_shows_settled hr (da_cons (dv 8) (da_cons (dv 6) (da_cons (de_tup (da_cons de_str (da_cons (de_rev (r := false) (dv 7)) da_nil))) da_nil)))) de_bl rfl) (dss_one (ds_ret de_bl)) dss_nil)
  (dss_cons (ds_if (dt_w (dw_or (dt_cmp (p_ne hr.units) (de_ix p_ix (de_own H_least_total hr (da_cons (dv 8) (da_cons (dv 6) da_nil))) de_int) (de_ix p_ix (de_own H_least_total hr (da_cons (dv 3) (da_cons (dv 6) da_nil))) de_int) rfl) (dw_or1 (dt_not (dt_val (de_own H__law_are_ways_right hr (da_cons (dv 3) (da_cons (dv 6) da_nil)))))))) (dss_one (ds_ret de_bl)) dss_nil)
  (dss_cons (ds_set 9 sc__law_right.nd (de_callTy p_tuple B.b_tuple (by decide +kernel) (da_cons (de_lc (r := false) (own := [("row", 11)]) sc__law_right.nd (di_sq (dv 3)) (blk_of (by kernel_rfl)) (by decide) (fun _ _ _ _ _ => (dg_name 11 sc__law_right.nd)) (fun _ _ _ _ _ => dts_nil) (fun _ _ _ _ _ => (de_callTy p_tuple B.b_tuple (by decide +kernel) (da_cons (de_lc (r := false) (own := [("wait", 10)]) sc__law_right.nd (di_sq (dv 11)) (blk_of (by kernel_rfl)) (by decide) (fun _ _ _ _ _ => (dg_name 10 sc__law_right.nd)) (fun _ _ _ _ _ => dts_nil) (fun _ _ _ _ _ => (de_op (p_mulA (r := false)) de_int (dv 10)))) da_nil)))) da_nil)))
  (dss_cons (ds_if (dt_cmp p_notB (de_own H_shows_settled hr (da_cons (dv 9) (da_cons (dv 6) (da_cons (de_tup (da_cons de_str (da_cons (dv 7) da_nil))) da_nil)))) de_bl rfl) (dss_one (ds_ret de_bl)) dss_nil)
  (dss_cons (ds_asg (de_own H_price_of_choice hr (da_cons (dv 3) (da_cons (dv 6) da_nil))) (dg_tup (dgs_cons (dg_name 12 sc__law_right.nd) (dgs_cons (dg_name 13 sc__law_right.nd) dgs_nil))))
  (dss_cons (ds_if (dt_w (dw_or (dt_cmp (p_ne hr.units) (de_own H_total_wait hr (da_cons (dv 9) (da_cons (dv 7) da_nil))) (de_op (p_mulA (r := false)) de_int (de_own H_total_wait hr (da_cons (dv 3) (da_cons (dv 7) da_nil)))) rfl) (dw_or1 (dt_cmp (p_ne hr.units) (dv 13) (de_ix p_ix (de_own H_least_total hr (da_cons (dv 3) (da_cons (dv 6) da_nil))) de_int) rfl)))) (dss_one (ds_ret de_bl)) dss_nil)
  (dss_cons (ds_if (dt_w (dw_or (dt_cmp p_lt (dv 12) (dv 13) rfl) (dw_or1 (dt_cmp p_gt (dv 13) (de_own H_total_wait hr (da_cons (dv 3) (da_cons (dv 7) da_nil))) rfl)))) (dss_one (ds_ret de_bl)) dss_nil)
  (dss_cons (ds_set 14 sc__law_right.nd (de_callTy p_tuple B.b_tuple (by decide +kernel) (da_cons (de_lc (r := false) (own := [("row", 11)]) sc__law_right.nd (di_sq (dv 3)) (blk_of (by kernel_rfl)) (by decide) (fun _ _ _ _ _ => (dg_name 11 sc__law_right.nd)) (fun _ _ _ _ _ => dts_nil) (fun _ _ _ _ _ => (de_op (p_mulA (r := false)) (de_tup (da_cons (de_callTy p_int B.b_int (by decide +kernel) (da_cons (de_own H__law_take hr (da_cons (dv 0) (da_cons de_int da_nil))) da_nil)) da_nil)) (dv 2)))) da_nil)))
  (dss_cons (ds_set 15 sc__law_right.nd (de_op (p_mulA (r := false)) (dv 6) (de_callB (p_min hr.units rfl) B.b_min (by decide +kernel) (da_cons (de_lc (r := false) (own := [("row", 11)]) sc__law_right.nd (di_sq (dv 14)) (blk_of (by kernel_rfl)) (by decide) (fun _ _ _ _ _ => (dg_name 11 sc__law_right.nd)) (fun _ _ _ _ _ => dts_nil) (fun _ _ _ _ _ => (de_ix p_ix (dv 11) de_int))) da_nil))))
  (dss_cons (ds_if (dt_w (dw_or (dt_cmp (p_ne hr.units) (de_own H_price_of_choice hr (da_cons (dv 14) (da_cons (dv 6) da_nil))) (de_tup (da_cons (dv 15) (da_cons (dv 15) da_nil))) rfl) (dw_or1 (dt_cmp (p_ne hr.units) (de_own H_total_wait hr (da_cons (dv 14) (da_cons (de_ix p_ix (de_own H_settled hr (da_cons (dv 14) (da_cons (dv 6) da_nil))) de_int) da_nil))) (dv 15) rfl)))) (dss_one (ds_ret de_bl)) dss_nil)
  (dss_cons (ds_set 16 sc__law_right.nd (de_ix p_ix (de_own H_settled hr (da_cons (de_op (p_mulA (r := false)) (de_tup (da_cons (de_tupRg rfl B.b_tuple (drg_2 B.b_range de_int (de_op (p_add (r := false)) (dv 2) de_int))) da_nil)) (de_callB p_len B.b_len (by decide +kernel) (da_cons (dv 3) da_nil))) (da_cons (dv 6) da_nil))) de_int))
  (dss_one (ds_if (dt_w (dw_or (dt_cmp p_gt (de_op p_sub (de_callB (p_max hr.units rfl) B.b_max (by decide +kernel) (da_cons (dv 16) da_nil)) (de_callB (p_min hr.units rfl) B.b_min (by decide +kernel) (da_cons (dv 16) da_nil))) de_int rfl) (dw_or1 (dt_cmp (p_ne hr.units) (de_own H_settled hr (da_cons (de_tup (da_cons (de_ix p_ix (dv 3) de_int) da_nil)) (da_cons (dv 6) da_nil))) (de_tup (da_cons de_str (da_cons (de_tup (da_cons (dv 6) da_nil)) da_nil))) rfl)))) (dss_one (ds_ret de_bl)) dss_nil)))))))))))))))))))
  (dss_one (ds_ret de_bl)))) pure__law_right
theorem sc_law : FnScope N_law ["script"] (defScope s_law) := ⟨rfl, rfl, rfl, by decide +kernel, rfl, by decide +kernel, by decide +kernel⟩
theorem ok_law {f0 : Addr} {fd : FuncData} (B : Blt mg) (O : FnP K "law" s_law f0 fd) (H__law_cells : Has P w K mg base 1 "_law_cells" ["script", "most"] sp__law_cells) (H__law_right : Has P w K mg base 7 "_law_right" ["pot"] sp__law_right) (H__law_pot : Has P w K mg base 1 "_law_pot" ["script", "place"] sp__law_pot) : FnOk P w K mg base CX0 8 f0 fd ["script"] (LSp K sp_law) :=
  fn_def (N := N_law) (τ := t_law sp__law_cells sp__law_right sp__law_pot) O sc_law (len_law) (fun f cdv A outer s H E hr =>
  (dss_one (ds_ret (de_callB (p_all rfl) B.b_all (by decide +kernel) (da_cons (de_lc (r := false) (own := [("place", 1)]) sc_law.nd (di_sq (de_own H__law_cells hr (da_cons (dv 0) (da_cons de_int da_nil)))) (blk_of (by kernel_rfl)) (by decide) (fun _ _ _ _ _ => (dg_name 1 sc_law.nd)) (fun _ _ _ _ _ => dts_nil) (fun _ _ _ _ _ => (de_own H__law_right hr (da_cons (de_own H__law_pot hr (da_cons (dv 0) (da_cons (dv 1) da_nil))) da_nil)))) da_nil))))) pure_law
end
theorem facts {P : Program} {w : World} {K : PySem.W.Frag} {h : Heap} {mg : Str → Option Value} {f : Addr} (X : K.In h) (G : h.Ns mainGlobals mg) (hfa : mg ("law" : Str) = some (.ref f)) (c : He.SaysD fa fn K) :
    ∃ fd : FuncData, (∀ (s : Shared) (v : Value), BindsTo s fd ⟨[v], []⟩ [("script", v)]) ∧ ∀ base : Heap, K.In base → base.Ns mainGlobals mg → FnOk P w K mg base CX0 8 f fd ["script"] (LSp K sp_law) := by
  obtain ⟨fd, F⟩ := c.def_ 24 (d := mkD "law" s_law) rfl
  have e := hfa.symm.trans (He.glo_ok X G (c.fact 24 (f := .glo "law") rfl))
  cases e
  have b := FunD.bindsA (ps := ["script"]) F fun _ _ _ _ _ _ us hl => match us, hl with | [_], _ => rfl
  have B : Blt mg := ⟨He.free_ok X G (c.fact 25 (f := .free "abs") rfl),
    He.free_ok X G (c.fact 26 (f := .free "all") rfl),
    He.free_ok X G (c.fact 27 (f := .free "any") rfl),
    He.free_ok X G (c.fact 28 (f := .free "bool") rfl),
    He.free_ok X G (c.fact 29 (f := .free "enumerate") rfl),
    He.free_ok X G (c.fact 30 (f := .free "int") rfl),
    He.free_ok X G (c.fact 31 (f := .free "isinstance") rfl),
    He.free_ok X G (c.fact 32 (f := .free "len") rfl),
    He.free_ok X G (c.fact 33 (f := .free "list") rfl),
    He.free_ok X G (c.fact 34 (f := .free "max") rfl),
    He.free_ok X G (c.fact 35 (f := .free "min") rfl),
    He.free_ok X G (c.fact 36 (f := .free "range") rfl),
    He.free_ok X G (c.fact 37 (f := .free "sorted") rfl),
    He.free_ok X G (c.fact 38 (f := .free "str") rfl),
    He.free_ok X G (c.fact 39 (f := .free "sum") rfl),
    He.free_ok X G (c.fact 40 (f := .free "tuple") rfl),
    He.free_ok X G (c.fact 41 (f := .free "zip") rfl),
    He.str_ok X G (c.fact 47 (f := .str "CHANGES" "changes") rfl),
    He.str_ok X G (c.fact 45 (f := .str "COUNTS" "counts") rfl),
    He.int_ok X G (c.fact 43 (f := .int "MOST_COUNT" 60) rfl),
    He.int_ok X G (c.fact 42 (f := .int "MOST_CROSSINGS" 8) rfl),
    He.int_ok X G (c.fact 44 (f := .int "MOST_WAIT" 1000000) rfl),
    He.str_ok X G (c.fact 46 (f := .str "SETTLED" "settled") rfl)⟩
  have O_is_int : Own K mg "is_int" s_is_int := by
    obtain ⟨fd, F⟩ := c.def_ 0 (d := mkD "is_int" s_is_int) rfl
    exact ⟨_, fd, F, He.glo_ok X G (c.fact 0 (f := .glo "is_int") rfl)⟩
  have O_are_ints : Own K mg "are_ints" s_are_ints := by
    obtain ⟨fd, F⟩ := c.def_ 1 (d := mkD "are_ints" s_are_ints) rfl
    exact ⟨_, fd, F, He.glo_ok X G (c.fact 1 (f := .glo "are_ints") rfl)⟩
  have O_is_told : Own K mg "is_told" s_is_told := by
    obtain ⟨fd, F⟩ := c.def_ 2 (d := mkD "is_told" s_is_told) rfl
    exact ⟨_, fd, F, He.glo_ok X G (c.fact 2 (f := .glo "is_told") rfl)⟩
  have O_are_waits : Own K mg "are_waits" s_are_waits := by
    obtain ⟨fd, F⟩ := c.def_ 3 (d := mkD "are_waits" s_are_waits) rfl
    exact ⟨_, fd, F, He.glo_ok X G (c.fact 3 (f := .glo "are_waits") rfl)⟩
  have O_look_at_waits : Own K mg "look_at_waits" s_look_at_waits := by
    obtain ⟨fd, F⟩ := c.def_ 4 (d := mkD "look_at_waits" s_look_at_waits) rfl
    exact ⟨_, fd, F, He.glo_ok X G (c.fact 4 (f := .glo "look_at_waits") rfl)⟩
  have O_are_counts : Own K mg "are_counts" s_are_counts := by
    obtain ⟨fd, F⟩ := c.def_ 5 (d := mkD "are_counts" s_are_counts) rfl
    exact ⟨_, fd, F, He.glo_ok X G (c.fact 5 (f := .glo "are_counts") rfl)⟩
  have O_look_at_counts : Own K mg "look_at_counts" s_look_at_counts := by
    obtain ⟨fd, F⟩ := c.def_ 6 (d := mkD "look_at_counts" s_look_at_counts) rfl
    exact ⟨_, fd, F, He.glo_ok X G (c.fact 6 (f := .glo "look_at_counts") rfl)⟩
  have O_told_settled : Own K mg "told_settled" s_told_settled := by
    obtain ⟨fd, F⟩ := c.def_ 7 (d := mkD "told_settled" s_told_settled) rfl
    exact ⟨_, fd, F, He.glo_ok X G (c.fact 7 (f := .glo "told_settled") rfl)⟩
  have O_settled : Own K mg "settled" s_settled := by
    obtain ⟨fd, F⟩ := c.def_ 8 (d := mkD "settled" s_settled) rfl
    exact ⟨_, fd, F, He.glo_ok X G (c.fact 8 (f := .glo "settled") rfl)⟩
  have O_told_change : Own K mg "told_change" s_told_change := by
    obtain ⟨fd, F⟩ := c.def_ 9 (d := mkD "told_change" s_told_change) rfl
    exact ⟨_, fd, F, He.glo_ok X G (c.fact 9 (f := .glo "told_change") rfl)⟩
  have O_would_change : Own K mg "would_change" s_would_change := by
    obtain ⟨fd, F⟩ := c.def_ 10 (d := mkD "would_change" s_would_change) rfl
    exact ⟨_, fd, F, He.glo_ok X G (c.fact 10 (f := .glo "would_change") rfl)⟩
  have O_shows_settled : Own K mg "shows_settled" s_shows_settled := by
    obtain ⟨fd, F⟩ := c.def_ 11 (d := mkD "shows_settled" s_shows_settled) rfl
    exact ⟨_, fd, F, He.glo_ok X G (c.fact 11 (f := .glo "shows_settled") rfl)⟩
  have O_told_total : Own K mg "told_total" s_told_total := by
    obtain ⟨fd, F⟩ := c.def_ 12 (d := mkD "told_total" s_told_total) rfl
    exact ⟨_, fd, F, He.glo_ok X G (c.fact 12 (f := .glo "told_total") rfl)⟩
  have O_total_wait : Own K mg "total_wait" s_total_wait := by
    obtain ⟨fd, F⟩ := c.def_ 13 (d := mkD "total_wait" s_total_wait) rfl
    exact ⟨_, fd, F, He.glo_ok X G (c.fact 13 (f := .glo "total_wait") rfl)⟩
  have O_told_least : Own K mg "told_least" s_told_least := by
    obtain ⟨fd, F⟩ := c.def_ 14 (d := mkD "told_least" s_told_least) rfl
    exact ⟨_, fd, F, He.glo_ok X G (c.fact 14 (f := .glo "told_least") rfl)⟩
  have O_least_total : Own K mg "least_total" s_least_total := by
    obtain ⟨fd, F⟩ := c.def_ 15 (d := mkD "least_total" s_least_total) rfl
    exact ⟨_, fd, F, He.glo_ok X G (c.fact 15 (f := .glo "least_total") rfl)⟩
  have O_price_of_choice : Own K mg "price_of_choice" s_price_of_choice := by
    obtain ⟨fd, F⟩ := c.def_ 16 (d := mkD "price_of_choice" s_price_of_choice) rfl
    exact ⟨_, fd, F, He.glo_ok X G (c.fact 16 (f := .glo "price_of_choice") rfl)⟩
  have O_ways_to_settle : Own K mg "ways_to_settle" s_ways_to_settle := by
    obtain ⟨fd, F⟩ := c.def_ 17 (d := mkD "ways_to_settle" s_ways_to_settle) rfl
    exact ⟨_, fd, F, He.glo_ok X G (c.fact 17 (f := .glo "ways_to_settle") rfl)⟩
  have O__law_pot : Own K mg "_law_pot" s__law_pot := by
    obtain ⟨fd, F⟩ := c.def_ 18 (d := mkD "_law_pot" s__law_pot) rfl
    exact ⟨_, fd, F, He.glo_ok X G (c.fact 18 (f := .glo "_law_pot") rfl)⟩
  have O__law_take : Own K mg "_law_take" s__law_take := by
    obtain ⟨fd, F⟩ := c.def_ 19 (d := mkD "_law_take" s__law_take) rfl
    exact ⟨_, fd, F, He.glo_ok X G (c.fact 19 (f := .glo "_law_take") rfl)⟩
  have O__law_cells : Own K mg "_law_cells" s__law_cells := by
    obtain ⟨fd, F⟩ := c.def_ 20 (d := mkD "_law_cells" s__law_cells) rfl
    exact ⟨_, fd, F, He.glo_ok X G (c.fact 20 (f := .glo "_law_cells") rfl)⟩
  have O__law_heap : Own K mg "_law_heap" s__law_heap := by
    obtain ⟨fd, F⟩ := c.def_ 21 (d := mkD "_law_heap" s__law_heap) rfl
    exact ⟨_, fd, F, He.glo_ok X G (c.fact 21 (f := .glo "_law_heap") rfl)⟩
  have O__law_are_ways_right : Own K mg "_law_are_ways_right" s__law_are_ways_right := by
    obtain ⟨fd, F⟩ := c.def_ 22 (d := mkD "_law_are_ways_right" s__law_are_ways_right) rfl
    exact ⟨_, fd, F, He.glo_ok X G (c.fact 22 (f := .glo "_law_are_ways_right") rfl)⟩
  have O__law_right : Own K mg "_law_right" s__law_right := by
    obtain ⟨fd, F⟩ := c.def_ 23 (d := mkD "_law_right" s__law_right) rfl
    exact ⟨_, fd, F, He.glo_ok X G (c.fact 23 (f := .glo "_law_right") rfl)⟩
  refine ⟨fd, fun s v => b s [v] rfl, fun base _ _ => ?_⟩
  have H_is_int : Has P w K mg base 1 "is_int" ["value", "low", "high"] sp_is_int := ok_is_int B O_is_int 
  have H_are_ints : Has P w K mg base 2 "are_ints" ["value", "low", "high"] sp_are_ints := ok_are_ints B O_are_ints H_is_int
  have H_is_told : Has P w K mg base 1 "is_told" ["value", "sizes"] sp_is_told := ok_is_told B O_is_told 
  have H_are_waits : Has P w K mg base 3 "are_waits" ["value"] sp_are_waits := ok_are_waits B O_are_waits H_are_ints
  have H_look_at_waits : Has P w K mg base 4 "look_at_waits" ["waits", "many"] sp_look_at_waits := ok_look_at_waits B O_look_at_waits H_are_waits H_is_int
  have H_are_counts : Has P w K mg base 3 "are_counts" ["waits", "many", "value"] sp_are_counts := ok_are_counts B O_are_counts H_are_ints
  have H_look_at_counts : Has P w K mg base 4 "look_at_counts" ["waits", "counts"] sp_look_at_counts := ok_look_at_counts B O_look_at_counts H_are_waits H_are_ints
  have H_told_settled : Has P w K mg base 1 "told_settled" ["waits", "many"] sp_told_settled := ok_told_settled B O_told_settled 
  have H_settled : Has P w K mg base 5 "settled" ["waits", "many"] sp_settled := ok_settled B O_settled H_look_at_waits H_told_settled
  have H_told_change : Has P w K mg base 1 "told_change" ["waits", "counts"] sp_told_change := ok_told_change B O_told_change 
  have H_would_change : Has P w K mg base 5 "would_change" ["waits", "counts"] sp_would_change := ok_would_change B O_would_change H_look_at_counts H_told_change
  have H_shows_settled : Has P w K mg base 5 "shows_settled" ["waits", "many", "value"] sp_shows_settled := ok_shows_settled B O_shows_settled H_look_at_waits H_is_told H_are_counts H_told_change
  have H_told_total : Has P w K mg base 1 "told_total" ["waits", "counts"] sp_told_total := ok_told_total B O_told_total 
  have H_total_wait : Has P w K mg base 5 "total_wait" ["waits", "counts"] sp_total_wait := ok_total_wait B O_total_wait H_look_at_counts H_told_total
  have H_told_least : Has P w K mg base 1 "told_least" ["waits", "many"] sp_told_least := ok_told_least B O_told_least 
  have H_least_total : Has P w K mg base 5 "least_total" ["waits", "many"] sp_least_total := ok_least_total B O_least_total H_look_at_waits H_told_least
  have H_price_of_choice : Has P w K mg base 5 "price_of_choice" ["waits", "many"] sp_price_of_choice := ok_price_of_choice B O_price_of_choice H_look_at_waits H_told_least H_told_total H_told_settled
  have H_ways_to_settle : Has P w K mg base 5 "ways_to_settle" ["waits", "counts"] sp_ways_to_settle := ok_ways_to_settle B O_ways_to_settle H_look_at_counts H_told_change
  have H__law_pot : Has P w K mg base 1 "_law_pot" ["script", "place"] sp__law_pot := ok__law_pot B O__law_pot 
  have H__law_take : Has P w K mg base 1 "_law_take" ["pot", "upto"] sp__law_take := ok__law_take B O__law_take 
  have H__law_cells : Has P w K mg base 1 "_law_cells" ["script", "most"] sp__law_cells := ok__law_cells B O__law_cells 
  have H__law_heap : Has P w K mg base 1 "_law_heap" ["waits", "counts"] sp__law_heap := ok__law_heap B O__law_heap 
  have H__law_are_ways_right : Has P w K mg base 6 "_law_are_ways_right" ["waits", "many"] sp__law_are_ways_right := ok__law_are_ways_right B O__law_are_ways_right H_ways_to_settle H__law_heap H_would_change
  have H__law_right : Has P w K mg base 7 "_law_right" ["pot"] sp__law_right := ok__law_right B O__law_right H__law_take H_settled H_would_change H_shows_settled H_least_total H__law_are_ways_right H_price_of_choice H_total_wait
  exact ok_law B F H__law_cells H__law_right H__law_pot
end L46
open PySem PySem.W PySem.Calls PyProof.Rows
theorem PySem.Challenge.cw_nobodywaitsbeyond_k46_whole_crossings_al_holds : PySem.Challenge.rw_nobodywaitsbeyond_k46_whole_crossings_al.Holds := by
  w_on; o_law
  refine HandSHeadRun.head_any (r := OpenLaw.row PySem.Challenge.rw_nobodywaitsbeyond_k46_whole_crossings_al) (q := view (OpenLaw.row PySem.Challenge.rw_nobodywaitsbeyond_k46_whole_crossings_al).prog [37]) (H := L46.hk) (ob := L46.ob) (M := 3000) (loose := L46.loose) (d := HandSHeadRun.topDef (OpenLaw.row PySem.Challenge.rw_nobodywaitsbeyond_k46_whole_crossings_al).prog 37) (kwd := []) L46.ob_eq
    (by kernel_rfl) (fun s => by kernel_rfl) L46.run (by kernel_rfl) (by kernel_rfl) (by kernel_rfl) (by rfl) (by first | assumption | decide +kernel) (by decide +kernel) ⟨rfl, rfl, rfl, rfl, rfl, by decide +kernel⟩ ?hw ?hc
  case hw => w_witness2
  case hc =>
    refine L2.walk_ofE (l := PySem.Challenge.rw_nobodywaitsbeyond_k46_whole_crossings_al) (n := 63) (k := 8) (x := "script") (CX := L2.CX0) rfl (by decide) (by kernel_rfl) ⟨rfl, by decide, by decide⟩ ?F (fun _ _ _ _ z => z)
    intro w mg fa h Y G hmg0
    obtain ⟨K, KX, c⟩ := Y
    have hmg : mg ("law" : PySem.Str) = some (.ref fa) := by
      have e : (HandSHeadRun.topDef (OpenLaw.row PySem.Challenge.rw_nobodywaitsbeyond_k46_whole_crossings_al).prog 37).name = ("law" : PySem.Str) := by kernel_rfl
      rw [← e]
      exact hmg0
    obtain ⟨fd, hb, hF⟩ := L46.facts (P := (PySem.Challenge.rw_nobodywaitsbeyond_k46_whole_crossings_al).prog) (w := w) KX G hmg c
    exact ⟨K, fd, PL.LSp K L46.sp_law, KX, hb, fun H a ns hl hO hS => ⟨_, _, fun d _ => d = PL.D.bl true, PL.script_rd hO hS, PL.rs_empty, ⟨ns, rfl, hl, fun _ => rfl⟩, fun d S' v H' q g r => by subst q; rw [PL.RD] at r; exact r⟩, hF⟩
