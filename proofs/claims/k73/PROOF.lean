import PyProof.Rows.All
import Wide.All
import OpenK.AllK
import Wide.FinOn
import KE.KStateDown
import KE.DataMinMax
import KE.SortData
import PyProof.ReprRoads
import KE.GoesMore
import KE.GoesEnum
import HandS.ForMost
import HandS.Exc
import HandS.Defaults
import HandS.Flow
import HandS.Style
import HandS.IsInst
import HandS.Zip
import HandS.TupAny
import HandS.TupMul
import HandS.Conv
import HandS.Wide
import HandS.Deep
import HandS.TupLe
import HandS.Star
import HandS.SetFor
import HandS.Strs
import HandS.More
import HandS.Head0
import HandS.Head1
import HandS.Head2
import HandS.HeadEnd
import HandS.HeadHook1
import HandS.HeadHook2
import PySem.Challenge.RW_nobodywaitsbeyond_k73_whole_two_checks_c
set_option Elab.async false
set_option linter.all false
set_option maxRecDepth 100000
set_option maxHeartbeats 4000000
namespace PL
open PySem PySem.Spec PyProof.Rows L2

/-! ### values: tuples and lists that nobody changes are trees; lists and dicts that are changed stand at an address -/
inductive D where
  | non | bl (b : Bool) | int (i : Int) | str (x : Str) | tup (ds : List D) | lst (ds : List D) | fz (ds : List D) | ref (a : Addr) | tpx (ds : List D)

/-- what stands at a tracked address -/
inductive MO where
  | lst (ds : List D)
  | dK (kvs : List (Key × D))
  | dT (kvs : List (List Key × D))

abbrev Sto := Addr → Option MO
def Sto.up (S : Sto) (a : Addr) (o : MO) : Sto := fun b => if b = a then some o else S b
theorem Sto.up_same {S : Sto} {a : Addr} {o : MO} : S.up a o a = some o := by unfold Sto.up; rw [if_pos rfl]
theorem Sto.up_ne {S : Sto} {a b : Addr} {o : MO} (h : b ≠ a) : S.up a o b = S b := by unfold Sto.up; rw [if_neg h]
theorem Sto.up_up {S : Sto} {a : Addr} {o u : MO} : (S.up a o).up a u = S.up a u := by
  funext b; unfold Sto.up; split <;> rfl
abbrev DEnv := List (Option D)

/-- a list that never changes: frozen, or of the written part -/
def KL (K : PySem.W.Frag) (H : Hp) (a : Addr) (xs : List V) : Prop := (∃ o, H a = some (.frz o (.lst xs))) ∨
  ∃ (o : Obj) (its : Array Value) (n : Nat), K.lookup a = some o ∧ o.cls = .type "list" ∧ o.dict = none ∧ o.data = .seq its n ∧ its.size ≤ sizeLine ∧ Vals xs its.toList
theorem KL.sq {K : PySem.W.Frag} {H : Hp} {a : Addr} {xs : List V} (h : KL K H a xs) : SqL K H a xs := h.imp .inr id
section
variable (K : PySem.W.Frag)
mutual
def RD (S : Sto) (H : Hp) : D → V → Prop
  | .non, v => v = .non
  | .bl b, v => v = .bl b
  | .int i, v => v = .int i
  | .str x, v => v = .str x
  | .ref a, v => v = .ref a
  | .tpx ds, v => ∃ a o vs, v = .ref a ∧ H a = some (.frz o (.tup vs)) ∧ o.dict = none ∧ RDs S H ds vs
  | .tup ds, v => ∃ a vs, v = .ref a ∧ SqT K H a vs ∧ RDs S H ds vs
  | .lst ds, v => ∃ a vs, v = .ref a ∧ S a = none ∧ H a = some (.lst vs) ∧ RDs S H ds vs
  | .fz ds, v => ∃ a vs, v = .ref a ∧ KL K H a vs ∧ RDs S H ds vs
def RDs (S : Sto) (H : Hp) : List D → List V → Prop
  | [], vs => vs = []
  | d :: ds, vs => ∃ v r, vs = v :: r ∧ RD S H d v ∧ RDs S H ds r
end
/-- the tuples, the lists that are not tracked are as they were -/
structure Tp (S : Sto) (H : Hp) (S' : Sto) (H' : Hp) : Prop where
  tup : ∀ a xs, H a = some (.tup xs) → H' a = some (.tup xs)
  frz : ∀ a o u, H a = some (.frz o u) → H' a = some (.frz o u)
  old : ∀ a o, S a = none → H a = some o → S' a = none ∧ H' a = some o
variable {K}
variable {S S' S1 S2 : Sto} {H H' H1 H2 : Hp}
theorem Tp.refl : Tp S H S H := ⟨fun _ _ h => h, fun _ _ _ h => h, fun _ _ a b => ⟨a, b⟩⟩
theorem Tp.trans (a : Tp S H S1 H1) (b : Tp S1 H1 S2 H2) : Tp S H S2 H2 :=
  ⟨fun x y h => b.tup x y (a.tup x y h), fun x y z h => b.frz x y z (a.frz x y z h), fun x o h1 h2 => let ⟨e1, e2⟩ := a.old x o h1 h2; b.old x o e1 e2⟩
theorem Tp.sqt {a : Addr} {xs : List V} (e : Tp S H S' H') (h : SqT K H a xs) : SqT K H' a xs := by
  rcases h with (h | ⟨o, h⟩) | h
  · exact .inl (.inl (e.tup _ _ h))
  · exact .inl (.inr ⟨o, e.frz _ _ _ h⟩)
  · exact .inr h
mutual
theorem RD.tp (e : Tp S H S' H') : ∀ {d : D} {v : V}, RD K S H d v → RD K S' H' d v
  | .non, _, h => by simpa only [RD] using h
  | .bl _, _, h => by simpa only [RD] using h
  | .int _, _, h => by simpa only [RD] using h
  | .str _, _, h => by simpa only [RD] using h
  | .ref _, _, h => by simpa only [RD] using h
  | .tpx ds, v, h => by
    rw [RD] at h ⊢
    obtain ⟨a, o, vs, h1, h2, h4, h3⟩ := h
    exact ⟨a, o, vs, h1, e.frz _ _ _ h2, h4, RDs.tp e h3⟩
  | .tup ds, v, h => by
    rw [RD] at h ⊢
    obtain ⟨a, vs, h1, h2, h3⟩ := h
    exact ⟨a, vs, h1, e.sqt h2, RDs.tp e h3⟩
  | .lst ds, v, h => by
    rw [RD] at h ⊢
    obtain ⟨a, vs, h1, h0, h2, h3⟩ := h
    obtain ⟨e1, e2⟩ := e.old _ _ h0 h2
    exact ⟨a, vs, h1, e1, e2, RDs.tp e h3⟩
  | .fz ds, v, h => by
    rw [RD] at h ⊢
    obtain ⟨a, vs, h1, h2, h3⟩ := h
    exact ⟨a, vs, h1, h2.imp (fun ⟨o, q⟩ => ⟨o, e.frz _ _ _ q⟩) id, RDs.tp e h3⟩
theorem RDs.tp (e : Tp S H S' H') : ∀ {ds : List D} {vs : List V}, RDs K S H ds vs → RDs K S' H' ds vs
  | [], _, h => by simpa only [RDs] using h
  | d :: ds, vs, h => by
    rw [RDs] at h ⊢
    obtain ⟨v, r, h1, h2, h3⟩ := h
    exact ⟨v, r, h1, RD.tp e h2, RDs.tp e h3⟩
end
theorem RDs.nil {vs : List V} : RDs K S H [] vs ↔ vs = [] := by rw [RDs]
theorem RDs.cons {d : D} {ds : List D} {v : V} {vs : List V} (h : RD K S H d v) (t : RDs K S H ds vs) : RDs K S H (d :: ds) (v :: vs) := by
  rw [RDs]; exact ⟨v, vs, rfl, h, t⟩
theorem RDs.one {d : D} {vs : List V} (h : RDs K S H [d] vs) : ∃ v, vs = [v] ∧ RD K S H d v := by
  rw [RDs] at h
  obtain ⟨v, r, rfl, h1, h2⟩ := h
  rw [RDs] at h2
  subst h2
  exact ⟨v, rfl, h1⟩
theorem RDs.two {d e : D} {vs : List V} (h : RDs K S H [d, e] vs) : ∃ v w, vs = [v, w] ∧ RD K S H d v ∧ RD K S H e w := by
  rw [RDs] at h
  obtain ⟨v, r, rfl, h1, h2⟩ := h
  obtain ⟨w, rfl, h3⟩ := h2.one
  exact ⟨v, w, rfl, h1, h3⟩
theorem RDs.len : ∀ {ds : List D} {vs : List V}, RDs K S H ds vs → vs.length = ds.length
  | [], _, h => by rw [RDs] at h; subst h; rfl
  | d :: ds, vs, h => by
    rw [RDs] at h
    obtain ⟨v, r, rfl, _, h3⟩ := h
    rw [List.length_cons, List.length_cons, RDs.len h3]
theorem RDs.get : ∀ {ds : List D} {vs : List V} {i : Nat} {d : D}, RDs K S H ds vs → ds[i]? = some d → ∃ v, vs[i]? = some v ∧ RD K S H d v
  | [], _, i, d, _, e => by simp at e
  | x :: ds, vs, i, d, h, e => by
    rw [RDs] at h
    obtain ⟨v, r, rfl, h2, h3⟩ := h
    cases i with
    | zero => simp at e; subst e; exact ⟨v, rfl, h2⟩
    | succ i =>
      obtain ⟨w, e1, e2⟩ := RDs.get h3 (i := i) (d := d) (by simpa using e)
      exact ⟨w, by simpa using e1, e2⟩
theorem RDs.getV : ∀ {ds : List D} {vs : List V} {i : Nat} {v : V}, RDs K S H ds vs → vs[i]? = some v → ∃ d, ds[i]? = some d ∧ RD K S H d v
  | [], vs, i, v, h, e => by rw [RDs] at h; subst h; simp at e
  | x :: ds, vs, i, v, h, e => by
    rw [RDs] at h
    obtain ⟨w, r, rfl, h2, h3⟩ := h
    cases i with
    | zero => simp at e; subst e; exact ⟨x, rfl, h2⟩
    | succ i =>
      obtain ⟨d, e1, e2⟩ := RDs.getV h3 (i := i) (v := v) (by simpa using e)
      exact ⟨d, by simpa using e1, e2⟩
theorem RDs.append : ∀ {ds es : List D} {vs ws : List V}, RDs K S H ds vs → RDs K S H es ws → RDs K S H (ds ++ es) (vs ++ ws)
  | [], _, _, _, h, t => by rw [RDs] at h; subst h; exact t
  | d :: ds, es, vs, ws, h, t => by
    rw [RDs] at h
    obtain ⟨v, r, rfl, h2, h3⟩ := h
    exact RDs.cons h2 (RDs.append h3 t)
theorem RDs.snoc {ds : List D} {vs : List V} {d : D} {v : V} (h : RDs K S H ds vs) (t : RD K S H d v) : RDs K S H (ds ++ [d]) (vs ++ [v]) := h.append (RDs.cons t (RDs.nil.mpr rfl))
theorem RDs.take : ∀ {ds : List D} {vs : List V} (n : Nat), RDs K S H ds vs → RDs K S H (ds.take n) (vs.take n)
  | _, _, 0, _ => by simp [RDs]
  | [], vs, _ + 1, h => by rw [RDs] at h; subst h; simp [RDs]
  | d :: ds, vs, n + 1, h => by
    rw [RDs] at h
    obtain ⟨v, r, rfl, h2, h3⟩ := h
    exact RDs.cons h2 (RDs.take n h3)
theorem RDs.drop : ∀ {ds : List D} {vs : List V} (n : Nat), RDs K S H ds vs → RDs K S H (ds.drop n) (vs.drop n)
  | _, _, 0, h => h
  | [], vs, _ + 1, h => by rw [RDs] at h; subst h; simp [RDs]
  | d :: ds, vs, n + 1, h => by
    rw [RDs] at h
    obtain ⟨v, r, rfl, h2, h3⟩ := h
    exact RDs.drop n h3
theorem RDs.set : ∀ {ds : List D} {vs : List V} {d : D} {v : V} (n : Nat), RDs K S H ds vs → RD K S H d v → RDs K S H (ds.set n d) (vs.set n v)
  | [], vs, _, _, _, h, _ => by rw [RDs] at h; subst h; simp [RDs]
  | x :: ds, vs, d, v, 0, h, t => by
    rw [RDs] at h
    obtain ⟨w, r, rfl, h2, h3⟩ := h
    exact RDs.cons t h3
  | x :: ds, vs, d, v, n + 1, h, t => by
    rw [RDs] at h
    obtain ⟨w, r, rfl, h2, h3⟩ := h
    exact RDs.cons h2 (RDs.set n h3 t)
theorem RDs.reverse : ∀ {ds : List D} {vs : List V}, RDs K S H ds vs → RDs K S H ds.reverse vs.reverse
  | [], _, h => by rw [RDs] at h; subst h; simp [RDs]
  | d :: ds, vs, h => by
    rw [RDs] at h
    obtain ⟨v, r, rfl, h2, h3⟩ := h
    rw [List.reverse_cons, List.reverse_cons]
    exact (RDs.reverse h3).snoc h2
theorem RDs.erase : ∀ {ds : List D} {vs : List V} (n : Nat), RDs K S H ds vs → RDs K S H (ds.eraseIdx n) (vs.eraseIdx n)
  | [], vs, _, h => by rw [RDs] at h; subst h; simp [RDs]
  | d :: ds, vs, 0, h => by
    rw [RDs] at h
    obtain ⟨v, r, rfl, h2, h3⟩ := h
    exact h3
  | d :: ds, vs, n + 1, h => by
    rw [RDs] at h
    obtain ⟨v, r, rfl, h2, h3⟩ := h
    exact RDs.cons h2 (RDs.erase n h3)
theorem RDs.rep {ds : List D} {vs : List V} (h : RDs K S H ds vs) : ∀ k : Nat, RDs K S H (List.replicate k ds).flatten (List.replicate k vs).flatten
  | 0 => by simp [RDs]
  | k + 1 => by
    rw [List.replicate_succ, List.replicate_succ, List.flatten_cons, List.flatten_cons]
    exact h.append (RDs.rep h k)

/-- a tracked object -/
def RM (K : PySem.W.Frag) (S : Sto) (H : Hp) (p : Addr) : MO → Prop
  | .lst ds => ∃ vs, H p = some (.lst vs) ∧ RDs K S H ds vs
  | .dK kvs => ∃ ws, H p = some (.dK ws) ∧ ws.map (·.1) = kvs.map (·.1) ∧ RDs K S H (kvs.map (·.2)) (ws.map (·.2))
  | .dT kvs => ∃ ws, H p = some (.dT ws) ∧ ws.map (·.1) = kvs.map (·.1) ∧ RDs K S H (kvs.map (·.2)) (ws.map (·.2))
def RS (K : PySem.W.Frag) (S : Sto) (H : Hp) : Prop := ∀ p mo, S p = some mo → RM K S H p mo
theorem RM.mv {p : Addr} {mo : MO} (e : Tp S H S' H') (k : ∀ o, H p = some o → H' p = some o) (h : RM K S H p mo) : RM K S' H' p mo := by
  cases mo with
  | lst ds => obtain ⟨vs, h1, h2⟩ := h; exact ⟨vs, k _ h1, h2.tp e⟩
  | dK kvs => obtain ⟨ws, h1, h2, h3⟩ := h; exact ⟨ws, k _ h1, h2, h3.tp e⟩
  | dT kvs => obtain ⟨ws, h1, h2, h3⟩ := h; exact ⟨ws, k _ h1, h2, h3.tp e⟩
theorem RM.mut {p : Addr} {mo : MO} (h : RM K S H p mo) : ∃ o, H p = some o ∧ (∀ xs, o ≠ .tup xs) ∧ ∀ ob u, o ≠ .frz ob u := by
  cases mo with
  | lst ds => obtain ⟨vs, h1, h2⟩ := h; exact ⟨_, h1, fun _ => nofun, fun _ _ => nofun⟩
  | dK kvs => obtain ⟨ws, h1, h2, h3⟩ := h; exact ⟨_, h1, fun _ => nofun, fun _ _ => nofun⟩
  | dT kvs => obtain ⟨ws, h1, h2, h3⟩ := h; exact ⟨_, h1, fun _ => nofun, fun _ _ => nofun⟩

/-- one stretch of the run -/
structure Go (K : PySem.W.Frag) (S : Sto) (H : Hp) (S' : Sto) (H' : Hp) : Prop where
  tp : Tp S H S' H'
  rs : RS K S' H'
theorem Go.refl (r : RS K S H) : Go K S H S H := ⟨Tp.refl, r⟩
theorem Go.trans (a : Go K S H S1 H1) (b : Go K S1 H1 S2 H2) : Go K S H S2 H2 := ⟨a.tp.trans b.tp, b.rs⟩
theorem RS.free {p : Addr} (r : RS K S H) (h : H p = none) : S p = none := by
  cases e : S p with
  | none => rfl
  | some mo => obtain ⟨o, h1, _⟩ := (r p mo e).mut; rw [h] at h1; cases h1
/-- a new object that the store does not know -/
theorem Go.fresh {p : Addr} {o : HO} (r : RS K S H) (h : H p = none) : Go K S H S (upd H p o) := by
  have tp : Tp S H S (upd H p o) := ⟨fun a xs e => by rw [upd_ne (ne_of_none e h)]; exact e, fun a ob u e => by rw [upd_ne (ne_of_none e h)]; exact e, fun a ob e1 e2 => ⟨e1, by rw [upd_ne (ne_of_none e2 h)]; exact e2⟩⟩
  exact ⟨tp, fun a mo e => (r a mo e).mv tp fun ob eb => by rw [upd_ne (ne_of_none eb h)]; exact eb⟩
/-- a new tracked object -/
theorem Go.made {p : Addr} {o : HO} {mo : MO} (r : RS K S H) (h : H p = none) (hm : ∀ S' H', Tp S H S' H' → H' p = some o → RM K S' H' p mo) : Go K S H (S.up p mo) (upd H p o) := by
  have tp : Tp S H (S.up p mo) (upd H p o) := ⟨fun a xs e => by rw [upd_ne (ne_of_none e h)]; exact e, fun a ob u e => by rw [upd_ne (ne_of_none e h)]; exact e,
    fun a ob e1 e2 => ⟨by rw [Sto.up_ne (ne_of_none e2 h)]; exact e1, by rw [upd_ne (ne_of_none e2 h)]; exact e2⟩⟩
  refine ⟨tp, fun a m e => ?_⟩
  by_cases ha : a = p
  · subst ha; rw [Sto.up_same] at e; cases e; exact hm _ _ tp upd_same
  · rw [Sto.up_ne ha] at e
    exact (r a m e).mv tp fun ob eb => by rw [upd_ne ha]; exact eb
/-- a tracked object changes -/
theorem Go.wrote {p : Addr} {o : HO} {mo mo' : MO} (r : RS K S H) (h : S p = some mo) (hm : ∀ S' H', Tp S H S' H' → H' p = some o → RM K S' H' p mo') : Go K S H (S.up p mo') (upd H p o) := by
  obtain ⟨ob, h1, h2, h3⟩ := (r p mo h).mut
  have tp : Tp S H (S.up p mo') (upd H p o) := ⟨fun a xs e => by
      rw [upd_ne]; exact e
      intro z; subst z; rw [h1] at e; cases e; exact h2 xs rfl, fun a oo u e => by
      rw [upd_ne]; exact e
      intro z; subst z; rw [h1] at e; cases e; exact h3 oo u rfl, fun a oa e1 e2 => by
      have ne : a ≠ p := fun z => by subst z; rw [h] at e1; cases e1
      rw [Sto.up_ne ne, upd_ne ne]; exact ⟨e1, e2⟩⟩
  refine ⟨tp, fun a m e => ?_⟩
  by_cases ha : a = p
  · subst ha; rw [Sto.up_same] at e; cases e; exact hm _ _ tp upd_same
  · rw [Sto.up_ne ha] at e
    exact (r a m e).mv tp fun ob eb => by rw [upd_ne ha]; exact eb
end

/-! ### environments -/
def RE (K : PySem.W.Frag) (S : Sto) (H : Hp) (ρ : DEnv) (σ : L2.St) : Prop := ρ.length = σ.length ∧ ∀ (i : Nat) (d : D), ρ[i]? = some (some d) → ∃ v, σ[i]? = some (some v) ∧ RD K S H d v
def wipeD (ρ : DEnv) : List Nat → DEnv
  | [] => ρ
  | v :: vs => (wipeD ρ vs).set v none
def startD (N : List Str) (ds : List D) : DEnv := ds.map some ++ List.replicate (N.length - ds.length) none
section
variable {K : PySem.W.Frag} {S S' : Sto} {H H' : Hp} {ρ : DEnv} {σ : L2.St}
theorem RE.tp (e : Tp S H S' H') (h : RE K S H ρ σ) : RE K S' H' ρ σ := ⟨h.1, fun i d x => let ⟨v, a, b⟩ := h.2 i d x; ⟨v, a, b.tp e⟩⟩
theorem RE.set {d : D} {v : V} (h : RE K S H ρ σ) (i : Nat) (r : RD K S H d v) : RE K S H (ρ.set i (some d)) (σ.set i (some v)) := by
  refine ⟨by simpa using h.1, fun j e x => ?_⟩
  by_cases hj : i = j
  · subst hj
    by_cases hl : i < ρ.length
    · rw [List.getElem?_set_self hl] at x
      cases x
      exact ⟨v, by rw [List.getElem?_set_self (by rw [← h.1]; exact hl)], r⟩
    · rw [List.getElem?_eq_none (by simpa using hl)] at x; cases x
  · rw [List.getElem?_set_ne hj] at x ⊢
    exact h.2 j e x
theorem RE.unset (h : RE K S H ρ σ) (i : Nat) (o : Option V) : RE K S H (ρ.set i none) (σ.set i o) := by
  refine ⟨by simpa using h.1, fun j e x => ?_⟩
  by_cases hj : i = j
  · subst hj
    by_cases hl : i < ρ.length
    · rw [List.getElem?_set_self hl] at x; cases x
    · rw [List.getElem?_eq_none (by simpa using hl)] at x; cases x
  · rw [List.getElem?_set_ne hj] at x ⊢
    exact h.2 j e x
theorem RE.wipe (h : RE K S H ρ σ) : ∀ vs : List Nat, RE K S H (wipeD ρ vs) (wipe σ vs)
  | [] => h
  | v :: vs => by unfold wipeD L2.wipe; exact (RE.wipe h vs).unset v none
theorem RE.start {N : List Str} {ds : List D} {vs : List V} (h : RDs K S H ds vs) : RE K S H (startD N ds) (start N vs) := by
  have hl := h.len
  refine ⟨by simp [startD, L2.start, hl], fun i d x => ?_⟩
  unfold startD at x
  unfold L2.start
  by_cases hi : i < ds.length
  · rw [List.getElem?_append_left (by simpa using hi), List.getElem?_map] at x
    cases e : ds[i]? with
    | none => rw [e] at x; cases x
    | some y =>
      rw [e] at x
      have : y = d := by simpa using x
      subst this
      obtain ⟨v, e1, e2⟩ := h.get e
      refine ⟨v, ?_, e2⟩
      rw [List.getElem?_append_left (by simpa [hl] using hi), List.getElem?_map, e1]; rfl
  · rw [List.getElem?_append_right (by simpa using hi), List.getElem?_replicate] at x
    split at x <;> cases x
end

/-! ### lifts -/
abbrev QD := D → Sto → Prop
abbrev TED := DEnv → Sto → QD → Prop
abbrev TTD := DEnv → Sto → (Bool → Sto → Prop) → Prop
abbrev TAD := DEnv → Sto → (List D → Sto → Prop) → Prop
structure EndsD where
  nx : DEnv → Sto → Prop
  rt : QD
  bk : DEnv → Sto → Prop := fun _ _ => False
  ct : DEnv → Sto → Prop := fun _ _ => False
abbrev TSD := EndsD → DEnv → Sto → Prop
section
variable (K : PySem.W.Frag)
/-- what is wanted behind, in V's words -/
def Aft (S : Sto) (H : Hp) (Qd : QD) (Q : VK) : Prop := ∀ d S' v H', Qd d S' → Go K S H S' H' → RD K S' H' d v → Q v H'
def AftL (S : Sto) (H : Hp) (Qd : List D → Sto → Prop) (Q : List V → Hp → Prop) : Prop := ∀ ds S' vs H', Qd ds S' → Go K S H S' H' → RDs K S' H' ds vs → Q vs H'
def LE (δ : TED) : TE := fun σ H Q => ∃ ρ S Qd, RE K S H ρ σ ∧ RS K S H ∧ δ ρ S Qd ∧ Aft K S H Qd Q
def LT (δ : TTD) : TT := fun σ H Q => ∃ ρ S Qd, RE K S H ρ σ ∧ RS K S H ∧ δ ρ S Qd ∧ ∀ b S' H', Qd b S' → Go K S H S' H' → Q b H'
def LA (δ : TAD) : TA := fun σ H Q => ∃ ρ S Qd, RE K S H ρ σ ∧ RS K S H ∧ δ ρ S Qd ∧ AftL K S H Qd Q
structure EndsOk (S : Sto) (H : Hp) (De : EndsD) (E : Ends) : Prop where
  nx : ∀ ρ' S' σ' H', De.nx ρ' S' → Go K S H S' H' → RE K S' H' ρ' σ' → E.nx σ' H'
  rt : ∀ d S' v H', De.rt d S' → Go K S H S' H' → RD K S' H' d v → E.rt v H'
  bk : ∀ ρ' S' σ' H', De.bk ρ' S' → Go K S H S' H' → RE K S' H' ρ' σ' → E.bk σ' H'
  ct : ∀ ρ' S' σ' H', De.ct ρ' S' → Go K S H S' H' → RE K S' H' ρ' σ' → E.ct σ' H'
def LS (τ : TSD) : TS := fun E σ H => ∃ ρ S De, RE K S H ρ σ ∧ RS K S H ∧ τ De ρ S ∧ EndsOk K S H De E
variable {K}
variable {S S' : Sto} {H H' : Hp}
theorem EndsOk.go {De : EndsD} {E : Ends} (h : EndsOk K S H De E) (g : Go K S H S' H') : EndsOk K S' H' De E :=
  ⟨fun a b c d x y z => h.nx a b c d x (g.trans y) z, fun a b c d x y z => h.rt a b c d x (g.trans y) z, fun a b c d x y z => h.bk a b c d x (g.trans y) z, fun a b c d x y z => h.ct a b c d x (g.trans y) z⟩
theorem Aft.go {Qd : QD} {Q : VK} (h : Aft K S H Qd Q) (g : Go K S H S' H') : Aft K S' H' Qd Q := fun a b c d x y z => h a b c d x (g.trans y) z
theorem AftL.go {Qd : List D → Sto → Prop} {Q : List V → Hp → Prop} (h : AftL K S H Qd Q) (g : Go K S H S' H') : AftL K S' H' Qd Q := fun a b c d x y z => h a b c d x (g.trans y) z
end
abbrev DE (X : Cx) (e : Expr) (δ : TED) : Prop := PE X e (LE X.K δ)
abbrev DT (X : Cx) (e : Expr) (δ : TTD) : Prop := PT X e (LT X.K δ)
abbrev DW (X : Cx) (e : Expr) (δ : TTD) : Prop := PW X e (LT X.K δ)
abbrev DA (X : Cx) (es : List Expr) (δ : TAD) : Prop := PA X es (LA X.K δ)
abbrev DS (X : Cx) (st : Stmt) (τ : TSD) : Prop := PS X st (LS X.K τ)
abbrev DSs (X : Cx) (st : List Stmt) (τ : TSD) : Prop := PSs X st (LS X.K τ)
section
variable {X : Cx}
theorem peW {e : Expr} {t t' : TE} (h : PE X e t) (w : ∀ σ H Q, t' σ H Q → t σ H Q) : PE X e t' := ⟨fun pins s σ H Q I q => h.run pins s σ H Q I (w σ H Q q)⟩
theorem ptW {e : Expr} {t t' : TT} (h : PT X e t) (w : ∀ σ H Q, t' σ H Q → t σ H Q) : PT X e t' := ⟨fun pins s σ H Q I q => h.run pins s σ H Q I (w σ H Q q)⟩
theorem pwW {e : Expr} {t t' : TT} (h : PW X e t) (w : ∀ σ H Q, t' σ H Q → t σ H Q) : PW X e t' := ⟨fun wh pins s σ H Q I q => h.run wh pins s σ H Q I (w σ H Q q)⟩
theorem paW {e : List Expr} {t t' : TA} (h : PA X e t) (w : ∀ σ H Q, t' σ H Q → t σ H Q) : PA X e t' := ⟨fun pos pins s σ H Q I q => h.run pos pins s σ H Q I (w σ H Q q)⟩
theorem psW {e : Stmt} {t t' : TS} (h : PS X e t) (w : ∀ D σ H, t' D σ H → t D σ H) : PS X e t' := ⟨fun pins s σ H D I q => h.run pins s σ H D I (w D σ H q)⟩
theorem pssW {e : List Stmt} {t t' : TS} (h : PSs X e t) (w : ∀ D σ H, t' D σ H → t D σ H) : PSs X e t' := ⟨fun pins s σ H D I q => h.run pins s σ H D I (w D σ H q)⟩
end
end PL
namespace PL
open PySem PySem.Spec PyProof.Rows L2

/-! ### lists: read, made -/
/-- the items of a list: one that nobody changes, one that is tracked -/
def Sto.list (S : Sto) : D → Option (List D)
  | .lst ds => some ds
  | .ref p => match S p with
    | some (.lst ds) => some ds
    | _ => none
  | _ => none
/-- of a list, a tuple -/
def Sto.seq (S : Sto) : D → Option (List D)
  | .tup ds => some ds
  | .tpx ds => some ds
  | .fz ds => some ds
  | .lst ds => some ds
  | .ref p => match S p with
    | some (.lst ds) => some ds
    | _ => none
  | _ => none
/-- a new list: tracked (r), or one that nobody will change -/
def newL (r : Bool) (ds : List D) (S : Sto) (Q : QD) : Prop := match r with
  | true => ∀ p, S p = none → Q (.ref p) (S.up p (.lst ds))
  | false => Q (.lst ds) S
section
variable {K : PySem.W.Frag} {S S' : Sto} {H H' : Hp} {d : D} {ds : List D} {v : V} {vs : List V}
theorem list_at (h : S.list d = some ds) (rd : RD K S H d v) (rs : RS K S H) : ∃ a vs, v = .ref a ∧ H a = some (.lst vs) ∧ RDs K S H ds vs := by
  cases d with
  | lst es =>
    have e : es = ds := Option.some.inj h
    subst e
    rw [RD] at rd
    obtain ⟨a, vs, h1, _, h2, h3⟩ := rd
    exact ⟨a, vs, h1, h2, h3⟩
  | ref p =>
    rw [RD] at rd
    have h' : (match S p with
      | some (.lst ds) => some ds
      | _ => none) = some ds := h
    split at h'
    · rename_i es he
      have e : es = ds := Option.some.inj h'
      subst e
      obtain ⟨vs, h1, h2⟩ := rs p _ he
      exact ⟨p, vs, rd, h1, h2⟩
    · cases h'
  | _ => cases h
theorem seq_at (h : S.seq d = some ds) (rd : RD K S H d v) (rs : RS K S H) : ∃ a vs, v = .ref a ∧ (SqL K H a vs ∨ SqT K H a vs) ∧ RDs K S H ds vs := by
  cases d with
  | tup es =>
    have e : es = ds := Option.some.inj h
    subst e
    rw [RD] at rd
    obtain ⟨a, vs, h1, h2, h3⟩ := rd
    exact ⟨a, vs, h1, .inr h2, h3⟩
  | tpx es =>
    have e : es = ds := Option.some.inj h
    subst e
    rw [RD] at rd
    obtain ⟨a, o, vs, h1, h2, _, h3⟩ := rd
    exact ⟨a, vs, h1, .inr (.inl (.inr ⟨o, h2⟩)), h3⟩
  | fz es =>
    have e : es = ds := Option.some.inj h
    subst e
    rw [RD] at rd
    obtain ⟨a, vs, h1, h2, h3⟩ := rd
    exact ⟨a, vs, h1, .inl h2.sq, h3⟩
  | lst es =>
    obtain ⟨a, vs, h1, h2, h3⟩ := list_at (d := .lst es) (ds := ds) h rd rs
    exact ⟨a, vs, h1, .inl (.of h2), h3⟩
  | ref p =>
    obtain ⟨a, vs, h1, h2, h3⟩ := list_at (d := .ref p) (ds := ds) h rd rs
    exact ⟨a, vs, h1, .inl (.of h2), h3⟩
  | _ => cases h
theorem Aft.here {Qd : QD} {Q : VK} (k : Aft K S H Qd Q) (rs : RS K S H) (q : Qd d S) (r : RD K S H d v) : Q v H := k _ _ _ _ q (.refl rs) r
theorem newL_ok {r : Bool} {Qd : QD} {Q : VK} (rs : RS K S H) (rd : RDs K S H ds vs) (n : newL r ds S Qd) (k : Aft K S H Qd Q) (p : Addr) (hp : H p = none) : Q (.ref p) (upd H p (.lst vs)) := by
  cases r with
  | true =>
    have g : Go K S H (S.up p (.lst ds)) (upd H p (.lst vs)) := Go.made rs hp fun S' H' tp e => ⟨vs, e, rd.tp tp⟩
    exact k _ _ _ _ (n p (rs.free hp)) g (by rw [RD])
  | false =>
    have g : Go K S H S (upd H p (.lst vs)) := Go.fresh rs hp
    refine k _ _ _ _ n g ?_
    rw [RD]
    exact ⟨p, vs, rfl, rs.free hp, upd_same, rd.tp g.tp⟩
theorem newT_ok {Qd : QD} {Q : VK} (rs : RS K S H) (rd : RDs K S H ds vs) (n : Qd (.tup ds) S) (k : Aft K S H Qd Q) (p : Addr) (hp : H p = none) : Q (.ref p) (upd H p (.tup vs)) := by
  have g : Go K S H S (upd H p (.tup vs)) := Go.fresh rs hp
  refine k _ _ _ _ n g ?_
  rw [RD]
  exact ⟨p, vs, rfl, .of upd_same, rd.tp g.tp⟩
end

/-! ### names, constants -/
section
variable {X : Cx} {e a b c : Expr} {es : List Expr} {pos : Pos} {δ δa δb δc : TED} {θ θ1 θ2 : TTD} {α : TAD}
def dVar (i : Nat) : TED := fun ρ S Q => match ρ[i]? with
  | some (some d) => Q d S
  | _ => False
theorem de_var {i : Nat} (h : PE X e (tVar i)) : DE X e (dVar i) := peW h fun σ H Q ⟨ρ, S, Qd, re, rs, q, k⟩ => by
  unfold dVar at q
  split at q
  · rename_i d hd
    obtain ⟨v, e1, e2⟩ := re.2 i d hd
    exact ⟨v, e1, k.here rs q e2⟩
  · exact q.elim
theorem dv (i : Nat) {x : Str} {pos : Pos} (hN : X.N[i]? = some x := by rfl) (hv : Vis X.env.scope x := by first | exact Or.inl rfl | exact Or.inr (Or.inl rfl) | exact Or.inr (Or.inr rfl)) (hd : (x == ("__debug__" : Str)) = false := by decide)
    (hcd : (x == ("__classdict__" : Str)) = false := by decide) : DE X (.Name x pos) (dVar i) := de_var (pe_var hN hv hd hcd)
def dC (d : D) : TED := fun _ S Q => Q d S
theorem de_c {d : D} {v : V} (h : PE X e (tC v)) (r : ∀ S H, RD X.K S H d v) : DE X e (dC d) := peW h fun σ H Q ⟨ρ, S, Qd, re, rs, q, k⟩ => k.here rs q (r S H)
theorem de_int {i j} : DE X (.Constant (.int i) j pos) (dC (.int i)) := de_c pe_int fun _ _ => by rw [RD]
theorem de_bl {b j} : DE X (.Constant (.bool b) j pos) (dC (.bl b)) := de_c pe_bl fun _ _ => by rw [RD]
theorem de_non {j} : DE X (.Constant .none j pos) (dC .non) := de_c pe_non fun _ _ => by rw [RD]
theorem de_str {x j} : DE X (.Constant (.str x) j pos) (dC (.str x)) := de_c pe_str fun _ _ => by rw [RD]
theorem de_gint {x : Str} {i : Int} (hm : ∃ t, X.mg x = some (.int i t)) (hg : Gl X x := by rfl) (hd : (x == ("__debug__" : Str)) = false := by decide) : DE X (.Name x pos) (dC (.int i)) := by
  obtain ⟨t, hm⟩ := hm
  exact de_c (pe_glob (v := .int i) hg hm ⟨t, rfl⟩ hd) fun _ _ => by rw [RD]
theorem de_gstr {x y : Str} (hm : ∃ t, X.mg x = some (.str y t)) (hg : Gl X x := by rfl) (hd : (x == ("__debug__" : Str)) = false := by decide) : DE X (.Name x pos) (dC (.str y)) := by
  obtain ⟨t, hm⟩ := hm
  exact de_c (pe_glob (v := .str y) hg hm ⟨t, rfl⟩ hd) fun _ _ => by rw [RD]

/-! ### operations by values -/
abbrev R2D := D → D → Sto → QD → Prop
def Lf2 (K : PySem.W.Frag) (o : R2D) : R2 := fun x y H Q => ∃ d e S Qd, RD K S H d x ∧ RD K S H e y ∧ RS K S H ∧ o d e S Qd ∧ Aft K S H Qd Q
abbrev OpD (X : Cx) (f : Value → Value → Sem Value) (o : R2D) : Prop := OpR X f (Lf2 X.K o)
theorem opW {f : Value → Value → Sem Value} {r r' : R2} (h : OpR X f r) (w : ∀ x y H Q, r' x y H Q → r x y H Q) : OpR X f r' := fun pins s σ H x y v u Q I rx ry q => h pins s σ H x y v u Q I rx ry (w _ _ _ _ q)
theorem opD_of {f : Value → Value → Sem Value} {r : R2} {o : R2D} (h : OpR X f r) (w : ∀ d e x y S H Qd Q, RD X.K S H d x → RD X.K S H e y → RS X.K S H → o d e S Qd → Aft X.K S H Qd Q → r x y H Q) : OpD X f o :=
  opW h fun x y H Q ⟨d, e, S, Qd, r1, r2, rs, q, k⟩ => w d e x y S H Qd Q r1 r2 rs q k
theorem opD_or {f : Value → Value → Sem Value} {o o' : R2D} (h : OpD X f o) (h' : OpD X f o') : OpD X f (fun d e S Q => o d e S Q ∨ o' d e S Q) :=
  opD_of (h.or h') fun d e x y S H Qd Q r1 r2 rs q k => q.imp (fun q => ⟨d, e, S, Qd, r1, r2, rs, q, k⟩) (fun q => ⟨d, e, S, Qd, r1, r2, rs, q, k⟩)
theorem opD_W {f : Value → Value → Sem Value} {o o' : R2D} (h : OpD X f o) (w : ∀ d e S Q, o' d e S Q → o d e S Q) : OpD X f o' :=
  opD_of h fun d e x y S H Qd Q r1 r2 rs q k => ⟨d, e, S, Qd, r1, r2, rs, w _ _ _ _ q, k⟩
def dOp (o : R2D) (δa δb : TED) : TED := fun ρ S Q => δa ρ S fun x S1 => δb ρ S1 fun y S2 => o x y S2 Q
theorem lift2 {o : R2D} {K : PySem.W.Frag} (σ : L2.St) (H : Hp) (Q : VK) (h : LE K (dOp o δa δb) σ H Q) : tOp (Lf2 K o) (LE K δa) (LE K δb) σ H Q := by
  obtain ⟨ρ, S, Qd, re, rs, q, k⟩ := h
  refine ⟨ρ, S, _, re, rs, q, fun x S1 v H1 q1 g1 r1 => ?_⟩
  refine ⟨ρ, S1, _, re.tp g1.tp, g1.rs, q1, fun y S2 w H2 q2 g2 r2 => ?_⟩
  exact ⟨x, y, S2, Qd, r1.tp g2.tp, r2, g2.rs, q2, k.go (g1.trans g2)⟩
theorem de_op {op : Operator} {o : R2D} (ho : OpD X (binaryOp op) o) (ha : DE X a δa) (hb : DE X b δb) : DE X (.BinOp a op b pos) (dOp o δa δb) := peW (pe_op ho ha hb) lift2
theorem de_cmp {op : CmpOp} {o : R2D} (ho : OpD X (compareOp op) o) (ha : DE X a δa) (hb : DE X b δb) (hm : behindInMarks op b = false) : DE X (.Compare a [op] [b] pos) (dOp o δa δb) := peW (pe_cmpR ho ha hb hm) lift2
/-- a bool, as a test -/
def dTest (δ : TED) : TTD := fun ρ S Q => δ ρ S fun x S1 => match x with
  | .bl b => Q b S1
  | _ => False
theorem liftT {K : PySem.W.Frag} (σ : L2.St) (H : Hp) (Q : Bool → Hp → Prop) (h : LT K (dTest δ) σ H Q) : LE K δ σ H (fun x H1 => ∃ k, x = .bl k ∧ Q k H1) := by
  obtain ⟨ρ, S, Qd, re, rs, q, k⟩ := h
  refine ⟨ρ, S, _, re, rs, q, fun x S1 v H1 q1 g1 r1 => ?_⟩
  try dsimp only at q1
  split at q1
  · rename_i b
    rw [RD] at r1
    exact ⟨b, r1, k _ _ _ q1 g1⟩
  · exact q1.elim
theorem dt_cmp {op : CmpOp} {o : R2D} (ho : OpD X (compareOp op) o) (ha : DE X a δa) (hb : DE X b δb) (hm : behindInMarks op b = false) : DT X (.Compare a [op] [b] pos) (dTest (dOp o δa δb)) :=
  ptW (pt_cmpR ho ha hb hm) fun σ H Q h => by
    have h2 := liftT σ H Q h
    exact lift2 σ H _ h2
theorem dt_val (h : DE X e δ) (he : ∀ whole, isTrue e X.env whole = (do let v ← whole; standAt e.pos; holding [v] (truthy v)) := by intro _; rfl) : DT X e (dTest δ) := ptW (pt_val h he) liftT
/-- a < b < c -/
def dChain (o o' : R2D) (δa δb δc : TED) : TED := fun ρ S Q => δa ρ S fun x S1 => δb ρ S1 fun y S2 => o x y S2 fun z S3 => match z with
  | .bl true => δc ρ S3 fun w S4 => o' y w S4 Q
  | .bl false => Q (.bl false) S3
  | _ => False
theorem liftC {o o' : R2D} {K : PySem.W.Frag} (σ : L2.St) (H : Hp) (Q : VK) (h : LE K (dChain o o' δa δb δc) σ H Q) : tChain (Lf2 K o) (Lf2 K o') (LE K δa) (LE K δb) (LE K δc) σ H Q := by
  obtain ⟨ρ, S, Qd, re, rs, q, k⟩ := h
  refine ⟨ρ, S, _, re, rs, q, fun x S1 v H1 q1 g1 r1 => ?_⟩
  refine ⟨ρ, S1, _, re.tp g1.tp, g1.rs, q1, fun y S2 w H2 q2 g2 r2 => ?_⟩
  refine ⟨x, y, S2, _, r1.tp g2.tp, r2, g2.rs, q2, fun z S3 u H3 q3 g3 r3 => ?_⟩
  try dsimp only at q3
  split at q3
  · rw [RD] at r3
    refine ⟨true, r3, ?_⟩
    rw [if_pos rfl]
    refine ⟨ρ, S3, _, (re.tp g1.tp).tp (g2.trans g3).tp, g3.rs, q3, fun w S4 u' H4 q4 g4 r4 => ?_⟩
    exact ⟨y, w, S4, Qd, (r2.tp g3.tp).tp g4.tp, r4, g4.rs, q4, k.go (((g1.trans g2).trans g3).trans g4)⟩
  · rw [RD] at r3
    refine ⟨false, r3, ?_⟩
    rw [if_neg Bool.false_ne_true]
    exact (k.go ((g1.trans g2).trans g3)).here g3.rs q3 (by rw [RD])
  · exact q3.elim
theorem de_chain {op op' : CmpOp} {o o' : R2D} (ho : OpD X (compareOp op) o) (ho' : OpD X (compareOp op') o') (ha : DE X a δa) (hb : DE X b δb) (hc : DE X c δc) (hm : lastMarks [op, op'] [b, c] = false := by with_unfolding_all rfl) : DE X (.Compare a [op, op'] [b, c] pos) (dChain o o' δa δb δc) := peW (pe_chain ho ho' ha hb hc hm) liftC
theorem dt_chain {op op' : CmpOp} {o o' : R2D} (ho : OpD X (compareOp op) o) (ho' : OpD X (compareOp op') o') (ha : DE X a δa) (hb : DE X b δb) (hc : DE X c δc) (hm : lastMarks [op, op'] [b, c] = false := by with_unfolding_all rfl) : DT X (.Compare a [op, op'] [b, c] pos) (dTest (dChain o o' δa δb δc)) :=
  ptW (pt_chain ho ho' ha hb hc hm) fun σ H Q h => by
    have h2 := liftT σ H Q h
    exact liftC σ H _ h2

/-! ### and, or, not, if -/
def dAnd (t u : TTD) : TTD := fun ρ S Q => t ρ S fun b S1 => match b with
  | true => u ρ S1 Q
  | false => Q false S1
def dOr (t u : TTD) : TTD := fun ρ S Q => t ρ S fun b S1 => match b with
  | true => Q true S1
  | false => u ρ S1 Q
def dNot (t : TTD) : TTD := fun ρ S Q => t ρ S fun b S1 => Q (!b) S1
variable {rest : List Expr}
theorem dw_and1 (ha : DT X a θ) : DW X (.BoolOp .And [a] pos) θ := pw_and1 ha
theorem dw_or1 (ha : DT X a θ) : DW X (.BoolOp .Or [a] pos) θ := pw_or1 ha
theorem dw_and (ha : DT X a θ1) (hb : DW X (.BoolOp .And (b :: rest) pos) θ2) : DW X (.BoolOp .And (a :: b :: rest) pos) (dAnd θ1 θ2) := pwW (pw_and ha hb) fun σ H Q h => by
  obtain ⟨ρ, S, Qd, re, rs, q, k⟩ := h
  refine ⟨ρ, S, _, re, rs, q, fun b S1 H1 q1 g1 => ?_⟩
  cases b with
  | true => exact ⟨ρ, S1, Qd, re.tp g1.tp, g1.rs, q1, fun b' S2 H2 q2 g2 => k _ _ _ q2 (g1.trans g2)⟩
  | false => exact k _ _ _ q1 g1
theorem dw_or (ha : DT X a θ1) (hb : DW X (.BoolOp .Or (b :: rest) pos) θ2) : DW X (.BoolOp .Or (a :: b :: rest) pos) (dOr θ1 θ2) := pwW (pw_or ha hb) fun σ H Q h => by
  obtain ⟨ρ, S, Qd, re, rs, q, k⟩ := h
  refine ⟨ρ, S, _, re, rs, q, fun b S1 H1 q1 g1 => ?_⟩
  cases b with
  | true => exact k _ _ _ q1 g1
  | false => exact ⟨ρ, S1, Qd, re.tp g1.tp, g1.rs, q1, fun b' S2 H2 q2 g2 => k _ _ _ q2 (g1.trans g2)⟩
theorem dt_w (h : DW X e θ) : DT X e θ := PW.pt h
theorem dt_not (ha : DT X a θ) : DT X (.UnaryOp .Not a pos) (dNot θ) := ptW (pt_not ha) fun σ H Q h => by
  obtain ⟨ρ, S, Qd, re, rs, q, k⟩ := h
  exact ⟨ρ, S, _, re, rs, q, fun b S1 H1 q1 g1 => k _ _ _ q1 g1⟩
/-- as values, all but the last one bools -/
def dAndV (δa δb : TED) : TED := fun ρ S Q => δa ρ S fun x S1 => match x with
  | .bl true => δb ρ S1 Q
  | .bl false => Q (.bl false) S1
  | _ => False
def dOrV (δa δb : TED) : TED := fun ρ S Q => δa ρ S fun x S1 => match x with
  | .bl true => Q (.bl true) S1
  | .bl false => δb ρ S1 Q
  | _ => False
def dNotV (δa : TED) : TED := fun ρ S Q => δa ρ S fun x S1 => match x with
  | .bl b => Q (.bl (!b)) S1
  | _ => False
theorem de_one {op} (h : DE X a δ) : DE X (.BoolOp op [a] pos) δ := pe_one h
theorem de_and (ha : DE X a δa) (hb : DE X (.BoolOp .And (b :: rest) pos) δb) : DE X (.BoolOp .And (a :: b :: rest) pos) (dAndV δa δb) := peW (pe_and ha hb) fun σ H Q h => by
  obtain ⟨ρ, S, Qd, re, rs, q, k⟩ := h
  refine ⟨ρ, S, _, re, rs, q, fun x S1 v H1 q1 g1 r1 => ?_⟩
  try dsimp only at q1
  split at q1
  · rw [RD] at r1
    refine ⟨true, r1, ?_⟩
    rw [if_pos rfl]
    exact ⟨ρ, S1, Qd, re.tp g1.tp, g1.rs, q1, k.go g1⟩
  · rw [RD] at r1
    refine ⟨false, r1, ?_⟩
    rw [if_neg Bool.false_ne_true]
    exact (k.go g1).here g1.rs q1 (by rw [RD])
  · exact q1.elim
theorem de_or (ha : DE X a δa) (hb : DE X (.BoolOp .Or (b :: rest) pos) δb) : DE X (.BoolOp .Or (a :: b :: rest) pos) (dOrV δa δb) := peW (pe_or ha hb) fun σ H Q h => by
  obtain ⟨ρ, S, Qd, re, rs, q, k⟩ := h
  refine ⟨ρ, S, _, re, rs, q, fun x S1 v H1 q1 g1 r1 => ?_⟩
  try dsimp only at q1
  split at q1
  · rw [RD] at r1
    refine ⟨true, r1, ?_⟩
    rw [if_pos rfl]
    exact (k.go g1).here g1.rs q1 (by rw [RD])
  · rw [RD] at r1
    refine ⟨false, r1, ?_⟩
    rw [if_neg Bool.false_ne_true]
    exact ⟨ρ, S1, Qd, re.tp g1.tp, g1.rs, q1, k.go g1⟩
  · exact q1.elim
theorem de_not (ha : DE X a δa) : DE X (.UnaryOp .Not a pos) (dNotV δa) := peW (pe_not ha) fun σ H Q h => by
  obtain ⟨ρ, S, Qd, re, rs, q, k⟩ := h
  refine ⟨ρ, S, _, re, rs, q, fun x S1 v H1 q1 g1 r1 => ?_⟩
  try dsimp only at q1
  split at q1
  · rw [RD] at r1
    exact ⟨_, r1, (k.go g1).here g1.rs q1 (by rw [RD])⟩
  · exact q1.elim
def dIf (t : TTD) (δa δb : TED) : TED := fun ρ S Q => t ρ S fun b S1 => match b with
  | true => δa ρ S1 Q
  | false => δb ρ S1 Q
theorem de_if (hc : DT X c θ) (ha : DE X a δa) (hb : DE X b δb) : DE X (.IfExp c a b pos) (dIf θ δa δb) := peW (pe_ifExp hc ha hb) fun σ H Q h => by
  obtain ⟨ρ, S, Qd, re, rs, q, k⟩ := h
  refine ⟨ρ, S, _, re, rs, q, fun b S1 H1 q1 g1 => ?_⟩
  cases b with
  | true => exact ⟨ρ, S1, Qd, re.tp g1.tp, g1.rs, q1, k.go g1⟩
  | false => exact ⟨ρ, S1, Qd, re.tp g1.tp, g1.rs, q1, k.go g1⟩

/-! ### arguments, displays -/
def dNil : TAD := fun _ S Q => Q [] S
def dCons (δ : TED) (α : TAD) : TAD := fun ρ S Q => δ ρ S fun x S1 => α ρ S1 fun xs S2 => Q (x :: xs) S2
theorem da_nil : DA X [] dNil := paW pa_nil fun σ H Q ⟨ρ, S, Qd, re, rs, q, k⟩ => k _ _ _ _ q (.refl rs) (RDs.nil.mpr rfl)
theorem da_cons (ha : DE X e δ) (hr : DA X es α) (hs : starEach (e :: es) X.env = (false, eval e X.env) :: starEach es X.env := by rfl) : DA X (e :: es) (dCons δ α) := paW (pa_cons ha hr hs) fun σ H Q h => by
  obtain ⟨ρ, S, Qd, re, rs, q, k⟩ := h
  refine ⟨ρ, S, _, re, rs, q, fun x S1 v H1 q1 g1 r1 => ?_⟩
  refine ⟨ρ, S1, _, re.tp g1.tp, g1.rs, q1, fun xs S2 vs H2 q2 g2 r2 => ?_⟩
  exact k _ _ _ _ q2 (g1.trans g2) (RDs.cons (r1.tp g2.tp) r2)
/-- *e among arguments, in a display -/
def dStar (δ : TED) (α : TAD) : TAD := fun ρ S Q => δ ρ S fun x S1 => ∃ ds, S1.seq x = some ds ∧ (α ρ S1 fun xs S2 => Q (ds ++ xs) S2)
def dTup (α : TAD) : TED := fun ρ S Q => α ρ S fun xs S1 => xs.length ≤ sizeLine ∧ Q (.tup xs) S1
def dLst (r : Bool) (α : TAD) : TED := fun ρ S Q => α ρ S fun xs S1 => xs.length ≤ sizeLine ∧ newL r xs S1 Q
theorem de_tup {x1} (h : DA X es α) : DE X (.Tuple es x1 pos) (dTup α) := peW (pe_tup h) fun σ H Q hh => by
  obtain ⟨ρ, S, Qd, re, rs, q, k⟩ := hh
  refine ⟨ρ, S, _, re, rs, q, fun xs S1 vs H1 q1 g1 r1 => ?_⟩
  obtain ⟨q1, q2⟩ := q1
  exact ⟨by rw [r1.len]; exact q1, fun p hp => newT_ok g1.rs r1 q2 (k.go g1) p hp⟩
theorem de_lst {r : Bool} (h : DA X es α) : DE X (.List es pos) (dLst r α) := peW (pe_lst h) fun σ H Q hh => by
  obtain ⟨ρ, S, Qd, re, rs, q, k⟩ := hh
  refine ⟨ρ, S, _, re, rs, q, fun xs S1 vs H1 q1 g1 r1 => ?_⟩
  obtain ⟨q1, q2⟩ := q1
  exact ⟨by rw [r1.len]; exact q1, fun p hp => newL_ok g1.rs r1 q2 (k.go g1) p hp⟩

/-! ### calls by values -/
abbrev RLD := List D → Sto → QD → Prop
def LfL (K : PySem.W.Frag) (o : RLD) : List V → Hp → VK → Prop := fun vs H Q => ∃ ds S Qd, RDs K S H ds vs ∧ RS K S H ∧ o ds S Qd ∧ Aft K S H Qd Q
abbrev CallD (X : Cx) (f : Value) (o : RLD) : Prop := CallR X f (LfL X.K o)
theorem callW {f : Value} {r r' : List V → Hp → VK → Prop} (h : CallR X f r) (w : ∀ vs H Q, r' vs H Q → r vs H Q) : CallR X f r' := fun pins s σ H vs us Q I rv q => h pins s σ H vs us Q I rv (w _ _ _ q)
theorem callD_of {f : Value} {r : List V → Hp → VK → Prop} {o : RLD} (h : CallR X f r) (w : ∀ ds vs S H Qd Q, RDs X.K S H ds vs → RS X.K S H → o ds S Qd → Aft X.K S H Qd Q → r vs H Q) : CallD X f o :=
  callW h fun vs H Q ⟨ds, S, Qd, r1, rs, q, k⟩ => w ds vs S H Qd Q r1 rs q k
theorem callD_or {f : Value} {o o' : RLD} (h : CallD X f o) (h' : CallD X f o') : CallD X f (fun ds S Q => o ds S Q ∨ o' ds S Q) :=
  callD_of (h.or h') fun ds vs S H Qd Q r1 rs q k => q.imp (fun q => ⟨ds, S, Qd, r1, rs, q, k⟩) (fun q => ⟨ds, S, Qd, r1, rs, q, k⟩)
theorem callD_W {f : Value} {o o' : RLD} (h : CallD X f o) (w : ∀ ds S Q, o' ds S Q → o ds S Q) : CallD X f o' :=
  callD_of h fun ds vs S H Qd Q r1 rs q k => ⟨ds, S, Qd, r1, rs, w _ _ _ q, k⟩
def dCB (o : RLD) (α : TAD) : TED := fun ρ S Q => α ρ S fun ds S1 => o ds S1 Q
theorem liftL {o : RLD} {K : PySem.W.Frag} (σ : L2.St) (H : Hp) (Q : VK) (h : LE K (dCB o α) σ H Q) : tCB (LfL K o) (LA K α) σ H Q := by
  obtain ⟨ρ, S, Qd, re, rs, q, k⟩ := h
  refine ⟨ρ, S, _, re, rs, q, fun xs S1 vs H1 q1 g1 r1 => ?_⟩
  exact ⟨xs, S1, Qd, r1, g1.rs, q1, k.go g1⟩
variable {x : Str} {p : Pos} {id T : String} {o : RLD}
theorem de_callB (hc : CallD X (.builtin id) o) (hm : X.mg x = none) (hv : bootBuiltins x = some (.builtin id)) (ha : DA X (e :: es) α) (hg : Gl X x := by rfl) (hn : x ≠ "__name__" := by decide) (hdb : (x == ("__debug__" : Str)) = false := by decide)
    (he : starEach (e :: es) X.env = (false, eval e X.env) :: starEach es X.env := by rfl) (hpl : (backTo pos (starEach es X.env)).any (·.1) = false := by rfl) : DE X (.Call (.Name x p) (e :: es) [] pos) (dCB o α) := peW (pe_callB hc hg hm hv ha hn hdb he hpl) liftL
theorem de_callTy (hc : CallD X (.type T) o) (hm : X.mg x = none) (hv : bootBuiltins x = some (.type T)) (ha : DA X (e :: es) α) (hg : Gl X x := by rfl) (hn : x ≠ "__name__" := by decide) (hdb : (x == ("__debug__" : Str)) = false := by decide)
    (he : starEach (e :: es) X.env = (false, eval e X.env) :: starEach es X.env := by rfl) (hpl : (backTo pos (starEach es X.env)).any (·.1) = false := by rfl) : DE X (.Call (.Name x p) (e :: es) [] pos) (dCB o α) := peW (pe_callTy hc hg hm hv ha hn hdb he hpl) liftL

/-! ### calls of the text's own defs -/
/-- a promise: arguments, store, what follows -/
abbrev DSp := List D → Sto → QD → Prop
def LSp (K : PySem.W.Frag) (sp : DSp) : Sp := fun vs H Q _ => ∃ ds S Qd, RDs K S H ds vs ∧ RS K S H ∧ sp ds S Qd ∧ Aft K S H Qd Q
def dCall (sp : DSp) (α : TAD) : TED := fun ρ S Q => α ρ S fun ds S1 => sp ds S1 Q
theorem liftCall {sp : DSp} {K : PySem.W.Frag} {E : XK} (σ : L2.St) (H : Hp) (Q : VK) (h : LE K (dCall sp α) σ H Q) : tCall (LSp K sp) [] E (LA K α) σ H Q := by
  obtain ⟨ρ, S, Qd, re, rs, q, k⟩ := h
  refine ⟨ρ, S, _, re, rs, q, fun xs S1 vs H1 q1 g1 r1 => ?_⟩
  show LSp K sp (vs ++ []) H1 Q E
  rw [List.append_nil]
  exact ⟨xs, S1, Qd, r1, g1.rs, q1, k.go g1⟩
variable {k : Nat} {f : Addr} {fd : FuncData} {ps : List Str} {sp : DSp} {CX : CXT} {E : XK}
theorem de_call (F : FnOk X.prog X.w X.K X.mg X.base CX k f fd ps (LSp X.K sp)) (hr : Room k X.A) (hm : X.mg x = some (.ref f)) (hk : PySem.W.keepIn X.K (.ref f) = true) (hb : Binds X.K fd ps []) (hx : Passes CX X E) (ha : DA X (e :: es) α)
    (hg : Gl X x := by rfl) (hdb : (x == ("__debug__" : Str)) = false := by decide) (he : starEach (e :: es) X.env = (false, eval e X.env) :: starEach es X.env := by rfl) (hpl : (backTo pos (starEach es X.env)).any (·.1) = false := by rfl) :
    DE X (.Call (.Name x p) (e :: es) [] pos) (dCall sp α) := peW (pe_call F hr hg hm hk hb .nil hx ha hdb he hpl) liftCall

/-! ### subscripts, slices, methods by values -/
abbrev IxD (X : Cx) (o : R2D) : Prop := IxR X (Lf2 X.K o)
theorem ixD_of {r : R2} {o : R2D} (h : IxR X r) (w : ∀ d e x y S H Qd Q, RD X.K S H d x → RD X.K S H e y → RS X.K S H → o d e S Qd → Aft X.K S H Qd Q → r x y H Q) : IxD X o :=
  fun va sl pins s σ H x y v u Q I rx ry ⟨d, e, S, Qd, r1, r2, rs, q, k⟩ => h va sl pins s σ H x y v u Q I rx ry (w d e x y S H Qd Q r1 r2 rs q k)
theorem ixD_or {o o' : R2D} (h : IxD X o) (h' : IxD X o') : IxD X (fun d e S Q => o d e S Q ∨ o' d e S Q) :=
  ixD_of (h.or h') fun d e x y S H Qd Q r1 r2 rs q k => q.imp (fun q => ⟨d, e, S, Qd, r1, r2, rs, q, k⟩) (fun q => ⟨d, e, S, Qd, r1, r2, rs, q, k⟩)
theorem ixD_W {o o' : R2D} (h : IxD X o) (w : ∀ d e S Q, o' d e S Q → o d e S Q) : IxD X o' :=
  ixD_of h fun d e x y S H Qd Q r1 r2 rs q k => ⟨d, e, S, Qd, r1, r2, rs, w _ _ _ _ q, k⟩
theorem de_ix {o : R2D} (hr : IxD X o) (ha : DE X a δa) (hb : DE X b δb) (hs : PlainIx b := by exact fun _ _ => rfl) : DE X (.Subscript a b pos) (dOp o δa δb) := peW (pe_ix hr ha hb hs) lift2
abbrev TOD := DEnv → Sto → (Option Int → Sto → Prop) → Prop
def LO (K : PySem.W.Frag) (δ : TOD) : TO := fun σ H Q => ∃ ρ S Qd, RE K S H ρ σ ∧ RS K S H ∧ δ ρ S Qd ∧ ∀ b S' H', Qd b S' → Go K S H S' H' → Q b H'
abbrev DO (X : Cx) (e : Option Expr) (δ : TOD) : Prop := PO X e (LO X.K δ)
def dNoPart : TOD := fun _ S Q => Q none S
def dPart (δ : TED) : TOD := fun ρ S Q => δ ρ S fun x S1 => match x with
  | .int i => Q (some i) S1
  | _ => False
theorem poW {e : Option Expr} {t t' : TO} (h : PO X e t) (w : ∀ σ H Q, t' σ H Q → t σ H Q) : PO X e t' := ⟨fun pins s σ H Q I q => h.run pins s σ H Q I (w σ H Q q)⟩
theorem do_none : DO X none dNoPart := poW po_none fun σ H Q ⟨ρ, S, Qd, re, rs, q, k⟩ => k _ _ _ q (.refl rs)
theorem do_some (h : DE X e δ) : DO X (some e) (dPart δ) := poW (po_some h) fun σ H Q hh => by
  obtain ⟨ρ, S, Qd, re, rs, q, k⟩ := hh
  refine ⟨ρ, S, _, re, rs, q, fun x S1 v H1 q1 g1 r1 => ?_⟩
  try dsimp only at q1
  split at q1
  · rw [RD] at r1
    exact ⟨_, r1, k _ _ _ q1 g1⟩
  · exact q1.elim
abbrev RSlD := D → Option Int → Option Int → Sto → QD → Prop
def LfSl (K : PySem.W.Frag) (o : RSlD) : V → Option Int → Option Int → Hp → VK → Prop := fun x lo hi H Q => ∃ d S Qd, RD K S H d x ∧ RS K S H ∧ o d lo hi S Qd ∧ Aft K S H Qd Q
abbrev SlD (X : Cx) (o : RSlD) : Prop := SlR X (LfSl X.K o)
theorem slD_of {r : V → Option Int → Option Int → Hp → VK → Prop} {o : RSlD} (h : SlR X r) (w : ∀ d x lo hi S H Qd Q, RD X.K S H d x → RS X.K S H → o d lo hi S Qd → Aft X.K S H Qd Q → r x lo hi H Q) : SlD X o :=
  fun pins s σ H x v vl vu lo hi sl Q I rx hs pl pu ⟨d, S, Qd, r1, rs, q, k⟩ => h pins s σ H x v vl vu lo hi sl Q I rx hs pl pu (w d x lo hi S H Qd Q r1 rs q k)
theorem slD_or {o o' : RSlD} (h : SlD X o) (h' : SlD X o') : SlD X (fun d lo hi S Q => o d lo hi S Q ∨ o' d lo hi S Q) :=
  slD_of (h.or h') fun d x lo hi S H Qd Q r1 rs q k => q.imp (fun q => ⟨d, S, Qd, r1, rs, q, k⟩) (fun q => ⟨d, S, Qd, r1, rs, q, k⟩)
theorem slD_W {o o' : RSlD} (h : SlD X o) (w : ∀ d lo hi S Q, o' d lo hi S Q → o d lo hi S Q) : SlD X o' :=
  slD_of h fun d x lo hi S H Qd Q r1 rs q k => ⟨d, S, Qd, r1, rs, w _ _ _ _ _ q, k⟩
def dSl (o : RSlD) (δ : TED) (l h : TOD) : TED := fun ρ S Q => δ ρ S fun x S1 => l ρ S1 fun lo S2 => h ρ S2 fun hi S3 => o x lo hi S3 Q
variable {ol oh : TOD} {lo hi : Option Expr} {p2 : Pos}
theorem de_slice {o : RSlD} (hr : SlD X o) (he : DE X e δ) (hl : DO X lo ol) (hu : DO X hi oh) : DE X (.Subscript e (.Slice lo hi none p2) pos) (dSl o δ ol oh) := peW (pe_slice hr he hl hu) fun σ H Q hh => by
  obtain ⟨ρ, S, Qd, re, rs, q, k⟩ := hh
  refine ⟨ρ, S, _, re, rs, q, fun x S1 v H1 q1 g1 r1 => ?_⟩
  refine ⟨ρ, S1, _, re.tp g1.tp, g1.rs, q1, fun l S2 H2 q2 g2 => ?_⟩
  refine ⟨ρ, S2, _, re.tp (g1.trans g2).tp, g2.rs, q2, fun h S3 H3 q3 g3 => ?_⟩
  exact ⟨x, S3, Qd, r1.tp (g2.trans g3).tp, g3.rs, q3, k.go ((g1.trans g2).trans g3)⟩

/-! ### methods of lists -/
abbrev RMD := D → List D → Sto → QD → Prop
def LfM (K : PySem.W.Frag) (o : RMD) : V → List V → Hp → VK → Prop := fun x xs H Q => ∃ d ds S Qd, RD K S H d x ∧ RDs K S H ds xs ∧ RS K S H ∧ o d ds S Qd ∧ Aft K S H Qd Q
abbrev MtD (X : Cx) (id : String) (o : RMD) : Prop := MtR X id (LfM X.K o)
theorem mtD_of {id : String} {r : V → List V → Hp → VK → Prop} {o : RMD} (h : MtR X id r) (w : ∀ d ds x xs S H Qd Q, RD X.K S H d x → RDs X.K S H ds xs → RS X.K S H → o d ds S Qd → Aft X.K S H Qd Q → r x xs H Q) : MtD X id o :=
  fun pins s σ H x xs v us Q I rx rxs ⟨d, ds, S, Qd, r1, r2, rs, q, k⟩ => h pins s σ H x xs v us Q I rx rxs (w d ds x xs S H Qd Q r1 r2 rs q k)
def dBM (o : RMD) (δ : TED) (α : TAD) : TED := fun ρ S Q => δ ρ S fun x S1 => (∃ ds, S1.list x = some ds) ∧ α ρ S1 fun xs S2 => o x xs S2 Q
variable {name : Str} {apos cpos : Pos} {ob : Expr}
theorem de_bm {o : RMD} (pa : PlainAttrs "list") (slot : Slot "list" name id) (hty : typeOf (.builtin id) = pure (.type "method_descriptor")) (hm : MtD X id o) (ho : DE X ob δ) (ha : DA X (e :: es) α)
    (hbase : attributeBase ob name X.env (eval ob X.env) = eval ob X.env := by rfl)
    (hfew : ((backTo cpos (starEach (e :: es) X.env)).all (fun x => !x.1) && (backToKw cpos (keywordEach [] X.env)).all (fun x => x.1.isSome)
      && decide ((e :: es).length + ([] : List Keyword).length + (if ([] : List Keyword).isEmpty then 0 else 1) < 30)) = true := by rfl)
    (hline : (apos.endLine == cpos.line) = true := by rfl) (hs : starEach (e :: es) X.env = (false, eval e X.env) :: starEach es X.env := by rfl) (hplain : (backTo cpos (starEach es X.env)).any (·.1) = false := by rfl) :
    DE X (.Call (.Attribute ob name apos) (e :: es) [] cpos) (dBM o δ α) := peW (pe_bm pa slot hty hm ho ha hbase hfew hline hs hplain) fun σ H Q hh => by
  obtain ⟨ρ, S, Qd, re, rs, q, k⟩ := hh
  refine ⟨ρ, S, _, re, rs, q, fun x S1 v H1 q1 g1 r1 => ?_⟩
  obtain ⟨⟨ds, hds⟩, q1⟩ := q1
  obtain ⟨a, vs, e1, e2, e3⟩ := list_at hds r1 g1.rs
  refine ⟨by rw [e1]; exact .inl ⟨rfl, vs, .of e2⟩, ρ, S1, _, re.tp g1.tp, g1.rs, q1, fun xs S2 ws H2 q2 g2 r2 => ?_⟩
  exact ⟨x, xs, S2, Qd, r1.tp g2.tp, r2, g2.rs, q2, k.go (g1.trans g2)⟩
theorem de_bm0 {o : RMD} (pa : PlainAttrs "list") (slot : Slot "list" name id) (hty : typeOf (.builtin id) = pure (.type "method_descriptor")) (hm : MtD X id o) (ho : DE X ob δ)
    (hbase : attributeBase ob name X.env (eval ob X.env) = eval ob X.env := by rfl) (hline : (apos.endLine == cpos.line) = true := by rfl) : DE X (.Call (.Attribute ob name apos) [] [] cpos) (dBM o δ dNil) := peW (pe_bm0 pa slot hty hm ho hbase hline) fun σ H Q hh => by
  obtain ⟨ρ, S, Qd, re, rs, q, k⟩ := hh
  refine ⟨ρ, S, _, re, rs, q, fun x S1 v H1 q1 g1 r1 => ?_⟩
  obtain ⟨⟨ds, hds⟩, q1⟩ := q1
  obtain ⟨a, vs, e1, e2, e3⟩ := list_at hds r1 g1.rs
  exact ⟨by rw [e1]; exact .inl ⟨rfl, vs, .of e2⟩, x, [], S1, Qd, r1, RDs.nil.mpr rfl, g1.rs, q1, k.go g1⟩
end
end PL
/-! zip of two, of three, enumerate: over lists and tuples in any mix -/
namespace PL
open PySem PySem.Spec PyProof.Rows L2

/-- a list (true) or a tuple (false) -/
def Sq (b : Bool) (K : PySem.W.Frag) (H : Hp) (a : Addr) (xs : List V) : Prop := match b with
  | true => SqL K H a xs
  | false => SqT K H a xs
def SqIs (b : Bool) (h : Heap) (a : Addr) (its : Array Value) : Prop := match b with
  | true => h.IsList a its
  | false => h.IsTuple a its
def SqIt (b : Bool) (h : Heap) (it a : Addr) (i : Nat) : Prop := match b with
  | true => h.IsListIter it a i
  | false => h.IsTupleIter it a i
def sqO (b : Bool) (a : Addr) : Obj := match b with
  | true => { cls := .type "list_iterator", data := .fields #[.ref a, .int 0 0] }
  | false => { cls := .type "tuple_iterator", data := .fields #[.ref a, .int 0 0] }
theorem sq_begins (b : Bool) (a : Addr) (its : Array Value) : Begins (.ref a) (sqO b a) (fun h => SqIs b h a its) := by
  cases b with
  | true => exact begins_list a its
  | false => exact begins_tuple a its
theorem sq_draws {prog : Program} {w : World} {A : Around} (b : Bool) (hh : A.handled = none) (it a : Addr) (hne : a ≠ it) (its : Array Value) :
    Draws prog w A it [it, a] its.size (fun i v => its[i]? = some v) (fun i h => SqIt b h it a i ∧ SqIs b h a its) := by
  cases b with
  | true => exact Draws.list hh it a hne its
  | false => exact Draws.tuple hh it a hne its
section
variable {X : Cx} {pins : List (Addr × Obj)} {σ : L2.St} {H : Hp} {s : Shared} {a : Addr} {xs ys : List V} {b : Bool}
theorem sq_get (I : Inv X pins σ H s) (h : Sq b X.K H a xs) : ∃ its : List Value, Vals xs its ∧ SqIs b s.heap a its.toArray ∧ a < s.heap.objs.size := by
  cases b with
  | true => obtain ⟨its, rv, p, _⟩ := I.list h; exact ⟨its, rv, p.isList, p.lt⟩
  | false => obtain ⟨its, rv, p, _⟩ := I.tuple h; obtain ⟨o, ho, r⟩ := id p; exact ⟨its, rv, ⟨o, ho, r⟩, Heap.lt_size ho⟩
theorem sq_inj (I : Inv X pins σ H s) (h : Sq b X.K H a xs) (h' : Sq b X.K H a ys) : xs = ys := by
  cases b with
  | true => exact I.list_inj h h'
  | false => exact I.tuple_inj h h'
theorem sqIt_obj {h : Heap} {it : Addr} {i : Nat} (st : SqIt b h it a i) : ∃ o, h.get? it = some o ∧ ∀ v, o.data ≠ .cell v := by
  cases b <;> (obtain ⟨o, e, _, d⟩ := st; exact ⟨o, e, fun v z => by rw [d] at z; cases z⟩)
theorem sqIt_at {h h' : Heap} {it : Addr} {i : Nat} (st : SqIt b h it a i) (k : ∀ o, h.get? it = some o → h'.get? it = some o) : SqIt b h' it a i := by
  cases b with
  | true => exact Heap.IsListIter.at st k
  | false => exact Heap.IsTupleIter.at st k
theorem sqIt_lt {h : Heap} {it : Addr} {i : Nat} (st : SqIt b h it a i) : it < h.objs.size := by obtain ⟨o, e, _⟩ := sqIt_obj st; exact Heap.lt_size e
theorem sqO_it {h : Heap} {it : Addr} (e : h.get? it = some (sqO b a)) : SqIt b h it a 0 := by
  cases b <;> exact ⟨_, e, rfl, rfl⟩
theorem sq_ne {K : PySem.W.Frag} {it : Addr} {h : Heap} {i : Nat} {its : Array Value} (st : SqIt b h it a i) (q : SqIs b h a its) : a ≠ it := by
  intro e; subst e
  cases b with
  | true =>
    obtain ⟨o, e, c, d⟩ := st
    obtain ⟨o', e', c', _⟩ := q
    rw [e] at e'; cases e'; rw [c] at c'; injection c' with z; exact absurd z (by decide)
  | false =>
    obtain ⟨o, e, c, d⟩ := st
    obtain ⟨o', e', c', _⟩ := q
    rw [e] at e'; cases e'; rw [c] at c'; injection c' with z; exact absurd z (by decide)
end

/-! ### enumerate -/
def ItE (b : Bool) (K : PySem.W.Frag) (a : Addr) : It :=
  ⟨fun i H => ∃ (xs : List V) (x : V), Sq b K H a xs ∧ xs[i]? = some x, fun i H v H' => ∃ T x, v = .ref T ∧ H T = none ∧ H' = upd H T (.tup [.int (i : Nat), x]) ∧ ∀ xs, Sq b K H a xs → xs[i]? = some x, fun i H => ∃ xs : List V, Sq b K H a xs ∧ xs.length = i⟩
theorem turn_E {P : Program} {w : World} {K : PySem.W.Frag} {elts : List Expr} {kk : Nat} {tpos : Pos} (b : Bool) (a e it : Addr) :
    Turn P w K (.Tuple elts kk tpos) (ItE b K a) [e, it] e (fun i h => (∃ old, IsEnum h e it ((i : Nat) : Int) old) ∧ SqIt b h it a i ∧ e ≠ it ∧ e ≠ a) where
  mem := by simp
  obj := fun i h st c hc => by
    obtain ⟨⟨old, he⟩, hi, _⟩ := st
    have e' : c = e ∨ c = it := by simpa using hc
    rcases e' with z | z
    · rw [z]; exact ⟨_, he, fun v q => nomatch q⟩
    · rw [z]; exact sqIt_obj hi
  keep := fun i h h' st k => let ⟨⟨old, he⟩, hi, hne⟩ := st; ⟨⟨old, k e (by simp) _ he⟩, sqIt_at hi fun o q => k it (by simp) o q, hne⟩
  item := by
    intro X hP hw hK hc i pins s σ H E I hf st hg
    subst hP hw hK
    obtain ⟨⟨old, he⟩, hit, hne, hea⟩ := st
    obtain ⟨xs, x, hq, hx⟩ := hg
    obtain ⟨its, rv, p, _⟩ := sq_get I hq
    obtain ⟨u, hu, ru⟩ := rv.get hx
    have hel : e < s.heap.objs.size := Heap.lt_size he
    have hil := sqIt_lt hit
    have hai : a ≠ it := sq_ne (K := X.K) hit p
    have hlt : i < its.toArray.size := by
      obtain ⟨h1, _⟩ := List.getElem?_eq_some_iff.mp hu
      simpa using h1
    refine wpAny_pyNext_enum_itemC (sq_draws (prog := X.prog) (w := X.w) (A := X.A.in1) b (I.ok.hd hc) it a hai its.toArray) he ⟨hit, p⟩ hlt hne (by simp [hne, hea]) fun y h' tk hy ho st' hT hsz hk => ?_
    have ey : y = u := by
      have h2 : its[i]? = some y := by simpa using hy
      rw [hu] at h2; exact (Option.some.inj h2).symm
    subst ey
    refine ⟨_, rfl, wpAny_letOwnedTupleGo_enum (s := { s with heap := h', toks := tk + 1 }) ho fun h'' he' sb => ?_⟩
    have hT2 : h''.get? s.heap.objs.size = some { cls := .type "tuple", data := .seq #[.int i tk, y] } := (sb.2 _ (Nat.ne_of_gt hel)).trans hT
    have new : ObjOk X.prog X.w (upd H s.heap.objs.size (.tup [.int (i : Nat), x])) h'' s.heap.objs.size (.tup [.int (i : Nat), x]) :=
      ⟨by show 2 ≤ sizeLine; decide, [.int i tk, y], .cons ⟨_, rfl⟩ (.cons ru .nil), ⟨_, hT2, rfl, _, rfl⟩⟩
    have I1 : Inv X pins σ (upd H s.heap.objs.size (.tup [.int (i : Nat), x])) { s with heap := h'', toks := tk + 1 } :=
      I.turnedNew (ch := [e, it]) (fun b ob hb q => (sb.2 b (fun z => hb (by simp [z]))).trans (hk b ob (fun z => hb (by simp [z])) (fun z => hb (by simp [z])) q)) hf (Nat.le_refl _) new
    refine ⟨.ref s.heap.objs.size, _, I1, rfl, ⟨_, x, rfl, I.hok.fresh (Nat.le_refl _), rfl, fun ys hy => by rw [sq_inj I hy hq]; exact hx⟩, ⟨⟨y, ?_⟩, sqIt_at st'.1 fun o q => (sb.2 it (Ne.symm hne)).trans q, hne, hea⟩, fun b hb => ?_⟩
    · have e1 : ((i + 1 : Nat) : Int) = (i : Int) + 1 := by omega
      rw [e1]; exact he'
    · have hb' : b < s.heap.objs.size := by
        have e' : b = e ∨ b = it := by simpa using hb
        rcases e' with z | z
        · rw [z]; exact hel
        · rw [z]; exact hil
      rw [upd_ne (Nat.ne_of_lt hb')]
      exact (hf b hb).1
  done := by
    intro X hP hw hK hc i pins s σ H E I hf st hg
    subst hP hw hK
    obtain ⟨⟨old, he⟩, hit, hne, hea⟩ := st
    obtain ⟨xs, hq, hx⟩ := hg
    obtain ⟨its, rv, p, _⟩ := sq_get I hq
    have hai : a ≠ it := sq_ne (K := X.K) hit p
    have hl : its.toArray.size = i := by
      have := rv.length
      simp; omega
    refine wpAny_pyNext_enum_endD (sq_draws (prog := X.prog) (w := X.w) (A := X.A.in1) b (I.ok.hd hc) it a hai its.toArray) he ⟨by rw [hl]; exact hit, p⟩ fun h' eb => ⟨rfl, ?_⟩
    obtain ⟨f0, f1, f2, f3, f4, f5⟩ := hf it (by simp)
    exact I.turned (t' := s.toks) (fun b o hb q => eb b o hb q) f0 f1 f3 f4 f5
  self := fun A i s Q E st h => let ⟨⟨_, he⟩, _⟩ := st; wpAny_pyIter_enum he h

theorem meets_enumerate_1B {v : Value} {o : Obj} {H : Heap → Prop} (B : Begins v o H) :
    Meets (Builtin.«enumerate.__new__» ⟨[.type "enumerate", v], []⟩) (fun _ R s => H s.heap ∧
      R (.ok (.ret (.ref (s.heap.push o).objs.size))) { s with heap := (s.heap.push o).push { cls := .type "enumerate", data := .fields #[.none, .bool false, .ref s.heap.objs.size, rawInt 0, .none, .none] } }) :=
  .of_wp fun prog w A R s h => by
    obtain ⟨hp, g, d, tk, os⟩ := s; obtain ⟨h1, h⟩ := h
    have hsub := sub_enumerate
    have q1 : ∀ {A' : Around} {E : Value → Shared → Prop} {Q : Value → Shared → Prop}, Q (.ref hp.objs.size) ⟨hp.push o, g, d, tk, os⟩ → wpAny (model prog w) A' (pyIter v) Q E ⟨hp, g, d, tk, os⟩ :=
      fun q => B.iter prog w _ _ ⟨hp, g, d, tk, os⟩ _ h1 q
    wp_walk using q1
    refine wpAny_stack_any fun st => wpAny_pure ?_
    split
    · rename_i c _ _ _ _ _
      cases (c == Value.type "enumerate")
      · wp_walk using q1
        exact ⟨_, rfl, h⟩
      · wp_walk using q1
        exact ⟨_, rfl, h⟩
    · wp_walk using q1
      exact ⟨_, rfl, h⟩
theorem enum_begins1 {prog : Program} {w : World} {A : Around} {E : Value → Shared → Prop} {s : Shared} {v : Value} {o : Obj} {H : Heap → Prop} {Q : Value → Shared → Prop} (B : Begins v o H) (h1 : H s.heap)
    (h : ∀ h', IsEnum h' (s.heap.objs.size + 1) s.heap.objs.size 0 .none → h'.get? s.heap.objs.size = some o → h'.objs.size = s.heap.objs.size + 2 →
      (∀ b o, s.heap.get? b = some o → h'.get? b = some o) → Q (.ref (s.heap.objs.size + 1)) { s with heap := h' }) :
    wpAny (model prog w) A (call (.type "enumerate") [v]) Q E s := by
  refine callType_new F.called_enumerate (by decide) (F.typeCall_enumerate_1 _) (F.newCall_enumerate_1 _) (fun obj => F.args_object_init_2 obj _) F.entry_enumerate_new
    (meets_enumerate_1B B) ⟨h1, ?_⟩
  have hz : (s.heap.push o).objs.size = s.heap.objs.size + 1 := Heap.size_push ..
  show _ ∧ _
  rw [hz]
  have he : IsEnum ((s.heap.push o).push { cls := .type "enumerate", data := .fields #[.none, .bool false, .ref s.heap.objs.size, rawInt 0, .none, .none] }) (s.heap.objs.size + 1) s.heap.objs.size 0 .none := by
    have := Heap.get?_push_size (s.heap.push o) (o := { cls := .type "enumerate", data := .fields #[.none, .bool false, .ref s.heap.objs.size, rawInt 0, .none, .none] }) rfl
    rw [hz] at this; exact this
  exact ⟨⟨_, he, rfl⟩, h _ he (Heap.get?_push_of_some _ (Heap.get?_push_size _ B.free)) (by rw [Heap.size_push, hz]) fun b o x => Heap.get?_push_of_some _ (Heap.get?_push_of_some _ x)⟩
def iE (K : PySem.W.Frag) (ta : TA) : TI := fun σ H R => ta σ H fun vs H1 => ∃ b a xs, vs = [.ref a] ∧ Sq b K H1 a xs ∧ R (ItE b K a) H1
theorem pi_E {X : Cx} {e : Expr} {ta : TA} {p pos tpos : Pos} {elts : List Expr} {kk : Nat} (hg : Gl X "enumerate") (hm : X.mg "enumerate" = none) (ha : PA X [e] ta) (hs : starEach [e] X.env = [(false, eval e X.env)] := by rfl) :
    PI X (.Tuple elts kk tpos) (.Call (.Name "enumerate" p) [e] [] pos) (iE X.K ta) := by
  refine ⟨fun pins s σ H R I h => ?_⟩
  refine Call_ (ld_blt I hg hm boot_enumerate (PyProof.Rows.callWith_type1 (thn (ha.run pos pins s σ H _ I h) fun us s1 ⟨vs, H1, I1, r1, q1⟩ => ?_) hs rfl))
  obtain ⟨b, a, xs, ex, hq, q⟩ := q1
  subst ex
  cases r1 with
  | cons r rr =>
    cases rr
    cases r
    obtain ⟨its, rv, p', lt⟩ := sq_get I1 hq
    refine enum_begins1 (sq_begins b a its.toArray) p' fun h' he hit hsz hk => wpAny_pyIter_enum he ?_
    have I2 : Inv X pins σ H1 { s1 with heap := h' } := I1.kept (t' := s1.toks) hk
    have hea : s1.heap.objs.size + 1 ≠ a := Nat.ne_of_gt (Nat.lt_succ_of_lt lt)
    refine ⟨s1.heap.objs.size + 1, [s1.heap.objs.size + 1, s1.heap.objs.size], _, _, H1, rfl, I2, turn_E b a (s1.heap.objs.size + 1) s1.heap.objs.size, ⟨⟨.none, he⟩, sqO_it hit, Nat.succ_ne_self _, hea⟩, fun c hc => ?_, q⟩
    have e' : c = s1.heap.objs.size + 1 ∨ c = s1.heap.objs.size := by simpa using hc
    have hle : s1.heap.objs.size ≤ c := by
      rcases e' with z | z
      · rw [z]; exact Nat.le_add_right _ _
      · rw [z]; exact Nat.le_refl _
    exact I1.fpOk hle (I1.hok.fresh hle)
/-! ### zip of two -/
def ItZ2 (b1 b2 : Bool) (K : PySem.W.Frag) (a1 a2 : Addr) : It :=
  ⟨fun i H => ∃ (xs ys : List V) (x y : V), Sq b1 K H a1 xs ∧ Sq b2 K H a2 ys ∧ xs[i]? = some x ∧ ys[i]? = some y,
    fun i H v H' => ∃ T x y, v = .ref T ∧ H T = none ∧ H' = upd H T (.tup [x, y]) ∧ (∀ xs, Sq b1 K H a1 xs → xs[i]? = some x) ∧ ∀ ys, Sq b2 K H a2 ys → ys[i]? = some y,
    fun i H => ∃ xs ys : List V, Sq b1 K H a1 xs ∧ Sq b2 K H a2 ys ∧ i ≤ xs.length ∧ i ≤ ys.length ∧ (xs.length = i ∨ ys.length = i)⟩
/-- the five cells of a zip lie apart, and from what it walks -/
structure Sep2 (z TI TO i1 i2 a1 a2 : Addr) : Prop where
  S : ZipSep2 z TI TO i1 i2 [i1, a1] [i2, a2]
theorem pr_ne (x i a : Nat) (e1 : x ≠ i) (e2 : x ≠ a) : x ∉ [i, a] := fun z => (List.mem_cons.mp z).elim e1 fun z => e2 (List.mem_singleton.mp z)
theorem ad_nn (n i j : Nat) (h : i ≠ j) : n + i ≠ n + j := by omega
theorem ad_n0 (n j : Nat) (h : 0 ≠ j) : n ≠ n + j := by omega
theorem ad_m0 (n j : Nat) (h : 0 ≠ j) : n + j ≠ n := by omega
theorem ad_a (n j a : Nat) (h : a < n) : n + j ≠ a := by omega
theorem ad_a0 (n a : Nat) (h : a < n) : n ≠ a := by omega
theorem sep2_nat (n a1 a2 : Nat) (h1 : a1 < n) (h2 : a2 < n) : @ZipSep2 (n + 4) (n + 2) (n + 3) n (n + 1) [n, a1] [n + 1, a2] :=
  ⟨ad_nn n 2 4 (by decide), ad_nn n 3 4 (by decide), ad_nn n 2 3 (by decide), ad_m0 n 2 (by decide), by simp, pr_ne _ _ _ (ad_m0 n 4 (by decide)) (ad_a n 4 _ h1), pr_ne _ _ _ (ad_m0 n 3 (by decide)) (ad_a n 3 _ h1),
    ad_nn n 2 1 (by decide), by simp, pr_ne _ _ _ (ad_nn n 4 1 (by decide)) (ad_a n 4 _ h2), pr_ne _ _ _ (ad_nn n 3 1 (by decide)) (ad_a n 3 _ h2), pr_ne _ _ _ (ad_n0 n 1 (by decide)) (ad_a0 n _ h2), pr_ne _ _ _ (ad_m0 n 1 (by decide)) (ad_a n 1 _ h1)⟩
theorem sep2_of {n a1 a2 : Addr} (h1 : a1 < n) (h2 : a2 < n) : Sep2 (n + 4) (n + 2) (n + 3) n (n + 1) a1 a2 := ⟨sep2_nat n a1 a2 h1 h2⟩
theorem turn_Z2 {P : Program} {w : World} {K : PySem.W.Frag} {elts : List Expr} {kk : Nat} {tpos : Pos} (b1 b2 : Bool) {a1 a2 z TI TO i1 i2 : Addr} (D : Sep2 z TI TO i1 i2 a1 a2) :
    Turn P w K (.Tuple elts kk tpos) (ItZ2 b1 b2 K a1 a2) [z, TI, TO, i1, i2] z (fun i h => IsZip h z TI TO .none ∧ IsTupOf2 h TI (.ref i1) (.ref i2) ∧ (∃ x y, IsTupOf2 h TO x y) ∧ SqIt b1 h i1 a1 i ∧ SqIt b2 h i2 a2 i) where
  mem := by simp
  obj := fun i h st c hc => by
    obtain ⟨hz, hTI, ⟨x, y, hTO⟩, h1, h2⟩ := st
    have e' : c = z ∨ c = TI ∨ c = TO ∨ c = i1 ∨ c = i2 := by simpa using hc
    rcases e' with q | q | q | q | q
    · rw [q]; exact ⟨_, hz, fun v q => nomatch q⟩
    · rw [q]; exact ⟨_, hTI, fun v q => nomatch q⟩
    · rw [q]; exact ⟨_, hTO, fun v q => nomatch q⟩
    · rw [q]; exact sqIt_obj h1
    · rw [q]; exact sqIt_obj h2
  keep := fun i h h' st k => by
    obtain ⟨hz, hTI, ⟨x, y, hTO⟩, h1, h2⟩ := st
    exact ⟨k z (by simp) _ hz, k TI (by simp) _ hTI, ⟨x, y, k TO (by simp) _ hTO⟩, sqIt_at h1 fun o q => k i1 (by simp) o q, sqIt_at h2 fun o q => k i2 (by simp) o q⟩
  item := by
    intro X hP hw hK hc i pins s σ H E I hf st hg
    subst hP hw hK
    obtain ⟨hz, hTI, ⟨x0, y0, hTO⟩, h1, h2⟩ := st
    obtain ⟨xs, ys, x, y, hqx, hqy, hx, hy⟩ := hg
    obtain ⟨its, rv, p, _⟩ := sq_get I hqx
    obtain ⟨its2, rv2, p2, _⟩ := sq_get I hqy
    obtain ⟨u, hu, ru⟩ := rv.get hx
    obtain ⟨u2, hu2, ru2⟩ := rv2.get hy
    have hzl : z < s.heap.objs.size := Heap.lt_size hz
    have l1 : i < its.toArray.size := by
      obtain ⟨h1, _⟩ := List.getElem?_eq_some_iff.mp hu
      simpa using h1
    have l2 : i < its2.toArray.size := by
      obtain ⟨h1, _⟩ := List.getElem?_eq_some_iff.mp hu2
      simpa using h1
    refine wpAny_pyNext_zipD2_item D.S (sq_draws (prog := X.prog) (w := X.w) (A := X.A.in1) b1 (I.ok.hd hc) i1 a1 (sq_ne (K := X.K) h1 p) its.toArray) (sq_draws (prog := X.prog) (w := X.w) (A := X.A.in1) b2 (I.ok.hd hc) i2 a2 (sq_ne (K := X.K) h2 p2) its2.toArray) hz hTI hTO ⟨h1, p⟩ ⟨h2, p2⟩ l1 l2 fun y1 y2 h' tk hy1 hy2 z' TO' h1' h2' hT hsz hk => ?_
    have ey : y1 = u := by
      have h2 : its[i]? = some y1 := by simpa using hy1
      rw [hu] at h2; exact (Option.some.inj h2).symm
    have ey2 : y2 = u2 := by
      have h2 : its2[i]? = some y2 := by simpa using hy2
      rw [hu2] at h2; exact (Option.some.inj h2).symm
    subst ey; subst ey2
    refine ⟨_, rfl, wpAny_letOwnedTupleGo_zip (s := { s with heap := h', toks := tk }) z' fun h'' z'' sb => ?_⟩
    have hT2 : h''.get? s.heap.objs.size = some { cls := .type "tuple", data := .seq #[y1, y2] } := (sb.2 _ (Nat.ne_of_gt hzl)).trans hT
    have new : ObjOk X.prog X.w (upd H s.heap.objs.size (.tup [x, y])) h'' s.heap.objs.size (.tup [x, y]) :=
      ⟨by show 2 ≤ sizeLine; decide, [y1, y2], .cons ru (.cons ru2 .nil), ⟨_, hT2, rfl, _, rfl⟩⟩
    have I1 : Inv X pins σ (upd H s.heap.objs.size (.tup [x, y])) { s with heap := h'', toks := tk } :=
      I.turnedNew (ch := [z, TI, TO, i1, i2]) (fun c o hb q => (sb.2 c (fun q' => hb (by simp [q']))).trans (hk c o (fun q' => hb (by simp [q'])) (fun q' => hb (by simp [q'])) (fun q' => hb (by simp [q'])) (fun q' => hb (by simp [q'])) q)) hf (Nat.le_refl _) new
    refine ⟨.ref s.heap.objs.size, _, I1, rfl, ⟨_, x, y, rfl, I.hok.fresh (Nat.le_refl _), rfl, fun l hl => by rw [sq_inj I hl hqx]; exact hx, fun l hl => by rw [sq_inj I hl hqy]; exact hy⟩, ⟨z'', ?_, ⟨y1, y2, ?_⟩, ?_, ?_⟩, fun c hcm => ?_⟩
    · exact (sb.2 _ D.S.TIz).trans (hk _ _ D.S.TIz D.S.TITO D.S.TIi1 D.S.TIi2 hTI)
    · exact (sb.2 _ D.S.TOz).trans TO'
    · exact sqIt_at h1'.1 fun o q => (sb.2 _ (Ne.symm D.S.zi1)).trans q
    · exact sqIt_at h2'.1 fun o q => (sb.2 _ (Ne.symm D.S.zi2)).trans q
    · have hlt : c < s.heap.objs.size := by
        have e' : c = z ∨ c = TI ∨ c = TO ∨ c = i1 ∨ c = i2 := by simpa using hcm
        rcases e' with q | q | q | q | q
        · rw [q]; exact hzl
        · rw [q]; exact Heap.lt_size hTI
        · rw [q]; exact Heap.lt_size hTO
        · rw [q]; exact sqIt_lt h1
        · rw [q]; exact sqIt_lt h2
      rw [upd_ne (Nat.ne_of_lt hlt)]
      exact (hf c hcm).1
  done := by
    intro X hP hw hK hc i pins s σ H E I hf st hg
    subst hP hw hK
    obtain ⟨hz, hTI, ⟨x0, y0, hTO⟩, h1, h2⟩ := st
    obtain ⟨xs, ys, hqx, hqy, le1, le2, hend⟩ := hg
    obtain ⟨its, rv, p, _⟩ := sq_get I hqx
    obtain ⟨its2, rv2, p2, _⟩ := sq_get I hqy
    have l1 := rv.length
    have l2 := rv2.length
    exact wpAny_pyNext_zipD2_end D.S (sq_draws (prog := X.prog) (w := X.w) (A := X.A.in1) b1 (I.ok.hd hc) i1 a1 (sq_ne (K := X.K) h1 p) its.toArray) (sq_draws (prog := X.prog) (w := X.w) (A := X.A.in1) b2 (I.ok.hd hc) i2 a2 (sq_ne (K := X.K) h2 p2) its2.toArray) hz hTI hTO ⟨h1, p⟩ ⟨h2, p2⟩
      (by simp; omega) (by simp; omega) (by simp; omega) fun h' tk hk => ⟨rfl, I.turnedL (ch := [z, TI, TO, i1, i2]) (fun c o hb q =>
      hk c o (fun q' => hb (by simp [q'])) (fun q' => hb (by simp [q'])) (fun q' => hb (by simp [q'])) (fun q' => hb (by simp [q'])) q) hf⟩
  self := fun A i s Q E st h => wpAny_pyIter_zip st.1 h
def iZ2 (K : PySem.W.Frag) (ta : TA) : TI := fun σ H R => ta σ H fun vs H1 => ∃ b1 b2 a1 a2 xs ys, vs = [.ref a1, .ref a2] ∧ Sq b1 K H1 a1 xs ∧ Sq b2 K H1 a2 ys ∧ R (ItZ2 b1 b2 K a1 a2) H1
theorem pi_Z2 {X : Cx} {e e2 : Expr} {ta : TA} {p pos tpos : Pos} {elts : List Expr} {kk : Nat} (hg : Gl X "zip") (hm : X.mg "zip" = none) (ha : PA X [e, e2] ta)
    (hs : starEach [e, e2] X.env = (false, eval e X.env) :: starEach [e2] X.env := by rfl) (hpl : (backTo pos (starEach [e2] X.env)).any (·.1) = false := by rfl) :
    PI X (.Tuple elts kk tpos) (.Call (.Name "zip" p) [e, e2] [] pos) (iZ2 X.K ta) := by
  refine ⟨fun pins s σ H R I h => ?_⟩
  refine Call_ (ld_blt I hg hm PyProof.Rows.boot_zip (PyProof.Rows.callWith_type1 (thn (ha.run pos pins s σ H _ I h) fun us s1 ⟨vs, H1, I1, r1, q1⟩ => ?_) hs hpl))
  obtain ⟨b1, b2, a1, a2, xs, ys, ex, hqx, hqy, q⟩ := q1
  subst ex
  cases r1 with
  | cons r rr =>
    cases rr with
    | cons r' rr =>
      cases rr
      cases r
      cases r'
      have fresh5 : ∀ c, c ∈ [s1.heap.objs.size + 4, s1.heap.objs.size + 2, s1.heap.objs.size + 3, s1.heap.objs.size, s1.heap.objs.size + 1] → FpOk X pins H1 c := fun c hcm => by
        have e' : c = s1.heap.objs.size + 4 ∨ c = s1.heap.objs.size + 2 ∨ c = s1.heap.objs.size + 3 ∨ c = s1.heap.objs.size ∨ c = s1.heap.objs.size + 1 := by simpa using hcm
        have hle : s1.heap.objs.size ≤ c := by
          rcases e' with z | z | z | z | z
          · rw [z]; exact Nat.le_add_right _ _
          · rw [z]; exact Nat.le_add_right _ _
          · rw [z]; exact Nat.le_add_right _ _
          · rw [z]; exact Nat.le_refl _
          · rw [z]; exact Nat.le_add_right _ _
        exact I1.fpOk hle (I1.hok.fresh hle)
      obtain ⟨its, rv, p1, lt1⟩ := sq_get I1 hqx
      obtain ⟨its2, rv2, p2, lt2⟩ := sq_get I1 hqy
      refine zip_begins2 (sq_begins b1 a1 its.toArray) (sq_begins b2 a2 its2.toArray) p1 p2 fun h' hz hTI hTO h1 h2 hsz hk => wpAny_pyIter_zip hz ?_
      have I2 : Inv X pins σ H1 { s1 with heap := h' } := I1.kept (t' := s1.toks) hk
      exact ⟨s1.heap.objs.size + 4, [s1.heap.objs.size + 4, s1.heap.objs.size + 2, s1.heap.objs.size + 3, s1.heap.objs.size, s1.heap.objs.size + 1], _, _, H1, rfl, I2, turn_Z2 b1 b2 (sep2_of lt1 lt2), ⟨hz, hTI, ⟨_, _, hTO⟩, sqO_it h1, sqO_it h2⟩, fresh5, q⟩

/-! ### zip of three -/
def ItZ3 (b1 b2 b3 : Bool) (K : PySem.W.Frag) (a1 a2 a3 : Addr) : It :=
  ⟨fun i H => ∃ (xs ys zs : List V) (x y z : V), Sq b1 K H a1 xs ∧ Sq b2 K H a2 ys ∧ Sq b3 K H a3 zs ∧ xs[i]? = some x ∧ ys[i]? = some y ∧ zs[i]? = some z,
    fun i H v H' => ∃ T x y z, v = .ref T ∧ H T = none ∧ H' = upd H T (.tup [x, y, z]) ∧ (∀ xs, Sq b1 K H a1 xs → xs[i]? = some x) ∧ (∀ ys, Sq b2 K H a2 ys → ys[i]? = some y) ∧ ∀ zs, Sq b3 K H a3 zs → zs[i]? = some z,
    fun i H => ∃ xs ys zs : List V, Sq b1 K H a1 xs ∧ Sq b2 K H a2 ys ∧ Sq b3 K H a3 zs ∧ i ≤ xs.length ∧ i ≤ ys.length ∧ i ≤ zs.length ∧ (xs.length = i ∨ ys.length = i ∨ zs.length = i)⟩
structure Sep3 (z TI TO i1 i2 i3 a1 a2 a3 : Addr) : Prop where
  S : ZipSep3 z TI TO i1 i2 i3 [i1, a1] [i2, a2] [i3, a3]
theorem sep3_nat (n a1 a2 a3 : Nat) (h1 : a1 < n) (h2 : a2 < n) (h3 : a3 < n) : @ZipSep3 (n + 5) (n + 3) (n + 4) n (n + 1) (n + 2) [n, a1] [n + 1, a2] [n + 2, a3] :=
  ⟨ad_nn n 3 5 (by decide), ad_nn n 4 5 (by decide), ad_nn n 3 4 (by decide),
    ad_m0 n 3 (by decide), by simp, pr_ne _ _ _ (ad_m0 n 5 (by decide)) (ad_a n 5 _ h1), pr_ne _ _ _ (ad_m0 n 4 (by decide)) (ad_a n 4 _ h1),
    ad_nn n 3 1 (by decide), by simp, pr_ne _ _ _ (ad_nn n 5 1 (by decide)) (ad_a n 5 _ h2), pr_ne _ _ _ (ad_nn n 4 1 (by decide)) (ad_a n 4 _ h2),
    ad_nn n 3 2 (by decide), by simp, pr_ne _ _ _ (ad_nn n 5 2 (by decide)) (ad_a n 5 _ h3), pr_ne _ _ _ (ad_nn n 4 2 (by decide)) (ad_a n 4 _ h3),
    pr_ne _ _ _ (ad_n0 n 1 (by decide)) (ad_a0 n _ h2), pr_ne _ _ _ (ad_n0 n 2 (by decide)) (ad_a0 n _ h3), pr_ne _ _ _ (ad_m0 n 1 (by decide)) (ad_a n 1 _ h1), pr_ne _ _ _ (ad_nn n 1 2 (by decide)) (ad_a n 1 _ h3), pr_ne _ _ _ (ad_m0 n 2 (by decide)) (ad_a n 2 _ h1), pr_ne _ _ _ (ad_nn n 2 1 (by decide)) (ad_a n 2 _ h2)⟩
theorem sep3_of {n a1 a2 a3 : Addr} (h1 : a1 < n) (h2 : a2 < n) (h3 : a3 < n) : Sep3 (n + 5) (n + 3) (n + 4) n (n + 1) (n + 2) a1 a2 a3 := ⟨sep3_nat n a1 a2 a3 h1 h2 h3⟩
theorem turn_Z3 {P : Program} {w : World} {K : PySem.W.Frag} {elts : List Expr} {kk : Nat} {tpos : Pos} (b1 b2 b3 : Bool) {a1 a2 a3 z TI TO i1 i2 i3 : Addr} (D : Sep3 z TI TO i1 i2 i3 a1 a2 a3) :
    Turn P w K (.Tuple elts kk tpos) (ItZ3 b1 b2 b3 K a1 a2 a3) [z, TI, TO, i1, i2, i3] z (fun i h => IsZip h z TI TO .none ∧ IsTupOf3 h TI (.ref i1) (.ref i2) (.ref i3) ∧ (∃ x y u, IsTupOf3 h TO x y u) ∧ SqIt b1 h i1 a1 i ∧ SqIt b2 h i2 a2 i ∧ SqIt b3 h i3 a3 i) where
  mem := by simp
  obj := fun i h st c hc => by
    obtain ⟨hz, hTI, ⟨x, y, u, hTO⟩, h1, h2, h3⟩ := st
    have e' : c = z ∨ c = TI ∨ c = TO ∨ c = i1 ∨ c = i2 ∨ c = i3 := by simpa using hc
    rcases e' with q | q | q | q | q | q
    · rw [q]; exact ⟨_, hz, fun v q => nomatch q⟩
    · rw [q]; exact ⟨_, hTI, fun v q => nomatch q⟩
    · rw [q]; exact ⟨_, hTO, fun v q => nomatch q⟩
    · rw [q]; exact sqIt_obj h1
    · rw [q]; exact sqIt_obj h2
    · rw [q]; exact sqIt_obj h3
  keep := fun i h h' st k => by
    obtain ⟨hz, hTI, ⟨x, y, u, hTO⟩, h1, h2, h3⟩ := st
    exact ⟨k z (by simp) _ hz, k TI (by simp) _ hTI, ⟨x, y, u, k TO (by simp) _ hTO⟩, sqIt_at h1 fun o q => k i1 (by simp) o q, sqIt_at h2 fun o q => k i2 (by simp) o q, sqIt_at h3 fun o q => k i3 (by simp) o q⟩
  item := by
    intro X hP hw hK hc i pins s σ H E I hf st hg
    subst hP hw hK
    obtain ⟨hz, hTI, ⟨x0, y0, z0, hTO⟩, h1, h2, h3⟩ := st
    obtain ⟨xs, ys, zs, x, y, zz, hqx, hqy, hqz, hx, hy, hzz⟩ := hg
    obtain ⟨its, rv, p, _⟩ := sq_get I hqx
    obtain ⟨its2, rv2, p2, _⟩ := sq_get I hqy
    obtain ⟨its3, rv3, p3, _⟩ := sq_get I hqz
    obtain ⟨u, hu, ru⟩ := rv.get hx
    obtain ⟨u2, hu2, ru2⟩ := rv2.get hy
    obtain ⟨u3, hu3, ru3⟩ := rv3.get hzz
    have hzl : z < s.heap.objs.size := Heap.lt_size hz
    have l1 : i < its.toArray.size := by
      obtain ⟨h1, _⟩ := List.getElem?_eq_some_iff.mp hu
      simpa using h1
    have l2 : i < its2.toArray.size := by
      obtain ⟨h1, _⟩ := List.getElem?_eq_some_iff.mp hu2
      simpa using h1
    have l3 : i < its3.toArray.size := by
      obtain ⟨h1, _⟩ := List.getElem?_eq_some_iff.mp hu3
      simpa using h1
    refine wpAny_pyNext_zipD3_item D.S (sq_draws (prog := X.prog) (w := X.w) (A := X.A.in1) b1 (I.ok.hd hc) i1 a1 (sq_ne (K := X.K) h1 p) its.toArray) (sq_draws (prog := X.prog) (w := X.w) (A := X.A.in1) b2 (I.ok.hd hc) i2 a2 (sq_ne (K := X.K) h2 p2) its2.toArray) (sq_draws (prog := X.prog) (w := X.w) (A := X.A.in1) b3 (I.ok.hd hc) i3 a3 (sq_ne (K := X.K) h3 p3) its3.toArray)
      hz hTI hTO ⟨h1, p⟩ ⟨h2, p2⟩ ⟨h3, p3⟩ l1 l2 l3 fun y1 y2 y3 h' tk hy1 hy2 hy3 z' TO' h1' h2' h3' hT hsz hk => ?_
    have ey : y1 = u := by
      have h2 : its[i]? = some y1 := by simpa using hy1
      rw [hu] at h2; exact (Option.some.inj h2).symm
    have ey2 : y2 = u2 := by
      have h2 : its2[i]? = some y2 := by simpa using hy2
      rw [hu2] at h2; exact (Option.some.inj h2).symm
    have ey3 : y3 = u3 := by
      have h2 : its3[i]? = some y3 := by simpa using hy3
      rw [hu3] at h2; exact (Option.some.inj h2).symm
    subst ey; subst ey2; subst ey3
    refine ⟨_, rfl, wpAny_letOwnedTupleGo_zip (s := { s with heap := h', toks := tk }) z' fun h'' z'' sb => ?_⟩
    have hT2 : h''.get? s.heap.objs.size = some { cls := .type "tuple", data := .seq #[y1, y2, y3] } := (sb.2 _ (Nat.ne_of_gt hzl)).trans hT
    have new : ObjOk X.prog X.w (upd H s.heap.objs.size (.tup [x, y, zz])) h'' s.heap.objs.size (.tup [x, y, zz]) :=
      ⟨by show 3 ≤ sizeLine; decide, [y1, y2, y3], .cons ru (.cons ru2 (.cons ru3 .nil)), ⟨_, hT2, rfl, _, rfl⟩⟩
    have I1 : Inv X pins σ (upd H s.heap.objs.size (.tup [x, y, zz])) { s with heap := h'', toks := tk } :=
      I.turnedNew (ch := [z, TI, TO, i1, i2, i3]) (fun c o hb q => (sb.2 c (fun q' => hb (by simp [q']))).trans (hk c o (fun q' => hb (by simp [q'])) (fun q' => hb (by simp [q'])) (fun q' => hb (by simp [q'])) (fun q' => hb (by simp [q'])) (fun q' => hb (by simp [q'])) q)) hf (Nat.le_refl _) new
    refine ⟨.ref s.heap.objs.size, _, I1, rfl, ⟨_, x, y, zz, rfl, I.hok.fresh (Nat.le_refl _), rfl, fun l hl => by rw [sq_inj I hl hqx]; exact hx, fun l hl => by rw [sq_inj I hl hqy]; exact hy, fun l hl => by rw [sq_inj I hl hqz]; exact hzz⟩, ⟨z'', ?_, ⟨y1, y2, y3, ?_⟩, ?_, ?_, ?_⟩, fun c hcm => ?_⟩
    · exact (sb.2 _ D.S.TIz).trans (hk _ _ D.S.TIz D.S.TITO D.S.TIi1 D.S.TIi2 D.S.TIi3 hTI)
    · exact (sb.2 _ D.S.TOz).trans TO'
    · exact sqIt_at h1'.1 fun o q => (sb.2 _ (Ne.symm D.S.zi1)).trans q
    · exact sqIt_at h2'.1 fun o q => (sb.2 _ (Ne.symm D.S.zi2)).trans q
    · exact sqIt_at h3'.1 fun o q => (sb.2 _ (Ne.symm D.S.zi3)).trans q
    · have hlt : c < s.heap.objs.size := by
        have e' : c = z ∨ c = TI ∨ c = TO ∨ c = i1 ∨ c = i2 ∨ c = i3 := by simpa using hcm
        rcases e' with q | q | q | q | q | q
        · rw [q]; exact hzl
        · rw [q]; exact Heap.lt_size hTI
        · rw [q]; exact Heap.lt_size hTO
        · rw [q]; exact sqIt_lt h1
        · rw [q]; exact sqIt_lt h2
        · rw [q]; exact sqIt_lt h3
      rw [upd_ne (Nat.ne_of_lt hlt)]
      exact (hf c hcm).1
  done := by
    intro X hP hw hK hc i pins s σ H E I hf st hg
    subst hP hw hK
    obtain ⟨hz, hTI, ⟨x0, y0, z0, hTO⟩, h1, h2, h3⟩ := st
    obtain ⟨xs, ys, zs, hqx, hqy, hqz, le1, le2, le3, hend⟩ := hg
    obtain ⟨its, rv, p, _⟩ := sq_get I hqx
    obtain ⟨its2, rv2, p2, _⟩ := sq_get I hqy
    obtain ⟨its3, rv3, p3, _⟩ := sq_get I hqz
    have l1 := rv.length
    have l2 := rv2.length
    have l3 := rv3.length
    exact wpAny_pyNext_zipD3_end D.S (sq_draws (prog := X.prog) (w := X.w) (A := X.A.in1) b1 (I.ok.hd hc) i1 a1 (sq_ne (K := X.K) h1 p) its.toArray) (sq_draws (prog := X.prog) (w := X.w) (A := X.A.in1) b2 (I.ok.hd hc) i2 a2 (sq_ne (K := X.K) h2 p2) its2.toArray) (sq_draws (prog := X.prog) (w := X.w) (A := X.A.in1) b3 (I.ok.hd hc) i3 a3 (sq_ne (K := X.K) h3 p3) its3.toArray) hz hTI hTO ⟨h1, p⟩ ⟨h2, p2⟩ ⟨h3, p3⟩
      (by simp; omega) (by simp; omega) (by simp; omega) (by simp; omega) fun h' tk hk => ⟨rfl, I.turnedL (ch := [z, TI, TO, i1, i2, i3]) (fun c o hb q =>
      hk c o (fun q' => hb (by simp [q'])) (fun q' => hb (by simp [q'])) (fun q' => hb (by simp [q'])) (fun q' => hb (by simp [q'])) (fun q' => hb (by simp [q'])) q) hf⟩
  self := fun A i s Q E st h => wpAny_pyIter_zip st.1 h
def iZ3 (K : PySem.W.Frag) (ta : TA) : TI := fun σ H R => ta σ H fun vs H1 => ∃ b1 b2 b3 a1 a2 a3 xs ys zs, vs = [.ref a1, .ref a2, .ref a3] ∧ Sq b1 K H1 a1 xs ∧ Sq b2 K H1 a2 ys ∧ Sq b3 K H1 a3 zs ∧ R (ItZ3 b1 b2 b3 K a1 a2 a3) H1
theorem pi_Z3 {X : Cx} {e e2 e3 : Expr} {ta : TA} {p pos tpos : Pos} {elts : List Expr} {kk : Nat} (hg : Gl X "zip") (hm : X.mg "zip" = none) (ha : PA X [e, e2, e3] ta)
    (hs : starEach [e, e2, e3] X.env = (false, eval e X.env) :: starEach [e2, e3] X.env := by rfl) (hpl : (backTo pos (starEach [e2, e3] X.env)).any (·.1) = false := by rfl) :
    PI X (.Tuple elts kk tpos) (.Call (.Name "zip" p) [e, e2, e3] [] pos) (iZ3 X.K ta) := by
  refine ⟨fun pins s σ H R I h => ?_⟩
  refine Call_ (ld_blt I hg hm PyProof.Rows.boot_zip (PyProof.Rows.callWith_type1 (thn (ha.run pos pins s σ H _ I h) fun us s1 ⟨vs, H1, I1, r1, q1⟩ => ?_) hs hpl))
  obtain ⟨b1, b2, b3, a1, a2, a3, xs, ys, zs, ex, hqx, hqy, hqz, q⟩ := q1
  subst ex
  cases r1 with
  | cons r rr =>
    cases rr with
    | cons r' rr =>
      cases rr with
      | cons r'' rr =>
        cases rr
        cases r
        cases r'
        cases r''
        have fresh6 : ∀ c, c ∈ [s1.heap.objs.size + 5, s1.heap.objs.size + 3, s1.heap.objs.size + 4, s1.heap.objs.size, s1.heap.objs.size + 1, s1.heap.objs.size + 2] → FpOk X pins H1 c := fun c hcm => by
          have e' : c = s1.heap.objs.size + 5 ∨ c = s1.heap.objs.size + 3 ∨ c = s1.heap.objs.size + 4 ∨ c = s1.heap.objs.size ∨ c = s1.heap.objs.size + 1 ∨ c = s1.heap.objs.size + 2 := by simpa using hcm
          have hle : s1.heap.objs.size ≤ c := by
            rcases e' with z | z | z | z | z | z
            · rw [z]; exact Nat.le_add_right _ _
            · rw [z]; exact Nat.le_add_right _ _
            · rw [z]; exact Nat.le_add_right _ _
            · rw [z]; exact Nat.le_refl _
            · rw [z]; exact Nat.le_add_right _ _
            · rw [z]; exact Nat.le_add_right _ _
          exact I1.fpOk hle (I1.hok.fresh hle)
        obtain ⟨its, rv, p1, lt1⟩ := sq_get I1 hqx
        obtain ⟨its2, rv2, p2, lt2⟩ := sq_get I1 hqy
        obtain ⟨its3, rv3, p3, lt3⟩ := sq_get I1 hqz
        refine zip_begins3 (sq_begins b1 a1 its.toArray) (sq_begins b2 a2 its2.toArray) (sq_begins b3 a3 its3.toArray) p1 p2 p3 fun h' hz hTI hTO h1 h2 h3 hsz hk => wpAny_pyIter_zip hz ?_
        have I2 : Inv X pins σ H1 { s1 with heap := h' } := I1.kept (t' := s1.toks) hk
        exact ⟨s1.heap.objs.size + 5, [s1.heap.objs.size + 5, s1.heap.objs.size + 3, s1.heap.objs.size + 4, s1.heap.objs.size, s1.heap.objs.size + 1, s1.heap.objs.size + 2], _, _, H1, rfl, I2, turn_Z3 b1 b2 b3 (sep3_of lt1 lt2 lt3), ⟨hz, hTI, ⟨_, _, _, hTO⟩, sqO_it h1, sqO_it h2, sqO_it h3⟩, fresh6, q⟩
end PL
/-! statements, loops, comprehensions, defs -/
namespace PL
open PySem PySem.Spec PyProof.Rows L2

section
variable {X : Cx} {e a b c : Expr} {es : List Expr} {pos : Pos} {δ δa δb δc : TED} {θ θ1 θ2 : TTD} {α : TAD} {st : Stmt} {rest body : List Stmt} {τ τ1 τ2 : TSD}

/-! ### blocks -/
def dNext : TSD := fun De ρ S => De.nx ρ S
def dSeq (t u : TSD) : TSD := fun De ρ S => t { De with nx := fun ρ' S' => u De ρ' S' } ρ S
theorem dss_nil : DSs X [] dNext := pssW pss_nil fun E σ H ⟨ρ, S, De, re, rs, q, k⟩ => k.nx _ _ _ _ q (.refl rs) re
theorem dss_cons (h1 : DS X st τ1) (h2 : DSs X rest τ2) : DSs X (st :: rest) (dSeq τ1 τ2) := pssW (pss_cons h1 h2) fun E σ H ⟨ρ, S, De, re, rs, q, k⟩ =>
  ⟨ρ, S, _, re, rs, q, ⟨fun ρ' S' σ' H' q' g' re' => ⟨ρ', S', De, re', g'.rs, q', k.go g'⟩, k.rt, k.bk, k.ct⟩⟩
theorem dss_one (h1 : DS X st τ) : DSs X [st] τ := pss_one h1
def dBreak : TSD := fun De ρ S => De.bk ρ S
def dCont : TSD := fun De ρ S => De.ct ρ S
def dNever : TSD := fun _ _ _ => False
theorem ds_pass : DS X (.Pass pos) dNext := psW ps_pass fun E σ H ⟨ρ, S, De, re, rs, q, k⟩ => k.nx _ _ _ _ q (.refl rs) re
theorem ds_break : DS X (.Break pos) dBreak := psW ps_break fun E σ H ⟨ρ, S, De, re, rs, q, k⟩ => k.bk _ _ _ _ q (.refl rs) re
theorem ds_continue : DS X (.Continue pos) dCont := psW ps_continue fun E σ H ⟨ρ, S, De, re, rs, q, k⟩ => k.ct _ _ _ _ q (.refl rs) re
theorem ds_never : DS X st dNever := psW ps_never fun E σ H ⟨ρ, S, De, re, rs, q, k⟩ => q.elim
theorem dss_never {sts : List Stmt} : DSs X sts dNever := pssW pss_never fun E σ H ⟨ρ, S, De, re, rs, q, k⟩ => q.elim
def dDrop (δ : TED) : TSD := fun De ρ S => δ ρ S fun _ S1 => De.nx ρ S1
theorem ds_expr (he : DE X e δ) (hs : swapsWith e none pos.line X.env = pure false := by rfl) : DS X (.Expr e pos) (dDrop δ) := psW (ps_expr he hs) fun E σ H ⟨ρ, S, De, re, rs, q, k⟩ =>
  ⟨ρ, S, _, re, rs, q, fun d S1 v H1 q1 g1 r1 => k.nx _ _ _ _ q1 g1 (re.tp g1.tp)⟩
def dRet (δ : TED) : TSD := fun De ρ S => δ ρ S De.rt
theorem ds_ret (he : DE X e δ) : DS X (.Return (some e) pos) (dRet δ) := psW (ps_ret he) fun E σ H ⟨ρ, S, De, re, rs, q, k⟩ =>
  ⟨ρ, S, _, re, rs, q, fun d S1 v H1 q1 g1 r1 => k.rt _ _ _ _ q1 g1 r1⟩
def dRetN : TSD := fun De ρ S => De.rt .non S
theorem ds_retN : DS X (.Return none pos) dRetN := psW ps_retN fun E σ H ⟨ρ, S, De, re, rs, q, k⟩ => k.rt _ _ _ _ q (.refl rs) (by rw [RD])
def dIfS (t : TTD) (u w : TSD) : TSD := fun De ρ S => t ρ S fun b S1 => match b with
  | true => u De ρ S1
  | false => w De ρ S1
theorem ds_if {sa sb : List Stmt} (hc : DT X c θ) (ha : DSs X sa τ1) (hb : DSs X sb τ2) : DS X (.If c sa sb pos) (dIfS θ τ1 τ2) := psW (ps_if hc ha hb) fun E σ H ⟨ρ, S, De, re, rs, q, k⟩ => by
  refine ⟨ρ, S, _, re, rs, q, fun b S1 H1 q1 g1 => ?_⟩
  cases b with
  | true => exact ⟨ρ, S1, De, re.tp g1.tp, g1.rs, q1, k.go g1⟩
  | false => exact ⟨ρ, S1, De, re.tp g1.tp, g1.rs, q1, k.go g1⟩

/-! ### stores -/
def dAsg (i : Nat) (δ : TED) : TSD := fun De ρ S => δ ρ S fun d S1 => De.nx (ρ.set i (some d)) S1
theorem ds_set (i : Nat) {x : Str} {pos' : Pos} (hN : X.N.Nodup) (he : DE X e δ) (hi : X.N[i]? = some x := by rfl) (hx : Loc X.env.scope x := by first | exact Or.inl rfl | exact Or.inr rfl) (hs : swapsWith e (some (.Name x pos')) pos.line X.env = pure false := by rfl)
    (hf : X.fn x = true ∨ X.env.scope.names.lookup x = some .local := by first | exact .inl rfl | exact .inr rfl | assumption) : DS X (.Assign [.Name x pos'] e pos) (dAsg i δ) :=
  psW (ps_set hN hi hx he hs hf) fun E σ H ⟨ρ, S, De, re, rs, q, k⟩ => ⟨ρ, S, _, re, rs, q, fun d S1 v H1 q1 g1 r1 => k.nx _ _ _ _ q1 g1 ((re.tp g1.tp).set i r1)⟩
abbrev TGD := D → DEnv → Sto → (DEnv → Sto → Prop) → Prop
abbrev TGsD := List D → DEnv → Sto → (DEnv → Sto → Prop) → Prop
/-- but for the slots in L as it was -/
def Alk (L : List Nat) (σ σ' : L2.St) : Prop := ∀ vs : List Nat, (∀ i ∈ L, i ∈ vs) → wipe σ' vs = wipe σ vs
theorem wipe_get (σ : L2.St) (j : Nat) : ∀ vs : List Nat, (wipe σ vs)[j]? = if j ∈ vs then σ[j]?.map (fun _ => none) else σ[j]?
  | [] => by simp [L2.wipe]
  | v :: vs => by
    have ih := wipe_get σ j vs
    unfold L2.wipe
    rw [List.getElem?_set]
    by_cases h : v = j
    · subst h
      rw [if_pos rfl, wipe_length, if_pos (List.mem_cons_self ..)]
      by_cases hl : v < σ.length
      · rw [if_pos hl, List.getElem?_eq_getElem hl]; rfl
      · rw [if_neg hl, List.getElem?_eq_none (by omega)]; rfl
    · rw [if_neg h, ih]
      have e : (j ∈ v :: vs) = (j ∈ vs) := by
        simp [Ne.symm h]
      simp only [e]
theorem alk_set (i : Nat) (σ : L2.St) (x : Option V) : Alk [i] σ (σ.set i x) := fun vs h => by
  apply List.ext_getElem?
  intro j
  rw [wipe_get, wipe_get]
  by_cases hj : j ∈ vs
  · rw [if_pos hj, if_pos hj, List.getElem?_set]
    by_cases h2 : i = j
    · subst h2
      rw [if_pos rfl]
      by_cases hl : i < σ.length
      · rw [if_pos hl, List.getElem?_eq_getElem hl]; rfl
      · rw [if_neg hl, List.getElem?_eq_none (by omega)]
    · rw [if_neg h2]
  · rw [if_neg hj, if_neg hj, List.getElem?_set_ne]
    intro z
    exact hj (z ▸ h i (List.mem_singleton.mpr rfl))
theorem Alk.refl (σ : L2.St) : Alk [] σ σ := fun _ _ => rfl
theorem Alk.trans {L M : List Nat} {σ σ1 σ2 : L2.St} (a : Alk L σ σ1) (b : Alk M σ1 σ2) : Alk (L ++ M) σ σ2 := fun vs h =>
  (b vs fun i hi => h i (List.mem_append_right _ hi)).trans (a vs fun i hi => h i (List.mem_append_left _ hi))
def AftG (K : PySem.W.Frag) (L : List Nat) (S : Sto) (H : Hp) (σ : L2.St) (Qd : DEnv → Sto → Prop) (Q : L2.St → Hp → Prop) : Prop := ∀ ρ' S' σ' H', Qd ρ' S' → Go K S H S' H' → RE K S' H' ρ' σ' → Alk L σ σ' → Q σ' H'
def LG (K : PySem.W.Frag) (L : List Nat) (γ : TGD) : TG := fun v σ H Q => ∃ d ρ S Qd, RD K S H d v ∧ RE K S H ρ σ ∧ RS K S H ∧ γ d ρ S Qd ∧ AftG K L S H σ Qd Q
def LGs (K : PySem.W.Frag) (L : List Nat) (γ : TGsD) : TGs := fun vs σ H Q => ∃ ds ρ S Qd, RDs K S H ds vs ∧ RE K S H ρ σ ∧ RS K S H ∧ γ ds ρ S Qd ∧ AftG K L S H σ Qd Q
abbrev DG (X : Cx) (t : Expr) (L : List Nat) (γ : TGD) : Prop := PG X t (LG X.K L γ)
abbrev DGs (X : Cx) (ts : List Expr) (L : List Nat) (γ : TGsD) : Prop := PGs X ts (LGs X.K L γ)
theorem pgW {t t' : TG} (h : PG X e t) (w : ∀ v σ H Q, t' v σ H Q → t v σ H Q) : PG X e t' := ⟨fun pins s σ H v u Q I r q => h.run pins s σ H v u Q I r (w v σ H Q q)⟩
theorem pgsW {t t' : TGs} (h : PGs X es t) (w : ∀ v σ H Q, t' v σ H Q → t v σ H Q) : PGs X es t' := ⟨fun pins s σ H v u Q I r q => h.run pins s σ H v u Q I r (w v σ H Q q)⟩
def gN (i : Nat) : TGD := fun d ρ S Q => Q (ρ.set i (some d)) S
theorem dg_name (i : Nat) {x : Str} (hN : X.N.Nodup) (hi : X.N[i]? = some x := by rfl) (hx : Loc X.env.scope x := by first | exact Or.inl rfl | exact Or.inr rfl) (hf : X.fn x = true ∨ X.env.scope.names.lookup x = some .local := by first | exact .inl rfl | exact .inr rfl | assumption) :
    DG X (.Name x pos) [i] (gN i) := pgW (pg_name hN hi hx hf) fun v σ H Q ⟨d, ρ, S, Qd, r, re, rs, q, k⟩ => k _ _ _ _ q (.refl rs) (re.set i r) (alk_set i σ _)
def gsNil : TGsD := fun ds ρ S Q => match ds with
  | [] => Q ρ S
  | _ => False
def gsCons (γ : TGD) (γs : TGsD) : TGsD := fun ds ρ S Q => match ds with
  | d :: r => γ d ρ S fun ρ' S' => γs r ρ' S' Q
  | [] => False
theorem dgs_nil : DGs X [] [] gsNil := pgsW pgs_nil fun v σ H Q ⟨ds, ρ, S, Qd, r, re, rs, q, k⟩ => by
  cases ds with
  | nil => exact ⟨RDs.nil.mp r, k _ _ _ _ q (.refl rs) re (Alk.refl σ)⟩
  | cons _ _ => exact q.elim
theorem dgs_cons {γ : TGD} {γs : TGsD} {L M : List Nat} (h1 : DG X e L γ) (h2 : DGs X es M γs) (hs : (assignEach (e :: es) X.env).map (·.2) = assign e X.env :: (assignEach es X.env).map (·.2) := by rfl) : DGs X (e :: es) (L ++ M) (gsCons γ γs) :=
  pgsW (pgs_cons h1 h2 hs) fun vs σ H Q ⟨ds, ρ, S, Qd, r, re, rs, q, k⟩ => by
    cases ds with
    | nil => exact q.elim
    | cons d ds =>
      rw [RDs] at r
      obtain ⟨v, vr, rfl, r1, r2⟩ := r
      refine ⟨v, vr, rfl, d, ρ, S, _, r1, re, rs, q, fun ρ' S' σ' H' q' g' re' al => ?_⟩
      exact ⟨ds, ρ', S', Qd, r2.tp g'.tp, re', g'.rs, q', fun a b c d x y z w => k a b c d x (g'.trans y) z (al.trans w)⟩
def gT (n : Nat) (γs : TGsD) : TGD := fun d ρ S Q => match d with
  | .tup ds => ds.length = n ∧ γs ds ρ S Q
  | _ => False
theorem dg_tup {γs : TGsD} {L : List Nat} {k n : Nat} (h : DGs X es L γs) (hc : X.calm = true := by rfl) (hn : (assignEach es X.env).length = n := by rfl) (hst : (assignEach es X.env).findIdx? (·.1) = none := by rfl) : DG X (.Tuple es k pos) L (gT n γs) :=
  pgW (pg_tup hc h hn hst) fun v σ H Q ⟨d, ρ, S, Qd, r, re, rs, q, kk⟩ => by
    cases d with
    | tup ds =>
      rw [RD] at r
      obtain ⟨a, vs, rfl, r1, r2⟩ := r
      exact ⟨a, vs, rfl, r1, by rw [r2.len]; exact q.1, ds, ρ, S, Qd, r2, re, rs, q.2, kk⟩
    | _ => exact q.elim
def dAsgG (γ : TGD) (δ : TED) : TSD := fun De ρ S => δ ρ S fun d S1 => γ d ρ S1 De.nx
theorem ds_asg {tg : Expr} {γ : TGD} {L : List Nat} (he : DE X e δ) (hg : DG X tg L γ) (hs : swapsWithSole [tg] e pos.line X.env = pure false := by rfl) (hw : swappedStores [tg] e X.env = pure none := by rfl)
    (h1 : (assignEach [tg] X.env).map (·.2) = [assign tg X.env] := by rfl) : DS X (.Assign [tg] e pos) (dAsgG γ δ) := psW (ps_asg he hg hs hw h1) fun E σ H ⟨ρ, S, De, re, rs, q, k⟩ =>
  ⟨ρ, S, _, re, rs, q, fun d S1 v H1 q1 g1 r1 => ⟨d, ρ, S1, _, r1, re.tp g1.tp, g1.rs, q1, fun a b c d x y z _ => k.nx a b c d x (g1.trans y) z⟩⟩
/-- a, b = x, y -/
def dPar2 (i j : Nat) (α : TAD) : TSD := fun De ρ S => α ρ S fun ds S1 => match ds with
  | [d, e] => De.nx ((ρ.set i (some d)).set j (some e)) S1
  | _ => False
theorem ds_par2 (i j : Nat) {x y : Str} {px py pt : Pos} {kt k2 pt2} (hN : X.N.Nodup) (ha : DA X [a, b] α) (hc : X.calm = true := by rfl) (hi : X.N[i]? = some x := by rfl) (hj : X.N[j]? = some y := by rfl) (hij : i ≠ j := by decide)
    (hx : X.env.scope.names.lookup x = some .local := by rfl) (hy : X.env.scope.names.lookup y = some .local := by rfl)
    (hw : swappedStores [.Tuple [.Name x px, .Name y py] kt pt] (.Tuple [a, b] k2 pt2) X.env = pure (some [x, y]) := by rfl)
    (hs : swapsWithSole [.Tuple [.Name x px, .Name y py] kt pt] (.Tuple [a, b] k2 pt2) pos.line X.env = pure false := by rfl) :
    DS X (.Assign [.Tuple [.Name x px, .Name y py] kt pt] (.Tuple [a, b] k2 pt2) pos) (dPar2 i j α) := psW (ps_par hc hN hi hj hij hx hy ha hw hs) fun E σ H ⟨ρ, S, De, re, rs, q, k⟩ => by
  refine ⟨ρ, S, _, re, rs, q, fun ds S1 vs H1 q1 g1 r1 => ?_⟩
  try dsimp only at q1
  split at q1
  · obtain ⟨v, w, rfl, r2, r3⟩ := r1.two
    exact ⟨v, w, rfl, k.nx _ _ _ _ q1 g1 (((re.tp g1.tp).set i r2).set j r3)⟩
  · exact q1.elim
def dPar3 (i j l : Nat) (α : TAD) : TSD := fun De ρ S => α ρ S fun ds S1 => match ds with
  | [d, e, f] => De.nx (((ρ.set i (some d)).set j (some e)).set l (some f)) S1
  | _ => False
/-- name op= e -/
def dAug (i : Nat) (o : R2D) (δ : TED) : TSD := fun De ρ S => match ρ[i]? with
  | some (some d) => δ ρ S fun e S1 => o d e S1 fun z S2 => De.nx (ρ.set i (some z)) S2
  | _ => False
theorem ds_aug (i : Nat) {x : Str} {op : Operator} {o : R2D} {pos' : Pos} (hN : X.N.Nodup) (ho : OpD X (inplaceOp op) o) (he : DE X e δ) (hi : X.N[i]? = some x := by rfl) (hx : Loc X.env.scope x := by first | exact Or.inl rfl | exact Or.inr rfl)
    (hf : X.fn x = true ∨ X.env.scope.names.lookup x = some .local := by first | exact .inl rfl | exact .inr rfl | assumption) : DS X (.AugAssign (.Name x pos') op e pos) (dAug i o δ) := psW (ps_aug hN hi hx he (ti := Lf2 X.K o) ho hf) fun E σ H ⟨ρ, S, De, re, rs, q, k⟩ => by
  unfold dAug at q
  split at q
  · rename_i d hd
    obtain ⟨v, e1, r1⟩ := re.2 i d hd
    refine ⟨v, e1, ρ, S, _, re, rs, q, fun e' S1 w H1 q1 g1 r2 => ?_⟩
    exact ⟨d, e', S1, _, r1.tp g1.tp, r2, g1.rs, q1, fun z S2 u H2 q2 g2 r3 => k.nx _ _ _ _ q2 (g1.trans g2) ((re.tp (g1.trans g2).tp).set i r3)⟩
  · exact q.elim
/-- o[i] = e; o[i] op= e -/
abbrev TSetD := D → D → D → Sto → (Sto → Prop) → Prop
def LfSet (K : PySem.W.Frag) (o : TSetD) : TSet := fun x y z H Q => ∃ d e f S Qd, RD K S H d x ∧ RD K S H e y ∧ RD K S H f z ∧ RS K S H ∧ o d e f S Qd ∧ ∀ S' H', Qd S' → Go K S H S' H' → Q H'
abbrev SetD (X : Cx) (o : TSetD) : Prop := PSet X (LfSet X.K o)
theorem setD_of {r : TSet} {o : TSetD} (h : PSet X r) (w : ∀ d e f x y z S H Qd Q, RD X.K S H d x → RD X.K S H e y → RD X.K S H f z → RS X.K S H → o d e f S Qd → (∀ S' H', Qd S' → Go X.K S H S' H' → Q H') → r x y z H Q) : SetD X o :=
  fun pins s σ H x y z ov iv u Q I r1 r2 r3 ⟨d, e, f, S, Qd, q1, q2, q3, rs, q, k⟩ => h pins s σ H x y z ov iv u Q I r1 r2 r3 (w d e f x y z S H Qd Q q1 q2 q3 rs q k)
theorem setD_or {o o' : TSetD} (h : SetD X o) (h' : SetD X o') : SetD X (fun d e f S Q => o d e f S Q ∨ o' d e f S Q) := by
  intro pins s σ H x y z ov iv u Q I r1 r2 r3 ⟨d, e, f, S, Qd, q1, q2, q3, rs, q, k⟩
  rcases q with q | q
  · exact h pins s σ H x y z ov iv u Q I r1 r2 r3 ⟨d, e, f, S, Qd, q1, q2, q3, rs, q, k⟩
  · exact h' pins s σ H x y z ov iv u Q I r1 r2 r3 ⟨d, e, f, S, Qd, q1, q2, q3, rs, q, k⟩
def gSb (δo δi : TED) (o : TSetD) : TGD := fun f ρ S Q => δo ρ S fun d S1 => δi ρ S1 fun e S2 => o d e f S2 fun S3 => Q ρ S3
theorem dg_sub {ob ix : Expr} {o : TSetD} {δo δi : TED} (ho : DE X ob δo) (hi : DE X ix δi) (hs : SetD X o)
    (ha : ∀ v, assign (.Subscript ob ix pos) X.env v = (do
      let ov ← holding [v] (eval ob X.env)
      let iv ← holding [v, ov] (eval ix X.env)
      standAt pos
      holding [v, ov, iv] (setItem ov iv v)
      release [v, ov, iv] []) := by intro _; rfl) : DG X (.Subscript ob ix pos) [] (gSb δo δi o) := pgW (pg_sub ho hi hs ha) fun v σ H Q ⟨f, ρ, S, Qd, r, re, rs, q, k⟩ => by
  refine ⟨ρ, S, _, re, rs, q, fun d S1 v1 H1 q1 g1 r1 => ?_⟩
  refine ⟨ρ, S1, _, re.tp g1.tp, g1.rs, q1, fun e S2 v2 H2 q2 g2 r2 => ?_⟩
  exact ⟨d, e, f, S2, _, r1.tp g2.tp, r2, r.tp (g1.trans g2).tp, g2.rs, q2, fun S3 H3 q3 g3 => k _ _ _ _ q3 ((g1.trans g2).trans g3) (re.tp ((g1.trans g2).trans g3).tp) (Alk.refl σ)⟩
/-- o[i], by values (for o[i] op= e) -/
abbrev GetD (X : Cx) (o : R2D) : Prop := PGet X (Lf2 X.K o)
def dAugS (δo δi δ : TED) (og oi : R2D) (os : TSetD) : TSD := fun De ρ S => δo ρ S fun d S1 => δi ρ S1 fun i S2 => og d i S2 fun x S3 => δ ρ S3 fun y S4 => oi x y S4 fun z S5 => os d i z S5 fun S6 => De.nx ρ S6
theorem ds_augS {ob ix : Expr} {δo δi : TED} {og oi : R2D} {os : TSetD} {op : Operator} {tpos : Pos} (ho : DE X ob δo) (hi : DE X ix δi) (hg : GetD X og) (he : DE X e δ) (hp : OpD X (inplaceOp op) oi) (hs : SetD X os)
    (ha : ∀ ov iv new, augStore ix ov iv new = (do holding [new, ov, iv] (setItem ov iv new); release [new, ov, iv] []; pure .next) := by intros; rfl) : DS X (.AugAssign (.Subscript ob ix tpos) op e pos) (dAugS δo δi δ og oi os) :=
  psW (ps_augS ho hi hg he (tip := Lf2 X.K oi) hp hs ha) fun E σ H ⟨ρ, S, De, re, rs, q, k⟩ => by
    refine ⟨ρ, S, _, re, rs, q, fun d S1 v1 H1 q1 g1 r1 => ?_⟩
    refine ⟨ρ, S1, _, re.tp g1.tp, g1.rs, q1, fun i S2 v2 H2 q2 g2 r2 => ?_⟩
    refine ⟨d, i, S2, _, r1.tp g2.tp, r2, g2.rs, q2, fun x S3 v3 H3 q3 g3 r3 => ?_⟩
    have g13 := (g1.trans g2).trans g3
    refine ⟨ρ, S3, _, re.tp g13.tp, g3.rs, q3, fun y S4 v4 H4 q4 g4 r4 => ?_⟩
    refine ⟨x, y, S4, _, r3.tp g4.tp, r4, g4.rs, q4, fun z S5 v5 H5 q5 g5 r5 => ?_⟩
    have g25 := (g2.trans g3).trans (g4.trans g5)
    refine ⟨d, i, z, S5, _, r1.tp g25.tp, r2.tp ((g3.trans g4).trans g5).tp, r5, g5.rs, q5, fun S6 H6 q6 g6 => ?_⟩
    exact k.nx _ _ _ _ q6 (g1.trans (g25.trans g6)) (re.tp (g1.trans (g25.trans g6)).tp)

/-! ### what is walked -/
structure ItD where
  xs : List D
  ok : Sto → Prop
structure Wk (K : PySem.W.Frag) (J : It) (it : ItD) (S : Sto) (H : Hp) : Prop where
  go : ∀ i x S' H', it.xs[i]? = some x → Tp S H S' H' → RS K S' H' → it.ok S' → J.go i H' ∧ ∀ v H2, J.yld i H' v H2 → Go K S' H' S' H2 ∧ RD K S' H2 x v
  stop : ∀ S' H', Tp S H S' H' → RS K S' H' → it.ok S' → J.stop it.xs.length H'
abbrev TID := DEnv → Sto → (ItD → Sto → Prop) → Prop
def LI (K : PySem.W.Frag) (ι : TID) : TI := fun σ H R => ∃ ρ S Qd, RE K S H ρ σ ∧ RS K S H ∧ ι ρ S Qd ∧ ∀ it S' H' J, Qd it S' → Go K S H S' H' → Wk K J it S' H' → R J H'
abbrev DI (X : Cx) (tg iter : Expr) (ι : TID) : Prop := PI X tg iter (LI X.K ι)
theorem piW {tg iter : Expr} {t t' : TI} (h : PI X tg iter t) (w : ∀ σ H Q, t' σ H Q → t σ H Q) : PI X tg iter t' := ⟨fun pins s σ H Q I q => h.run pins s σ H Q I (w σ H Q q)⟩
/-- a tuple, a list that nobody changes; a tracked list must stand -/
def Sto.itOf (S : Sto) : D → Option ItD
  | .tup ds => some ⟨ds, fun _ => True⟩
  | .tpx ds => some ⟨ds, fun _ => True⟩
  | .fz ds => some ⟨ds, fun _ => True⟩
  | .lst ds => some ⟨ds, fun _ => True⟩
  | .ref p => match S p with
    | some (.lst ds) => some ⟨ds, fun S' => S' p = some (.lst ds)⟩
    | _ => none
  | _ => none
/-- the source, seen from any later time -/
theorem src_at {K : PySem.W.Frag} {S : Sto} {H : Hp} {d : D} {v : V} {it : ItD} (h : S.itOf d = some it) (rd : RD K S H d v) (rs : RS K S H) :
    ∃ b a, v = .ref a ∧ it.ok S ∧ ∀ S' H', Tp S H S' H' → RS K S' H' → it.ok S' → ∃ vs, Sq b K H' a vs ∧ RDs K S' H' it.xs vs := by
  cases d with
  | tup es =>
    have e := Option.some.inj h
    subst e
    rw [RD] at rd
    obtain ⟨a, vs, h1, h2, h3⟩ := rd
    exact ⟨false, a, h1, trivial, fun S' H' tp _ _ => ⟨vs, tp.sqt h2, h3.tp tp⟩⟩
  | tpx es =>
    have e := Option.some.inj h
    subst e
    rw [RD] at rd
    obtain ⟨a, o, vs, h1, h2, _, h3⟩ := rd
    exact ⟨false, a, h1, trivial, fun S' H' tp _ _ => ⟨vs, .inl (.inr ⟨o, tp.frz _ _ _ h2⟩), h3.tp tp⟩⟩
  | fz es =>
    have e := Option.some.inj h
    subst e
    rw [RD] at rd
    obtain ⟨a, vs, h1, h2, h3⟩ := rd
    exact ⟨true, a, h1, trivial, fun S' H' tp _ _ => ⟨vs, KL.sq (h2.imp (fun ⟨o, q⟩ => ⟨o, tp.frz _ _ _ q⟩) id), h3.tp tp⟩⟩
  | lst es =>
    have e := Option.some.inj h
    subst e
    rw [RD] at rd
    obtain ⟨a, vs, h1, h0, h2, h3⟩ := rd
    exact ⟨true, a, h1, trivial, fun S' H' tp _ _ => ⟨vs, .inl (.inl (tp.old _ _ h0 h2).2), h3.tp tp⟩⟩
  | ref p =>
    rw [RD] at rd
    have h' : (match S p with
      | some (.lst ds) => some (⟨ds, fun S' => S' p = some (.lst ds)⟩ : ItD)
      | _ => none) = some it := h
    split at h'
    · rename_i es he
      have e := Option.some.inj h'
      subst e
      refine ⟨true, p, rd, he, fun S' H' tp rs' ok => ?_⟩
      obtain ⟨vs, h1, h2⟩ := rs' p _ ok
      exact ⟨vs, .inl (.inl h1), h2⟩
    · cases h'
  | _ => cases h
def itSq (b : Bool) (K : PySem.W.Frag) (a : Addr) : It := match b with
  | true => Itl K a
  | false => Itt K a
def iSq (K : PySem.W.Frag) (tl : TE) : TI := fun σ H R => tl σ H fun x H1 => ∃ b a, x = .ref a ∧ (∃ xs, Sq b K H1 a xs) ∧ R (itSq b K a) H1
theorem pi_sq {tg l : Expr} {tl : TE} (hl : PE X l tl) : PI X tg l (iSq X.K tl) := by
  refine ⟨fun pins s σ H R I h => ?_⟩
  refine thn (hl.run pins s σ H _ I h) fun v s1 ⟨x, H1, I1, r1, b, a, e, ⟨xs, hq⟩, q⟩ => ?_
  subst e
  cases b with
  | true =>
    cases r1
    obtain ⟨its, rv, p, hz⟩ := I1.list hq
    refine wpAny_pyIter_list p.isList ?_
    refine ⟨s1.heap.objs.size, [s1.heap.objs.size], _, _, H1, rfl, I1.kept (t' := s1.toks) fun b o e => Heap.get?_push_of_some _ e, turn_list a _, ⟨_, Heap.get?_push_size _ rfl, rfl, rfl⟩, fun b hb => ?_, q⟩
    have e : b = s1.heap.objs.size := by simpa using hb
    subst e
    exact I1.fpOk (Nat.le_refl _) (I1.hok.fresh (Nat.le_refl _))
  | false =>
    cases r1
    obtain ⟨its, rv, p, hz⟩ := I1.tuple hq
    refine wpAny_pyIter_tuple (show s1.heap.IsTuple a its.toArray from p) ?_
    refine ⟨s1.heap.objs.size, [s1.heap.objs.size], _, _, H1, rfl, I1.kept (t' := s1.toks) fun b o e => Heap.get?_push_of_some _ e, turn_tuple a _, ⟨_, Heap.get?_push_size _ rfl, rfl, rfl⟩, fun b hb => ?_, q⟩
    have e : b = s1.heap.objs.size := by simpa using hb
    subst e
    exact I1.fpOk (Nat.le_refl _) (I1.hok.fresh (Nat.le_refl _))

def dIt (δ : TED) : TID := fun ρ S Q => δ ρ S fun x S1 => match S1.itOf x with
  | some it => Q it S1
  | none => False
theorem wk_sq {K : PySem.W.Frag} {S : Sto} {H : Hp} {it : ItD} {b : Bool} {a : Addr} (h : ∀ S' H', Tp S H S' H' → RS K S' H' → it.ok S' → ∃ vs, Sq b K H' a vs ∧ RDs K S' H' it.xs vs) : Wk K (itSq b K a) it S H := by
  refine ⟨fun i x S' H' hx tp rs ok => ?_, fun S' H' tp rs ok => ?_⟩
  · obtain ⟨vs, h1, h2⟩ := h S' H' tp rs ok
    obtain ⟨v, e1, r1⟩ := h2.get hx
    cases b with
    | true =>
      refine ⟨⟨vs, v, h1, e1⟩, fun w H2 y => ?_⟩
      obtain ⟨rfl, y⟩ := y
      have e2 := y vs h1
      rw [e1] at e2; cases e2
      exact ⟨.refl rs, r1⟩
    | false =>
      refine ⟨⟨vs, v, h1, e1⟩, fun w H2 y => ?_⟩
      obtain ⟨rfl, y⟩ := y
      have e2 := y vs h1
      rw [e1] at e2; cases e2
      exact ⟨.refl rs, r1⟩
  · obtain ⟨vs, h1, h2⟩ := h S' H' tp rs ok
    cases b with
    | true => exact ⟨vs, h1, Nat.le_of_eq h2.len⟩
    | false => exact ⟨vs, h1, Nat.le_of_eq h2.len⟩
theorem di_sq {tg l : Expr} (hl : DE X l δ) : DI X tg l (dIt δ) := piW (pi_sq hl) fun σ H R ⟨ρ, S, Qd, re, rs, q, k⟩ => by
  refine ⟨ρ, S, _, re, rs, q, fun d S1 v H1 q1 g1 r1 => ?_⟩
  try dsimp only at q1
  split at q1
  · rename_i it hit
    obtain ⟨b, a, e, ok, sr⟩ := src_at hit r1 g1.rs
    obtain ⟨vs, h1, _⟩ := sr S1 H1 Tp.refl g1.rs ok
    exact ⟨b, a, e, ⟨vs, h1⟩, k _ _ _ _ q1 g1 (wk_sq sr)⟩
  · exact q1.elim
/-- enumerate(l) -/
def enumFrom (n : Nat) : List D → List D
  | [] => []
  | d :: ds => .tup [.int (n : Int), d] :: enumFrom (n + 1) ds
theorem enumFrom_get : ∀ (ds : List D) (n i : Nat), (enumFrom n ds)[i]? = ds[i]?.map fun d => .tup [.int ((n + i : Nat) : Int), d]
  | [], n, i => by simp [enumFrom]
  | d :: ds, n, 0 => by simp [enumFrom]
  | d :: ds, n, i + 1 => by
    rw [enumFrom, List.getElem?_cons_succ, List.getElem?_cons_succ, enumFrom_get ds (n + 1) i]
    have e : n + 1 + i = n + (i + 1) := by omega
    rw [e]
theorem enumFrom_len : ∀ (ds : List D) (n : Nat), (enumFrom n ds).length = ds.length
  | [], _ => rfl
  | d :: ds, n => by rw [enumFrom, List.length_cons, List.length_cons, enumFrom_len ds]
def dEnum (δ : TED) : TID := fun ρ S Q => δ ρ S fun x S1 => match S1.itOf x with
  | some it => Q ⟨enumFrom 0 it.xs, it.ok⟩ S1
  | none => False
theorem RD.int {K : PySem.W.Frag} {S : Sto} {H : Hp} {i : Int} : RD K S H (.int i) (.int i) := by rw [RD]
theorem RD.pair {K : PySem.W.Frag} {S : Sto} {H : Hp} {d e : D} {v w : V} {T : Addr} (hT : H T = some (.tup [v, w])) (h1 : RD K S H d v) (h2 : RD K S H e w) : RD K S H (.tup [d, e]) (.ref T) := by
  rw [RD]; exact ⟨T, [v, w], rfl, .of hT, RDs.cons h1 (RDs.cons h2 (RDs.nil.mpr rfl))⟩
theorem di_enum {elts : List Expr} {kk : Nat} {tpos p : Pos} (hm : X.mg "enumerate" = none) (hl : DE X e δ) (hg : Gl X "enumerate" := by rfl) (hs : starEach [e] X.env = [(false, eval e X.env)] := by rfl) :
    DI X (.Tuple elts kk tpos) (.Call (.Name "enumerate" p) [e] [] pos) (dEnum δ) := piW (pi_E hg hm (ha := pa_cons hl pa_nil hs) hs) fun σ H R ⟨ρ, S, Qd, re, rs, q, k⟩ => by
  refine ⟨ρ, S, _, re, rs, q, fun d S1 v H1 q1 g1 r1 => ?_⟩
  try dsimp only at q1
  split at q1
  · rename_i it hit
    obtain ⟨b, a, rfl, ok, sr⟩ := src_at hit r1 g1.rs
    obtain ⟨vs, h1, _⟩ := sr S1 H1 Tp.refl g1.rs ok
    refine ⟨b, a, vs, rfl, h1, k _ _ _ _ q1 g1 ⟨fun i x S' H' hx tp rs' ok' => ?_, fun S' H' tp rs' ok' => ?_⟩⟩
    · obtain ⟨vs', h1', h2'⟩ := sr S' H' tp rs' ok'
      rw [enumFrom_get] at hx
      cases e : it.xs[i]? with
      | none => rw [e] at hx; cases hx
      | some y =>
        rw [e] at hx
        cases hx
        obtain ⟨w, e1, rw1⟩ := h2'.get e
        refine ⟨⟨vs', w, h1', e1⟩, fun u H2 yy => ?_⟩
        obtain ⟨T, x', rfl, nT, rfl, hy⟩ := yy
        have e2 := hy vs' h1'
        rw [e1] at e2; cases e2
        have g : Go X.K S' H' S' (upd H' T (.tup [.int (i : Nat), w])) := Go.fresh rs' nT
        refine ⟨g, RD.pair upd_same ?_ (rw1.tp g.tp)⟩
        rw [Nat.zero_add]
        exact RD.int
    · obtain ⟨vs', h1', h2'⟩ := sr S' H' tp rs' ok'
      exact ⟨vs', h1', by rw [enumFrom_len]; exact h2'.len⟩
  · exact q1.elim
/-- zip(l, m) -/
def dZip2 (δa δb : TED) : TID := fun ρ S Q => δa ρ S fun x S1 => δb ρ S1 fun y S2 => match S2.itOf x, S2.itOf y with
  | some i, some j => Q ⟨List.zipWith (fun d e => .tup [d, e]) i.xs j.xs, fun S' => i.ok S' ∧ j.ok S'⟩ S2
  | _, _ => False
theorem di_zip2 {e2 : Expr} {elts : List Expr} {kk : Nat} {tpos p : Pos} (hm : X.mg "zip" = none) (hl : DE X e δa) (hl2 : DE X e2 δb) (hg : Gl X "zip" := by rfl) (hs2 : starEach [e2] X.env = (false, eval e2 X.env) :: starEach [] X.env := by rfl)
    (hs : starEach [e, e2] X.env = (false, eval e X.env) :: starEach [e2] X.env := by rfl) (hpl : (backTo pos (starEach [e2] X.env)).any (·.1) = false := by rfl) :
    DI X (.Tuple elts kk tpos) (.Call (.Name "zip" p) [e, e2] [] pos) (dZip2 δa δb) := piW (pi_Z2 hg hm (ha := pa_cons hl (pa_cons hl2 pa_nil hs2) hs) hs hpl) fun σ H R ⟨ρ, S, Qd, re, rs, q, k⟩ => by
  refine ⟨ρ, S, _, re, rs, q, fun d S1 v H1 q1 g1 r1 => ?_⟩
  refine ⟨ρ, S1, _, re.tp g1.tp, g1.rs, q1, fun d' S2 v' H2 q2 g2 r2 => ?_⟩
  try dsimp only at q2
  split at q2
  · rename_i it jt hit hjt
    obtain ⟨b, a, rfl, ok, sr⟩ := src_at hit (r1.tp g2.tp) g2.rs
    obtain ⟨b', a', rfl, ok2, sr2⟩ := src_at hjt r2 g2.rs
    obtain ⟨vs, h1, _⟩ := sr S2 H2 Tp.refl g2.rs ok
    obtain ⟨vs2, h12, _⟩ := sr2 S2 H2 Tp.refl g2.rs ok2
    refine ⟨b, b', a, a', vs, vs2, rfl, h1, h12, k _ _ _ _ q2 (g1.trans g2) ⟨fun i x S' H' hx tp rs' ok' => ?_, fun S' H' tp rs' ok' => ?_⟩⟩
    · obtain ⟨ws, s1, s2⟩ := sr S' H' tp rs' ok'.1
      obtain ⟨ws2, s12, s22⟩ := sr2 S' H' tp rs' ok'.2
      rw [List.getElem?_zipWith] at hx
      cases e1 : it.xs[i]? with
      | none => rw [e1] at hx; cases hx
      | some y =>
        cases e2 : jt.xs[i]? with
        | none => rw [e1, e2] at hx; cases hx
        | some y2 =>
          rw [e1, e2] at hx
          cases hx
          obtain ⟨w, f1, rw1⟩ := s2.get e1
          obtain ⟨w2, f2, rw2⟩ := s22.get e2
          refine ⟨⟨ws, ws2, w, w2, s1, s12, f1, f2⟩, fun u H3 yy => ?_⟩
          obtain ⟨T, x', y', rfl, nT, rfl, hy, hy2⟩ := yy
          have e3 := hy ws s1
          rw [f1] at e3; cases e3
          have e4 := hy2 ws2 s12
          rw [f2] at e4; cases e4
          have g : Go X.K S' H' S' (upd H' T (.tup [w, w2])) := Go.fresh rs' nT
          exact ⟨g, RD.pair upd_same (rw1.tp g.tp) (rw2.tp g.tp)⟩
    · obtain ⟨ws, s1, s2⟩ := sr S' H' tp rs' ok'.1
      obtain ⟨ws2, s12, s22⟩ := sr2 S' H' tp rs' ok'.2
      have l1 := s2.len
      have l2 := s22.len
      refine ⟨ws, ws2, s1, s12, ?_, ?_, ?_⟩ <;> rw [List.length_zipWith] <;> omega
  · exact q2.elim
def dZip3 (δa δb δc : TED) : TID := fun ρ S Q => δa ρ S fun x S1 => δb ρ S1 fun y S2 => δc ρ S2 fun z S3 => match S3.itOf x, S3.itOf y, S3.itOf z with
  | some i, some j, some l => Q ⟨List.zipWith (fun d (e : D × D) => .tup [d, e.1, e.2]) i.xs (List.zip j.xs l.xs), fun S' => i.ok S' ∧ j.ok S' ∧ l.ok S'⟩ S3
  | _, _, _ => False
theorem di_zip3 {e2 e3 : Expr} {elts : List Expr} {kk : Nat} {tpos p : Pos} (hm : X.mg "zip" = none) (hl : DE X e δa) (hl2 : DE X e2 δb) (hl3 : DE X e3 δc) (hg : Gl X "zip" := by rfl) (hs3 : starEach [e3] X.env = (false, eval e3 X.env) :: starEach [] X.env := by rfl)
    (hs2 : starEach [e2, e3] X.env = (false, eval e2 X.env) :: starEach [e3] X.env := by rfl)
    (hs : starEach [e, e2, e3] X.env = (false, eval e X.env) :: starEach [e2, e3] X.env := by rfl) (hpl : (backTo pos (starEach [e2, e3] X.env)).any (·.1) = false := by rfl) :
    DI X (.Tuple elts kk tpos) (.Call (.Name "zip" p) [e, e2, e3] [] pos) (dZip3 δa δb δc) := piW (pi_Z3 hg hm (ha := pa_cons hl (pa_cons hl2 (pa_cons hl3 pa_nil hs3) hs2) hs) hs hpl) fun σ H R ⟨ρ, S, Qd, re, rs, q, k⟩ => by
  refine ⟨ρ, S, _, re, rs, q, fun d S1 v H1 q1 g1 r1 => ?_⟩
  refine ⟨ρ, S1, _, re.tp g1.tp, g1.rs, q1, fun d' S2 v' H2 q2 g2 r2 => ?_⟩
  refine ⟨ρ, S2, _, re.tp (g1.trans g2).tp, g2.rs, q2, fun d'' S3 v'' H3 q3 g3 r3 => ?_⟩
  try dsimp only at q3
  split at q3
  · rename_i it jt lt hit hjt hlt
    obtain ⟨b, a, rfl, ok, sr⟩ := src_at hit (r1.tp (g2.trans g3).tp) g3.rs
    obtain ⟨b', a', rfl, ok2, sr2⟩ := src_at hjt (r2.tp g3.tp) g3.rs
    obtain ⟨b'', a'', rfl, ok3, sr3⟩ := src_at hlt r3 g3.rs
    obtain ⟨vs, h1, _⟩ := sr S3 H3 Tp.refl g3.rs ok
    obtain ⟨vs2, h12, _⟩ := sr2 S3 H3 Tp.refl g3.rs ok2
    obtain ⟨vs3, h13, _⟩ := sr3 S3 H3 Tp.refl g3.rs ok3
    refine ⟨b, b', b'', a, a', a'', vs, vs2, vs3, rfl, h1, h12, h13, k _ _ _ _ q3 ((g1.trans g2).trans g3) ⟨fun i x S' H' hx tp rs' ok' => ?_, fun S' H' tp rs' ok' => ?_⟩⟩
    · obtain ⟨ws, s1, s2⟩ := sr S' H' tp rs' ok'.1
      obtain ⟨ws2, s12, s22⟩ := sr2 S' H' tp rs' ok'.2.1
      obtain ⟨ws3, s13, s23⟩ := sr3 S' H' tp rs' ok'.2.2
      rw [List.getElem?_zipWith] at hx
      cases e1 : it.xs[i]? with
      | none => rw [e1] at hx; cases hx
      | some y =>
        cases e2 : (List.zip jt.xs lt.xs)[i]? with
        | none => rw [e1, e2] at hx; cases hx
        | some y2 =>
          rw [e1, e2] at hx
          cases hx
          rw [List.getElem?_zip_eq_some] at e2
          obtain ⟨w, f1, rw1⟩ := s2.get e1
          obtain ⟨w2, f2, rw2⟩ := s22.get e2.1
          obtain ⟨w3, f3, rw3⟩ := s23.get e2.2
          refine ⟨⟨ws, ws2, ws3, w, w2, w3, s1, s12, s13, f1, f2, f3⟩, fun u H3 yy => ?_⟩
          obtain ⟨T, x', y', z', rfl, nT, rfl, hy, hy2, hy3⟩ := yy
          have e3 := hy ws s1
          rw [f1] at e3; cases e3
          have e4 := hy2 ws2 s12
          rw [f2] at e4; cases e4
          have e5 := hy3 ws3 s13
          rw [f3] at e5; cases e5
          have g : Go X.K S' H' S' (upd H' T (.tup [w, w2, w3])) := Go.fresh rs' nT
          refine ⟨g, ?_⟩
          rw [RD]
          exact ⟨T, [w, w2, w3], rfl, .of upd_same, RDs.cons (rw1.tp g.tp) (RDs.cons (rw2.tp g.tp) (RDs.cons (rw3.tp g.tp) (RDs.nil.mpr rfl)))⟩
    · obtain ⟨ws, s1, s2⟩ := sr S' H' tp rs' ok'.1
      obtain ⟨ws2, s12, s22⟩ := sr2 S' H' tp rs' ok'.2.1
      obtain ⟨ws3, s13, s23⟩ := sr3 S' H' tp rs' ok'.2.2
      have l1 := s2.len
      have l2 := s22.len
      have l3 := s23.len
      refine ⟨ws, ws2, ws3, s1, s12, s13, ?_, ?_, ?_, ?_⟩ <;> rw [List.length_zipWith, List.length_zip] <;> omega
  · exact q3.elim
/-- range -/
def rangeD (lo : Int) (n : Nat) : List D := (List.range n).map fun (i : Nat) => .int (lo + i)
theorem rangeD_get (lo : Int) (n i : Nat) : (rangeD lo n)[i]? = if i < n then some (.int (lo + i)) else none := by
  unfold rangeD
  rw [List.getElem?_map]
  split
  · rw [List.getElem?_range (by assumption)]; rfl
  · rw [List.getElem?_eq_none (by simp; omega)]; rfl
theorem rangeD_len (lo : Int) (n : Nat) : (rangeD lo n).length = n := by unfold rangeD; simp
theorem wk_range {K : PySem.W.Frag} {S : Sto} {H : Hp} (lo : Int) (n : Nat) : Wk K (Itr lo n) ⟨rangeD lo n, fun _ => True⟩ S H := by
  refine ⟨fun i x S' H' hx tp rs ok => ?_, fun S' H' tp rs ok => ?_⟩
  · rw [rangeD_get] at hx
    split at hx
    · cases hx
      exact ⟨by assumption, fun v H2 y => by
        obtain ⟨rfl, rfl⟩ := y
        exact ⟨.refl rs, RD.int⟩⟩
    · cases hx
  · show n ≤ _
    rw [rangeD_len]
    exact Nat.le_refl _
def dRng1 (δ : TED) : TID := fun ρ S Q => δ ρ S fun x S1 => match x with
  | .int j => (-(2 ^ 62) ≤ j ∧ j < 2 ^ 62) ∧ Q ⟨rangeD 0 j.toNat, fun _ => True⟩ S1
  | _ => False
theorem di_range1 {tg : Expr} {p : Pos} (hm : X.mg "range" = none) (hl : DE X e δ) (hg : Gl X "range" := by rfl) (hs : starEach [e] X.env = [(false, eval e X.env)] := by rfl) :
    DI X tg (.Call (.Name "range" p) [e] [] pos) (dRng1 δ) := piW (pi_range1 hg hm (ha := pa_cons hl pa_nil hs) hs) fun σ H R ⟨ρ, S, Qd, re, rs, q, k⟩ => by
  refine ⟨ρ, S, _, re, rs, q, fun d S1 v H1 q1 g1 r1 => ?_⟩
  try dsimp only at q1
  split at q1
  · rw [RD] at r1
    subst r1
    exact ⟨_, rfl, q1.1.1, q1.1.2, k _ _ _ _ q1.2 g1 (wk_range _ _)⟩
  · exact q1.elim
def dRng2 (δa δb : TED) : TID := fun ρ S Q => δa ρ S fun x S1 => δb ρ S1 fun y S2 => match x, y with
  | .int i, .int j => (-(2 ^ 62) ≤ i ∧ i < 2 ^ 62 ∧ -(2 ^ 62) ≤ j ∧ j < 2 ^ 62) ∧ Q ⟨rangeD i (j - i).toNat, fun _ => True⟩ S2
  | _, _ => False
theorem di_range2 {tg e2 : Expr} {p : Pos} (hm : X.mg "range" = none) (hl : DE X e δa) (hl2 : DE X e2 δb) (hg : Gl X "range" := by rfl) (hs : starEach [e, e2] X.env = [(false, eval e X.env), (false, eval e2 X.env)] := by rfl) (hs2 : starEach [e2] X.env = [(false, eval e2 X.env)] := by rfl) :
    DI X tg (.Call (.Name "range" p) [e, e2] [] pos) (dRng2 δa δb) := piW (pi_range2 hg hm (ha := pa_cons hl (pa_cons hl2 pa_nil hs2) (by rw [hs, hs2])) hs hs2) fun σ H R ⟨ρ, S, Qd, re, rs, q, k⟩ => by
  refine ⟨ρ, S, _, re, rs, q, fun d S1 v H1 q1 g1 r1 => ?_⟩
  refine ⟨ρ, S1, _, re.tp g1.tp, g1.rs, q1, fun d' S2 v' H2 q2 g2 r2 => ?_⟩
  try dsimp only at q2
  split at q2
  · rw [RD] at r1 r2
    subst r1; subst r2
    exact ⟨_, _, rfl, q2.1, k _ _ _ _ q2.2 (g1.trans g2) (wk_range _ _)⟩
  · exact q2.elim
/-- range with a step: lo, lo + c, .. -/
def rangeC (lo c : Int) (n : Nat) : List D := (List.range n).map fun (i : Nat) => .int (lo + i * c)

/-! ### for -/
def loopD (ok : Sto → Prop) (f : D → TSD) : List D → TSD
  | [], De, ρ, S => De.nx ρ S
  | x :: xs, De, ρ, S => f x { nx := fun ρ' S' => ok S' ∧ loopD ok f xs De ρ' S', ct := fun ρ' S' => ok S' ∧ loopD ok f xs De ρ' S', bk := De.nx, rt := De.rt } ρ S
def dFor (ι : TID) (γ : TGD) (τ : TSD) : TSD := fun De ρ S => ι ρ S fun it S1 => it.ok S1 ∧ loopD it.ok (fun x De ρ S => γ x ρ S fun ρ' S' => τ De ρ' S') it.xs De ρ S1
theorem ds_for {tg iter : Expr} {ι : TID} {γ : TGD} {L : List Nat} (hp : PassesOwn (model X.prog X.w) X.A X.env X.xe) (hi : DI X tg iter ι) (hg : DG X tg L γ) (hb : DSs X body τ) (hc : X.calm = true := by rfl) (hs : ∀ x, foldedSetIterable iter X.env x = pure x := by intro _; rfl) :
    DS X (.For tg iter body [] pos) (dFor ι γ τ) := psW (ps_for hp hc hi hg hb hs) fun E σ H ⟨ρ, S, De, re, rs, q, k⟩ => by
  refine ⟨ρ, S, _, re, rs, q, fun it S1 H1 J q1 g1 wk => ?_⟩
  obtain ⟨ok1, q1⟩ := q1
  refine ⟨fun i m σ2 H2 => m = it.xs.length - i ∧ i ≤ it.xs.length ∧ ∃ ρ2 S2, Go X.K S1 H1 S2 H2 ∧ RE X.K S2 H2 ρ2 σ2 ∧ it.ok S2 ∧ loopD it.ok (fun x De ρ S => γ x ρ S fun ρ' S' => τ De ρ' S') (it.xs.drop i) De ρ2 S2, ⟨_, rfl, Nat.zero_le _, ρ, S1, .refl g1.rs, re.tp g1.tp, ok1, q1⟩, ?_⟩
  rintro i m σ2 H2 ⟨rfl, hi, ρ2, S2, g2, re2, ok2, q2⟩
  by_cases hlt : i < it.xs.length
  · have hx : it.xs[i]? = some it.xs[i] := List.getElem?_eq_getElem hlt
    have hd : it.xs.drop i = it.xs[i] :: it.xs.drop (i + 1) := List.drop_eq_getElem_cons hlt
    rw [hd] at q2
    obtain ⟨go, yl⟩ := wk.go i _ S2 H2 hx g2.tp g2.rs ok2
    refine .inr ⟨go, fun σ3 H3 => ∃ ρ3 S3, Go X.K S1 H1 S3 H3 ∧ RE X.K S3 H3 ρ3 σ3 ∧ it.ok S3 ∧ loopD it.ok (fun x De ρ S => γ x ρ S fun ρ' S' => τ De ρ' S') (it.xs.drop (i + 1)) De ρ3 S3, fun σ3 H3 h3 => ⟨it.xs.length - (i + 1), by omega, rfl, by omega, h3⟩, fun v H3 y => ?_⟩
    obtain ⟨g3, r3⟩ := yl v H3 y
    have g23 := g2.trans g3
    refine ⟨_, ρ2, S2, _, r3, re2.tp g3.tp, g3.rs, q2, fun ρ4 S4 σ4 H4 q4 g4 re4 _ => ?_⟩
    have g14 := g23.trans g4
    refine ⟨ρ4, S4, _, re4, g4.rs, q4, ⟨fun a b c d x y z => ?_, fun a b c d x y z => ?_, fun a b c d x y z => ?_, fun a b c d x y z => ?_⟩⟩
    · exact ⟨a, b, g14.trans y, z, x.1, x.2⟩
    · exact k.rt a b c d x ((g1.trans g14).trans y) z
    · exact k.nx a b c d x ((g1.trans g14).trans y) z
    · exact ⟨a, b, g14.trans y, z, x.1, x.2⟩
  · have e : i = it.xs.length := by omega
    subst e
    rw [List.drop_length] at q2
    exact .inl ⟨wk.stop S2 H2 g2.tp g2.rs ok2, k.nx _ _ _ _ q2 (g1.trans g2) re2⟩
/-- while: W with its measure -/
def dWhile (t : TTD) (τ : TSD) : TSD := fun De ρ S => ∃ W : Nat → DEnv → Sto → Prop, (∃ m, W m ρ S) ∧ ∀ m ρ S, W m ρ S →
  t ρ S fun b S1 => match b with
    | true => τ { nx := fun ρ' S' => ∃ m', m' < m ∧ W m' ρ' S', ct := fun ρ' S' => ∃ m', m' < m ∧ W m' ρ' S', bk := De.nx, rt := De.rt } ρ S1
    | false => De.nx ρ S1
theorem ds_while (hp : PassesOwn (model X.prog X.w) X.A X.env X.xe) (hc : DT X c θ) (hb : DSs X body τ) : DS X (.While c body [] pos) (dWhile θ τ) := psW (ps_while hp hc hb) fun E σ H ⟨ρ, S, De, re, rs, ⟨W, ⟨m0, w0⟩, turn⟩, k⟩ => by
  refine ⟨fun m σ2 H2 => ∃ ρ2 S2, Go X.K S H S2 H2 ∧ RE X.K S2 H2 ρ2 σ2 ∧ W m ρ2 S2, ⟨m0, ρ, S, .refl rs, re, w0⟩, ?_⟩
  rintro m σ2 H2 ⟨ρ2, S2, g2, re2, w2⟩
  refine ⟨ρ2, S2, _, re2, g2.rs, turn m ρ2 S2 w2, fun b S3 H3 q3 g3 => ?_⟩
  cases b with
  | true =>
    rw [if_pos rfl]
    refine ⟨fun σ4 H4 => ∃ m', m' < m ∧ ∃ ρ4 S4, Go X.K S H S4 H4 ∧ RE X.K S4 H4 ρ4 σ4 ∧ W m' ρ4 S4, fun σ4 H4 h => h, ?_⟩
    have g := g2.trans g3
    refine ⟨ρ2, S3, _, re2.tp g3.tp, g3.rs, q3, ⟨fun a b c d x y z => ?_, fun a b c d x y z => ?_, fun a b c d x y z => ?_, fun a b c d x y z => ?_⟩⟩
    · obtain ⟨m', hm, w⟩ := x
      exact ⟨m', hm, a, b, g.trans y, z, w⟩
    · exact k.rt a b c d x (g.trans y) z
    · exact k.nx a b c d x (g.trans y) z
    · obtain ⟨m', hm, w⟩ := x
      exact ⟨m', hm, a, b, g.trans y, z, w⟩
  | false =>
    rw [if_neg Bool.false_ne_true]
    exact k.nx _ _ _ _ q3 (g2.trans g3) (re2.tp g3.tp)

/-! ### comprehensions -/
def Sto.del (S : Sto) (a : Addr) : Sto := fun b => if b = a then none else S b
theorem Sto.del_same {S : Sto} {a : Addr} : S.del a a = none := by unfold Sto.del; rw [if_pos rfl]
theorem Sto.del_ne {S : Sto} {a b : Addr} (h : b ≠ a) : S.del a b = S b := by unfold Sto.del; rw [if_neg h]
theorem Sto.del_up {S : Sto} {a : Addr} {o : MO} (h : S a = none) : (S.up a o).del a = S := by
  funext b
  by_cases e : b = a
  · subst e; rw [Sto.del_same, h]
  · rw [Sto.del_ne e, Sto.up_ne e]
/-- what was tracked at a is not any more -/
theorem go_del {K : PySem.W.Frag} {S : Sto} {H : Hp} (rs : RS K S H) (a : Addr) : Go K S H (S.del a) H := by
  have tp : Tp S H (S.del a) H := ⟨fun _ _ h => h, fun _ _ _ h => h, fun b o h1 h2 => ⟨by
    by_cases e : b = a
    · subst e; exact Sto.del_same
    · rw [Sto.del_ne e]; exact h1, h2⟩⟩
  refine ⟨tp, fun b mo e => ?_⟩
  by_cases hb : b = a
  · subst hb; rw [Sto.del_same] at e; cases e
  · rw [Sto.del_ne hb] at e
    exact (rs b mo e).mv tp fun _ h => h
/-- the items from the left; acc: what is made so far, it stands at Dl -/
def lcD (Dl : Addr) (ok : Sto → Prop) (ρ : DEnv) (γ : TGD) (t : TTD) (el : TED) : List D → List D → Sto → (List D → Sto → Prop) → Prop
  | [], acc, S, Q => Q acc S
  | x :: xs, acc, S, Q => γ x ρ S fun ρ' S1 => t ρ' S1 fun b S2 => match b with
    | true => el ρ' S2 fun y S3 => S3 Dl = some (.lst acc) ∧ acc.length < sizeLine ∧ ok (S3.up Dl (.lst (acc ++ [y]))) ∧ lcD Dl ok ρ γ t el xs (acc ++ [y]) (S3.up Dl (.lst (acc ++ [y]))) Q
    | false => S2 Dl = some (.lst acc) ∧ ok S2 ∧ lcD Dl ok ρ γ t el xs acc S2 Q
/-- the list is done: it stays tracked (r), or nobody will change it -/
def endL (r : Bool) (Dl : Addr) (Q : QD) : List D → Sto → Prop := fun ds S2 => match r with
  | true => Q (.ref Dl) S2
  | false => Q (.lst ds) (S2.del Dl)
def dLc (r : Bool) (ι : TID) (γ : TGD) (t : TTD) (el : TED) (vs : List Nat) : TED := fun ρ S Q => ι ρ S fun it S1 => ∀ Dl, S1 Dl = none → it.ok (S1.up Dl (.lst [])) ∧ lcD Dl it.ok (wipeD ρ vs) γ t el it.xs [] (S1.up Dl (.lst [])) (endL r Dl Q)
abbrev DTs (X : Cx) (ifs : List Expr) (δ : TTD) : Prop := PTs X ifs (LT X.K δ)
def dYes : TTD := fun _ S Q => Q true S
theorem ptsW {ifs : List Expr} {t t' : TT} (h : PTs X ifs t) (w : ∀ σ H Q, t' σ H Q → t σ H Q) : PTs X ifs t' := ⟨fun pins s σ H Q I q => h.run pins s σ H Q I (w σ H Q q)⟩
theorem dts_nil : DTs X [] dYes := ptsW pts_nil fun σ H Q ⟨ρ, S, Qd, re, rs, q, k⟩ => k _ _ _ q (.refl rs)
theorem dts_one (h : DT X c θ) : DTs X [c] θ := pts_one h
theorem lc_lift {K : PySem.W.Frag} {J : It} {it : ItD} {Dl : Addr} {γ : TGD} {t : TTD} {el : TED} {L vs : List Nat} {r : Bool} {ρ : DEnv} {σ : L2.St} {S S1 : Sto} {H H1 : Hp} {Qd : QD} {Q : VK} (hL : ∀ i ∈ L, i ∈ vs) (re : RE K S1 H1 ρ σ) (g1 : Go K S H S1 H1) (wk : Wk K J it S1 H1) (hD : H1 Dl = none)
    (ok1 : it.ok (S1.up Dl (.lst []))) (q1 : lcD Dl it.ok (wipeD ρ vs) γ t el it.xs [] (S1.up Dl (.lst [])) (endL r Dl Qd)) (k : Aft K S H Qd Q) :
    ∃ W : Nat → Nat → Hp → Prop, (∃ m, W 0 m (upd H1 Dl (.lst []))) ∧ ∀ i m H, W i m H →
      (J.stop i H ∧ Q (.ref Dl) H) ∨ (J.go i H ∧ ∃ Nx : Hp → Prop, (∀ H', Nx H' → ∃ m', m' < m ∧ W (i + 1) m' H') ∧ ∀ x H', J.yld i H x H' → LG K L γ x (wipe σ vs) H' fun σ2 H2 => wipe σ2 vs = wipe σ vs ∧ LT K t σ2 H2 fun b H3 =>
        if b = true then LE K el σ2 H3 fun y H4 => ∃ acc, H4 Dl = some (.lst acc) ∧ acc.length < sizeLine ∧ Nx (upd H4 Dl (.lst (acc ++ [y]))) else Nx H3) := by
  have f1 : S1 Dl = none := g1.rs.free hD
  have gD : Go K S1 H1 (S1.up Dl (.lst [])) (upd H1 Dl (.lst [])) := Go.made g1.rs hD fun S' H' tp e => ⟨[], e, RDs.nil.mpr rfl⟩
  refine ⟨fun i m H2 => m = it.xs.length - i ∧ i ≤ it.xs.length ∧ ∃ acc S2, Go K S1 H1 S2 H2 ∧ S2 Dl = some (.lst acc) ∧ it.ok S2 ∧ lcD Dl it.ok (wipeD ρ vs) γ t el (it.xs.drop i) acc S2 (endL r Dl Qd),
    ⟨_, rfl, Nat.zero_le _, [], _, gD, Sto.up_same, ok1, q1⟩, ?_⟩
  rintro i m H2 ⟨rfl, hi, acc, S2, g2, d2, ok2, q2⟩
  by_cases hlt : i < it.xs.length
  · have hx : it.xs[i]? = some it.xs[i] := List.getElem?_eq_getElem hlt
    have hd : it.xs.drop i = it.xs[i] :: it.xs.drop (i + 1) := List.drop_eq_getElem_cons hlt
    rw [hd] at q2
    obtain ⟨go, yl⟩ := wk.go i _ S2 H2 hx g2.tp g2.rs ok2
    refine .inr ⟨go, fun H3 => ∃ acc3 S3, Go K S1 H1 S3 H3 ∧ S3 Dl = some (.lst acc3) ∧ it.ok S3 ∧ lcD Dl it.ok (wipeD ρ vs) γ t el (it.xs.drop (i + 1)) acc3 S3 (endL r Dl Qd), fun H3 h3 => ⟨it.xs.length - (i + 1), by omega, rfl, by omega, h3⟩, fun v H3 y => ?_⟩
    obtain ⟨g3, r3⟩ := yl v H3 y
    have g23 := g2.trans g3
    refine ⟨_, wipeD ρ vs, S2, _, r3, (re.tp g23.tp).wipe vs, g3.rs, q2, fun ρ4 S4 σ4 H4 q4 g4 re4 al => ⟨?_, ?_⟩⟩
    · have e := al vs hL
      rw [e]
      have ww : ∀ σ : L2.St, wipe (wipe σ vs) vs = wipe σ vs := fun σ => by
        apply List.ext_getElem?
        intro j
        rw [wipe_get, wipe_get]
        by_cases hj : j ∈ vs
        · rw [if_pos hj, if_pos hj, Option.map_map]; rfl
        · rw [if_neg hj, if_neg hj]
      exact ww σ
    refine ⟨ρ4, S4, _, re4, g4.rs, q4, fun b S5 H5 q5 g5 => ?_⟩
    cases b with
    | true =>
      rw [if_pos rfl]
      refine ⟨ρ4, S5, _, re4.tp g5.tp, g5.rs, q5, fun yd S6 yv H6 q6 g6 r6 => ?_⟩
      obtain ⟨d6, l6, ok6, q6⟩ := q6
      obtain ⟨ws, hw, rw1⟩ := g6.rs Dl _ d6
      have g26 := (g23.trans g4).trans (g5.trans g6)
      have gw : Go K S6 H6 (S6.up Dl (.lst (acc ++ [yd]))) (upd H6 Dl (.lst (ws ++ [yv]))) := Go.wrote g6.rs d6 fun S' H' tp e => ⟨_, e, (rw1.tp tp).snoc (r6.tp tp)⟩
      exact ⟨ws, hw, by rw [rw1.len]; exact l6, acc ++ [yd], _, g26.trans gw, Sto.up_same, ok6, q6⟩
    | false =>
      rw [if_neg Bool.false_ne_true]
      obtain ⟨d5, ok5, q5⟩ := q5
      exact ⟨acc, S5, (g23.trans g4).trans g5, d5, ok5, q5⟩
  · have e : i = it.xs.length := by omega
    subst e
    rw [List.drop_length] at q2
    refine .inl ⟨wk.stop S2 H2 g2.tp g2.rs ok2, ?_⟩
    have q2' : endL r Dl Qd acc S2 := q2
    cases r with
    | true => exact k _ _ _ _ q2' (g1.trans g2) (by rw [RD])
    | false =>
      obtain ⟨ws, hw, rw1⟩ := g2.rs Dl _ d2
      have gd := go_del g2.rs Dl
      refine k _ _ _ _ q2' ((g1.trans g2).trans gd) ?_
      rw [RD]
      exact ⟨Dl, ws, rfl, Sto.del_same, hw, rw1.tp gd.tp⟩
theorem de_lc {elt tg iter : Expr} {ifs : List Expr} {scope : Scope} {own : List (Str × Nat)} {ι : TID} {γ : TGD} {t : TTD} {el : TED} {L : List Nat} {r : Bool} (hN : X.N.Nodup) (hi : DI X tg iter ι) (ok : BlkOk X.N X.env.scope scope own) (hL : ∀ i ∈ L, i ∈ own.map (·.2))
    (hg : ∀ (s : Shared) (H : Hp) (C : Addr) (cl : List (Str × Addr)) (fp : List Addr), DG (X.blk s H scope (compEnvC scope cl C X.env) fp) tg L γ) (ht : ∀ (s : Shared) (H : Hp) (C : Addr) (cl : List (Str × Addr)) (fp : List Addr), DTs (X.blk s H scope (compEnvC scope cl C X.env) fp) ifs t)
    (he : ∀ (s : Shared) (H : Hp) (C : Addr) (cl : List (Str × Addr)) (fp : List Addr), DE (X.blk s H scope (compEnvC scope cl C X.env) fp) elt el) (hc : X.calm = true := by rfl) (hs : ∀ x, foldedSetIterable iter X.env x = pure x := by intro _; rfl) :
    DE X (.ListComp elt [⟨tg, iter, ifs, 0⟩] scope pos) (dLc r ι γ t el (own.map (·.2))) := peW (pe_lc hc hN hi ok hg ht he hs) fun σ H Q ⟨ρ, S, Qd, re, rs, q, k⟩ => by
  refine ⟨ρ, S, _, re, rs, q, fun it S1 H1 J q1 g1 wk => ?_⟩
  intro Dl hD
  obtain ⟨ok1, q1⟩ := q1 Dl (g1.rs.free hD)
  exact lc_lift hL (re.tp g1.tp) g1 wk hD ok1 q1 k
theorem ds_setLc (i : Nat) {y : Str} {py spos : Pos} {elt tg iter : Expr} {ifs : List Expr} {scope : Scope} {own : List (Str × Nat)} {ι : TID} {γ : TGD} {t : TTD} {el : TED} {L : List Nat} {r : Bool} (hN : X.N.Nodup) (hi : DI X tg iter ι) (ok : BlkOk X.N X.env.scope scope own) (hL : ∀ i ∈ L, i ∈ own.map (·.2))
    (hg : ∀ (s : Shared) (H : Hp) (C : Addr) (cl : List (Str × Addr)) (fp : List Addr), DG (X.blk s H scope (compEnvC scope cl C X.env) fp) tg L γ) (ht : ∀ (s : Shared) (H : Hp) (C : Addr) (cl : List (Str × Addr)) (fp : List Addr), DTs (X.blk s H scope (compEnvC scope cl C X.env) fp) ifs t)
    (he : ∀ (s : Shared) (H : Hp) (C : Addr) (cl : List (Str × Addr)) (fp : List Addr), DE (X.blk s H scope (compEnvC scope cl C X.env) fp) elt el) (hy : X.N[i]? = some y := by rfl) (hyl : X.env.scope.names.lookup y = some .local := by rfl)
    (hsw : swapsWith (.ListComp elt [⟨tg, iter, ifs, 0⟩] scope pos) (some (.Name y py)) spos.line X.env = pure true := by exact sw_true rfl rfl rfl (by decide +kernel)) (hc : X.calm = true := by rfl) (hs : ∀ x, foldedSetIterable iter X.env x = pure x := by intro _; rfl) :
    DS X (.Assign [.Name y py] (.ListComp elt [⟨tg, iter, ifs, 0⟩] scope pos) spos) (dAsg i (dLc r ι γ t el (own.map (·.2)))) := psW (ps_setLc hc hN hy hyl hsw hi ok hg ht he hs) fun E σ H ⟨ρ, S, De, re, rs, q, k⟩ => by
  show tLc _ _ _ _ _ σ H fun x H1 => gName i x σ H1 E.nx
  refine ⟨ρ, S, _, re, rs, q, fun it S1 H1 J q1 g1 wk => ?_⟩
  intro Dl hD
  obtain ⟨ok1, q1⟩ := q1 Dl (g1.rs.free hD)
  exact lc_lift hL (re.tp g1.tp) g1 wk hD ok1 q1 fun d S' v H' q' g' r' => k.nx _ _ _ _ q' g' ((re.tp g'.tp).set i r')
end

/-! ### defs -/
section
variable {P : Program} {w : World} {K : PySem.W.Frag} {mg : Str → Option Value} {base : Heap}
/-- a promise that stands over what the store forgets, and over a list that nobody will change any more -/
structure Fz (S' : Sto) (d' : D) (S : Sto) (d : D) : Prop where
  ok : ∀ (K : PySem.W.Frag) (H : Hp) (v : V), RS K S' H → RD K S' H d' v → Go K S' H S H ∧ RD K S H d v
theorem Fz.refl {S : Sto} {d : D} : Fz S d S d := ⟨fun K H v rs r => ⟨.refl rs, r⟩⟩
theorem Fz.trans {S S1 S2 : Sto} {d d1 d2 : D} (a : Fz S d S1 d1) (b : Fz S1 d1 S2 d2) : Fz S d S2 d2 := ⟨fun K H v rs r => let ⟨g1, r1⟩ := a.ok K H v rs r; let ⟨g2, r2⟩ := b.ok K H v g1.rs r1; ⟨g1.trans g2, r2⟩⟩
theorem Fz.del {S : Sto} {d : D} (a : Addr) : Fz S d (S.del a) d := ⟨fun K H v rs r => ⟨go_del rs a, r.tp (go_del rs a).tp⟩⟩
theorem Fz.freeze {S : Sto} {a : Addr} {ds : List D} (h : S a = some (.lst ds)) : Fz S (.ref a) (S.del a) (.lst ds) := ⟨fun K H v rs r => by
  have g := go_del rs a
  obtain ⟨ws, hw, r1⟩ := rs a _ h
  rw [RD] at r
  refine ⟨g, ?_⟩
  rw [RD]
  exact ⟨a, ws, r, Sto.del_same, hw, r1.tp g.tp⟩⟩
/-- forget a and all about it: the store is S again -/
theorem Fz.back {S : Sto} {d : D} {a : Addr} {o : MO} (h : S a = none) : Fz (S.up a o) d S d := by
  have := Fz.del (S := S.up a o) (d := d) a
  rw [Sto.del_up h] at this
  exact this
theorem Fz.backL {S : Sto} {a : Addr} {ds : List D} (h : S a = none) : Fz (S.up a (.lst ds)) (.ref a) S (.lst ds) := by
  have := Fz.freeze (S := S.up a (.lst ds)) (a := a) (ds := ds) Sto.up_same
  rw [Sto.del_up h] at this
  exact this
def FzQ (Q : QD) : QD := fun d' S' => ∃ d S, Q d S ∧ Fz S' d' S d
theorem FzQ.here {Q : QD} {d : D} {S : Sto} (h : Q d S) : FzQ Q d S := ⟨d, S, h, .refl⟩
theorem fnD {x qual : Str} {params : Arguments} {body : List Stmt} {scope : Scope} {f : Addr} {fd : FuncData} {CX : CXT} {N ps : List Str} {k : Nat} {sp : DSp} (F : FunD K x qual params body scope [] [] f fd) (Sc : FnScope N ps scope) (len : ∀ ds S Q, sp ds S Q → ds.length = ps.length)
    (hbody : ∀ (cdv : Value) (A : Around) (outer : List Env) (s : Shared) (H : Hp) (E : XK), Room k (A.deeper (envOfC qual scope s.heap.objs.size f cdv)) →
      ∃ τ, DSs (cxOf CX P w K mg base N qual scope f cdv A outer s H E) body τ ∧ ∀ ds S Q, sp ds S Q → τ { nx := fun _ S' => FzQ Q .non S', rt := FzQ Q } (startD N ds) S) : FnOk P w K mg base CX (k + 1) f fd ps (LSp K sp) := by
  refine F.ok Sc (fun vs H Q E ⟨ds, S, Qd, r1, rs, q, kk⟩ => ?_) (fun cdv A outer s H vs Q E hr ⟨ds, S, Qd, r1, rs, q, kk⟩ => ?_)
  · rw [r1.len]; exact len _ _ _ q
  · obtain ⟨τ, h1, h2⟩ := hbody cdv A outer s H E hr
    refine ⟨LS K τ, h1, startD N ds, S, _, RE.start r1, rs, h2 ds S Qd q, ⟨fun ρ' S' σ' H' ⟨d, S0, q', fz⟩ g' re' => ?_, fun d' S' v H' ⟨d, S0, q', fz⟩ g' r' => ?_, fun _ _ _ _ z => z.elim, fun _ _ _ _ z => z.elim⟩⟩
    · obtain ⟨g2, r2⟩ := fz.ok K H' .non g'.rs (by rw [RD])
      exact kk _ _ _ _ q' (g'.trans g2) r2
    · obtain ⟨g2, r2⟩ := fz.ok K H' v g'.rs r'
      exact kk _ _ _ _ q' (g'.trans g2) r2
end
end PL
/-! operations by values -/
namespace PL
open PySem PySem.Spec PyProof.Rows L2

/-! ### data -/
mutual
def D.py : D → PyData
  | .non => .none
  | .bl b => .bool b
  | .int i => .int i
  | .str x => .str x
  | .tup ds => .tuple (D.pys ds)
  | .tpx ds => .tuple (D.pys ds)
  | .lst ds => .list (D.pys ds)
  | .fz ds => .list (D.pys ds)
  | .ref _ => .none
def D.pys : List D → List PyData
  | [] => []
  | d :: ds => D.py d :: D.pys ds
end
theorem D.pys_eq : ∀ ds : List D, D.pys ds = ds.map D.py
  | [] => by rw [D.pys]; rfl
  | d :: ds => by rw [D.pys, D.pys_eq ds]; rfl
/-- plain data, at most n deep -/
def D.okn : Nat → D → Bool
  | _, .non => true
  | _, .bl _ => true
  | _, .int _ => true
  | _, .str x => PyData.strOk x
  | 0, _ => false
  | n + 1, .tup ds => ds.all (D.okn n)
  | n + 1, .tpx ds => ds.all (D.okn n)
  | n + 1, .lst ds => ds.all (D.okn n)
  | _ + 1, .fz _ => false
  | _ + 1, .ref _ => false
theorem D.okn_lay : ∀ (n : Nat) (d : D), D.okn n d = true → (D.py d).canLay0 = true ∧ (D.py d).depth ≤ n := by
  intro n
  induction n with
  | zero =>
    intro d h
    cases d <;> first | (simp [D.okn] at h; done) | (simp [D.py, PyData.canLay0, PyData.depth]; done) | skip
    simp only [D.okn] at h
    simp [D.py, PyData.canLay0, PyData.depth, h]
  | succ n ih =>
    have all : ∀ ds : List D, ds.all (D.okn n) = true → PyData.canLayAll0 (D.pys ds) = true ∧ PyData.depthAll (D.pys ds) ≤ n := by
      intro ds
      induction ds with
      | nil => intro _; simp [D.pys, PyData.canLayAll0, PyData.depthAll]
      | cons d ds ihd =>
        intro h
        rw [List.all_cons, Bool.and_eq_true] at h
        obtain ⟨a1, a2⟩ := ih d h.1
        obtain ⟨b1, b2⟩ := ihd h.2
        rw [D.pys, PyData.canLayAll0, PyData.depthAll, a1, b1]
        exact ⟨rfl, Nat.max_le.mpr ⟨a2, b2⟩⟩
    intro d h
    cases d with
    | tup ds =>
      obtain ⟨a, b⟩ := all ds (by simpa [D.okn] using h)
      rw [D.py, PyData.canLay0, PyData.depth]
      exact ⟨a, by omega⟩
    | tpx ds =>
      obtain ⟨a, b⟩ := all ds (by simpa [D.okn] using h)
      rw [D.py, PyData.canLay0, PyData.depth]
      exact ⟨a, by omega⟩
    | lst ds =>
      obtain ⟨a, b⟩ := all ds (by simpa [D.okn] using h)
      rw [D.py, PyData.canLay0, PyData.depth]
      exact ⟨a, by omega⟩
    | str x =>
      simp only [D.okn] at h
      simp [D.py, PyData.canLay0, PyData.depth, h]
    | fz ds => simp [D.okn] at h
    | ref a => simp [D.okn] at h
    | _ => simp [D.py, PyData.canLay0, PyData.depth]
theorem D.okn_shaped {n : Nat} {d : D} (h : D.okn n d = true) (hn : n ≤ 64) : SeqAt.shaped (D.py d) = true := by
  obtain ⟨a, b⟩ := D.okn_lay n d h
  unfold SeqAt.shaped
  rw [a, Bool.true_and]
  exact decide_eq_true (Nat.le_trans b hn)
section
variable {K : PySem.W.Frag} {S : Sto} {H : Hp}
theorem D.okn_dp : ∀ (n : Nat) (d : D) (v : V), D.okn n d = true → RD K S H d v → Dp K H v (D.py d) := by
  intro n
  induction n with
  | zero =>
    intro d v h r
    cases d <;> first | (simp [D.okn] at h; done) | (rw [RD] at r; subst r; rw [D.py]; constructor)
  | succ n ih =>
    have all : ∀ (ds : List D) (vs : List V), ds.all (D.okn n) = true → RDs K S H ds vs → DpAll K H vs (D.pys ds) := by
      intro ds
      induction ds with
      | nil => intro vs _ r; rw [RDs.nil.mp r, D.pys]; exact .nil
      | cons d ds ihd =>
        intro vs h r
        rw [List.all_cons, Bool.and_eq_true] at h
        rw [RDs] at r
        obtain ⟨v, w, rfl, r1, r2⟩ := r
        rw [D.pys]
        exact .cons (ih d v h.1 r1) (ihd w h.2 r2)
    intro d v h r
    cases d with
    | tup ds =>
      rw [RD] at r
      obtain ⟨a, vs, rfl, r1, r2⟩ := r
      rw [D.py]
      exact .tup r1 (all ds vs (by simpa [D.okn] using h) r2)
    | tpx ds =>
      rw [RD] at r
      obtain ⟨a, o, vs, rfl, r1, _, r2⟩ := r
      rw [D.py]
      exact .tup (.inl (.inr ⟨o, r1⟩)) (all ds vs (by simpa [D.okn] using h) r2)
    | lst ds =>
      rw [RD] at r
      obtain ⟨a, vs, rfl, _, r1, r2⟩ := r
      rw [D.py]
      exact .lst (.of r1) (all ds vs (by simpa [D.okn] using h) r2)
    | fz ds => simp [D.okn] at h
    | ref a => simp [D.okn] at h
    | _ => (rw [RD] at r; subst r; rw [D.py]; constructor)
theorem okn_all_dp {n : Nat} {ds : List D} {vs : List V} (h : ds.all (D.okn n) = true) (r : RDs K S H ds vs) : DpAll K H vs (D.pys ds) := by
  induction ds generalizing vs with
  | nil => rw [RDs.nil.mp r, D.pys]; exact .nil
  | cons d ds ihd =>
    rw [List.all_cons, Bool.and_eq_true] at h
    rw [RDs] at r
    obtain ⟨v, w, rfl, r1, r2⟩ := r
    rw [D.pys]
    exact .cons (D.okn_dp n d v h.1 r1) (ihd h.2 r2)
/-- a tracked list as the data that it is now -/
def Sto.now (S : Sto) : D → D
  | .ref p => match S p with
    | some (.lst ds) => .lst ds
    | _ => .ref p
  | d => d
theorem now_dp {n : Nat} {d : D} {v : V} (h : D.okn (n + 1) (S.now d) = true) (r : RD K S H d v) (rs : RS K S H) : Dp K H v (D.py (S.now d)) := by
  cases d with
  | ref p =>
    have e : S.now (.ref p) = (match S p with
      | some (.lst ds) => D.lst ds
      | _ => .ref p) := rfl
    rw [e] at h ⊢
    split at h
    · rename_i ds hp
      obtain ⟨vs, h1, h2⟩ := rs p _ hp
      rw [RD] at r
      subst r
      rw [D.py]
      exact .lst (.of h1) (okn_all_dp (n := n) (by simpa [D.okn] using h) h2)
    · simp [D.okn] at h
  | _ => exact D.okn_dp (n + 1) _ v h r
end

section
variable {X : Cx}
/-! ### == and != -/
def eqD (d e : D) : Bool := PyData.eqv (D.py d) (D.py e)
def oEq : R2D := fun d e S Q => (D.okn 8 (S.now d) = true ∧ D.okn 8 (S.now e) = true) ∧ Q (.bl (eqD (S.now d) (S.now e))) S
def oNe : R2D := fun d e S Q => (D.okn 8 (S.now d) = true ∧ D.okn 8 (S.now e) = true) ∧ Q (.bl (!eqD (S.now d) (S.now e))) S
theorem RD.bl {K : PySem.W.Frag} {S : Sto} {H : Hp} {b : Bool} : RD K S H (.bl b) (.bl b) := by rw [RD]
theorem RD.non {K : PySem.W.Frag} {S : Sto} {H : Hp} : RD K S H .non .non := by rw [RD]
theorem RD.str {K : PySem.W.Frag} {S : Sto} {H : Hp} {b : Str} : RD K S H (.str b) (.str b) := by rw [RD]
theorem p_eq (hu : X.A.units + 64 < cLine) : OpD X (compareOp .Eq) oEq := opD_of (op_eqD hu) fun d e x y S H Qd Q r1 r2 rs ⟨⟨q1, q2⟩, q⟩ k =>
  ⟨_, _, now_dp q1 r1 rs, now_dp q2 r2 rs, D.okn_shaped q1 (by decide), D.okn_shaped q2 (by decide), k.here rs q RD.bl⟩
theorem p_ne (hu : X.A.units + 64 < cLine) : OpD X (compareOp .NotEq) oNe := opD_of (op_neD hu) fun d e x y S H Qd Q r1 r2 rs ⟨⟨q1, q2⟩, q⟩ k =>
  ⟨_, _, now_dp q1 r1 rs, now_dp q2 r2 rs, D.okn_shaped q1 (by decide), D.okn_shaped q2 (by decide), k.here rs q RD.bl⟩

/-! ### ints -/
def oI (C : Int → Int → Prop) (g : Int → Int → D) : R2D := fun d e S Q => match d, e with
  | .int i, .int j => C i j ∧ Q (g i j) S
  | _, _ => False
def oI0 (g : Int → Int → D) : R2D := fun d e S Q => match d, e with
  | .int i, .int j => Q (g i j) S
  | _, _ => False
theorem oI_int {C : Int → Int → Prop} {g : Int → Int → D} {d e : D} {S : Sto} {Q : QD} (h : oI C g d e S Q) : ∃ i j, d = .int i ∧ e = .int j ∧ C i j ∧ Q (g i j) S := by
  unfold oI at h; split at h
  · exact ⟨_, _, rfl, rfl, h⟩
  · exact h.elim
theorem oI0_int {g : Int → Int → D} {d e : D} {S : Sto} {Q : QD} (h : oI0 g d e S Q) : ∃ i j, d = .int i ∧ e = .int j ∧ Q (g i j) S := by
  unfold oI0 at h; split at h
  · exact ⟨_, _, rfl, rfl, h⟩
  · exact h.elim
theorem p_I {f : Value → Value → Sem Value} {C : Int → Int → Prop} {g : Int → Int → Int} (h : OpR X f (rI C fun i j => .int (g i j))) : OpD X f (oI C fun i j => .int (g i j)) := opD_of h fun d e x y S H Qd Q r1 r2 rs q k => by
  obtain ⟨i, j, rfl, rfl, c, q⟩ := oI_int q
  rw [RD] at r1 r2
  exact ⟨i, j, r1, r2, c, k.here rs q RD.int⟩
theorem p_I0 {f : Value → Value → Sem Value} {g : Int → Int → Int} (h : OpR X f (rI0 fun i j => .int (g i j))) : OpD X f (oI0 fun i j => .int (g i j)) := opD_of h fun d e x y S H Qd Q r1 r2 rs q k => by
  obtain ⟨i, j, rfl, rfl, q⟩ := oI0_int q
  rw [RD] at r1 r2
  exact ⟨i, j, r1, r2, k.here rs q RD.int⟩
theorem p_B0 {f : Value → Value → Sem Value} {g : Int → Int → Bool} (h : OpR X f (rI0 fun i j => .bl (g i j))) : OpD X f (oI0 fun i j => .bl (g i j)) := opD_of h fun d e x y S H Qd Q r1 r2 rs q k => by
  obtain ⟨i, j, rfl, rfl, q⟩ := oI0_int q
  rw [RD] at r1 r2
  exact ⟨i, j, r1, r2, k.here rs q RD.bl⟩
abbrev oSub : R2D := oI0 fun i j => .int (i - j)
theorem p_sub : OpD X (binaryOp .Sub) oSub := p_I0 op_sub
theorem p_isub : OpD X (inplaceOp .Sub) oSub := p_I0 iop_sub
abbrev oFdiv : R2D := oI CDiv fun i j => .int (i / j)
theorem p_fdiv : OpD X (binaryOp .FloorDiv) oFdiv := p_I op_fdiv
abbrev oFdivW : R2D := oI CDivW fun i j => .int (i / j)
theorem p_fdivW : OpD X (binaryOp .FloorDiv) oFdivW := p_I op_fdivW
abbrev oMod : R2D := oI (fun _ j => 0 < j) fun i j => .int (i % j)
theorem p_mod : OpD X (binaryOp .Mod) oMod := p_I op_mod
theorem p_imul : OpD X (inplaceOp .Mult) (oI CMul fun i j => .int (i * j)) := p_I iop_mul
/-- powers -/
def CPowW (i j : Int) : Prop := 0 ≤ j ∧ j ≤ 1000 ∧ i.natAbs < 2 ^ 1000
theorem op_powW : OpR X (binaryOp .Pow) (rI CPowW fun i j => .int (i ^ j.toNat)) := opI fun a b t u Q' s E hc q => by
  obtain ⟨h0, h1, h2⟩ := hc
  refine pow_int h0 ?_ q
  have hb : Builtin.Int.intBits a ≤ 1000 := by
    unfold Builtin.Int.intBits
    split
    · omega
    · have := PySem.Flt.log2_lt_of (by decide) h2
      omega
  have h3 : (Builtin.Int.intBits a : Int) * b ≤ 1000 * b := Int.mul_le_mul_of_nonneg_right (by omega) h0
  omega
abbrev oPow : R2D := oI CPowW fun i j => .int (i ^ j.toNat)
theorem p_pow : OpD X (binaryOp .Pow) oPow := p_I op_powW
abbrev oLt : R2D := oI0 fun i j => .bl (decide (i < j))
abbrev oLe : R2D := oI0 fun i j => .bl (decide (i ≤ j))
abbrev oGt : R2D := oI0 fun i j => .bl (decide (j < i))
abbrev oGe : R2D := oI0 fun i j => .bl (decide (j ≤ i))
theorem p_lt : OpD X (compareOp .Lt) oLt := p_B0 op_lt
theorem p_le : OpD X (compareOp .LtE) oLe := p_B0 op_le
theorem p_gt : OpD X (compareOp .Gt) oGt := p_B0 op_gt
theorem p_ge : OpD X (compareOp .GtE) oGe := p_B0 op_ge
/-- +: ints, tuples, lists, texts -/
def oAdd (r : Bool) : R2D := fun d e S Q => match d, e with
  | .int i, .int j => Q (.int (i + j)) S
  | .tup a, .tup b => a.length + b.length ≤ sizeLine ∧ Q (.tup (a ++ b)) S
  | .str x, .str y => x.length + y.length ≤ sizeLine ∧ Q (.str (x ++ y)) S
  | d, e => match S.list d, S.list e with
    | some a, some b => a.length + b.length ≤ sizeLine ∧ newL r (a ++ b) S Q
    | _, _ => False
theorem vals_nil_iff {K : PySem.W.Frag} {S : Sto} {H : Hp} {ds : List D} {vs : List V} (r : RDs K S H ds vs) : vs = [] ↔ ds = [] := by
  have h := r.len
  constructor
  · intro e; subst e; exact List.eq_nil_of_length_eq_zero h.symm
  · intro e; subst e; exact List.eq_nil_of_length_eq_zero h
theorem p_add {r : Bool} : OpD X (binaryOp .Add) (oAdd r) := opD_of (op_add.or (op_catA.or (op_add_str.or op_cat))) fun d e x y S H Qd Q r1 r2 rs q k => by
  unfold oAdd at q
  split at q
  · rw [RD] at r1 r2
    exact .inl ⟨_, _, r1, r2, k.here rs q RD.int⟩
  · rw [RD] at r1 r2
    obtain ⟨a, vs, rfl, t1, s1⟩ := r1
    obtain ⟨b, ws, rfl, t2, s2⟩ := r2
    obtain ⟨hl, q⟩ := q
    refine .inr (.inl ⟨a, b, vs, ws, rfl, rfl, t1, t2, by rw [s1.len, s2.len]; exact hl, fun e => ?_, fun e e2 => ?_, fun e e2 p hp => ?_⟩)
    · rw [(vals_nil_iff s1).mp e, List.nil_append] at q
      exact k.here rs q (by rw [RD]; exact ⟨b, ws, rfl, t2, s2⟩)
    · rw [(vals_nil_iff s2).mp e2, List.append_nil] at q
      exact k.here rs q (by rw [RD]; exact ⟨a, vs, rfl, t1, s1⟩)
    · exact newT_ok rs (s1.append s2) q k p hp
  · rw [RD] at r1 r2
    exact .inr (.inr (.inl ⟨_, _, r1, r2, q.1, k.here rs q.2 RD.str⟩))
  · split at q
    · rename_i a b ha hb
      obtain ⟨p1, vs, rfl, t1, s1⟩ := list_at ha r1 rs
      obtain ⟨p2, ws, rfl, t2, s2⟩ := list_at hb r2 rs
      exact .inr (.inr (.inr ⟨p1, p2, vs, ws, rfl, rfl, t1, t2, by rw [s1.len, s2.len]; exact q.1, fun p hp => newL_ok rs (s1.append s2) q.2 k p hp⟩))
    · exact q.elim
abbrev oAddI : R2D := oI0 fun i j => .int (i + j)
theorem p_iadd : OpD X (inplaceOp .Add) oAddI := p_I0 iop_add
/-- int + bool -/
def oAddB : R2D := fun d e S Q => match d, e with
  | .int i, .bl b => Q (.int (i + b2i b)) S
  | _, _ => False
/-- *: ints; a list, a tuple times an int -/
def CMul' (i j : Int) : Prop := (i.natAbs < 2 ^ 1000 ∧ j.natAbs < 2 ^ 1000)
theorem cmul' {i j : Int} (h : CMul' i j) : CMulW i j := wide_mul h.1 h.2 (by decide) (by decide) (by decide)
def oMul (r : Bool) : R2D := fun d e S Q => match e with
  | .int k => match d with
    | .int i => CMul' i k ∧ Q (.int (i * k)) S
    | .tup a => (a ≠ [] ∧ 2 ≤ k ∧ k ≤ 1000 ∧ a.length ≤ 1000) ∧ Q (.tup (List.replicate k.toNat a).flatten) S
    | d => match S.list d with
      | some a => (0 ≤ k ∧ k < 2 ^ 62 ∧ a.length * k.toNat ≤ sizeLine) ∧ newL r (List.replicate k.toNat a).flatten S Q
      | none => False
  | _ => False
theorem p_mul {r : Bool} : OpD X (binaryOp .Mult) (oMul r) := opD_of (op_mulW.or (op_repT.or op_rep)) fun d e x y S H Qd Q r1 r2 rs q k => by
  cases e with
  | int kk =>
    rw [RD] at r2
    subst r2
    cases d with
    | int i =>
      rw [RD] at r1
      exact .inl ⟨i, kk, r1, rfl, cmul' q.1, k.here rs q.2 RD.int⟩
    | tup a =>
      rw [RD] at r1
      obtain ⟨p1, vs, rfl, t1, s1⟩ := r1
      obtain ⟨⟨c0, c1, c2, c3⟩, q⟩ := q
      exact .inr (.inl ⟨p1, kk, vs, rfl, rfl, t1, fun z => c0 ((vals_nil_iff s1).mp z), c1, c2, by rw [s1.len]; exact c3, fun p hp => newT_ok rs (s1.rep _) q k p hp⟩)
    | lst a =>
      obtain ⟨p1, vs, rfl, t1, s1⟩ := list_at (d := .lst a) (ds := a) rfl r1 rs
      obtain ⟨⟨c0, c1, c2⟩, q⟩ := q
      exact .inr (.inr ⟨p1, kk, vs, rfl, rfl, t1, by omega, by omega, by rw [s1.len]; exact c2, fun p hp => newL_ok rs (s1.rep _) q k p hp⟩)
    | ref b =>
      have q' : (match S.list (.ref b) with
        | some a => (0 ≤ kk ∧ kk < 2 ^ 62 ∧ a.length * kk.toNat ≤ sizeLine) ∧ newL r (List.replicate kk.toNat a).flatten S Qd
        | none => False) := q
      split at q'
      · rename_i a ha
        obtain ⟨p1, vs, rfl, t1, s1⟩ := list_at ha r1 rs
        obtain ⟨⟨c0, c1, c2⟩, q⟩ := q'
        exact .inr (.inr ⟨p1, kk, vs, rfl, rfl, t1, by omega, by omega, by rw [s1.len]; exact c2, fun p hp => newL_ok rs (s1.rep _) q k p hp⟩)
      · exact q'.elim
    | _ => exact q.elim
  | _ => exact q.elim
/-- is None, is not None; is True .. -/
def D.isNon : D → Bool
  | .non => true
  | _ => false
def oIsN : R2D := fun d e S Q => match e with
  | .non => Q (.bl d.isNon) S
  | _ => False
def oNotN : R2D := fun d e S Q => match e with
  | .non => Q (.bl (!d.isNon)) S
  | _ => False
theorem rd_non_iff {K : PySem.W.Frag} {S : Sto} {H : Hp} {d : D} {v : V} (r : RD K S H d v) : decide (v = V.non) = d.isNon := by
  cases d <;> rw [RD] at r
  · subst r; rfl
  · subst r; rfl
  · subst r; rfl
  · subst r; rfl
  · obtain ⟨a, vs, rfl, _⟩ := r; rfl
  · obtain ⟨a, vs, rfl, _⟩ := r; rfl
  · obtain ⟨a, vs, rfl, _⟩ := r; rfl
  · subst r; rfl
  · obtain ⟨a, o, vs, rfl, _⟩ := r; rfl
theorem p_isN : OpD X (compareOp .Is) oIsN := opD_of op_isN fun d e x y S H Qd Q r1 r2 rs q k => by
  unfold oIsN at q
  split at q
  · rw [RD] at r2
    refine ⟨r2, ?_⟩
    rw [rd_non_iff r1]
    exact k.here rs q RD.bl
  · exact q.elim
theorem p_notN : OpD X (compareOp .IsNot) oNotN := opD_of op_notN fun d e x y S H Qd Q r1 r2 rs q k => by
  unfold oNotN at q
  split at q
  · rw [RD] at r2
    refine ⟨r2, ?_⟩
    rw [rd_non_iff r1]
    exact k.here rs q RD.bl
  · exact q.elim
def oIsB : R2D := fun d e S Q => match d, e with
  | .bl a, .bl b => Q (.bl (decide (a = b))) S
  | _, _ => False
def oNotB : R2D := fun d e S Q => match d, e with
  | .bl a, .bl b => Q (.bl (!decide (a = b))) S
  | _, _ => False
theorem p_isB : OpD X (compareOp .Is) oIsB := opD_of op_isBl fun d e x y S H Qd Q r1 r2 rs q k => by
  unfold oIsB at q
  split at q
  · rw [RD] at r1 r2
    exact ⟨_, _, r1, r2, k.here rs q RD.bl⟩
  · exact q.elim
theorem p_notB : OpD X (compareOp .IsNot) oNotB := opD_of op_notBl fun d e x y S H Qd Q r1 r2 rs q k => by
  unfold oNotB at q
  split at q
  · rw [RD] at r1 r2
    exact ⟨_, _, r1, r2, k.here rs q RD.bl⟩
  · exact q.elim
/-- x in t, flat items -/
def D.flat : D → Bool
  | .non => true
  | .bl _ => true
  | .int _ => true
  | .str _ => true
  | _ => false

/-! ### subscripts -/
def oIx : R2D := fun d e S Q => match e with
  | .int i => match S.seq d with
    | some ds => match atI ds i with
      | some x => Q x S
      | none => False
    | none => False
  | _ => False
theorem atI_rd {K : PySem.W.Frag} {S : Sto} {H : Hp} {ds : List D} {vs : List V} {i : Int} {d : D} (r : RDs K S H ds vs) (h : atI ds i = some d) : ∃ v, atI vs i = some v ∧ RD K S H d v := by
  unfold atI at h ⊢
  rw [r.len]
  cases e : ixN ds.length i with
  | none => rw [e] at h; cases h
  | some j =>
    rw [e] at h
    obtain ⟨v, e1, e2⟩ := r.get (show ds[j]? = some d from h)
    exact ⟨v, e1, e2⟩
theorem p_ix : IxD X oIx := ixD_of (ix_list.or ix_tup) fun d e x y S H Qd Q r1 r2 rs q k => by
  unfold oIx at q
  split at q
  · split at q
    · rename_i ds hs
      split at q
      · rename_i z hz
        rw [RD] at r2
        obtain ⟨a, vs, rfl, t1, s1⟩ := seq_at hs r1 rs
        obtain ⟨v, e1, e2⟩ := atI_rd s1 hz
        rcases t1 with t1 | t1
        · exact .inl ⟨a, vs, _, v, rfl, r2, t1, e1, k.here rs q e2⟩
        · exact .inr ⟨a, vs, _, v, rfl, r2, t1, e1, k.here rs q e2⟩
      · exact q.elim
    · exact q.elim
  · exact q.elim
/-- t[lo:hi] -/
def cutD (ds : List D) (lo hi : Option Int) : List D := (ds.drop (HT.sIx ds.length 0 lo)).take (HT.sIx ds.length ds.length hi - HT.sIx ds.length 0 lo)
/-- of a list of any kind -/
def Sto.lsts (S : Sto) : D → Option (List D)
  | .lst ds => some ds
  | .fz ds => some ds
  | .ref p => match S p with
    | some (.lst ds) => some ds
    | _ => none
  | _ => none
theorem lsts_at {K : PySem.W.Frag} {S : Sto} {H : Hp} {d : D} {ds : List D} {v : V} (h : S.lsts d = some ds) (rd : RD K S H d v) (rs : RS K S H) : ∃ a vs, v = .ref a ∧ SqL K H a vs ∧ RDs K S H ds vs := by
  cases d with
  | fz es =>
    have e : es = ds := Option.some.inj h
    subst e
    rw [RD] at rd
    obtain ⟨a, vs, h1, h2, h3⟩ := rd
    exact ⟨a, vs, h1, h2.sq, h3⟩
  | lst es =>
    obtain ⟨a, vs, h1, h2, h3⟩ := list_at (d := .lst es) (ds := ds) h rd rs
    exact ⟨a, vs, h1, .of h2, h3⟩
  | ref p =>
    obtain ⟨a, vs, h1, h2, h3⟩ := list_at (d := .ref p) (ds := ds) h rd rs
    exact ⟨a, vs, h1, .of h2, h3⟩
  | _ => cases h
def oSl (r : Bool) : RSlD := fun d lo hi S Q => match d with
  | .tup ds => Q (.tup (cutD ds lo hi)) S
  | .tpx ds => Q (.tup (cutD ds lo hi)) S
  | d => match S.lsts d with
    | some ds => newL r (cutD ds lo hi) S Q
    | none => False
theorem cut_rd {K : PySem.W.Frag} {S : Sto} {H : Hp} {ds : List D} {vs : List V} {lo hi : Option Int} (r : RDs K S H ds vs) : RDs K S H (cutD ds lo hi) (cutV vs lo hi) := by
  unfold cutD cutV
  rw [r.len]
  exact (r.drop _).take _
theorem p_sl {r : Bool} : SlD X (oSl r) := slD_of (sl_list.or sl_tupA) fun d x lo hi S H Qd Q r1 rs q k => by
  unfold oSl at q
  split at q
  · rename_i ds
    rw [RD] at r1
    obtain ⟨a, vs, rfl, t1, s1⟩ := r1
    refine .inr ⟨a, vs, rfl, t1, fun ⟨c1, c2⟩ => ?_, fun _ p hp => newT_ok rs (cut_rd s1) q k p hp⟩
    have e : cutD ds lo hi = ds := by
      unfold cutD
      rw [← s1.len, c1, c2, List.drop_zero, Nat.sub_zero, s1.len, List.take_length]
    rw [e] at q
    exact k.here rs q (by rw [RD]; exact ⟨a, vs, rfl, t1, s1⟩)
  · rename_i ds
    rw [RD] at r1
    obtain ⟨a, o, vs, rfl, t1, _, s1⟩ := r1
    have t1' : SqT X.K H a vs := .inl (.inr ⟨o, t1⟩)
    refine .inr ⟨a, vs, rfl, t1', fun ⟨c1, c2⟩ => ?_, fun _ p hp => newT_ok rs (cut_rd s1) q k p hp⟩
    have e : cutD ds lo hi = ds := by
      unfold cutD
      rw [← s1.len, c1, c2, List.drop_zero, Nat.sub_zero, s1.len, List.take_length]
    rw [e] at q
    exact k.here rs q (by rw [RD]; exact ⟨a, vs, rfl, t1', s1⟩)
  · rename_i h
    split at q
    · rename_i ds hs
      obtain ⟨a, vs, rfl, t1, s1⟩ := lsts_at hs r1 rs
      exact .inl ⟨a, vs, rfl, t1, fun p hp => newL_ok rs (cut_rd s1) q k p hp⟩
    · exact q.elim
end
end PL
/-! built-in functions, list methods, membership, items -/
namespace PL
open PySem PySem.Spec PyProof.Rows L2
section
variable {X : Cx}
/-! ### items of lists: set, get -/
def oSet : TSetD := fun d e f S Q => match e with
  | .int k => match d with
    | .ref p => match S p with
      | some (.lst ds) => ∃ j, ixN ds.length k = some j ∧ Q (S.up p (.lst (ds.set j f)))
      | _ => False
    | _ => False
  | _ => False
theorem oSet_is {d e f : D} {S : Sto} {Q : Sto → Prop} (h : oSet d e f S Q) : ∃ k p ds j, e = .int k ∧ d = .ref p ∧ S p = some (.lst ds) ∧ ixN ds.length k = some j ∧ Q (S.up p (.lst (ds.set j f))) := by
  unfold oSet at h
  split at h
  · split at h
    · split at h
      · rename_i ds hs
        obtain ⟨j, h1, h2⟩ := h
        exact ⟨_, _, ds, j, rfl, rfl, hs, h1, h2⟩
      · exact h.elim
    · exact h.elim
  · exact h.elim
theorem p_set : SetD X oSet := setD_of set_list fun d e f x y z S H Qd Q r1 r2 r3 rs q k => by
  obtain ⟨i, p, ds, j, rfl, rfl, hs, hj, q⟩ := oSet_is q
  obtain ⟨vs, h1, h2⟩ := rs p _ hs
  have r1' := r1
  have r2' := r2
  rw [RD] at r1'
  rw [RD] at r2'
  refine ⟨p, vs, i, j, r1', r2', h1, by rw [h2.len]; exact hj, k _ _ q ?_⟩
  exact Go.wrote rs hs fun S' H' tp e => ⟨_, e, (h2.tp tp).set j (r3.tp tp)⟩
theorem get_list : PGet X (rIxL X.K) := by
  intro pins s σ H x y v u Q I rx ry h
  obtain ⟨p, xs, i, z, rfl, rfl, hq, he, q⟩ := h
  cases rx
  obtain ⟨t, rfl⟩ := ry
  obtain ⟨its, r, pl, hz⟩ := I.list hq
  obtain ⟨j, h1, h2, h3, h4, h5⟩ := atI_get he
  obtain ⟨w, ew, rw'⟩ := r.get h2
  have hl := r.length
  have hn := line63
  have fin : EP X pins σ Q w s := ⟨z, H, I, rw', q⟩
  by_cases h0 : 0 ≤ i
  · have hj : i.toNat = j := by
      rw [seqIndex_of h0 h5] at h1
      exact Option.some.inj h1
    exact wpAny_getItem_list pl.isList h0 (by omega) (by rw [hj]; simpa using ew) fin
  · have hj : (i + (its.toArray.size : Int)).toNat = j := by
      rw [seqIndex_neg (by omega) h4] at h1
      rw [List.size_toArray, ← hl]
      exact Option.some.inj h1
    exact wpAny_getItem_list_neg pl.isList (by omega) (by rw [List.size_toArray] <;> omega) (by omega) (by rw [hj]; simpa using ew) fin
def oGet : R2D := fun d e S Q => match e with
  | .int i => match S.lsts d with
    | some ds => match atI ds i with
      | some x => Q x S
      | none => False
    | none => False
  | _ => False
theorem p_get : GetD X oGet := fun pins s σ H x y v u Q I rx ry h => get_list pins s σ H x y v u Q I rx ry (by
  obtain ⟨d, e, S, Qd, r1, r2, rs, q, k⟩ := h
  unfold oGet at q
  split at q
  · split at q
    · rename_i ds hs
      split at q
      · rename_i z hz
        rw [RD] at r2
        obtain ⟨a, vs, rfl, t1, s1⟩ := lsts_at hs r1 rs
        obtain ⟨v, e1, e2⟩ := atI_rd s1 hz
        exact ⟨a, vs, _, v, rfl, r2, t1, e1, k.here rs q e2⟩
      · exact q.elim
    · exact q.elim
  · exact q.elim)

/-! ### len -/
theorem one_rd {K : PySem.W.Frag} {S : Sto} {H : Hp} {d : D} {vs : List V} (r : RDs K S H [d] vs) : ∃ v, vs = [v] ∧ RD K S H d v := r.one
def oLen : RLD := fun ds S Q => match ds with
  | [d] => match S.seq d with
    | some es => Q (.int (es.length : Nat)) S
    | none => False
  | _ => False
theorem p_len : CallD X (.builtin "len") oLen := callD_of call_len_seq fun ds vs S H Qd Q r rs q k => by
  unfold oLen at q
  split at q
  · split at q
    · rename_i es hs
      obtain ⟨v, rfl, r1⟩ := r.one
      obtain ⟨a, ws, rfl, t1, s1⟩ := seq_at hs r1 rs
      exact ⟨a, ws, rfl, t1, by rw [s1.len]; exact k.here rs q RD.int⟩
    · exact q.elim
  · exact q.elim

/-! ### sum, min, max of ints -/
theorem rds_ints {K : PySem.W.Frag} {S : Sto} {H : Hp} : ∀ {ns : List Int} {vs : List V}, RDs K S H (ns.map D.int) vs → vs = ns.map V.int
  | [], vs, h => RDs.nil.mp h
  | n :: ns, vs, h => by
    rw [List.map_cons, RDs] at h
    obtain ⟨v, r, rfl, h1, h2⟩ := h
    rw [RD] at h1
    rw [h1, rds_ints h2]; rfl
theorem rds_bls {K : PySem.W.Frag} {S : Sto} {H : Hp} : ∀ {ns : List Bool} {vs : List V}, RDs K S H (ns.map D.bl) vs → vs = ns.map V.bl
  | [], vs, h => RDs.nil.mp h
  | n :: ns, vs, h => by
    rw [List.map_cons, RDs] at h
    obtain ⟨v, r, rfl, h1, h2⟩ := h
    rw [RD] at h1
    rw [h1, rds_bls h2]; rfl
theorem ints_rds {K : PySem.W.Frag} {S : Sto} {H : Hp} : ∀ (ns : List Int), RDs K S H (ns.map D.int) (ns.map V.int)
  | [] => RDs.nil.mpr rfl
  | n :: ns => RDs.cons RD.int (ints_rds ns)
/-- sum of ints in a list; in a tuple -/
def oSum : RLD := fun ds S Q => match ds with
  | [d] => ∃ ns : List Int, S.seq d = some (ns.map D.int) ∧ Q (.int ns.sum) S
  | _ => False
/-- all, any over a list of bools -/
def oAll : RLD := fun ds S Q => match ds with
  | [d] => ∃ bs : List Bool, S.lsts d = some (bs.map D.bl) ∧ Q (.bl (bs.all id)) S
  | _ => False
def oAny : RLD := fun ds S Q => match ds with
  | [d] => ∃ bs : List Bool, S.lsts d = some (bs.map D.bl) ∧ Q (.bl (bs.any id)) S
  | _ => False
theorem p_all (hc : X.calm = true) : CallD X (.builtin "all") oAll := callD_of (cr_all hc) fun ds vs S H Qd Q r rs q k => by
  unfold oAll at q
  split at q
  · obtain ⟨bs, hs, q⟩ := q
    obtain ⟨v, rfl, r1⟩ := r.one
    obtain ⟨a, ws, rfl, t1, s1⟩ := lsts_at hs r1 rs
    rw [rds_bls s1] at t1
    exact ⟨a, bs, rfl, t1, k.here rs q RD.bl⟩
  · exact q.elim
theorem p_any (hc : X.calm = true) : CallD X (.builtin "any") oAny := callD_of (cr_any hc) fun ds vs S H Qd Q r rs q k => by
  unfold oAny at q
  split at q
  · obtain ⟨bs, hs, q⟩ := q
    obtain ⟨v, rfl, r1⟩ := r.one
    obtain ⟨a, ws, rfl, t1, s1⟩ := lsts_at hs r1 rs
    rw [rds_bls s1] at t1
    exact ⟨a, bs, rfl, t1, k.here rs q RD.bl⟩
  · exact q.elim
/-! ### abs, min, max of two, int, bool -/
def o1I (g : Int → Int) : RLD := fun ds S Q => match ds with
  | [.int i] => Q (.int (g i)) S
  | _ => False
def o2I (g : Int → Int → Int) : RLD := fun ds S Q => match ds with
  | [.int i, .int j] => Q (.int (g i j)) S
  | _ => False
abbrev oAbs : RLD := o1I fun i => if i < 0 then -i else i
theorem p_abs : CallD X (.builtin "abs") oAbs := callD_of call_abs fun ds vs S H Qd Q r rs q k => by
  unfold oAbs o1I at q
  split at q
  · obtain ⟨v, rfl, r1⟩ := r.one
    rw [RD] at r1
    exact ⟨_, by rw [r1], k.here rs q RD.int⟩
  · exact q.elim
abbrev oMax2 : RLD := o2I fun i j => if j > i then j else i
abbrev oMin2 : RLD := o2I fun i j => if j < i then j else i
theorem p_max2 (hc : X.calm = true) : CallD X (.builtin "max") oMax2 := callD_of (call_max2 hc) fun ds vs S H Qd Q r rs q k => by
  unfold oMax2 o2I at q
  split at q
  · obtain ⟨v, w, rfl, r1, r2⟩ := r.two
    rw [RD] at r1 r2
    exact ⟨_, _, by rw [r1, r2], k.here rs q RD.int⟩
  · exact q.elim
theorem p_min2 (hc : X.calm = true) : CallD X (.builtin "min") oMin2 := callD_of (call_min2 hc) fun ds vs S H Qd Q r rs q k => by
  unfold oMin2 o2I at q
  split at q
  · obtain ⟨v, w, rfl, r1, r2⟩ := r.two
    rw [RD] at r1 r2
    exact ⟨_, _, by rw [r1, r2], k.here rs q RD.int⟩
  · exact q.elim
def oInt : RLD := fun ds S Q => match ds with
  | [.int i] => Q (.int i) S
  | [.bl b] => Q (.int (if b then 1 else 0)) S
  | _ => False
theorem p_int : CallD X (.type "int") oInt := callD_of call_int1 fun ds vs S H Qd Q r rs q k => by
  unfold oInt at q
  split at q
  · obtain ⟨v, rfl, r1⟩ := r.one
    rw [RD] at r1
    exact .inl ⟨_, by rw [r1], k.here rs q RD.int⟩
  · obtain ⟨v, rfl, r1⟩ := r.one
    rw [RD] at r1
    exact .inr ⟨_, by rw [r1], k.here rs q RD.int⟩
  · exact q.elim
def oBool : RLD := fun ds S Q => match ds with
  | [.int i] => Q (.bl (i != 0)) S
  | [.bl b] => Q (.bl b) S
  | _ => False
theorem p_bool : CallD X (.type "bool") oBool := callD_of call_bool1 fun ds vs S H Qd Q r rs q k => by
  unfold oBool at q
  split at q
  · obtain ⟨v, rfl, r1⟩ := r.one
    rw [RD] at r1
    exact .inl ⟨_, by rw [r1], k.here rs q RD.bl⟩
  · obtain ⟨v, rfl, r1⟩ := r.one
    rw [RD] at r1
    exact .inr ⟨_, by rw [r1], k.here rs q RD.bl⟩
  · exact q.elim
/-! ### list(x), tuple(x) -/
def oList (r : Bool) : RLD := fun ds S Q => match ds with
  | [d] => match S.seq d with
    | some es => newL r es S Q
    | none => False
  | _ => False
theorem p_list {r : Bool} : CallD X (.type "list") (oList r) := callD_of call_list_of fun ds vs S H Qd Q rr rs q k => by
  unfold oList at q
  split at q
  · split at q
    · rename_i es hs
      obtain ⟨v, rfl, r1⟩ := rr.one
      obtain ⟨a, ws, rfl, t1, s1⟩ := seq_at hs r1 rs
      exact ⟨a, ws, rfl, t1, fun p hp => newL_ok rs s1 q k p hp⟩
    · exact q.elim
  · exact q.elim
def oTuple : RLD := fun ds S Q => match ds with
  | [d] => match S.seq d with
    | some es => Q (.tup es) S
    | none => False
  | _ => False
theorem p_tuple : CallD X (.type "tuple") oTuple := callD_of call_tuple_of fun ds vs S H Qd Q rr rs q k => by
  unfold oTuple at q
  split at q
  · split at q
    · rename_i es hs
      obtain ⟨v, rfl, r1⟩ := rr.one
      obtain ⟨a, ws, rfl, t1, s1⟩ := seq_at hs r1 rs
      refine ⟨a, ws, rfl, ?_⟩
      rcases t1 with t1 | t1
      · exact .inl ⟨t1, fun p hp => newT_ok rs s1 q k p hp⟩
      · exact .inr ⟨t1, k.here rs q (by rw [RD]; exact ⟨a, ws, rfl, t1, s1⟩)⟩
    · exact q.elim
  · exact q.elim
end

/-! ### range(..) as an argument of list, tuple -/
section
variable {X : Cx} {a b e : Expr} {δa δb : TED} {p pos : Pos}
abbrev TRD := DEnv → Sto → (Int → Int → Sto → Prop) → Prop
def LR (K : PySem.W.Frag) (δ : TRD) : L2.St → Hp → (Int → Int → Hp → Prop) → Prop := fun σ H Q => ∃ ρ S Qd, RE K S H ρ σ ∧ RS K S H ∧ δ ρ S Qd ∧ ∀ i j S' H', Qd i j S' → Go K S H S' H' → Q i j H'
abbrev DRg (X : Cx) (e : Expr) (δ : TRD) : Prop := PRg X e (LR X.K δ)
theorem prgW {t t' : L2.St → Hp → (Int → Int → Hp → Prop) → Prop} (h : PRg X e t) (w : ∀ σ H Q, t' σ H Q → t σ H Q) : PRg X e t' := fun pins s σ H Q I q => h pins s σ H Q I (w σ H Q q)
def dRg1 (δ : TED) : TRD := fun ρ S Q => δ ρ S fun x S1 => match x with
  | .int n => Q 0 n S1
  | _ => False
def dRg2 (δa δb : TED) : TRD := fun ρ S Q => δa ρ S fun x S1 => δb ρ S1 fun y S2 => match x, y with
  | .int i, .int j => Q i j S2
  | _, _ => False
theorem drg_1 (hm : X.mg "range" = none) (ha : DE X a δa) (hg : Gl X "range" := by rfl) (na : starEach [a] X.env = (false, eval a X.env) :: starEach [] X.env := by rfl) : DRg X (.Call (.Name "range" p) [a] [] pos) (dRg1 δa) :=
  prgW (prg_1 hg hm ha na) fun σ H Q ⟨ρ, S, Qd, re, rs, q, k⟩ => by
    refine ⟨ρ, S, _, re, rs, q, fun x S1 v H1 q1 g1 r1 => ?_⟩
    try dsimp only at q1
    split at q1
    · rw [RD] at r1
      exact ⟨_, r1, k _ _ _ _ q1 g1⟩
    · exact q1.elim
theorem drg_2 (hm : X.mg "range" = none) (ha : DE X a δa) (hb : DE X b δb) (hg : Gl X "range" := by rfl) (na : starEach [a, b] X.env = (false, eval a X.env) :: starEach [b] X.env := by rfl)
    (nb : starEach [b] X.env = (false, eval b X.env) :: starEach [] X.env := by rfl) (hp : (backTo pos (starEach [b] X.env)).any (·.1) = false := by rfl) : DRg X (.Call (.Name "range" p) [a, b] [] pos) (dRg2 δa δb) :=
  prgW (prg_2 hg hm ha hb na nb hp) fun σ H Q ⟨ρ, S, Qd, re, rs, q, k⟩ => by
    refine ⟨ρ, S, _, re, rs, q, fun x S1 v H1 q1 g1 r1 => ?_⟩
    refine ⟨ρ, S1, _, re.tp g1.tp, g1.rs, q1, fun y S2 w H2 q2 g2 r2 => ?_⟩
    try dsimp only at q2
    split at q2
    · rw [RD] at r1 r2
      exact ⟨_, _, r1, r2, k _ _ _ _ q2 (g1.trans g2)⟩
    · exact q2.elim
def rgD (a b : Int) : List D := (List.range (b - a).toNat).map fun i => .int (a + (i : Nat))
theorem rgD_rd {K : PySem.W.Frag} {S : Sto} {H : Hp} (a b : Int) : RDs K S H (rgD a b) (rgV a b) := by
  have h := ints_rds (K := K) (S := S) (H := H) ((List.range (b - a).toNat).map fun i => a + (i : Nat))
  rw [List.map_map, List.map_map] at h
  exact h
def dListRg (r : Bool) (δ : TRD) : TED := fun ρ S Q => δ ρ S fun i j S1 => RgOk i j ∧ newL r (rgD i j) S1 Q
def dTupRg (δ : TRD) : TED := fun ρ S Q => δ ρ S fun i j S1 => RgOk i j ∧ Q (.tup (rgD i j)) S1
theorem de_listRg {r : Bool} {δ : TRD} (hc : X.calm = true) (hm : X.mg "list" = none) (he : DRg X e δ) (hg : Gl X "list" := by rfl) (na : starEach [e] X.env = (false, eval e X.env) :: starEach [] X.env := by rfl) : DE X (.Call (.Name "list" p) [e] [] pos) (dListRg r δ) :=
  peW (pe_listRg hc hg hm he na) fun σ H Q ⟨ρ, S, Qd, re, rs, q, k⟩ =>
    ⟨ρ, S, _, re, rs, q, fun i j S1 H1 ⟨q1, q2⟩ g1 => ⟨q1, fun p hp => newL_ok g1.rs (rgD_rd i j) q2 (k.go g1) p hp⟩⟩
theorem de_tupRg {δ : TRD} (hc : X.calm = true) (hm : X.mg "tuple" = none) (he : DRg X e δ) (hg : Gl X "tuple" := by rfl) (na : starEach [e] X.env = (false, eval e X.env) :: starEach [] X.env := by rfl) : DE X (.Call (.Name "tuple" p) [e] [] pos) (dTupRg δ) :=
  peW (pe_tupRg hc hg hm he na) fun σ H Q ⟨ρ, S, Qd, re, rs, q, k⟩ =>
    ⟨ρ, S, _, re, rs, q, fun i j S1 H1 ⟨q1, q2⟩ g1 => ⟨q1, fun p hp => newT_ok g1.rs (rgD_rd i j) q2 (k.go g1) p hp⟩⟩
end
end PL
/-! least, greatest, sorted; isinstance; list methods; membership -/
namespace PL
open PySem PySem.Spec PySem.W PyProof.Rows L2

/-! ### the order -/
def ltD (d e : D) : Bool := dataLt (D.py d) (D.py e)
theorem minD_least : ∀ (xs : List PyData) (x : PyData), minD x xs ∈ x :: xs ∧ ∀ y ∈ x :: xs, dataLt y (minD x xs) = false
  | [], x => ⟨List.mem_cons_self, fun y hy => by
    rw [List.mem_singleton.mp hy]
    exact lex_irrefl _⟩
  | z :: zs, x => by
    unfold minD
    rw [List.foldl_cons]
    by_cases h : dataLt z x = true
    · rw [if_pos h]
      obtain ⟨m1, m2⟩ := minD_least zs z
      unfold minD at m1 m2
      refine ⟨List.mem_cons_of_mem _ m1, fun y hy => ?_⟩
      rcases List.mem_cons.mp hy with rfl | hy
      · cases c : dataLt y (List.foldl (fun a y => if dataLt y a = true then y else a) z zs) with
        | false => rfl
        | true =>
          have := lex_trans _ _ _ h c
          have q : dataLt z (List.foldl (fun a y => if dataLt y a = true then y else a) z zs) = true := this
          rw [m2 z List.mem_cons_self] at q
          cases q
      · exact m2 y hy
    · rw [if_neg h]
      obtain ⟨m1, m2⟩ := minD_least zs x
      unfold minD at m1 m2
      refine ⟨?_, fun y hy => ?_⟩
      · rcases List.mem_cons.mp m1 with e | e
        · rw [e]; exact List.mem_cons_self
        · exact List.mem_cons_of_mem _ (List.mem_cons_of_mem _ e)
      · rcases List.mem_cons.mp hy with rfl | hy
        · exact m2 y List.mem_cons_self
        · rcases List.mem_cons.mp hy with rfl | hy
          · cases c : dataLt y (List.foldl (fun a y => if dataLt y a = true then y else a) x zs) with
            | false => rfl
            | true =>
              rcases lex_negTrans _ (keyToks x) _ c with q | q
              · exact absurd q h
              · have q' : dataLt x (List.foldl (fun a y => if dataLt y a = true then y else a) x zs) = true := q
                rw [m2 x List.mem_cons_self] at q'
                cases q'
          · exact m2 y (List.mem_cons_of_mem _ hy)
theorem maxD_most : ∀ (xs : List PyData) (x : PyData), maxD x xs ∈ x :: xs ∧ ∀ y ∈ x :: xs, dataLt (maxD x xs) y = false
  | [], x => ⟨List.mem_cons_self, fun y hy => by
    rw [List.mem_singleton.mp hy]
    exact lex_irrefl _⟩
  | z :: zs, x => by
    unfold maxD
    rw [List.foldl_cons]
    by_cases h : dataLt x z = true
    · rw [if_pos h]
      obtain ⟨m1, m2⟩ := maxD_most zs z
      unfold maxD at m1 m2
      refine ⟨List.mem_cons_of_mem _ m1, fun y hy => ?_⟩
      rcases List.mem_cons.mp hy with rfl | hy
      · cases c : dataLt (List.foldl (fun a y => if dataLt a y = true then y else a) z zs) y with
        | false => rfl
        | true =>
          have q : dataLt (List.foldl (fun a y => if dataLt a y = true then y else a) z zs) z = true := lex_trans _ _ _ c h
          rw [m2 z List.mem_cons_self] at q
          cases q
      · exact m2 y hy
    · rw [if_neg h]
      obtain ⟨m1, m2⟩ := maxD_most zs x
      unfold maxD at m1 m2
      refine ⟨?_, fun y hy => ?_⟩
      · rcases List.mem_cons.mp m1 with e | e
        · rw [e]; exact List.mem_cons_self
        · exact List.mem_cons_of_mem _ (List.mem_cons_of_mem _ e)
      · rcases List.mem_cons.mp hy with rfl | hy
        · exact m2 y List.mem_cons_self
        · rcases List.mem_cons.mp hy with rfl | hy
          · cases c : dataLt (List.foldl (fun a y => if dataLt a y = true then y else a) x zs) y with
            | false => rfl
            | true =>
              rcases lex_negTrans _ (keyToks x) _ c with q | q
              · have q' : dataLt (List.foldl (fun a y => if dataLt a y = true then y else a) x zs) x = true := q
                rw [m2 x List.mem_cons_self] at q'
                cases q'
              · exact absurd q h
          · exact m2 y (List.mem_cons_of_mem _ hy)
section
variable {X : Cx}
/-- what data items of a list are read from -/
theorem reads_of {K : PySem.W.Frag} {P : Program} {w : World} {H : Hp} {s : Shared} {pins : List (Addr × Obj)} {σ : L2.St} {X : Cx} {S : Sto} {n : Nat} {ds : List D} {vs : List V} {us : List Value} (I : Inv X pins σ H s) (h : ds.all (D.okn n) = true) (r : RDs X.K S H ds vs) (rv : Vals vs us) :
    ∃ as, ReadsAll s.heap us (D.pys ds) as := Dp.readsAll I _ _ _ (okn_all_dp h r) rv
theorem depth_all {n : Nat} : ∀ {ds : List D}, ds.all (D.okn n) = true → PyData.depthAll (D.pys ds) ≤ n ∧ PyData.canLayAll0 (D.pys ds) = true
  | [], _ => by simp [D.pys, PyData.depthAll, PyData.canLayAll0]
  | d :: ds, h => by
    rw [List.all_cons, Bool.and_eq_true] at h
    obtain ⟨a1, a2⟩ := D.okn_lay n d h.1
    obtain ⟨b1, b2⟩ := depth_all h.2
    rw [D.pys, PyData.depthAll, PyData.canLayAll0, a1, b2]
    exact ⟨Nat.max_le.mpr ⟨a2, b1⟩, rfl⟩
/-- the items are of one kind -/
def akin (ds : List D) : Prop := ∀ d ∈ ds, ∀ e ∈ ds, alike (D.py d) (D.py e) = true ∧ D.py d ≠ .none
theorem akin_all {ds : List D} (h : akin ds) : AlikeAll (D.pys ds) := by
  rw [D.pys_eq]
  refine ⟨fun x hx y hy => ?_, fun x hx => ?_⟩
  · obtain ⟨d, hd, rfl⟩ := List.mem_map.mp hx
    obtain ⟨e, he, rfl⟩ := List.mem_map.mp hy
    exact (h d hd e he).1
  · obtain ⟨d, hd, rfl⟩ := List.mem_map.mp hx
    exact (h d hd d hd).2
def oMinL : RLD := fun ds S Q => match ds with
  | [d] => match S.seq d with
    | some es => (es ≠ [] ∧ es.all (D.okn 8) = true ∧ akin es) ∧ ∀ m ∈ es, (∀ y ∈ es, ltD y m = false) → Q m S
    | none => False
  | _ => False
def oMaxL : RLD := fun ds S Q => match ds with
  | [d] => match S.seq d with
    | some es => (es ≠ [] ∧ es.all (D.okn 8) = true ∧ akin es) ∧ ∀ m ∈ es, (∀ y ∈ es, ltD m y = false) → Q m S
    | none => False
  | _ => False
theorem pick_of {K : PySem.W.Frag} {S : Sto} {H : Hp} {s' : Shared} {pins : List (Addr × Obj)} {σ : L2.St} {X : Cx} {es : List D} {ws : List V} {its : List Value} {m : PyData} {i : Nat} {v : Value} {h' : Heap} {bs : List Addr} (I' : Inv X pins σ H s') (eh : s'.heap = h')
    (he : es.all (D.okn 8) = true) (s1 : RDs X.K S H es ws) (rv : Vals ws its) (hv : its.toArray[i]? = some v) (hr : Reads h' v m bs) : ∃ d ∈ es, ∃ x, RelV x v ∧ RD X.K S H d x ∧ D.py d = m := by
  have hv' : its[i]? = some v := by simpa using hv
  have hl := rv.length
  have hl2 := s1.len
  have hlt : i < its.length := by
    obtain ⟨h1, _⟩ := List.getElem?_eq_some_iff.mp hv'
    exact h1
  have hx : ws[i]? = some ws[i] := List.getElem?_eq_getElem (by omega)
  obtain ⟨d, hd, rd⟩ := s1.getV hx
  obtain ⟨u, hu, ru⟩ := rv.get hx
  rw [hv'] at hu
  cases hu
  have hm : d ∈ es := List.mem_of_getElem? hd
  have ok : D.okn 8 d = true := List.all_eq_true.mp he d hm
  obtain ⟨as, r⟩ := Dp.reads I' _ _ _ (D.okn_dp 8 d _ ok rd) ru
  rw [eh] at r
  exact ⟨d, hm, _, ru, rd, PySem.SeqAt.Reads.unique _ _ _ _ _ (D.okn_lay 8 d ok).1 r hr⟩
theorem p_minL (hu : X.A.units + 64 < cLine) (hc : X.calm = true) : CallD X (.builtin "min") oMinL := by
  intro pins s σ H vs us Q I r ⟨ds, S, Qd, rr, rs, q, k⟩
  unfold oMinL at q
  split at q
  · split at q
    · rename_i es hs
      obtain ⟨⟨ne, ok, ak⟩, q⟩ := q
      obtain ⟨v, rfl, r1⟩ := rr.one
      obtain ⟨a, ws, rfl, t1, s1⟩ := seq_at hs r1 rs
      rw [Vals.ref1 r]
      obtain ⟨e0, er, rfl⟩ := List.exists_cons_of_ne_nil ne
      have hd := (depth_all ok).1
      have fin : ∀ (its : List Value) (rv : Vals ws its) (i : Nat) v h' tk bs, its.toArray[i]? = some v → Reads h' v (minD (D.py e0) (D.pys er)) bs → (∀ b o, s.heap.get? b = some o → h'.get? b = some o) → EP X pins σ Q v { s with heap := h', toks := tk } := by
        intro its rv i v h' tk bs hv hr hk
        have I' : Inv X pins σ H { s with heap := h', toks := tk } := I.kept hk
        obtain ⟨d, hm, x, rx, rd, e⟩ := pick_of (K := X.K) I' rfl ok s1 rv hv hr
        refine ⟨x, H, I', rx, k.here rs (q d hm fun y hy => ?_) rd⟩
        unfold ltD
        rw [e]
        refine (minD_least _ _).2 _ ?_
        have : D.py y ∈ D.pys (e0 :: er) := by rw [D.pys_eq]; exact List.mem_map.mpr ⟨y, hy, rfl⟩
        rw [D.pys] at this
        exact this
      rcases t1 with t1 | t1
      · obtain ⟨its, rv, pl, hz⟩ := I.list t1
        obtain ⟨as, ra⟩ := reads_of (K := X.K) (P := X.prog) (w := X.w) I ok s1 rv
        rw [D.pys] at ra
        exact min_list_data (I.ok.hd hc) pl.isList (by simpa using ra) (by have := akin_all ak; rw [D.pys] at this; exact this) (by rw [D.pys] at hd; omega) fun i v h' tk bs hv hr hk => fin its rv i v h' tk bs hv hr hk
      · obtain ⟨its, rv, pl, hz⟩ := I.tuple t1
        obtain ⟨as, ra⟩ := reads_of (K := X.K) (P := X.prog) (w := X.w) I ok s1 rv
        rw [D.pys] at ra
        exact min_tuple_data (I.ok.hd hc) (show s.heap.IsTuple a its.toArray from pl) (by simpa using ra) (by have := akin_all ak; rw [D.pys] at this; exact this) (by rw [D.pys] at hd; omega) fun i v h' tk bs hv hr hk => fin its rv i v h' tk bs hv hr hk
    · exact q.elim
  · exact q.elim
theorem p_maxL (hu : X.A.units + 64 < cLine) (hc : X.calm = true) : CallD X (.builtin "max") oMaxL := by
  intro pins s σ H vs us Q I r ⟨ds, S, Qd, rr, rs, q, k⟩
  unfold oMaxL at q
  split at q
  · split at q
    · rename_i es hs
      obtain ⟨⟨ne, ok, ak⟩, q⟩ := q
      obtain ⟨v, rfl, r1⟩ := rr.one
      obtain ⟨a, ws, rfl, t1, s1⟩ := seq_at hs r1 rs
      rw [Vals.ref1 r]
      obtain ⟨e0, er, rfl⟩ := List.exists_cons_of_ne_nil ne
      have hd := (depth_all ok).1
      have fin : ∀ (its : List Value) (rv : Vals ws its) (i : Nat) v h' tk bs, its.toArray[i]? = some v → Reads h' v (maxD (D.py e0) (D.pys er)) bs → (∀ b o, s.heap.get? b = some o → h'.get? b = some o) → EP X pins σ Q v { s with heap := h', toks := tk } := by
        intro its rv i v h' tk bs hv hr hk
        have I' : Inv X pins σ H { s with heap := h', toks := tk } := I.kept hk
        obtain ⟨d, hm, x, rx, rd, e⟩ := pick_of (K := X.K) I' rfl ok s1 rv hv hr
        refine ⟨x, H, I', rx, k.here rs (q d hm fun y hy => ?_) rd⟩
        unfold ltD
        rw [e]
        refine (maxD_most _ _).2 _ ?_
        have : D.py y ∈ D.pys (e0 :: er) := by rw [D.pys_eq]; exact List.mem_map.mpr ⟨y, hy, rfl⟩
        rw [D.pys] at this
        exact this
      rcases t1 with t1 | t1
      · obtain ⟨its, rv, pl, hz⟩ := I.list t1
        obtain ⟨as, ra⟩ := reads_of (K := X.K) (P := X.prog) (w := X.w) I ok s1 rv
        rw [D.pys] at ra
        exact max_list_data (I.ok.hd hc) pl.isList (by simpa using ra) (by have := akin_all ak; rw [D.pys] at this; exact this) (by rw [D.pys] at hd; omega) fun i v h' tk bs hv hr hk => fin its rv i v h' tk bs hv hr hk
      · obtain ⟨its, rv, pl, hz⟩ := I.tuple t1
        obtain ⟨as, ra⟩ := reads_of (K := X.K) (P := X.prog) (w := X.w) I ok s1 rv
        rw [D.pys] at ra
        exact max_tuple_data (I.ok.hd hc) (show s.heap.IsTuple a its.toArray from pl) (by simpa using ra) (by have := akin_all ak; rw [D.pys] at this; exact this) (by rw [D.pys] at hd; omega) fun i v h' tk bs hv hr hk => fin its rv i v h' tk bs hv hr hk
    · exact q.elim
  · exact q.elim
/-- min, max: of two ints, or of the items -/
def oMin : RLD := fun ds S Q => match ds with
  | [_] => oMinL ds S Q
  | _ => oMin2 ds S Q
def oMax : RLD := fun ds S Q => match ds with
  | [_] => oMaxL ds S Q
  | _ => oMax2 ds S Q
theorem p_min (hu : X.A.units + 64 < cLine) (hc : X.calm = true) : CallD X (.builtin "min") oMin := callD_W (callD_or (p_minL hu hc) (p_min2 hc)) fun ds S Q q => by
  unfold oMin at q
  split at q
  · exact .inl q
  · exact .inr q
theorem p_max (hu : X.A.units + 64 < cLine) (hc : X.calm = true) : CallD X (.builtin "max") oMax := callD_W (callD_or (p_maxL hu hc) (p_max2 hc)) fun ds S Q q => by
  unfold oMax at q
  split at q
  · exact .inl q
  · exact .inr q

/-! ### sorted -/
def leD (d e : D) : Bool := dataLe false D.py d e
def oSorted (r : Bool) : RLD := fun ds S Q => match ds with
  | [d] => match S.lsts d with
    | some es => (es.all (D.okn 8) = true ∧ akin es ∧ Sortable (es.map D.py) ∧ es.length ≤ sizeLine) ∧ newL r (es.mergeSort leD) S Q
    | none => False
  | _ => False

theorem each_rd {K : PySem.W.Frag} {S : Sto} {H : Hp} {s : Shared} {pins : List (Addr × Obj)} {σ : L2.St} {X : Cx} (I : Inv X pins σ H s) : ∀ {es : List D} {ws : List V} {us : List Value}, es.all (D.okn 8) = true → RDs X.K S H es ws → Vals ws us →
    EachIs (fun v d => ∃ x, RelV x v ∧ RD X.K S H d x) us es ∧ EachIs (fun v d => ∃ as, Reads s.heap v (D.py d) as) us es
  | [], ws, us, _, r, rv => by
    rw [RDs.nil.mp r] at rv
    cases rv
    exact ⟨.nil, .nil⟩
  | e :: es, ws, us, h, r, rv => by
    rw [List.all_cons, Bool.and_eq_true] at h
    rw [RDs] at r
    obtain ⟨w, wr, rfl, r1, r2⟩ := r
    cases rv with
    | cons a b =>
      obtain ⟨i1, i2⟩ := each_rd (K := K) I h.2 r2 b
      exact ⟨.cons ⟨_, a, r1⟩ i1, .cons (Dp.reads I _ _ _ (D.okn_dp 8 e _ h.1 r1) a) i2⟩
theorem rd_each {K : PySem.W.Frag} {S : Sto} {H : Hp} : ∀ {es : List D} {us : List Value}, EachIs (fun v d => ∃ x, RelV x v ∧ RD K S H d x) us es → ∃ ws, Vals ws us ∧ RDs K S H es ws
  | _, _, .nil => ⟨[], .nil, RDs.nil.mpr rfl⟩
  | _, _, .cons ⟨x, a, b⟩ t => by
    obtain ⟨ws, h1, h2⟩ := rd_each t
    exact ⟨x :: ws, .cons a h1, RDs.cons b h2⟩
theorem p_sorted (hu : X.A.units + 64 < cLine) {r : Bool} : CallD X (.builtin "sorted") (oSorted r) := by
  intro pins s σ H vs us Q I rr0 ⟨ds, S, Qd, rr, rs, q, k⟩
  unfold oSorted at q
  split at q
  · split at q
    · rename_i es hs
      obtain ⟨⟨ok, ak, so, hz⟩, q⟩ := q
      obtain ⟨v, rfl, r1⟩ := rr.one
      obtain ⟨a, ws, rfl, t1, s1⟩ := lsts_at hs r1 rs
      rw [Vals.ref1 rr0]
      obtain ⟨its, rv, pl, hz2⟩ := I.list t1
      obtain ⟨e1, e2⟩ := each_rd (K := X.K) I ok s1 rv
      have ak' : AllAlike (es.map D.py) := by have := (akin_all ak).1; rw [D.pys_eq] at this; exact this
      refine sorted_data (vs := its) (bs := es) (enc := D.py) (by exact pl.isList) e1 e2 ak' so hz (fun b hb => ?_) fun out hlen eo => ?_
      · have := (D.okn_lay 8 b (List.all_eq_true.mp ok b hb)).2
        omega
      · obtain ⟨ys, v1, v2⟩ := rd_each eo
        obtain ⟨ep, he'⟩ := PyProof.Rows.sortedAll_at s.heap its out.toArray
        have hl : ys.length ≤ sizeLine := by rw [v2.len, List.length_mergeSort]; exact hz
        exact ⟨.ref _, upd H (s.heap.objs.size + 1) (.lst ys), I.laid (t' := s.toks) (fun _ _ => PyProof.Rows.sortedAll_old) (Nat.le_succ _) ⟨hl, out, ep, v1, he'⟩, rfl, newL_ok rs v2 q k _ (I.hok.fresh (Nat.le_succ _))⟩
    · exact q.elim
  · exact q.elim
end
end PL
/-! isinstance, methods, membership, tuple * int, * in displays, [::-1], sum -/
namespace PL
open PySem PySem.Spec PySem.W PyProof.Rows L2

/-! ### isinstance -/
def D.tyN (S : Sto) : D → Option String
  | .non => some "NoneType"
  | .bl _ => some "bool"
  | .int _ => some "int"
  | .str _ => some "str"
  | .tup _ => some "tuple"
  | .tpx _ => some "tuple"
  | .lst _ => some "list"
  | .fz _ => some "list"
  | .ref p => match S p with
    | some (.lst _) => some "list"
    | some _ => some "dict"
    | none => none
theorem tyX_of {K : PySem.W.Frag} {S : Sto} {H : Hp} {d : D} {v : V} {n : String} (r : RD K S H d v) (rs : RS K S H) (h : d.tyN S = some n) : TyX K H v (.type n) := by
  cases d with
  | non => rw [RD] at r; subst r; cases h; exact .base .non
  | bl b => rw [RD] at r; subst r; cases h; exact .base (.bl b)
  | int b => rw [RD] at r; subst r; cases h; exact .base (.int b)
  | str b => rw [RD] at r; subst r; cases h; exact .base (.str b)
  | tup ds =>
    rw [RD] at r
    obtain ⟨a, vs, rfl, t, _⟩ := r
    cases h
    rcases t with (t | ⟨o, t⟩) | ⟨o, its, n, h1, h2, _⟩
    · exact .base (.tup t)
    · exact .fTuple t
    · exact .kTuple h1 h2
  | tpx ds =>
    rw [RD] at r
    obtain ⟨a, o, vs, rfl, t, _⟩ := r
    cases h
    exact .fTuple t
  | lst ds =>
    rw [RD] at r
    obtain ⟨a, vs, rfl, _, t, _⟩ := r
    cases h
    exact .base (.lst t)
  | fz ds =>
    rw [RD] at r
    obtain ⟨a, vs, rfl, t, _⟩ := r
    cases h
    rcases t with ⟨o, t⟩ | ⟨o, its, n, t1, t2, _⟩
    · exact .base (.frz t)
    · exact .kList t1 t2
  | ref p =>
    rw [RD] at r
    subst r
    have h' : (match S p with
      | some (.lst _) => some "list"
      | some _ => some "dict"
      | none => none) = some n := h
    split at h'
    · rename_i ds e
      cases h'
      obtain ⟨vs, h1, _⟩ := rs p _ e
      exact .base (.lst h1)
    · rename_i mo e2 e
      cases h'
      cases mo with
      | lst ds => exact absurd rfl (e2 ds)
      | dK kvs => obtain ⟨ws, h1, _⟩ := rs p _ e; exact .base (.dK h1)
      | dT kvs => obtain ⟨ws, h1, _⟩ := rs p _ e; exact .base (.dT h1)
    · cases h'
section
variable {X : Cx} {e : Expr} {δ : TED} {p p2 pos : Pos} {es : List Expr} {α : TAD}
/-- isinstance(e, T), T a built-in type's name -/
def dIsi (T : String) (δ : TED) : TED := fun ρ S Q => δ ρ S fun x S1 => match x.tyN S1 with
  | some n => ∃ b, kitB n T = some b ∧ Q (.bl b) S1
  | none => False
theorem de_isi {x : Str} (T : String) (hm : X.mg "isinstance" = none) (hm2 : X.mg x = none) (hv : bootBuiltins x = some (.type T)) (ha : DE X e δ) (hg : Gl X "isinstance" := by rfl) (hg2 : Gl X x := by rfl) (hn : x ≠ "__name__" := by decide) (hd : (x == ("__debug__" : Str)) = false := by decide)
    (hs : starEach [e, .Name x p2] X.env = (false, eval e X.env) :: starEach [.Name x p2] X.env := by rfl) (hs2 : starEach [.Name x p2] X.env = (false, eval (.Name x p2) X.env) :: starEach [] X.env := by rfl) (hpl : (backTo pos (starEach [.Name x p2] X.env)).any (·.1) = false := by rfl) :
    DE X (.Call (.Name "isinstance" p) [e, .Name x p2] [] pos) (dIsi T δ) := by
  have hb : bootBuiltins "isinstance" = some (.builtin "isinstance") := by decide +kernel
  refine peW (pe_callB call_isi hg hm hb (pa_cons ha (pa_cons (pe_bltn (v := .ty T) hg2 hm2 hv rfl hn hd) pa_nil hs2) hs) (by decide) (by decide) hs hpl) fun σ H Q ⟨ρ, S, Qd, re, rs, q, k⟩ => ?_
  refine ⟨ρ, S, _, re, rs, q, fun d S1 v H1 q1 g1 r1 => ?_⟩
  try dsimp only at q1
  split at q1
  · rename_i n hn
    obtain ⟨b, hb, q1⟩ := q1
    exact ⟨v, .ty T, _, _, b, rfl, .ty T, tyX_of r1 g1.rs hn, kit_ty hb, (k.go g1).here g1.rs q1 RD.bl⟩
  · exact q1.elim

/-! ### methods of lists -/
theorem mtM_of {id : String} {r : V → List V → Hp → VK → Prop} {o : RMD} (h : MtM X id r) (w : ∀ d ds x xs S H Qd Q, RD X.K S H d x → RDs X.K S H ds xs → RS X.K S H → o d ds S Qd → Aft X.K S H Qd Q → r x xs H Q) : MtD X id o :=
  fun pins s σ H x xs v us Q I rx rxs ⟨d, ds, S, Qd, r1, r2, rs, q, k⟩ => h pins s σ H x xs v us Q I rx rxs (w d ds x xs S H Qd Q r1 r2 rs q k)
def Sto.trk (S : Sto) : D → Option (Addr × List D)
  | .ref p => match S p with
    | some (.lst ds) => some (p, ds)
    | _ => none
  | _ => none
theorem trk_is {S : Sto} {d : D} {p : Addr} {ds : List D} (h : S.trk d = some (p, ds)) : d = .ref p ∧ S p = some (.lst ds) := by
  cases d with
  | ref q =>
    have h' : (match S q with
      | some (.lst ds) => some (q, ds)
      | _ => none) = some (p, ds) := h
    split at h'
    · rename_i es e
      cases h'
      exact ⟨rfl, e⟩
    · cases h'
  | _ => cases h
def oAppend : RMD := fun d ds S Q => match S.trk d, ds with
  | some (p, es), [x] => es.length < sizeLine ∧ Q .non (S.up p (.lst (es ++ [x])))
  | _, _ => False
theorem m_append : MtD X "list.append" oAppend := mtM_of mt_append fun d ds x xs S H Qd Q r1 r2 rs q k => by
  unfold oAppend at q
  split at q
  · rename_i y p es z ht
    obtain ⟨rfl, hs⟩ := trk_is ht
    obtain ⟨v, rfl, r3⟩ := r2.one
    obtain ⟨vs, h1, h2⟩ := rs p _ hs
    rw [RD] at r1
    have g := Go.wrote (mo' := .lst (es ++ [z])) rs hs fun S' H' tp e => ⟨_, e, (h2.tp tp).snoc (r3.tp tp)⟩
    exact ⟨p, vs, v, r1, rfl, h1, by rw [h2.len]; exact q.1, k _ _ _ _ q.2 g RD.non⟩
  · exact q.elim
def oExtend : RMD := fun d ds S Q => match S.trk d, ds with
  | some (p, es), [x] => match S.list x with
    | some zs => es.length + zs.length ≤ sizeLine ∧ Q .non (S.up p (.lst (es ++ zs)))
    | none => False
  | _, _ => False
theorem m_extend : MtD X "list.extend" oExtend := mtM_of mt_extend fun d ds x xs S H Qd Q r1 r2 rs q k => by
  unfold oExtend at q
  split at q
  · rename_i y p es z ht
    split at q
    · rename_i zs hz
      obtain ⟨rfl, hs⟩ := trk_is ht
      obtain ⟨v, rfl, r3⟩ := r2.one
      obtain ⟨vs, h1, h2⟩ := rs p _ hs
      obtain ⟨b, ws, rfl, h3, h4⟩ := list_at hz r3 rs
      rw [RD] at r1
      have g := Go.wrote (mo' := .lst (es ++ zs)) rs hs fun S' H' tp e => ⟨_, e, (h2.tp tp).append (h4.tp tp)⟩
      exact ⟨p, b, vs, ws, r1, rfl, h1, h3, by rw [h2.len, h4.len]; exact q.1, k _ _ _ _ q.2 g RD.non⟩
    · exact q.elim
  · exact q.elim
theorem RDs.dropLast {K : PySem.W.Frag} {S : Sto} {H : Hp} {ds : List D} {vs : List V} (h : RDs K S H ds vs) : RDs K S H ds.dropLast vs.dropLast := by
  rw [List.dropLast_eq_take, List.dropLast_eq_take, h.len]
  exact h.take _
def oPop : RMD := fun d ds S Q => match S.trk d, ds with
  | some (p, es), [] => ∃ y, es[es.length - 1]? = some y ∧ Q y (S.up p (.lst es.dropLast))
  | _, _ => False
theorem m_pop : MtD X "list.pop" oPop := mtM_of mt_pop fun d ds x xs S H Qd Q r1 r2 rs q k => by
  unfold oPop at q
  split at q
  · rename_i y p es ht
    obtain ⟨y, hy, q⟩ := q
    obtain ⟨rfl, hs⟩ := trk_is ht
    obtain ⟨vs, h1, h2⟩ := rs p _ hs
    obtain ⟨v, e1, e2⟩ := h2.get hy
    rw [RD] at r1
    have g := Go.wrote (mo' := .lst es.dropLast) rs hs fun S' H' tp e => ⟨_, e, (h2.tp tp).dropLast⟩
    exact ⟨p, vs, v, r1, RDs.nil.mp r2, h1, by rw [h2.len]; exact e1, k _ _ _ _ q g (e2.tp g.tp)⟩
  · exact q.elim
def oPopAt : RMD := fun d ds S Q => match S.trk d, ds with
  | some (p, es), [.int i] => es.length ≤ sizeLine ∧ ∃ j y, ixN es.length i = some j ∧ es[j]? = some y ∧ Q y (S.up p (.lst (es.eraseIdx j)))
  | _, _ => False
theorem m_popAt : MtD X "list.pop" oPopAt := mtM_of mt_popAt fun d ds x xs S H Qd Q r1 r2 rs q k => by
  unfold oPopAt at q
  split at q
  · rename_i y p es i ht
    obtain ⟨hz, j, y, hj, hy, q⟩ := q
    have hsl := sizeLine_eq
    obtain ⟨rfl, hs⟩ := trk_is ht
    obtain ⟨vs, h1, h2⟩ := rs p _ hs
    obtain ⟨v, e1, e2⟩ := h2.get hy
    obtain ⟨w, rfl, r3⟩ := r2.one
    rw [RD] at r1 
    rw [RD] at r3
    subst r3
    have g := Go.wrote (mo' := .lst (es.eraseIdx j)) rs hs fun S' H' tp e => ⟨_, e, (h2.tp tp).erase j⟩
    obtain ⟨a1, a2, a3, a4⟩ := ixN_seq hj
    obtain ⟨b1, _⟩ := List.getElem?_eq_some_iff.mp e1
    refine ⟨p, vs, i, j, v, r1, rfl, h1, ?_, ?_, by rw [h2.len]; exact a1, e1, k _ _ _ _ q g (e2.tp g.tp)⟩
    · omega
    · omega
  · exact q.elim

/-! ### x in t, x not in t: data -/
def oIn (neg : Bool) : R2D := fun d e S Q => match S.seq e with
  | some es => (D.okn 8 d = true ∧ es.all (D.okn 8) = true) ∧ Q (.bl (if neg then !(es.any fun z => eqD z d) else es.any fun z => eqD z d)) S
  | none => False
theorem any_pys (d : D) : ∀ es : List D, (D.pys es).any (fun y => PyData.eqv y (D.py d)) = es.any fun z => eqD z d
  | [] => by rw [D.pys]; rfl
  | e :: es => by rw [D.pys, List.any_cons, List.any_cons, any_pys d es]; rfl
theorem in_go {S : Sto} {H : Hp} {s : Shared} {pins : List (Addr × Obj)} {σ : L2.St} {d : D} {es : List D} {a : Addr} {ws : List V} {x : V} {v : Value} {Q : Value → Shared → Prop} (neg : Bool) (hu : X.A.units + 64 < cLine) (I : Inv X pins σ H s) (h1 : D.okn 8 d = true) (h2 : es.all (D.okn 8) = true)
    (rx : RelV x v) (r1 : RD X.K S H d x) (t : SqL X.K H a ws ∨ SqT X.K H a ws) (s1 : RDs X.K S H es ws) (hq : Q (.bool (if neg then !(es.any fun z => eqD z d) else es.any fun z => eqD z d)) s) :
    wpAny (model X.prog X.w) X.A (compareOp (if neg then .NotIn else .In) v (.ref a)) Q X.xe s := by
  obtain ⟨as, ra⟩ := Dp.reads I _ _ _ (D.okn_dp 8 d _ h1 r1) rx
  obtain ⟨c1, c2⟩ := D.okn_lay 8 d h1
  obtain ⟨b1, b2⟩ := depth_all h2
  have hm : X.A.units + 1 + min (PyData.depthAll (D.pys es)) (D.py d).depth < cLine := by
    have := Nat.min_le_left (PyData.depthAll (D.pys es)) (D.py d).depth
    omega
  rcases t with t | t
  · obtain ⟨its, rv, pl, hz⟩ := I.list t
    obtain ⟨bs, rb⟩ := reads_of (K := X.K) (P := X.prog) (w := X.w) I h2 s1 rv
    cases neg with
    | true =>
      rw [if_pos rfl] at hq ⊢
      refine PySem.SeqAt.notIn_listAt _ pl.isList (PySem.SeqAt.items_eqAt (show ReadsAll s.heap its.toArray.toList _ _ by simpa using rb) ra b2 c1 hm) ?_
      rw [PySem.SeqAt.any_by_data (show ReadsAll s.heap its.toArray.toList _ _ by simpa using rb) b2, any_pys]
      exact hq
    | false =>
      rw [if_neg Bool.false_ne_true] at hq ⊢
      refine PySem.SeqAt.in_listAt _ pl.isList (PySem.SeqAt.items_eqAt (show ReadsAll s.heap its.toArray.toList _ _ by simpa using rb) ra b2 c1 hm) ?_
      rw [PySem.SeqAt.any_by_data (show ReadsAll s.heap its.toArray.toList _ _ by simpa using rb) b2, any_pys]
      exact hq
  · obtain ⟨its, rv, pl, hz⟩ := I.tuple t
    obtain ⟨bs, rb⟩ := reads_of (K := X.K) (P := X.prog) (w := X.w) I h2 s1 rv
    cases neg with
    | true =>
      rw [if_pos rfl] at hq ⊢
      refine PySem.SeqAt.notIn_tupleAt _ (show s.heap.IsTuple a its.toArray from pl) (PySem.SeqAt.items_eqAt (show ReadsAll s.heap its.toArray.toList _ _ by simpa using rb) ra b2 c1 hm) ?_
      rw [PySem.SeqAt.any_by_data (show ReadsAll s.heap its.toArray.toList _ _ by simpa using rb) b2, any_pys]
      exact hq
    | false =>
      rw [if_neg Bool.false_ne_true] at hq ⊢
      refine PySem.SeqAt.in_tupleAt _ (show s.heap.IsTuple a its.toArray from pl) (PySem.SeqAt.items_eqAt (show ReadsAll s.heap its.toArray.toList _ _ by simpa using rb) ra b2 c1 hm) ?_
      rw [PySem.SeqAt.any_by_data (show ReadsAll s.heap its.toArray.toList _ _ by simpa using rb) b2, any_pys]
      exact hq
theorem p_in (hu : X.A.units + 64 < cLine) : OpD X (compareOp .In) (oIn false) := by
  intro pins s σ H x y v u Q I rx ry ⟨d, e, S, Qd, r1, r2, rs, q, k⟩
  unfold oIn at q
  split at q
  · rename_i es hs
    obtain ⟨a, ws, rfl, t1, s1⟩ := seq_at hs r2 rs
    cases ry
    exact in_go false hu I q.1.1 q.1.2 rx r1 t1 s1 ⟨.bl _, H, I, rfl, k.here rs q.2 RD.bl⟩
  · exact q.elim
theorem p_notIn (hu : X.A.units + 64 < cLine) : OpD X (compareOp .NotIn) (oIn true) := by
  intro pins s σ H x y v u Q I rx ry ⟨d, e, S, Qd, r1, r2, rs, q, k⟩
  unfold oIn at q
  split at q
  · rename_i es hs
    obtain ⟨a, ws, rfl, t1, s1⟩ := seq_at hs r2 rs
    cases ry
    exact in_go true hu I q.1.1 q.1.2 rx r1 t1 s1 ⟨.bl _, H, I, rfl, k.here rs q.2 RD.bl⟩
  · exact q.elim

/-! ### * in displays and calls -/
theorem da_star (he : DE X e δ) (hr : DA X es α) (hs : starEach (.Starred e p :: es) X.env = (true, eval e X.env) :: starEach es X.env := by rfl) : DA X (.Starred e p :: es) (dStar δ α) := paW (StX.pa_star he hr hs) fun σ H Q ⟨ρ, S, Qd, re, rs, q, k⟩ => by
  refine ⟨ρ, S, _, re, rs, q, fun x S1 v H1 q1 g1 r1 => ?_⟩
  obtain ⟨ds, hds, q1⟩ := q1
  obtain ⟨a, vs, e1, e2, e3⟩ := seq_at hds r1 g1.rs
  exact ⟨a, vs, e1, e2.symm, ρ, S1, _, re.tp g1.tp, g1.rs, q1, fun xs S2 ws H2 q2 g2 r2 => k _ _ _ _ q2 (g1.trans g2) ((e3.tp g2.tp).append r2)⟩

/-! ### t[::-1] -/
def dRev (r : Bool) (δ : TED) : TED := fun ρ S Q => δ ρ S fun x S1 => match x with
  | .tup ds => Q (.tup ds.reverse) S1
  | .tpx ds => Q (.tup ds.reverse) S1
  | x => match S1.lsts x with
    | some ds => newL r ds.reverse S1 Q
    | none => False
theorem adjust_rev (n : Nat) : Builtin.Slice.sliceAdjust none none (-1) (n : Int) = ((n : Int) - 1, -1) := by
  unfold Builtin.Slice.sliceAdjust
  rfl
theorem places_rev (n : Nat) : Builtin.Slice.slicePlaces ((n : Int) - 1) (-1) (-1) = n := by
  unfold Builtin.Slice.slicePlaces
  rw [if_neg (by decide)]
  split
  · have : (((n : Int) - 1 - -1 - 1) / (- -1) + 1) = n := by
      rw [show (- -1 : Int) = 1 by decide, Int.ediv_one]; omega
    rw [this]; rfl
  · omega
end
section
variable {prog : Program} {w : World} {A : Around} {E : Value → Shared → Prop} {s : Shared}
theorem sliceApplied_rev {sl : Addr} {vs : Value} {n : Nat} {Q : Int × Int × Nat → Shared → Prop} (hs : s.heap.IsSliceOf sl .none .none vs) (ps : IsPart vs (some (-1)))
    (h : Q ((n : Int) - 1, -1, n) s) : wpAny (model prog w) A (Builtin.Slice.sliceApplied (.ref sl) (pure (n : Int))) Q E s := by
  obtain ⟨os, hos, hcs, hds⟩ := id hs
  unfold Builtin.Slice.sliceApplied Builtin.Slice.sliceFields
  refine wpAny_bind (wpAny_bind (wpAny_field hos hds (x := .none) rfl (wpAny_bind (wpAny_field hos hds (x := .none) rfl (wpAny_bind (wpAny_field hos hds (x := vs) rfl (wpAny_pure ?_)))))))
  refine wpAny_bind (HT.slicePart_ ps ?_)
  show wpAny _ _ (if ((-1 : Int) == 0) = true then _ else _) _ _ s
  rw [if_neg (by decide)]
  refine wpAny_bind (HT.slicePart_ .none (wpAny_bind (HT.slicePart_ .none (wpAny_bind (wpAny_pure ?_)))))
  show wpAny _ _ (match Builtin.Slice.sliceAdjust none none (-1) (n : Int) with | (lo, hi) => pure (lo, (-1 : Int), Builtin.Slice.slicePlaces lo hi (-1))) _ _ s
  rw [adjust_rev n]
  show wpAny _ _ (pure ((n : Int) - 1, (-1 : Int), Builtin.Slice.slicePlaces ((n : Int) - 1) (-1) (-1))) _ _ s
  rw [places_rev]
  exact wpAny_pure h
theorem range_all : ∀ l : List Value, (List.range l.length).filterMap (fun i => l[i]?) = l
  | [] => rfl
  | x :: l => by
    rw [List.length_cons, List.range_succ_eq_map, List.filterMap_cons]
    show x :: _ = _
    rw [List.filterMap_map]
    exact congrArg (x :: ·) (range_all l)
theorem pick_rev (xs : Array Value) : ((List.range xs.size).filterMap fun (m : Nat) => xs[((xs.size : Int) - 1 + (m : Int) * -1).toNat]?).toArray = xs.toList.reverse.toArray := by
  congr 1
  have e : (fun (m : Nat) => xs[((xs.size : Int) - 1 + (m : Int) * -1).toNat]?) = fun m => xs[(xs.size - 1 - m)]? := by
    funext m
    congr 1
    omega
  rw [e]
  have e2 : (fun m => xs[(xs.size - 1 - m)]?) = (fun i => xs[i]?) ∘ fun k => xs.size - 1 - k := rfl
  rw [e2, ← List.filterMap_map, krv_range, List.filterMap_reverse]
  congr 1
  have h := range_all xs.toList
  rw [Array.length_toList] at h
  have e3 : (fun i : Nat => xs[i]?) = fun i => xs.toList[i]? := by funext i; rw [Array.getElem?_toList]
  rw [e3]
  exact h
theorem getItem_tuple_rev {t sl : Addr} {items : Array Value} {vs : Value} {Q : Value → Shared → Prop} (ht : IsTup s.heap t items) (hs : s.heap.IsSliceOf sl .none .none vs) (ps : IsPart vs (some (-1)))
    (h : Q (.ref s.heap.objs.size) { s with heap := s.heap.push { cls := .type "tuple", data := .seq items.toList.reverse.toArray } })
    (hsz : items.size ≤ sizeLine) : wpAny (model prog w) A (getItem (.ref t) (.ref sl)) Q E s := by
  have htake : sizeOk (.seq items.toList.reverse.toArray) := by
    show items.toList.reverse.toArray.size ≤ sizeLine
    rw [List.size_toArray, List.length_reverse, Array.length_toList]
    exact hsz
  obtain ⟨os, hos, hcs, hds⟩ := id hs
  have hTs : s.TypeIs (.ref sl) "slice" := ⟨os, hos, hcs⟩
  unfold getItem
  try with_reducible refine wpAny_holding ?_
  first | refine wpAny_bind (wpAny_pure ?_) | skip
  refine wpAny_bind (wpAny_sequenceKey ht.typeIs (by decide) ?_)
  refine wpAny_bind (wpAny_callSpecial?_slot (name := Str.ofString "__getitem__") ht.typeIs PyProof.Rows.slot_tuple_getitem
    (wpAny_call_entry PyProof.Rows.slot_tuple_getitem ht.typeIs PyProof.Rows.entry_tuple_getitem ?_ (PyProof.Rows.args_tuple_getitem _ _)))
  show wpAny _ _ (Builtin.Tuple.tupleItemsOf (.ref t) >>= _) _ _ s
  refine wpAny_bind (tupleItemsOf_ ht ?_)
  refine wpAny_bind (wpAny_typeOf hTs ?_)
  rw [if_pos (by decide)]
  refine wpAny_bind (sliceApplied_rev hs ps ?_)
  have hno : ¬ (((items.size : Int) - 1 == 0 && (-1 : Int) == 1 && items.size == items.size) = true) := by
    intro q
    rw [Bool.and_eq_true, Bool.and_eq_true] at q
    exact absurd q.1.2 (by decide)
  show wpAny _ _ (if ((items.size : Int) - 1 == 0 && (-1 : Int) == 1 && items.size == items.size) = true then _ else _) _ _ s
  rw [if_neg hno, pick_rev]
  first
    | exact wpAny_bind (m := Builtin.Tuple.tupleExact _) (wpAny_newObj_type (wpAny_pure ⟨_, rfl, wpAny_pure h⟩) htake)
    | exact wpAny_bind (m := Builtin.Tuple.tupleExact _) (wpAny_newObj_type (wpAny_bind (wpAny_pure (wpAny_pure ⟨_, rfl, wpAny_pure h⟩))) htake)
    | exact wpAny_bind (wpAny_bind (m := Builtin.Tuple.tupleExact _) (wpAny_newObj_type (wpAny_pure (wpAny_pure ⟨_, rfl, wpAny_pure h⟩)) htake))
    | exact wpAny_bind (wpAny_bind (m := Builtin.Tuple.tupleExact _) (wpAny_newObj_type (wpAny_pure ⟨_, rfl, wpAny_pure h⟩) htake))
end

section
variable {X : Cx} {e : Expr} {δ : TED} {p p2 pos : Pos} {es : List Expr} {α : TAD}
theorem de_rev {r : Bool} {k : Nat} {p1 p2 p3 : Pos} (he : DE X e δ) : DE X (.Subscript e (.Slice none none (some (.UnaryOp .USub (.Constant (.int 1) k p1) p2)) p3) pos) (dRev r δ) := by
  refine peW (t := fun σ H Q => LE X.K δ σ H fun x H1 => ∃ a xs, x = .ref a ∧ ((SqL X.K H1 a xs ∧ ∀ p, H1 p = none → Q (.ref p) (upd H1 p (.lst xs.reverse))) ∨ (SqT X.K H1 a xs ∧ ∀ p, H1 p = none → Q (.ref p) (upd H1 p (.tup xs.reverse))))) ⟨fun pins s σ H Q I h => ?_⟩ fun σ H Q ⟨ρ, S, Qd, re, rs, q, k⟩ => ?_
  · refine Subscript_ (thn (he.run pins s σ H _ I h) fun v s1 ⟨x, H1, I1, r1, q1⟩ => ?_)
    obtain ⟨a, xs, ex, q⟩ := q1
    subst ex
    cases r1
    have hst : PO X (some (.UnaryOp .USub (.Constant (.int 1) k p1) p2)) (tPart (tUn (rU fun i => .int (-i)) (tC (.int 1)))) := po_some (pe_un un_neg pe_int)
    refine wpAny_Slice (thn (po_none.run pins s1 σ H1 (fun o H2 => o = none ∧ H2 = H1) I1 ⟨rfl, rfl⟩) fun vl s2 ⟨l, H2, I2, pl, el, e2⟩ => ?_)
    subst el e2
    refine thn (po_none.run pins s2 σ H2 (fun o H3 => o = none ∧ H3 = H2) I2 ⟨rfl, rfl⟩) fun vu s3 ⟨u, H3, I3, pu, eu, e3⟩ => ?_
    subst eu e3
    refine thn (hst.run pins s3 σ H3 (fun o H4 => o = some (-1) ∧ H4 = H3) I3 ⟨1, rfl, -1, rfl, rfl, rfl⟩) fun vs s4 ⟨o, H4, I4, ps, eo, e4⟩ => ?_
    subst eo e4
    have I5 : Inv X pins σ H4 { s4 with heap := s4.heap.push { cls := .type "slice", data := .fields #[vl, vu, vs] } } := I4.kept (t' := s4.toks) fun b ob q => Heap.get?_push_of_some _ q
    show wpAny (model X.prog X.w) X.A (subscriptTail e (.Slice none none (some (.UnaryOp .USub (.Constant (.int 1) k p1) p2)) p3) (.ref a) (.ref s4.heap.objs.size)) (EP X pins σ Q) X.xe { s4 with heap := s4.heap.push { cls := .type "slice", data := .fields #[vl, vu, vs] } }
    rcases q with ⟨hx, q⟩ | ⟨hx, q⟩
    · obtain ⟨its, r, ht, hz⟩ := I5.list hx
      have hlen := r.length
      refine tail_any (ops := [.ref a, .ref s4.heap.objs.size]) ht.isList.typeIs (PySem.slot_list_getitem.lookup) ?_ (by with_unfolding_all rfl)
      refine wpAny_getItem_list_slice ht.isList (Heap.IsSliceOf.new _ vl vu vs) pl pu ps (by decide) ?_ (by rw [List.size_toArray]; omega)
      rw [PySem.W.krv_pick]
      refine ⟨.ref _, _, I5.laid (t' := s4.toks) (o := .lst xs.reverse) (fun b ob q => Heap.get?_push_of_some _ q) (Nat.le_refl _) ?_, rfl, q _ (I5.hok.fresh (Nat.le_refl _))⟩
      exact ⟨by rw [List.length_reverse]; exact hz, _, 0, r.reverse, Heap.get?_push_size _ rfl⟩
    · obtain ⟨its, r, ht, hz⟩ := I5.tuple hx
      have hlen := r.length
      cases pl
      cases pu
      refine tail_any (ops := [.ref a, .ref s4.heap.objs.size]) ht.typeIs (PyProof.Rows.slot_tuple_getitem.lookup) ?_ (by with_unfolding_all rfl)
      refine getItem_tuple_rev ht (Heap.IsSliceOf.new _ .none .none vs) ps ?_ (by rw [List.size_toArray]; omega)
      refine ⟨.ref _, _, I5.laid (t' := s4.toks) (o := .tup xs.reverse) (fun b ob q => Heap.get?_push_of_some _ q) (Nat.le_refl _) ?_, rfl, q _ (I5.hok.fresh (Nat.le_refl _))⟩
      exact ⟨by rw [List.length_reverse]; exact hz, _, r.reverse, IsTup.new _ _⟩
  · refine ⟨ρ, S, _, re, rs, q, fun x S1 v H1 q1 g1 r1 => ?_⟩
    try dsimp only at q1
    split at q1
    · rw [RD] at r1
      obtain ⟨a, vs, rfl, t1, s1⟩ := r1
      exact ⟨a, vs, rfl, .inr ⟨t1, fun p hp => newT_ok g1.rs s1.reverse q1 (k.go g1) p hp⟩⟩
    · rw [RD] at r1
      obtain ⟨a, o, vs, rfl, t1, _, s1⟩ := r1
      exact ⟨a, vs, rfl, .inr ⟨.inl (.inr ⟨o, t1⟩), fun p hp => newT_ok g1.rs s1.reverse q1 (k.go g1) p hp⟩⟩
    · split at q1
      · rename_i ds hs
        obtain ⟨a, vs, rfl, t1, s1⟩ := lsts_at hs r1 g1.rs
        exact ⟨a, vs, rfl, .inl ⟨t1, fun p hp => newL_ok g1.rs s1.reverse q1 (k.go g1) p hp⟩⟩
      · exact q1.elim

/-! ### sum -/
theorem preSum_take (ns : List Int) : ∀ i, i ≤ ns.length → preSum (fun i => ns.getD i 0) i = (ns.take i).sum
  | 0, _ => rfl
  | i + 1, h => by
    have hlt : i < ns.length := h
    rw [preSum, preSum_take ns i (by omega), List.take_succ, List.getElem?_eq_getElem hlt, List.sum_append]
    have e : ns.getD i 0 = ns[i] := by rw [List.getD_eq_getElem?_getD, List.getElem?_eq_getElem hlt]; rfl
    show _ + ns.getD i 0 = _ + ([ns[i]] : List Int).sum
    rw [e, List.sum_singleton]
theorem sum_go {its : List Value} {ns : List Int} (h : IntsAre its ns) : ∀ (i : Nat) (v : Value), its.toArray[i]? = some v → ∃ t, v = .int (ns.getD i 0) t := by
  induction h with
  | nil => intro i v hv; simp at hv
  | cons n k r ih =>
    intro i v hv
    cases i with
    | zero => 
      have e : Value.int n k = v := by simpa using hv
      exact ⟨k, e.symm⟩
    | succ i =>
      obtain ⟨t, e⟩ := ih i v (by simpa using hv)
      exact ⟨t, e⟩
theorem p_sum (hc : X.calm = true) : CallD X (.builtin "sum") oSum := by
  intro pins s σ H vs us Q I r ⟨ds, S, Qd, rr, rs, q, k⟩
  unfold oSum at q
  split at q
  · obtain ⟨ns, hs, q⟩ := q
    obtain ⟨v, rfl, r1⟩ := rr.one
    obtain ⟨a, ws, rfl, t1, s1⟩ := seq_at hs r1 rs
    rw [Vals.ref1 r]
    have e := rds_ints s1
    subst e
    have fin : ∀ (its : List Value), Vals (ns.map V.int) its → ∀ (h' : Heap) tk t', (∀ b o, s.heap.get? b = some o → h'.get? b = some o) → EP X pins σ Q (.int (preSum (fun i => ns.getD i 0) its.toArray.size) t') { s with heap := h', toks := tk } := by
      intro its rv h' tk t' hk
      have hl : its.toArray.size = ns.length := by rw [List.size_toArray, ← rv.length, List.length_map]
      rw [hl, preSum_take ns ns.length (Nat.le_refl _), List.take_length]
      exact ⟨.int ns.sum, H, I.kept hk, ⟨_, rfl⟩, k.here rs q RD.int⟩
    rcases t1 with t1 | t1
    · obtain ⟨its, rv, pl, hz⟩ := I.list t1
      refine call_sum_walkAnyS (iter_listW (A := X.A.in1) (I.ok.hd hc) pl.isList fun s₂ e W st hfp hw hk => ?_)
      refine ⟨_, _, _, _, _, _, _, fun i => ns.getD i 0, rfl, W, st, hfp, sum_go rv.ints, fun s' t' m => ?_⟩
      obtain ⟨h', tk, rfl, hk'⟩ := moved_old e rfl m
      exact fin its rv h' tk t' hk'
    · obtain ⟨its, rv, pl, hz⟩ := I.tuple t1
      refine call_sum_walkAnyS (iter_tupleW (A := X.A.in1) (I.ok.hd hc) (show s.heap.IsTuple a its.toArray from pl) fun s₂ e W st hfp hw hk => ?_)
      refine ⟨_, _, _, _, _, _, _, fun i => ns.getD i 0, rfl, W, st, hfp, sum_go rv.ints, fun s' t' m => ?_⟩
      obtain ⟨h', tk, rfl, hk'⟩ := moved_old e rfl m
      exact fin its rv h' tk t' hk'
  · exact q.elim

/-! ### tuple * 0, tuple * 1 -/
end
section
theorem tuple_mul1 (l : Addr) (items : Array Value) (n : Nat) (dd : Option Addr) (sl : Array (Option Value)) (u : Tok) :
    Meets (Builtin.«tuple.__mul__» ⟨[.ref l, .int 1 u], []⟩) (fun _ R s => s.heap.get? l = some { cls := .type "tuple", dict := dd, data := .seq items n, slots := sl } ∧ R (.ok (.ret (Value.ref l))) s) :=
  .of_wp fun prog w A R s h => by
    obtain ⟨hp, g, d, tk, os⟩ := s
    obtain ⟨hl, h⟩ := h
    have f1 := AutoSeq1.idx_int
    wp_walk using wpAny_loadPart' hl
    exact ⟨_, rfl, h⟩
theorem tuple_mul0 (l : Addr) (items : Array Value) (n : Nat) (dd : Option Addr) (sl : Array (Option Value)) (u : Tok) (c1 : items.isEmpty = false) :
    Meets (Builtin.«tuple.__mul__» ⟨[.ref l, .int 0 u], []⟩) (fun _ R s => s.heap.get? l = some { cls := .type "tuple", dict := dd, data := .seq items n, slots := sl } ∧
      R (.ok (.ret (Value.ref s.heap.objs.size))) { s with heap := s.heap.push { cls := Value.type "tuple", data := Data.seq #[] }, toks := s.toks }) :=
  .of_wp fun prog w A R s h => by
    obtain ⟨hp, g, d, tk, os⟩ := s
    obtain ⟨hl, h⟩ := h
    have f1 := AutoSeq1.idx_int
    have c2 : (items.isEmpty || (0 : Int) == 1) = false := by rw [c1]; rfl
    wp_walk using wpAny_loadPart' hl
    repeat (first
      | (refine wpAny_ite_false (decide_eq_false (by rw [c2]; exact Bool.false_ne_true)) ?_; wp_walk using wpAny_loadPart' hl)
      | (rw [c1]; wp_walk using wpAny_loadPart' hl))
    exact ⟨_, rfl, h⟩
section
variable {X : Cx}
def rRepS (K : PySem.W.Frag) : R2 := fun x y H Q => ∃ l xs, x = .ref l ∧ SqT K H l xs ∧ ((y = .int 1 ∧ Q (.ref l) H) ∨ (y = .int 0 ∧ xs ≠ [] ∧ ∀ p, H p = none → Q (.ref p) (upd H p (.tup []))))
theorem op_repS : OpR X (binaryOp .Mult) (rRepS X.K) := by
  intro pins s σ H x y v u Q I rx ry h
  obtain ⟨l, xs, rfl, hT, h⟩ := h
  cases rx
  obtain ⟨its, r, ⟨⟨cls, dd, data, sl⟩, ho, hc, n, hd⟩, hs⟩ := I.tuple hT
  simp only at hc hd
  subst hc hd
  rcases h with ⟨rfl, q⟩ | ⟨rfl, hne, q⟩
  · obtain ⟨t, rfl⟩ := ry
    refine wpAny_binaryOp_repeat_ref (T := "tuple") (U := "int") (by decide) ⟨_, ho, rfl⟩ (fun s' => typeIs_int s' 1 t) noFill_tuple_mul F.fills_int_mul F.slot_int_rmul repeat_tuple F.slot_int_index.lookup
      (call_meets F.slot_int_rmul (typeIs_int s 1 t) F.entry_int_rmul (F.args_int_rmul_2 _ _) (int_rmul_tuple 1 t l its.toArray n dd sl)
        ⟨ho, rfl, ⟨_, ho, rfl⟩, call_meets F.slot_tuple_mul ⟨_, ho, rfl⟩ F.entry_tuple_mul (F.args_tuple_mul_2 _ _) (tuple_mul1 l its.toArray n dd sl t) ⟨ho, ?_⟩⟩)
    exact ⟨.ref l, H, I, rfl, q⟩
  · obtain ⟨t, rfl⟩ := ry
    have hi : its.toArray.isEmpty = false := by
      cases its with
      | nil => cases r; exact absurd rfl hne
      | cons a b => rfl
    refine wpAny_binaryOp_repeat_ref (T := "tuple") (U := "int") (by decide) ⟨_, ho, rfl⟩ (fun s' => typeIs_int s' 0 t) noFill_tuple_mul F.fills_int_mul F.slot_int_rmul repeat_tuple F.slot_int_index.lookup
      (call_meets F.slot_int_rmul (typeIs_int s 0 t) F.entry_int_rmul (F.args_int_rmul_2 _ _) (int_rmul_tuple 0 t l its.toArray n dd sl)
        ⟨ho, rfl, ⟨_, ho, rfl⟩, call_meets F.slot_tuple_mul ⟨_, ho, rfl⟩ F.entry_tuple_mul (F.args_tuple_mul_2 _ _) (tuple_mul0 l its.toArray n dd sl t hi) ⟨ho, ?_⟩⟩)
    refine ⟨.ref s.heap.objs.size, _, I.laid (t' := s.toks) (o := .tup []) (fun b ob q => Heap.get?_push_of_some _ q) (Nat.le_refl _) ?_, rfl, q _ (I.hok.fresh (Nat.le_refl _))⟩
    exact ⟨Nat.zero_le _, [], .nil, IsTup.new _ _⟩
/-- tuple * int, any count; ints; lists -/
def oMulA (r : Bool) : R2D := fun d e S Q => match e with
  | .int k => match d with
    | .int i => CMul' i k ∧ Q (.int (i * k)) S
    | .tup a => (a ≠ [] ∧ 0 ≤ k ∧ k ≤ 1000 ∧ a.length ≤ 1000) ∧ Q (.tup (List.replicate k.toNat a).flatten) S
    | d => match S.list d with
      | some a => (0 ≤ k ∧ k < 2 ^ 62 ∧ a.length * k.toNat ≤ sizeLine) ∧ newL r (List.replicate k.toNat a).flatten S Q
      | none => False
  | _ => False
theorem p_mulA {r : Bool} : OpD X (binaryOp .Mult) (oMulA r) := by
  have small : OpD X (binaryOp .Mult) (fun d e S Q => ∃ a, d = .tup a ∧ a ≠ [] ∧ ((e = .int 0 ∧ Q (.tup []) S) ∨ (e = .int 1 ∧ Q (.tup a) S))) := opD_of op_repS fun d e x y S H Qd Q r1 r2 rs q k => by
    obtain ⟨a, rfl, hne, q⟩ := q
    rw [RD] at r1
    have r1' := r1
    obtain ⟨b, vs, rfl, t1, s1⟩ := r1
    refine ⟨b, vs, rfl, t1, ?_⟩
    rcases q with ⟨rfl, q⟩ | ⟨rfl, q⟩
    · rw [RD] at r2
      exact .inr ⟨r2, fun z => hne ((vals_nil_iff s1).mp z), fun p hp => newT_ok rs (RDs.nil.mpr rfl) q k p hp⟩
    · rw [RD] at r2
      exact .inl ⟨r2, k.here rs q (by rw [RD]; exact ⟨b, vs, rfl, t1, s1⟩)⟩
  refine opD_W (opD_or (p_mul (r := r)) small) fun d e S Q q => ?_
  cases e with
  | int kk =>
    cases d with
    | tup a =>
      obtain ⟨⟨c0, c1, c2, c3⟩, q⟩ := q
      by_cases h0 : kk = 0
      · subst h0
        exact .inr ⟨a, rfl, c0, .inl ⟨rfl, q⟩⟩
      · by_cases h1 : kk = 1
        · subst h1
          have e : (List.replicate (Int.toNat 1) a).flatten = a := by simp
          rw [e] at q
          exact .inr ⟨a, rfl, c0, .inr ⟨rfl, q⟩⟩
        · exact .inl ⟨⟨c0, by omega, c2, c3⟩, q⟩
    | _ => exact .inl q
  | _ => exact q.elim
end
end
end PL
/-! plain reasoning over the readings -/
namespace PL
open PySem PySem.Spec PySem.W PyProof.Rows L2

def Ext (S S' : Sto) : Prop := ∀ p o, S p = some o → S' p = some o
theorem Ext.refl {S : Sto} : Ext S S := fun _ _ h => h
theorem Ext.trans {S S1 S2 : Sto} (a : Ext S S1) (b : Ext S1 S2) : Ext S S2 := fun p o h => b p o (a p o h)
theorem Ext.up {S : Sto} {p : Addr} {o : MO} (h : S p = none) : Ext S (S.up p o) := fun q u e => by rw [Sto.up_ne (fun z => by subst z; rw [h] at e; cases e)]; exact e

/-! ### loops -/
theorem loopD_inv {ok : Sto → Prop} {f : D → TSD} {De : EndsD} (I : List D → DEnv → Sto → Prop)
    (step : ∀ x xs ρ S, I (x :: xs) ρ S → ok S → ∀ N : DEnv → Sto → Prop, (∀ ρ' S', ok S' → I xs ρ' S' → N ρ' S') → f x { nx := N, ct := N, bk := De.nx, rt := De.rt } ρ S)
    (fin : ∀ ρ S, I [] ρ S → De.nx ρ S) : ∀ (xs : List D) (ρ : DEnv) (S : Sto), I xs ρ S → ok S → loopD ok f xs De ρ S
  | [], ρ, S, h, _ => fin ρ S h
  | x :: xs, ρ, S, h, o => step x xs ρ S h o _ fun ρ' S' o' h' => ⟨o', loopD_inv I step fin xs ρ' S' h' o'⟩

theorem lcD_inv {Dl : Addr} {ok : Sto → Prop} {ρ : DEnv} {γ : TGD} {t : TTD} {el : TED} (I : List D → List D → Sto → Prop)
    (step : ∀ x xs acc S, I (x :: xs) acc S → S Dl = some (.lst acc) → ok S → ∀ N : List D → Sto → Prop, (∀ acc' S', S' Dl = some (.lst acc') → ok S' → I xs acc' S' → N acc' S') →
      γ x ρ S fun ρ' S1 => t ρ' S1 fun b S2 => match b with
        | true => el ρ' S2 fun y S3 => S3 Dl = some (.lst acc) ∧ acc.length < sizeLine ∧ ok (S3.up Dl (.lst (acc ++ [y]))) ∧ N (acc ++ [y]) (S3.up Dl (.lst (acc ++ [y])))
        | false => S2 Dl = some (.lst acc) ∧ ok S2 ∧ N acc S2) {Q : List D → Sto → Prop} (fin : ∀ acc S, I [] acc S → S Dl = some (.lst acc) → Q acc S) :
    ∀ (xs acc : List D) (S : Sto), I xs acc S → S Dl = some (.lst acc) → ok S → lcD Dl ok ρ γ t el xs acc S Q
  | [], acc, S, h, d, _ => fin acc S h d
  | x :: xs, acc, S, h, d, o => step x xs acc S h d o (fun acc S => lcD Dl ok ρ γ t el xs acc S Q) fun acc' S' d' o' h' => lcD_inv I step fin xs acc' S' h' d' o'

theorem newL_of {r : Bool} {ds : List D} {S : Sto} {Q : QD} {Dl : Addr} (h : newL r ds S Q) (hD : S Dl = none) : endL r Dl Q ds (S.up Dl (.lst ds)) := by
  cases r with
  | true => exact h Dl hD
  | false =>
    show Q (.lst ds) ((S.up Dl (.lst ds)).del Dl)
    rw [Sto.del_up hD]
    exact h
/-- a comprehension that changes nothing -/
theorem lc_map {r : Bool} {ρ0 : DEnv} {γ : TGD} {t : TTD} {el : TED} {it : ItD} {S : Sto} {Q : QD} (keep : D → Bool) (f : D → D) (hok : ∀ S', Ext S S' → it.ok S') (hlen : it.xs.length ≤ sizeLine)
    (hx : ∀ x ∈ it.xs, ∀ S', Ext S S' → ∀ (N : D → Sto → Prop) (M : Sto → Prop), (keep x = true → N (f x) S') → (keep x = false → M S') → γ x ρ0 S' fun ρ' S1 => t ρ' S1 fun b S2 => match b with
      | true => el ρ' S2 N
      | false => M S2)
    (q : newL r ((it.xs.filter keep).map f) S Q) : ∀ Dl, S Dl = none → it.ok (S.up Dl (.lst [])) ∧ lcD Dl it.ok ρ0 γ t el it.xs [] (S.up Dl (.lst [])) (endL r Dl Q) := by
  intro Dl hD
  refine ⟨hok _ (Ext.up hD), lcD_inv (fun xs acc S' => S' = S.up Dl (.lst acc) ∧ ∃ dn, dn ++ xs = it.xs ∧ acc = (dn.filter keep).map f) ?_ ?_ it.xs [] _ ⟨rfl, [], rfl, rfl⟩ Sto.up_same (hok _ (Ext.up hD))⟩
  · rintro x xs acc S' ⟨rfl, dn, e, rfl⟩ d o N n
    have hm : x ∈ it.xs := by rw [← e]; simp
    have hl : ((dn.filter keep).map f).length < sizeLine := by
      rw [List.length_map]
      have h1 : (dn.filter keep).length ≤ dn.length := List.length_filter_le _ _
      have h2 : dn.length + (x :: xs).length = it.xs.length := by rw [← e, List.length_append]
      rw [List.length_cons] at h2
      omega
    refine hx x hm _ (Ext.up hD) _ _ (fun hk => ?_) (fun hk => ?_)
    · refine ⟨Sto.up_same, hl, ?_, ?_⟩
      · rw [Sto.up_up]; exact hok _ (Ext.up hD)
      · refine n _ _ Sto.up_same ?_ ⟨Sto.up_up, dn ++ [x], by simpa using e, ?_⟩
        · rw [Sto.up_up]; exact hok _ (Ext.up hD)
        · rw [List.filter_append, List.map_append, List.filter_cons_of_pos hk]; rfl
    · refine ⟨Sto.up_same, hok _ (Ext.up hD), n _ _ Sto.up_same (hok _ (Ext.up hD)) ⟨rfl, dn ++ [x], by simpa using e, ?_⟩⟩
      rw [List.filter_append, List.filter_cons_of_neg (by rw [hk]; exact Bool.false_ne_true)]
      simp
  · rintro acc S' ⟨rfl, dn, e, rfl⟩ d
    rw [List.append_nil] at e
    subst e
    exact newL_of q hD
/-- of all items -/
theorem lc_mapA {r : Bool} {ρ0 : DEnv} {γ : TGD} {t : TTD} {el : TED} {it : ItD} {S : Sto} {Q : QD} (f : D → D) (hok : ∀ S', Ext S S' → it.ok S') (hlen : it.xs.length ≤ sizeLine)
    (hx : ∀ x ∈ it.xs, ∀ S', Ext S S' → ∀ (N : D → Sto → Prop) (M : Sto → Prop), N (f x) S' → γ x ρ0 S' fun ρ' S1 => t ρ' S1 fun b S2 => match b with
      | true => el ρ' S2 N
      | false => M S2)
    (q : newL r (it.xs.map f) S Q) : ∀ Dl, S Dl = none → it.ok (S.up Dl (.lst [])) ∧ lcD Dl it.ok ρ0 γ t el it.xs [] (S.up Dl (.lst [])) (endL r Dl Q) :=
  lc_map (fun _ => true) f hok hlen (fun x hm S' e N M h1 _ => hx x hm S' e N M (h1 rfl)) (by rw [List.filter_eq_self.mpr (fun _ _ => rfl)]; exact q)
/-- a comprehension whose element changes the store elsewhere: I says how it stands behind the items so far -/
theorem lc_run {r : Bool} {ρ0 : DEnv} {γ : TGD} {t : TTD} {el : TED} {it : ItD} {S : Sto} {Q : QD} (I : List D → List D → Sto → Prop) (hok : ∀ S', it.ok S') (hlen : it.xs.length ≤ sizeLine)
    (h0 : ∀ Dl, S Dl = none → I it.xs [] (S.up Dl (.lst [])))
    (hx : ∀ x xs acc S', (∃ dn, dn ++ x :: xs = it.xs) → I (x :: xs) acc S' → ∀ Dl, S Dl = none → S' Dl = some (.lst acc) → ∀ (N : D → Sto → Prop) (M : Sto → Prop), (∀ y S2, S2 Dl = some (.lst acc) → acc.length < sizeLine → I xs (acc ++ [y]) (S2.up Dl (.lst (acc ++ [y]))) → N y S2) → γ x ρ0 S' fun ρ' S1 => t ρ' S1 fun b S2 => match b with
      | true => el ρ' S2 N
      | false => M S2)
    (hlenA : ∀ x xs acc S', I (x :: xs) acc S' → acc.length + (x :: xs).length ≤ it.xs.length)
    (q : ∀ Dl acc S', S Dl = none → I [] acc S' → S' Dl = some (.lst acc) → endL r Dl Q acc S') : ∀ Dl, S Dl = none → it.ok (S.up Dl (.lst [])) ∧ lcD Dl it.ok ρ0 γ t el it.xs [] (S.up Dl (.lst [])) (endL r Dl Q) := by
  intro Dl hD
  refine ⟨hok _, lcD_inv (fun xs acc S' => I xs acc S' ∧ ∃ dn, dn ++ xs = it.xs) ?_ ?_ it.xs [] _ ⟨h0 Dl hD, [], rfl⟩ Sto.up_same (hok _)⟩
  · rintro x xs acc S' ⟨i, dn, e⟩ d o N n
    have hl := hlenA x xs acc S' i
    rw [List.length_cons] at hl
    refine hx x xs acc S' ⟨dn, e⟩ i Dl hD d _ _ (fun y S2 d2 l2 i2 => ⟨d2, l2, hok _, n _ _ Sto.up_same (hok _) ⟨i2, dn ++ [x], by simpa using e⟩⟩)
  · rintro acc S' ⟨i, _⟩ d
    exact q Dl acc S' hD i d
end PL
/-! defs by name -/
namespace PL
open PySem PySem.Spec PySem.W PyProof.Rows L2
abbrev FnP (K : PySem.W.Frag) (x : Str) (st : Stmt) (f : Addr) (fd : FuncData) : Prop := FunD K x x (defArgs st) (defBody st) (defScope st) [] [] f fd
/-- the def x of the text stands -/
def Own (K : PySem.W.Frag) (mg : Str → Option Value) (x : Str) (st : Stmt) : Prop := ∃ f fd, FnP K x st f fd ∧ mg x = some (.ref f)
/-- x keeps the promise sp -/
structure Has (P : Program) (w : World) (K : PySem.W.Frag) (mg : Str → Option Value) (base : Heap) (k : Nat) (x : Str) (ps : List Str) (sp : DSp) : Prop where
  ex : ∃ f fd, FnOk P w K mg base CX0 k f fd ps (LSp K sp) ∧ mg x = some (.ref f) ∧ PySem.W.keepIn K (.ref f) = true ∧ Binds K fd ps []
section
variable {X : Cx} {e : Expr} {es : List Expr} {α : TAD} {δ : TED} {x : Str} {p pos : Pos} {k j : Nat} {ps : List Str} {sp : DSp}
theorem de_own (h : Has X.prog X.w X.K X.mg X.base j x ps sp) (hr : Room k X.A) (ha : DA X (e :: es) α) (hj : j ≤ k := by decide)
    (hg : Gl X x := by rfl) (hdb : (x == ("__debug__" : Str)) = false := by decide) (he : starEach (e :: es) X.env = (false, eval e X.env) :: starEach es X.env := by rfl) (hpl : (backTo pos (starEach es X.env)).any (·.1) = false := by rfl) :
    DE X (.Call (.Name x p) (e :: es) [] pos) (dCall sp α) := by
  obtain ⟨f, fd, F, hm, hk, hb⟩ := h.ex
  exact de_call (E := fun _ _ _ => False) F (hr.mono hj) hm hk hb (fun _ _ _ _ _ _ _ h => h.elim) ha hg hdb he hpl
def dNeg (δ : TED) : TED := fun ρ S Q => δ ρ S fun x S1 => match x with
  | .int i => Q (.int (-i)) S1
  | _ => False
theorem de_neg (ha : DE X e δ) : DE X (.UnaryOp .USub e pos) (dNeg δ) := peW (pe_un un_neg ha) fun σ H Q ⟨ρ, S, Qd, re, rs, q, k⟩ => by
  refine ⟨ρ, S, _, re, rs, q, fun x S1 v H1 q1 g1 r1 => ?_⟩
  try dsimp only at q1
  split at q1
  · rw [RD] at r1
    exact ⟨_, r1, (k.go g1).here g1.rs q1 RD.int⟩
  · exact q1.elim
end
section
variable {P : Program} {w : World} {K : PySem.W.Frag} {mg : Str → Option Value} {base : Heap}
theorem has_of {x : Str} {st : Stmt} {N ps : List Str} {k : Nat} {sp : DSp} {τ : TSD} (O : Own K mg x st) (Sc : FnScope N ps (defScope st)) (len : ∀ ds S Q, sp ds S Q → ds.length = ps.length)
    (hb : ∀ (kV doc pm : Value) (an : Option Addr) (cdv ct : Value) (us : List Value), us.length = ps.length → bindArgs (PySem.W.fnOf x x (defArgs st) (defBody st) (defScope st) .none kV doc pm an cdv ct) ⟨us, []⟩ = pure (ps.zip us))
    (hbody : ∀ (f : Addr) (cdv : Value) (A : Around) (outer : List Env) (s : Shared) (H : Hp) (E : XK), Room k (A.deeper (envOfC x (defScope st) s.heap.objs.size f cdv)) →
      DSs (cxOf CX0 P w K mg base N x (defScope st) f cdv A outer s H E).nox (defBody st) τ) (hq : ∀ ds S Q, sp ds S Q → τ { nx := fun _ S' => FzQ Q .non S', rt := FzQ Q } (startD N ds) S) : Has P w K mg base (k + 1) x ps sp := by
  obtain ⟨f, fd, F, hm⟩ := O
  exact ⟨f, fd, fnD F Sc len fun cdv A outer s H E hr => ⟨τ, PSs.nox (hbody f cdv A outer s H E hr), hq⟩, hm, F.kp, F.bindsN hb⟩
end
def blkB (N : List Str) (sn : List (Str × NameKind)) (scope : Scope) (own : List (Str × Nat)) : Bool :=
  scope.kind == .function && (scope.names.all fun y => scope.names.lookup y.1 == some y.2) && (own.all fun p => N[p.2]? == some p.1) &&
  (scope.names.all fun y => y.2 != .free || (sn.lookup y.1 == some .cell || sn.lookup y.1 == some .free)) &&
  (scope.names.all fun y => !(y.2 == .local || y.2 == .cell) || ((own.map (·.1)).contains y.1 || !N.contains y.1))
theorem kind_beq {a b : NameKind} (h : (a == b) = true) : a = b := by cases a <;> cases b <;> first | rfl | (exact absurd h (by decide))
theorem kind_bne {a b : NameKind} (h : (a != b) = true) : a ≠ b := fun e => by subst e; cases a <;> exact absurd h (by decide)
theorem kind_refl (a : NameKind) : (a == a) = true := by cases a <;> decide
theorem okind_beq {a b : Option NameKind} (h : (a == b) = true) : a = b := by
  cases a with
  | none => cases b with
    | none => rfl
    | some y => exact absurd h (by cases y <;> decide)
  | some x => cases b with
    | none => exact absurd h (by cases x <;> decide)
    | some y => exact congrArg some (kind_beq h)
theorem blk_of {N : List Str} {sc scope : Scope} {own : List (Str × Nat)} (h : blkB N sc.names scope own = true) : BlkOk N sc scope own := by
  unfold blkB at h
  rw [Bool.and_eq_true, Bool.and_eq_true, Bool.and_eq_true, Bool.and_eq_true] at h
  obtain ⟨⟨⟨⟨h1, h2⟩, h3⟩, h4⟩, h5⟩ := h
  refine ⟨?_, fun y hy => ?_, fun p hp => ?_, fun y hy hf => ?_, fun y hy hl => ?_⟩
  · cases e : scope.kind <;> first | rfl | (rw [e] at h1; exact absurd h1 (by decide))
  · exact okind_beq (List.all_eq_true.mp h2 y hy)
  · exact eq_of_beq (List.all_eq_true.mp h3 p hp)
  · have := List.all_eq_true.mp h4 y hy
    rw [hf] at this
    rcases (Bool.or_eq_true _ _).mp this with z | z
    · exact absurd z (by decide)
    · rcases (Bool.or_eq_true _ _).mp z with z | z
      · exact .inl (okind_beq z)
      · exact .inr (okind_beq z)
  · have := List.all_eq_true.mp h5 y hy
    have t : (y.2 == .local || y.2 == .cell) = true := by
      rcases hl with e | e <;> rw [e] <;> decide
    rw [t] at this
    have z : ((own.map (·.1)).contains y.1 || !N.contains y.1) = true := by simpa using this
    rcases (Bool.or_eq_true _ _).mp z with z | z
    · exact .inl (List.contains_iff_mem.mp z)
    · exact .inr fun m => by
        rw [List.contains_iff_mem.mpr m] at z
        exact absurd z (by decide)
end PL
/-! plain reasoning over mapped lists -/
namespace PL
open PySem PySem.Spec PySem.W PyProof.Rows L2
theorem kb_ii : kitB "int" "int" = some true := by decide +kernel
theorem kb_ib : kitB "int" "bool" = some false := by decide +kernel
theorem kb_it : kitB "int" "tuple" = some false := by decide +kernel
theorem kb_is : kitB "int" "str" = some false := by decide +kernel
theorem kb_bi : kitB "bool" "int" = some true := by decide +kernel
theorem kb_bb : kitB "bool" "bool" = some true := by decide +kernel
theorem kb_bt : kitB "bool" "tuple" = some false := by decide +kernel
theorem kb_bs : kitB "bool" "str" = some false := by decide +kernel
theorem kb_tt : kitB "tuple" "tuple" = some true := by decide +kernel
theorem kb_ti : kitB "tuple" "int" = some false := by decide +kernel
theorem kb_ts : kitB "tuple" "str" = some false := by decide +kernel
theorem kb_ss : kitB "str" "str" = some true := by decide +kernel
theorem kb_si : kitB "str" "int" = some false := by decide +kernel
theorem kb_st : kitB "str" "tuple" = some false := by decide +kernel
theorem kb_nt : kitB "NoneType" "tuple" = some false := by decide +kernel
theorem kb_ni : kitB "NoneType" "int" = some false := by decide +kernel
theorem kb_ns : kitB "NoneType" "str" = some false := by decide +kernel
theorem kb_lt : kitB "list" "tuple" = some false := by decide +kernel
theorem kb_li : kitB "list" "int" = some false := by decide +kernel
theorem kb_ls : kitB "list" "str" = some false := by decide +kernel
theorem ex_some {α : Type} {a : α} {P : α → Prop} : (∃ b, some a = some b ∧ P b) ↔ P a := ⟨fun ⟨b, e, h⟩ => by cases e; exact h, fun h => ⟨a, rfl, h⟩⟩

/-! ### comprehensions over mapped lists -/
theorem lc_mapK {α : Type} {r : Bool} {ρ0 : DEnv} {γ : TGD} {t : TTD} {el : TED} {ok : Sto → Prop} {S : Sto} {Q : QD} (l : List α) (enc : α → D) (keep : α → Bool) (f : α → D) (hok : ∀ S', Ext S S' → ok S') (hlen : l.length ≤ sizeLine)
    (hx : ∀ x ∈ l, ∀ S', Ext S S' → ∀ (N : D → Sto → Prop) (M : Sto → Prop), (keep x = true → N (f x) S') → (keep x = false → M S') → γ (enc x) ρ0 S' fun ρ' S1 => t ρ' S1 fun b S2 => match b with
      | true => el ρ' S2 N
      | false => M S2)
    (q : newL r ((l.filter keep).map f) S Q) : ∀ Dl, S Dl = none → ok (S.up Dl (.lst [])) ∧ lcD Dl ok ρ0 γ t el (l.map enc) [] (S.up Dl (.lst [])) (endL r Dl Q) := by
  intro Dl hD
  refine ⟨hok _ (Ext.up hD), lcD_inv (fun xs acc S' => S' = S.up Dl (.lst acc) ∧ ∃ dn re, xs = re.map enc ∧ dn ++ re = l ∧ acc = (dn.filter keep).map f) ?_ ?_ (l.map enc) [] _ ⟨rfl, [], l, rfl, rfl, rfl⟩ Sto.up_same (hok _ (Ext.up hD))⟩
  · rintro x xs acc S' ⟨rfl, dn, re, e1, e, rfl⟩ d o N n
    cases re with
    | nil => cases e1
    | cons a re =>
    rw [List.map_cons] at e1
    obtain ⟨rfl, rfl⟩ := List.cons.inj e1
    have hm : a ∈ l := by rw [← e]; simp
    have hl : ((dn.filter keep).map f).length < sizeLine := by
      rw [List.length_map]
      have h1 : (dn.filter keep).length ≤ dn.length := List.length_filter_le _ _
      have h2 : dn.length + (a :: re).length = l.length := by rw [← e, List.length_append]
      rw [List.length_cons] at h2
      omega
    refine hx a hm _ (Ext.up hD) _ _ (fun hk => ?_) (fun hk => ?_)
    · refine ⟨Sto.up_same, hl, ?_, ?_⟩
      · rw [Sto.up_up]; exact hok _ (Ext.up hD)
      · refine n _ _ Sto.up_same ?_ ⟨Sto.up_up, dn ++ [a], re, rfl, by simpa using e, ?_⟩
        · rw [Sto.up_up]; exact hok _ (Ext.up hD)
        · rw [List.filter_append, List.map_append, List.filter_cons_of_pos hk]; rfl
    · refine ⟨Sto.up_same, hok _ (Ext.up hD), n _ _ Sto.up_same (hok _ (Ext.up hD)) ⟨rfl, dn ++ [a], re, rfl, by simpa using e, ?_⟩⟩
      rw [List.filter_append, List.filter_cons_of_neg (by rw [hk]; exact Bool.false_ne_true)]
      simp
  · rintro acc S' ⟨rfl, dn, re, e1, e, rfl⟩ d
    have : re = [] := by cases re with
      | nil => rfl
      | cons a re => cases e1
    subst this
    rw [List.append_nil] at e
    subst e
    exact newL_of q hD
theorem lc_mapE {α : Type} {r : Bool} {ρ0 : DEnv} {γ : TGD} {t : TTD} {el : TED} {ok : Sto → Prop} {S : Sto} {Q : QD} (l : List α) (enc : α → D) (f : α → D) (hok : ∀ S', Ext S S' → ok S') (hlen : l.length ≤ sizeLine)
    (hx : ∀ x ∈ l, ∀ S', Ext S S' → ∀ (N : D → Sto → Prop) (M : Sto → Prop), N (f x) S' → γ (enc x) ρ0 S' fun ρ' S1 => t ρ' S1 fun b S2 => match b with
      | true => el ρ' S2 N
      | false => M S2)
    (q : newL r (l.map f) S Q) : ∀ Dl, S Dl = none → ok (S.up Dl (.lst [])) ∧ lcD Dl ok ρ0 γ t el (l.map enc) [] (S.up Dl (.lst [])) (endL r Dl Q) :=
  lc_mapK l enc (fun _ => true) f hok hlen (fun x hm S' e N M h1 _ => hx x hm S' e N M (h1 rfl)) (by rw [List.filter_eq_self.mpr (fun _ _ => rfl)]; exact q)
theorem loopD_invE {α : Type} {ok : Sto → Prop} {f : D → TSD} {De : EndsD} (enc : α → D) (I : List α → DEnv → Sto → Prop)
    (step : ∀ x xs ρ S, I (x :: xs) ρ S → ok S → ∀ N : DEnv → Sto → Prop, (∀ ρ' S', ok S' → I xs ρ' S' → N ρ' S') → f (enc x) { nx := N, ct := N, bk := De.nx, rt := De.rt } ρ S)
    (fin : ∀ ρ S, I [] ρ S → De.nx ρ S) : ∀ (xs : List α) (ρ : DEnv) (S : Sto), I xs ρ S → ok S → loopD ok f (xs.map enc) De ρ S
  | [], ρ, S, h, _ => fin ρ S h
  | x :: xs, ρ, S, h, o => step x xs ρ S h o _ fun ρ' S' o' h' => ⟨o', loopD_invE enc I step fin xs ρ' S' h' o'⟩
/-! ### sources -/
theorem enum_map {α : Type} (enc : α → D) : ∀ (xs : List α) (n : Nat), enumFrom n (xs.map enc) = (xs.zipIdx n).map fun p => .tup [.int (p.2 : Nat), enc p.1]
  | [], n => rfl
  | x :: xs, n => by
    rw [List.map_cons, enumFrom, List.zipIdx_cons, List.map_cons, enum_map enc xs (n + 1)]
theorem zip_map2 {α β : Type} (e1 : α → D) (e2 : β → D) : ∀ (xs : List α) (ys : List β), List.zipWith (fun d e => D.tup [d, e]) (xs.map e1) (ys.map e2) = (List.zip xs ys).map fun p => .tup [e1 p.1, e2 p.2]
  | [], _ => by simp
  | _ :: _, [] => by simp
  | x :: xs, y :: ys => by
    rw [List.map_cons, List.map_cons, List.zipWith_cons_cons, zip_map2 e1 e2 xs ys, List.zip_cons_cons, List.map_cons]
/-! ### items -/
theorem atI_map {α β : Type} (f : α → β) (xs : List α) (i : Int) : atI (xs.map f) i = (atI xs i).map f := by
  unfold atI
  rw [List.length_map]
  cases ixN xs.length i with
  | none => rfl
  | some j => simp
theorem ixN_nn {n : Nat} {i : Int} (h0 : 0 ≤ i) (h1 : i < n) : ixN n i = some i.toNat := by unfold ixN; rw [if_pos h0, if_pos h1]
theorem atI_nn {α : Type} [Inhabited α] {xs : List α} {i : Int} (d : α) (h0 : 0 ≤ i) (h1 : i < xs.length) : atI xs i = some (xs.getD i.toNat d) := by
  unfold atI
  rw [ixN_nn h0 h1]
  have : i.toNat < xs.length := by omega
  simp [List.getD_eq_getElem?_getD, List.getElem?_eq_getElem this]
theorem atI_last {α : Type} {xs : List α} (h : xs ≠ []) : atI xs (-1) = some (xs.getLast h) := by
  have hp : 0 < xs.length := List.length_pos_iff.mpr h
  have e : ixN xs.length (-1) = some (xs.length - 1) := by
    unfold ixN
    rw [if_neg (by omega), if_pos (by omega)]
    congr 1
    omega
  unfold atI
  rw [e]
  simp [List.getLast_eq_getElem]
theorem ix_int {xs : List Int} {i : Int} (h0 : 0 ≤ i) (h1 : i < xs.length) : atI (xs.map D.int) i = some (.int (xs.getD i.toNat 0)) := by
  rw [atI_map, atI_nn 0 h0 h1]; rfl
/-! ### forgetting -/
theorem go_ext {K : PySem.W.Frag} {S S' : Sto} {H : Hp} (h : Ext S S') (rs : RS K S' H) : Go K S' H S H := by
  have tp : Tp S' H S H := ⟨fun _ _ h => h, fun _ _ _ h => h, fun a o h1 h2 => ⟨by
    cases e : S a with
    | none => rfl
    | some mo => exact absurd ((h a mo e).symm.trans h1) (by simp), h2⟩⟩
  exact ⟨tp, fun p mo e => (rs p mo (h p mo e)).mv tp fun _ h => h⟩
theorem Fz.ext {S S' : Sto} {d : D} (h : Ext S S') : Fz S' d S d := ⟨fun K H v rs r => ⟨go_ext h rs, r.tp (go_ext h rs).tp⟩⟩
theorem Fz.extL {S S' : Sto} {a : Addr} {ds : List D} (h : Ext S S') (ha : S' a = some (.lst ds)) (hn : S a = none) : Fz S' (.ref a) S (.lst ds) := ⟨fun K H v rs r => by
  have g := go_ext h rs
  obtain ⟨ws, hw, r1⟩ := rs a _ ha
  rw [RD] at r
  refine ⟨g, ?_⟩
  rw [RD]
  exact ⟨a, ws, r, hn, hw, r1.tp g.tp⟩⟩
theorem FzQ.ext {Q : QD} {d : D} {S S' : Sto} (h : Ext S S') (q : Q d S) : FzQ Q d S' := ⟨d, S, q, Fz.ext h⟩
theorem FzQ.extL {Q : QD} {a : Addr} {ds : List D} {S S' : Sto} (h : Ext S S') (ha : S' a = some (.lst ds)) (hn : S a = none) (q : Q (.lst ds) S) : FzQ Q (.ref a) S' := ⟨_, S, q, Fz.extL h ha hn⟩
end PL
/-! data, equality, orders: small facts -/
namespace PL
open PySem PySem.Spec PySem.W PyProof.Rows L2
theorem okn_int {n : Nat} {i : Int} : D.okn n (.int i) = true := by cases n <;> simp [D.okn]
theorem okn_bl {n : Nat} {i : Bool} : D.okn n (.bl i) = true := by cases n <;> simp [D.okn]
theorem okn_non {n : Nat} : D.okn n .non = true := by cases n <;> simp [D.okn]
theorem okn_str {n : Nat} {x : Str} (h : PyData.strOk x = true) : D.okn n (.str x) = true := by cases n <;> simp [D.okn, h]
theorem okn_tup {n : Nat} {ds : List D} : D.okn (n + 1) (.tup ds) = ds.all (D.okn n) := by simp [D.okn]
theorem okn_lst {n : Nat} {ds : List D} : D.okn (n + 1) (.lst ds) = ds.all (D.okn n) := by simp [D.okn]
theorem okn_ints {n : Nat} {xs : List Int} : (xs.map D.int).all (D.okn n) = true := by
  rw [List.all_map, List.all_eq_true]; intro x _; exact okn_int
theorem okn_eI {n : Nat} {xs : List Int} : D.okn (n + 1) (.tup (xs.map D.int)) = true := by rw [okn_tup, okn_ints]
theorem now_int {S : Sto} {i : Int} : S.now (.int i) = .int i := rfl
theorem now_tup {S : Sto} {i : List D} : S.now (.tup i) = .tup i := rfl
theorem now_lst {S : Sto} {i : List D} : S.now (.lst i) = .lst i := rfl
theorem now_str {S : Sto} {i : Str} : S.now (.str i) = .str i := rfl
theorem now_bl {S : Sto} {i : Bool} : S.now (.bl i) = .bl i := rfl
theorem now_non {S : Sto} : S.now .non = .non := rfl
theorem eqD_int {a b : Int} : eqD (.int a) (.int b) = decide (a = b) := by
  unfold eqD
  rw [D.py, D.py, PyData.eqv]
  by_cases h : a = b <;> simp [h]
theorem eqD_refl {d : D} {n : Nat} (h : D.okn n d = true) : eqD d d = true := PySem.SeqAt.eqv_refl _ (D.okn_lay n d h).1
theorem ltD_int {a b : Int} : ltD (.int a) (.int b) = decide (a < b) := by
  unfold ltD; rw [D.py, D.py, dataLt_int]
theorem ltD_ii {a b c d : Int} : ltD (.tup [.int a, .int b]) (.tup [.int c, .int d]) = decide (a < c ∨ (a = c ∧ b < d)) := by
  unfold ltD; simp only [D.py, D.pys]; exact dataLt_ii a b c d
theorem ltD_fst {a c : Int} {x y : D} (hk : alike (D.py x) (D.py y) = true) (h : ltD (.tup [.int a, x]) (.tup [.int c, y]) = false) : c ≤ a := by
  unfold ltD at h
  simp only [D.py, D.pys] at h
  rw [dataLt_pair (by rfl) hk] at h
  have e : PyData.eqv (.int a) (.int c) = decide (a = c) := by
    rw [PyData.eqv]; by_cases h : a = c <;> simp [h]
  rw [e] at h
  by_cases q : a = c
  · omega
  · rw [decide_eq_false q, if_neg Bool.false_ne_true, dataLt_int] at h
    have := of_decide_eq_false h
    omega
theorem leD_int {a b : Int} : leD (.int a) (.int b) = decide (a ≤ b) := by
  unfold leD
  rw [dataLe_eq]
  simp only [D.py, dataLt_int, cond_false]
  by_cases h : a ≤ b <;> simp [h] <;> omega
theorem akin_ints {xs : List Int} : akin (xs.map D.int) := by
  intro d hd e he
  obtain ⟨a, _, rfl⟩ := List.mem_map.mp hd
  obtain ⟨b, _, rfl⟩ := List.mem_map.mp he
  simp only [D.py]
  exact ⟨by rfl, fun h => nomatch h⟩
theorem sortable_ints {xs : List Int} : Sortable ((xs.map D.int).map D.py) := .inr fun d hd => by
  rw [List.map_map] at hd
  obtain ⟨a, _, rfl⟩ := List.mem_map.mp hd
  simp only [Function.comp, D.py]
  exact ⟨nofun, fun xs => nofun⟩
theorem sort_ints {xs : List Int} : (xs.map D.int).mergeSort leD = (xs.mergeSort fun a b => decide (a ≤ b)).map D.int :=
  (sort_maps D.int fun a _ b _ => leD_int.symm).symm
theorem sorted_pair {xs : List Int} : (xs.mergeSort fun a b => decide (a ≤ b)).Pairwise (· ≤ ·) := by
  have := List.pairwise_mergeSort (le := fun a b : Int => decide (a ≤ b)) (fun a b c h1 h2 => by simp at *; omega) (fun a b => by simp; omega) xs
  exact this.imp fun h => by simpa using h
theorem akin_pairs {ps : List (Int × Int)} : akin (ps.map fun p => .tup [.int p.1, .int p.2]) := by
  intro d hd e he
  obtain ⟨a, _, rfl⟩ := List.mem_map.mp hd
  obtain ⟨b, _, rfl⟩ := List.mem_map.mp he
  simp only [D.py, D.pys]
  exact ⟨by rfl, fun h => nomatch h⟩
theorem okn_pairs {n : Nat} {ps : List (Int × Int)} : (ps.map fun p => D.tup [.int p.1, .int p.2]).all (D.okn (n + 1)) = true := by
  rw [List.all_map, List.all_eq_true]; intro x _; simp [okn_tup, okn_int, Function.comp]
theorem alikeAll_ints : ∀ xs ys : List Int, alike (D.py (.tup (xs.map D.int))) (D.py (.tup (ys.map D.int))) = true := by
  intro xs ys
  simp only [D.py, D.pys_eq, List.map_map]
  have e : ∀ l : List Int, l.map (D.py ∘ D.int) = l.map PyData.int := fun l => by
    apply List.map_congr_left; intro a _; simp only [Function.comp, D.py]
  rw [e, e]
  exact alike_ints xs ys
/-! ### the least, the greatest of ints -/
theorem mem_int {xs : List Int} {m : D} (h : m ∈ xs.map D.int) : ∃ a ∈ xs, m = .int a := by
  obtain ⟨a, h1, rfl⟩ := List.mem_map.mp h
  exact ⟨a, h1, rfl⟩

/-! ### looks into the store -/
section
variable {S S' : Sto} {ds : List D} {p : Addr} {d : D}
theorem seq_tup : S.seq (.tup ds) = some ds := rfl
theorem seq_tpx : S.seq (.tpx ds) = some ds := rfl
theorem seq_lst : S.seq (.lst ds) = some ds := rfl
theorem seq_fz : S.seq (.fz ds) = some ds := rfl
theorem seq_ref (h : S p = some (.lst ds)) : S.seq (.ref p) = some ds := by show (match S p with | some (.lst ds) => some ds | _ => none) = _; rw [h]
theorem list_lst : S.list (.lst ds) = some ds := rfl
theorem list_ref (h : S p = some (.lst ds)) : S.list (.ref p) = some ds := by show (match S p with | some (.lst ds) => some ds | _ => none) = _; rw [h]
theorem lsts_lst : S.lsts (.lst ds) = some ds := rfl
theorem lsts_fz : S.lsts (.fz ds) = some ds := rfl
theorem lsts_ref (h : S p = some (.lst ds)) : S.lsts (.ref p) = some ds := by show (match S p with | some (.lst ds) => some ds | _ => none) = _; rw [h]
theorem itOf_tup : S.itOf (.tup ds) = some ⟨ds, fun _ => True⟩ := rfl
theorem itOf_tpx : S.itOf (.tpx ds) = some ⟨ds, fun _ => True⟩ := rfl
theorem itOf_lst : S.itOf (.lst ds) = some ⟨ds, fun _ => True⟩ := rfl
theorem itOf_fz : S.itOf (.fz ds) = some ⟨ds, fun _ => True⟩ := rfl
theorem itOf_ref (h : S p = some (.lst ds)) : S.itOf (.ref p) = some ⟨ds, fun S' => S' p = some (.lst ds)⟩ := by show (match S p with | some (.lst ds) => some _ | _ => none) = _; rw [h]
theorem trk_ref (h : S p = some (.lst ds)) : S.trk (.ref p) = some (p, ds) := by show (match S p with | some (.lst ds) => some _ | _ => none) = _; rw [h]
theorem now_ref (h : S p = some (.lst ds)) : S.now (.ref p) = .lst ds := by show (match S p with | some (.lst ds) => D.lst ds | _ => .ref p) = _; rw [h]
theorem seq_ext (e : Ext S S') (h : S.seq d = some ds) : S'.seq d = some ds := by
  cases d with
  | ref q =>
    have h' : (match S q with | some (.lst ds) => some ds | _ => none) = some ds := h
    split at h'
    · rename_i es he
      rw [seq_ref (e _ _ he)]; exact h'
    · cases h'
  | _ => exact h
theorem Ext.set {T : Sto} {o : MO} (h : Ext T S) (hp : T p = none) : Ext T (S.up p o) := fun q u e => by
  rw [Sto.up_ne (fun z => by subst z; rw [hp] at e; cases e)]; exact h q u e
theorem Ext.none (h : Ext S S') (hp : S' p = none) : S p = none := by
  cases e : S p with
  | none => rfl
  | some o => rw [h p o e] at hp; cases hp
theorem ne_of_in {o : MO} {q : Addr} (h1 : S p = some o) (h2 : S q = none) : p ≠ q := fun z => by subst z; rw [h1] at h2; cases h2
end
theorem isNon_non : D.isNon .non = true := rfl
theorem isNon_int {i : Int} : D.isNon (.int i) = false := rfl
theorem isNon_tup {i : List D} : D.isNon (.tup i) = false := rfl
theorem isNon_lst {i : List D} : D.isNon (.lst i) = false := rfl
theorem isNon_ref {i : Addr} : D.isNon (.ref i) = false := rfl
theorem isNon_str {i : Str} : D.isNon (.str i) = false := rfl
theorem isNon_bl {i : Bool} : D.isNon (.bl i) = false := rfl
section
variable {P : Program} {w : World} {K : PySem.W.Frag} {mg : Str → Option Value} {base : Heap}
theorem fn_def {x : Str} {st : Stmt} {N ps : List Str} {k : Nat} {sp : DSp} {τ : TSD} {f : Addr} {fd : FuncData} (F : FnP K x st f fd) (Sc : FnScope N ps (defScope st)) (len : ∀ ds S Q, sp ds S Q → ds.length = ps.length)
    (hbody : ∀ (f : Addr) (cdv : Value) (A : Around) (outer : List Env) (s : Shared) (H : Hp) (E : XK), Room k (A.deeper (envOfC x (defScope st) s.heap.objs.size f cdv)) →
      DSs (cxOf CX0 P w K mg base N x (defScope st) f cdv A outer s H E).nox (defBody st) τ) (hq : ∀ ds S Q, sp ds S Q → τ { nx := fun _ S' => FzQ Q .non S', rt := FzQ Q } (startD N ds) S) : FnOk P w K mg base CX0 (k + 1) f fd ps (LSp K sp) :=
  fnD F Sc len fun cdv A outer s H E hr => ⟨τ, PSs.nox (hbody f cdv A outer s H E hr), hq⟩
/-- the script, at the law's call -/
theorem script_rd {H : Hp} {a : Addr} {ns : List Int} (hO : Only H) (h : SqL K H a (ns.map V.int)) : RDs K (fun _ => none) H [.fz (ns.map D.int)] [.ref a] := by
  refine RDs.cons ?_ (RDs.nil.mpr rfl)
  rw [RD]
  refine ⟨a, ns.map V.int, rfl, ?_, ints_rds ns⟩
  rcases h with (h | ⟨o, h⟩) | h
  · rcases hO a with z | ⟨o, xs, z⟩
    · rw [z] at h; cases h
    · rw [z] at h; cases h
  · exact .inl ⟨o, h⟩
  · exact .inr h
theorem rs_empty {H : Hp} : RS K (fun _ => none) H := fun p mo h => by cases h
end
end PL
/-! tuples whose object is known, their methods; more methods of lists; len(set(..)); a, b, c = x, y, z -/
namespace PL
open PySem PySem.Spec PySem.W PyProof.Rows L2
section
variable {X : Cx} {e : Expr} {δ : TED} {p p2 q pos : Pos} {es : List Expr} {α : TAD}
/-- tuple(e), e a list: the new tuple's object is known -/
def dTupX (δ : TED) : TED := fun ρ S Q => δ ρ S fun x S1 => match S1.lsts x with
  | some ds => Q (.tpx ds) S1
  | none => False
theorem newX_ok {K : PySem.W.Frag} {S : Sto} {H : Hp} {ds : List D} {vs : List V} {Qd : QD} {Q : VK} {o : Obj} (rs : RS K S H) (rd : RDs K S H ds vs) (n : Qd (.tpx ds) S) (k : Aft K S H Qd Q) (ho : o.dict = none) (p : Addr) (hp : H p = none) : Q (.ref p) (upd H p (.frz o (.tup vs))) := by
  have g : Go K S H S (upd H p (.frz o (.tup vs))) := Go.fresh rs hp
  refine k _ _ _ _ n g ?_
  rw [RD]
  exact ⟨p, o, vs, rfl, upd_same, ho, rd.tp g.tp⟩
theorem de_tupX (hm : X.mg "tuple" = none) (ha : DE X e δ) (hg : Gl X "tuple" := by rfl) (na : starEach [e] X.env = (false, eval e X.env) :: starEach [] X.env := by rfl) : DE X (.Call (.Name "tuple" p) [e] [] pos) (dTupX δ) := by
  refine peW (t := fun σ H Q => LE X.K δ σ H fun x H1 => ∃ a xs, x = .ref a ∧ SqL X.K H1 a xs ∧ ∀ p o, o.dict = none → H1 p = none → Q (.ref p) (upd H1 p (.frz o (.tup xs)))) ⟨fun pins s σ H Q I h => ?_⟩ fun σ H Q ⟨ρ, S, Qd, re, rs, q, k⟩ => ?_
  · refine Call_ (ld_blt I hg hm boot_tuple (PyProof.Rows.callWith_type1 (one_arg ha I h (fun v s2 x H2 I2 r q => ?_) na) na))
    obtain ⟨a, xs, rfl, hs, q⟩ := q
    obtain rfl : v = .ref a := r
    obtain ⟨its, rv, pl, hz⟩ := I2.list hs
    refine call_tuple_list pl.isList (fun h' hk => ?_) (by rw [List.size_toArray, ← rv.length]; exact hz)
    have I1 : Inv X pins σ H2 { s2 with heap := h' } := I2.kept (t' := s2.toks) hk
    have e1 : (h'.push { cls := .type "tuple", data := .seq its.toArray }).get? h'.objs.size = some ({ cls := .type "tuple", data := .seq its.toArray } : Obj) := Heap.get?_push_size _ rfl
    have I3 : Inv X pins σ (upd H2 h'.objs.size (.frz { cls := .type "tuple", data := .seq its.toArray } (.tup xs))) { s2 with heap := h'.push { cls := .type "tuple", data := .seq its.toArray } } :=
      I1.laid (t' := s2.toks) (fun b o e => Heap.get?_push_of_some _ e) (Nat.le_refl _) ⟨e1, hz, its, rv, IsTup.new _ _⟩
    exact ⟨.ref h'.objs.size, _, I3, rfl, q _ _ rfl (I1.hok.fresh (Nat.le_refl _))⟩
  · refine ⟨ρ, S, _, re, rs, q, fun x S1 v H1 q1 g1 r1 => ?_⟩
    try dsimp only at q1
    split at q1
    · rename_i ds hd
      obtain ⟨a, vs, rfl, t1, s1⟩ := lsts_at hd r1 g1.rs
      exact ⟨a, vs, rfl, t1, fun p o ho hp => newX_ok g1.rs s1 q1 (k.go g1) ho p hp⟩
    · exact q1.elim
/-- a method of such a tuple -/
def dBMX (o : RMD) (δ : TED) (α : TAD) : TED := fun ρ S Q => δ ρ S fun x S1 => (∃ ds, x = .tpx ds) ∧ α ρ S1 fun xs S2 => o x xs S2 Q
theorem de_bmX {o : RMD} {name : Str} {id : String} {apos cpos : Pos} {ob : Expr} (pa : PlainAttrs "tuple") (slot : Slot "tuple" name id) (hty : typeOf (.builtin id) = pure (.type "method_descriptor")) (hm : MtD X id o) (ho : DE X ob δ) (ha : DA X (e :: es) α)
    (hbase : attributeBase ob name X.env (eval ob X.env) = eval ob X.env := by rfl)
    (hfew : ((backTo cpos (starEach (e :: es) X.env)).all (fun x => !x.1) && (backToKw cpos (keywordEach [] X.env)).all (fun x => x.1.isSome)
      && decide ((e :: es).length + ([] : List Keyword).length + (if ([] : List Keyword).isEmpty then 0 else 1) < 30)) = true := by rfl)
    (hline : (apos.endLine == cpos.line) = true := by rfl) (hs : starEach (e :: es) X.env = (false, eval e X.env) :: starEach es X.env := by rfl) (hplain : (backTo cpos (starEach es X.env)).any (·.1) = false := by rfl) :
    DE X (.Call (.Attribute ob name apos) (e :: es) [] cpos) (dBMX o δ α) := by
  refine peW (t := fun σ H Q => LE X.K δ σ H fun x H1 => (∃ a oo vs, x = .ref a ∧ H1 a = some (.frz oo (.tup vs)) ∧ oo.dict = none) ∧ LA X.K α σ H1 fun xs H2 => LfM X.K o x xs H2 Q) ⟨fun pins s σ H Q I h => ?_⟩ fun σ H Q hh => ?_
  · refine wpAny_Call_method_late hbase hfew hline rfl (thn (ho.run pins s σ H _ I h) fun v s1 ⟨x, H1, I1, r1, ⟨a, oo, vs, ex, hx, hd⟩, q1⟩ => ?_)
    subst ex
    obtain rfl : v = .ref a := r1
    obtain ⟨h1, _, _, _, _, h2, h3, _⟩ := I1.hok a _ hx
    rw [h1] at h2
    have h4 := Option.some.inj h2
    subst h4
    refine ⟨"tuple", id, pa, slot, hty, ⟨_, h1, h3⟩, fun b eb => ?_, ?_⟩
    · cases eb
      exact ⟨_, h1, hd⟩
    have hA := ha.run cpos pins s1 σ H1 _ I1 q1
    rw [hs] at hA ⊢
    refine Calls.callWith_builtin (by show (false || (backTo cpos (starEach es X.env)).any (·.1)) = false; rw [hplain] <;> rfl) (Calls.evalArgs_plain ?_)
    exact thn hA fun us s2 ⟨vs, H2, I2, r2, q2⟩ => hm pins s2 σ H2 (.ref a) vs _ us Q I2 rfl r2 q2
  · obtain ⟨ρ, S, Qd, re, rs, q, k⟩ := hh
    refine ⟨ρ, S, _, re, rs, q, fun x S1 v H1 q1 g1 r1 => ?_⟩
    obtain ⟨⟨ds, rfl⟩, q1⟩ := q1
    have r1' := r1
    rw [RD] at r1'
    obtain ⟨a, oo, vs, e1, e2, e3, e4⟩ := r1'
    refine ⟨⟨a, oo, vs, e1, e2, e3⟩, ρ, S1, _, re.tp g1.tp, g1.rs, q1, fun xs S2 ws H2 q2 g2 r2 => ?_⟩
    exact ⟨_, xs, S2, Qd, r1.tp g2.tp, r2, g2.rs, q2, k.go (g1.trans g2)⟩
end

section
variable {X : Cx}
/-- the first place of an int -/
def firstAt (ns : List Int) (z : Int) (j : Nat) : Prop := ns[j]? = some z ∧ ∀ m, m < j → ns[m]? ≠ some z
theorem flat_ints (ns : List Int) : (ns.map V.int).all flatV = true := by
  rw [List.all_map]
  exact List.all_eq_true.mpr fun _ _ => rfl
theorem tup_index_ints : MtR X "tuple.index" (fun x xs H Q => ∃ p, ∃ ys : List Int, ∃ z j, x = .ref p ∧ xs = [.int z] ∧ SqT X.K H p (ys.map V.int) ∧ firstAt ys z j ∧ Q (.int (j : Nat)) H) := by
  intro pins s σ H x xs v us Q I rx rs h
  obtain ⟨p, ys, z, j, rfl, rfl, hq, ⟨hy, hno⟩, q⟩ := h
  cases rx
  obtain ⟨u, rfl, t, rfl⟩ := vals1 rs
  obtain ⟨its, r, pl, hz⟩ := I.tuple hq
  obtain ⟨⟨cls, dd, dt, sl⟩, ho, hc, n, hd⟩ := pl
  simp only at hc hd
  subst hc
  subst hd
  have hl : its.toArray.size = ys.length := by rw [List.size_toArray, ← r.length, List.length_map]
  have hj : j < its.toArray.size := by rw [hl]; exact (List.getElem?_eq_some_iff.mp hy).1
  have at' : ∀ (m : Nat) (hm : m < its.toArray.size), ∃ y t', ys[m]? = some y ∧ its.toArray[m] = Value.int y t' := fun m hm => by
    have hm' : m < ys.length := by rw [← hl]; exact hm
    obtain ⟨w, hw, t', hw'⟩ := r.get (i := m) (x := .int ys[m]) (by simp [hm'])
    refine ⟨ys[m], t', List.getElem?_eq_getElem hm', ?_⟩
    have e := (List.getElem?_eq_some_iff.mp hw).2
    rw [← hw', ← e]
    simp
  refine call_meets PySem.F.slot_tuple_index ⟨_, ho, rfl⟩ PySem.F.entry_tuple_index (PySem.F.args_tuple_index_2 _ _) (TI.tuple_indexAt p its.toArray n dd sl (.int z t) (eqU (.int z)) j hj ?_ ?_)
    ⟨ho, fun w hw => mem_eqAt (x := .int z) ⟨t, rfl⟩ rfl r (flat_ints ys) w (by simpa using hw), ⟨.int (j : Nat), H, I.tok _, ⟨_, rfl⟩, q⟩⟩
  · obtain ⟨y, t', h1, h2⟩ := at' j hj
    rw [hy] at h1
    cases h1
    rw [h2]
    show (z == z) = true
    exact beq_self_eq_true z
  · intro m hm hmj
    obtain ⟨y, t', h1, h2⟩ := at' m hm
    rw [h2]
    show (y == z) = false
    exact beq_eq_false_iff_ne.mpr fun e => hno m hmj (e ▸ h1)
/-- t.index(z), a tuple of ints; l.index(z), a list of ints -/
def oIndex : RMD := fun d ds S Q => match ds with
  | [.int z] => ∃ ns j, S.seq d = some (ns.map D.int) ∧ firstAt ns z j ∧ Q (.int (j : Nat)) S
  | _ => False
def oIndexL : RMD := fun d ds S Q => match ds with
  | [.int z] => ∃ ns j, S.lsts d = some (ns.map D.int) ∧ firstAt ns z j ∧ Q (.int (j : Nat)) S
  | _ => False
def oIndexT : RMD := fun d ds S Q => match ds with
  | [.int z] => ∃ ns j, d = .tpx (ns.map D.int) ∧ firstAt ns z j ∧ Q (.int (j : Nat)) S
  | _ => False
theorem m_indexT : MtD X "tuple.index" oIndexT := mtD_of tup_index_ints fun d ds x xs S H Qd Q r1 r2 rs q k => by
  unfold oIndexT at q
  split at q
  · obtain ⟨ns, j, rfl, hf, q⟩ := q
    obtain ⟨v, rfl, r3⟩ := r2.one
    rw [RD] at r1
    rw [RD] at r3
    obtain ⟨a, o, vs, rfl, h1, _, h2⟩ := r1
    have e := rds_ints h2
    subst e
    subst r3
    exact ⟨a, ns, _, j, rfl, rfl, .inl (.inr ⟨o, h1⟩), hf, k.here rs q RD.int⟩
  · exact q.elim
theorem m_index : MtD X "list.index" oIndexL := mtD_of mt_index fun d ds x xs S H Qd Q r1 r2 rs q k => by
  unfold oIndexL at q
  split at q
  · obtain ⟨ns, j, hs, ⟨hy, hno⟩, q⟩ := q
    obtain ⟨v, rfl, r3⟩ := r2.one
    obtain ⟨a, vs, rfl, h1, h2⟩ := lsts_at hs r1 rs
    have e := rds_ints h2
    subst e
    rw [RD] at r3
    subst r3
    refine ⟨a, ns.map V.int, _, j, _, rfl, rfl, h1, rfl, flat_ints ns, by rw [List.getElem?_map, hy]; rfl, by unfold eqV; exact beq_self_eq_true _, fun m z' hm hz' => ?_, k.here rs q RD.int⟩
    rw [List.getElem?_map] at hz'
    cases e : ns[m]? with
    | none => rw [e] at hz'; cases hz'
    | some y =>
      rw [e] at hz'
      cases hz'
      show (y == _) = false
      exact beq_eq_false_iff_ne.mpr fun z => hno m hm (z ▸ e)
  · exact q.elim
/-- xs.insert(i, y); xs.remove(k) of ints -/
def oInsert : RMD := fun d ds S Q => match S.trk d, ds with
  | some (p, es), [.int i, x] => (es.length < sizeLine ∧ 0 ≤ i ∧ i < 2 ^ 63) ∧ Q .non (S.up p (.lst (es.take i.toNat ++ [x] ++ es.drop i.toNat)))
  | _, _ => False
theorem m_insert : MtD X "list.insert" oInsert := mtD_of mt_insert fun d ds x xs S H Qd Q r1 r2 rs q k => by
  unfold oInsert at q
  split at q
  · rename_i y p es i z ht
    obtain ⟨rfl, hs⟩ := trk_is ht
    obtain ⟨v, w, rfl, r3, r4⟩ := r2.two
    obtain ⟨vs, h1, h2⟩ := rs p _ hs
    rw [RD] at r1
    rw [RD] at r3
    subst r3
    have g := Go.wrote (mo' := .lst (es.take i.toNat ++ [z] ++ es.drop i.toNat)) rs hs fun S' H' tp e => ⟨_, e, (((h2.tp tp).take i.toNat).snoc (r4.tp tp)).append ((h2.tp tp).drop i.toNat)⟩
    exact ⟨p, vs, i, w, r1, rfl, h1, by rw [h2.len]; exact q.1.1, q.1.2.1, q.1.2.2, k _ _ _ _ q.2 g RD.non⟩
  · exact q.elim
def oRemove : RMD := fun d ds S Q => match S.trk d, ds with
  | some (p, es), [.int z] => ∃ ns j, es = ns.map D.int ∧ firstAt ns z j ∧ Q .non (S.up p (.lst ((ns.eraseIdx j).map D.int)))
  | _, _ => False
theorem m_remove : MtD X "list.remove" oRemove := mtM_of mt_remove fun d ds x xs S H Qd Q r1 r2 rs q k => by
  unfold oRemove at q
  split at q
  · rename_i y p es z ht
    obtain ⟨ns, j, rfl, ⟨hy, hno⟩, q⟩ := q
    obtain ⟨rfl, hs⟩ := trk_is ht
    obtain ⟨v, rfl, r3⟩ := r2.one
    obtain ⟨vs, h1, h2⟩ := rs p _ hs
    have e := rds_ints h2
    subst e
    rw [RD] at r1
    rw [RD] at r3
    subst r3
    have g := Go.wrote (mo' := .lst ((ns.eraseIdx j).map D.int)) rs hs fun S' H' tp e => ⟨_, e, ints_rds _⟩
    exact ⟨p, ns, z, j, r1, rfl, h1, hy, hno, k _ _ _ _ q g RD.non⟩
  · exact q.elim
/-! ### len(set(x)), distinct ints -/
variable {e : Expr} {δ : TED} {p p2 q pos : Pos}
def dLenSet (δ : TED) : TED := fun ρ S Q => δ ρ S fun x S1 => ∃ ns : List Int, S1.seq x = some (ns.map D.int) ∧ ns.Nodup ∧ ns.length ≤ 2000 ∧ Q (.int (ns.length : Nat)) S1
theorem set_size {w : World} {h : Heap} {a : Addr} {ns : List Int} {c : Nat} (R : SetR w h a (fun j => decide (j ∈ ns)) c) (hn : ns.Nodup) : c = ns.length := by
  obtain ⟨o, es, ep, t, ho, hex, hd, hg, hnd, hmem, hb, hf, hsz, _⟩ := R
  have hp : (es.toList.map keyOf).Perm ns := (List.perm_ext_iff_of_nodup hnd hn).mpr fun k => by
    rw [← hmem k]; simp
  have := hp.length_eq
  rw [List.length_map, Array.length_toList, hsz] at this
  exact this
theorem de_lenSet (hm : X.mg "len" = none) (hm2 : X.mg "set" = none) (ha : DE X e δ) (hg : Gl X "len" := by rfl) (hg2 : Gl X "set" := by rfl) (hc : X.calm = true := by rfl) (na : starEach [e] X.env = (false, eval e X.env) :: starEach [] X.env := by rfl) :
    DE X (.Call (.Name "len" p) [.Call (.Name "set" p2) [e] [] q] [] pos) (dLenSet δ) := by
  refine peW (t := fun σ H Q => LE X.K δ σ H fun x H1 => ∃ (l : Addr) (ns : List Int), x = .ref l ∧ (SqL X.K H1 l (ns.map V.int) ∨ SqT X.K H1 l (ns.map V.int)) ∧ ns.Nodup ∧ ns.length ≤ 2000 ∧ Q (.int (ns.length : Nat)) H1) ⟨fun pins s σ H Q I h => ?_⟩ fun σ H Q ⟨ρ, S, Qd, re, rs, q, k⟩ => ?_
  · refine Call_ (ld_blt I hg hm PySem.boot_len ?_)
    refine PyProof.Rows.callWith_builtin1 (PyProof.Rows.args_cons ?_ rfl) rfl rfl
    refine Call_ (ld_blt I hg2 hm2 PyProof.Rows.boot_set ?_)
    refine PyProof.Rows.callWith_type1 (PyProof.Rows.args_cons (thn (ha.run pins s σ H _ I h) fun v s1 ⟨x, H1, I1, r1, q1⟩ => PyProof.Rows.args_nil ?_) na) na rfl
    obtain ⟨l, ns, rfl, hq, hnd, hl, q1⟩ := q1
    cases r1
    rcases hq with hq | hq
    · obtain ⟨its, r, pl, hz⟩ := I1.list hq
      have hlen : its.toArray.size = ns.length := by rw [List.size_toArray, ← r.length, List.length_map]
      refine call_set_list (I1.ok.hd hc) pl.isList (ns := ns) (by simpa using r.ints) (by rw [hlen]; unfold scanBound; omega) fun h' tk hS hk => ?_
      refine PyProof.Rows.args_nil ?_
      rw [hlen, RZ.firstMet_nodup hnd ns.length (Nat.le_refl _), List.take_length] at hS
      obtain ⟨o, es, ep, t, ho, hex, hd, _, _, _, hf, hn⟩ := hS
      have I2 : Inv X pins σ H1 { s1 with heap := h', toks := tk } := I1.kept fun b o e => hk b o (Heap.lt_size e) e
      exact call_len_set ho hex hd hf (by rw [hn] <;> omega) ⟨.int ns.length, H1, I2.tok _, ⟨_, by rw [hn]⟩, q1⟩
    · obtain ⟨its, r, pl, hz⟩ := I1.tuple hq
      refine call_set_tupI ns (I1.ok.hd hc) (show s1.heap.IsTuple l its.toArray from pl) (by simpa using r.ints) (by unfold scanBound; omega) fun h' tk c hS hcle hk => ?_
      refine PyProof.Rows.args_nil ?_
      have hcn := set_size hS hnd
      obtain ⟨o, es, ep, t, ho, hex, hd, _, _, _, hb, hf, hn, _⟩ := hS
      have I2 : Inv X pins σ H1 { s1 with heap := h', toks := tk } := I1.kept hk
      exact call_len_set ho hex hd hf (by rw [hn] <;> omega) ⟨.int ns.length, H1, I2.tok _, ⟨_, by rw [hn, hcn]⟩, q1⟩
  · refine ⟨ρ, S, _, re, rs, q, fun x S1 v H1 q1 g1 r1 => ?_⟩
    obtain ⟨ns, hs, hnd, hl, q1⟩ := q1
    obtain ⟨a, vs, rfl, t1, s1⟩ := seq_at hs r1 g1.rs
    rw [rds_ints s1] at t1
    exact ⟨a, ns, rfl, t1, hnd, hl, (k.go g1).here g1.rs q1 RD.int⟩
/-! ### a, b, c = x, y, z -/
variable {a b c : Expr} {α : TAD}
theorem RDs.three {K : PySem.W.Frag} {S : Sto} {H : Hp} {d e f : D} {vs : List V} (h : RDs K S H [d, e, f] vs) : ∃ u v w, vs = [u, v, w] ∧ RD K S H d u ∧ RD K S H e v ∧ RD K S H f w := by
  rw [RDs] at h
  obtain ⟨v, r, rfl, h1, h2⟩ := h
  obtain ⟨u, w, rfl, h3, h4⟩ := h2.two
  exact ⟨v, u, w, rfl, h1, h3, h4⟩
theorem ds_par3 (i j l : Nat) {x y z : Str} {px py pz pt : Pos} {kt k2 pt2} (hN : X.N.Nodup) (ha : DA X [a, b, c] α) (hc : X.calm = true := by rfl) (hi : X.N[i]? = some x := by rfl) (hj : X.N[j]? = some y := by rfl) (hl : X.N[l]? = some z := by rfl) (hij : i ≠ j := by decide) (hil : i ≠ l := by decide) (hjl : j ≠ l := by decide)
    (hx : X.env.scope.names.lookup x = some .local := by rfl) (hy : X.env.scope.names.lookup y = some .local := by rfl) (hz : X.env.scope.names.lookup z = some .local := by rfl)
    (hw : swappedStores [.Tuple [.Name x px, .Name y py, .Name z pz] kt pt] (.Tuple [a, b, c] k2 pt2) X.env = pure (some [x, y, z]) := by rfl)
    (hs : swapsWithSole [.Tuple [.Name x px, .Name y py, .Name z pz] kt pt] (.Tuple [a, b, c] k2 pt2) pos.line X.env = pure false := by rfl) :
    DS X (.Assign [.Tuple [.Name x px, .Name y py, .Name z pz] kt pt] (.Tuple [a, b, c] k2 pt2) pos) (dPar3 i j l α) := psW (ps_par3 hc hN hi hj hl hij hil hjl hx hy hz ha hw hs) fun E σ H ⟨ρ, S, De, re, rs, q, k⟩ => by
  refine ⟨ρ, S, _, re, rs, q, fun ds S1 vs H1 q1 g1 r1 => ?_⟩
  try dsimp only at q1
  split at q1
  · obtain ⟨u, v, w, rfl, r2, r3, r4⟩ := r1.three
    exact ⟨u, v, w, rfl, k.nx _ _ _ _ q1 g1 ((((re.tp g1.tp).set i r2).set j r3).set l r4)⟩
  · exact q1.elim
/-! ### calls: a tuple whose object is known is a tuple -/
inductive Wks : List D → List D → Prop where
  | nil : Wks [] []
  | same {d : D} {ds es : List D} : Wks ds es → Wks (d :: ds) (d :: es)
  | tpx {xs ds es : List D} : Wks ds es → Wks (.tpx xs :: ds) (.tup xs :: es)
theorem Wks.rds {K : PySem.W.Frag} {S : Sto} {H : Hp} : ∀ {ds es : List D} {vs : List V}, Wks ds es → RDs K S H ds vs → RDs K S H es vs
  | _, _, _, .nil, h => h
  | _, _, vs, .same w, h => by
    rw [RDs] at h ⊢
    obtain ⟨v, r, e, h1, h2⟩ := h
    exact ⟨v, r, e, h1, w.rds h2⟩
  | _, _, vs, .tpx w, h => by
    rw [RDs] at h ⊢
    obtain ⟨v, r, e, h1, h2⟩ := h
    refine ⟨v, r, e, ?_, w.rds h2⟩
    rw [RD] at h1
    obtain ⟨a, o, us, e1, e2, _, e3⟩ := h1
    rw [RD]
    exact ⟨a, us, e1, .inl (.inr ⟨o, e2⟩), e3⟩
/-- a promise that takes such tuples too -/
def spW (sp : DSp) : DSp := fun ds S Q => ∃ es, Wks ds es ∧ sp es S Q
theorem lsp_W {K : PySem.W.Frag} {sp : DSp} {vs : List V} {H : Hp} {Q : VK} {E : XK} (h : LSp K (spW sp) vs H Q E) : LSp K sp vs H Q E := by
  obtain ⟨ds, S, Qd, r, rs, ⟨es, w, q⟩, k⟩ := h
  exact ⟨es, S, Qd, w.rds r, rs, q, k⟩
theorem Has.weak {P : Program} {w : World} {K : PySem.W.Frag} {mg : Str → Option Value} {base : Heap} {k : Nat} {x : Str} {ps : List Str} {sp : DSp} (h : Has P w K mg base k x ps sp) : Has P w K mg base k x ps (spW sp) := by
  obtain ⟨f, fd, F, r⟩ := h
  refine ⟨f, fd, ?_, r⟩
  exact F.imp fun vs H Q E h => lsp_W h
end
end PL
/-! plain facts for the laws: draws, frames, blocks -/
namespace PL
open PySem PySem.Spec PySem.W PyProof.Rows L2
abbrev DeN (Q : QD) : EndsD := { nx := fun _ S' => FzQ Q .non S', rt := FzQ Q }
def eI (xs : List Int) : D := .tup (xs.map .int)
theorem cut_tail (r : List Int) : PL.cutD (r.map D.int) (some 1) none = r.tail.map D.int := by
  unfold PL.cutD
  cases r with
  | nil => rfl
  | cons x r =>
    have h1 : HT.sIx ((x :: r).map D.int).length 0 (some 1) = 1 := by simp [HT.sIx]
    have h2 : HT.sIx ((x :: r).map D.int).length ((x :: r).map D.int).length none = ((x :: r).map D.int).length := rfl
    rw [h1, h2]
    simp [List.take_of_length_le]
theorem pair_le : ∀ {r : List Int} {p : Int × Int}, r.Pairwise (· ≤ ·) → p ∈ List.zip r r.tail → p.1 ≤ p.2
  | [], p, _, h => by simp at h
  | [x], p, _, h => by simp at h
  | x :: y :: r, p, o, h => by
    rw [List.tail_cons, List.zip_cons_cons] at h
    rcases List.mem_cons.mp h with rfl | h
    · exact (List.pairwise_cons.mp o).1 y (List.mem_cons_self ..)
    · exact pair_le (List.pairwise_cons.mp o).2 h
theorem small {n : Nat} (h : n ≤ 1000000) : n ≤ sizeLine := by rw [sizeLine_eq]; omega
theorem nn_sum : ∀ {c : List Int}, (∀ x ∈ c, 0 ≤ x) → 0 ≤ c.sum ∧ ∀ x ∈ c, x ≤ c.sum
  | [], _ => ⟨by simp, by simp⟩
  | y :: c, h => by
    obtain ⟨h1, h2⟩ := nn_sum (c := c) fun x hx => h x (List.mem_cons_of_mem _ hx)
    have := h y List.mem_cons_self
    rw [List.sum_cons]
    refine ⟨by omega, fun x hx => ?_⟩
    rcases List.mem_cons.mp hx with rfl | hx
    · omega
    · have := h2 x hx; omega
def cA (c : List Int) (i : Nat) : Int := c.getD i 0
theorem cA_mem {c : List Int} {i : Nat} (h : i < c.length) : cA c i ∈ c := by
  unfold cA; rw [List.getD_eq_getElem?_getD, List.getElem?_eq_getElem h]; exact List.getElem_mem h
theorem cA_set_same {c : List Int} {i : Nat} {x : Int} (h : i < c.length) : cA (c.set i x) i = x := by
  unfold cA; rw [List.getD_eq_getElem?_getD, List.getElem?_set_self h]; rfl
theorem cA_set_ne {c : List Int} {i j : Nat} {x : Int} (h : i ≠ j) : cA (c.set i x) j = cA c j := by
  unfold cA; rw [List.getD_eq_getElem?_getD, List.getD_eq_getElem?_getD, List.getElem?_set_ne h]
theorem sum_setA {c : List Int} {i : Nat} {x : Int} (h : i < c.length) : (c.set i x).sum = c.sum - cA c i + x := by
  induction c generalizing i with
  | nil => simp at h
  | cons y c ih =>
    cases i with
    | zero => simp [cA]; omega
    | succ i =>
      rw [List.set_cons_succ, List.sum_cons, List.sum_cons, ih (by simpa using h)]
      have : cA (y :: c) (i + 1) = cA c i := rfl
      rw [this]; omega
theorem sorted_at {r : List Int} (o : r.Pairwise (· ≤ ·)) {a b : Nat} (h : a ≤ b) (hb : b < r.length) : r.getD a 0 ≤ r.getD b 0 := by
  rw [List.getD_eq_getElem?_getD, List.getD_eq_getElem?_getD, List.getElem?_eq_getElem hb, List.getElem?_eq_getElem (by omega)]
  show r[a] ≤ r[b]
  by_cases e : a = b
  · subst e; exact Int.le_refl _
  · exact List.pairwise_iff_getElem.mp o a b (by omega) hb (by omega)
theorem rep_zero (n : Nat) : (List.replicate n [D.int 0]).flatten = (List.replicate n (0 : Int)).map D.int := by
  induction n with
  | zero => rfl
  | succ n ih => rw [List.replicate_succ, List.replicate_succ, List.flatten_cons, List.map_cons, ih]; rfl
theorem drop_at {α : Type} {l : List α} {k : Nat} {x : α} {xs : List α} (h : x :: xs = l.drop k) : ∃ hk : k < l.length, x = l[k] ∧ xs = l.drop (k + 1) := by
  have hk : k < l.length := by
    have := congrArg List.length h
    rw [List.length_cons, List.length_drop] at this
    omega
  rw [List.drop_eq_getElem_cons hk] at h
  obtain ⟨h1, h2⟩ := List.cons.inj h
  exact ⟨hk, h1, h2⟩
theorem drop_nil {α : Type} {l : List α} {k : Nat} (h : [] = l.drop k) : l.length ≤ k := by
  have := congrArg List.length h
  rw [List.length_nil, List.length_drop] at this
  omega
def PotO (b : Nat) (o : MO) : Prop := ∃ own small c : Int, o = .lst [.int own, .int small, .int c] ∧ 0 ≤ own ∧ 0 ≤ small ∧ small < 2 ^ 62 ∧ 0 ≤ c ∧ c ≤ b
theorem PotO.mono {b b' : Nat} {o : MO} (h : PotO b o) (hb : b ≤ b') : PotO b' o := by
  obtain ⟨own, small, c, e, h1, h2, h3, h4, h5⟩ := h
  exact ⟨own, small, c, e, h1, h2, h3, h4, by omega⟩
theorem cmul_small {a b : Int} {n m : Nat} (h1 : a.natAbs ≤ n) (h2 : b.natAbs ≤ m) (hn : n < 2 ^ 1000) (hm : m < 2 ^ 1000) : CMul' a b := ⟨Nat.lt_of_le_of_lt h1 hn, Nat.lt_of_le_of_lt h2 hm⟩
theorem cut_one (ns : List Int) : PL.cutD (ns.map D.int) none (some 1) = (ns.take 1).map D.int := by
  unfold PL.cutD
  cases ns with
  | nil => rfl
  | cons x ns =>
    have h1 : HT.sIx ((x :: ns).map D.int).length 0 none = 0 := rfl
    have h2 : HT.sIx ((x :: ns).map D.int).length ((x :: ns).map D.int).length (some 1) = 1 := by simp [HT.sIx]
    rw [h1, h2]; rfl
theorem cut_take (r : List Int) (k : Int) (h0 : 0 ≤ k) : PL.cutD (r.map D.int) none (some k) = (r.take k.toNat).map D.int := by
  unfold PL.cutD
  have h1 : HT.sIx (r.map D.int).length 0 none = 0 := rfl
  have h2 : HT.sIx (r.map D.int).length (r.map D.int).length (some k) = min k.toNat r.length := by
    unfold HT.sIx; simp only [if_neg (Int.not_lt.mpr h0), List.length_map]
  rw [h1, h2, List.drop_zero, Nat.sub_zero, List.map_take]
  rw [← List.length_map (as := r) (f := D.int), ← List.take_eq_take_min]
theorem take_next {r : List Int} {n : Nat} (h : n < r.length) : (r.take (n + 1)).sum = (r.take n).sum + r.getD n 0 := by
  rw [List.take_succ, List.getElem?_eq_getElem h, List.sum_append, List.getD_eq_getElem?_getD, List.getElem?_eq_getElem h]; simp
theorem eqD_nil {ds : List D} : eqD (.lst ds) (.lst []) = ds.isEmpty := by
  unfold eqD
  cases ds with
  | nil => simp [D.py, D.pys, PyData.eqv, PyData.eqvAll]
  | cons d ds => simp [D.py, D.pys, PyData.eqv, PyData.eqvAll]

theorem atI_head {α : Type} {l : List α} {x : α} (h : l.head? = some x) : atI l 0 = some x := by
  cases l with
  | nil => cases h
  | cons a l =>
    have e : ixN (a :: l).length 0 = some 0 := ixN_nn (by decide) (by rw [List.length_cons]; omega)
    unfold atI
    rw [e]
    exact h
theorem pair_gt : ∀ {r : List Int} {p : Int × Int}, r.Pairwise (· > ·) → p ∈ List.zip r r.tail → p.2 < p.1
  | [], p, _, h => by simp at h
  | [x], p, _, h => by simp at h
  | x :: y :: r, p, o, h => by
    rw [List.tail_cons, List.zip_cons_cons] at h
    rcases List.mem_cons.mp h with rfl | h
    · exact (List.pairwise_cons.mp o).1 y (List.mem_cons_self ..)
    · exact pair_gt (List.pairwise_cons.mp o).2 h
/-- all but p as it was -/
def Fr (p : Addr) (S S' : Sto) : Prop := ∀ q u, q ≠ p → S q = some u → S' q = some u
theorem Fr.refl {p : Addr} {S : Sto} : Fr p S S := fun _ _ _ h => h
theorem Fr.trans {p : Addr} {S S1 S2 : Sto} (a : Fr p S S1) (b : Fr p S1 S2) : Fr p S S2 := fun q u n h => b q u n (a q u n h)
theorem Fr.new {p x : Addr} {S S' : Sto} {o : MO} (a : Fr p S S') (h : S' x = none) : Fr p S (S'.up x o) := fun q u n e => by
  have := a q u n e
  rw [Sto.up_ne (fun z => by subst z; rw [h] at this; cases this)]; exact this
theorem Fr.old {p x : Addr} {S S' : Sto} {o : MO} (a : Fr p S S') (h : S x = none) : Fr p S (S'.up x o) := fun q u n e => by
  rw [Sto.up_ne (fun z => by subst z; rw [h] at e; cases e)]; exact a q u n e
theorem Fr.del {p x : Addr} {S S' : Sto} (a : Fr p S S') (h : S x = none) : Fr p S (S'.del x) := fun q u n e => by
  rw [Sto.del_ne (fun z => by subst z; rw [h] at e; cases e)]; exact a q u n e
theorem Fr.own {p : Addr} {S S' : Sto} {o : MO} (a : Fr p S S') : Fr p S (S'.up p o) := fun q u n e => by
  rw [Sto.up_ne n]; exact a q u n e
theorem Fr.none {p x : Addr} {S S' : Sto} (a : Fr p S S') (hx : x ≠ p) (h : S' x = none) : S x = none := by
  cases e : S x with
  | none => rfl
  | some u => rw [a x u hx e] at h; cases h
/-- draws in a comprehension: [int(take(pot, n)) for _ in range(k)] -/
theorem lc_draws {p : Addr} {n : Int} {b : Nat} {o : MO} {S : Sto} {Q : QD} {ρ0 : DEnv} {γ : TGD} {el : TED} (l : List D) (hS : S p = some o) (hp : PotO b o) (hl : l.length ≤ 1000)
    (f : Int → D) (hγ : ∀ x S' N o0 b0, S' p = some o0 → PotO b0 o0 → b0 ≤ 1000000 → (∀ k o', 0 ≤ k → k < n → PotO (b0 + 1) o' → N (f k) (S'.up p o')) → γ x ρ0 S' fun ρ' S1 => el ρ' S1 N)
    (hb : b ≤ 100000) (q : ∀ (vs : List Int) o' S', vs.length = l.length → (∀ v ∈ vs, 0 ≤ v ∧ v < n) → S' p = some o' → PotO (b + l.length) o' → Fr p S S' → Q (.lst (vs.map f)) S') :
    ∀ Dl, S Dl = none → True ∧ lcD Dl (fun _ => True) ρ0 γ dYes el l [] (S.up Dl (.lst [])) (endL false Dl Q) := by
  have inv := lc_run (r := false) (ρ0 := ρ0) (γ := γ) (t := dYes) (el := el) (it := ⟨l, fun _ => True⟩) (S := S) (Q := Q) (fun xs acc S' => ∃ (vs : List Int) (o' : MO), acc = vs.map f ∧ vs.length + xs.length = l.length ∧ (∀ v ∈ vs, 0 ≤ v ∧ v < n) ∧ S' p = some o' ∧ PotO (b + vs.length) o' ∧ Fr p S S')
    (fun _ => trivial) (small (by show l.length ≤ _; omega)) (fun Dl hD => ⟨[], o, rfl, by simp, by simp, by rw [Sto.up_ne (ne_of_in hS hD)]; exact hS, hp, Fr.refl.new hD⟩) ?_ ?_ ?_
  · exact inv
  · rintro x xs acc S' _ ⟨vs, o', rfl, hlen, hv, hS', hp', hfr⟩ Dl hD hDl N M hN
    have hDp : Dl ≠ p := fun z => by subst z; rw [hD] at hS; cases hS
    simp only [dYes]
    rw [List.length_cons] at hlen
    refine hγ x S' N o' (b + vs.length) hS' hp' (by omega) (fun k o2 h0 h1 h2 => ?_)
    refine hN _ _ (by rw [Sto.up_ne hDp]; exact hDl) (by rw [List.length_map, sizeLine_eq]; omega) ⟨vs ++ [k], o2, by rw [List.map_append]; rfl, by simp; omega, fun v hv' => ?_, ?_, ?_, ?_⟩
    · rcases List.mem_append.mp hv' with z | z
      · exact hv v z
      · rw [List.mem_singleton.mp z]; exact ⟨h0, h1⟩
    · rw [Sto.up_ne (Ne.symm hDp)]; exact Sto.up_same
    · rw [List.length_append]; exact h2
    · exact (hfr.own).old hD
  · rintro x xs acc S' ⟨vs, o', rfl, hlen, _⟩
    rw [List.length_map]
    show _ ≤ l.length
    omega
  · rintro Dl acc S' hD ⟨vs, o', rfl, hlen, hv, hS', hp', hfr⟩ hDl
    have hDp : Dl ≠ p := fun z => by subst z; rw [hD] at hS; cases hS
    rw [List.length_nil, Nat.add_zero] at hlen
    rw [hlen] at hp'
    show Q (.lst _) _
    exact q vs o' _ hlen hv (by rw [Sto.del_ne (Ne.symm hDp)]; exact hS') hp' (hfr.del hD)
theorem seqG {t u : TSD} {De : EndsD} {ρ : DEnv} {S : Sto} (h : ∀ v : TSD, v = u → dSeq t v De ρ S) : dSeq t u De ρ S := h u rfl
theorem forG {ι : TID} {γ : TGD} {τ : TSD} {De : EndsD} {ρ : DEnv} {S : Sto} (h : ∀ v : TSD, v = τ → dFor ι γ v De ρ S) : dFor ι γ τ De ρ S := h τ rfl
theorem rep_map {α : Type} (f : α → D) (x : α) (n : Nat) : (List.replicate n [f x]).flatten = (List.replicate n x).map f := by
  induction n with
  | zero => rfl
  | succ n ih => rw [List.replicate_succ, List.replicate_succ, List.flatten_cons, List.map_cons, ih]; rfl
theorem getD_rev {α : Type} {l : List α} {i : Nat} (d : α) (h : i < l.length) : l.reverse.getD i d = l.getD (l.length - 1 - i) d := by
  rw [List.getD_eq_getElem?_getD, List.getD_eq_getElem?_getD, List.getElem?_reverse h]
end PL
namespace PL
open PySem PySem.Spec PySem.W PyProof.Rows L2
/-! places, orders, sorts by key -/
def nI (i : Nat) : D := .int (i : Int)
theorem nI_map (o : List Nat) : o.map nI = (o.map fun (i : Nat) => (i : Int)).map D.int := by rw [List.map_map]; rfl
def Perm_ (n : Nat) (o : List Nat) : Prop := o.Perm (List.range n)
theorem Perm_.len {n : Nat} {o : List Nat} (h : Perm_ n o) : o.length = n := by have := h.length_eq; rw [List.length_range] at this; exact this
theorem Perm_.lt {n : Nat} {o : List Nat} (h : Perm_ n o) {i : Nat} (hi : i ∈ o) : i < n := List.mem_range.mp (h.mem_iff.mp hi)
theorem Perm_.nd {n : Nat} {o : List Nat} (h : Perm_ n o) : o.Nodup := h.nodup_iff.mpr List.nodup_range
theorem cast_nd {o : List Nat} (h : o.Nodup) : (o.map fun (i : Nat) => (i : Int)).Nodup := by
  refine List.Pairwise.map _ (fun a b hab => ?_) h
  intro z; exact hab (by omega)
theorem a20 {a b : D} : atI [a, b] 0 = some a := rfl
theorem a21 {a b : D} : atI [a, b] 1 = some b := rfl
theorem a30 {a b c : D} : atI [a, b, c] 0 = some a := rfl
theorem a31 {a b c : D} : atI [a, b, c] 1 = some b := rfl
theorem a32 {a b c : D} : atI [a, b, c] 2 = some c := rfl
def eO (o : List Nat) : D := .tup (o.map nI)
def leP (p q : Int × Int) : Bool := decide (p.1 < q.1 ∨ (p.1 = q.1 ∧ p.2 ≤ q.2))
def eP (p : Int × Int) : D := .tup [.int p.1, .int p.2]
theorem leD_P {p q : Int × Int} : leD (eP p) (eP q) = leP p q := by
  unfold leD leP eP
  rw [dataLe_eq]
  simp only [D.py, D.pys, dataLt_ii, cond_false]
  by_cases h : p.1 < q.1 ∨ (p.1 = q.1 ∧ p.2 ≤ q.2)
  · rw [decide_eq_true h, decide_eq_false (by omega)]; rfl
  · rw [decide_eq_false h, decide_eq_true (by omega)]; rfl
theorem sort_pairs {ps : List (Int × Int)} : (ps.map eP).mergeSort leD = (ps.mergeSort leP).map eP := (sort_maps eP fun a _ b _ => leD_P.symm).symm
theorem sortable_pairs {ps : List (Int × Int)} : Sortable ((ps.map eP).map D.py) := .inl fun d hd => by
  rw [List.map_map] at hd
  obtain ⟨a, _, rfl⟩ := List.mem_map.mp hd
  simp only [Function.comp, eP, D.py, D.pys]
  exact ⟨_, _, rfl⟩
def leK (k : Nat → Int) (i j : Nat) : Bool := decide (k i < k j ∨ (k i = k j ∧ i ≤ j))
def sortBy (k : Nat → Int) (n : Nat) : List Nat := (List.range n).mergeSort (leK k)
theorem sortBy_perm (k : Nat → Int) (n : Nat) : Perm_ n (sortBy k n) := List.mergeSort_perm _ _
theorem sortBy_sorted (k : Nat → Int) (n : Nat) : (sortBy k n).Pairwise fun i j => k i < k j ∨ (k i = k j ∧ i ≤ j) := by
  have := List.pairwise_mergeSort (le := leK k) (fun a b c h1 h2 => by simp only [leK, decide_eq_true_eq] at *; omega) (fun a b => by simp only [leK, Bool.or_eq_true, decide_eq_true_eq]; omega) (List.range n)
  exact this.imp fun h => by simpa [leK] using h
theorem sortBy_pairs (k : Nat → Int) (n : Nat) : ((List.range n).map fun i => (k i, (i : Int))).mergeSort leP = (sortBy k n).map fun i => (k i, (i : Int)) := by
  unfold sortBy
  refine (sort_maps (fun i : Nat => (k i, (i : Int))) fun a _ b _ => ?_).symm
  unfold leK leP
  congr 1
  apply propext
  simp only
  omega
def cI (o : List Nat) : List Int := o.map fun (i : Nat) => (i : Int)
theorem nI_c (o : List Nat) : o.map nI = (cI o).map D.int := nI_map o
theorem any_nI {i : Nat} {R : List Nat} : ((R.map nI).any fun z => eqD z (nI i)) = decide (i ∈ R) := by
  induction R with
  | nil => simp
  | cons r R ih =>
    rw [List.map_cons, List.any_cons, ih]
    unfold nI
    rw [eqD_int]
    by_cases q : i = r
    · subst q; simp
    · have h1 : ¬ ((r : Int) = (i : Int)) := by omega
      simp [q, h1]
theorem okn_nI {n : Nat} {o : List Nat} : (o.map nI).all (D.okn n) = true := by rw [nI_c]; exact okn_ints
theorem akin_nI {o : List Nat} : akin (o.map nI) := by rw [nI_c]; exact akin_ints
theorem sortable_nI {o : List Nat} : Sortable ((o.map nI).map D.py) := by rw [nI_c]; exact sortable_ints
def sortN (o : List Nat) : List Nat := o.mergeSort fun a b => decide ((a : Int) ≤ (b : Int))
theorem sortN_perm (o : List Nat) : (sortN o).Perm o := List.mergeSort_perm _ _
theorem sort_nI {o : List Nat} : (o.map nI).mergeSort leD = (sortN o).map nI := by
  unfold sortN
  refine (sort_maps nI fun a _ b _ => ?_).symm
  unfold nI
  exact leD_int.symm
theorem rg_nI (n : Nat) : rgD 0 (n : Int) = (List.range n).map nI := by
  unfold rgD
  rw [show ((n : Int) - 0).toNat = n by omega]
  refine List.map_congr_left fun i _ => ?_
  unfold nI
  rw [Int.zero_add]
theorem cons_erase {α : Type} : ∀ (l : List α) (j : Nat) (h : j < l.length), (l[j] :: l.eraseIdx j).Perm l
  | [], _, h => absurd h (by simp)
  | a :: r, 0, _ => List.Perm.refl _
  | a :: r, j + 1, h => by
    have h2 : j < r.length := by simpa using h
    exact (List.Perm.swap _ _ _).trans ((cons_erase r j h2).cons a)
theorem erase_nI : ∀ (l : List Nat) (j : Nat), (l.map nI).eraseIdx j = (l.eraseIdx j).map nI
  | [], j => by simp
  | a :: r, 0 => by simp
  | a :: r, j + 1 => by
    have ih := erase_nI r j
    simp [ih]
theorem take_at {o : List Nat} {k : Nat} (hk : k < o.length) : o.take (k + 1) = o.take k ++ [o[k]] := by rw [List.take_succ, List.getElem?_eq_getElem hk]; rfl
theorem zip3_map {α β γ : Type} (e1 : α → D) (e2 : β → D) (e3 : γ → D) (xs : List α) (ys : List β) (zs : List γ) : List.zipWith (fun d (e : D × D) => D.tup [d, e.1, e.2]) (xs.map e1) (List.zip (ys.map e2) (zs.map e3)) = (List.zip xs (List.zip ys zs)).map fun p => .tup [e1 p.1, e2 p.2.1, e3 p.2.2] := by
  rw [List.zip_map]
  induction xs generalizing ys zs with
  | nil => simp
  | cons x xs ih =>
    cases ys with
    | nil => simp
    | cons y ys =>
      cases zs with
      | nil => simp
      | cons z zs =>
        rw [List.zip_cons_cons, List.map_cons, List.map_cons, List.zipWith_cons_cons, ih, List.zip_cons_cons, List.map_cons]; rfl
theorem first_nd {F : List Nat} {k a : Nat} (hn : F.Nodup) (h : F[k]? = some a) : firstAt (cI F) ((a : Nat) : Int) k := by
  refine ⟨by unfold cI; rw [List.getElem?_map, h]; rfl, fun m hm z => ?_⟩
  unfold cI at z
  obtain ⟨hk, hke⟩ := List.getElem?_eq_some_iff.mp h
  rw [List.getElem?_map, List.getElem?_eq_getElem (show m < F.length by omega)] at z
  have z2 : ((F[m] : Nat) : Int) = (a : Int) := Option.some.inj z
  have := (List.nodup_iff_pairwise_ne.mp hn)
  have := List.pairwise_iff_getElem.mp this m k (by omega) hk hm
  omega
theorem zip3_mem {α β γ : Type} {xs : List α} {ys : List β} {zs : List γ} {q : α × β × γ} (h : q ∈ List.zip xs (List.zip ys zs)) : ∃ k : Nat, xs[k]? = some q.1 ∧ ys[k]? = some q.2.1 ∧ zs[k]? = some q.2.2 := by
  obtain ⟨k, hk, e⟩ := List.getElem_of_mem h
  refine ⟨k, ?_⟩
  rw [List.getElem_zip] at e
  rw [List.length_zip, List.length_zip] at hk
  subst e
  simp only [List.getElem_zip]
  exact ⟨List.getElem?_eq_getElem (by omega), List.getElem?_eq_getElem (by omega), List.getElem?_eq_getElem (by omega)⟩
theorem eqD_bl {a b : Bool} : eqD (.bl a) (.bl b) = decide (a = b) := by
  unfold eqD
  rw [D.py, D.py, PyData.eqv]
  cases a <;> cases b <;> rfl
theorem cut_to (ds : List D) (k : Int) (h0 : 0 ≤ k) : PL.cutD ds none (some k) = ds.take k.toNat := by
  unfold PL.cutD
  have h1 : HT.sIx ds.length 0 none = 0 := rfl
  have h2 : HT.sIx ds.length ds.length (some k) = min k.toNat ds.length := by
    unfold HT.sIx; simp only [if_neg (Int.not_lt.mpr h0)]
  rw [h1, h2, List.drop_zero, Nat.sub_zero, ← List.take_eq_take_min]
theorem cut_from (ds : List D) (k : Int) (h0 : 0 ≤ k) (hk : k.toNat ≤ ds.length) : PL.cutD ds (some k) none = ds.drop k.toNat := by
  unfold PL.cutD
  have h1 : HT.sIx ds.length 0 (some k) = k.toNat := by
    unfold HT.sIx; simp only [if_neg (Int.not_lt.mpr h0)]; omega
  have h2 : HT.sIx ds.length ds.length none = ds.length := rfl
  rw [h1, h2, List.take_of_length_le (by rw [List.length_drop]; omega)]
end PL
namespace PL
open PySem PySem.Spec PySem.W PyProof.Rows L2
/-! ### lists that go together -/
inductive All2 {α β : Type} (R : α → β → Prop) : List α → List β → Prop
  | nil : All2 R [] []
  | cons {x : α} {y : β} {xs : List α} {ys : List β} : R x y → All2 R xs ys → All2 R (x :: xs) (y :: ys)
theorem All2.snoc {α β : Type} {R : α → β → Prop} {x : α} {y : β} {xs : List α} {ys : List β} (h : All2 R xs ys) (r : R x y) : All2 R (xs ++ [x]) (ys ++ [y]) := by
  induction h with
  | nil => exact .cons r .nil
  | cons r' _ ih => exact .cons r' ih
theorem All2.len {α β : Type} {R : α → β → Prop} {xs : List α} {ys : List β} (h : All2 R xs ys) : ys.length = xs.length := by
  induction h with
  | nil => rfl
  | cons _ _ ih => rw [List.length_cons, List.length_cons, ih]
theorem All2.mem {α β : Type} {R : α → β → Prop} {xs : List α} {ys : List β} (h : All2 R xs ys) : ∀ y ∈ ys, ∃ x ∈ xs, R x y := by
  induction h with
  | nil => intro y hy; cases hy
  | cons r _ ih =>
    intro y hy
    rcases List.mem_cons.mp hy with rfl | hy
    · exact ⟨_, List.mem_cons_self, r⟩
    · obtain ⟨x, hx, hr⟩ := ih y hy
      exact ⟨x, List.mem_cons_of_mem _ hx, hr⟩
theorem All2.at {α β : Type} {R : α → β → Prop} {xs : List α} {ys : List β} (h : All2 R xs ys) : ∀ (i : Nat) (y : β), ys[i]? = some y → ∃ x, xs[i]? = some x ∧ R x y := by
  induction h with
  | nil => intro i y hy; simp at hy
  | cons r _ ih =>
    intro i y hy
    cases i with
    | zero => exact ⟨_, rfl, by rw [← Option.some.inj hy]; exact r⟩
    | succ i => exact ih i y hy
/-- a comprehension that draws c times for each item -/
theorem lc_drawsG {α β : Type} {p : Addr} {c b : Nat} {o : MO} {S : Sto} {Q : QD} {ρ0 : DEnv} {γ : TGD} {el : TED} (l : List α) (enc : α → D) (fb : β → D) (R : α → β → Prop) (hS : S p = some o) (hp : PotO b o) (hl : l.length ≤ 1000) (hc : c ≤ 50)
    (hγ : ∀ x ∈ l, ∀ S' N o0 b0, S' p = some o0 → PotO b0 o0 → b0 ≤ 200000 → (∀ y o', R x y → PotO (b0 + c) o' → N (fb y) (S'.up p o')) → γ (enc x) ρ0 S' fun ρ' S1 => el ρ' S1 N)
    (hb : b ≤ 100000) (q : ∀ (ys : List β) o' S', All2 R l ys → S' p = some o' → PotO (b + c * l.length) o' → Fr p S S' → Q (.lst (ys.map fb)) S') :
    ∀ Dl, S Dl = none → True ∧ lcD Dl (fun _ => True) ρ0 γ dYes el (l.map enc) [] (S.up Dl (.lst [])) (endL false Dl Q) := by
  have inv := lc_run (r := false) (ρ0 := ρ0) (γ := γ) (t := dYes) (el := el) (it := ⟨l.map enc, fun _ => True⟩) (S := S) (Q := Q) (fun xs acc S' => ∃ (ds re : List α) (ys : List β) (o' : MO), xs = re.map enc ∧ ds ++ re = l ∧ acc = ys.map fb ∧ All2 R ds ys ∧ S' p = some o' ∧ PotO (b + c * ys.length) o' ∧ Fr p S S')
    (fun _ => trivial) (small (by show (l.map enc).length ≤ _; rw [List.length_map]; omega)) (fun Dl hD => ⟨[], l, [], o, rfl, rfl, rfl, .nil, by rw [Sto.up_ne (ne_of_in hS hD)]; exact hS, hp, Fr.refl.new hD⟩) ?_ ?_ ?_
  · exact inv
  · rintro x xs acc S' _ ⟨ds, re, ys, o', hx, hdr, rfl, hA, hS', hp', hfr⟩ Dl hD hDl N M hN
    cases re with
    | nil => cases hx
    | cons a re =>
    obtain ⟨rfl, rfl⟩ := List.cons.inj hx
    have hDp : Dl ≠ p := fun z => by subst z; rw [hD] at hS; cases hS
    simp only [dYes]
    have hlen : ys.length + (re.length + 1) = l.length := by rw [hA.len, ← hdr, List.length_append, List.length_cons]
    have hb2 : c * ys.length ≤ 50 * 1000 := Nat.mul_le_mul hc (by omega)
    refine hγ a (by rw [← hdr]; simp) S' N o' _ hS' hp' (by omega) (fun y o2 hr h2 => ?_)
    refine hN _ _ (by rw [Sto.up_ne hDp]; exact hDl) (by rw [List.length_map, sizeLine_eq]; omega) ⟨ds ++ [a], re, ys ++ [y], o2, rfl, by rw [← hdr]; simp, by rw [List.map_append]; rfl, hA.snoc hr, ?_, ?_, ?_⟩
    · rw [Sto.up_ne (Ne.symm hDp)]; exact Sto.up_same
    · rw [List.length_append, List.length_cons, List.length_nil, Nat.mul_add, Nat.mul_one]; exact h2.mono (by omega)
    · exact (hfr.own).old hD
  · rintro x xs acc S' ⟨ds, re, ys, o', hx, hdr, rfl, hA, _⟩
    rw [List.length_map, hA.len, hx, List.length_map]
    show _ ≤ (l.map enc).length
    rw [List.length_map, ← hdr, List.length_append]
    exact Nat.le_refl _
  · rintro Dl acc S' hD ⟨ds, re, ys, o', hx, hdr, rfl, hA, hS', hp', hfr⟩ hDl
    have : re = [] := by cases re with
      | nil => rfl
      | cons a re => cases hx
    subst this
    rw [List.append_nil] at hdr
    subst hdr
    show Q (.lst _) _
    rw [hA.len] at hp'
    have hDp : Dl ≠ p := fun z => by subst z; rw [hD] at hS; cases hS
    exact q ys o' _ hA (by rw [Sto.del_ne (Ne.symm hDp)]; exact hS') hp' (hfr.del hD)
end PL
namespace L73
open PySem PySem.Spec PySem.W PyProof.Rows L2 PL
abbrev N_is_int : List Str := ["value", "low", "high"]
def t_is_int  : TSD := (dRet (dAndV (dIsi "int" (dVar 0)) (dAndV (dNotV (dIsi "bool" (dVar 0))) (dChain oLe oLe (dVar 1) (dVar 0) (dVar 2)))))
abbrev N_are_ints : List Str := ["value", "low", "high", "one"]
def t_are_ints (sp_is_int : DSp) : TSD := (dRet (dAndV (dIsi "tuple" (dVar 0)) (dCB oAll (dCons (dLc false (dIt (dVar 0)) (gN 3) dYes (dCall sp_is_int (dCons (dVar 3) (dCons (dVar 1) (dCons (dVar 2) dNil)))) [3]) dNil))))
abbrev N_is_told : List Str := ["value", "sizes"]
def t_is_told  : TSD := (dRet (dAndV (dIsi "tuple" (dVar 0)) (dAndV (dOp (oIn false) (dCB oLen (dCons (dVar 0) dNil)) (dVar 1)) (dIsi "str" (dOp oIx (dVar 0) (dC (.int 0)))))))
abbrev N_is_order : List Str := ["value", "many"]
def t_is_order (sp_are_ints : DSp) : TSD := (dRet (dAndV (dCall sp_are_ints (dCons (dVar 0) (dCons (dC (.int 0)) (dCons (dOp oSub (dVar 1) (dC (.int 1))) dNil)))) (dAndV (dOp oEq (dCB oLen (dCons (dVar 0) dNil)) (dVar 1)) (dOp oEq (dLenSet (dVar 0)) (dVar 1)))))
abbrev N_look_at_jobs : List Str := ["jobs", "job"]
def t_look_at_jobs (sp_are_ints : DSp) : TSD := (dSeq (dIfS (dOr (dNot (dTest (dIsi "tuple" (dVar 0)))) (dNot (dTest (dChain oLe oLe (dC (.int 1)) (dCB oLen (dCons (dVar 0) dNil)) (dC (.int 60)))))) dNever dNext)
  (dIfS (dNot (dTest (dCB oAll (dCons (dLc false (dIt (dVar 0)) (gN 1) dYes (dAndV (dCall sp_are_ints (dCons (dVar 1) (dCons (dC (.int 0)) (dCons (dC (.int 10000)) dNil)))) (dOp oEq (dCB oLen (dCons (dVar 1) dNil)) (dC (.int 2)))) [1]) dNil)))) dNever dNext))
abbrev N_look_at_sequence_of : List Str := ["jobs", "order"]
def t_look_at_sequence_of (sp_look_at_jobs : DSp) (sp_is_order : DSp) : TSD := (dSeq (dDrop (dCall sp_look_at_jobs (dCons (dVar 0) dNil)))
  (dIfS (dNot (dTest (dCall sp_is_order (dCons (dVar 1) (dCons (dCB oLen (dCons (dVar 0) dNil)) dNil))))) dNever dNext))
abbrev N_told_ends : List Str := ["jobs", "order", "found", "first", "second", "one"]
def t_told_ends  : TSD := (dSeq (dPar3 2 3 4 (dCons (dLst true dNil) (dCons (dC (.int 0)) (dCons (dC (.int 0)) dNil))))
  (dSeq (dFor (dIt (dVar 1)) (gN 5)
  (dSeq (dAug 3 oAddI (dOp oIx (dOp oIx (dVar 0) (dVar 5)) (dC (.int 0))))
  (dSeq (dAsg 4 (dOp (oAdd false) (dCB oMax (dCons (dVar 3) (dCons (dVar 4) dNil))) (dOp oIx (dOp oIx (dVar 0) (dVar 5)) (dC (.int 1)))))
  (dDrop (dBM oAppend (dVar 2) (dCons (dTup (dCons (dVar 3) (dCons (dVar 4) dNil))) dNil))))))
  (dRet (dVar 2))))
abbrev N_ends_of : List Str := ["jobs", "order"]
def t_ends_of (sp_look_at_sequence_of : DSp) (sp_told_ends : DSp) : TSD := (dSeq (dDrop (dCall sp_look_at_sequence_of (dCons (dVar 0) (dCons (dVar 1) dNil))))
  (dRet (dCB oTuple (dCons (dCall sp_told_ends (dCons (dVar 0) (dCons (dVar 1) dNil))) dNil))))
abbrev N_end_of : List Str := ["jobs", "order"]
def t_end_of (sp_look_at_sequence_of : DSp) (sp_told_ends : DSp) : TSD := (dSeq (dDrop (dCall sp_look_at_sequence_of (dCons (dVar 0) (dCons (dVar 1) dNil))))
  (dRet (dOp oIx (dOp oIx (dCall sp_told_ends (dCons (dVar 0) (dCons (dVar 1) dNil))) (dNeg (dC (.int 1)))) (dC (.int 1)))))
abbrev N_between_of : List Str := ["jobs", "order", "one", "first", "second"]
def t_between_of (sp_look_at_sequence_of : DSp) (sp_told_ends : DSp) : TSD := (dSeq (dDrop (dCall sp_look_at_sequence_of (dCons (dVar 0) (dCons (dVar 1) dNil))))
  (dRet (dCB oTuple (dCons (dLc false (dZip2 (dVar 1) (dCall sp_told_ends (dCons (dVar 0) (dCons (dVar 1) dNil)))) (gT 2 (gsCons (gN 2) (gsCons (gT 2 (gsCons (gN 3) (gsCons (gN 4) gsNil))) gsNil))) dYes (dOp oSub (dOp oSub (dVar 4) (dOp oIx (dOp oIx (dVar 0) (dVar 2)) (dC (.int 1)))) (dVar 3)) [2, 3, 4]) dNil))))
abbrev N_critical_of : List Str := ["jobs", "order", "sums", "place", "ahead", "behind", "one"]
def t_critical_of (sp_look_at_sequence_of : DSp) : TSD := (dSeq (dDrop (dCall sp_look_at_sequence_of (dCons (dVar 0) (dCons (dVar 1) dNil))))
  (dSeq (dAsg 2 (dLst true dNil))
  (dSeq (dFor (dRng1 (dCB oLen (dCons (dVar 1) dNil))) (gN 3)
  (dSeq (dPar2 4 5 (dCons (dSl (oSl false) (dVar 1) dNoPart (dPart (dOp (oAdd false) (dVar 3) (dC (.int 1))))) (dCons (dSl (oSl false) (dVar 1) (dPart (dVar 3)) dNoPart) dNil)))
  (dDrop (dBM oAppend (dVar 2) (dCons (dOp (oAdd false) (dCB oSum (dCons (dLc false (dIt (dVar 4)) (gN 6) dYes (dOp oIx (dOp oIx (dVar 0) (dVar 6)) (dC (.int 0))) [6]) dNil)) (dCB oSum (dCons (dLc false (dIt (dVar 5)) (gN 6) dYes (dOp oIx (dOp oIx (dVar 0) (dVar 6)) (dC (.int 1))) [6]) dNil))) dNil)))))
  (dRet (dBM oIndexL (dVar 2) (dCons (dCB oMax (dCons (dVar 2) dNil)) dNil))))))
abbrev N_told_best : List Str := ["jobs", "short", "at", "one", "long", "ticks"]
def t_told_best  : TSD := (dSeq (dAsg 1 (dCB (oSorted false) (dCons (dLc false (dEnum (dVar 0)) (gT 2 (gsCons (gN 2) (gsCons (gN 3) gsNil))) (dTest (dOp oLt (dOp oIx (dVar 3) (dC (.int 0))) (dOp oIx (dVar 3) (dC (.int 1))))) (dTup (dCons (dOp oIx (dVar 3) (dC (.int 0))) (dCons (dVar 2) dNil))) [2, 3]) dNil)))
  (dSeq (dAsg 4 (dCB (oSorted false) (dCons (dLc false (dEnum (dVar 0)) (gT 2 (gsCons (gN 2) (gsCons (gN 3) gsNil))) (dTest (dOp oGe (dOp oIx (dVar 3) (dC (.int 0))) (dOp oIx (dVar 3) (dC (.int 1))))) (dTup (dCons (dNeg (dOp oIx (dVar 3) (dC (.int 1)))) (dCons (dVar 2) dNil))) [2, 3]) dNil)))
  (dRet (dCB oTuple (dCons (dLc false (dIt (dLst false (dStar (dVar 1) (dStar (dVar 4) dNil)))) (gT 2 (gsCons (gN 5) (gsCons (gN 2) gsNil))) dYes (dVar 2) [5, 2]) dNil)))))
abbrev N_best_sequence : List Str := ["jobs", "order"]
def t_best_sequence (sp_look_at_jobs : DSp) (sp_told_best : DSp) (sp_told_ends : DSp) : TSD := (dSeq (dDrop (dCall sp_look_at_jobs (dCons (dVar 0) dNil)))
  (dSeq (dAsg 1 (dCall sp_told_best (dCons (dVar 0) dNil)))
  (dRet (dTup (dCons (dOp oIx (dOp oIx (dCall sp_told_ends (dCons (dVar 0) (dCons (dVar 1) dNil))) (dNeg (dC (.int 1)))) (dC (.int 1))) (dCons (dVar 1) dNil))))))
abbrev N_shows_best_sequence : List Str := ["jobs", "value", "end"]
def t_shows_best_sequence (sp_look_at_jobs : DSp) (sp_told_ends : DSp) (sp_told_best : DSp) (sp_is_int : DSp) (sp_is_order : DSp) : TSD := (dSeq (dDrop (dCall sp_look_at_jobs (dCons (dVar 0) dNil)))
  (dSeq (dAsg 2 (dOp oIx (dOp oIx (dCall sp_told_ends (dCons (dVar 0) (dCons (dCall sp_told_best (dCons (dVar 0) dNil)) dNil))) (dNeg (dC (.int 1)))) (dC (.int 1))))
  (dSeq (dIfS (dOr (dNot (dTest (dIsi "tuple" (dVar 1)))) (dOr (dTest (dOp oNe (dCB oLen (dCons (dVar 1) dNil)) (dC (.int 2)))) (dNot (dTest (dCall sp_is_int (dCons (dOp oIx (dVar 1) (dC (.int 0))) (dCons (dVar 2) (dCons (dVar 2) dNil)))))))) (dRet (dC (.bl false))) dNext)
  (dRet (dAndV (dCall sp_is_order (dCons (dOp oIx (dVar 1) (dC (.int 1))) (dCons (dCB oLen (dCons (dVar 0) dNil)) dNil))) (dOp oEq (dOp oIx (dOp oIx (dCall sp_told_ends (dCons (dVar 0) (dCons (dOp oIx (dVar 1) (dC (.int 1))) dNil))) (dNeg (dC (.int 1)))) (dC (.int 1))) (dVar 2)))))))
abbrev N_told_worst : List Str := ["jobs", "great", "job", "some", "at", "end"]
def t_told_worst  : TSD := (dSeq (dAsg 1 (dCB oSum (dCons (dLc false (dIt (dVar 0)) (gN 2) dYes (dCB oMax (dCons (dVar 2) dNil)) [2]) dNil)))
  (dSeq (dAsg 3 (dLc false (dEnum (dVar 0)) (gT 2 (gsCons (gN 4) (gsCons (gN 2) gsNil))) dYes (dTup (dCons (dOp (oAdd false) (dOp oSub (dVar 1) (dCB oMax (dCons (dVar 2) dNil))) (dCB oSum (dCons (dVar 2) dNil))) (dCons (dNeg (dVar 4)) dNil))) [4, 2]))
  (dSeq (dAsgG (gT 2 (gsCons (gN 5) (gsCons (gN 4) gsNil))) (dCB oMax (dCons (dVar 3) dNil)))
  (dRet (dTup (dCons (dVar 5) (dCons (dNeg (dVar 4)) dNil)))))))
abbrev N_told_worst_order : List Str := ["jobs", "one", "ahead", "at", "job", "behind"]
def t_told_worst_order  : TSD := (dSeq (dAsg 2 (dLc false (dEnum (dVar 0)) (gT 2 (gsCons (gN 3) (gsCons (gN 4) gsNil))) (dAnd (dTest (dOp oNe (dVar 3) (dVar 1))) (dTest (dOp oGe (dOp oIx (dVar 4) (dC (.int 0))) (dOp oIx (dVar 4) (dC (.int 1)))))) (dVar 3) [3, 4]))
  (dSeq (dAsg 5 (dLc false (dEnum (dVar 0)) (gT 2 (gsCons (gN 3) (gsCons (gN 4) gsNil))) (dAnd (dTest (dOp oNe (dVar 3) (dVar 1))) (dTest (dOp oLt (dOp oIx (dVar 4) (dC (.int 0))) (dOp oIx (dVar 4) (dC (.int 1)))))) (dVar 3) [3, 4]))
  (dRet (dTup (dStar (dVar 2) (dCons (dVar 1) (dStar (dVar 5) dNil)))))))
abbrev N_worst_sequence : List Str := ["jobs", "end", "one"]
def t_worst_sequence (sp_look_at_jobs : DSp) (sp_told_worst : DSp) (sp_told_worst_order : DSp) : TSD := (dSeq (dDrop (dCall sp_look_at_jobs (dCons (dVar 0) dNil)))
  (dSeq (dAsgG (gT 2 (gsCons (gN 1) (gsCons (gN 2) gsNil))) (dCall sp_told_worst (dCons (dVar 0) dNil)))
  (dRet (dTup (dCons (dVar 1) (dCons (dCall sp_told_worst_order (dCons (dVar 0) (dCons (dVar 2) dNil))) dNil))))))
abbrev N_shows_worst_sequence : List Str := ["jobs", "value", "end"]
def t_shows_worst_sequence (sp_look_at_jobs : DSp) (sp_told_worst : DSp) (sp_is_int : DSp) (sp_told_ends : DSp) (sp_is_order : DSp) : TSD := (dSeq (dDrop (dCall sp_look_at_jobs (dCons (dVar 0) dNil)))
  (dSeq (dAsg 2 (dOp oIx (dCall sp_told_worst (dCons (dVar 0) dNil)) (dC (.int 0))))
  (dSeq (dIfS (dOr (dNot (dTest (dIsi "tuple" (dVar 1)))) (dOr (dTest (dOp oNe (dCB oLen (dCons (dVar 1) dNil)) (dC (.int 2)))) (dNot (dTest (dCall sp_is_int (dCons (dOp oIx (dVar 1) (dC (.int 0))) (dCons (dVar 2) (dCons (dVar 2) dNil)))))))) (dRet (dC (.bl false))) dNext)
  (dRet (dAndV (dCall sp_is_order (dCons (dOp oIx (dVar 1) (dC (.int 1))) (dCons (dCB oLen (dCons (dVar 0) dNil)) dNil))) (dOp oEq (dOp oIx (dOp oIx (dCall sp_told_ends (dCons (dVar 0) (dCons (dOp oIx (dVar 1) (dC (.int 1))) dNil))) (dNeg (dC (.int 1)))) (dC (.int 1))) (dVar 2)))))))
abbrev N_look_at_end : List Str := ["jobs", "end"]
def t_look_at_end (sp_look_at_jobs : DSp) (sp_is_int : DSp) : TSD := (dSeq (dDrop (dCall sp_look_at_jobs (dCons (dVar 0) dNil)))
  (dIfS (dNot (dTest (dCall sp_is_int (dCons (dVar 1) (dCons (dC (.int 0)) (dCons (dC (.int 1000000)) dNil)))))) dNever dNext))
abbrev N_always_done : List Str := ["jobs", "end", "latest", "one"]
def t_always_done (sp_look_at_end : DSp) (sp_told_worst : DSp) (sp_told_worst_order : DSp) : TSD := (dSeq (dDrop (dCall sp_look_at_end (dCons (dVar 0) (dCons (dVar 1) dNil))))
  (dSeq (dAsgG (gT 2 (gsCons (gN 2) (gsCons (gN 3) gsNil))) (dCall sp_told_worst (dCons (dVar 0) dNil)))
  (dRet (dIf (dTest (dOp oLe (dVar 2) (dVar 1))) (dTup (dCons (dC (.str "every")) dNil)) (dTup (dCons (dC (.str "late")) (dCons (dCall sp_told_worst_order (dCons (dVar 0) (dCons (dVar 3) dNil))) (dCons (dVar 3) dNil))))))))
abbrev N_shows_always_done : List Str := ["jobs", "end", "value", "place", "ahead", "behind", "one"]
def t_shows_always_done (sp_look_at_end : DSp) (sp_is_told : DSp) (sp_told_worst : DSp) (sp_is_order : DSp) (sp_is_int : DSp) : TSD := (dSeq (dDrop (dCall (spW sp_look_at_end) (dCons (dVar 0) (dCons (dVar 1) dNil))))
  (dSeq (dIfS (dNot (dTest (dCall (spW sp_is_told) (dCons (dVar 2) (dCons (dTup (dCons (dC (.int 1)) (dCons (dC (.int 3)) dNil))) dNil))))) (dRet (dC (.bl false))) dNext)
  (dSeq (dIfS (dTest (dOp oEq (dCB oLen (dCons (dVar 2) dNil)) (dC (.int 1)))) (dRet (dAndV (dOp oEq (dOp oIx (dVar 2) (dC (.int 0))) (dC (.str "every"))) (dOp oLe (dOp oIx (dCall (spW sp_told_worst) (dCons (dVar 0) dNil)) (dC (.int 0))) (dVar 1)))) dNext)
  (dSeq (dIfS (dOr (dTest (dOp oNe (dOp oIx (dVar 2) (dC (.int 0))) (dC (.str "late")))) (dOr (dNot (dTest (dCall (spW sp_is_order) (dCons (dOp oIx (dVar 2) (dC (.int 1))) (dCons (dCB oLen (dCons (dVar 0) dNil)) dNil))))) (dNot (dTest (dCall (spW sp_is_int) (dCons (dOp oIx (dVar 2) (dC (.int 2))) (dCons (dC (.int 0)) (dCons (dOp oSub (dCB oLen (dCons (dVar 0) dNil)) (dC (.int 1))) dNil)))))))) (dRet (dC (.bl false))) dNext)
  (dSeq (dAsg 3 (dBMX oIndexT (dOp oIx (dVar 2) (dC (.int 1))) (dCons (dOp oIx (dVar 2) (dC (.int 2))) dNil)))
  (dSeq (dPar2 4 5 (dCons (dSl (oSl false) (dOp oIx (dVar 2) (dC (.int 1))) dNoPart (dPart (dOp (oAdd false) (dVar 3) (dC (.int 1))))) (dCons (dSl (oSl false) (dOp oIx (dVar 2) (dC (.int 1))) (dPart (dVar 3)) dNoPart) dNil)))
  (dRet (dOp oGt (dOp (oAdd false) (dCB oSum (dCons (dLc false (dIt (dVar 4)) (gN 6) dYes (dOp oIx (dOp oIx (dVar 0) (dVar 6)) (dC (.int 0))) [6]) dNil)) (dCB oSum (dCons (dLc false (dIt (dVar 5)) (gN 6) dYes (dOp oIx (dOp oIx (dVar 0) (dVar 6)) (dC (.int 1))) [6]) dNil))) (dVar 1)))))))))
abbrev N__law_pot : List Str := ["script", "place", "cell", "own", "small"]
def t__law_pot  : TSD := (dSeq (dAsg 2 (dIf (dTest (dOp oLt (dVar 1) (dCB oLen (dCons (dVar 0) dNil)))) (dOp oIx (dVar 0) (dVar 1)) (dOp (oAdd false) (dOp (oAdd false) (dOp oMod (dCB oInt (dCons (dCB oSum (dCons (dSl (oSl false) (dVar 0) dNoPart (dPart (dC (.int 1)))) dNil)) dNil)) (dC (.int 1000333))) (dOp (oMulA false) (dC (.int 6637)) (dVar 1))) (dC (.int 4423)))))
  (dSeq (dAsg 3 (dOp (oMulA false) (dOp oMod (dCB oInt (dCons (dCB oAbs (dCons (dVar 2) dNil)) dNil)) (dOp oPow (dOp oPow (dC (.int 10)) (dC (.int 60))) (dC (.int 5)))) (dCB oInt (dCons (dOp oGe (dCB oAbs (dCons (dVar 2) dNil)) (dOp oPow (dC (.int 10)) (dC (.int 18)))) dNil))))
  (dSeq (dAsg 4 (dOp oMod (dCB oInt (dCons (dVar 2) dNil)) (dC (.int 2305843009213693951))))
  (dRet (dLst true (dCons (dVar 3) (dCons (dOp oMod (dCB oInt (dCons (dOp (oAdd false) (dOp (oAdd false) (dOp (oMulA false) (dVar 4) (dC (.int 97003))) (dOp (oMulA false) (dOp (oMulA false) (dC (.int 13421)) (dVar 1)) (dVar 1))) (dC (.int 3907))) dNil)) (dC (.int 2305843009213693921))) (dCons (dC (.int 0)) dNil))))))))
abbrev N__law_take : List Str := ["pot", "upto", "digit", "prime", "blend"]
def t__law_take  : TSD := (dSeq (dIfS (dTest (dOp oGt (dOp oIx (dVar 0) (dC (.int 0))) (dC (.int 0)))) (dSeq (dAsg 2 (dOp oMod (dCB oInt (dCons (dOp oIx (dVar 0) (dC (.int 0))) dNil)) (dVar 1)))
  (dSeq (dAsgG (gSb (dVar 0) (dC (.int 0)) oSet) (dOp oFdiv (dOp oIx (dVar 0) (dC (.int 0))) (dVar 1)))
  (dRet (dVar 2)))) dNext)
  (dSeq (dAsgG (gSb (dVar 0) (dC (.int 2)) oSet) (dOp (oAdd false) (dOp oIx (dVar 0) (dC (.int 2))) (dC (.int 1))))
  (dSeq (dAsg 3 (dOp oIx (dLst false (dCons (dC (.int 2147483647)) (dCons (dC (.int 2147483629)) (dCons (dC (.int 2147483587)) (dCons (dC (.int 2147483579)) (dCons (dC (.int 2147483563)) dNil)))))) (dOp oMod (dCB oInt (dCons (dOp oIx (dVar 0) (dC (.int 2))) dNil)) (dC (.int 5)))))
  (dSeq (dAsg 4 (dOp oMod (dCB oInt (dCons (dOp oPow (dCB oInt (dCons (dOp (oAdd false) (dOp (oAdd false) (dOp oIx (dVar 0) (dC (.int 1))) (dOp (oMulA false) (dOp (oMulA false) (dC (.int 107791)) (dOp oIx (dVar 0) (dC (.int 2)))) (dOp oIx (dVar 0) (dC (.int 2))))) (dC (.int 4423))) dNil)) (dC (.int 3))) dNil)) (dVar 3)))
  (dSeq (dAsg 4 (dOp oMod (dCB oInt (dCons (dOp (oMulA false) (dVar 4) (dOp (oAdd false) (dOp oMod (dCB oInt (dCons (dVar 4) dNil)) (dC (.int 13109))) (dOp (oMulA false) (dC (.int 449)) (dOp oIx (dVar 0) (dC (.int 2)))))) dNil)) (dC (.int 2305843009213693907))))
  (dRet (dOp oMod (dCB oInt (dCons (dOp oFdiv (dVar 4) (dC (.int 283))) dNil)) (dVar 1))))))))
abbrev N__law_of : List Str := ["pot", "some"]
def t__law_of (sp__law_take : DSp) : TSD := (dRet (dOp oIx (dVar 1) (dCall sp__law_take (dCons (dVar 0) (dCons (dCB oLen (dCons (dVar 1) dNil)) dNil)))))
abbrev N__law_cells : List Str := ["script", "most"]
def t__law_cells  : TSD := (dRet (dListRg false (dRg1 (dCB oMax (dCons (dC (.int 1)) (dCons (dCB oMin (dCons (dVar 1) (dCons (dCB oLen (dCons (dVar 0) dNil)) dNil))) dNil))))))
abbrev N__law_some : List Str := ["pot", "pool", "many", "rests", "found", "lap"]
def t__law_some (sp__law_take : DSp) : TSD := (dSeq (dPar2 3 4 (dCons (dCB (oList true) (dCons (dVar 1) dNil)) (dCons (dLst true dNil) dNil)))
  (dSeq (dFor (dRng1 (dVar 2)) (gN 5)
  (dDrop (dBM oAppend (dVar 4) (dCons (dBM oPopAt (dVar 3) (dCons (dCall sp__law_take (dCons (dVar 0) (dCons (dCB oLen (dCons (dVar 3) dNil)) dNil))) dNil)) dNil))))
  (dRet (dVar 4))))
abbrev N__law_sums : List Str := ["jobs", "order", "found", "place", "firsts", "one"]
def t__law_sums  : TSD := (dSeq (dAsg 2 (dLst true dNil))
  (dSeq (dFor (dRng1 (dCB oLen (dCons (dVar 1) dNil))) (gN 3)
  (dSeq (dAsg 4 (dCB oSum (dCons (dLc false (dIt (dSl (oSl false) (dVar 1) dNoPart (dPart (dOp (oAdd false) (dVar 3) (dC (.int 1)))))) (gN 5) dYes (dOp oIx (dOp oIx (dVar 0) (dVar 5)) (dC (.int 0))) [5]) dNil)))
  (dDrop (dBM oAppend (dVar 2) (dCons (dOp (oAdd false) (dVar 4) (dCB oSum (dCons (dLc false (dIt (dSl (oSl false) (dVar 1) (dPart (dVar 3)) dNoPart)) (gN 5) dYes (dOp oIx (dOp oIx (dVar 0) (dVar 5)) (dC (.int 1))) [5]) dNil))) dNil)))))
  (dRet (dVar 2))))
abbrev N__law_right : List Str := ["pot", "lap", "upto", "many", "jobs", "job", "order", "one", "sums", "end", "best", "worst", "ends", "waits", "wait", "first", "second", "back", "times", "far", "quick", "more", "told"]
def t__law_right (sp__law_of : DSp) (sp__law_take : DSp) (sp__law_some : DSp) (sp__law_sums : DSp) (sp_end_of : DSp) (sp_critical_of : DSp) (sp_best_sequence : DSp) (sp_worst_sequence : DSp) (sp_ends_of : DSp) (sp_between_of : DSp) (sp_shows_best_sequence : DSp) (sp_shows_worst_sequence : DSp) (sp_always_done : DSp) (sp_shows_always_done : DSp) : TSD := (dSeq (dFor (dRng1 (dC (.int 8))) (gN 1)
  (dSeq (dAsgG (gT 2 (gsCons (gN 2) (gsCons (gN 3) gsNil))) (dTup (dCons (dCall (spW sp__law_of) (dCons (dVar 0) (dCons (dLst false (dCons (dC (.int 3)) (dCons (dC (.int 20)) (dCons (dOp oPow (dC (.int 10)) (dC (.int 4))) dNil)))) dNil))) (dCons (dOp (oAdd false) (dC (.int 1)) (dCB oInt (dCons (dCall (spW sp__law_take) (dCons (dVar 0) (dCons (dCall (spW sp__law_of) (dCons (dVar 0) (dCons (dLst false (dCons (dC (.int 5)) (dCons (dC (.int 60)) dNil))) dNil))) dNil))) dNil))) dNil))))
  (dSeq (dAsg 4 (dCB oTuple (dCons (dLc false (dRng1 (dVar 3)) (gN 5) dYes (dTup (dCons (dCB oInt (dCons (dCall (spW sp__law_take) (dCons (dVar 0) (dCons (dVar 2) dNil))) dNil)) (dCons (dCB oInt (dCons (dCall (spW sp__law_take) (dCons (dVar 0) (dCons (dVar 2) dNil))) dNil)) dNil))) [5]) dNil)))
  (dSeq (dAsg 6 (dTupX (dLc false (dIt (dCall (spW sp__law_some) (dCons (dVar 0) (dCons (dListRg false (dRg1 (dVar 3))) (dCons (dVar 3) dNil))))) (gN 7) dYes (dCB oInt (dCons (dVar 7) dNil)) [7])))
  (dSeq (dPar2 8 9 (dCons (dCall (spW sp__law_sums) (dCons (dVar 4) (dCons (dVar 6) dNil))) (dCons (dCall (spW sp_end_of) (dCons (dVar 4) (dCons (dVar 6) dNil))) dNil)))
  (dSeq (dIfS (dOr (dTest (dOp oNe (dVar 9) (dCB oMax (dCons (dVar 8) dNil)))) (dTest (dOp oNe (dCall (spW sp_critical_of) (dCons (dVar 4) (dCons (dVar 6) dNil))) (dBM oIndexL (dVar 8) (dCons (dVar 9) dNil))))) (dRet (dC (.bl false))) dNext)
  (dSeq (dPar2 10 11 (dCons (dCall (spW sp_best_sequence) (dCons (dVar 4) dNil)) (dCons (dCall (spW sp_worst_sequence) (dCons (dVar 4) dNil)) dNil)))
  (dSeq (dIfS (dOr (dNot (dTest (dChain oLe oLe (dOp oIx (dVar 10) (dC (.int 0))) (dVar 9) (dOp oIx (dVar 11) (dC (.int 0)))))) (dOr (dTest (dOp oNe (dCall (spW sp_end_of) (dCons (dVar 4) (dCons (dOp oIx (dVar 10) (dC (.int 1))) dNil))) (dOp oIx (dVar 10) (dC (.int 0))))) (dTest (dOp oNe (dCall (spW sp_end_of) (dCons (dVar 4) (dCons (dOp oIx (dVar 11) (dC (.int 1))) dNil))) (dOp oIx (dVar 11) (dC (.int 0))))))) (dRet (dC (.bl false))) dNext)
  (dSeq (dAsg 12 (dCall (spW sp_ends_of) (dCons (dVar 4) (dCons (dVar 6) dNil))))
  (dSeq (dAsg 13 (dCall (spW sp_between_of) (dCons (dVar 4) (dCons (dVar 6) dNil))))
  (dSeq (dIfS (dTest (dCB oAny (dCons (dLc false (dZip3 (dVar 6) (dVar 13) (dVar 12)) (gT 3 (gsCons (gN 7) (gsCons (gN 14) (gsCons (gT 2 (gsCons (gN 15) (gsCons (gN 16) gsNil))) gsNil)))) dYes (dOp oNe (dOp oSub (dVar 16) (dVar 15)) (dOp (oAdd false) (dVar 14) (dOp oIx (dOp oIx (dVar 4) (dVar 7)) (dC (.int 1))))) [7, 14, 15, 16]) dNil))) (dRet (dC (.bl false))) dNext)
  (dSeq (dAsg 17 (dCB oTuple (dCons (dLc false (dIt (dVar 4)) (gT 2 (gsCons (gN 15) (gsCons (gN 16) gsNil))) dYes (dTup (dCons (dVar 16) (dCons (dVar 15) dNil))) [15, 16]) dNil)))
  (dSeq (dIfS (dOr (dTest (dOp oNe (dCall (spW sp_end_of) (dCons (dVar 17) (dCons (dRev false (dVar 6)) dNil))) (dVar 9))) (dOr (dTest (dOp oNe (dOp oIx (dCall (spW sp_best_sequence) (dCons (dVar 17) dNil)) (dC (.int 0))) (dOp oIx (dVar 10) (dC (.int 0))))) (dTest (dOp oNe (dOp oIx (dCall (spW sp_worst_sequence) (dCons (dVar 17) dNil)) (dC (.int 0))) (dOp oIx (dVar 11) (dC (.int 0))))))) (dRet (dC (.bl false))) dNext)
  (dSeq (dIfS (dTest (dOp oNotB (dCall (spW sp_shows_best_sequence) (dCons (dVar 17) (dCons (dTup (dCons (dOp oIx (dVar 10) (dC (.int 0))) (dCons (dRev false (dOp oIx (dVar 10) (dC (.int 1)))) dNil))) dNil))) (dC (.bl true)))) (dRet (dC (.bl false))) dNext)
  (dSeq (dIfS (dTest (dOp oNotB (dCall (spW sp_shows_worst_sequence) (dCons (dVar 17) (dCons (dTup (dCons (dOp oIx (dVar 11) (dC (.int 0))) (dCons (dRev false (dOp oIx (dVar 11) (dC (.int 1)))) dNil))) dNil))) (dC (.bl true)))) (dRet (dC (.bl false))) dNext)
  (dSeq (dAsg 18 (dIf (dTest (dOp oLt (dVar 2) (dC (.int 100)))) (dOp (oAdd false) (dC (.int 1)) (dCB oInt (dCons (dCall (spW sp__law_take) (dCons (dVar 0) (dCons (dC (.int 3)) dNil))) dNil))) (dC (.int 1))))
  (dSeq (dAsg 19 (dCB oTuple (dCons (dLc false (dIt (dVar 4)) (gT 2 (gsCons (gN 15) (gsCons (gN 16) gsNil))) dYes (dTup (dCons (dOp (oMulA false) (dVar 18) (dVar 15)) (dCons (dOp (oMulA false) (dVar 18) (dVar 16)) dNil))) [15, 16]) dNil)))
  (dSeq (dIfS (dOr (dTest (dOp oNe (dCall (spW sp_end_of) (dCons (dVar 19) (dCons (dVar 6) dNil))) (dOp (oMulA false) (dVar 18) (dVar 9)))) (dTest (dOp oNe (dOp oIx (dCall (spW sp_best_sequence) (dCons (dVar 19) dNil)) (dC (.int 0))) (dOp (oMulA false) (dVar 18) (dOp oIx (dVar 10) (dC (.int 0))))))) (dRet (dC (.bl false))) dNext)
  (dSeq (dAsg 20 (dCB oTuple (dCons (dLc false (dIt (dVar 4)) (gT 2 (gsCons (gN 15) (gsCons (gN 16) gsNil))) dYes (dTup (dCons (dCB oMax (dCons (dC (.int 0)) (dCons (dOp oSub (dVar 15) (dCB oInt (dCons (dCall (spW sp__law_take) (dCons (dVar 0) (dCons (dC (.int 3)) dNil))) dNil))) dNil))) (dCons (dVar 16) dNil))) [15, 16]) dNil)))
  (dSeq (dIfS (dOr (dTest (dOp oGt (dOp oIx (dCall (spW sp_best_sequence) (dCons (dVar 20) dNil)) (dC (.int 0))) (dOp oIx (dVar 10) (dC (.int 0))))) (dOr (dTest (dOp oGt (dOp oIx (dCall (spW sp_worst_sequence) (dCons (dVar 20) dNil)) (dC (.int 0))) (dOp oIx (dVar 11) (dC (.int 0))))) (dTest (dOp oGt (dCall (spW sp_end_of) (dCons (dVar 20) (dCons (dVar 6) dNil))) (dVar 9))))) (dRet (dC (.bl false))) dNext)
  (dSeq (dIfS (dTest (dOp oLt (dVar 3) (dC (.int 60)))) (dSeq (dAsg 21 (dOp (oAdd false) (dVar 4) (dTup (dCons (dTup (dCons (dCB oInt (dCons (dCall (spW sp__law_take) (dCons (dVar 0) (dCons (dVar 2) dNil))) dNil)) (dCons (dCB oInt (dCons (dCall (spW sp__law_take) (dCons (dVar 0) (dCons (dVar 2) dNil))) dNil)) dNil))) dNil))))
  (dIfS (dOr (dTest (dOp oLt (dOp oIx (dCall (spW sp_best_sequence) (dCons (dVar 21) dNil)) (dC (.int 0))) (dOp oIx (dVar 10) (dC (.int 0))))) (dTest (dOp oLt (dOp oIx (dCall (spW sp_worst_sequence) (dCons (dVar 21) dNil)) (dC (.int 0))) (dOp oIx (dVar 11) (dC (.int 0)))))) (dRet (dC (.bl false))) dNext)) dNext)
  (dSeq (dIfS (dTest (dOp oLt (dOp oIx (dVar 10) (dC (.int 0))) (dCB oMax (dCons (dCB oSum (dCons (dLc false (dIt (dVar 4)) (gN 5) dYes (dOp oIx (dVar 5) (dC (.int 0))) [5]) dNil)) (dCons (dCB oSum (dCons (dLc false (dIt (dVar 4)) (gN 5) dYes (dOp oIx (dVar 5) (dC (.int 1))) [5]) dNil)) dNil))))) (dRet (dC (.bl false))) dNext)
  (dSeq (dIfS (dTest (dOp oGt (dOp oIx (dVar 11) (dC (.int 0))) (dOp (oAdd false) (dCB oSum (dCons (dLc false (dIt (dVar 4)) (gN 5) dYes (dCB oMax (dCons (dVar 5) dNil)) [5]) dNil)) (dCB oMax (dCons (dLc false (dIt (dVar 4)) (gN 5) dYes (dCB oMin (dCons (dVar 5) dNil)) [5]) dNil))))) (dRet (dC (.bl false))) dNext)
  (dSeq (dAsg 22 (dCall (spW sp_always_done) (dCons (dVar 4) (dCons (dCB oMax (dCons (dC (.int 0)) (dCons (dOp oSub (dOp oIx (dVar 11) (dC (.int 0))) (dC (.int 1))) dNil))) dNil))))
  (dSeq (dIfS (dAnd (dTest (dOp oGt (dOp oIx (dVar 11) (dC (.int 0))) (dC (.int 0)))) (dOr (dTest (dOp oNe (dOp oIx (dVar 22) (dC (.int 0))) (dC (.str "late")))) (dTest (dOp oLt (dCall (spW sp_end_of) (dCons (dVar 4) (dCons (dOp oIx (dVar 22) (dC (.int 1))) dNil))) (dOp oIx (dVar 11) (dC (.int 0))))))) (dRet (dC (.bl false))) dNext)
  (dSeq (dIfS (dTest (dOp oNe (dCall (spW sp_always_done) (dCons (dVar 4) (dCons (dOp oIx (dVar 11) (dC (.int 0))) dNil))) (dTup (dCons (dC (.str "every")) dNil)))) (dRet (dC (.bl false))) dNext)
  (dIfS (dTest (dOp oNe (dCall (spW sp_shows_always_done) (dCons (dVar 4) (dCons (dCB oMax (dCons (dC (.int 0)) (dCons (dOp oSub (dVar 9) (dC (.int 1))) dNil))) (dCons (dTup (dCons (dC (.str "late")) (dCons (dVar 6) (dCons (dOp oIx (dVar 6) (dBM oIndexL (dVar 8) (dCons (dVar 9) dNil))) dNil)))) dNil)))) (dOp oGt (dVar 9) (dC (.int 0))))) (dRet (dC (.bl false))) dNext)))))))))))))))))))))))))))
  (dRet (dC (.bl true))))
abbrev N_law : List Str := ["script", "at"]
def t_law (sp__law_cells : DSp) (sp__law_right : DSp) (sp__law_pot : DSp) : TSD := (dRet (dCB oAll (dCons (dLc false (dIt (dCall sp__law_cells (dCons (dVar 0) (dCons (dC (.int 3)) dNil)))) (gN 1) dYes (dCall sp__law_right (dCons (dCall sp__law_pot (dCons (dVar 0) (dCons (dVar 1) dNil))) dNil)) [1]) dNil)))
end L73
namespace L73
open PySem PySem.Spec PySem.W PyProof.Rows L2 PL
def sp_is_int : DSp := fun ds S Q => ∃ v lo hi : Int, ds = [.int v, .int lo, .int hi] ∧ Q (.bl (decide (lo ≤ v) && decide (v ≤ hi))) S
theorem pure_is_int : ∀ ds S Q, sp_is_int ds S Q → t_is_int (DeN Q) (startD N_is_int ds) S := by
  rintro ds S Q ⟨v, lo, hi, rfl, q⟩
  simp only [t_is_int, dSeq, dNext, dRet, dRetN, dIfS, dAsg, dAsgG, dDrop, dPar2, dPar3, dAug, dAugS, dFor, dOp, dVar, dC, dTest, dChain, dAnd, dOr, dNot, dAndV, dOrV, dNotV, dIf, dTup, dLst, dNil, dCons, dStar, dCB, dCall, dSl, dNoPart, dPart, dBM, dRev, dNeg, dIsi, dListRg, dTupRg, dRg1, dRg2, dLc, dIt, dEnum, dZip2, dZip3, dRng1, dRng2, dYes, gN, gT, gsNil, gsCons, gSb, oI, oI0, oAdd, oMulA, oSub, oFdiv, oMod, oPow, oLt, oLe, oGt, oGe, oEq, oNe, oIsN, oNotN, oIsB, oNotB, oIx, oSl, oLen, oSum, oAll, oAny, oAbs, o1I, o2I, oMin2, oMax2, oMin, oMax, oMinL, oMaxL, oInt, oBool, oList, oTuple, oSorted, oIn, oAddI, oGet, oSet, oAppend, oExtend, oPop, oPopAt, oIndexL, oIndexT, oInsert, oRemove, dTupX, dBMX, dLenSet, D.isNon, newL, Sto.seq, Sto.list, Sto.lsts, Sto.itOf, Sto.trk, Sto.now, startD, wipeD, D.tyN, List.map_cons, List.map_nil, List.cons_append, List.nil_append, List.length_cons, List.length_nil, List.getElem?_cons_zero, List.getElem?_cons_succ, List.set_cons_zero, List.set_cons_succ, List.replicate, Nat.sub_self, Nat.reduceSub, Nat.reduceAdd, Nat.zero_add, kb_ii, kb_ib, kb_it, kb_is, kb_bi, kb_bb, kb_bt, kb_bs, kb_tt, kb_ti, kb_ts, kb_ss, kb_si, kb_st, kb_nt, kb_ni, kb_ns, kb_lt, kb_li, kb_ls, ex_some, Bool.not_false]
  by_cases h : lo ≤ v
  · simp only [decide_eq_true h, Bool.true_and] at q ⊢
    exact .here q
  · simp only [decide_eq_false h, Bool.false_and] at q ⊢
    exact .here q
def inB (lo hi : Int) (xs : List Int) : Bool := xs.all fun v => decide (lo ≤ v) && decide (v ≤ hi)
def sp_are_ints : DSp := fun ds S Q => ∃ (xs : List Int) (lo hi : Int), ds = [eI xs, .int lo, .int hi] ∧ xs.length ≤ sizeLine ∧ Q (.bl (inB lo hi xs)) S
theorem pure_are_ints : ∀ ds S Q, sp_are_ints ds S Q → t_are_ints sp_is_int (DeN Q) (startD N_are_ints ds) S := by
  rintro ds S Q ⟨xs, lo, hi, rfl, hl, q⟩
  simp only [t_are_ints, dSeq, dNext, dRet, dRetN, dIfS, dAsg, dAsgG, dDrop, dPar2, dPar3, dAug, dAugS, dFor, dOp, dVar, dC, dTest, dChain, dAnd, dOr, dNot, dAndV, dOrV, dNotV, dIf, dTup, dLst, dNil, dCons, dStar, dCB, dCall, dSl, dNoPart, dPart, dBM, dRev, dNeg, dIsi, dListRg, dTupRg, dRg1, dRg2, dLc, dIt, dEnum, dZip2, dZip3, dRng1, dRng2, dYes, gN, gT, gsNil, gsCons, gSb, oI, oI0, oAdd, oMulA, oSub, oFdiv, oMod, oPow, oLt, oLe, oGt, oGe, oEq, oNe, oIsN, oNotN, oIsB, oNotB, oIx, oSl, oLen, oSum, oAll, oAny, oAbs, o1I, o2I, oMin2, oMax2, oMin, oMax, oMinL, oMaxL, oInt, oBool, oList, oTuple, oSorted, oIn, oAddI, oGet, oSet, oAppend, oExtend, oPop, oPopAt, oIndexL, oIndexT, oInsert, oRemove, dTupX, dBMX, dLenSet, D.isNon, newL, Sto.seq, Sto.list, Sto.lsts, Sto.itOf, Sto.trk, Sto.now, startD, wipeD, D.tyN, List.map_cons, List.map_nil, List.cons_append, List.nil_append, List.length_cons, List.length_nil, List.getElem?_cons_zero, List.getElem?_cons_succ, List.set_cons_zero, List.set_cons_succ, List.replicate, Nat.sub_self, Nat.reduceSub, Nat.reduceAdd, Nat.zero_add, kb_ii, kb_ib, kb_it, kb_is, kb_bi, kb_bb, kb_bt, kb_bs, kb_tt, kb_ti, kb_ts, kb_ss, kb_si, kb_st, kb_nt, kb_ni, kb_ns, kb_lt, kb_li, kb_ls, ex_some, eI]
  refine lc_mapE xs D.int (fun v => .bl (decide (lo ≤ v) && decide (v ≤ hi))) (fun _ _ => trivial) hl (fun v hv S' e N M h => ?_) ?_
  · simp only [dSeq, dNext, dRet, dRetN, dIfS, dAsg, dAsgG, dDrop, dPar2, dPar3, dAug, dAugS, dFor, dOp, dVar, dC, dTest, dChain, dAnd, dOr, dNot, dAndV, dOrV, dNotV, dIf, dTup, dLst, dNil, dCons, dStar, dCB, dCall, dSl, dNoPart, dPart, dBM, dRev, dNeg, dIsi, dListRg, dTupRg, dRg1, dRg2, dLc, dIt, dEnum, dZip2, dZip3, dRng1, dRng2, dYes, gN, gT, gsNil, gsCons, gSb, oI, oI0, oAdd, oMulA, oSub, oFdiv, oMod, oPow, oLt, oLe, oGt, oGe, oEq, oNe, oIsN, oNotN, oIsB, oNotB, oIx, oSl, oLen, oSum, oAll, oAny, oAbs, o1I, o2I, oMin2, oMax2, oMin, oMax, oMinL, oMaxL, oInt, oBool, oList, oTuple, oSorted, oIn, oAddI, oGet, oSet, oAppend, oExtend, oPop, oPopAt, oIndexL, oIndexT, oInsert, oRemove, dTupX, dBMX, dLenSet, D.isNon, newL, Sto.seq, Sto.list, Sto.lsts, Sto.itOf, Sto.trk, Sto.now, startD, wipeD, D.tyN, List.map_cons, List.map_nil, List.cons_append, List.nil_append, List.length_cons, List.length_nil, List.getElem?_cons_zero, List.getElem?_cons_succ, List.set_cons_zero, List.set_cons_succ, List.replicate, Nat.sub_self, Nat.reduceSub, Nat.reduceAdd, Nat.zero_add, kb_ii, kb_ib, kb_it, kb_is, kb_bi, kb_bb, kb_bt, kb_bs, kb_tt, kb_ti, kb_ts, kb_ss, kb_si, kb_st, kb_nt, kb_ni, kb_ns, kb_lt, kb_li, kb_ls, ex_some]
    exact ⟨v, lo, hi, rfl, h⟩
  · simp only [dSeq, dNext, dRet, dRetN, dIfS, dAsg, dAsgG, dDrop, dPar2, dPar3, dAug, dAugS, dFor, dOp, dVar, dC, dTest, dChain, dAnd, dOr, dNot, dAndV, dOrV, dNotV, dIf, dTup, dLst, dNil, dCons, dStar, dCB, dCall, dSl, dNoPart, dPart, dBM, dRev, dNeg, dIsi, dListRg, dTupRg, dRg1, dRg2, dLc, dIt, dEnum, dZip2, dZip3, dRng1, dRng2, dYes, gN, gT, gsNil, gsCons, gSb, oI, oI0, oAdd, oMulA, oSub, oFdiv, oMod, oPow, oLt, oLe, oGt, oGe, oEq, oNe, oIsN, oNotN, oIsB, oNotB, oIx, oSl, oLen, oSum, oAll, oAny, oAbs, o1I, o2I, oMin2, oMax2, oMin, oMax, oMinL, oMaxL, oInt, oBool, oList, oTuple, oSorted, oIn, oAddI, oGet, oSet, oAppend, oExtend, oPop, oPopAt, oIndexL, oIndexT, oInsert, oRemove, dTupX, dBMX, dLenSet, D.isNon, newL, Sto.seq, Sto.list, Sto.lsts, Sto.itOf, Sto.trk, Sto.now, startD, wipeD, D.tyN, List.map_cons, List.map_nil, List.cons_append, List.nil_append, List.length_cons, List.length_nil, List.getElem?_cons_zero, List.getElem?_cons_succ, List.set_cons_zero, List.set_cons_succ, List.replicate, Nat.sub_self, Nat.reduceSub, Nat.reduceAdd, Nat.zero_add, kb_ii, kb_ib, kb_it, kb_is, kb_bi, kb_bb, kb_bt, kb_bs, kb_tt, kb_ti, kb_ts, kb_ss, kb_si, kb_st, kb_nt, kb_ni, kb_ns, kb_lt, kb_li, kb_ls, ex_some]
    refine ⟨xs.map fun v => decide (lo ≤ v) && decide (v ≤ hi), by rw [List.map_map]; rfl, .here ?_⟩
    unfold inB at q
    rw [List.all_map]
    exact q
def sp__law_pot : DSp := fun ds S Q => ∃ (ns : List Int) (pl : Nat), ds = [.fz (ns.map .int), .int (pl : Nat)] ∧ pl ≤ 1000 ∧ ∀ p o, S p = none → PotO 0 o → Q (.ref p) (S.up p o)
theorem pure__law_pot : ∀ ds S Q, sp__law_pot ds S Q → t__law_pot (DeN Q) (startD N__law_pot ds) S := by
  rintro ds S Q ⟨ns, pl, rfl, hpl, q⟩
  have key : ∀ cell : Int, ∀ ρ : DEnv, ρ = [some (.fz (ns.map D.int)), some (.int (pl : Nat)), some (.int cell), none, none] →
      (dSeq (dAsg 3 (dOp (oMulA false) (dOp oMod (dCB oInt (dCons (dCB oAbs (dCons (dVar 2) dNil)) dNil)) (dOp oPow (dOp oPow (dC (.int 10)) (dC (.int 60))) (dC (.int 5)))) (dCB oInt (dCons (dOp oGe (dCB oAbs (dCons (dVar 2) dNil)) (dOp oPow (dC (.int 10)) (dC (.int 18)))) dNil))))
  (dSeq (dAsg 4 (dOp oMod (dCB oInt (dCons (dVar 2) dNil)) (dC (.int 2305843009213693951))))
  (dRet (dLst true (dCons (dVar 3) (dCons (dOp oMod (dCB oInt (dCons (dOp (oAdd false) (dOp (oAdd false) (dOp (oMulA false) (dVar 4) (dC (.int 97003))) (dOp (oMulA false) (dOp (oMulA false) (dC (.int 13421)) (dVar 1)) (dVar 1))) (dC (.int 3907))) dNil)) (dC (.int 2305843009213693921))) (dCons (dC (.int 0)) dNil))))))) (DeN Q) ρ S := by
    rintro cell ρ rfl
    simp only [dSeq, dNext, dRet, dRetN, dIfS, dAsg, dAsgG, dDrop, dPar2, dPar3, dAug, dAugS, dFor, dOp, dVar, dC, dTest, dChain, dAnd, dOr, dNot, dAndV, dOrV, dNotV, dIf, dTup, dLst, dNil, dCons, dStar, dCB, dCall, dSl, dNoPart, dPart, dBM, dRev, dNeg, dIsi, dListRg, dTupRg, dRg1, dRg2, dLc, dIt, dEnum, dZip2, dZip3, dRng1, dRng2, dYes, gN, gT, gsNil, gsCons, gSb, oI, oI0, oAdd, oMulA, oSub, oFdiv, oMod, oPow, oLt, oLe, oGt, oGe, oEq, oNe, oIsN, oNotN, oIsB, oNotB, oIx, oSl, oLen, oSum, oAll, oAny, oAbs, o1I, o2I, oMin2, oMax2, oMin, oMax, oMinL, oMaxL, oInt, oBool, oList, oTuple, oSorted, oIn, oAddI, oGet, oSet, oAppend, oExtend, oPop, oPopAt, oIndexL, oIndexT, oInsert, oRemove, dTupX, dBMX, dLenSet, D.isNon, newL, Sto.seq, Sto.list, Sto.lsts, Sto.itOf, Sto.trk, Sto.now, startD, wipeD, D.tyN, List.map_cons, List.map_nil, List.cons_append, List.nil_append, List.length_cons, List.length_nil, List.getElem?_cons_zero, List.getElem?_cons_succ, List.set_cons_zero, List.set_cons_succ, List.replicate, Nat.sub_self, Nat.reduceSub, Nat.reduceAdd, Nat.zero_add, kb_ii, kb_ib, kb_it, kb_is, kb_bi, kb_bb, kb_bt, kb_bs, kb_tt, kb_ti, kb_ts, kb_ss, kb_si, kb_st, kb_nt, kb_ni, kb_ns, kb_lt, kb_li, kb_ls, ex_some]
    have hb : ∀ g : Bool, (if g = true then (1 : Int) else 0).natAbs ≤ 1 := fun g => by cases g <;> decide
    have hpos : (0 : Int) < (10 ^ Int.toNat 60) ^ Int.toNat 5 := by decide +kernel
    generalize hM : ((10 : Int) ^ Int.toNat 60) ^ Int.toNat 5 = M at hpos ⊢
    have hMs : M < 2 ^ 1000 := by rw [← hM]; decide +kernel
    have a1 := Int.emod_nonneg (if cell < 0 then -cell else cell) (Int.ne_of_gt hpos)
    have a2 := Int.emod_lt_of_pos (if cell < 0 then -cell else cell) hpos
    have s1 := Int.emod_nonneg cell (show (2305843009213693951 : Int) ≠ 0 by decide)
    have s2 := Int.emod_lt_of_pos cell (show (0 : Int) < 2305843009213693951 by decide)
    have pp : ((13421 * (pl : Int)) * (pl : Int)).natAbs ≤ 13421 * 1000 * 1000 := by
      rw [Int.natAbs_mul, Int.natAbs_mul]
      exact Nat.mul_le_mul (Nat.mul_le_mul (by decide) (by omega)) (by omega)
    refine ⟨⟨by decide, by decide, by decide +kernel⟩, ⟨by decide, by decide, by decide +kernel⟩, hpos, ⟨by decide, by decide, by decide +kernel⟩, ?_, by decide, ?_, ?_, ?_, by decide, ?_, ?_⟩
    · exact ⟨Nat.lt_of_lt_of_le (show _ < M.toNat by omega) (by omega), Nat.lt_of_le_of_lt (hb _) (by decide +kernel)⟩
    · exact cmul_small (n := 2305843009213693951) (m := 97003) (by omega) (by decide) (by decide +kernel) (by decide +kernel)
    · exact cmul_small (n := 13421) (m := 1000) (by decide) (by omega) (by decide +kernel) (by decide +kernel)
    · exact cmul_small (n := 13421000) (m := 1000) (by omega) (by omega) (by decide +kernel) (by decide +kernel)
    · exact small (by omega)
    · intro p hp
      refine .here (q p _ hp ⟨_, _, _, rfl, ?_, ?_, ?_, by decide, by decide⟩)
      · refine Int.mul_nonneg a1 ?_
        repeat' split
        all_goals first | decide | omega
      · exact Int.emod_nonneg _ (by decide)
      · exact Int.lt_trans (Int.emod_lt_of_pos _ (by decide)) (by decide)
  simp only [t__law_pot]
  have fin := fun cell => key cell _ rfl
  show dIf _ _ _ _ S _
  by_cases h : (pl : Int) < ((ns.map D.int).length : Nat)
  · have hi : atI (ns.map D.int) (pl : Int) = some (.int (ns.getD pl 0)) := by
      have := ix_int (xs := ns) (i := (pl : Int)) (by omega) (by rw [List.length_map] at h; omega)
      rw [Int.toNat_natCast] at this; exact this
    simp only [dSeq, dNext, dRet, dRetN, dIfS, dAsg, dAsgG, dDrop, dPar2, dPar3, dAug, dAugS, dFor, dOp, dVar, dC, dTest, dChain, dAnd, dOr, dNot, dAndV, dOrV, dNotV, dIf, dTup, dLst, dNil, dCons, dStar, dCB, dCall, dSl, dNoPart, dPart, dBM, dRev, dNeg, dIsi, dListRg, dTupRg, dRg1, dRg2, dLc, dIt, dEnum, dZip2, dZip3, dRng1, dRng2, dYes, gN, gT, gsNil, gsCons, gSb, oI, oI0, oAdd, oMulA, oSub, oFdiv, oMod, oPow, oLt, oLe, oGt, oGe, oEq, oNe, oIsN, oNotN, oIsB, oNotB, oIx, oSl, oLen, oSum, oAll, oAny, oAbs, o1I, o2I, oMin2, oMax2, oMin, oMax, oMinL, oMaxL, oInt, oBool, oList, oTuple, oSorted, oIn, oAddI, oGet, oSet, oAppend, oExtend, oPop, oPopAt, oIndexL, oIndexT, oInsert, oRemove, dTupX, dBMX, dLenSet, D.isNon, newL, Sto.seq, Sto.list, Sto.lsts, Sto.itOf, Sto.trk, Sto.now, startD, wipeD, D.tyN, List.map_cons, List.map_nil, List.cons_append, List.nil_append, List.length_cons, List.length_nil, List.getElem?_cons_zero, List.getElem?_cons_succ, List.set_cons_zero, List.set_cons_succ, List.replicate, Nat.sub_self, Nat.reduceSub, Nat.reduceAdd, Nat.zero_add, kb_ii, kb_ib, kb_it, kb_is, kb_bi, kb_bb, kb_bt, kb_bs, kb_tt, kb_ti, kb_ts, kb_ss, kb_si, kb_st, kb_nt, kb_ni, kb_ns, kb_lt, kb_li, kb_ls, ex_some, decide_eq_true h, hi]
    have := fin (ns.getD pl 0)
    simp only [dSeq, dNext, dRet, dRetN, dIfS, dAsg, dAsgG, dDrop, dPar2, dPar3, dAug, dAugS, dFor, dOp, dVar, dC, dTest, dChain, dAnd, dOr, dNot, dAndV, dOrV, dNotV, dIf, dTup, dLst, dNil, dCons, dStar, dCB, dCall, dSl, dNoPart, dPart, dBM, dRev, dNeg, dIsi, dListRg, dTupRg, dRg1, dRg2, dLc, dIt, dEnum, dZip2, dZip3, dRng1, dRng2, dYes, gN, gT, gsNil, gsCons, gSb, oI, oI0, oAdd, oMulA, oSub, oFdiv, oMod, oPow, oLt, oLe, oGt, oGe, oEq, oNe, oIsN, oNotN, oIsB, oNotB, oIx, oSl, oLen, oSum, oAll, oAny, oAbs, o1I, o2I, oMin2, oMax2, oMin, oMax, oMinL, oMaxL, oInt, oBool, oList, oTuple, oSorted, oIn, oAddI, oGet, oSet, oAppend, oExtend, oPop, oPopAt, oIndexL, oIndexT, oInsert, oRemove, dTupX, dBMX, dLenSet, D.isNon, newL, Sto.seq, Sto.list, Sto.lsts, Sto.itOf, Sto.trk, Sto.now, startD, wipeD, D.tyN, List.map_cons, List.map_nil, List.cons_append, List.nil_append, List.length_cons, List.length_nil, List.getElem?_cons_zero, List.getElem?_cons_succ, List.set_cons_zero, List.set_cons_succ, List.replicate, Nat.sub_self, Nat.reduceSub, Nat.reduceAdd, Nat.zero_add, kb_ii, kb_ib, kb_it, kb_is, kb_bi, kb_bb, kb_bt, kb_bs, kb_tt, kb_ti, kb_ts, kb_ss, kb_si, kb_st, kb_nt, kb_ni, kb_ns, kb_lt, kb_li, kb_ls, ex_some] at this
    exact this
  · simp only [dSeq, dNext, dRet, dRetN, dIfS, dAsg, dAsgG, dDrop, dPar2, dPar3, dAug, dAugS, dFor, dOp, dVar, dC, dTest, dChain, dAnd, dOr, dNot, dAndV, dOrV, dNotV, dIf, dTup, dLst, dNil, dCons, dStar, dCB, dCall, dSl, dNoPart, dPart, dBM, dRev, dNeg, dIsi, dListRg, dTupRg, dRg1, dRg2, dLc, dIt, dEnum, dZip2, dZip3, dRng1, dRng2, dYes, gN, gT, gsNil, gsCons, gSb, oI, oI0, oAdd, oMulA, oSub, oFdiv, oMod, oPow, oLt, oLe, oGt, oGe, oEq, oNe, oIsN, oNotN, oIsB, oNotB, oIx, oSl, oLen, oSum, oAll, oAny, oAbs, o1I, o2I, oMin2, oMax2, oMin, oMax, oMinL, oMaxL, oInt, oBool, oList, oTuple, oSorted, oIn, oAddI, oGet, oSet, oAppend, oExtend, oPop, oPopAt, oIndexL, oIndexT, oInsert, oRemove, dTupX, dBMX, dLenSet, D.isNon, newL, Sto.seq, Sto.list, Sto.lsts, Sto.itOf, Sto.trk, Sto.now, startD, wipeD, D.tyN, List.map_cons, List.map_nil, List.cons_append, List.nil_append, List.length_cons, List.length_nil, List.getElem?_cons_zero, List.getElem?_cons_succ, List.set_cons_zero, List.set_cons_succ, List.replicate, Nat.sub_self, Nat.reduceSub, Nat.reduceAdd, Nat.zero_add, kb_ii, kb_ib, kb_it, kb_is, kb_bi, kb_bb, kb_bt, kb_bs, kb_tt, kb_ti, kb_ts, kb_ss, kb_si, kb_st, kb_nt, kb_ni, kb_ns, kb_lt, kb_li, kb_ls, ex_some, decide_eq_false h, cut_one]
    refine ⟨ns.take 1, rfl, by decide, cmul_small (n := 6637) (m := 1000) (by decide) (by omega) (by decide +kernel) (by decide +kernel), ?_⟩
    have := fin ((ns.take 1).sum % 1000333 + 6637 * (pl : Int) + 4423)
    simp only [dSeq, dNext, dRet, dRetN, dIfS, dAsg, dAsgG, dDrop, dPar2, dPar3, dAug, dAugS, dFor, dOp, dVar, dC, dTest, dChain, dAnd, dOr, dNot, dAndV, dOrV, dNotV, dIf, dTup, dLst, dNil, dCons, dStar, dCB, dCall, dSl, dNoPart, dPart, dBM, dRev, dNeg, dIsi, dListRg, dTupRg, dRg1, dRg2, dLc, dIt, dEnum, dZip2, dZip3, dRng1, dRng2, dYes, gN, gT, gsNil, gsCons, gSb, oI, oI0, oAdd, oMulA, oSub, oFdiv, oMod, oPow, oLt, oLe, oGt, oGe, oEq, oNe, oIsN, oNotN, oIsB, oNotB, oIx, oSl, oLen, oSum, oAll, oAny, oAbs, o1I, o2I, oMin2, oMax2, oMin, oMax, oMinL, oMaxL, oInt, oBool, oList, oTuple, oSorted, oIn, oAddI, oGet, oSet, oAppend, oExtend, oPop, oPopAt, oIndexL, oIndexT, oInsert, oRemove, dTupX, dBMX, dLenSet, D.isNon, newL, Sto.seq, Sto.list, Sto.lsts, Sto.itOf, Sto.trk, Sto.now, startD, wipeD, D.tyN, List.map_cons, List.map_nil, List.cons_append, List.nil_append, List.length_cons, List.length_nil, List.getElem?_cons_zero, List.getElem?_cons_succ, List.set_cons_zero, List.set_cons_succ, List.replicate, Nat.sub_self, Nat.reduceSub, Nat.reduceAdd, Nat.zero_add, kb_ii, kb_ib, kb_it, kb_is, kb_bi, kb_bb, kb_bt, kb_bs, kb_tt, kb_ti, kb_ts, kb_ss, kb_si, kb_st, kb_nt, kb_ni, kb_ns, kb_lt, kb_li, kb_ls, ex_some] at this
    exact this
def sp__law_take : DSp := fun ds S Q => ∃ (p : Addr) (n : Int) (b : Nat) (o : MO), ds = [.ref p, .int n] ∧ 0 < n ∧ n < 1000000 ∧ S p = some o ∧ PotO b o ∧ b ≤ 1000000 ∧ ∀ k o', 0 ≤ k → k < n → PotO (b + 1) o' → Q (.int k) (S.up p o')
theorem pure__law_take : ∀ ds S Q, sp__law_take ds S Q → t__law_take (DeN Q) (startD N__law_take ds) S := by
  rintro ds S Q ⟨p, n, b, o, rfl, hn, hn2, hS, ⟨own, small_, c, rfl, h1, h2, h3, h4, h5⟩, hb, q⟩
  have i0 : ∀ x y z : Int, atI [D.int x, D.int y, D.int z] 0 = some (.int x) := fun _ _ _ => rfl
  have i1 : ∀ x y z : Int, atI [D.int x, D.int y, D.int z] 1 = some (.int y) := fun _ _ _ => rfl
  have i2 : ∀ x y z : Int, atI [D.int x, D.int y, D.int z] 2 = some (.int z) := fun _ _ _ => rfl
  simp only [t__law_take, dSeq, dNext, dRet, dRetN, dIfS, dAsg, dAsgG, dDrop, dPar2, dPar3, dAug, dAugS, dFor, dOp, dVar, dC, dTest, dChain, dAnd, dOr, dNot, dAndV, dOrV, dNotV, dIf, dTup, dLst, dNil, dCons, dStar, dCB, dCall, dSl, dNoPart, dPart, dBM, dRev, dNeg, dIsi, dListRg, dTupRg, dRg1, dRg2, dLc, dIt, dEnum, dZip2, dZip3, dRng1, dRng2, dYes, gN, gT, gsNil, gsCons, gSb, oI, oI0, oAdd, oMulA, oSub, oFdiv, oMod, oPow, oLt, oLe, oGt, oGe, oEq, oNe, oIsN, oNotN, oIsB, oNotB, oIx, oSl, oLen, oSum, oAll, oAny, oAbs, o1I, o2I, oMin2, oMax2, oMin, oMax, oMinL, oMaxL, oInt, oBool, oList, oTuple, oSorted, oIn, oAddI, oGet, oSet, oAppend, oExtend, oPop, oPopAt, oIndexL, oIndexT, oInsert, oRemove, dTupX, dBMX, dLenSet, D.isNon, newL, Sto.seq, Sto.list, Sto.lsts, Sto.itOf, Sto.trk, Sto.now, startD, wipeD, D.tyN, List.map_cons, List.map_nil, List.cons_append, List.nil_append, List.length_cons, List.length_nil, List.getElem?_cons_zero, List.getElem?_cons_succ, List.set_cons_zero, List.set_cons_succ, List.replicate, Nat.sub_self, Nat.reduceSub, Nat.reduceAdd, Nat.zero_add, kb_ii, kb_ib, kb_it, kb_is, kb_bi, kb_bb, kb_bt, kb_bs, kb_tt, kb_ti, kb_ts, kb_ss, kb_si, kb_st, kb_nt, kb_ni, kb_ns, kb_lt, kb_li, kb_ls, ex_some, hS, i0]
  by_cases ho : 0 < own
  · simp only [decide_eq_true ho, hS, i0, dSeq, dNext, dRet, dRetN, dIfS, dAsg, dAsgG, dDrop, dPar2, dPar3, dAug, dAugS, dFor, dOp, dVar, dC, dTest, dChain, dAnd, dOr, dNot, dAndV, dOrV, dNotV, dIf, dTup, dLst, dNil, dCons, dStar, dCB, dCall, dSl, dNoPart, dPart, dBM, dRev, dNeg, dIsi, dListRg, dTupRg, dRg1, dRg2, dLc, dIt, dEnum, dZip2, dZip3, dRng1, dRng2, dYes, gN, gT, gsNil, gsCons, gSb, oI, oI0, oAdd, oMulA, oSub, oFdiv, oMod, oPow, oLt, oLe, oGt, oGe, oEq, oNe, oIsN, oNotN, oIsB, oNotB, oIx, oSl, oLen, oSum, oAll, oAny, oAbs, o1I, o2I, oMin2, oMax2, oMin, oMax, oMinL, oMaxL, oInt, oBool, oList, oTuple, oSorted, oIn, oAddI, oGet, oSet, oAppend, oExtend, oPop, oPopAt, oIndexL, oIndexT, oInsert, oRemove, dTupX, dBMX, dLenSet, D.isNon, newL, Sto.seq, Sto.list, Sto.lsts, Sto.itOf, Sto.trk, Sto.now, startD, wipeD, D.tyN, List.map_cons, List.map_nil, List.cons_append, List.nil_append, List.length_cons, List.length_nil, List.getElem?_cons_zero, List.getElem?_cons_succ, List.set_cons_zero, List.set_cons_succ, List.replicate, Nat.sub_self, Nat.reduceSub, Nat.reduceAdd, Nat.zero_add, kb_ii, kb_ib, kb_it, kb_is, kb_bi, kb_bb, kb_bt, kb_bs, kb_tt, kb_ti, kb_ts, kb_ss, kb_si, kb_st, kb_nt, kb_ni, kb_ns, kb_lt, kb_li, kb_ls, ex_some]
    refine ⟨hn, ⟨hn, by omega⟩, 0, rfl, ?_⟩
    simp only [dSeq, dNext, dRet, dRetN, dIfS, dAsg, dAsgG, dDrop, dPar2, dPar3, dAug, dAugS, dFor, dOp, dVar, dC, dTest, dChain, dAnd, dOr, dNot, dAndV, dOrV, dNotV, dIf, dTup, dLst, dNil, dCons, dStar, dCB, dCall, dSl, dNoPart, dPart, dBM, dRev, dNeg, dIsi, dListRg, dTupRg, dRg1, dRg2, dLc, dIt, dEnum, dZip2, dZip3, dRng1, dRng2, dYes, gN, gT, gsNil, gsCons, gSb, oI, oI0, oAdd, oMulA, oSub, oFdiv, oMod, oPow, oLt, oLe, oGt, oGe, oEq, oNe, oIsN, oNotN, oIsB, oNotB, oIx, oSl, oLen, oSum, oAll, oAny, oAbs, o1I, o2I, oMin2, oMax2, oMin, oMax, oMinL, oMaxL, oInt, oBool, oList, oTuple, oSorted, oIn, oAddI, oGet, oSet, oAppend, oExtend, oPop, oPopAt, oIndexL, oIndexT, oInsert, oRemove, dTupX, dBMX, dLenSet, D.isNon, newL, Sto.seq, Sto.list, Sto.lsts, Sto.itOf, Sto.trk, Sto.now, startD, wipeD, D.tyN, List.map_cons, List.map_nil, List.cons_append, List.nil_append, List.length_cons, List.length_nil, List.getElem?_cons_zero, List.getElem?_cons_succ, List.set_cons_zero, List.set_cons_succ, List.replicate, Nat.sub_self, Nat.reduceSub, Nat.reduceAdd, Nat.zero_add, kb_ii, kb_ib, kb_it, kb_is, kb_bi, kb_bb, kb_bt, kb_bs, kb_tt, kb_ti, kb_ts, kb_ss, kb_si, kb_st, kb_nt, kb_ni, kb_ns, kb_lt, kb_li, kb_ls, ex_some]
    refine .here (q _ _ (Int.emod_nonneg _ (by omega)) (Int.emod_lt_of_pos _ hn) ⟨_, _, _, rfl, Int.ediv_nonneg h1 (by omega), h2, h3, h4, by omega⟩)
  · simp only [decide_eq_false ho, i2, dSeq, dNext, dRet, dRetN, dIfS, dAsg, dAsgG, dDrop, dPar2, dPar3, dAug, dAugS, dFor, dOp, dVar, dC, dTest, dChain, dAnd, dOr, dNot, dAndV, dOrV, dNotV, dIf, dTup, dLst, dNil, dCons, dStar, dCB, dCall, dSl, dNoPart, dPart, dBM, dRev, dNeg, dIsi, dListRg, dTupRg, dRg1, dRg2, dLc, dIt, dEnum, dZip2, dZip3, dRng1, dRng2, dYes, gN, gT, gsNil, gsCons, gSb, oI, oI0, oAdd, oMulA, oSub, oFdiv, oMod, oPow, oLt, oLe, oGt, oGe, oEq, oNe, oIsN, oNotN, oIsB, oNotB, oIx, oSl, oLen, oSum, oAll, oAny, oAbs, o1I, o2I, oMin2, oMax2, oMin, oMax, oMinL, oMaxL, oInt, oBool, oList, oTuple, oSorted, oIn, oAddI, oGet, oSet, oAppend, oExtend, oPop, oPopAt, oIndexL, oIndexT, oInsert, oRemove, dTupX, dBMX, dLenSet, D.isNon, newL, Sto.seq, Sto.list, Sto.lsts, Sto.itOf, Sto.trk, Sto.now, startD, wipeD, D.tyN, List.map_cons, List.map_nil, List.cons_append, List.nil_append, List.length_cons, List.length_nil, List.getElem?_cons_zero, List.getElem?_cons_succ, List.set_cons_zero, List.set_cons_succ, List.replicate, Nat.sub_self, Nat.reduceSub, Nat.reduceAdd, Nat.zero_add, kb_ii, kb_ib, kb_it, kb_is, kb_bi, kb_bb, kb_bt, kb_bs, kb_tt, kb_ti, kb_ts, kb_ss, kb_si, kb_st, kb_nt, kb_ni, kb_ns, kb_lt, kb_li, kb_ls, ex_some]
    refine ⟨2, rfl, ?_⟩
    simp only [Sto.up_same, dSeq, dNext, dRet, dRetN, dIfS, dAsg, dAsgG, dDrop, dPar2, dPar3, dAug, dAugS, dFor, dOp, dVar, dC, dTest, dChain, dAnd, dOr, dNot, dAndV, dOrV, dNotV, dIf, dTup, dLst, dNil, dCons, dStar, dCB, dCall, dSl, dNoPart, dPart, dBM, dRev, dNeg, dIsi, dListRg, dTupRg, dRg1, dRg2, dLc, dIt, dEnum, dZip2, dZip3, dRng1, dRng2, dYes, gN, gT, gsNil, gsCons, gSb, oI, oI0, oAdd, oMulA, oSub, oFdiv, oMod, oPow, oLt, oLe, oGt, oGe, oEq, oNe, oIsN, oNotN, oIsB, oNotB, oIx, oSl, oLen, oSum, oAll, oAny, oAbs, o1I, o2I, oMin2, oMax2, oMin, oMax, oMinL, oMaxL, oInt, oBool, oList, oTuple, oSorted, oIn, oAddI, oGet, oSet, oAppend, oExtend, oPop, oPopAt, oIndexL, oIndexT, oInsert, oRemove, dTupX, dBMX, dLenSet, D.isNon, newL, Sto.seq, Sto.list, Sto.lsts, Sto.itOf, Sto.trk, Sto.now, startD, wipeD, D.tyN, List.map_cons, List.map_nil, List.cons_append, List.nil_append, List.length_cons, List.length_nil, List.getElem?_cons_zero, List.getElem?_cons_succ, List.set_cons_zero, List.set_cons_succ, List.replicate, Nat.sub_self, Nat.reduceSub, Nat.reduceAdd, Nat.zero_add, kb_ii, kb_ib, kb_it, kb_is, kb_bi, kb_bb, kb_bt, kb_bs, kb_tt, kb_ti, kb_ts, kb_ss, kb_si, kb_st, kb_nt, kb_ni, kb_ns, kb_lt, kb_li, kb_ls, ex_some, i2, i1]
    refine ⟨small (by omega), by decide, ?_⟩
    have hm0 := Int.emod_nonneg (c + 1) (show (5 : Int) ≠ 0 by decide)
    have hm1 := Int.emod_lt_of_pos (c + 1) (show (0 : Int) < 5 by decide)
    have hpr : ∃ P : Int, 0 < P ∧ P ≤ 2147483647 ∧ atI [D.int 2147483647, D.int 2147483629, D.int 2147483587, D.int 2147483579, D.int 2147483563] ((c + 1) % 5) = some (.int P) := by
      have : (c + 1) % 5 = 0 ∨ (c + 1) % 5 = 1 ∨ (c + 1) % 5 = 2 ∨ (c + 1) % 5 = 3 ∨ (c + 1) % 5 = 4 := by omega
      rcases this with e | e | e | e | e <;> rw [e]
      · exact ⟨2147483647, by decide, by decide, rfl⟩
      · exact ⟨2147483629, by decide, by decide, rfl⟩
      · exact ⟨2147483587, by decide, by decide, rfl⟩
      · exact ⟨2147483579, by decide, by decide, rfl⟩
      · exact ⟨2147483563, by decide, by decide, rfl⟩
    obtain ⟨P, hP0, hP1, hP⟩ := hpr
    have cc : ((107791 * (c + 1)) * (c + 1)).natAbs ≤ 107791 * 1000001 * 1000001 := by
      rw [Int.natAbs_mul, Int.natAbs_mul]
      exact Nat.mul_le_mul (Nat.mul_le_mul (by decide) (by omega)) (by omega)
    simp only [hP, Sto.up_same, i2, i1, dSeq, dNext, dRet, dRetN, dIfS, dAsg, dAsgG, dDrop, dPar2, dPar3, dAug, dAugS, dFor, dOp, dVar, dC, dTest, dChain, dAnd, dOr, dNot, dAndV, dOrV, dNotV, dIf, dTup, dLst, dNil, dCons, dStar, dCB, dCall, dSl, dNoPart, dPart, dBM, dRev, dNeg, dIsi, dListRg, dTupRg, dRg1, dRg2, dLc, dIt, dEnum, dZip2, dZip3, dRng1, dRng2, dYes, gN, gT, gsNil, gsCons, gSb, oI, oI0, oAdd, oMulA, oSub, oFdiv, oMod, oPow, oLt, oLe, oGt, oGe, oEq, oNe, oIsN, oNotN, oIsB, oNotB, oIx, oSl, oLen, oSum, oAll, oAny, oAbs, o1I, o2I, oMin2, oMax2, oMin, oMax, oMinL, oMaxL, oInt, oBool, oList, oTuple, oSorted, oIn, oAddI, oGet, oSet, oAppend, oExtend, oPop, oPopAt, oIndexL, oIndexT, oInsert, oRemove, dTupX, dBMX, dLenSet, D.isNon, newL, Sto.seq, Sto.list, Sto.lsts, Sto.itOf, Sto.trk, Sto.now, startD, wipeD, D.tyN, List.map_cons, List.map_nil, List.cons_append, List.nil_append, List.length_cons, List.length_nil, List.getElem?_cons_zero, List.getElem?_cons_succ, List.set_cons_zero, List.set_cons_succ, List.replicate, Nat.sub_self, Nat.reduceSub, Nat.reduceAdd, Nat.zero_add, kb_ii, kb_ib, kb_it, kb_is, kb_bi, kb_bb, kb_bt, kb_bs, kb_tt, kb_ti, kb_ts, kb_ss, kb_si, kb_st, kb_nt, kb_ni, kb_ns, kb_lt, kb_li, kb_ls, ex_some]
    generalize hX : ((small_ + 107791 * (c + 1) * (c + 1) + 4423 : Int)) ^ Int.toNat 3 = X
    have m0 := Int.emod_nonneg X (Int.ne_of_gt hP0)
    have m1 := Int.emod_lt_of_pos X hP0
    have k0 := Int.emod_nonneg (X % P) (show (13109 : Int) ≠ 0 by decide)
    have k1 := Int.emod_lt_of_pos (X % P) (show (0 : Int) < 13109 by decide)
    refine ⟨cmul_small (n := 107791) (m := 1000001) (by decide) (by omega) (by decide +kernel) (by decide +kernel), cmul_small (n := 107791 * 1000001) (m := 1000001) (by omega) (by omega) (by decide +kernel) (by decide +kernel),
      ⟨by decide, by decide, Nat.lt_of_le_of_lt (show _ ≤ 2 ^ 70 by omega) (by decide +kernel)⟩, hP0, by decide,
      cmul_small (n := 449) (m := 1000001) (by decide) (by omega) (by decide +kernel) (by decide +kernel), cmul_small (n := 2147483647) (m := 2 ^ 40) (by omega) (by omega) (by decide +kernel) (by decide +kernel), by decide, ⟨by decide, by decide⟩, hn, ?_⟩
    refine .here (q _ _ (Int.emod_nonneg _ (by omega)) (Int.emod_lt_of_pos _ hn) ⟨own, small_, c + 1, rfl, h1, h2, h3, by omega, by omega⟩)
def sp__law_cells : DSp := fun ds S Q => ∃ (ns : List Int), ds = [.fz (ns.map .int), .int 3] ∧ ns.length ≤ 1000 ∧ ∀ n : Nat, n ≤ 3 → Q (.lst ((List.range n).map fun (i : Nat) => .int ((0 : Int) + (i : Nat)))) S
theorem pure__law_cells : ∀ ds S Q, sp__law_cells ds S Q → t__law_cells (DeN Q) (startD N__law_cells ds) S := by
  rintro ds S Q ⟨ns, rfl, hl, q⟩
  simp only [t__law_cells, dSeq, dNext, dRet, dRetN, dIfS, dAsg, dAsgG, dDrop, dPar2, dPar3, dAug, dAugS, dFor, dOp, dVar, dC, dTest, dChain, dAnd, dOr, dNot, dAndV, dOrV, dNotV, dIf, dTup, dLst, dNil, dCons, dStar, dCB, dCall, dSl, dNoPart, dPart, dBM, dRev, dNeg, dIsi, dListRg, dTupRg, dRg1, dRg2, dLc, dIt, dEnum, dZip2, dZip3, dRng1, dRng2, dYes, gN, gT, gsNil, gsCons, gSb, oI, oI0, oAdd, oMulA, oSub, oFdiv, oMod, oPow, oLt, oLe, oGt, oGe, oEq, oNe, oIsN, oNotN, oIsB, oNotB, oIx, oSl, oLen, oSum, oAll, oAny, oAbs, o1I, o2I, oMin2, oMax2, oMin, oMax, oMinL, oMaxL, oInt, oBool, oList, oTuple, oSorted, oIn, oAddI, oGet, oSet, oAppend, oExtend, oPop, oPopAt, oIndexL, oIndexT, oInsert, oRemove, dTupX, dBMX, dLenSet, D.isNon, newL, Sto.seq, Sto.list, Sto.lsts, Sto.itOf, Sto.trk, Sto.now, startD, wipeD, D.tyN, List.map_cons, List.map_nil, List.cons_append, List.nil_append, List.length_cons, List.length_nil, List.getElem?_cons_zero, List.getElem?_cons_succ, List.set_cons_zero, List.set_cons_succ, List.replicate, Nat.sub_self, Nat.reduceSub, Nat.reduceAdd, Nat.zero_add, kb_ii, kb_ib, kb_it, kb_is, kb_bi, kb_bb, kb_bt, kb_bs, kb_tt, kb_ti, kb_ts, kb_ss, kb_si, kb_st, kb_nt, kb_ni, kb_ns, kb_lt, kb_li, kb_ls, ex_some]
  have key : ∀ k : Int, 0 ≤ k → k ≤ 3 → RgOk 0 k ∧ FzQ Q (.lst (rgD 0 k)) S := fun k h0 h1 => by
    refine ⟨.of_le (by decide) (by omega) (by decide) h0, .here ?_⟩
    unfold rgD
    rw [show (k - 0).toNat = k.toNat by omega]
    exact q k.toNat (by omega)
  by_cases h1 : (((ns.map D.int).length : Nat) : Int) < 3
  · simp only [if_pos h1]
    by_cases h2 : (((ns.map D.int).length : Nat) : Int) > 1
    · simp only [if_pos h2]; exact key _ (by omega) (by omega)
    · simp only [if_neg h2]; exact key 1 (by decide) (by decide)
  · simp only [if_neg h1]
    have : (3 : Int) > 1 := by decide
    simp only [if_pos this]; exact key 3 (by decide) (by decide)
end L73
namespace L73
open PySem PySem.Spec PySem.W PyProof.Rows L2 PL
/-! ### lots of jobs: pairs of ticks -/
abbrev Jb := Int × Int
def eJs (J : List Jb) : D := .tup (J.map eP)
structure GJ (J : List Jb) : Prop where
  n1 : 1 ≤ J.length
  n60 : J.length ≤ 60
  a : ∀ j ∈ J, 0 ≤ j.1 ∧ j.1 ≤ 10000
  b : ∀ j ∈ J, 0 ≤ j.2 ∧ j.2 ≤ 10000
def gj (J : List Jb) (i : Nat) : Jb := J.getD i (0, 0)
def cA_ (J : List Jb) (i : Nat) : Int := (gj J i).1
def cB_ (J : List Jb) (i : Nat) : Int := (gj J i).2
theorem gj_mem {J : List Jb} {i : Nat} (h : i < J.length) : gj J i ∈ J := by
  unfold gj; rw [List.getD_eq_getElem?_getD, List.getElem?_eq_getElem h]; exact List.getElem_mem h
theorem ix_job {J : List Jb} {i : Nat} (h : i < J.length) : atI (J.map eP) ((i : Nat) : Int) = some (.tup [.int (cA_ J i), .int (cB_ J i)]) := by
  rw [atI_map, atI_nn (0, 0) (by omega) (by omega), Int.toNat_natCast]; rfl
theorem GJ.A {J : List Jb} (g : GJ J) (i : Nat) : 0 ≤ cA_ J i ∧ cA_ J i ≤ 10000 := by
  by_cases h : i < J.length
  · exact g.a _ (gj_mem h)
  · unfold cA_ gj; rw [List.getD_eq_getElem?_getD, List.getElem?_eq_none (by omega)]; decide
theorem GJ.B {J : List Jb} (g : GJ J) (i : Nat) : 0 ≤ cB_ J i ∧ cB_ J i ≤ 10000 := by
  by_cases h : i < J.length
  · exact g.b _ (gj_mem h)
  · unfold cB_ gj; rw [List.getD_eq_getElem?_getD, List.getElem?_eq_none (by omega)]; decide
def sp_is_told : DSp := fun ds S Q => ∃ (x : Str) (xs : List D), ds = [.tup (.str x :: xs), .tup [.int 1, .int 3]] ∧ (xs.length = 0 ∨ xs.length = 2) ∧ Q (.bl true) S
theorem pure_is_told : ∀ ds S Q, sp_is_told ds S Q → t_is_told (DeN Q) (startD N_is_told ds) S := by
  rintro ds S Q ⟨x, xs, rfl, hn, q⟩
  simp only [t_is_told, dSeq, dNext, dRet, dRetN, dIfS, dAsg, dAsgG, dDrop, dPar2, dPar3, dAug, dAugS, dFor, dOp, dVar, dC, dTest, dChain, dAnd, dOr, dNot, dAndV, dOrV, dNotV, dIf, dTup, dLst, dNil, dCons, dStar, dCB, dCall, dSl, dNoPart, dPart, dBM, dRev, dNeg, dIsi, dListRg, dTupRg, dRg1, dRg2, dLc, dIt, dEnum, dZip2, dZip3, dRng1, dRng2, dYes, gN, gT, gsNil, gsCons, gSb, oI, oI0, oAdd, oMulA, oSub, oFdiv, oMod, oPow, oLt, oLe, oGt, oGe, oEq, oNe, oIsN, oNotN, oIsB, oNotB, oIx, oSl, oLen, oSum, oAll, oAny, oAbs, o1I, o2I, oMin2, oMax2, oMin, oMax, oMinL, oMaxL, oInt, oBool, oList, oTuple, oSorted, oIn, oAddI, oGet, oSet, oAppend, oExtend, oPop, oPopAt, oIndexL, oIndexT, oInsert, oRemove, dTupX, dBMX, dLenSet, newL, startD, wipeD, D.tyN, List.map_cons, List.map_nil, List.cons_append, List.nil_append, List.length_cons, List.length_nil, List.getElem?_cons_zero, List.getElem?_cons_succ, List.set_cons_zero, List.set_cons_succ, List.replicate, Nat.sub_self, Nat.reduceSub, Nat.reduceAdd, Nat.zero_add, kb_ii, kb_ib, kb_it, kb_is, kb_bi, kb_bb, kb_bt, kb_bs, kb_tt, kb_ti, kb_ts, kb_ss, kb_si, kb_st, kb_nt, kb_ni, kb_ns, kb_lt, kb_li, kb_ls, ex_some, seq_tup, seq_tpx, itOf_tpx, seq_lst, seq_fz, list_lst, lsts_lst, lsts_fz, itOf_tup, itOf_lst, itOf_fz, now_int, now_bl, now_non, now_str, now_tup, now_lst, isNon_non, isNon_int, isNon_tup, isNon_ref, isNon_lst, isNon_str, isNon_bl]
  refine ⟨⟨okn_int, by rw [List.all_cons, List.all_cons, okn_int, okn_int]; rfl⟩, ?_⟩
  have h0 : atI (D.str x :: xs) 0 = some (.str x) := atI_head rfl
  have e : ([D.int 1, D.int 3].any fun z => eqD z (.int ((xs.length + 1 : Nat) : Int))) = true := by
    rw [List.any_cons, List.any_cons, eqD_int, eqD_int]
    rcases hn with h | h <;> rw [h] <;> rfl
  simp only [e, h0, dSeq, dNext, dRet, dRetN, dIfS, dAsg, dAsgG, dDrop, dPar2, dPar3, dAug, dAugS, dFor, dOp, dVar, dC, dTest, dChain, dAnd, dOr, dNot, dAndV, dOrV, dNotV, dIf, dTup, dLst, dNil, dCons, dStar, dCB, dCall, dSl, dNoPart, dPart, dBM, dRev, dNeg, dIsi, dListRg, dTupRg, dRg1, dRg2, dLc, dIt, dEnum, dZip2, dZip3, dRng1, dRng2, dYes, gN, gT, gsNil, gsCons, gSb, oI, oI0, oAdd, oMulA, oSub, oFdiv, oMod, oPow, oLt, oLe, oGt, oGe, oEq, oNe, oIsN, oNotN, oIsB, oNotB, oIx, oSl, oLen, oSum, oAll, oAny, oAbs, o1I, o2I, oMin2, oMax2, oMin, oMax, oMinL, oMaxL, oInt, oBool, oList, oTuple, oSorted, oIn, oAddI, oGet, oSet, oAppend, oExtend, oPop, oPopAt, oIndexL, oIndexT, oInsert, oRemove, dTupX, dBMX, dLenSet, newL, startD, wipeD, D.tyN, List.map_cons, List.map_nil, List.cons_append, List.nil_append, List.length_cons, List.length_nil, List.getElem?_cons_zero, List.getElem?_cons_succ, List.set_cons_zero, List.set_cons_succ, List.replicate, Nat.sub_self, Nat.reduceSub, Nat.reduceAdd, Nat.zero_add, kb_ii, kb_ib, kb_it, kb_is, kb_bi, kb_bb, kb_bt, kb_bs, kb_tt, kb_ti, kb_ts, kb_ss, kb_si, kb_st, kb_nt, kb_ni, kb_ns, kb_lt, kb_li, kb_ls, ex_some, seq_tup, seq_tpx, itOf_tpx, seq_lst, seq_fz, list_lst, lsts_lst, lsts_fz, itOf_tup, itOf_lst, itOf_fz, now_int, now_bl, now_non, now_str, now_tup, now_lst, isNon_non, isNon_int, isNon_tup, isNon_ref, isNon_lst, isNon_str, isNon_bl, if_neg Bool.false_ne_true]
  exact .here q
def sp_is_order : DSp := fun ds S Q => ∃ (o : List Nat) (n : Nat), ds = [.tup (o.map nI), .int (n : Nat)] ∧ Perm_ n o ∧ n ≤ 1000 ∧ Q (.bl true) S
theorem pure_is_order : ∀ ds S Q, sp_is_order ds S Q → t_is_order sp_are_ints (DeN Q) (startD N_is_order ds) S := by
  rintro ds S Q ⟨o, n, rfl, h, hn, q⟩
  simp only [t_is_order, dSeq, dNext, dRet, dRetN, dIfS, dAsg, dAsgG, dDrop, dPar2, dPar3, dAug, dAugS, dFor, dOp, dVar, dC, dTest, dChain, dAnd, dOr, dNot, dAndV, dOrV, dNotV, dIf, dTup, dLst, dNil, dCons, dStar, dCB, dCall, dSl, dNoPart, dPart, dBM, dRev, dNeg, dIsi, dListRg, dTupRg, dRg1, dRg2, dLc, dIt, dEnum, dZip2, dZip3, dRng1, dRng2, dYes, gN, gT, gsNil, gsCons, gSb, oI, oI0, oAdd, oMulA, oSub, oFdiv, oMod, oPow, oLt, oLe, oGt, oGe, oEq, oNe, oIsN, oNotN, oIsB, oNotB, oIx, oSl, oLen, oSum, oAll, oAny, oAbs, o1I, o2I, oMin2, oMax2, oMin, oMax, oMinL, oMaxL, oInt, oBool, oList, oTuple, oSorted, oIn, oAddI, oGet, oSet, oAppend, oExtend, oPop, oPopAt, oIndexL, oIndexT, oInsert, oRemove, dTupX, dBMX, dLenSet, newL, startD, wipeD, D.tyN, List.map_cons, List.map_nil, List.cons_append, List.nil_append, List.length_cons, List.length_nil, List.getElem?_cons_zero, List.getElem?_cons_succ, List.set_cons_zero, List.set_cons_succ, List.replicate, Nat.sub_self, Nat.reduceSub, Nat.reduceAdd, Nat.zero_add, kb_ii, kb_ib, kb_it, kb_is, kb_bi, kb_bb, kb_bt, kb_bs, kb_tt, kb_ti, kb_ts, kb_ss, kb_si, kb_st, kb_nt, kb_ni, kb_ns, kb_lt, kb_li, kb_ls, ex_some, seq_tup, seq_tpx, itOf_tpx, seq_lst, seq_fz, list_lst, lsts_lst, lsts_fz, itOf_tup, itOf_lst, itOf_fz, now_int, now_bl, now_non, now_str, now_tup, now_lst, isNon_non, isNon_int, isNon_tup, isNon_ref, isNon_lst, isNon_str, isNon_bl, nI_map]
  refine ⟨_, 0, (n : Int) - 1, rfl, small (by rw [List.length_map, h.len]; omega), ?_⟩
  have : inB 0 ((n : Int) - 1) (o.map fun (i : Nat) => (i : Int)) = true := List.all_eq_true.mpr fun x hx => by
    obtain ⟨i, hi, rfl⟩ := List.mem_map.mp hx
    have := h.lt hi
    have h1 : (0 : Int) ≤ (i : Int) := by omega
    have h2 : (i : Int) ≤ (n : Int) - 1 := by omega
    simp [h1, h2]
  rw [this]
  simp only [dSeq, dNext, dRet, dRetN, dIfS, dAsg, dAsgG, dDrop, dPar2, dPar3, dAug, dAugS, dFor, dOp, dVar, dC, dTest, dChain, dAnd, dOr, dNot, dAndV, dOrV, dNotV, dIf, dTup, dLst, dNil, dCons, dStar, dCB, dCall, dSl, dNoPart, dPart, dBM, dRev, dNeg, dIsi, dListRg, dTupRg, dRg1, dRg2, dLc, dIt, dEnum, dZip2, dZip3, dRng1, dRng2, dYes, gN, gT, gsNil, gsCons, gSb, oI, oI0, oAdd, oMulA, oSub, oFdiv, oMod, oPow, oLt, oLe, oGt, oGe, oEq, oNe, oIsN, oNotN, oIsB, oNotB, oIx, oSl, oLen, oSum, oAll, oAny, oAbs, o1I, o2I, oMin2, oMax2, oMin, oMax, oMinL, oMaxL, oInt, oBool, oList, oTuple, oSorted, oIn, oAddI, oGet, oSet, oAppend, oExtend, oPop, oPopAt, oIndexL, oIndexT, oInsert, oRemove, dTupX, dBMX, dLenSet, newL, startD, wipeD, D.tyN, List.map_cons, List.map_nil, List.cons_append, List.nil_append, List.length_cons, List.length_nil, List.getElem?_cons_zero, List.getElem?_cons_succ, List.set_cons_zero, List.set_cons_succ, List.replicate, Nat.sub_self, Nat.reduceSub, Nat.reduceAdd, Nat.zero_add, kb_ii, kb_ib, kb_it, kb_is, kb_bi, kb_bb, kb_bt, kb_bs, kb_tt, kb_ti, kb_ts, kb_ss, kb_si, kb_st, kb_nt, kb_ni, kb_ns, kb_lt, kb_li, kb_ls, ex_some, seq_tup, seq_tpx, itOf_tpx, seq_lst, seq_fz, list_lst, lsts_lst, lsts_fz, itOf_tup, itOf_lst, itOf_fz, now_int, now_bl, now_non, now_str, now_tup, now_lst, isNon_non, isNon_int, isNon_tup, isNon_ref, isNon_lst, isNon_str, isNon_bl]
  refine ⟨⟨okn_int, okn_int⟩, ?_⟩
  rw [eqD_int, List.length_map, List.length_map, h.len, decide_eq_true rfl]
  simp only []
  refine ⟨_, rfl, cast_nd h.nd, by rw [List.length_map, h.len]; omega, ⟨okn_int, okn_int⟩, ?_⟩
  rw [eqD_int, List.length_map, h.len, decide_eq_true rfl]
  exact .here q
def sp_look_at_jobs : DSp := fun ds S Q => ∃ J : List Jb, ds = [eJs J] ∧ GJ J ∧ Q .non S
theorem pure_look_at_jobs : ∀ ds S Q, sp_look_at_jobs ds S Q → t_look_at_jobs sp_are_ints (DeN Q) (startD N_look_at_jobs ds) S := by
  rintro ds S Q ⟨J, rfl, g, q⟩
  have h1 := g.n1
  have h60 := g.n60
  unfold t_look_at_jobs
  refine seqG fun v hv => ?_
  simp only [dSeq, dNext, dRet, dRetN, dIfS, dAsg, dAsgG, dDrop, dPar2, dPar3, dAug, dAugS, dFor, dOp, dVar, dC, dTest, dChain, dAnd, dOr, dNot, dAndV, dOrV, dNotV, dIf, dTup, dLst, dNil, dCons, dStar, dCB, dCall, dSl, dNoPart, dPart, dBM, dRev, dNeg, dIsi, dListRg, dTupRg, dRg1, dRg2, dLc, dIt, dEnum, dZip2, dZip3, dRng1, dRng2, dYes, gN, gT, gsNil, gsCons, gSb, oI, oI0, oAdd, oMulA, oSub, oFdiv, oMod, oPow, oLt, oLe, oGt, oGe, oEq, oNe, oIsN, oNotN, oIsB, oNotB, oIx, oSl, oLen, oSum, oAll, oAny, oAbs, o1I, o2I, oMin2, oMax2, oMin, oMax, oMinL, oMaxL, oInt, oBool, oList, oTuple, oSorted, oIn, oAddI, oGet, oSet, oAppend, oExtend, oPop, oPopAt, oIndexL, oIndexT, oInsert, oRemove, dTupX, dBMX, dLenSet, newL, startD, wipeD, D.tyN, List.map_cons, List.map_nil, List.cons_append, List.nil_append, List.length_cons, List.length_nil, List.getElem?_cons_zero, List.getElem?_cons_succ, List.set_cons_zero, List.set_cons_succ, List.replicate, Nat.sub_self, Nat.reduceSub, Nat.reduceAdd, Nat.zero_add, kb_ii, kb_ib, kb_it, kb_is, kb_bi, kb_bb, kb_bt, kb_bs, kb_tt, kb_ti, kb_ts, kb_ss, kb_si, kb_st, kb_nt, kb_ni, kb_ns, kb_lt, kb_li, kb_ls, ex_some, seq_tup, seq_tpx, itOf_tpx, seq_lst, seq_fz, list_lst, lsts_lst, lsts_fz, itOf_tup, itOf_lst, itOf_fz, now_int, now_bl, now_non, now_str, now_tup, now_lst, isNon_non, isNon_int, isNon_tup, isNon_ref, isNon_lst, isNon_str, isNon_bl, eJs]
  rw [List.length_map, decide_eq_true (by omega)]
  simp only [dSeq, dNext, dRet, dRetN, dIfS, dAsg, dAsgG, dDrop, dPar2, dPar3, dAug, dAugS, dFor, dOp, dVar, dC, dTest, dChain, dAnd, dOr, dNot, dAndV, dOrV, dNotV, dIf, dTup, dLst, dNil, dCons, dStar, dCB, dCall, dSl, dNoPart, dPart, dBM, dRev, dNeg, dIsi, dListRg, dTupRg, dRg1, dRg2, dLc, dIt, dEnum, dZip2, dZip3, dRng1, dRng2, dYes, gN, gT, gsNil, gsCons, gSb, oI, oI0, oAdd, oMulA, oSub, oFdiv, oMod, oPow, oLt, oLe, oGt, oGe, oEq, oNe, oIsN, oNotN, oIsB, oNotB, oIx, oSl, oLen, oSum, oAll, oAny, oAbs, o1I, o2I, oMin2, oMax2, oMin, oMax, oMinL, oMaxL, oInt, oBool, oList, oTuple, oSorted, oIn, oAddI, oGet, oSet, oAppend, oExtend, oPop, oPopAt, oIndexL, oIndexT, oInsert, oRemove, dTupX, dBMX, dLenSet, newL, startD, wipeD, D.tyN, List.map_cons, List.map_nil, List.cons_append, List.nil_append, List.length_cons, List.length_nil, List.getElem?_cons_zero, List.getElem?_cons_succ, List.set_cons_zero, List.set_cons_succ, List.replicate, Nat.sub_self, Nat.reduceSub, Nat.reduceAdd, Nat.zero_add, kb_ii, kb_ib, kb_it, kb_is, kb_bi, kb_bb, kb_bt, kb_bs, kb_tt, kb_ti, kb_ts, kb_ss, kb_si, kb_st, kb_nt, kb_ni, kb_ns, kb_lt, kb_li, kb_ls, ex_some, seq_tup, seq_tpx, itOf_tpx, seq_lst, seq_fz, list_lst, lsts_lst, lsts_fz, itOf_tup, itOf_lst, itOf_fz, now_int, now_bl, now_non, now_str, now_tup, now_lst, isNon_non, isNon_int, isNon_tup, isNon_ref, isNon_lst, isNon_str, isNon_bl]
  rw [decide_eq_true (by omega)]
  simp only [Bool.not_true]
  subst hv
  simp only [dSeq, dNext, dRet, dRetN, dIfS, dAsg, dAsgG, dDrop, dPar2, dPar3, dAug, dAugS, dFor, dOp, dVar, dC, dTest, dChain, dAnd, dOr, dNot, dAndV, dOrV, dNotV, dIf, dTup, dLst, dNil, dCons, dStar, dCB, dCall, dSl, dNoPart, dPart, dBM, dRev, dNeg, dIsi, dListRg, dTupRg, dRg1, dRg2, dLc, dIt, dEnum, dZip2, dZip3, dRng1, dRng2, dYes, gN, gT, gsNil, gsCons, gSb, oI, oI0, oAdd, oMulA, oSub, oFdiv, oMod, oPow, oLt, oLe, oGt, oGe, oEq, oNe, oIsN, oNotN, oIsB, oNotB, oIx, oSl, oLen, oSum, oAll, oAny, oAbs, o1I, o2I, oMin2, oMax2, oMin, oMax, oMinL, oMaxL, oInt, oBool, oList, oTuple, oSorted, oIn, oAddI, oGet, oSet, oAppend, oExtend, oPop, oPopAt, oIndexL, oIndexT, oInsert, oRemove, dTupX, dBMX, dLenSet, newL, startD, wipeD, D.tyN, List.map_cons, List.map_nil, List.cons_append, List.nil_append, List.length_cons, List.length_nil, List.getElem?_cons_zero, List.getElem?_cons_succ, List.set_cons_zero, List.set_cons_succ, List.replicate, Nat.sub_self, Nat.reduceSub, Nat.reduceAdd, Nat.zero_add, kb_ii, kb_ib, kb_it, kb_is, kb_bi, kb_bb, kb_bt, kb_bs, kb_tt, kb_ti, kb_ts, kb_ss, kb_si, kb_st, kb_nt, kb_ni, kb_ns, kb_lt, kb_li, kb_ls, ex_some, seq_tup, seq_tpx, itOf_tpx, seq_lst, seq_fz, list_lst, lsts_lst, lsts_fz, itOf_tup, itOf_lst, itOf_fz, now_int, now_bl, now_non, now_str, now_tup, now_lst, isNon_non, isNon_int, isNon_tup, isNon_ref, isNon_lst, isNon_str, isNon_bl]
  refine lc_mapE J eP (fun _ => .bl true) (fun _ _ => trivial) (small (by omega)) (fun j hj S' e N M h => ?_) ?_
  · simp only [dSeq, dNext, dRet, dRetN, dIfS, dAsg, dAsgG, dDrop, dPar2, dPar3, dAug, dAugS, dFor, dOp, dVar, dC, dTest, dChain, dAnd, dOr, dNot, dAndV, dOrV, dNotV, dIf, dTup, dLst, dNil, dCons, dStar, dCB, dCall, dSl, dNoPart, dPart, dBM, dRev, dNeg, dIsi, dListRg, dTupRg, dRg1, dRg2, dLc, dIt, dEnum, dZip2, dZip3, dRng1, dRng2, dYes, gN, gT, gsNil, gsCons, gSb, oI, oI0, oAdd, oMulA, oSub, oFdiv, oMod, oPow, oLt, oLe, oGt, oGe, oEq, oNe, oIsN, oNotN, oIsB, oNotB, oIx, oSl, oLen, oSum, oAll, oAny, oAbs, o1I, o2I, oMin2, oMax2, oMin, oMax, oMinL, oMaxL, oInt, oBool, oList, oTuple, oSorted, oIn, oAddI, oGet, oSet, oAppend, oExtend, oPop, oPopAt, oIndexL, oIndexT, oInsert, oRemove, dTupX, dBMX, dLenSet, newL, startD, wipeD, D.tyN, List.map_cons, List.map_nil, List.cons_append, List.nil_append, List.length_cons, List.length_nil, List.getElem?_cons_zero, List.getElem?_cons_succ, List.set_cons_zero, List.set_cons_succ, List.replicate, Nat.sub_self, Nat.reduceSub, Nat.reduceAdd, Nat.zero_add, kb_ii, kb_ib, kb_it, kb_is, kb_bi, kb_bb, kb_bt, kb_bs, kb_tt, kb_ti, kb_ts, kb_ss, kb_si, kb_st, kb_nt, kb_ni, kb_ns, kb_lt, kb_li, kb_ls, ex_some, seq_tup, seq_tpx, itOf_tpx, seq_lst, seq_fz, list_lst, lsts_lst, lsts_fz, itOf_tup, itOf_lst, itOf_fz, now_int, now_bl, now_non, now_str, now_tup, now_lst, isNon_non, isNon_int, isNon_tup, isNon_ref, isNon_lst, isNon_str, isNon_bl, eP]
    refine ⟨[j.1, j.2], 0, 10000, rfl, small (by simp), ?_⟩
    have ha := g.a j hj
    have hb := g.b j hj
    have : inB 0 10000 [j.1, j.2] = true := by
      unfold inB
      simp only [List.all_cons, List.all_nil, Bool.and_true, Bool.and_eq_true, decide_eq_true_eq]
      omega
    rw [this]
    simp only [dSeq, dNext, dRet, dRetN, dIfS, dAsg, dAsgG, dDrop, dPar2, dPar3, dAug, dAugS, dFor, dOp, dVar, dC, dTest, dChain, dAnd, dOr, dNot, dAndV, dOrV, dNotV, dIf, dTup, dLst, dNil, dCons, dStar, dCB, dCall, dSl, dNoPart, dPart, dBM, dRev, dNeg, dIsi, dListRg, dTupRg, dRg1, dRg2, dLc, dIt, dEnum, dZip2, dZip3, dRng1, dRng2, dYes, gN, gT, gsNil, gsCons, gSb, oI, oI0, oAdd, oMulA, oSub, oFdiv, oMod, oPow, oLt, oLe, oGt, oGe, oEq, oNe, oIsN, oNotN, oIsB, oNotB, oIx, oSl, oLen, oSum, oAll, oAny, oAbs, o1I, o2I, oMin2, oMax2, oMin, oMax, oMinL, oMaxL, oInt, oBool, oList, oTuple, oSorted, oIn, oAddI, oGet, oSet, oAppend, oExtend, oPop, oPopAt, oIndexL, oIndexT, oInsert, oRemove, dTupX, dBMX, dLenSet, newL, startD, wipeD, D.tyN, List.map_cons, List.map_nil, List.cons_append, List.nil_append, List.length_cons, List.length_nil, List.getElem?_cons_zero, List.getElem?_cons_succ, List.set_cons_zero, List.set_cons_succ, List.replicate, Nat.sub_self, Nat.reduceSub, Nat.reduceAdd, Nat.zero_add, kb_ii, kb_ib, kb_it, kb_is, kb_bi, kb_bb, kb_bt, kb_bs, kb_tt, kb_ti, kb_ts, kb_ss, kb_si, kb_st, kb_nt, kb_ni, kb_ns, kb_lt, kb_li, kb_ls, ex_some, seq_tup, seq_tpx, itOf_tpx, seq_lst, seq_fz, list_lst, lsts_lst, lsts_fz, itOf_tup, itOf_lst, itOf_fz, now_int, now_bl, now_non, now_str, now_tup, now_lst, isNon_non, isNon_int, isNon_tup, isNon_ref, isNon_lst, isNon_str, isNon_bl]
    refine ⟨⟨okn_int, okn_int⟩, ?_⟩
    rw [eqD_int]
    exact h
  simp only [dSeq, dNext, dRet, dRetN, dIfS, dAsg, dAsgG, dDrop, dPar2, dPar3, dAug, dAugS, dFor, dOp, dVar, dC, dTest, dChain, dAnd, dOr, dNot, dAndV, dOrV, dNotV, dIf, dTup, dLst, dNil, dCons, dStar, dCB, dCall, dSl, dNoPart, dPart, dBM, dRev, dNeg, dIsi, dListRg, dTupRg, dRg1, dRg2, dLc, dIt, dEnum, dZip2, dZip3, dRng1, dRng2, dYes, gN, gT, gsNil, gsCons, gSb, oI, oI0, oAdd, oMulA, oSub, oFdiv, oMod, oPow, oLt, oLe, oGt, oGe, oEq, oNe, oIsN, oNotN, oIsB, oNotB, oIx, oSl, oLen, oSum, oAll, oAny, oAbs, o1I, o2I, oMin2, oMax2, oMin, oMax, oMinL, oMaxL, oInt, oBool, oList, oTuple, oSorted, oIn, oAddI, oGet, oSet, oAppend, oExtend, oPop, oPopAt, oIndexL, oIndexT, oInsert, oRemove, dTupX, dBMX, dLenSet, newL, startD, wipeD, D.tyN, List.map_cons, List.map_nil, List.cons_append, List.nil_append, List.length_cons, List.length_nil, List.getElem?_cons_zero, List.getElem?_cons_succ, List.set_cons_zero, List.set_cons_succ, List.replicate, Nat.sub_self, Nat.reduceSub, Nat.reduceAdd, Nat.zero_add, kb_ii, kb_ib, kb_it, kb_is, kb_bi, kb_bb, kb_bt, kb_bs, kb_tt, kb_ti, kb_ts, kb_ss, kb_si, kb_st, kb_nt, kb_ni, kb_ns, kb_lt, kb_li, kb_ls, ex_some, seq_tup, seq_tpx, itOf_tpx, seq_lst, seq_fz, list_lst, lsts_lst, lsts_fz, itOf_tup, itOf_lst, itOf_fz, now_int, now_bl, now_non, now_str, now_tup, now_lst, isNon_non, isNon_int, isNon_tup, isNon_ref, isNon_lst, isNon_str, isNon_bl]
  refine ⟨J.map fun _ => true, by rw [List.map_map]; rfl, ?_⟩
  have : (J.map fun _ => true).all id = true := by simp
  rw [this]
  simp only [Bool.not_true]
  exact .here q
def sp_look_at_sequence_of : DSp := fun ds S Q => ∃ (J : List Jb) (o : List Nat), ds = [eJs J, eO o] ∧ GJ J ∧ Perm_ J.length o ∧ Q .non S
theorem pure_look_at_sequence_of : ∀ ds S Q, sp_look_at_sequence_of ds S Q → t_look_at_sequence_of sp_look_at_jobs sp_is_order (DeN Q) (startD N_look_at_sequence_of ds) S := by
  rintro ds S Q ⟨J, o, rfl, g, h, q⟩
  simp only [t_look_at_sequence_of, dSeq, dNext, dRet, dRetN, dIfS, dAsg, dAsgG, dDrop, dPar2, dPar3, dAug, dAugS, dFor, dOp, dVar, dC, dTest, dChain, dAnd, dOr, dNot, dAndV, dOrV, dNotV, dIf, dTup, dLst, dNil, dCons, dStar, dCB, dCall, dSl, dNoPart, dPart, dBM, dRev, dNeg, dIsi, dListRg, dTupRg, dRg1, dRg2, dLc, dIt, dEnum, dZip2, dZip3, dRng1, dRng2, dYes, gN, gT, gsNil, gsCons, gSb, oI, oI0, oAdd, oMulA, oSub, oFdiv, oMod, oPow, oLt, oLe, oGt, oGe, oEq, oNe, oIsN, oNotN, oIsB, oNotB, oIx, oSl, oLen, oSum, oAll, oAny, oAbs, o1I, o2I, oMin2, oMax2, oMin, oMax, oMinL, oMaxL, oInt, oBool, oList, oTuple, oSorted, oIn, oAddI, oGet, oSet, oAppend, oExtend, oPop, oPopAt, oIndexL, oIndexT, oInsert, oRemove, dTupX, dBMX, dLenSet, newL, startD, wipeD, D.tyN, List.map_cons, List.map_nil, List.cons_append, List.nil_append, List.length_cons, List.length_nil, List.getElem?_cons_zero, List.getElem?_cons_succ, List.set_cons_zero, List.set_cons_succ, List.replicate, Nat.sub_self, Nat.reduceSub, Nat.reduceAdd, Nat.zero_add, kb_ii, kb_ib, kb_it, kb_is, kb_bi, kb_bb, kb_bt, kb_bs, kb_tt, kb_ti, kb_ts, kb_ss, kb_si, kb_st, kb_nt, kb_ni, kb_ns, kb_lt, kb_li, kb_ls, ex_some, seq_tup, seq_tpx, itOf_tpx, seq_lst, seq_fz, list_lst, lsts_lst, lsts_fz, itOf_tup, itOf_lst, itOf_fz, now_int, now_bl, now_non, now_str, now_tup, now_lst, isNon_non, isNon_int, isNon_tup, isNon_ref, isNon_lst, isNon_str, isNon_bl]
  refine ⟨J, rfl, g, ?_⟩
  simp only [dSeq, dNext, dRet, dRetN, dIfS, dAsg, dAsgG, dDrop, dPar2, dPar3, dAug, dAugS, dFor, dOp, dVar, dC, dTest, dChain, dAnd, dOr, dNot, dAndV, dOrV, dNotV, dIf, dTup, dLst, dNil, dCons, dStar, dCB, dCall, dSl, dNoPart, dPart, dBM, dRev, dNeg, dIsi, dListRg, dTupRg, dRg1, dRg2, dLc, dIt, dEnum, dZip2, dZip3, dRng1, dRng2, dYes, gN, gT, gsNil, gsCons, gSb, oI, oI0, oAdd, oMulA, oSub, oFdiv, oMod, oPow, oLt, oLe, oGt, oGe, oEq, oNe, oIsN, oNotN, oIsB, oNotB, oIx, oSl, oLen, oSum, oAll, oAny, oAbs, o1I, o2I, oMin2, oMax2, oMin, oMax, oMinL, oMaxL, oInt, oBool, oList, oTuple, oSorted, oIn, oAddI, oGet, oSet, oAppend, oExtend, oPop, oPopAt, oIndexL, oIndexT, oInsert, oRemove, dTupX, dBMX, dLenSet, newL, startD, wipeD, D.tyN, List.map_cons, List.map_nil, List.cons_append, List.nil_append, List.length_cons, List.length_nil, List.getElem?_cons_zero, List.getElem?_cons_succ, List.set_cons_zero, List.set_cons_succ, List.replicate, Nat.sub_self, Nat.reduceSub, Nat.reduceAdd, Nat.zero_add, kb_ii, kb_ib, kb_it, kb_is, kb_bi, kb_bb, kb_bt, kb_bs, kb_tt, kb_ti, kb_ts, kb_ss, kb_si, kb_st, kb_nt, kb_ni, kb_ns, kb_lt, kb_li, kb_ls, ex_some, seq_tup, seq_tpx, itOf_tpx, seq_lst, seq_fz, list_lst, lsts_lst, lsts_fz, itOf_tup, itOf_lst, itOf_fz, now_int, now_bl, now_non, now_str, now_tup, now_lst, isNon_non, isNon_int, isNon_tup, isNon_ref, isNon_lst, isNon_str, isNon_bl, eJs, eO]
  refine ⟨o, J.length, by rw [List.length_map], h, by have := g.n60; omega, ?_⟩
  simp only [Bool.not_true]
  exact .here q
/-! ### ends -/
theorem if_max (x y : Int) : (if y > x then y else x) = max x y := by split <;> omega
theorem if_min (x y : Int) : (if y < x then y else x) = min x y := by split <;> omega
def fin (J : List Jb) : Int × Int → List Nat → Int × Int
  | p, [] => p
  | p, a :: o => fin J (p.1 + cA_ J a, max (p.1 + cA_ J a) p.2 + cB_ J a) o
def ends (J : List Jb) : Int × Int → List Nat → List (Int × Int)
  | _, [] => []
  | p, a :: o => (p.1 + cA_ J a, max (p.1 + cA_ J a) p.2 + cB_ J a) :: ends J (p.1 + cA_ J a, max (p.1 + cA_ J a) p.2 + cB_ J a) o
theorem ends_len (J : List Jb) : ∀ (o : List Nat) (p : Int × Int), (ends J p o).length = o.length
  | [], _ => rfl
  | a :: o, h => by rw [ends, List.length_cons, List.length_cons, ends_len J o]
theorem fin_snoc (J : List Jb) : ∀ (o : List Nat) (p : Int × Int) (a : Nat), fin J p (o ++ [a]) = ((fin J p o).1 + cA_ J a, max ((fin J p o).1 + cA_ J a) (fin J p o).2 + cB_ J a)
  | [], p, a => rfl
  | b :: o, p, a => by rw [List.cons_append, fin, fin_snoc J o]; rfl
theorem ends_snoc (J : List Jb) : ∀ (o : List Nat) (p : Int × Int) (a : Nat), ends J p (o ++ [a]) = ends J p o ++ [fin J p (o ++ [a])]
  | [], p, a => rfl
  | b :: o, p, a => by rw [List.cons_append, ends, ends_snoc J o]; rfl
theorem ends_last (J : List Jb) (o : List Nat) (p : Int × Int) (h : o ≠ []) : (ends J p o).getLast? = some (fin J p o) := by
  rcases List.eq_nil_or_concat o with rfl | ⟨o', a, rfl⟩
  · exact absurd rfl h
  · rw [List.concat_eq_append, ends_snoc, List.getLast?_append]; rfl
def en (J : List Jb) (o : List Nat) : Int := (fin J (0, 0) o).2
def sp_told_ends : DSp := fun ds S Q => ∃ (J : List Jb) (o : List Nat), ds = [eJs J, eO o] ∧ (∀ i ∈ o, i < J.length) ∧ o.length ≤ 1000 ∧ Q (.lst ((ends J (0, 0) o).map eP)) S
theorem pure_told_ends : ∀ ds S Q, sp_told_ends ds S Q → t_told_ends (DeN Q) (startD N_told_ends ds) S := by
  rintro ds S0 Q ⟨J, o, rfl, hlt, hl, q⟩
  unfold t_told_ends
  refine seqG fun v hv => ?_
  simp only [dSeq, dNext, dRet, dRetN, dIfS, dAsg, dAsgG, dDrop, dPar2, dPar3, dAug, dAugS, dFor, dOp, dVar, dC, dTest, dChain, dAnd, dOr, dNot, dAndV, dOrV, dNotV, dIf, dTup, dLst, dNil, dCons, dStar, dCB, dCall, dSl, dNoPart, dPart, dBM, dRev, dNeg, dIsi, dListRg, dTupRg, dRg1, dRg2, dLc, dIt, dEnum, dZip2, dZip3, dRng1, dRng2, dYes, gN, gT, gsNil, gsCons, gSb, oI, oI0, oAdd, oMulA, oSub, oFdiv, oMod, oPow, oLt, oLe, oGt, oGe, oEq, oNe, oIsN, oNotN, oIsB, oNotB, oIx, oSl, oLen, oSum, oAll, oAny, oAbs, o1I, o2I, oMin2, oMax2, oMin, oMax, oMinL, oMaxL, oInt, oBool, oList, oTuple, oSorted, oIn, oAddI, oGet, oSet, oAppend, oExtend, oPop, oPopAt, oIndexL, oIndexT, oInsert, oRemove, dTupX, dBMX, dLenSet, newL, startD, wipeD, D.tyN, List.map_cons, List.map_nil, List.cons_append, List.nil_append, List.length_cons, List.length_nil, List.getElem?_cons_zero, List.getElem?_cons_succ, List.set_cons_zero, List.set_cons_succ, List.replicate, Nat.sub_self, Nat.reduceSub, Nat.reduceAdd, Nat.zero_add, kb_ii, kb_ib, kb_it, kb_is, kb_bi, kb_bb, kb_bt, kb_bs, kb_tt, kb_ti, kb_ts, kb_ss, kb_si, kb_st, kb_nt, kb_ni, kb_ns, kb_lt, kb_li, kb_ls, ex_some, seq_tup, seq_tpx, itOf_tpx, seq_lst, seq_fz, list_lst, lsts_lst, lsts_fz, itOf_tup, itOf_lst, itOf_fz, now_int, now_bl, now_non, now_str, now_tup, now_lst, isNon_non, isNon_int, isNon_tup, isNon_ref, isNon_lst, isNon_str, isNon_bl, eJs, eO]
  refine ⟨Nat.zero_le _, fun p hp => ?_⟩
  subst hv
  refine seqG fun v2 hv2 => ?_
  refine forG fun τ hτ => ?_
  simp only [dSeq, dNext, dRet, dRetN, dIfS, dAsg, dAsgG, dDrop, dPar2, dPar3, dAug, dAugS, dFor, dOp, dVar, dC, dTest, dChain, dAnd, dOr, dNot, dAndV, dOrV, dNotV, dIf, dTup, dLst, dNil, dCons, dStar, dCB, dCall, dSl, dNoPart, dPart, dBM, dRev, dNeg, dIsi, dListRg, dTupRg, dRg1, dRg2, dLc, dIt, dEnum, dZip2, dZip3, dRng1, dRng2, dYes, gN, gT, gsNil, gsCons, gSb, oI, oI0, oAdd, oMulA, oSub, oFdiv, oMod, oPow, oLt, oLe, oGt, oGe, oEq, oNe, oIsN, oNotN, oIsB, oNotB, oIx, oSl, oLen, oSum, oAll, oAny, oAbs, o1I, o2I, oMin2, oMax2, oMin, oMax, oMinL, oMaxL, oInt, oBool, oList, oTuple, oSorted, oIn, oAddI, oGet, oSet, oAppend, oExtend, oPop, oPopAt, oIndexL, oIndexT, oInsert, oRemove, dTupX, dBMX, dLenSet, newL, startD, wipeD, D.tyN, List.map_cons, List.map_nil, List.cons_append, List.nil_append, List.length_cons, List.length_nil, List.getElem?_cons_zero, List.getElem?_cons_succ, List.set_cons_zero, List.set_cons_succ, List.replicate, Nat.sub_self, Nat.reduceSub, Nat.reduceAdd, Nat.zero_add, kb_ii, kb_ib, kb_it, kb_is, kb_bi, kb_bb, kb_bt, kb_bs, kb_tt, kb_ti, kb_ts, kb_ss, kb_si, kb_st, kb_nt, kb_ni, kb_ns, kb_lt, kb_li, kb_ls, ex_some, seq_tup, seq_tpx, itOf_tpx, seq_lst, seq_fz, list_lst, lsts_lst, lsts_fz, itOf_tup, itOf_lst, itOf_fz, now_int, now_bl, now_non, now_str, now_tup, now_lst, isNon_non, isNon_int, isNon_tup, isNon_ref, isNon_lst, isNon_str, isNon_bl]
  refine ⟨trivial, ?_⟩
  refine loopD_invE (α := Nat) nI (fun xs ρ S => ∃ o4 dn, ρ = [some (D.tup (J.map eP)), some (.tup (o.map nI)), some (.ref p), some (.int (fin J (0, 0) dn).1), some (.int (fin J (0, 0) dn).2), o4] ∧ dn ++ xs = o ∧ Ext S0 S ∧ S p = some (.lst ((ends J (0, 0) dn).map eP))) ?_ ?_ _ _ _ ⟨none, [], rfl, rfl, Ext.up hp, Sto.up_same⟩ trivial
  · rintro a xs ρ S ⟨o4, dn, rfl, ho, hE, hS⟩ _ N hN
    have hal : a < J.length := hlt a (by rw [← ho]; simp)
    have hdl : dn.length < o.length := by rw [← ho]; simp
    subst hτ
    simp only [gN, List.set_cons_zero, List.set_cons_succ]
    simp only [dSeq, dNext, dRet, dRetN, dIfS, dAsg, dAsgG, dDrop, dPar2, dPar3, dAug, dAugS, dFor, dOp, dVar, dC, dTest, dChain, dAnd, dOr, dNot, dAndV, dOrV, dNotV, dIf, dTup, dLst, dNil, dCons, dStar, dCB, dCall, dSl, dNoPart, dPart, dBM, dRev, dNeg, dIsi, dListRg, dTupRg, dRg1, dRg2, dLc, dIt, dEnum, dZip2, dZip3, dRng1, dRng2, dYes, gN, gT, gsNil, gsCons, gSb, oI, oI0, oAdd, oMulA, oSub, oFdiv, oMod, oPow, oLt, oLe, oGt, oGe, oEq, oNe, oIsN, oNotN, oIsB, oNotB, oIx, oSl, oLen, oSum, oAll, oAny, oAbs, o1I, o2I, oMin2, oMax2, oMin, oMax, oMinL, oMaxL, oInt, oBool, oList, oTuple, oSorted, oIn, oAddI, oGet, oSet, oAppend, oExtend, oPop, oPopAt, oIndexL, oIndexT, oInsert, oRemove, dTupX, dBMX, dLenSet, newL, startD, wipeD, D.tyN, List.map_cons, List.map_nil, List.cons_append, List.nil_append, List.length_cons, List.length_nil, List.getElem?_cons_zero, List.getElem?_cons_succ, List.set_cons_zero, List.set_cons_succ, List.replicate, Nat.sub_self, Nat.reduceSub, Nat.reduceAdd, Nat.zero_add, kb_ii, kb_ib, kb_it, kb_is, kb_bi, kb_bb, kb_bt, kb_bs, kb_tt, kb_ti, kb_ts, kb_ss, kb_si, kb_st, kb_nt, kb_ni, kb_ns, kb_lt, kb_li, kb_ls, ex_some, seq_tup, seq_tpx, itOf_tpx, seq_lst, seq_fz, list_lst, lsts_lst, lsts_fz, itOf_tup, itOf_lst, itOf_fz, now_int, now_bl, now_non, now_str, now_tup, now_lst, isNon_non, isNon_int, isNon_tup, isNon_ref, isNon_lst, isNon_str, isNon_bl, nI, ix_job hal, a20, a21, list_ref hS, trk_ref hS, if_max]
    refine ⟨⟨_, rfl⟩, small (by simp), by rw [List.length_map, ends_len, sizeLine_eq]; omega, hN _ _ trivial ⟨some (.int (a : Int)), dn ++ [a], by rw [fin_snoc], by simpa using ho, hE.set hp, ?_⟩⟩
    rw [Sto.up_same, ends_snoc, List.map_append, fin_snoc]; rfl
  · rintro ρ S ⟨o4, dn, rfl, ho, hE, hS⟩
    rw [List.append_nil] at ho
    subst ho
    show v2 _ _ _
    subst hv2
    simp only [dSeq, dNext, dRet, dRetN, dIfS, dAsg, dAsgG, dDrop, dPar2, dPar3, dAug, dAugS, dFor, dOp, dVar, dC, dTest, dChain, dAnd, dOr, dNot, dAndV, dOrV, dNotV, dIf, dTup, dLst, dNil, dCons, dStar, dCB, dCall, dSl, dNoPart, dPart, dBM, dRev, dNeg, dIsi, dListRg, dTupRg, dRg1, dRg2, dLc, dIt, dEnum, dZip2, dZip3, dRng1, dRng2, dYes, gN, gT, gsNil, gsCons, gSb, oI, oI0, oAdd, oMulA, oSub, oFdiv, oMod, oPow, oLt, oLe, oGt, oGe, oEq, oNe, oIsN, oNotN, oIsB, oNotB, oIx, oSl, oLen, oSum, oAll, oAny, oAbs, o1I, o2I, oMin2, oMax2, oMin, oMax, oMinL, oMaxL, oInt, oBool, oList, oTuple, oSorted, oIn, oAddI, oGet, oSet, oAppend, oExtend, oPop, oPopAt, oIndexL, oIndexT, oInsert, oRemove, dTupX, dBMX, dLenSet, newL, startD, wipeD, D.tyN, List.map_cons, List.map_nil, List.cons_append, List.nil_append, List.length_cons, List.length_nil, List.getElem?_cons_zero, List.getElem?_cons_succ, List.set_cons_zero, List.set_cons_succ, List.replicate, Nat.sub_self, Nat.reduceSub, Nat.reduceAdd, Nat.zero_add, kb_ii, kb_ib, kb_it, kb_is, kb_bi, kb_bb, kb_bt, kb_bs, kb_tt, kb_ti, kb_ts, kb_ss, kb_si, kb_st, kb_nt, kb_ni, kb_ns, kb_lt, kb_li, kb_ls, ex_some, seq_tup, seq_tpx, itOf_tpx, seq_lst, seq_fz, list_lst, lsts_lst, lsts_fz, itOf_tup, itOf_lst, itOf_fz, now_int, now_bl, now_non, now_str, now_tup, now_lst, isNon_non, isNon_int, isNon_tup, isNon_ref, isNon_lst, isNon_str, isNon_bl]
    exact FzQ.extL hE hS hp q
end L73
namespace L73
open PySem PySem.Spec PySem.W PyProof.Rows L2 PL
theorem ends_at_last {J : List Jb} {o : List Nat} (h : o ≠ []) : atI ((ends J (0, 0) o).map eP) (-1) = some (.tup [.int (fin J (0, 0) o).1, .int (en J o)]) := by
  have hne : (ends J (0, 0) o) ≠ [] := fun z => h (List.eq_nil_of_length_eq_zero (by rw [← ends_len J o (0, 0), z]; rfl))
  have e := ends_last J o (0, 0) h
  rw [atI_map, atI_last hne]
  rw [List.getLast?_eq_getLast hne] at e
  rw [Option.some.inj e]; rfl
theorem GJ.ne {J : List Jb} {o : List Nat} (g : GJ J) (h : Perm_ J.length o) : o ≠ [] := fun z => by have := h.len; have := g.n1; rw [z] at *; simp at *; omega
def sp_ends_of : DSp := fun ds S Q => ∃ (J : List Jb) (o : List Nat), ds = [eJs J, eO o] ∧ GJ J ∧ Perm_ J.length o ∧ Q (.tup ((ends J (0, 0) o).map eP)) S
theorem pure_ends_of : ∀ ds S Q, sp_ends_of ds S Q → t_ends_of sp_look_at_sequence_of sp_told_ends (DeN Q) (startD N_ends_of ds) S := by
  rintro ds S Q ⟨J, o, rfl, g, h, q⟩
  simp only [t_ends_of, dSeq, dNext, dRet, dRetN, dIfS, dAsg, dAsgG, dDrop, dPar2, dPar3, dAug, dAugS, dFor, dOp, dVar, dC, dTest, dChain, dAnd, dOr, dNot, dAndV, dOrV, dNotV, dIf, dTup, dLst, dNil, dCons, dStar, dCB, dCall, dSl, dNoPart, dPart, dBM, dRev, dNeg, dIsi, dListRg, dTupRg, dRg1, dRg2, dLc, dIt, dEnum, dZip2, dZip3, dRng1, dRng2, dYes, gN, gT, gsNil, gsCons, gSb, oI, oI0, oAdd, oMulA, oSub, oFdiv, oMod, oPow, oLt, oLe, oGt, oGe, oEq, oNe, oIsN, oNotN, oIsB, oNotB, oIx, oSl, oLen, oSum, oAll, oAny, oAbs, o1I, o2I, oMin2, oMax2, oMin, oMax, oMinL, oMaxL, oInt, oBool, oList, oTuple, oSorted, oIn, oAddI, oGet, oSet, oAppend, oExtend, oPop, oPopAt, oIndexL, oIndexT, oInsert, oRemove, dTupX, dBMX, dLenSet, newL, startD, wipeD, D.tyN, List.map_cons, List.map_nil, List.cons_append, List.nil_append, List.length_cons, List.length_nil, List.getElem?_cons_zero, List.getElem?_cons_succ, List.set_cons_zero, List.set_cons_succ, List.replicate, Nat.sub_self, Nat.reduceSub, Nat.reduceAdd, Nat.zero_add, kb_ii, kb_ib, kb_it, kb_is, kb_bi, kb_bb, kb_bt, kb_bs, kb_tt, kb_ti, kb_ts, kb_ss, kb_si, kb_st, kb_nt, kb_ni, kb_ns, kb_lt, kb_li, kb_ls, ex_some, seq_tup, seq_tpx, itOf_tpx, seq_lst, seq_fz, list_lst, lsts_lst, lsts_fz, itOf_tup, itOf_lst, itOf_fz, now_int, now_bl, now_non, now_str, now_tup, now_lst, isNon_non, isNon_int, isNon_tup, isNon_ref, isNon_lst, isNon_str, isNon_bl]
  refine ⟨J, o, rfl, g, h, J, o, rfl, fun i hi => h.lt hi, by rw [h.len]; have := g.n60; omega, ?_⟩
  simp only [dSeq, dNext, dRet, dRetN, dIfS, dAsg, dAsgG, dDrop, dPar2, dPar3, dAug, dAugS, dFor, dOp, dVar, dC, dTest, dChain, dAnd, dOr, dNot, dAndV, dOrV, dNotV, dIf, dTup, dLst, dNil, dCons, dStar, dCB, dCall, dSl, dNoPart, dPart, dBM, dRev, dNeg, dIsi, dListRg, dTupRg, dRg1, dRg2, dLc, dIt, dEnum, dZip2, dZip3, dRng1, dRng2, dYes, gN, gT, gsNil, gsCons, gSb, oI, oI0, oAdd, oMulA, oSub, oFdiv, oMod, oPow, oLt, oLe, oGt, oGe, oEq, oNe, oIsN, oNotN, oIsB, oNotB, oIx, oSl, oLen, oSum, oAll, oAny, oAbs, o1I, o2I, oMin2, oMax2, oMin, oMax, oMinL, oMaxL, oInt, oBool, oList, oTuple, oSorted, oIn, oAddI, oGet, oSet, oAppend, oExtend, oPop, oPopAt, oIndexL, oIndexT, oInsert, oRemove, dTupX, dBMX, dLenSet, newL, startD, wipeD, D.tyN, List.map_cons, List.map_nil, List.cons_append, List.nil_append, List.length_cons, List.length_nil, List.getElem?_cons_zero, List.getElem?_cons_succ, List.set_cons_zero, List.set_cons_succ, List.replicate, Nat.sub_self, Nat.reduceSub, Nat.reduceAdd, Nat.zero_add, kb_ii, kb_ib, kb_it, kb_is, kb_bi, kb_bb, kb_bt, kb_bs, kb_tt, kb_ti, kb_ts, kb_ss, kb_si, kb_st, kb_nt, kb_ni, kb_ns, kb_lt, kb_li, kb_ls, ex_some, seq_tup, seq_tpx, itOf_tpx, seq_lst, seq_fz, list_lst, lsts_lst, lsts_fz, itOf_tup, itOf_lst, itOf_fz, now_int, now_bl, now_non, now_str, now_tup, now_lst, isNon_non, isNon_int, isNon_tup, isNon_ref, isNon_lst, isNon_str, isNon_bl]
  exact .here q
def sp_end_of : DSp := fun ds S Q => ∃ (J : List Jb) (o : List Nat), ds = [eJs J, eO o] ∧ GJ J ∧ Perm_ J.length o ∧ Q (.int (en J o)) S
theorem pure_end_of : ∀ ds S Q, sp_end_of ds S Q → t_end_of sp_look_at_sequence_of sp_told_ends (DeN Q) (startD N_end_of ds) S := by
  rintro ds S Q ⟨J, o, rfl, g, h, q⟩
  simp only [t_end_of, dSeq, dNext, dRet, dRetN, dIfS, dAsg, dAsgG, dDrop, dPar2, dPar3, dAug, dAugS, dFor, dOp, dVar, dC, dTest, dChain, dAnd, dOr, dNot, dAndV, dOrV, dNotV, dIf, dTup, dLst, dNil, dCons, dStar, dCB, dCall, dSl, dNoPart, dPart, dBM, dRev, dNeg, dIsi, dListRg, dTupRg, dRg1, dRg2, dLc, dIt, dEnum, dZip2, dZip3, dRng1, dRng2, dYes, gN, gT, gsNil, gsCons, gSb, oI, oI0, oAdd, oMulA, oSub, oFdiv, oMod, oPow, oLt, oLe, oGt, oGe, oEq, oNe, oIsN, oNotN, oIsB, oNotB, oIx, oSl, oLen, oSum, oAll, oAny, oAbs, o1I, o2I, oMin2, oMax2, oMin, oMax, oMinL, oMaxL, oInt, oBool, oList, oTuple, oSorted, oIn, oAddI, oGet, oSet, oAppend, oExtend, oPop, oPopAt, oIndexL, oIndexT, oInsert, oRemove, dTupX, dBMX, dLenSet, newL, startD, wipeD, D.tyN, List.map_cons, List.map_nil, List.cons_append, List.nil_append, List.length_cons, List.length_nil, List.getElem?_cons_zero, List.getElem?_cons_succ, List.set_cons_zero, List.set_cons_succ, List.replicate, Nat.sub_self, Nat.reduceSub, Nat.reduceAdd, Nat.zero_add, kb_ii, kb_ib, kb_it, kb_is, kb_bi, kb_bb, kb_bt, kb_bs, kb_tt, kb_ti, kb_ts, kb_ss, kb_si, kb_st, kb_nt, kb_ni, kb_ns, kb_lt, kb_li, kb_ls, ex_some, seq_tup, seq_tpx, itOf_tpx, seq_lst, seq_fz, list_lst, lsts_lst, lsts_fz, itOf_tup, itOf_lst, itOf_fz, now_int, now_bl, now_non, now_str, now_tup, now_lst, isNon_non, isNon_int, isNon_tup, isNon_ref, isNon_lst, isNon_str, isNon_bl]
  refine ⟨J, o, rfl, g, h, J, o, rfl, fun i hi => h.lt hi, by rw [h.len]; have := g.n60; omega, ?_⟩
  simp only [dSeq, dNext, dRet, dRetN, dIfS, dAsg, dAsgG, dDrop, dPar2, dPar3, dAug, dAugS, dFor, dOp, dVar, dC, dTest, dChain, dAnd, dOr, dNot, dAndV, dOrV, dNotV, dIf, dTup, dLst, dNil, dCons, dStar, dCB, dCall, dSl, dNoPart, dPart, dBM, dRev, dNeg, dIsi, dListRg, dTupRg, dRg1, dRg2, dLc, dIt, dEnum, dZip2, dZip3, dRng1, dRng2, dYes, gN, gT, gsNil, gsCons, gSb, oI, oI0, oAdd, oMulA, oSub, oFdiv, oMod, oPow, oLt, oLe, oGt, oGe, oEq, oNe, oIsN, oNotN, oIsB, oNotB, oIx, oSl, oLen, oSum, oAll, oAny, oAbs, o1I, o2I, oMin2, oMax2, oMin, oMax, oMinL, oMaxL, oInt, oBool, oList, oTuple, oSorted, oIn, oAddI, oGet, oSet, oAppend, oExtend, oPop, oPopAt, oIndexL, oIndexT, oInsert, oRemove, dTupX, dBMX, dLenSet, newL, startD, wipeD, D.tyN, List.map_cons, List.map_nil, List.cons_append, List.nil_append, List.length_cons, List.length_nil, List.getElem?_cons_zero, List.getElem?_cons_succ, List.set_cons_zero, List.set_cons_succ, List.replicate, Nat.sub_self, Nat.reduceSub, Nat.reduceAdd, Nat.zero_add, kb_ii, kb_ib, kb_it, kb_is, kb_bi, kb_bb, kb_bt, kb_bs, kb_tt, kb_ti, kb_ts, kb_ss, kb_si, kb_st, kb_nt, kb_ni, kb_ns, kb_lt, kb_li, kb_ls, ex_some, seq_tup, seq_tpx, itOf_tpx, seq_lst, seq_fz, list_lst, lsts_lst, lsts_fz, itOf_tup, itOf_lst, itOf_fz, now_int, now_bl, now_non, now_str, now_tup, now_lst, isNon_non, isNon_int, isNon_tup, isNon_ref, isNon_lst, isNon_str, isNon_bl, ends_at_last (g.ne h), a21]
  exact .here q
def bt (J : List Jb) (o : List Nat) : List Int := (List.zip o (ends J (0, 0) o)).map fun p => p.2.2 - cB_ J p.1 - p.2.1
def sp_between_of : DSp := fun ds S Q => ∃ (J : List Jb) (o : List Nat), ds = [eJs J, eO o] ∧ GJ J ∧ Perm_ J.length o ∧ Q (eI (bt J o)) S
theorem pure_between_of : ∀ ds S Q, sp_between_of ds S Q → t_between_of sp_look_at_sequence_of sp_told_ends (DeN Q) (startD N_between_of ds) S := by
  rintro ds S Q ⟨J, o, rfl, g, h, q⟩
  have h60 := g.n60
  have hl := h.len
  simp only [t_between_of, dSeq, dNext, dRet, dRetN, dIfS, dAsg, dAsgG, dDrop, dPar2, dPar3, dAug, dAugS, dFor, dOp, dVar, dC, dTest, dChain, dAnd, dOr, dNot, dAndV, dOrV, dNotV, dIf, dTup, dLst, dNil, dCons, dStar, dCB, dCall, dSl, dNoPart, dPart, dBM, dRev, dNeg, dIsi, dListRg, dTupRg, dRg1, dRg2, dLc, dIt, dEnum, dZip2, dZip3, dRng1, dRng2, dYes, gN, gT, gsNil, gsCons, gSb, oI, oI0, oAdd, oMulA, oSub, oFdiv, oMod, oPow, oLt, oLe, oGt, oGe, oEq, oNe, oIsN, oNotN, oIsB, oNotB, oIx, oSl, oLen, oSum, oAll, oAny, oAbs, o1I, o2I, oMin2, oMax2, oMin, oMax, oMinL, oMaxL, oInt, oBool, oList, oTuple, oSorted, oIn, oAddI, oGet, oSet, oAppend, oExtend, oPop, oPopAt, oIndexL, oIndexT, oInsert, oRemove, dTupX, dBMX, dLenSet, newL, startD, wipeD, D.tyN, List.map_cons, List.map_nil, List.cons_append, List.nil_append, List.length_cons, List.length_nil, List.getElem?_cons_zero, List.getElem?_cons_succ, List.set_cons_zero, List.set_cons_succ, List.replicate, Nat.sub_self, Nat.reduceSub, Nat.reduceAdd, Nat.zero_add, kb_ii, kb_ib, kb_it, kb_is, kb_bi, kb_bb, kb_bt, kb_bs, kb_tt, kb_ti, kb_ts, kb_ss, kb_si, kb_st, kb_nt, kb_ni, kb_ns, kb_lt, kb_li, kb_ls, ex_some, seq_tup, seq_tpx, itOf_tpx, seq_lst, seq_fz, list_lst, lsts_lst, lsts_fz, itOf_tup, itOf_lst, itOf_fz, now_int, now_bl, now_non, now_str, now_tup, now_lst, isNon_non, isNon_int, isNon_tup, isNon_ref, isNon_lst, isNon_str, isNon_bl]
  refine ⟨J, o, rfl, g, h, J, o, rfl, fun i hi => h.lt hi, by omega, ?_⟩
  simp only [dSeq, dNext, dRet, dRetN, dIfS, dAsg, dAsgG, dDrop, dPar2, dPar3, dAug, dAugS, dFor, dOp, dVar, dC, dTest, dChain, dAnd, dOr, dNot, dAndV, dOrV, dNotV, dIf, dTup, dLst, dNil, dCons, dStar, dCB, dCall, dSl, dNoPart, dPart, dBM, dRev, dNeg, dIsi, dListRg, dTupRg, dRg1, dRg2, dLc, dIt, dEnum, dZip2, dZip3, dRng1, dRng2, dYes, gN, gT, gsNil, gsCons, gSb, oI, oI0, oAdd, oMulA, oSub, oFdiv, oMod, oPow, oLt, oLe, oGt, oGe, oEq, oNe, oIsN, oNotN, oIsB, oNotB, oIx, oSl, oLen, oSum, oAll, oAny, oAbs, o1I, o2I, oMin2, oMax2, oMin, oMax, oMinL, oMaxL, oInt, oBool, oList, oTuple, oSorted, oIn, oAddI, oGet, oSet, oAppend, oExtend, oPop, oPopAt, oIndexL, oIndexT, oInsert, oRemove, dTupX, dBMX, dLenSet, newL, startD, wipeD, D.tyN, List.map_cons, List.map_nil, List.cons_append, List.nil_append, List.length_cons, List.length_nil, List.getElem?_cons_zero, List.getElem?_cons_succ, List.set_cons_zero, List.set_cons_succ, List.replicate, Nat.sub_self, Nat.reduceSub, Nat.reduceAdd, Nat.zero_add, kb_ii, kb_ib, kb_it, kb_is, kb_bi, kb_bb, kb_bt, kb_bs, kb_tt, kb_ti, kb_ts, kb_ss, kb_si, kb_st, kb_nt, kb_ni, kb_ns, kb_lt, kb_li, kb_ls, ex_some, seq_tup, seq_tpx, itOf_tpx, seq_lst, seq_fz, list_lst, lsts_lst, lsts_fz, itOf_tup, itOf_lst, itOf_fz, now_int, now_bl, now_non, now_str, now_tup, now_lst, isNon_non, isNon_int, isNon_tup, isNon_ref, isNon_lst, isNon_str, isNon_bl, eJs, eO]
  rw [zip_map2 nI eP]
  refine lc_mapE (ok := fun _ => True ∧ True) (List.zip o (ends J (0, 0) o)) (fun p => D.tup [nI p.1, eP p.2]) (fun p => D.int (p.2.2 - cB_ J p.1 - p.2.1)) (fun _ _ => ⟨trivial, trivial⟩) (small (by rw [List.length_zip]; omega)) (fun z hz S' e N M hN => ?_) ?_
  · have hlt := h.lt (List.of_mem_zip hz).1
    simp only [dSeq, dNext, dRet, dRetN, dIfS, dAsg, dAsgG, dDrop, dPar2, dPar3, dAug, dAugS, dFor, dOp, dVar, dC, dTest, dChain, dAnd, dOr, dNot, dAndV, dOrV, dNotV, dIf, dTup, dLst, dNil, dCons, dStar, dCB, dCall, dSl, dNoPart, dPart, dBM, dRev, dNeg, dIsi, dListRg, dTupRg, dRg1, dRg2, dLc, dIt, dEnum, dZip2, dZip3, dRng1, dRng2, dYes, gN, gT, gsNil, gsCons, gSb, oI, oI0, oAdd, oMulA, oSub, oFdiv, oMod, oPow, oLt, oLe, oGt, oGe, oEq, oNe, oIsN, oNotN, oIsB, oNotB, oIx, oSl, oLen, oSum, oAll, oAny, oAbs, o1I, o2I, oMin2, oMax2, oMin, oMax, oMinL, oMaxL, oInt, oBool, oList, oTuple, oSorted, oIn, oAddI, oGet, oSet, oAppend, oExtend, oPop, oPopAt, oIndexL, oIndexT, oInsert, oRemove, dTupX, dBMX, dLenSet, newL, startD, wipeD, D.tyN, List.map_cons, List.map_nil, List.cons_append, List.nil_append, List.length_cons, List.length_nil, List.getElem?_cons_zero, List.getElem?_cons_succ, List.set_cons_zero, List.set_cons_succ, List.replicate, Nat.sub_self, Nat.reduceSub, Nat.reduceAdd, Nat.zero_add, kb_ii, kb_ib, kb_it, kb_is, kb_bi, kb_bb, kb_bt, kb_bs, kb_tt, kb_ti, kb_ts, kb_ss, kb_si, kb_st, kb_nt, kb_ni, kb_ns, kb_lt, kb_li, kb_ls, ex_some, seq_tup, seq_tpx, itOf_tpx, seq_lst, seq_fz, list_lst, lsts_lst, lsts_fz, itOf_tup, itOf_lst, itOf_fz, now_int, now_bl, now_non, now_str, now_tup, now_lst, isNon_non, isNon_int, isNon_tup, isNon_ref, isNon_lst, isNon_str, isNon_bl, nI, eP, ix_job hlt, a21]
    exact ⟨trivial, trivial, hN⟩
  simp only [dSeq, dNext, dRet, dRetN, dIfS, dAsg, dAsgG, dDrop, dPar2, dPar3, dAug, dAugS, dFor, dOp, dVar, dC, dTest, dChain, dAnd, dOr, dNot, dAndV, dOrV, dNotV, dIf, dTup, dLst, dNil, dCons, dStar, dCB, dCall, dSl, dNoPart, dPart, dBM, dRev, dNeg, dIsi, dListRg, dTupRg, dRg1, dRg2, dLc, dIt, dEnum, dZip2, dZip3, dRng1, dRng2, dYes, gN, gT, gsNil, gsCons, gSb, oI, oI0, oAdd, oMulA, oSub, oFdiv, oMod, oPow, oLt, oLe, oGt, oGe, oEq, oNe, oIsN, oNotN, oIsB, oNotB, oIx, oSl, oLen, oSum, oAll, oAny, oAbs, o1I, o2I, oMin2, oMax2, oMin, oMax, oMinL, oMaxL, oInt, oBool, oList, oTuple, oSorted, oIn, oAddI, oGet, oSet, oAppend, oExtend, oPop, oPopAt, oIndexL, oIndexT, oInsert, oRemove, dTupX, dBMX, dLenSet, newL, startD, wipeD, D.tyN, List.map_cons, List.map_nil, List.cons_append, List.nil_append, List.length_cons, List.length_nil, List.getElem?_cons_zero, List.getElem?_cons_succ, List.set_cons_zero, List.set_cons_succ, List.replicate, Nat.sub_self, Nat.reduceSub, Nat.reduceAdd, Nat.zero_add, kb_ii, kb_ib, kb_it, kb_is, kb_bi, kb_bb, kb_bt, kb_bs, kb_tt, kb_ti, kb_ts, kb_ss, kb_si, kb_st, kb_nt, kb_ni, kb_ns, kb_lt, kb_li, kb_ls, ex_some, seq_tup, seq_tpx, itOf_tpx, seq_lst, seq_fz, list_lst, lsts_lst, lsts_fz, itOf_tup, itOf_lst, itOf_fz, now_int, now_bl, now_non, now_str, now_tup, now_lst, isNon_non, isNon_int, isNon_tup, isNon_ref, isNon_lst, isNon_str, isNon_bl]
  unfold eI bt at q
  rw [List.map_map] at q
  exact .here q
/-! ### critical sums -/
def asum (J : List Jb) (o : List Nat) : Int := (o.map fun i => cA_ J i).sum
def bsum (J : List Jb) (o : List Nat) : Int := (o.map fun i => cB_ J i).sum
def crit (J : List Jb) (o : List Nat) (k : Nat) : Int := asum J (o.take (k + 1)) + bsum J (o.drop k)
def sm (J : List Jb) (o : List Nat) : List Int := (List.range o.length).map fun k => crit J o k
def sp_critical_of : DSp := fun ds S Q => ∃ (J : List Jb) (o : List Nat), ds = [eJs J, eO o] ∧ GJ J ∧ Perm_ J.length o ∧ ∀ (m : Int) (j : Nat), (∀ x ∈ sm J o, x ≤ m) → firstAt (sm J o) m j → Q (.int (j : Nat)) S
theorem mem_first {ns : List Int} {z : Int} (h : z ∈ ns) : ∃ j, firstAt ns z j := by
  induction ns with
  | nil => cases h
  | cons a ns ih =>
    by_cases e : a = z
    · exact ⟨0, by rw [e]; rfl, fun m hm => absurd hm (by omega)⟩
    · obtain ⟨j, h1, h2⟩ := ih ((List.mem_cons.mp h).resolve_left fun q => e q.symm)
      refine ⟨j + 1, h1, fun m hm => ?_⟩
      cases m with
      | zero => intro q; exact e (Option.some.inj q)
      | succ m => exact h2 m (by omega)
theorem first_uniq {ns : List Int} {z : Int} {i j : Nat} (h1 : firstAt ns z i) (h2 : firstAt ns z j) : i = j := by
  rcases Nat.lt_trichotomy i j with q | q | q
  · exact absurd h1.1 (h2.2 i q)
  · exact q
  · exact absurd h2.1 (h1.2 j q)
theorem pure_critical_of : ∀ ds S Q, sp_critical_of ds S Q → t_critical_of sp_look_at_sequence_of (DeN Q) (startD N_critical_of ds) S := by
  rintro ds S0 Q ⟨J, o, rfl, g, h, q⟩
  have h60 := g.n60
  have hl := h.len
  unfold t_critical_of
  refine seqG fun v hv => ?_
  simp only [dSeq, dNext, dRet, dRetN, dIfS, dAsg, dAsgG, dDrop, dPar2, dPar3, dAug, dAugS, dFor, dOp, dVar, dC, dTest, dChain, dAnd, dOr, dNot, dAndV, dOrV, dNotV, dIf, dTup, dLst, dNil, dCons, dStar, dCB, dCall, dSl, dNoPart, dPart, dBM, dRev, dNeg, dIsi, dListRg, dTupRg, dRg1, dRg2, dLc, dIt, dEnum, dZip2, dZip3, dRng1, dRng2, dYes, gN, gT, gsNil, gsCons, gSb, oI, oI0, oAdd, oMulA, oSub, oFdiv, oMod, oPow, oLt, oLe, oGt, oGe, oEq, oNe, oIsN, oNotN, oIsB, oNotB, oIx, oSl, oLen, oSum, oAll, oAny, oAbs, o1I, o2I, oMin2, oMax2, oMin, oMax, oMinL, oMaxL, oInt, oBool, oList, oTuple, oSorted, oIn, oAddI, oGet, oSet, oAppend, oExtend, oPop, oPopAt, oIndexL, oIndexT, oInsert, oRemove, dTupX, dBMX, dLenSet, newL, startD, wipeD, D.tyN, List.map_cons, List.map_nil, List.cons_append, List.nil_append, List.length_cons, List.length_nil, List.getElem?_cons_zero, List.getElem?_cons_succ, List.set_cons_zero, List.set_cons_succ, List.replicate, Nat.sub_self, Nat.reduceSub, Nat.reduceAdd, Nat.zero_add, kb_ii, kb_ib, kb_it, kb_is, kb_bi, kb_bb, kb_bt, kb_bs, kb_tt, kb_ti, kb_ts, kb_ss, kb_si, kb_st, kb_nt, kb_ni, kb_ns, kb_lt, kb_li, kb_ls, ex_some, seq_tup, seq_tpx, itOf_tpx, seq_lst, seq_fz, list_lst, lsts_lst, lsts_fz, itOf_tup, itOf_lst, itOf_fz, now_int, now_bl, now_non, now_str, now_tup, now_lst, isNon_non, isNon_int, isNon_tup, isNon_ref, isNon_lst, isNon_str, isNon_bl]
  refine ⟨J, o, rfl, g, h, ?_⟩
  subst hv
  refine seqG fun v2 hv2 => ?_
  simp only [dSeq, dNext, dRet, dRetN, dIfS, dAsg, dAsgG, dDrop, dPar2, dPar3, dAug, dAugS, dFor, dOp, dVar, dC, dTest, dChain, dAnd, dOr, dNot, dAndV, dOrV, dNotV, dIf, dTup, dLst, dNil, dCons, dStar, dCB, dCall, dSl, dNoPart, dPart, dBM, dRev, dNeg, dIsi, dListRg, dTupRg, dRg1, dRg2, dLc, dIt, dEnum, dZip2, dZip3, dRng1, dRng2, dYes, gN, gT, gsNil, gsCons, gSb, oI, oI0, oAdd, oMulA, oSub, oFdiv, oMod, oPow, oLt, oLe, oGt, oGe, oEq, oNe, oIsN, oNotN, oIsB, oNotB, oIx, oSl, oLen, oSum, oAll, oAny, oAbs, o1I, o2I, oMin2, oMax2, oMin, oMax, oMinL, oMaxL, oInt, oBool, oList, oTuple, oSorted, oIn, oAddI, oGet, oSet, oAppend, oExtend, oPop, oPopAt, oIndexL, oIndexT, oInsert, oRemove, dTupX, dBMX, dLenSet, newL, startD, wipeD, D.tyN, List.map_cons, List.map_nil, List.cons_append, List.nil_append, List.length_cons, List.length_nil, List.getElem?_cons_zero, List.getElem?_cons_succ, List.set_cons_zero, List.set_cons_succ, List.replicate, Nat.sub_self, Nat.reduceSub, Nat.reduceAdd, Nat.zero_add, kb_ii, kb_ib, kb_it, kb_is, kb_bi, kb_bb, kb_bt, kb_bs, kb_tt, kb_ti, kb_ts, kb_ss, kb_si, kb_st, kb_nt, kb_ni, kb_ns, kb_lt, kb_li, kb_ls, ex_some, seq_tup, seq_tpx, itOf_tpx, seq_lst, seq_fz, list_lst, lsts_lst, lsts_fz, itOf_tup, itOf_lst, itOf_fz, now_int, now_bl, now_non, now_str, now_tup, now_lst, isNon_non, isNon_int, isNon_tup, isNon_ref, isNon_lst, isNon_str, isNon_bl]
  refine ⟨Nat.zero_le _, fun p hp => ?_⟩
  subst hv2
  refine seqG fun v3 hv3 => ?_
  refine forG fun τ hτ => ?_
  simp only [dSeq, dNext, dRet, dRetN, dIfS, dAsg, dAsgG, dDrop, dPar2, dPar3, dAug, dAugS, dFor, dOp, dVar, dC, dTest, dChain, dAnd, dOr, dNot, dAndV, dOrV, dNotV, dIf, dTup, dLst, dNil, dCons, dStar, dCB, dCall, dSl, dNoPart, dPart, dBM, dRev, dNeg, dIsi, dListRg, dTupRg, dRg1, dRg2, dLc, dIt, dEnum, dZip2, dZip3, dRng1, dRng2, dYes, gN, gT, gsNil, gsCons, gSb, oI, oI0, oAdd, oMulA, oSub, oFdiv, oMod, oPow, oLt, oLe, oGt, oGe, oEq, oNe, oIsN, oNotN, oIsB, oNotB, oIx, oSl, oLen, oSum, oAll, oAny, oAbs, o1I, o2I, oMin2, oMax2, oMin, oMax, oMinL, oMaxL, oInt, oBool, oList, oTuple, oSorted, oIn, oAddI, oGet, oSet, oAppend, oExtend, oPop, oPopAt, oIndexL, oIndexT, oInsert, oRemove, dTupX, dBMX, dLenSet, newL, startD, wipeD, D.tyN, List.map_cons, List.map_nil, List.cons_append, List.nil_append, List.length_cons, List.length_nil, List.getElem?_cons_zero, List.getElem?_cons_succ, List.set_cons_zero, List.set_cons_succ, List.replicate, Nat.sub_self, Nat.reduceSub, Nat.reduceAdd, Nat.zero_add, kb_ii, kb_ib, kb_it, kb_is, kb_bi, kb_bb, kb_bt, kb_bs, kb_tt, kb_ti, kb_ts, kb_ss, kb_si, kb_st, kb_nt, kb_ni, kb_ns, kb_lt, kb_li, kb_ls, ex_some, seq_tup, seq_tpx, itOf_tpx, seq_lst, seq_fz, list_lst, lsts_lst, lsts_fz, itOf_tup, itOf_lst, itOf_fz, now_int, now_bl, now_non, now_str, now_tup, now_lst, isNon_non, isNon_int, isNon_tup, isNon_ref, isNon_lst, isNon_str, isNon_bl, eO]
  refine ⟨by simp; omega, trivial, ?_⟩
  rw [Int.toNat_natCast, List.length_map]
  refine loopD_invE (α := Nat) (fun i => .int (0 + (i : Int))) (fun xs ρ S => ∃ o3 o4 o5 o6 k, ρ = [some (eJs J), some (.tup (o.map nI)), some (.ref p), o3, o4, o5, o6] ∧ xs = (List.range o.length).drop k ∧ k ≤ o.length ∧ Ext S0 S ∧ S p = some (.lst (((List.range k).map fun k => crit J o k).map D.int))) ?_ ?_ _ _ _ ⟨none, none, none, none, 0, rfl, rfl, Nat.zero_le _, Ext.up hp, Sto.up_same⟩ trivial
  · rintro a xs ρ S ⟨o3, o4, o5, o6, k, rfl, hx, hk, hE, hS⟩ _ N hN
    obtain ⟨hi, ea, er⟩ := drop_at hx
    rw [List.length_range] at hi
    rw [List.getElem_range] at ea
    subst ea
    subst hτ
    simp only [gN, List.set_cons_zero, List.set_cons_succ]
    refine seqG fun v4 hv4 => ?_
    simp only [dSeq, dNext, dRet, dRetN, dIfS, dAsg, dAsgG, dDrop, dPar2, dPar3, dAug, dAugS, dFor, dOp, dVar, dC, dTest, dChain, dAnd, dOr, dNot, dAndV, dOrV, dNotV, dIf, dTup, dLst, dNil, dCons, dStar, dCB, dCall, dSl, dNoPart, dPart, dBM, dRev, dNeg, dIsi, dListRg, dTupRg, dRg1, dRg2, dLc, dIt, dEnum, dZip2, dZip3, dRng1, dRng2, dYes, gN, gT, gsNil, gsCons, gSb, oI, oI0, oAdd, oMulA, oSub, oFdiv, oMod, oPow, oLt, oLe, oGt, oGe, oEq, oNe, oIsN, oNotN, oIsB, oNotB, oIx, oSl, oLen, oSum, oAll, oAny, oAbs, o1I, o2I, oMin2, oMax2, oMin, oMax, oMinL, oMaxL, oInt, oBool, oList, oTuple, oSorted, oIn, oAddI, oGet, oSet, oAppend, oExtend, oPop, oPopAt, oIndexL, oIndexT, oInsert, oRemove, dTupX, dBMX, dLenSet, newL, startD, wipeD, D.tyN, List.map_cons, List.map_nil, List.cons_append, List.nil_append, List.length_cons, List.length_nil, List.getElem?_cons_zero, List.getElem?_cons_succ, List.set_cons_zero, List.set_cons_succ, List.replicate, Nat.sub_self, Nat.reduceSub, Nat.reduceAdd, Nat.zero_add, kb_ii, kb_ib, kb_it, kb_is, kb_bi, kb_bb, kb_bt, kb_bs, kb_tt, kb_ti, kb_ts, kb_ss, kb_si, kb_st, kb_nt, kb_ni, kb_ns, kb_lt, kb_li, kb_ls, ex_some, seq_tup, seq_tpx, itOf_tpx, seq_lst, seq_fz, list_lst, lsts_lst, lsts_fz, itOf_tup, itOf_lst, itOf_fz, now_int, now_bl, now_non, now_str, now_tup, now_lst, isNon_non, isNon_int, isNon_tup, isNon_ref, isNon_lst, isNon_str, isNon_bl, Int.zero_add]
    rw [cut_to _ _ (by omega), cut_from _ _ (by omega) (by rw [List.length_map]; omega), Int.toNat_natCast, show ((a : Int) + 1).toNat = a + 1 by omega, ← List.map_take, ← List.map_drop]
    subst hv4
    simp only [dSeq, dNext, dRet, dRetN, dIfS, dAsg, dAsgG, dDrop, dPar2, dPar3, dAug, dAugS, dFor, dOp, dVar, dC, dTest, dChain, dAnd, dOr, dNot, dAndV, dOrV, dNotV, dIf, dTup, dLst, dNil, dCons, dStar, dCB, dCall, dSl, dNoPart, dPart, dBM, dRev, dNeg, dIsi, dListRg, dTupRg, dRg1, dRg2, dLc, dIt, dEnum, dZip2, dZip3, dRng1, dRng2, dYes, gN, gT, gsNil, gsCons, gSb, oI, oI0, oAdd, oMulA, oSub, oFdiv, oMod, oPow, oLt, oLe, oGt, oGe, oEq, oNe, oIsN, oNotN, oIsB, oNotB, oIx, oSl, oLen, oSum, oAll, oAny, oAbs, o1I, o2I, oMin2, oMax2, oMin, oMax, oMinL, oMaxL, oInt, oBool, oList, oTuple, oSorted, oIn, oAddI, oGet, oSet, oAppend, oExtend, oPop, oPopAt, oIndexL, oIndexT, oInsert, oRemove, dTupX, dBMX, dLenSet, newL, startD, wipeD, D.tyN, List.map_cons, List.map_nil, List.cons_append, List.nil_append, List.length_cons, List.length_nil, List.getElem?_cons_zero, List.getElem?_cons_succ, List.set_cons_zero, List.set_cons_succ, List.replicate, Nat.sub_self, Nat.reduceSub, Nat.reduceAdd, Nat.zero_add, kb_ii, kb_ib, kb_it, kb_is, kb_bi, kb_bb, kb_bt, kb_bs, kb_tt, kb_ti, kb_ts, kb_ss, kb_si, kb_st, kb_nt, kb_ni, kb_ns, kb_lt, kb_li, kb_ls, ex_some, seq_tup, seq_tpx, itOf_tpx, seq_lst, seq_fz, list_lst, lsts_lst, lsts_fz, itOf_tup, itOf_lst, itOf_fz, now_int, now_bl, now_non, now_str, now_tup, now_lst, isNon_non, isNon_int, isNon_tup, isNon_ref, isNon_lst, isNon_str, isNon_bl, list_ref hS]
    refine ⟨⟨_, rfl⟩, ?_⟩
    refine lc_mapE (o.take (a + 1)) nI (fun i => D.int (cA_ J i)) (fun _ _ => trivial) (small (by rw [List.length_take]; omega)) (fun i hi2 S' e N M hN => ?_) ?_
    · have hlt := h.lt (List.mem_of_mem_take hi2)
      simp only [dSeq, dNext, dRet, dRetN, dIfS, dAsg, dAsgG, dDrop, dPar2, dPar3, dAug, dAugS, dFor, dOp, dVar, dC, dTest, dChain, dAnd, dOr, dNot, dAndV, dOrV, dNotV, dIf, dTup, dLst, dNil, dCons, dStar, dCB, dCall, dSl, dNoPart, dPart, dBM, dRev, dNeg, dIsi, dListRg, dTupRg, dRg1, dRg2, dLc, dIt, dEnum, dZip2, dZip3, dRng1, dRng2, dYes, gN, gT, gsNil, gsCons, gSb, oI, oI0, oAdd, oMulA, oSub, oFdiv, oMod, oPow, oLt, oLe, oGt, oGe, oEq, oNe, oIsN, oNotN, oIsB, oNotB, oIx, oSl, oLen, oSum, oAll, oAny, oAbs, o1I, o2I, oMin2, oMax2, oMin, oMax, oMinL, oMaxL, oInt, oBool, oList, oTuple, oSorted, oIn, oAddI, oGet, oSet, oAppend, oExtend, oPop, oPopAt, oIndexL, oIndexT, oInsert, oRemove, dTupX, dBMX, dLenSet, newL, startD, wipeD, D.tyN, List.map_cons, List.map_nil, List.cons_append, List.nil_append, List.length_cons, List.length_nil, List.getElem?_cons_zero, List.getElem?_cons_succ, List.set_cons_zero, List.set_cons_succ, List.replicate, Nat.sub_self, Nat.reduceSub, Nat.reduceAdd, Nat.zero_add, kb_ii, kb_ib, kb_it, kb_is, kb_bi, kb_bb, kb_bt, kb_bs, kb_tt, kb_ti, kb_ts, kb_ss, kb_si, kb_st, kb_nt, kb_ni, kb_ns, kb_lt, kb_li, kb_ls, ex_some, seq_tup, seq_tpx, itOf_tpx, seq_lst, seq_fz, list_lst, lsts_lst, lsts_fz, itOf_tup, itOf_lst, itOf_fz, now_int, now_bl, now_non, now_str, now_tup, now_lst, isNon_non, isNon_int, isNon_tup, isNon_ref, isNon_lst, isNon_str, isNon_bl, nI, eJs, ix_job hlt, a20]
      exact hN
    simp only [dSeq, dNext, dRet, dRetN, dIfS, dAsg, dAsgG, dDrop, dPar2, dPar3, dAug, dAugS, dFor, dOp, dVar, dC, dTest, dChain, dAnd, dOr, dNot, dAndV, dOrV, dNotV, dIf, dTup, dLst, dNil, dCons, dStar, dCB, dCall, dSl, dNoPart, dPart, dBM, dRev, dNeg, dIsi, dListRg, dTupRg, dRg1, dRg2, dLc, dIt, dEnum, dZip2, dZip3, dRng1, dRng2, dYes, gN, gT, gsNil, gsCons, gSb, oI, oI0, oAdd, oMulA, oSub, oFdiv, oMod, oPow, oLt, oLe, oGt, oGe, oEq, oNe, oIsN, oNotN, oIsB, oNotB, oIx, oSl, oLen, oSum, oAll, oAny, oAbs, o1I, o2I, oMin2, oMax2, oMin, oMax, oMinL, oMaxL, oInt, oBool, oList, oTuple, oSorted, oIn, oAddI, oGet, oSet, oAppend, oExtend, oPop, oPopAt, oIndexL, oIndexT, oInsert, oRemove, dTupX, dBMX, dLenSet, newL, startD, wipeD, D.tyN, List.map_cons, List.map_nil, List.cons_append, List.nil_append, List.length_cons, List.length_nil, List.getElem?_cons_zero, List.getElem?_cons_succ, List.set_cons_zero, List.set_cons_succ, List.replicate, Nat.sub_self, Nat.reduceSub, Nat.reduceAdd, Nat.zero_add, kb_ii, kb_ib, kb_it, kb_is, kb_bi, kb_bb, kb_bt, kb_bs, kb_tt, kb_ti, kb_ts, kb_ss, kb_si, kb_st, kb_nt, kb_ni, kb_ns, kb_lt, kb_li, kb_ls, ex_some, seq_tup, seq_tpx, itOf_tpx, seq_lst, seq_fz, list_lst, lsts_lst, lsts_fz, itOf_tup, itOf_lst, itOf_fz, now_int, now_bl, now_non, now_str, now_tup, now_lst, isNon_non, isNon_int, isNon_tup, isNon_ref, isNon_lst, isNon_str, isNon_bl]
    refine ⟨(o.take (a + 1)).map fun i => cA_ J i, by rw [List.map_map]; rfl, ?_⟩
    refine lc_mapE (o.drop a) nI (fun i => D.int (cB_ J i)) (fun _ _ => trivial) (small (by rw [List.length_drop]; omega)) (fun i hi2 S' e N M hN => ?_) ?_
    · have hlt := h.lt (List.mem_of_mem_drop hi2)
      simp only [dSeq, dNext, dRet, dRetN, dIfS, dAsg, dAsgG, dDrop, dPar2, dPar3, dAug, dAugS, dFor, dOp, dVar, dC, dTest, dChain, dAnd, dOr, dNot, dAndV, dOrV, dNotV, dIf, dTup, dLst, dNil, dCons, dStar, dCB, dCall, dSl, dNoPart, dPart, dBM, dRev, dNeg, dIsi, dListRg, dTupRg, dRg1, dRg2, dLc, dIt, dEnum, dZip2, dZip3, dRng1, dRng2, dYes, gN, gT, gsNil, gsCons, gSb, oI, oI0, oAdd, oMulA, oSub, oFdiv, oMod, oPow, oLt, oLe, oGt, oGe, oEq, oNe, oIsN, oNotN, oIsB, oNotB, oIx, oSl, oLen, oSum, oAll, oAny, oAbs, o1I, o2I, oMin2, oMax2, oMin, oMax, oMinL, oMaxL, oInt, oBool, oList, oTuple, oSorted, oIn, oAddI, oGet, oSet, oAppend, oExtend, oPop, oPopAt, oIndexL, oIndexT, oInsert, oRemove, dTupX, dBMX, dLenSet, newL, startD, wipeD, D.tyN, List.map_cons, List.map_nil, List.cons_append, List.nil_append, List.length_cons, List.length_nil, List.getElem?_cons_zero, List.getElem?_cons_succ, List.set_cons_zero, List.set_cons_succ, List.replicate, Nat.sub_self, Nat.reduceSub, Nat.reduceAdd, Nat.zero_add, kb_ii, kb_ib, kb_it, kb_is, kb_bi, kb_bb, kb_bt, kb_bs, kb_tt, kb_ti, kb_ts, kb_ss, kb_si, kb_st, kb_nt, kb_ni, kb_ns, kb_lt, kb_li, kb_ls, ex_some, seq_tup, seq_tpx, itOf_tpx, seq_lst, seq_fz, list_lst, lsts_lst, lsts_fz, itOf_tup, itOf_lst, itOf_fz, now_int, now_bl, now_non, now_str, now_tup, now_lst, isNon_non, isNon_int, isNon_tup, isNon_ref, isNon_lst, isNon_str, isNon_bl, nI, eJs, ix_job hlt, a21]
      exact hN
    simp only [dSeq, dNext, dRet, dRetN, dIfS, dAsg, dAsgG, dDrop, dPar2, dPar3, dAug, dAugS, dFor, dOp, dVar, dC, dTest, dChain, dAnd, dOr, dNot, dAndV, dOrV, dNotV, dIf, dTup, dLst, dNil, dCons, dStar, dCB, dCall, dSl, dNoPart, dPart, dBM, dRev, dNeg, dIsi, dListRg, dTupRg, dRg1, dRg2, dLc, dIt, dEnum, dZip2, dZip3, dRng1, dRng2, dYes, gN, gT, gsNil, gsCons, gSb, oI, oI0, oAdd, oMulA, oSub, oFdiv, oMod, oPow, oLt, oLe, oGt, oGe, oEq, oNe, oIsN, oNotN, oIsB, oNotB, oIx, oSl, oLen, oSum, oAll, oAny, oAbs, o1I, o2I, oMin2, oMax2, oMin, oMax, oMinL, oMaxL, oInt, oBool, oList, oTuple, oSorted, oIn, oAddI, oGet, oSet, oAppend, oExtend, oPop, oPopAt, oIndexL, oIndexT, oInsert, oRemove, dTupX, dBMX, dLenSet, newL, startD, wipeD, D.tyN, List.map_cons, List.map_nil, List.cons_append, List.nil_append, List.length_cons, List.length_nil, List.getElem?_cons_zero, List.getElem?_cons_succ, List.set_cons_zero, List.set_cons_succ, List.replicate, Nat.sub_self, Nat.reduceSub, Nat.reduceAdd, Nat.zero_add, kb_ii, kb_ib, kb_it, kb_is, kb_bi, kb_bb, kb_bt, kb_bs, kb_tt, kb_ti, kb_ts, kb_ss, kb_si, kb_st, kb_nt, kb_ni, kb_ns, kb_lt, kb_li, kb_ls, ex_some, seq_tup, seq_tpx, itOf_tpx, seq_lst, seq_fz, list_lst, lsts_lst, lsts_fz, itOf_tup, itOf_lst, itOf_fz, now_int, now_bl, now_non, now_str, now_tup, now_lst, isNon_non, isNon_int, isNon_tup, isNon_ref, isNon_lst, isNon_str, isNon_bl]
    refine ⟨(o.drop a).map fun i => cB_ J i, by rw [List.map_map]; rfl, ?_⟩
    simp only [dSeq, dNext, dRet, dRetN, dIfS, dAsg, dAsgG, dDrop, dPar2, dPar3, dAug, dAugS, dFor, dOp, dVar, dC, dTest, dChain, dAnd, dOr, dNot, dAndV, dOrV, dNotV, dIf, dTup, dLst, dNil, dCons, dStar, dCB, dCall, dSl, dNoPart, dPart, dBM, dRev, dNeg, dIsi, dListRg, dTupRg, dRg1, dRg2, dLc, dIt, dEnum, dZip2, dZip3, dRng1, dRng2, dYes, gN, gT, gsNil, gsCons, gSb, oI, oI0, oAdd, oMulA, oSub, oFdiv, oMod, oPow, oLt, oLe, oGt, oGe, oEq, oNe, oIsN, oNotN, oIsB, oNotB, oIx, oSl, oLen, oSum, oAll, oAny, oAbs, o1I, o2I, oMin2, oMax2, oMin, oMax, oMinL, oMaxL, oInt, oBool, oList, oTuple, oSorted, oIn, oAddI, oGet, oSet, oAppend, oExtend, oPop, oPopAt, oIndexL, oIndexT, oInsert, oRemove, dTupX, dBMX, dLenSet, newL, startD, wipeD, D.tyN, List.map_cons, List.map_nil, List.cons_append, List.nil_append, List.length_cons, List.length_nil, List.getElem?_cons_zero, List.getElem?_cons_succ, List.set_cons_zero, List.set_cons_succ, List.replicate, Nat.sub_self, Nat.reduceSub, Nat.reduceAdd, Nat.zero_add, kb_ii, kb_ib, kb_it, kb_is, kb_bi, kb_bb, kb_bt, kb_bs, kb_tt, kb_ti, kb_ts, kb_ss, kb_si, kb_st, kb_nt, kb_ni, kb_ns, kb_lt, kb_li, kb_ls, ex_some, seq_tup, seq_tpx, itOf_tpx, seq_lst, seq_fz, list_lst, lsts_lst, lsts_fz, itOf_tup, itOf_lst, itOf_fz, now_int, now_bl, now_non, now_str, now_tup, now_lst, isNon_non, isNon_int, isNon_tup, isNon_ref, isNon_lst, isNon_str, isNon_bl, trk_ref hS]
    refine ⟨by rw [List.length_map, List.length_map, List.length_range, sizeLine_eq]; omega, hN _ _ trivial ⟨_, _, _, _, a + 1, rfl, er, hi, hE.set hp, ?_⟩⟩
    rw [Sto.up_same, List.range_succ, List.map_append, List.map_append]; rfl
  · rintro ρ S ⟨o3, o4, o5, o6, k, rfl, hx, hk, hE, hS⟩
    have hk2 : k = o.length := by
      have := congrArg List.length hx
      rw [List.length_drop, List.length_range, List.length_nil] at this
      omega
    subst hk2
    show v3 _ _ _
    subst hv3
    have hS' : S p = some (.lst ((sm J o).map D.int)) := hS
    simp only [dSeq, dNext, dRet, dRetN, dIfS, dAsg, dAsgG, dDrop, dPar2, dPar3, dAug, dAugS, dFor, dOp, dVar, dC, dTest, dChain, dAnd, dOr, dNot, dAndV, dOrV, dNotV, dIf, dTup, dLst, dNil, dCons, dStar, dCB, dCall, dSl, dNoPart, dPart, dBM, dRev, dNeg, dIsi, dListRg, dTupRg, dRg1, dRg2, dLc, dIt, dEnum, dZip2, dZip3, dRng1, dRng2, dYes, gN, gT, gsNil, gsCons, gSb, oI, oI0, oAdd, oMulA, oSub, oFdiv, oMod, oPow, oLt, oLe, oGt, oGe, oEq, oNe, oIsN, oNotN, oIsB, oNotB, oIx, oSl, oLen, oSum, oAll, oAny, oAbs, o1I, o2I, oMin2, oMax2, oMin, oMax, oMinL, oMaxL, oInt, oBool, oList, oTuple, oSorted, oIn, oAddI, oGet, oSet, oAppend, oExtend, oPop, oPopAt, oIndexL, oIndexT, oInsert, oRemove, dTupX, dBMX, dLenSet, newL, startD, wipeD, D.tyN, List.map_cons, List.map_nil, List.cons_append, List.nil_append, List.length_cons, List.length_nil, List.getElem?_cons_zero, List.getElem?_cons_succ, List.set_cons_zero, List.set_cons_succ, List.replicate, Nat.sub_self, Nat.reduceSub, Nat.reduceAdd, Nat.zero_add, kb_ii, kb_ib, kb_it, kb_is, kb_bi, kb_bb, kb_bt, kb_bs, kb_tt, kb_ti, kb_ts, kb_ss, kb_si, kb_st, kb_nt, kb_ni, kb_ns, kb_lt, kb_li, kb_ls, ex_some, seq_tup, seq_tpx, itOf_tpx, seq_lst, seq_fz, list_lst, lsts_lst, lsts_fz, itOf_tup, itOf_lst, itOf_fz, now_int, now_bl, now_non, now_str, now_tup, now_lst, isNon_non, isNon_int, isNon_tup, isNon_ref, isNon_lst, isNon_str, isNon_bl, list_ref hS', seq_ref hS', lsts_ref hS']
    refine ⟨⟨_, rfl⟩, ⟨fun z => g.ne h ?_, okn_ints, akin_ints⟩, fun mD hm hmx => ?_⟩
    · have := congrArg List.length z
      unfold sm at this
      rw [List.length_map, List.length_map, List.length_range] at this
      exact List.eq_nil_of_length_eq_zero this
    obtain ⟨m, hm', rfl⟩ := mem_int hm
    obtain ⟨j, hj⟩ := mem_first hm'
    simp only [dSeq, dNext, dRet, dRetN, dIfS, dAsg, dAsgG, dDrop, dPar2, dPar3, dAug, dAugS, dFor, dOp, dVar, dC, dTest, dChain, dAnd, dOr, dNot, dAndV, dOrV, dNotV, dIf, dTup, dLst, dNil, dCons, dStar, dCB, dCall, dSl, dNoPart, dPart, dBM, dRev, dNeg, dIsi, dListRg, dTupRg, dRg1, dRg2, dLc, dIt, dEnum, dZip2, dZip3, dRng1, dRng2, dYes, gN, gT, gsNil, gsCons, gSb, oI, oI0, oAdd, oMulA, oSub, oFdiv, oMod, oPow, oLt, oLe, oGt, oGe, oEq, oNe, oIsN, oNotN, oIsB, oNotB, oIx, oSl, oLen, oSum, oAll, oAny, oAbs, o1I, o2I, oMin2, oMax2, oMin, oMax, oMinL, oMaxL, oInt, oBool, oList, oTuple, oSorted, oIn, oAddI, oGet, oSet, oAppend, oExtend, oPop, oPopAt, oIndexL, oIndexT, oInsert, oRemove, dTupX, dBMX, dLenSet, newL, startD, wipeD, D.tyN, List.map_cons, List.map_nil, List.cons_append, List.nil_append, List.length_cons, List.length_nil, List.getElem?_cons_zero, List.getElem?_cons_succ, List.set_cons_zero, List.set_cons_succ, List.replicate, Nat.sub_self, Nat.reduceSub, Nat.reduceAdd, Nat.zero_add, kb_ii, kb_ib, kb_it, kb_is, kb_bi, kb_bb, kb_bt, kb_bs, kb_tt, kb_ti, kb_ts, kb_ss, kb_si, kb_st, kb_nt, kb_ni, kb_ns, kb_lt, kb_li, kb_ls, ex_some, seq_tup, seq_tpx, itOf_tpx, seq_lst, seq_fz, list_lst, lsts_lst, lsts_fz, itOf_tup, itOf_lst, itOf_fz, now_int, now_bl, now_non, now_str, now_tup, now_lst, isNon_non, isNon_int, isNon_tup, isNon_ref, isNon_lst, isNon_str, isNon_bl]
    refine ⟨sm J o, j, rfl, hj, .ext hE ?_⟩
    refine q m j (fun x hx => ?_) hj
    have := hmx _ (List.mem_map.mpr ⟨x, hx, rfl⟩)
    rw [ltD_int] at this
    have := of_decide_eq_false this
    omega
end L73
namespace L73
open PySem PySem.Spec PySem.W PyProof.Rows L2 PL
/-! ### an order's end is its greatest critical sum -/
theorem asum_cons (J : List Jb) (a : Nat) (o : List Nat) : asum J (a :: o) = cA_ J a + asum J o := by unfold asum; rw [List.map_cons, List.sum_cons]
theorem bsum_cons (J : List Jb) (a : Nat) (o : List Nat) : bsum J (a :: o) = cB_ J a + bsum J o := by unfold bsum; rw [List.map_cons, List.sum_cons]
theorem asum_nil (J : List Jb) : asum J [] = 0 := rfl
theorem bsum_nil (J : List Jb) : bsum J [] = 0 := rfl
theorem asum_app (J : List Jb) (a b : List Nat) : asum J (a ++ b) = asum J a + asum J b := by unfold asum; rw [List.map_append, List.sum_append]
theorem bsum_app (J : List Jb) (a b : List Nat) : bsum J (a ++ b) = bsum J a + bsum J b := by unfold bsum; rw [List.map_append, List.sum_append]
def cut (J : List Jb) (p : List Nat) (d : Nat) (q : List Nat) : Int := asum J p + cA_ J d + cB_ J d + bsum J q
theorem fin_ge0 (J : List Jb) : ∀ (o : List Nat) (f s : Int), s + bsum J o ≤ (fin J (f, s) o).2
  | [], f, s => by rw [bsum_nil, fin]; simp
  | a :: o, f, s => by
    rw [bsum_cons, fin]
    have := fin_ge0 J o (f + cA_ J a) (max (f + cA_ J a) s + cB_ J a)
    show _ ≤ (fin J (f + cA_ J a, max (f + cA_ J a) s + cB_ J a) o).2
    omega
theorem fin_ge (J : List Jb) : ∀ (p : List Nat) (d : Nat) (q : List Nat) (f s : Int), f + cut J p d q ≤ (fin J (f, s) (p ++ d :: q)).2
  | [], d, q, f, s => by
    rw [List.nil_append, fin]
    have := fin_ge0 J q (f + cA_ J d) (max (f + cA_ J d) s + cB_ J d)
    show _ ≤ (fin J (f + cA_ J d, max (f + cA_ J d) s + cB_ J d) q).2
    unfold cut
    rw [asum_nil]
    omega
  | a :: p, d, q, f, s => by
    rw [List.cons_append, fin]
    have := fin_ge J p d q (f + cA_ J a) (max (f + cA_ J a) s + cB_ J a)
    show _ ≤ (fin J (f + cA_ J a, max (f + cA_ J a) s + cB_ J a) (p ++ d :: q)).2
    unfold cut at *
    rw [asum_cons]
    omega
theorem fin_is (J : List Jb) : ∀ (o : List Nat) (f s : Int), (fin J (f, s) o).2 = s + bsum J o ∨ ∃ p d q, o = p ++ d :: q ∧ (fin J (f, s) o).2 = f + cut J p d q
  | [], f, s => .inl (by rw [bsum_nil, fin]; simp)
  | a :: o, f, s => by
    rw [fin]
    show (fin J (f + cA_ J a, max (f + cA_ J a) s + cB_ J a) o).2 = _ ∨ ∃ p d q, a :: o = p ++ d :: q ∧ (fin J (f + cA_ J a, max (f + cA_ J a) s + cB_ J a) o).2 = _
    rcases fin_is J o (f + cA_ J a) (max (f + cA_ J a) s + cB_ J a) with h | ⟨p, d, q, rfl, h⟩
    · by_cases hm : f + cA_ J a ≤ s
      · left; rw [h, bsum_cons]; omega
      · right; refine ⟨[], a, o, rfl, ?_⟩
        rw [h]; unfold cut; rw [asum_nil]; omega
    · right
      refine ⟨a :: p, d, q, rfl, ?_⟩
      rw [h]; unfold cut; rw [asum_cons]; omega
theorem en_ge (J : List Jb) (p : List Nat) (d : Nat) (q : List Nat) : cut J p d q ≤ en J (p ++ d :: q) := by
  have := fin_ge J p d q 0 0
  unfold en; omega
theorem en_is {J : List Jb} (g : GJ J) {o : List Nat} (h : o ≠ []) : ∃ p d q, o = p ++ d :: q ∧ en J o = cut J p d q := by
  rcases fin_is J o 0 0 with e | ⟨p, d, q, e1, e2⟩
  · obtain ⟨a, r, rfl⟩ := List.exists_cons_of_ne_nil h
    refine ⟨[], a, r, rfl, ?_⟩
    have h1 := en_ge J [] a r
    have h2 := (g.A a).1
    unfold cut at *
    rw [List.nil_append] at h1
    rw [asum_nil] at *
    rw [bsum_cons] at e
    unfold en at *
    omega
  · refine ⟨p, d, q, e1, ?_⟩
    unfold en; omega
/-- sums of a weight -/
def gs (w : Nat → Int) (o : List Nat) : Int := (o.map w).sum
theorem gs_cons (w : Nat → Int) (a : Nat) (o : List Nat) : gs w (a :: o) = w a + gs w o := by unfold gs; rw [List.map_cons, List.sum_cons]
theorem gs_app (w : Nat → Int) (a b : List Nat) : gs w (a ++ b) = gs w a + gs w b := by unfold gs; rw [List.map_append, List.sum_append]
theorem gs_perm {w : Nat → Int} {a b : List Nat} (h : a.Perm b) : gs w a = gs w b := by
  induction h with
  | nil => rfl
  | cons x _ ih => rw [gs_cons, gs_cons, ih]
  | swap x y l => rw [gs_cons, gs_cons, gs_cons, gs_cons]; omega
  | trans _ _ i1 i2 => exact i1.trans i2
theorem gs_le {w v : Nat → Int} : ∀ {o : List Nat}, (∀ i ∈ o, w i ≤ v i) → gs w o ≤ gs v o
  | [], _ => Int.le_refl _
  | a :: o, h => by
    have := gs_le fun i hi => h i (List.mem_cons_of_mem _ hi)
    have := h a List.mem_cons_self
    rw [gs_cons, gs_cons]; omega
theorem gs_eq {w v : Nat → Int} {o : List Nat} (h : ∀ i ∈ o, w i = v i) : gs w o = gs v o := by
  unfold gs; rw [List.map_congr_left h]
theorem asum_gs (J : List Jb) (o : List Nat) : asum J o = gs (cA_ J) o := rfl
theorem bsum_gs (J : List Jb) (o : List Nat) : bsum J o = gs (cB_ J) o := rfl
/-- a bound from below -/
theorem en_low {J : List Jb} {w : Nat → Int} {p q : List Nat} {d : Nat} {m : Int} (h1 : ∀ i ∈ p, w i ≤ cA_ J i) (h2 : ∀ i ∈ q, w i ≤ cB_ J i) (hd : w d + m ≤ cA_ J d + cB_ J d) : gs w (p ++ d :: q) + m ≤ en J (p ++ d :: q) := by
  have e := en_ge J p d q
  have := gs_le h1
  have := gs_le h2
  unfold cut at e
  rw [asum_gs, bsum_gs] at e
  rw [gs_app, gs_cons]
  omega
theorem first_split {W : Nat → Prop} : ∀ {l : List Nat}, (∃ x ∈ l, W x) → ∃ p d q, l = p ++ d :: q ∧ W d ∧ ∀ i ∈ p, ¬ W i
  | [], ⟨x, h, _⟩ => absurd h (by simp)
  | a :: l, ⟨x, h, hw⟩ => by
    by_cases e : W a
    · exact ⟨[], a, l, rfl, e, fun i hi => absurd hi (by simp)⟩
    · have : x ∈ l := (List.mem_cons.mp h).resolve_left fun z => e (z ▸ hw)
      obtain ⟨p, d, q, e1, e2, e3⟩ := first_split ⟨x, this, hw⟩
      refine ⟨a :: p, d, q, by rw [e1]; rfl, e2, fun i hi => ?_⟩
      rcases List.mem_cons.mp hi with rfl | hi
      · exact e
      · exact e3 i hi
theorem last_split {W : Nat → Prop} {l : List Nat} (h : ∃ x ∈ l, W x) : ∃ p d q, l = p ++ d :: q ∧ W d ∧ ∀ i ∈ q, ¬ W i := by
  obtain ⟨x, hx, hw⟩ := h
  obtain ⟨p, d, q, e1, e2, e3⟩ := first_split (W := W) (l := l.reverse) ⟨x, List.mem_reverse.mpr hx, hw⟩
  refine ⟨q.reverse, d, p.reverse, ?_, e2, fun i hi => e3 i (List.mem_reverse.mp hi)⟩
  rw [← List.reverse_reverse l, e1, List.reverse_append, List.reverse_cons, List.append_assoc]; rfl
/-! ### Johnson's order -/
def Sh (J : List Jb) (i : Nat) : Prop := cA_ J i < cB_ J i
structure JR (J : List Jb) (i j : Nat) : Prop where
  l : ¬ Sh J i → ¬ Sh J j
  s : Sh J i → Sh J j → cA_ J i ≤ cA_ J j
  b : ¬ Sh J i → ¬ Sh J j → cB_ J j ≤ cB_ J i
def John (J : List Jb) (o : List Nat) : Prop := o.Pairwise (JR J)
open Classical in
theorem john_le {J : List Jb} (g : GJ J) {o o' : List Nat} (h : John J o) (hnd : o.Nodup) (hp : o.Perm o') (hne : o ≠ []) : en J o ≤ en J o' := by
  obtain ⟨P, c, S, rfl, e⟩ := en_is g hne
  rw [e]
  unfold cut
  have hpw := List.pairwise_append.mp h
  have hcS := List.pairwise_cons.mp hpw.2.1
  have hPc : ∀ i ∈ P, JR J i c := fun i hi => hpw.2.2 i hi c List.mem_cons_self
  have hnd2 := List.nodup_append.mp hnd
  have hcP : c ∉ P := fun hc => hnd2.2.2 c hc c List.mem_cons_self rfl
  have hSP : ∀ i ∈ S, i ∉ P := fun i hi hc => hnd2.2.2 i hc i (List.mem_cons_of_mem _ hi) rfl
  have hSc : c ∉ S := (List.nodup_cons.mp hnd2.2.1).1
  have hco : c ∈ o' := hp.mem_iff.mp (by simp)
  by_cases hc : Sh J c
  · let w : Nat → Int := fun i => if i ∈ P then cA_ J i else cB_ J i
    have e1 : gs w P = asum J P := gs_eq fun i hi => if_pos hi
    have e2 : gs w S = bsum J S := gs_eq fun i hi => if_neg (hSP i hi)
    have e3 : w c = cB_ J c := if_neg hcP
    have et : gs w (P ++ c :: S) = asum J P + cB_ J c + bsum J S := by rw [gs_app, gs_cons, e1, e2, e3]; omega
    obtain ⟨p, d, q, rfl, hd, hpre⟩ := first_split (W := fun i => i ∉ P ∧ Sh J i) ⟨c, hco, hcP, hc⟩
    have hdm : d ∈ P ++ c :: S := hp.mem_iff.mpr (by simp)
    have hdA : cA_ J c ≤ cA_ J d := by
      rcases List.mem_append.mp hdm with z | z
      · exact absurd z hd.1
      · rcases List.mem_cons.mp z with rfl | z
        · exact Int.le_refl _
        · exact (hcS.1 d z).s hc hd.2
    have hsh : ∀ i ∈ P, Sh J i := fun i hi => Classical.byContradiction fun z => (hPc i hi).l z hc
    have := en_low (J := J) (w := w) (p := p) (q := q) (d := d) (m := cA_ J c) (fun i hi => by
        show (if i ∈ P then cA_ J i else cB_ J i) ≤ _
        split
        · exact Int.le_refl _
        · rename_i hn
          have : ¬ Sh J i := fun z => hpre i hi ⟨hn, z⟩
          unfold Sh at this; omega) (fun i hi => by
        show (if i ∈ P then cA_ J i else cB_ J i) ≤ _
        split
        · rename_i hn
          have := hsh i hn
          unfold Sh at this; omega
        · exact Int.le_refl _) (by
        show (if d ∈ P then cA_ J d else cB_ J d) + _ ≤ _
        rw [if_neg hd.1]; omega)
    rw [← gs_perm hp, et] at this
    omega
  · let w : Nat → Int := fun i => if i ∈ P ∨ i = c then cA_ J i else cB_ J i
    have e1 : gs w P = asum J P := gs_eq fun i hi => if_pos (.inl hi)
    have e2 : gs w S = bsum J S := gs_eq fun i hi => if_neg (fun z => z.elim (hSP i hi) fun q => hSc (q ▸ hi))
    have e3 : w c = cA_ J c := if_pos (.inr rfl)
    have et : gs w (P ++ c :: S) = asum J P + cA_ J c + bsum J S := by rw [gs_app, gs_cons, e1, e2, e3]; omega
    obtain ⟨p, d, q, rfl, hd, hpre⟩ := last_split (W := fun i => (i ∈ P ∨ i = c) ∧ ¬ Sh J i) ⟨c, hco, .inr rfl, hc⟩
    have hdB : cB_ J c ≤ cB_ J d := by
      rcases hd.1 with z | rfl
      · exact (hPc d z).b hd.2 hc
      · exact Int.le_refl _
    have := en_low (J := J) (w := w) (p := p) (q := q) (d := d) (m := cB_ J c) (fun i hi => by
        show (if i ∈ P ∨ i = c then cA_ J i else cB_ J i) ≤ _
        split
        · exact Int.le_refl _
        · rename_i hn
          have hm : i ∈ P ++ c :: S := hp.mem_iff.mpr (by simp [hi])
          rcases List.mem_append.mp hm with z | z
          · exact absurd (.inl z) hn
          · rcases List.mem_cons.mp z with z | z
            · exact absurd (.inr z) hn
            · have := (hcS.1 i z).l hc
              unfold Sh at this; omega) (fun i hi => by
        show (if i ∈ P ∨ i = c then cA_ J i else cB_ J i) ≤ _
        split
        · rename_i hn
          have : Sh J i := Classical.byContradiction fun z => hpre i hi ⟨hn, z⟩
          unfold Sh at this; omega
        · exact Int.le_refl _) (by
        show (if d ∈ P ∨ d = c then cA_ J d else cB_ J d) + _ ≤ _
        rw [if_pos hd.1]; omega)
    rw [← gs_perm hp, et] at this
    omega
end L73
namespace L73
open PySem PySem.Spec PySem.W PyProof.Rows L2 PL
/-! ### the worst end -/
def mxw (J : List Jb) (i : Nat) : Int := max (cA_ J i) (cB_ J i)
def mnw (J : List Jb) (i : Nat) : Int := min (cA_ J i) (cB_ J i)
def great (J : List Jb) : Int := gs (mxw J) (List.range J.length)
theorem great_perm {J : List Jb} {o : List Nat} (h : Perm_ J.length o) : gs (mxw J) o = great J := gs_perm h
theorem en_up {J : List Jb} (g : GJ J) {o : List Nat} (h : Perm_ J.length o) {M : Int} (hM : ∀ i, i < J.length → mnw J i ≤ M) : en J o ≤ great J + M := by
  obtain ⟨p, d, q, e, e2⟩ := en_is g (g.ne h)
  have hd : d < J.length := h.lt (by rw [e]; simp)
  rw [e2, ← great_perm h, e, gs_app, gs_cons]
  unfold cut
  rw [asum_gs, bsum_gs]
  have h1 : gs (cA_ J) p ≤ gs (mxw J) p := gs_le fun i _ => by unfold mxw; omega
  have h2 : gs (cB_ J) q ≤ gs (mxw J) q := gs_le fun i _ => by unfold mxw; omega
  have h3 := hM d hd
  unfold mnw at h3
  have h4 : cA_ J d + cB_ J d ≤ mxw J d + M := by unfold mxw; omega
  omega
def wA (J : List Jb) (one : Nat) : List Nat := (List.range J.length).filter fun i => decide (i ≠ one) && decide (cA_ J i ≥ cB_ J i)
def wB (J : List Jb) (one : Nat) : List Nat := (List.range J.length).filter fun i => decide (i ≠ one) && decide (cA_ J i < cB_ J i)
def wo (J : List Jb) (one : Nat) : List Nat := wA J one ++ one :: wB J one
theorem wo_perm {J : List Jb} {one : Nat} (h : one < J.length) : Perm_ J.length (wo J one) := by
  have nd : (wo J one).Nodup := by
    unfold wo
    rw [List.nodup_append]
    refine ⟨List.nodup_range.filter _, ?_, ?_⟩
    · rw [List.nodup_cons]
      refine ⟨fun z => ?_, List.nodup_range.filter _⟩
      have := (List.mem_filter.mp z).2
      simp at this
    · intro a ha b hb e
      subst e
      have h1 := (List.mem_filter.mp ha).2
      simp only [Bool.and_eq_true, decide_eq_true_eq] at h1
      rcases List.mem_cons.mp hb with rfl | hb
      · exact h1.1 rfl
      · have h2 := (List.mem_filter.mp hb).2
        simp only [Bool.and_eq_true, decide_eq_true_eq] at h2
        omega
  refine (List.perm_ext_iff_of_nodup nd List.nodup_range).mpr fun a => ?_
  unfold wo wA wB
  rw [List.mem_append, List.mem_cons, List.mem_filter, List.mem_filter, List.mem_range]
  simp only [Bool.and_eq_true, decide_eq_true_eq]
  by_cases e : a = one
  · subst e; simp [h]
  · by_cases q : cA_ J a < cB_ J a <;> simp [e] <;> omega
theorem wo_end {J : List Jb} (g : GJ J) {one : Nat} (h : one < J.length) (hm : ∀ i, i < J.length → mnw J i ≤ mnw J one) : en J (wo J one) = great J + mnw J one := by
  have hp := wo_perm h
  have h1 := en_up g hp hm
  have h2 := en_low (J := J) (w := mxw J) (p := wA J one) (q := wB J one) (d := one) (m := mnw J one) (fun i hi => by
      have := (List.mem_filter.mp hi).2
      simp only [Bool.and_eq_true, decide_eq_true_eq] at this
      unfold mxw; omega) (fun i hi => by
      have := (List.mem_filter.mp hi).2
      simp only [Bool.and_eq_true, decide_eq_true_eq] at this
      unfold mxw; omega) (by unfold mxw mnw; omega)
  have e : wA J one ++ one :: wB J one = wo J one := rfl
  rw [e, great_perm hp] at h2
  omega
/-- the end and the job that told_worst tells -/
structure Worst (J : List Jb) (e : Int) (one : Nat) : Prop where
  lt : one < J.length
  is : e = great J + mnw J one
  most : ∀ i, i < J.length → mnw J i ≤ mnw J one
theorem Worst.le {J : List Jb} {e : Int} {one : Nat} (w : Worst J e one) (g : GJ J) {o : List Nat} (h : Perm_ J.length o) : en J o ≤ e := by
  have := en_up g h w.most
  rw [w.is]; exact this
theorem Worst.wo {J : List Jb} {e : Int} {one : Nat} (w : Worst J e one) (g : GJ J) : en J (wo J one) = e := by
  rw [w.is]; exact wo_end g w.lt w.most
theorem great_sum (J : List Jb) : great J = (J.map fun j => max j.1 j.2).sum := by
  unfold great gs
  congr 1
  refine List.ext_getElem (by simp) fun i h1 h2 => ?_
  rw [List.getElem_map, List.getElem_map, List.getElem_range]
  unfold mxw cA_ cB_ gj
  rw [List.getD_eq_getElem?_getD, List.getElem?_eq_getElem (by simpa using h2)]; rfl
theorem max_pair {a b : Int} {m : D} (h : m ∈ [D.int a, D.int b]) (hm : ∀ y, y ∈ [D.int a, D.int b] → ltD m y = false) : m = .int (max a b) := by
  have h1 := hm (.int a) (by simp)
  have h2 := hm (.int b) (by simp)
  rcases List.mem_cons.mp h with rfl | h
  · rw [ltD_int] at h2
    have := of_decide_eq_false h2
    rw [show max a b = a by omega]
  · obtain rfl := List.mem_singleton.mp h
    rw [ltD_int] at h1
    have := of_decide_eq_false h1
    rw [show max a b = b by omega]
theorem min_pair {a b : Int} {m : D} (h : m ∈ [D.int a, D.int b]) (hm : ∀ y, y ∈ [D.int a, D.int b] → ltD y m = false) : m = .int (min a b) := by
  have h1 := hm (.int a) (by simp)
  have h2 := hm (.int b) (by simp)
  rcases List.mem_cons.mp h with rfl | h
  · rw [ltD_int] at h2
    have := of_decide_eq_false h2
    rw [show min a b = a by omega]
  · obtain rfl := List.mem_singleton.mp h
    rw [ltD_int] at h1
    have := of_decide_eq_false h1
    rw [show min a b = b by omega]
theorem ok_pair {a b : Int} : [D.int a, D.int b] ≠ [] ∧ [D.int a, D.int b].all (D.okn 8) = true ∧ akin [D.int a, D.int b] := ⟨List.cons_ne_nil _ _, okn_ints (xs := [a, b]), akin_ints (xs := [a, b])⟩
def sp_told_worst : DSp := fun ds S Q => ∃ J : List Jb, ds = [eJs J] ∧ GJ J ∧ ∀ e one, Worst J e one → Q (.tup [.int e, .int (one : Nat)]) S
theorem pure_told_worst : ∀ ds S Q, sp_told_worst ds S Q → t_told_worst (DeN Q) (startD N_told_worst ds) S := by
  rintro ds S Q ⟨J, rfl, g, q⟩
  have h60 := g.n60
  have h1 := g.n1
  unfold t_told_worst
  refine seqG fun v hv => ?_
  simp only [dSeq, dNext, dRet, dRetN, dIfS, dAsg, dAsgG, dDrop, dPar2, dPar3, dAug, dAugS, dFor, dOp, dVar, dC, dTest, dChain, dAnd, dOr, dNot, dAndV, dOrV, dNotV, dIf, dTup, dLst, dNil, dCons, dStar, dCB, dCall, dSl, dNoPart, dPart, dBM, dRev, dNeg, dIsi, dListRg, dTupRg, dRg1, dRg2, dLc, dIt, dEnum, dZip2, dZip3, dRng1, dRng2, dYes, gN, gT, gsNil, gsCons, gSb, oI, oI0, oAdd, oMulA, oSub, oFdiv, oMod, oPow, oLt, oLe, oGt, oGe, oEq, oNe, oIsN, oNotN, oIsB, oNotB, oIx, oSl, oLen, oSum, oAll, oAny, oAbs, o1I, o2I, oMin2, oMax2, oMin, oMax, oMinL, oMaxL, oInt, oBool, oList, oTuple, oSorted, oIn, oAddI, oGet, oSet, oAppend, oExtend, oPop, oPopAt, oIndexL, oIndexT, oInsert, oRemove, dTupX, dBMX, dLenSet, newL, startD, wipeD, D.tyN, List.map_cons, List.map_nil, List.cons_append, List.nil_append, List.length_cons, List.length_nil, List.getElem?_cons_zero, List.getElem?_cons_succ, List.set_cons_zero, List.set_cons_succ, List.replicate, Nat.sub_self, Nat.reduceSub, Nat.reduceAdd, Nat.zero_add, kb_ii, kb_ib, kb_it, kb_is, kb_bi, kb_bb, kb_bt, kb_bs, kb_tt, kb_ti, kb_ts, kb_ss, kb_si, kb_st, kb_nt, kb_ni, kb_ns, kb_lt, kb_li, kb_ls, ex_some, seq_tup, seq_tpx, itOf_tpx, seq_lst, seq_fz, list_lst, lsts_lst, lsts_fz, itOf_tup, itOf_lst, itOf_fz, now_int, now_bl, now_non, now_str, now_tup, now_lst, isNon_non, isNon_int, isNon_tup, isNon_ref, isNon_lst, isNon_str, isNon_bl, eJs]
  refine lc_mapE J eP (fun j => D.int (max j.1 j.2)) (fun _ _ => trivial) (small (by omega)) (fun j hj S' e N M hN => ?_) ?_
  · simp only [dSeq, dNext, dRet, dRetN, dIfS, dAsg, dAsgG, dDrop, dPar2, dPar3, dAug, dAugS, dFor, dOp, dVar, dC, dTest, dChain, dAnd, dOr, dNot, dAndV, dOrV, dNotV, dIf, dTup, dLst, dNil, dCons, dStar, dCB, dCall, dSl, dNoPart, dPart, dBM, dRev, dNeg, dIsi, dListRg, dTupRg, dRg1, dRg2, dLc, dIt, dEnum, dZip2, dZip3, dRng1, dRng2, dYes, gN, gT, gsNil, gsCons, gSb, oI, oI0, oAdd, oMulA, oSub, oFdiv, oMod, oPow, oLt, oLe, oGt, oGe, oEq, oNe, oIsN, oNotN, oIsB, oNotB, oIx, oSl, oLen, oSum, oAll, oAny, oAbs, o1I, o2I, oMin2, oMax2, oMin, oMax, oMinL, oMaxL, oInt, oBool, oList, oTuple, oSorted, oIn, oAddI, oGet, oSet, oAppend, oExtend, oPop, oPopAt, oIndexL, oIndexT, oInsert, oRemove, dTupX, dBMX, dLenSet, newL, startD, wipeD, D.tyN, List.map_cons, List.map_nil, List.cons_append, List.nil_append, List.length_cons, List.length_nil, List.getElem?_cons_zero, List.getElem?_cons_succ, List.set_cons_zero, List.set_cons_succ, List.replicate, Nat.sub_self, Nat.reduceSub, Nat.reduceAdd, Nat.zero_add, kb_ii, kb_ib, kb_it, kb_is, kb_bi, kb_bb, kb_bt, kb_bs, kb_tt, kb_ti, kb_ts, kb_ss, kb_si, kb_st, kb_nt, kb_ni, kb_ns, kb_lt, kb_li, kb_ls, ex_some, seq_tup, seq_tpx, itOf_tpx, seq_lst, seq_fz, list_lst, lsts_lst, lsts_fz, itOf_tup, itOf_lst, itOf_fz, now_int, now_bl, now_non, now_str, now_tup, now_lst, isNon_non, isNon_int, isNon_tup, isNon_ref, isNon_lst, isNon_str, isNon_bl, eP]
    refine ⟨ok_pair, fun m hm hmx => ?_⟩
    rw [max_pair hm hmx]
    exact hN
  simp only [dSeq, dNext, dRet, dRetN, dIfS, dAsg, dAsgG, dDrop, dPar2, dPar3, dAug, dAugS, dFor, dOp, dVar, dC, dTest, dChain, dAnd, dOr, dNot, dAndV, dOrV, dNotV, dIf, dTup, dLst, dNil, dCons, dStar, dCB, dCall, dSl, dNoPart, dPart, dBM, dRev, dNeg, dIsi, dListRg, dTupRg, dRg1, dRg2, dLc, dIt, dEnum, dZip2, dZip3, dRng1, dRng2, dYes, gN, gT, gsNil, gsCons, gSb, oI, oI0, oAdd, oMulA, oSub, oFdiv, oMod, oPow, oLt, oLe, oGt, oGe, oEq, oNe, oIsN, oNotN, oIsB, oNotB, oIx, oSl, oLen, oSum, oAll, oAny, oAbs, o1I, o2I, oMin2, oMax2, oMin, oMax, oMinL, oMaxL, oInt, oBool, oList, oTuple, oSorted, oIn, oAddI, oGet, oSet, oAppend, oExtend, oPop, oPopAt, oIndexL, oIndexT, oInsert, oRemove, dTupX, dBMX, dLenSet, newL, startD, wipeD, D.tyN, List.map_cons, List.map_nil, List.cons_append, List.nil_append, List.length_cons, List.length_nil, List.getElem?_cons_zero, List.getElem?_cons_succ, List.set_cons_zero, List.set_cons_succ, List.replicate, Nat.sub_self, Nat.reduceSub, Nat.reduceAdd, Nat.zero_add, kb_ii, kb_ib, kb_it, kb_is, kb_bi, kb_bb, kb_bt, kb_bs, kb_tt, kb_ti, kb_ts, kb_ss, kb_si, kb_st, kb_nt, kb_ni, kb_ns, kb_lt, kb_li, kb_ls, ex_some, seq_tup, seq_tpx, itOf_tpx, seq_lst, seq_fz, list_lst, lsts_lst, lsts_fz, itOf_tup, itOf_lst, itOf_fz, now_int, now_bl, now_non, now_str, now_tup, now_lst, isNon_non, isNon_int, isNon_tup, isNon_ref, isNon_lst, isNon_str, isNon_bl]
  refine ⟨J.map fun j => max j.1 j.2, by rw [List.map_map]; rfl, ?_⟩
  rw [← great_sum]
  subst hv
  refine seqG fun v2 hv2 => ?_
  simp only [dSeq, dNext, dRet, dRetN, dIfS, dAsg, dAsgG, dDrop, dPar2, dPar3, dAug, dAugS, dFor, dOp, dVar, dC, dTest, dChain, dAnd, dOr, dNot, dAndV, dOrV, dNotV, dIf, dTup, dLst, dNil, dCons, dStar, dCB, dCall, dSl, dNoPart, dPart, dBM, dRev, dNeg, dIsi, dListRg, dTupRg, dRg1, dRg2, dLc, dIt, dEnum, dZip2, dZip3, dRng1, dRng2, dYes, gN, gT, gsNil, gsCons, gSb, oI, oI0, oAdd, oMulA, oSub, oFdiv, oMod, oPow, oLt, oLe, oGt, oGe, oEq, oNe, oIsN, oNotN, oIsB, oNotB, oIx, oSl, oLen, oSum, oAll, oAny, oAbs, o1I, o2I, oMin2, oMax2, oMin, oMax, oMinL, oMaxL, oInt, oBool, oList, oTuple, oSorted, oIn, oAddI, oGet, oSet, oAppend, oExtend, oPop, oPopAt, oIndexL, oIndexT, oInsert, oRemove, dTupX, dBMX, dLenSet, newL, startD, wipeD, D.tyN, List.map_cons, List.map_nil, List.cons_append, List.nil_append, List.length_cons, List.length_nil, List.getElem?_cons_zero, List.getElem?_cons_succ, List.set_cons_zero, List.set_cons_succ, List.replicate, Nat.sub_self, Nat.reduceSub, Nat.reduceAdd, Nat.zero_add, kb_ii, kb_ib, kb_it, kb_is, kb_bi, kb_bb, kb_bt, kb_bs, kb_tt, kb_ti, kb_ts, kb_ss, kb_si, kb_st, kb_nt, kb_ni, kb_ns, kb_lt, kb_li, kb_ls, ex_some, seq_tup, seq_tpx, itOf_tpx, seq_lst, seq_fz, list_lst, lsts_lst, lsts_fz, itOf_tup, itOf_lst, itOf_fz, now_int, now_bl, now_non, now_str, now_tup, now_lst, isNon_non, isNon_int, isNon_tup, isNon_ref, isNon_lst, isNon_str, isNon_bl, enum_map]
  refine lc_mapE (J.zipIdx 0) (fun q => D.tup [.int (q.2 : Nat), eP q.1]) (fun q => eP (great J + min q.1.1 q.1.2, - ((q.2 : Nat) : Int))) (fun _ _ => trivial) (small (by simp; omega)) (fun q hq S' e N M hN => ?_) ?_
  · simp only [dSeq, dNext, dRet, dRetN, dIfS, dAsg, dAsgG, dDrop, dPar2, dPar3, dAug, dAugS, dFor, dOp, dVar, dC, dTest, dChain, dAnd, dOr, dNot, dAndV, dOrV, dNotV, dIf, dTup, dLst, dNil, dCons, dStar, dCB, dCall, dSl, dNoPart, dPart, dBM, dRev, dNeg, dIsi, dListRg, dTupRg, dRg1, dRg2, dLc, dIt, dEnum, dZip2, dZip3, dRng1, dRng2, dYes, gN, gT, gsNil, gsCons, gSb, oI, oI0, oAdd, oMulA, oSub, oFdiv, oMod, oPow, oLt, oLe, oGt, oGe, oEq, oNe, oIsN, oNotN, oIsB, oNotB, oIx, oSl, oLen, oSum, oAll, oAny, oAbs, o1I, o2I, oMin2, oMax2, oMin, oMax, oMinL, oMaxL, oInt, oBool, oList, oTuple, oSorted, oIn, oAddI, oGet, oSet, oAppend, oExtend, oPop, oPopAt, oIndexL, oIndexT, oInsert, oRemove, dTupX, dBMX, dLenSet, newL, startD, wipeD, D.tyN, List.map_cons, List.map_nil, List.cons_append, List.nil_append, List.length_cons, List.length_nil, List.getElem?_cons_zero, List.getElem?_cons_succ, List.set_cons_zero, List.set_cons_succ, List.replicate, Nat.sub_self, Nat.reduceSub, Nat.reduceAdd, Nat.zero_add, kb_ii, kb_ib, kb_it, kb_is, kb_bi, kb_bb, kb_bt, kb_bs, kb_tt, kb_ti, kb_ts, kb_ss, kb_si, kb_st, kb_nt, kb_ni, kb_ns, kb_lt, kb_li, kb_ls, ex_some, seq_tup, seq_tpx, itOf_tpx, seq_lst, seq_fz, list_lst, lsts_lst, lsts_fz, itOf_tup, itOf_lst, itOf_fz, now_int, now_bl, now_non, now_str, now_tup, now_lst, isNon_non, isNon_int, isNon_tup, isNon_ref, isNon_lst, isNon_str, isNon_bl, eP]
    refine ⟨trivial, ok_pair, fun m hm hmx => ?_⟩
    rw [max_pair hm hmx]
    simp only [dSeq, dNext, dRet, dRetN, dIfS, dAsg, dAsgG, dDrop, dPar2, dPar3, dAug, dAugS, dFor, dOp, dVar, dC, dTest, dChain, dAnd, dOr, dNot, dAndV, dOrV, dNotV, dIf, dTup, dLst, dNil, dCons, dStar, dCB, dCall, dSl, dNoPart, dPart, dBM, dRev, dNeg, dIsi, dListRg, dTupRg, dRg1, dRg2, dLc, dIt, dEnum, dZip2, dZip3, dRng1, dRng2, dYes, gN, gT, gsNil, gsCons, gSb, oI, oI0, oAdd, oMulA, oSub, oFdiv, oMod, oPow, oLt, oLe, oGt, oGe, oEq, oNe, oIsN, oNotN, oIsB, oNotB, oIx, oSl, oLen, oSum, oAll, oAny, oAbs, o1I, o2I, oMin2, oMax2, oMin, oMax, oMinL, oMaxL, oInt, oBool, oList, oTuple, oSorted, oIn, oAddI, oGet, oSet, oAppend, oExtend, oPop, oPopAt, oIndexL, oIndexT, oInsert, oRemove, dTupX, dBMX, dLenSet, newL, startD, wipeD, D.tyN, List.map_cons, List.map_nil, List.cons_append, List.nil_append, List.length_cons, List.length_nil, List.getElem?_cons_zero, List.getElem?_cons_succ, List.set_cons_zero, List.set_cons_succ, List.replicate, Nat.sub_self, Nat.reduceSub, Nat.reduceAdd, Nat.zero_add, kb_ii, kb_ib, kb_it, kb_is, kb_bi, kb_bb, kb_bt, kb_bs, kb_tt, kb_ti, kb_ts, kb_ss, kb_si, kb_st, kb_nt, kb_ni, kb_ns, kb_lt, kb_li, kb_ls, ex_some, seq_tup, seq_tpx, itOf_tpx, seq_lst, seq_fz, list_lst, lsts_lst, lsts_fz, itOf_tup, itOf_lst, itOf_fz, now_int, now_bl, now_non, now_str, now_tup, now_lst, isNon_non, isNon_int, isNon_tup, isNon_ref, isNon_lst, isNon_str, isNon_bl]
    refine ⟨[q.1.1, q.1.2], rfl, small (by omega), ?_⟩
    have : great J - max q.1.1 q.1.2 + [q.1.1, q.1.2].sum = great J + min q.1.1 q.1.2 := by
      simp only [List.sum_cons, List.sum_nil]
      omega
    rw [this]
    exact hN
  simp only [dSeq, dNext, dRet, dRetN, dIfS, dAsg, dAsgG, dDrop, dPar2, dPar3, dAug, dAugS, dFor, dOp, dVar, dC, dTest, dChain, dAnd, dOr, dNot, dAndV, dOrV, dNotV, dIf, dTup, dLst, dNil, dCons, dStar, dCB, dCall, dSl, dNoPart, dPart, dBM, dRev, dNeg, dIsi, dListRg, dTupRg, dRg1, dRg2, dLc, dIt, dEnum, dZip2, dZip3, dRng1, dRng2, dYes, gN, gT, gsNil, gsCons, gSb, oI, oI0, oAdd, oMulA, oSub, oFdiv, oMod, oPow, oLt, oLe, oGt, oGe, oEq, oNe, oIsN, oNotN, oIsB, oNotB, oIx, oSl, oLen, oSum, oAll, oAny, oAbs, o1I, o2I, oMin2, oMax2, oMin, oMax, oMinL, oMaxL, oInt, oBool, oList, oTuple, oSorted, oIn, oAddI, oGet, oSet, oAppend, oExtend, oPop, oPopAt, oIndexL, oIndexT, oInsert, oRemove, dTupX, dBMX, dLenSet, newL, startD, wipeD, D.tyN, List.map_cons, List.map_nil, List.cons_append, List.nil_append, List.length_cons, List.length_nil, List.getElem?_cons_zero, List.getElem?_cons_succ, List.set_cons_zero, List.set_cons_succ, List.replicate, Nat.sub_self, Nat.reduceSub, Nat.reduceAdd, Nat.zero_add, kb_ii, kb_ib, kb_it, kb_is, kb_bi, kb_bb, kb_bt, kb_bs, kb_tt, kb_ti, kb_ts, kb_ss, kb_si, kb_st, kb_nt, kb_ni, kb_ns, kb_lt, kb_li, kb_ls, ex_some, seq_tup, seq_tpx, itOf_tpx, seq_lst, seq_fz, list_lst, lsts_lst, lsts_fz, itOf_tup, itOf_lst, itOf_fz, now_int, now_bl, now_non, now_str, now_tup, now_lst, isNon_non, isNon_int, isNon_tup, isNon_ref, isNon_lst, isNon_str, isNon_bl]
  subst hv2
  simp only [dSeq, dNext, dRet, dRetN, dIfS, dAsg, dAsgG, dDrop, dPar2, dPar3, dAug, dAugS, dFor, dOp, dVar, dC, dTest, dChain, dAnd, dOr, dNot, dAndV, dOrV, dNotV, dIf, dTup, dLst, dNil, dCons, dStar, dCB, dCall, dSl, dNoPart, dPart, dBM, dRev, dNeg, dIsi, dListRg, dTupRg, dRg1, dRg2, dLc, dIt, dEnum, dZip2, dZip3, dRng1, dRng2, dYes, gN, gT, gsNil, gsCons, gSb, oI, oI0, oAdd, oMulA, oSub, oFdiv, oMod, oPow, oLt, oLe, oGt, oGe, oEq, oNe, oIsN, oNotN, oIsB, oNotB, oIx, oSl, oLen, oSum, oAll, oAny, oAbs, o1I, o2I, oMin2, oMax2, oMin, oMax, oMinL, oMaxL, oInt, oBool, oList, oTuple, oSorted, oIn, oAddI, oGet, oSet, oAppend, oExtend, oPop, oPopAt, oIndexL, oIndexT, oInsert, oRemove, dTupX, dBMX, dLenSet, newL, startD, wipeD, D.tyN, List.map_cons, List.map_nil, List.cons_append, List.nil_append, List.length_cons, List.length_nil, List.getElem?_cons_zero, List.getElem?_cons_succ, List.set_cons_zero, List.set_cons_succ, List.replicate, Nat.sub_self, Nat.reduceSub, Nat.reduceAdd, Nat.zero_add, kb_ii, kb_ib, kb_it, kb_is, kb_bi, kb_bb, kb_bt, kb_bs, kb_tt, kb_ti, kb_ts, kb_ss, kb_si, kb_st, kb_nt, kb_ni, kb_ns, kb_lt, kb_li, kb_ls, ex_some, seq_tup, seq_tpx, itOf_tpx, seq_lst, seq_fz, list_lst, lsts_lst, lsts_fz, itOf_tup, itOf_lst, itOf_fz, now_int, now_bl, now_non, now_str, now_tup, now_lst, isNon_non, isNon_int, isNon_tup, isNon_ref, isNon_lst, isNon_str, isNon_bl]
  have emp : (J.zipIdx 0).map (fun q => eP (great J + min q.1.1 q.1.2, -((q.2 : Nat) : Int))) = ((List.range J.length).map fun i => (great J + mnw J i, -((i : Nat) : Int))).map eP := by
    rw [List.map_map]
    apply List.ext_getElem?
    intro i
    rw [List.getElem?_map, List.getElem?_map, List.getElem?_zipIdx]
    by_cases h : i < J.length
    · rw [List.getElem?_range h, List.getElem?_eq_getElem h]
      have : gj J i = J[i] := by unfold gj; rw [List.getD_eq_getElem?_getD, List.getElem?_eq_getElem h]; rfl
      simp [mnw, cA_, cB_, this]
    · rw [List.getElem?_eq_none (by omega), List.getElem?_eq_none (by simp; omega)]; rfl
  rw [emp]
  refine ⟨⟨fun z => ?_, okn_pairs, akin_pairs⟩, fun m hm hmx => ?_⟩
  · have := congrArg List.length z
    simp at this
    rw [this] at h1
    simp at h1
  obtain ⟨pr, hpr, rfl⟩ := List.mem_map.mp hm
  obtain ⟨i, hi, rfl⟩ := List.mem_map.mp hpr
  have hi' := List.mem_range.mp hi
  simp only [dSeq, dNext, dRet, dRetN, dIfS, dAsg, dAsgG, dDrop, dPar2, dPar3, dAug, dAugS, dFor, dOp, dVar, dC, dTest, dChain, dAnd, dOr, dNot, dAndV, dOrV, dNotV, dIf, dTup, dLst, dNil, dCons, dStar, dCB, dCall, dSl, dNoPart, dPart, dBM, dRev, dNeg, dIsi, dListRg, dTupRg, dRg1, dRg2, dLc, dIt, dEnum, dZip2, dZip3, dRng1, dRng2, dYes, gN, gT, gsNil, gsCons, gSb, oI, oI0, oAdd, oMulA, oSub, oFdiv, oMod, oPow, oLt, oLe, oGt, oGe, oEq, oNe, oIsN, oNotN, oIsB, oNotB, oIx, oSl, oLen, oSum, oAll, oAny, oAbs, o1I, o2I, oMin2, oMax2, oMin, oMax, oMinL, oMaxL, oInt, oBool, oList, oTuple, oSorted, oIn, oAddI, oGet, oSet, oAppend, oExtend, oPop, oPopAt, oIndexL, oIndexT, oInsert, oRemove, dTupX, dBMX, dLenSet, newL, startD, wipeD, D.tyN, List.map_cons, List.map_nil, List.cons_append, List.nil_append, List.length_cons, List.length_nil, List.getElem?_cons_zero, List.getElem?_cons_succ, List.set_cons_zero, List.set_cons_succ, List.replicate, Nat.sub_self, Nat.reduceSub, Nat.reduceAdd, Nat.zero_add, kb_ii, kb_ib, kb_it, kb_is, kb_bi, kb_bb, kb_bt, kb_bs, kb_tt, kb_ti, kb_ts, kb_ss, kb_si, kb_st, kb_nt, kb_ni, kb_ns, kb_lt, kb_li, kb_ls, ex_some, seq_tup, seq_tpx, itOf_tpx, seq_lst, seq_fz, list_lst, lsts_lst, lsts_fz, itOf_tup, itOf_lst, itOf_fz, now_int, now_bl, now_non, now_str, now_tup, now_lst, isNon_non, isNon_int, isNon_tup, isNon_ref, isNon_lst, isNon_str, isNon_bl, eP]
  rw [Int.neg_neg]
  refine ⟨trivial, small (by omega), .here (q _ i ⟨hi', rfl, fun k hk => ?_⟩)⟩
  have := hmx _ (List.mem_map.mpr ⟨_, List.mem_map.mpr ⟨k, List.mem_range.mpr hk, rfl⟩, rfl⟩)
  unfold eP at this
  rw [ltD_ii] at this
  have := of_decide_eq_false this
  simp only at this
  omega
end L73
namespace L73
open PySem PySem.Spec PySem.W PyProof.Rows L2 PL
theorem enum_range (J : List Jb) : enumFrom 0 (J.map eP) = (List.range J.length).map fun i => D.tup [.int (i : Nat), .tup [.int (cA_ J i), .int (cB_ J i)]] := by
  rw [enum_map]
  apply List.ext_getElem?
  intro i
  rw [List.getElem?_map, List.getElem?_map, List.getElem?_zipIdx]
  by_cases h : i < J.length
  · rw [List.getElem?_range h, List.getElem?_eq_getElem h]
    have : gj J i = J[i] := by unfold gj; rw [List.getD_eq_getElem?_getD, List.getElem?_eq_getElem h]; rfl
    simp [cA_, cB_, this, eP]
  · rw [List.getElem?_eq_none (by omega), List.getElem?_eq_none (by simp; omega)]; rfl
def sp_told_worst_order : DSp := fun ds S Q => ∃ (J : List Jb) (one : Nat), ds = [eJs J, .int (one : Nat)] ∧ GJ J ∧ one < J.length ∧ Q (eO (wo J one)) S
theorem pure_told_worst_order : ∀ ds S Q, sp_told_worst_order ds S Q → t_told_worst_order (DeN Q) (startD N_told_worst_order ds) S := by
  rintro ds S Q ⟨J, one, rfl, g, hone, q⟩
  have h60 := g.n60
  unfold t_told_worst_order
  refine seqG fun v hv => ?_
  simp only [dSeq, dNext, dRet, dRetN, dIfS, dAsg, dAsgG, dDrop, dPar2, dPar3, dAug, dAugS, dFor, dOp, dVar, dC, dTest, dChain, dAnd, dOr, dNot, dAndV, dOrV, dNotV, dIf, dTup, dLst, dNil, dCons, dStar, dCB, dCall, dSl, dNoPart, dPart, dBM, dRev, dNeg, dIsi, dListRg, dTupRg, dRg1, dRg2, dLc, dIt, dEnum, dZip2, dZip3, dRng1, dRng2, dYes, gN, gT, gsNil, gsCons, gSb, oI, oI0, oAdd, oMulA, oSub, oFdiv, oMod, oPow, oLt, oLe, oGt, oGe, oEq, oNe, oIsN, oNotN, oIsB, oNotB, oIx, oSl, oLen, oSum, oAll, oAny, oAbs, o1I, o2I, oMin2, oMax2, oMin, oMax, oMinL, oMaxL, oInt, oBool, oList, oTuple, oSorted, oIn, oAddI, oGet, oSet, oAppend, oExtend, oPop, oPopAt, oIndexL, oIndexT, oInsert, oRemove, dTupX, dBMX, dLenSet, newL, startD, wipeD, D.tyN, List.map_cons, List.map_nil, List.cons_append, List.nil_append, List.length_cons, List.length_nil, List.getElem?_cons_zero, List.getElem?_cons_succ, List.set_cons_zero, List.set_cons_succ, List.replicate, Nat.sub_self, Nat.reduceSub, Nat.reduceAdd, Nat.zero_add, kb_ii, kb_ib, kb_it, kb_is, kb_bi, kb_bb, kb_bt, kb_bs, kb_tt, kb_ti, kb_ts, kb_ss, kb_si, kb_st, kb_nt, kb_ni, kb_ns, kb_lt, kb_li, kb_ls, ex_some, seq_tup, seq_tpx, itOf_tpx, seq_lst, seq_fz, list_lst, lsts_lst, lsts_fz, itOf_tup, itOf_lst, itOf_fz, now_int, now_bl, now_non, now_str, now_tup, now_lst, isNon_non, isNon_int, isNon_tup, isNon_ref, isNon_lst, isNon_str, isNon_bl, eJs, enum_range]
  refine lc_mapK (List.range J.length) (fun i => D.tup [.int (i : Nat), .tup [.int (cA_ J i), .int (cB_ J i)]]) (fun i => decide (i ≠ one) && decide (cA_ J i ≥ cB_ J i)) nI (fun _ _ => trivial) (small (by rw [List.length_range]; omega)) (fun i hi S' e N M h1 h2 => ?_) ?_
  · simp only [dSeq, dNext, dRet, dRetN, dIfS, dAsg, dAsgG, dDrop, dPar2, dPar3, dAug, dAugS, dFor, dOp, dVar, dC, dTest, dChain, dAnd, dOr, dNot, dAndV, dOrV, dNotV, dIf, dTup, dLst, dNil, dCons, dStar, dCB, dCall, dSl, dNoPart, dPart, dBM, dRev, dNeg, dIsi, dListRg, dTupRg, dRg1, dRg2, dLc, dIt, dEnum, dZip2, dZip3, dRng1, dRng2, dYes, gN, gT, gsNil, gsCons, gSb, oI, oI0, oAdd, oMulA, oSub, oFdiv, oMod, oPow, oLt, oLe, oGt, oGe, oEq, oNe, oIsN, oNotN, oIsB, oNotB, oIx, oSl, oLen, oSum, oAll, oAny, oAbs, o1I, o2I, oMin2, oMax2, oMin, oMax, oMinL, oMaxL, oInt, oBool, oList, oTuple, oSorted, oIn, oAddI, oGet, oSet, oAppend, oExtend, oPop, oPopAt, oIndexL, oIndexT, oInsert, oRemove, dTupX, dBMX, dLenSet, newL, startD, wipeD, D.tyN, List.map_cons, List.map_nil, List.cons_append, List.nil_append, List.length_cons, List.length_nil, List.getElem?_cons_zero, List.getElem?_cons_succ, List.set_cons_zero, List.set_cons_succ, List.replicate, Nat.sub_self, Nat.reduceSub, Nat.reduceAdd, Nat.zero_add, kb_ii, kb_ib, kb_it, kb_is, kb_bi, kb_bb, kb_bt, kb_bs, kb_tt, kb_ti, kb_ts, kb_ss, kb_si, kb_st, kb_nt, kb_ni, kb_ns, kb_lt, kb_li, kb_ls, ex_some, seq_tup, seq_tpx, itOf_tpx, seq_lst, seq_fz, list_lst, lsts_lst, lsts_fz, itOf_tup, itOf_lst, itOf_fz, now_int, now_bl, now_non, now_str, now_tup, now_lst, isNon_non, isNon_int, isNon_tup, isNon_ref, isNon_lst, isNon_str, isNon_bl, a20, a21]
    rw [eqD_int]
    refine ⟨trivial, ⟨okn_int, okn_int⟩, ?_⟩
    by_cases z : i = one
    · rw [decide_eq_true (by omega)]
      exact h2 (by simp [z])
    · rw [decide_eq_false (by omega)]
      by_cases y : cB_ J i ≤ cA_ J i
      · rw [decide_eq_true y]
        exact h1 (by simp [z]; omega)
      · rw [decide_eq_false y]
        exact h2 (by simp [z]; omega)
  simp only [dSeq, dNext, dRet, dRetN, dIfS, dAsg, dAsgG, dDrop, dPar2, dPar3, dAug, dAugS, dFor, dOp, dVar, dC, dTest, dChain, dAnd, dOr, dNot, dAndV, dOrV, dNotV, dIf, dTup, dLst, dNil, dCons, dStar, dCB, dCall, dSl, dNoPart, dPart, dBM, dRev, dNeg, dIsi, dListRg, dTupRg, dRg1, dRg2, dLc, dIt, dEnum, dZip2, dZip3, dRng1, dRng2, dYes, gN, gT, gsNil, gsCons, gSb, oI, oI0, oAdd, oMulA, oSub, oFdiv, oMod, oPow, oLt, oLe, oGt, oGe, oEq, oNe, oIsN, oNotN, oIsB, oNotB, oIx, oSl, oLen, oSum, oAll, oAny, oAbs, o1I, o2I, oMin2, oMax2, oMin, oMax, oMinL, oMaxL, oInt, oBool, oList, oTuple, oSorted, oIn, oAddI, oGet, oSet, oAppend, oExtend, oPop, oPopAt, oIndexL, oIndexT, oInsert, oRemove, dTupX, dBMX, dLenSet, newL, startD, wipeD, D.tyN, List.map_cons, List.map_nil, List.cons_append, List.nil_append, List.length_cons, List.length_nil, List.getElem?_cons_zero, List.getElem?_cons_succ, List.set_cons_zero, List.set_cons_succ, List.replicate, Nat.sub_self, Nat.reduceSub, Nat.reduceAdd, Nat.zero_add, kb_ii, kb_ib, kb_it, kb_is, kb_bi, kb_bb, kb_bt, kb_bs, kb_tt, kb_ti, kb_ts, kb_ss, kb_si, kb_st, kb_nt, kb_ni, kb_ns, kb_lt, kb_li, kb_ls, ex_some, seq_tup, seq_tpx, itOf_tpx, seq_lst, seq_fz, list_lst, lsts_lst, lsts_fz, itOf_tup, itOf_lst, itOf_fz, now_int, now_bl, now_non, now_str, now_tup, now_lst, isNon_non, isNon_int, isNon_tup, isNon_ref, isNon_lst, isNon_str, isNon_bl]
  subst hv
  refine seqG fun v2 hv2 => ?_
  simp only [dSeq, dNext, dRet, dRetN, dIfS, dAsg, dAsgG, dDrop, dPar2, dPar3, dAug, dAugS, dFor, dOp, dVar, dC, dTest, dChain, dAnd, dOr, dNot, dAndV, dOrV, dNotV, dIf, dTup, dLst, dNil, dCons, dStar, dCB, dCall, dSl, dNoPart, dPart, dBM, dRev, dNeg, dIsi, dListRg, dTupRg, dRg1, dRg2, dLc, dIt, dEnum, dZip2, dZip3, dRng1, dRng2, dYes, gN, gT, gsNil, gsCons, gSb, oI, oI0, oAdd, oMulA, oSub, oFdiv, oMod, oPow, oLt, oLe, oGt, oGe, oEq, oNe, oIsN, oNotN, oIsB, oNotB, oIx, oSl, oLen, oSum, oAll, oAny, oAbs, o1I, o2I, oMin2, oMax2, oMin, oMax, oMinL, oMaxL, oInt, oBool, oList, oTuple, oSorted, oIn, oAddI, oGet, oSet, oAppend, oExtend, oPop, oPopAt, oIndexL, oIndexT, oInsert, oRemove, dTupX, dBMX, dLenSet, newL, startD, wipeD, D.tyN, List.map_cons, List.map_nil, List.cons_append, List.nil_append, List.length_cons, List.length_nil, List.getElem?_cons_zero, List.getElem?_cons_succ, List.set_cons_zero, List.set_cons_succ, List.replicate, Nat.sub_self, Nat.reduceSub, Nat.reduceAdd, Nat.zero_add, kb_ii, kb_ib, kb_it, kb_is, kb_bi, kb_bb, kb_bt, kb_bs, kb_tt, kb_ti, kb_ts, kb_ss, kb_si, kb_st, kb_nt, kb_ni, kb_ns, kb_lt, kb_li, kb_ls, ex_some, seq_tup, seq_tpx, itOf_tpx, seq_lst, seq_fz, list_lst, lsts_lst, lsts_fz, itOf_tup, itOf_lst, itOf_fz, now_int, now_bl, now_non, now_str, now_tup, now_lst, isNon_non, isNon_int, isNon_tup, isNon_ref, isNon_lst, isNon_str, isNon_bl, enum_range]
  refine lc_mapK (List.range J.length) (fun i => D.tup [.int (i : Nat), .tup [.int (cA_ J i), .int (cB_ J i)]]) (fun i => decide (i ≠ one) && decide (cA_ J i < cB_ J i)) nI (fun _ _ => trivial) (small (by rw [List.length_range]; omega)) (fun i hi S' e N M h1 h2 => ?_) ?_
  · simp only [dSeq, dNext, dRet, dRetN, dIfS, dAsg, dAsgG, dDrop, dPar2, dPar3, dAug, dAugS, dFor, dOp, dVar, dC, dTest, dChain, dAnd, dOr, dNot, dAndV, dOrV, dNotV, dIf, dTup, dLst, dNil, dCons, dStar, dCB, dCall, dSl, dNoPart, dPart, dBM, dRev, dNeg, dIsi, dListRg, dTupRg, dRg1, dRg2, dLc, dIt, dEnum, dZip2, dZip3, dRng1, dRng2, dYes, gN, gT, gsNil, gsCons, gSb, oI, oI0, oAdd, oMulA, oSub, oFdiv, oMod, oPow, oLt, oLe, oGt, oGe, oEq, oNe, oIsN, oNotN, oIsB, oNotB, oIx, oSl, oLen, oSum, oAll, oAny, oAbs, o1I, o2I, oMin2, oMax2, oMin, oMax, oMinL, oMaxL, oInt, oBool, oList, oTuple, oSorted, oIn, oAddI, oGet, oSet, oAppend, oExtend, oPop, oPopAt, oIndexL, oIndexT, oInsert, oRemove, dTupX, dBMX, dLenSet, newL, startD, wipeD, D.tyN, List.map_cons, List.map_nil, List.cons_append, List.nil_append, List.length_cons, List.length_nil, List.getElem?_cons_zero, List.getElem?_cons_succ, List.set_cons_zero, List.set_cons_succ, List.replicate, Nat.sub_self, Nat.reduceSub, Nat.reduceAdd, Nat.zero_add, kb_ii, kb_ib, kb_it, kb_is, kb_bi, kb_bb, kb_bt, kb_bs, kb_tt, kb_ti, kb_ts, kb_ss, kb_si, kb_st, kb_nt, kb_ni, kb_ns, kb_lt, kb_li, kb_ls, ex_some, seq_tup, seq_tpx, itOf_tpx, seq_lst, seq_fz, list_lst, lsts_lst, lsts_fz, itOf_tup, itOf_lst, itOf_fz, now_int, now_bl, now_non, now_str, now_tup, now_lst, isNon_non, isNon_int, isNon_tup, isNon_ref, isNon_lst, isNon_str, isNon_bl, a20, a21]
    rw [eqD_int]
    refine ⟨trivial, ⟨okn_int, okn_int⟩, ?_⟩
    by_cases z : i = one
    · rw [decide_eq_true (by omega)]
      exact h2 (by simp [z])
    · rw [decide_eq_false (by omega)]
      by_cases y : cA_ J i < cB_ J i
      · rw [decide_eq_true y]
        exact h1 (by simp [z]; omega)
      · rw [decide_eq_false y]
        exact h2 (by simp [z]; omega)
  simp only [dSeq, dNext, dRet, dRetN, dIfS, dAsg, dAsgG, dDrop, dPar2, dPar3, dAug, dAugS, dFor, dOp, dVar, dC, dTest, dChain, dAnd, dOr, dNot, dAndV, dOrV, dNotV, dIf, dTup, dLst, dNil, dCons, dStar, dCB, dCall, dSl, dNoPart, dPart, dBM, dRev, dNeg, dIsi, dListRg, dTupRg, dRg1, dRg2, dLc, dIt, dEnum, dZip2, dZip3, dRng1, dRng2, dYes, gN, gT, gsNil, gsCons, gSb, oI, oI0, oAdd, oMulA, oSub, oFdiv, oMod, oPow, oLt, oLe, oGt, oGe, oEq, oNe, oIsN, oNotN, oIsB, oNotB, oIx, oSl, oLen, oSum, oAll, oAny, oAbs, o1I, o2I, oMin2, oMax2, oMin, oMax, oMinL, oMaxL, oInt, oBool, oList, oTuple, oSorted, oIn, oAddI, oGet, oSet, oAppend, oExtend, oPop, oPopAt, oIndexL, oIndexT, oInsert, oRemove, dTupX, dBMX, dLenSet, newL, startD, wipeD, D.tyN, List.map_cons, List.map_nil, List.cons_append, List.nil_append, List.length_cons, List.length_nil, List.getElem?_cons_zero, List.getElem?_cons_succ, List.set_cons_zero, List.set_cons_succ, List.replicate, Nat.sub_self, Nat.reduceSub, Nat.reduceAdd, Nat.zero_add, kb_ii, kb_ib, kb_it, kb_is, kb_bi, kb_bb, kb_bt, kb_bs, kb_tt, kb_ti, kb_ts, kb_ss, kb_si, kb_st, kb_nt, kb_ni, kb_ns, kb_lt, kb_li, kb_ls, ex_some, seq_tup, seq_tpx, itOf_tpx, seq_lst, seq_fz, list_lst, lsts_lst, lsts_fz, itOf_tup, itOf_lst, itOf_fz, now_int, now_bl, now_non, now_str, now_tup, now_lst, isNon_non, isNon_int, isNon_tup, isNon_ref, isNon_lst, isNon_str, isNon_bl]
  subst hv2
  simp only [dSeq, dNext, dRet, dRetN, dIfS, dAsg, dAsgG, dDrop, dPar2, dPar3, dAug, dAugS, dFor, dOp, dVar, dC, dTest, dChain, dAnd, dOr, dNot, dAndV, dOrV, dNotV, dIf, dTup, dLst, dNil, dCons, dStar, dCB, dCall, dSl, dNoPart, dPart, dBM, dRev, dNeg, dIsi, dListRg, dTupRg, dRg1, dRg2, dLc, dIt, dEnum, dZip2, dZip3, dRng1, dRng2, dYes, gN, gT, gsNil, gsCons, gSb, oI, oI0, oAdd, oMulA, oSub, oFdiv, oMod, oPow, oLt, oLe, oGt, oGe, oEq, oNe, oIsN, oNotN, oIsB, oNotB, oIx, oSl, oLen, oSum, oAll, oAny, oAbs, o1I, o2I, oMin2, oMax2, oMin, oMax, oMinL, oMaxL, oInt, oBool, oList, oTuple, oSorted, oIn, oAddI, oGet, oSet, oAppend, oExtend, oPop, oPopAt, oIndexL, oIndexT, oInsert, oRemove, dTupX, dBMX, dLenSet, newL, startD, wipeD, D.tyN, List.map_cons, List.map_nil, List.cons_append, List.nil_append, List.length_cons, List.length_nil, List.getElem?_cons_zero, List.getElem?_cons_succ, List.set_cons_zero, List.set_cons_succ, List.replicate, Nat.sub_self, Nat.reduceSub, Nat.reduceAdd, Nat.zero_add, kb_ii, kb_ib, kb_it, kb_is, kb_bi, kb_bb, kb_bt, kb_bs, kb_tt, kb_ti, kb_ts, kb_ss, kb_si, kb_st, kb_nt, kb_ni, kb_ns, kb_lt, kb_li, kb_ls, ex_some, seq_tup, seq_tpx, itOf_tpx, seq_lst, seq_fz, list_lst, lsts_lst, lsts_fz, itOf_tup, itOf_lst, itOf_fz, now_int, now_bl, now_non, now_str, now_tup, now_lst, isNon_non, isNon_int, isNon_tup, isNon_ref, isNon_lst, isNon_str, isNon_bl, List.append_nil]
  have hp := (wo_perm hone).len
  have e : (wA J one).map nI ++ D.int ((one : Nat) : Int) :: (wB J one).map nI = (wo J one).map nI := by unfold wo; rw [List.map_append]; rfl
  unfold wA wB at e
  rw [e]
  exact ⟨small (by rw [List.length_map]; omega), .here q⟩
def sp_worst_sequence : DSp := fun ds S Q => ∃ J : List Jb, ds = [eJs J] ∧ GJ J ∧ ∀ e one, Worst J e one → Q (.tup [.int e, eO (wo J one)]) S
theorem pure_worst_sequence : ∀ ds S Q, sp_worst_sequence ds S Q → t_worst_sequence sp_look_at_jobs sp_told_worst sp_told_worst_order (DeN Q) (startD N_worst_sequence ds) S := by
  rintro ds S Q ⟨J, rfl, g, q⟩
  simp only [t_worst_sequence, dSeq, dNext, dRet, dRetN, dIfS, dAsg, dAsgG, dDrop, dPar2, dPar3, dAug, dAugS, dFor, dOp, dVar, dC, dTest, dChain, dAnd, dOr, dNot, dAndV, dOrV, dNotV, dIf, dTup, dLst, dNil, dCons, dStar, dCB, dCall, dSl, dNoPart, dPart, dBM, dRev, dNeg, dIsi, dListRg, dTupRg, dRg1, dRg2, dLc, dIt, dEnum, dZip2, dZip3, dRng1, dRng2, dYes, gN, gT, gsNil, gsCons, gSb, oI, oI0, oAdd, oMulA, oSub, oFdiv, oMod, oPow, oLt, oLe, oGt, oGe, oEq, oNe, oIsN, oNotN, oIsB, oNotB, oIx, oSl, oLen, oSum, oAll, oAny, oAbs, o1I, o2I, oMin2, oMax2, oMin, oMax, oMinL, oMaxL, oInt, oBool, oList, oTuple, oSorted, oIn, oAddI, oGet, oSet, oAppend, oExtend, oPop, oPopAt, oIndexL, oIndexT, oInsert, oRemove, dTupX, dBMX, dLenSet, newL, startD, wipeD, D.tyN, List.map_cons, List.map_nil, List.cons_append, List.nil_append, List.length_cons, List.length_nil, List.getElem?_cons_zero, List.getElem?_cons_succ, List.set_cons_zero, List.set_cons_succ, List.replicate, Nat.sub_self, Nat.reduceSub, Nat.reduceAdd, Nat.zero_add, kb_ii, kb_ib, kb_it, kb_is, kb_bi, kb_bb, kb_bt, kb_bs, kb_tt, kb_ti, kb_ts, kb_ss, kb_si, kb_st, kb_nt, kb_ni, kb_ns, kb_lt, kb_li, kb_ls, ex_some, seq_tup, seq_tpx, itOf_tpx, seq_lst, seq_fz, list_lst, lsts_lst, lsts_fz, itOf_tup, itOf_lst, itOf_fz, now_int, now_bl, now_non, now_str, now_tup, now_lst, isNon_non, isNon_int, isNon_tup, isNon_ref, isNon_lst, isNon_str, isNon_bl]
  refine ⟨J, rfl, g, J, rfl, g, fun e one w => ?_⟩
  simp only [dSeq, dNext, dRet, dRetN, dIfS, dAsg, dAsgG, dDrop, dPar2, dPar3, dAug, dAugS, dFor, dOp, dVar, dC, dTest, dChain, dAnd, dOr, dNot, dAndV, dOrV, dNotV, dIf, dTup, dLst, dNil, dCons, dStar, dCB, dCall, dSl, dNoPart, dPart, dBM, dRev, dNeg, dIsi, dListRg, dTupRg, dRg1, dRg2, dLc, dIt, dEnum, dZip2, dZip3, dRng1, dRng2, dYes, gN, gT, gsNil, gsCons, gSb, oI, oI0, oAdd, oMulA, oSub, oFdiv, oMod, oPow, oLt, oLe, oGt, oGe, oEq, oNe, oIsN, oNotN, oIsB, oNotB, oIx, oSl, oLen, oSum, oAll, oAny, oAbs, o1I, o2I, oMin2, oMax2, oMin, oMax, oMinL, oMaxL, oInt, oBool, oList, oTuple, oSorted, oIn, oAddI, oGet, oSet, oAppend, oExtend, oPop, oPopAt, oIndexL, oIndexT, oInsert, oRemove, dTupX, dBMX, dLenSet, newL, startD, wipeD, D.tyN, List.map_cons, List.map_nil, List.cons_append, List.nil_append, List.length_cons, List.length_nil, List.getElem?_cons_zero, List.getElem?_cons_succ, List.set_cons_zero, List.set_cons_succ, List.replicate, Nat.sub_self, Nat.reduceSub, Nat.reduceAdd, Nat.zero_add, kb_ii, kb_ib, kb_it, kb_is, kb_bi, kb_bb, kb_bt, kb_bs, kb_tt, kb_ti, kb_ts, kb_ss, kb_si, kb_st, kb_nt, kb_ni, kb_ns, kb_lt, kb_li, kb_ls, ex_some, seq_tup, seq_tpx, itOf_tpx, seq_lst, seq_fz, list_lst, lsts_lst, lsts_fz, itOf_tup, itOf_lst, itOf_fz, now_int, now_bl, now_non, now_str, now_tup, now_lst, isNon_non, isNon_int, isNon_tup, isNon_ref, isNon_lst, isNon_str, isNon_bl]
  exact ⟨trivial, J, one, rfl, g, w.lt, small (by omega), .here (q e one w)⟩
/-- the greatest end is one number -/
theorem Worst.uniq {J : List Jb} {e e' : Int} {i i' : Nat} (w : Worst J e i) (w' : Worst J e' i') : e = e' := by
  have h1 := w.most i' w'.lt
  have h2 := w'.most i w.lt
  rw [w.is, w'.is]; omega
theorem worst_ex {J : List Jb} (g : GJ J) : ∃ e i, Worst J e i := by
  have h1 := g.n1
  have : ∀ n, 0 < n → n ≤ J.length → ∃ i, i < n ∧ ∀ k, k < n → mnw J k ≤ mnw J i := by
    intro n
    induction n with
    | zero => intro h; omega
    | succ n ih =>
      intro _ hn
      by_cases z : n = 0
      · subst z; exact ⟨0, by omega, fun k hk => by rw [show k = 0 by omega]; exact Int.le_refl _⟩
      · obtain ⟨i, hi, hm⟩ := ih (by omega) (by omega)
        by_cases y : mnw J i ≤ mnw J n
        · refine ⟨n, by omega, fun k hk => ?_⟩
          by_cases x : k = n
          · rw [x]; exact Int.le_refl _
          · have := hm k (by omega); omega
        · refine ⟨i, by omega, fun k hk => ?_⟩
          by_cases x : k = n
          · rw [x]; omega
          · exact hm k (by omega)
  obtain ⟨i, hi, hm⟩ := this J.length (by omega) (Nat.le_refl _)
  exact ⟨_, i, hi, rfl, hm⟩
def sp_shows_worst_sequence : DSp := fun ds S Q => ∃ (J : List Jb) (o : List Nat) (e : Int), ds = [eJs J, .tup [.int e, eO o]] ∧ GJ J ∧ Perm_ J.length o ∧ en J o = e ∧ (∃ i, Worst J e i) ∧ Q (.bl true) S
theorem pure_shows_worst_sequence : ∀ ds S Q, sp_shows_worst_sequence ds S Q → t_shows_worst_sequence sp_look_at_jobs sp_told_worst sp_is_int sp_told_ends sp_is_order (DeN Q) (startD N_shows_worst_sequence ds) S := by
  rintro ds S Q ⟨J, o, e, rfl, g, h, he, ⟨i, w⟩, q⟩
  have h60 := g.n60
  unfold t_shows_worst_sequence
  refine seqG fun v hv => ?_
  simp only [dSeq, dNext, dRet, dRetN, dIfS, dAsg, dAsgG, dDrop, dPar2, dPar3, dAug, dAugS, dFor, dOp, dVar, dC, dTest, dChain, dAnd, dOr, dNot, dAndV, dOrV, dNotV, dIf, dTup, dLst, dNil, dCons, dStar, dCB, dCall, dSl, dNoPart, dPart, dBM, dRev, dNeg, dIsi, dListRg, dTupRg, dRg1, dRg2, dLc, dIt, dEnum, dZip2, dZip3, dRng1, dRng2, dYes, gN, gT, gsNil, gsCons, gSb, oI, oI0, oAdd, oMulA, oSub, oFdiv, oMod, oPow, oLt, oLe, oGt, oGe, oEq, oNe, oIsN, oNotN, oIsB, oNotB, oIx, oSl, oLen, oSum, oAll, oAny, oAbs, o1I, o2I, oMin2, oMax2, oMin, oMax, oMinL, oMaxL, oInt, oBool, oList, oTuple, oSorted, oIn, oAddI, oGet, oSet, oAppend, oExtend, oPop, oPopAt, oIndexL, oIndexT, oInsert, oRemove, dTupX, dBMX, dLenSet, newL, startD, wipeD, D.tyN, List.map_cons, List.map_nil, List.cons_append, List.nil_append, List.length_cons, List.length_nil, List.getElem?_cons_zero, List.getElem?_cons_succ, List.set_cons_zero, List.set_cons_succ, List.replicate, Nat.sub_self, Nat.reduceSub, Nat.reduceAdd, Nat.zero_add, kb_ii, kb_ib, kb_it, kb_is, kb_bi, kb_bb, kb_bt, kb_bs, kb_tt, kb_ti, kb_ts, kb_ss, kb_si, kb_st, kb_nt, kb_ni, kb_ns, kb_lt, kb_li, kb_ls, ex_some, seq_tup, seq_tpx, itOf_tpx, seq_lst, seq_fz, list_lst, lsts_lst, lsts_fz, itOf_tup, itOf_lst, itOf_fz, now_int, now_bl, now_non, now_str, now_tup, now_lst, isNon_non, isNon_int, isNon_tup, isNon_ref, isNon_lst, isNon_str, isNon_bl]
  refine ⟨J, rfl, g, ?_⟩
  subst hv
  refine seqG fun v2 hv2 => ?_
  simp only [dSeq, dNext, dRet, dRetN, dIfS, dAsg, dAsgG, dDrop, dPar2, dPar3, dAug, dAugS, dFor, dOp, dVar, dC, dTest, dChain, dAnd, dOr, dNot, dAndV, dOrV, dNotV, dIf, dTup, dLst, dNil, dCons, dStar, dCB, dCall, dSl, dNoPart, dPart, dBM, dRev, dNeg, dIsi, dListRg, dTupRg, dRg1, dRg2, dLc, dIt, dEnum, dZip2, dZip3, dRng1, dRng2, dYes, gN, gT, gsNil, gsCons, gSb, oI, oI0, oAdd, oMulA, oSub, oFdiv, oMod, oPow, oLt, oLe, oGt, oGe, oEq, oNe, oIsN, oNotN, oIsB, oNotB, oIx, oSl, oLen, oSum, oAll, oAny, oAbs, o1I, o2I, oMin2, oMax2, oMin, oMax, oMinL, oMaxL, oInt, oBool, oList, oTuple, oSorted, oIn, oAddI, oGet, oSet, oAppend, oExtend, oPop, oPopAt, oIndexL, oIndexT, oInsert, oRemove, dTupX, dBMX, dLenSet, newL, startD, wipeD, D.tyN, List.map_cons, List.map_nil, List.cons_append, List.nil_append, List.length_cons, List.length_nil, List.getElem?_cons_zero, List.getElem?_cons_succ, List.set_cons_zero, List.set_cons_succ, List.replicate, Nat.sub_self, Nat.reduceSub, Nat.reduceAdd, Nat.zero_add, kb_ii, kb_ib, kb_it, kb_is, kb_bi, kb_bb, kb_bt, kb_bs, kb_tt, kb_ti, kb_ts, kb_ss, kb_si, kb_st, kb_nt, kb_ni, kb_ns, kb_lt, kb_li, kb_ls, ex_some, seq_tup, seq_tpx, itOf_tpx, seq_lst, seq_fz, list_lst, lsts_lst, lsts_fz, itOf_tup, itOf_lst, itOf_fz, now_int, now_bl, now_non, now_str, now_tup, now_lst, isNon_non, isNon_int, isNon_tup, isNon_ref, isNon_lst, isNon_str, isNon_bl]
  refine ⟨J, rfl, g, fun e2 i2 w2 => ?_⟩
  rw [w2.uniq w]
  simp only [dSeq, dNext, dRet, dRetN, dIfS, dAsg, dAsgG, dDrop, dPar2, dPar3, dAug, dAugS, dFor, dOp, dVar, dC, dTest, dChain, dAnd, dOr, dNot, dAndV, dOrV, dNotV, dIf, dTup, dLst, dNil, dCons, dStar, dCB, dCall, dSl, dNoPart, dPart, dBM, dRev, dNeg, dIsi, dListRg, dTupRg, dRg1, dRg2, dLc, dIt, dEnum, dZip2, dZip3, dRng1, dRng2, dYes, gN, gT, gsNil, gsCons, gSb, oI, oI0, oAdd, oMulA, oSub, oFdiv, oMod, oPow, oLt, oLe, oGt, oGe, oEq, oNe, oIsN, oNotN, oIsB, oNotB, oIx, oSl, oLen, oSum, oAll, oAny, oAbs, o1I, o2I, oMin2, oMax2, oMin, oMax, oMinL, oMaxL, oInt, oBool, oList, oTuple, oSorted, oIn, oAddI, oGet, oSet, oAppend, oExtend, oPop, oPopAt, oIndexL, oIndexT, oInsert, oRemove, dTupX, dBMX, dLenSet, newL, startD, wipeD, D.tyN, List.map_cons, List.map_nil, List.cons_append, List.nil_append, List.length_cons, List.length_nil, List.getElem?_cons_zero, List.getElem?_cons_succ, List.set_cons_zero, List.set_cons_succ, List.replicate, Nat.sub_self, Nat.reduceSub, Nat.reduceAdd, Nat.zero_add, kb_ii, kb_ib, kb_it, kb_is, kb_bi, kb_bb, kb_bt, kb_bs, kb_tt, kb_ti, kb_ts, kb_ss, kb_si, kb_st, kb_nt, kb_ni, kb_ns, kb_lt, kb_li, kb_ls, ex_some, seq_tup, seq_tpx, itOf_tpx, seq_lst, seq_fz, list_lst, lsts_lst, lsts_fz, itOf_tup, itOf_lst, itOf_fz, now_int, now_bl, now_non, now_str, now_tup, now_lst, isNon_non, isNon_int, isNon_tup, isNon_ref, isNon_lst, isNon_str, isNon_bl, a20]
  subst hv2
  refine seqG fun v3 hv3 => ?_
  simp only [dSeq, dNext, dRet, dRetN, dIfS, dAsg, dAsgG, dDrop, dPar2, dPar3, dAug, dAugS, dFor, dOp, dVar, dC, dTest, dChain, dAnd, dOr, dNot, dAndV, dOrV, dNotV, dIf, dTup, dLst, dNil, dCons, dStar, dCB, dCall, dSl, dNoPart, dPart, dBM, dRev, dNeg, dIsi, dListRg, dTupRg, dRg1, dRg2, dLc, dIt, dEnum, dZip2, dZip3, dRng1, dRng2, dYes, gN, gT, gsNil, gsCons, gSb, oI, oI0, oAdd, oMulA, oSub, oFdiv, oMod, oPow, oLt, oLe, oGt, oGe, oEq, oNe, oIsN, oNotN, oIsB, oNotB, oIx, oSl, oLen, oSum, oAll, oAny, oAbs, o1I, o2I, oMin2, oMax2, oMin, oMax, oMinL, oMaxL, oInt, oBool, oList, oTuple, oSorted, oIn, oAddI, oGet, oSet, oAppend, oExtend, oPop, oPopAt, oIndexL, oIndexT, oInsert, oRemove, dTupX, dBMX, dLenSet, newL, startD, wipeD, D.tyN, List.map_cons, List.map_nil, List.cons_append, List.nil_append, List.length_cons, List.length_nil, List.getElem?_cons_zero, List.getElem?_cons_succ, List.set_cons_zero, List.set_cons_succ, List.replicate, Nat.sub_self, Nat.reduceSub, Nat.reduceAdd, Nat.zero_add, kb_ii, kb_ib, kb_it, kb_is, kb_bi, kb_bb, kb_bt, kb_bs, kb_tt, kb_ti, kb_ts, kb_ss, kb_si, kb_st, kb_nt, kb_ni, kb_ns, kb_lt, kb_li, kb_ls, ex_some, seq_tup, seq_tpx, itOf_tpx, seq_lst, seq_fz, list_lst, lsts_lst, lsts_fz, itOf_tup, itOf_lst, itOf_fz, now_int, now_bl, now_non, now_str, now_tup, now_lst, isNon_non, isNon_int, isNon_tup, isNon_ref, isNon_lst, isNon_str, isNon_bl, a20, a21]
  rw [eqD_int, decide_eq_true (show (((2 : Nat) : Int) = 2) from rfl)]
  simp only [Bool.not_true, Bool.not_false]
  refine ⟨⟨okn_int, okn_int⟩, e, e, e, rfl, ?_⟩
  rw [decide_eq_true (Int.le_refl e)]
  simp only [Bool.and_true, Bool.not_true]
  subst hv3
  simp only [dSeq, dNext, dRet, dRetN, dIfS, dAsg, dAsgG, dDrop, dPar2, dPar3, dAug, dAugS, dFor, dOp, dVar, dC, dTest, dChain, dAnd, dOr, dNot, dAndV, dOrV, dNotV, dIf, dTup, dLst, dNil, dCons, dStar, dCB, dCall, dSl, dNoPart, dPart, dBM, dRev, dNeg, dIsi, dListRg, dTupRg, dRg1, dRg2, dLc, dIt, dEnum, dZip2, dZip3, dRng1, dRng2, dYes, gN, gT, gsNil, gsCons, gSb, oI, oI0, oAdd, oMulA, oSub, oFdiv, oMod, oPow, oLt, oLe, oGt, oGe, oEq, oNe, oIsN, oNotN, oIsB, oNotB, oIx, oSl, oLen, oSum, oAll, oAny, oAbs, o1I, o2I, oMin2, oMax2, oMin, oMax, oMinL, oMaxL, oInt, oBool, oList, oTuple, oSorted, oIn, oAddI, oGet, oSet, oAppend, oExtend, oPop, oPopAt, oIndexL, oIndexT, oInsert, oRemove, dTupX, dBMX, dLenSet, newL, startD, wipeD, D.tyN, List.map_cons, List.map_nil, List.cons_append, List.nil_append, List.length_cons, List.length_nil, List.getElem?_cons_zero, List.getElem?_cons_succ, List.set_cons_zero, List.set_cons_succ, List.replicate, Nat.sub_self, Nat.reduceSub, Nat.reduceAdd, Nat.zero_add, kb_ii, kb_ib, kb_it, kb_is, kb_bi, kb_bb, kb_bt, kb_bs, kb_tt, kb_ti, kb_ts, kb_ss, kb_si, kb_st, kb_nt, kb_ni, kb_ns, kb_lt, kb_li, kb_ls, ex_some, seq_tup, seq_tpx, itOf_tpx, seq_lst, seq_fz, list_lst, lsts_lst, lsts_fz, itOf_tup, itOf_lst, itOf_fz, now_int, now_bl, now_non, now_str, now_tup, now_lst, isNon_non, isNon_int, isNon_tup, isNon_ref, isNon_lst, isNon_str, isNon_bl, a21, eO, eJs]
  refine ⟨o, J.length, by rw [List.length_map], h, by omega, ?_⟩
  simp only [dSeq, dNext, dRet, dRetN, dIfS, dAsg, dAsgG, dDrop, dPar2, dPar3, dAug, dAugS, dFor, dOp, dVar, dC, dTest, dChain, dAnd, dOr, dNot, dAndV, dOrV, dNotV, dIf, dTup, dLst, dNil, dCons, dStar, dCB, dCall, dSl, dNoPart, dPart, dBM, dRev, dNeg, dIsi, dListRg, dTupRg, dRg1, dRg2, dLc, dIt, dEnum, dZip2, dZip3, dRng1, dRng2, dYes, gN, gT, gsNil, gsCons, gSb, oI, oI0, oAdd, oMulA, oSub, oFdiv, oMod, oPow, oLt, oLe, oGt, oGe, oEq, oNe, oIsN, oNotN, oIsB, oNotB, oIx, oSl, oLen, oSum, oAll, oAny, oAbs, o1I, o2I, oMin2, oMax2, oMin, oMax, oMinL, oMaxL, oInt, oBool, oList, oTuple, oSorted, oIn, oAddI, oGet, oSet, oAppend, oExtend, oPop, oPopAt, oIndexL, oIndexT, oInsert, oRemove, dTupX, dBMX, dLenSet, newL, startD, wipeD, D.tyN, List.map_cons, List.map_nil, List.cons_append, List.nil_append, List.length_cons, List.length_nil, List.getElem?_cons_zero, List.getElem?_cons_succ, List.set_cons_zero, List.set_cons_succ, List.replicate, Nat.sub_self, Nat.reduceSub, Nat.reduceAdd, Nat.zero_add, kb_ii, kb_ib, kb_it, kb_is, kb_bi, kb_bb, kb_bt, kb_bs, kb_tt, kb_ti, kb_ts, kb_ss, kb_si, kb_st, kb_nt, kb_ni, kb_ns, kb_lt, kb_li, kb_ls, ex_some, seq_tup, seq_tpx, itOf_tpx, seq_lst, seq_fz, list_lst, lsts_lst, lsts_fz, itOf_tup, itOf_lst, itOf_fz, now_int, now_bl, now_non, now_str, now_tup, now_lst, isNon_non, isNon_int, isNon_tup, isNon_ref, isNon_lst, isNon_str, isNon_bl]
  refine ⟨J, o, rfl, fun i hi => h.lt hi, by rw [h.len]; omega, ?_⟩
  simp only [dSeq, dNext, dRet, dRetN, dIfS, dAsg, dAsgG, dDrop, dPar2, dPar3, dAug, dAugS, dFor, dOp, dVar, dC, dTest, dChain, dAnd, dOr, dNot, dAndV, dOrV, dNotV, dIf, dTup, dLst, dNil, dCons, dStar, dCB, dCall, dSl, dNoPart, dPart, dBM, dRev, dNeg, dIsi, dListRg, dTupRg, dRg1, dRg2, dLc, dIt, dEnum, dZip2, dZip3, dRng1, dRng2, dYes, gN, gT, gsNil, gsCons, gSb, oI, oI0, oAdd, oMulA, oSub, oFdiv, oMod, oPow, oLt, oLe, oGt, oGe, oEq, oNe, oIsN, oNotN, oIsB, oNotB, oIx, oSl, oLen, oSum, oAll, oAny, oAbs, o1I, o2I, oMin2, oMax2, oMin, oMax, oMinL, oMaxL, oInt, oBool, oList, oTuple, oSorted, oIn, oAddI, oGet, oSet, oAppend, oExtend, oPop, oPopAt, oIndexL, oIndexT, oInsert, oRemove, dTupX, dBMX, dLenSet, newL, startD, wipeD, D.tyN, List.map_cons, List.map_nil, List.cons_append, List.nil_append, List.length_cons, List.length_nil, List.getElem?_cons_zero, List.getElem?_cons_succ, List.set_cons_zero, List.set_cons_succ, List.replicate, Nat.sub_self, Nat.reduceSub, Nat.reduceAdd, Nat.zero_add, kb_ii, kb_ib, kb_it, kb_is, kb_bi, kb_bb, kb_bt, kb_bs, kb_tt, kb_ti, kb_ts, kb_ss, kb_si, kb_st, kb_nt, kb_ni, kb_ns, kb_lt, kb_li, kb_ls, ex_some, seq_tup, seq_tpx, itOf_tpx, seq_lst, seq_fz, list_lst, lsts_lst, lsts_fz, itOf_tup, itOf_lst, itOf_fz, now_int, now_bl, now_non, now_str, now_tup, now_lst, isNon_non, isNon_int, isNon_tup, isNon_ref, isNon_lst, isNon_str, isNon_bl, ends_at_last (g.ne h), a21]
  rw [he, eqD_int, decide_eq_true rfl]
  exact ⟨⟨okn_int, okn_int⟩, .here q⟩
end L73
namespace L73
open PySem PySem.Spec PySem.W PyProof.Rows L2 PL
def sp_look_at_end : DSp := fun ds S Q => ∃ (J : List Jb) (e : Int), ds = [eJs J, .int e] ∧ GJ J ∧ 0 ≤ e ∧ e ≤ 1000000 ∧ Q .non S
theorem pure_look_at_end : ∀ ds S Q, sp_look_at_end ds S Q → t_look_at_end sp_look_at_jobs sp_is_int (DeN Q) (startD N_look_at_end ds) S := by
  rintro ds S Q ⟨J, e, rfl, g, h0, h1, q⟩
  simp only [t_look_at_end, dSeq, dNext, dRet, dRetN, dIfS, dAsg, dAsgG, dDrop, dPar2, dPar3, dAug, dAugS, dFor, dOp, dVar, dC, dTest, dChain, dAnd, dOr, dNot, dAndV, dOrV, dNotV, dIf, dTup, dLst, dNil, dCons, dStar, dCB, dCall, dSl, dNoPart, dPart, dBM, dRev, dNeg, dIsi, dListRg, dTupRg, dRg1, dRg2, dLc, dIt, dEnum, dZip2, dZip3, dRng1, dRng2, dYes, gN, gT, gsNil, gsCons, gSb, oI, oI0, oAdd, oMulA, oSub, oFdiv, oMod, oPow, oLt, oLe, oGt, oGe, oEq, oNe, oIsN, oNotN, oIsB, oNotB, oIx, oSl, oLen, oSum, oAll, oAny, oAbs, o1I, o2I, oMin2, oMax2, oMin, oMax, oMinL, oMaxL, oInt, oBool, oList, oTuple, oSorted, oIn, oAddI, oGet, oSet, oAppend, oExtend, oPop, oPopAt, oIndexL, oIndexT, oInsert, oRemove, dTupX, dBMX, dLenSet, newL, startD, wipeD, D.tyN, List.map_cons, List.map_nil, List.cons_append, List.nil_append, List.length_cons, List.length_nil, List.getElem?_cons_zero, List.getElem?_cons_succ, List.set_cons_zero, List.set_cons_succ, List.replicate, Nat.sub_self, Nat.reduceSub, Nat.reduceAdd, Nat.zero_add, kb_ii, kb_ib, kb_it, kb_is, kb_bi, kb_bb, kb_bt, kb_bs, kb_tt, kb_ti, kb_ts, kb_ss, kb_si, kb_st, kb_nt, kb_ni, kb_ns, kb_lt, kb_li, kb_ls, ex_some, seq_tup, seq_tpx, itOf_tpx, seq_lst, seq_fz, list_lst, lsts_lst, lsts_fz, itOf_tup, itOf_lst, itOf_fz, now_int, now_bl, now_non, now_str, now_tup, now_lst, isNon_non, isNon_int, isNon_tup, isNon_ref, isNon_lst, isNon_str, isNon_bl]
  refine ⟨J, rfl, g, e, 0, 1000000, rfl, ?_⟩
  rw [decide_eq_true h0, decide_eq_true h1]
  simp only [Bool.and_true, Bool.not_true]
  exact .here q
def sp_always_done : DSp := fun ds S Q => ∃ (J : List Jb) (e : Int), ds = [eJs J, .int e] ∧ GJ J ∧ 0 ≤ e ∧ e ≤ 1000000 ∧ ∀ m one, Worst J m one → (m ≤ e → Q (.tup [.str "every"]) S) ∧ (e < m → Q (.tup [.str "late", eO (wo J one), .int (one : Nat)]) S)
theorem pure_always_done : ∀ ds S Q, sp_always_done ds S Q → t_always_done sp_look_at_end sp_told_worst sp_told_worst_order (DeN Q) (startD N_always_done ds) S := by
  rintro ds S Q ⟨J, e, rfl, g, h0, h1, q⟩
  simp only [t_always_done, dSeq, dNext, dRet, dRetN, dIfS, dAsg, dAsgG, dDrop, dPar2, dPar3, dAug, dAugS, dFor, dOp, dVar, dC, dTest, dChain, dAnd, dOr, dNot, dAndV, dOrV, dNotV, dIf, dTup, dLst, dNil, dCons, dStar, dCB, dCall, dSl, dNoPart, dPart, dBM, dRev, dNeg, dIsi, dListRg, dTupRg, dRg1, dRg2, dLc, dIt, dEnum, dZip2, dZip3, dRng1, dRng2, dYes, gN, gT, gsNil, gsCons, gSb, oI, oI0, oAdd, oMulA, oSub, oFdiv, oMod, oPow, oLt, oLe, oGt, oGe, oEq, oNe, oIsN, oNotN, oIsB, oNotB, oIx, oSl, oLen, oSum, oAll, oAny, oAbs, o1I, o2I, oMin2, oMax2, oMin, oMax, oMinL, oMaxL, oInt, oBool, oList, oTuple, oSorted, oIn, oAddI, oGet, oSet, oAppend, oExtend, oPop, oPopAt, oIndexL, oIndexT, oInsert, oRemove, dTupX, dBMX, dLenSet, newL, startD, wipeD, D.tyN, List.map_cons, List.map_nil, List.cons_append, List.nil_append, List.length_cons, List.length_nil, List.getElem?_cons_zero, List.getElem?_cons_succ, List.set_cons_zero, List.set_cons_succ, List.replicate, Nat.sub_self, Nat.reduceSub, Nat.reduceAdd, Nat.zero_add, kb_ii, kb_ib, kb_it, kb_is, kb_bi, kb_bb, kb_bt, kb_bs, kb_tt, kb_ti, kb_ts, kb_ss, kb_si, kb_st, kb_nt, kb_ni, kb_ns, kb_lt, kb_li, kb_ls, ex_some, seq_tup, seq_tpx, itOf_tpx, seq_lst, seq_fz, list_lst, lsts_lst, lsts_fz, itOf_tup, itOf_lst, itOf_fz, now_int, now_bl, now_non, now_str, now_tup, now_lst, isNon_non, isNon_int, isNon_tup, isNon_ref, isNon_lst, isNon_str, isNon_bl]
  refine ⟨J, e, rfl, g, h0, h1, J, rfl, g, fun m one w => ?_⟩
  obtain ⟨q1, q2⟩ := q m one w
  simp only [dSeq, dNext, dRet, dRetN, dIfS, dAsg, dAsgG, dDrop, dPar2, dPar3, dAug, dAugS, dFor, dOp, dVar, dC, dTest, dChain, dAnd, dOr, dNot, dAndV, dOrV, dNotV, dIf, dTup, dLst, dNil, dCons, dStar, dCB, dCall, dSl, dNoPart, dPart, dBM, dRev, dNeg, dIsi, dListRg, dTupRg, dRg1, dRg2, dLc, dIt, dEnum, dZip2, dZip3, dRng1, dRng2, dYes, gN, gT, gsNil, gsCons, gSb, oI, oI0, oAdd, oMulA, oSub, oFdiv, oMod, oPow, oLt, oLe, oGt, oGe, oEq, oNe, oIsN, oNotN, oIsB, oNotB, oIx, oSl, oLen, oSum, oAll, oAny, oAbs, o1I, o2I, oMin2, oMax2, oMin, oMax, oMinL, oMaxL, oInt, oBool, oList, oTuple, oSorted, oIn, oAddI, oGet, oSet, oAppend, oExtend, oPop, oPopAt, oIndexL, oIndexT, oInsert, oRemove, dTupX, dBMX, dLenSet, newL, startD, wipeD, D.tyN, List.map_cons, List.map_nil, List.cons_append, List.nil_append, List.length_cons, List.length_nil, List.getElem?_cons_zero, List.getElem?_cons_succ, List.set_cons_zero, List.set_cons_succ, List.replicate, Nat.sub_self, Nat.reduceSub, Nat.reduceAdd, Nat.zero_add, kb_ii, kb_ib, kb_it, kb_is, kb_bi, kb_bb, kb_bt, kb_bs, kb_tt, kb_ti, kb_ts, kb_ss, kb_si, kb_st, kb_nt, kb_ni, kb_ns, kb_lt, kb_li, kb_ls, ex_some, seq_tup, seq_tpx, itOf_tpx, seq_lst, seq_fz, list_lst, lsts_lst, lsts_fz, itOf_tup, itOf_lst, itOf_fz, now_int, now_bl, now_non, now_str, now_tup, now_lst, isNon_non, isNon_int, isNon_tup, isNon_ref, isNon_lst, isNon_str, isNon_bl]
  refine ⟨trivial, ?_⟩
  by_cases z : m ≤ e
  · rw [decide_eq_true z]
    exact ⟨small (by omega), .here (q1 z)⟩
  · rw [decide_eq_false z]
    exact ⟨J, one, rfl, g, w.lt, small (by omega), .here (q2 (by omega))⟩
def sp_shows_always_done : DSp := fun ds S Q => ∃ (J : List Jb) (e : Int) (o : List Nat) (k one : Nat), ds = [eJs J, .int e, .tup [.str "late", .tpx (o.map nI), .int (one : Nat)]] ∧ GJ J ∧ 0 ≤ e ∧ e ≤ 1000000 ∧ Perm_ J.length o ∧ o[k]? = some one ∧ Q (.bl (decide (crit J o k > e))) S
theorem pure_shows_always_done : ∀ ds S Q, sp_shows_always_done ds S Q → t_shows_always_done sp_look_at_end sp_is_told sp_told_worst sp_is_order sp_is_int (DeN Q) (startD N_shows_always_done ds) S := by
  rintro ds S Q ⟨J, e, o, k, one, rfl, g, h0, h1, h, hk, q⟩
  unfold t_shows_always_done
  refine seqG fun v hv => ?_
  simp only [dSeq, dNext, dRet, dRetN, dIfS, dAsg, dAsgG, dDrop, dPar2, dPar3, dAug, dAugS, dFor, dOp, dVar, dC, dTest, dChain, dAnd, dOr, dNot, dAndV, dOrV, dNotV, dIf, dTup, dLst, dNil, dCons, dStar, dCB, dCall, dSl, dNoPart, dPart, dBM, dRev, dNeg, dIsi, dListRg, dTupRg, dRg1, dRg2, dLc, dIt, dEnum, dZip2, dZip3, dRng1, dRng2, dYes, gN, gT, gsNil, gsCons, gSb, oI, oI0, oAdd, oMulA, oSub, oFdiv, oMod, oPow, oLt, oLe, oGt, oGe, oEq, oNe, oIsN, oNotN, oIsB, oNotB, oIx, oSl, oLen, oSum, oAll, oAny, oAbs, o1I, o2I, oMin2, oMax2, oMin, oMax, oMinL, oMaxL, oInt, oBool, oList, oTuple, oSorted, oIn, oAddI, oGet, oSet, oAppend, oExtend, oPop, oPopAt, oIndexL, oIndexT, oInsert, oRemove, dTupX, dBMX, dLenSet, newL, startD, wipeD, D.tyN, List.map_cons, List.map_nil, List.cons_append, List.nil_append, List.length_cons, List.length_nil, List.getElem?_cons_zero, List.getElem?_cons_succ, List.set_cons_zero, List.set_cons_succ, List.replicate, Nat.sub_self, Nat.reduceSub, Nat.reduceAdd, Nat.zero_add, kb_ii, kb_ib, kb_it, kb_is, kb_bi, kb_bb, kb_bt, kb_bs, kb_tt, kb_ti, kb_ts, kb_ss, kb_si, kb_st, kb_nt, kb_ni, kb_ns, kb_lt, kb_li, kb_ls, ex_some, seq_tup, seq_tpx, itOf_tpx, seq_lst, seq_fz, list_lst, lsts_lst, lsts_fz, itOf_tup, itOf_lst, itOf_fz, now_int, now_bl, now_non, now_str, now_tup, now_lst, isNon_non, isNon_int, isNon_tup, isNon_ref, isNon_lst, isNon_str, isNon_bl]
  refine ⟨_, .same (.same .nil), J, e, rfl, g, h0, h1, ?_⟩
  subst hv
  refine seqG fun v2 hv2 => ?_
  simp only [dSeq, dNext, dRet, dRetN, dIfS, dAsg, dAsgG, dDrop, dPar2, dPar3, dAug, dAugS, dFor, dOp, dVar, dC, dTest, dChain, dAnd, dOr, dNot, dAndV, dOrV, dNotV, dIf, dTup, dLst, dNil, dCons, dStar, dCB, dCall, dSl, dNoPart, dPart, dBM, dRev, dNeg, dIsi, dListRg, dTupRg, dRg1, dRg2, dLc, dIt, dEnum, dZip2, dZip3, dRng1, dRng2, dYes, gN, gT, gsNil, gsCons, gSb, oI, oI0, oAdd, oMulA, oSub, oFdiv, oMod, oPow, oLt, oLe, oGt, oGe, oEq, oNe, oIsN, oNotN, oIsB, oNotB, oIx, oSl, oLen, oSum, oAll, oAny, oAbs, o1I, o2I, oMin2, oMax2, oMin, oMax, oMinL, oMaxL, oInt, oBool, oList, oTuple, oSorted, oIn, oAddI, oGet, oSet, oAppend, oExtend, oPop, oPopAt, oIndexL, oIndexT, oInsert, oRemove, dTupX, dBMX, dLenSet, newL, startD, wipeD, D.tyN, List.map_cons, List.map_nil, List.cons_append, List.nil_append, List.length_cons, List.length_nil, List.getElem?_cons_zero, List.getElem?_cons_succ, List.set_cons_zero, List.set_cons_succ, List.replicate, Nat.sub_self, Nat.reduceSub, Nat.reduceAdd, Nat.zero_add, kb_ii, kb_ib, kb_it, kb_is, kb_bi, kb_bb, kb_bt, kb_bs, kb_tt, kb_ti, kb_ts, kb_ss, kb_si, kb_st, kb_nt, kb_ni, kb_ns, kb_lt, kb_li, kb_ls, ex_some, seq_tup, seq_tpx, itOf_tpx, seq_lst, seq_fz, list_lst, lsts_lst, lsts_fz, itOf_tup, itOf_lst, itOf_fz, now_int, now_bl, now_non, now_str, now_tup, now_lst, isNon_non, isNon_int, isNon_tup, isNon_ref, isNon_lst, isNon_str, isNon_bl]
  refine ⟨small (by omega), _, .same (.same .nil), _, _, rfl, .inr rfl, ?_⟩
  simp only [Bool.not_true]
  subst hv2
  refine seqG fun v3 hv3 => ?_
  simp only [dSeq, dNext, dRet, dRetN, dIfS, dAsg, dAsgG, dDrop, dPar2, dPar3, dAug, dAugS, dFor, dOp, dVar, dC, dTest, dChain, dAnd, dOr, dNot, dAndV, dOrV, dNotV, dIf, dTup, dLst, dNil, dCons, dStar, dCB, dCall, dSl, dNoPart, dPart, dBM, dRev, dNeg, dIsi, dListRg, dTupRg, dRg1, dRg2, dLc, dIt, dEnum, dZip2, dZip3, dRng1, dRng2, dYes, gN, gT, gsNil, gsCons, gSb, oI, oI0, oAdd, oMulA, oSub, oFdiv, oMod, oPow, oLt, oLe, oGt, oGe, oEq, oNe, oIsN, oNotN, oIsB, oNotB, oIx, oSl, oLen, oSum, oAll, oAny, oAbs, o1I, o2I, oMin2, oMax2, oMin, oMax, oMinL, oMaxL, oInt, oBool, oList, oTuple, oSorted, oIn, oAddI, oGet, oSet, oAppend, oExtend, oPop, oPopAt, oIndexL, oIndexT, oInsert, oRemove, dTupX, dBMX, dLenSet, newL, startD, wipeD, D.tyN, List.map_cons, List.map_nil, List.cons_append, List.nil_append, List.length_cons, List.length_nil, List.getElem?_cons_zero, List.getElem?_cons_succ, List.set_cons_zero, List.set_cons_succ, List.replicate, Nat.sub_self, Nat.reduceSub, Nat.reduceAdd, Nat.zero_add, kb_ii, kb_ib, kb_it, kb_is, kb_bi, kb_bb, kb_bt, kb_bs, kb_tt, kb_ti, kb_ts, kb_ss, kb_si, kb_st, kb_nt, kb_ni, kb_ns, kb_lt, kb_li, kb_ls, ex_some, seq_tup, seq_tpx, itOf_tpx, seq_lst, seq_fz, list_lst, lsts_lst, lsts_fz, itOf_tup, itOf_lst, itOf_fz, now_int, now_bl, now_non, now_str, now_tup, now_lst, isNon_non, isNon_int, isNon_tup, isNon_ref, isNon_lst, isNon_str, isNon_bl]
  refine ⟨⟨okn_int, okn_int⟩, ?_⟩
  rw [eqD_int, decide_eq_false (by decide)]
  have ho : one ∈ o := List.mem_of_getElem? hk
  have hlt := h.lt ho
  have h60 := g.n60
  obtain ⟨hko, hke⟩ := List.getElem?_eq_some_iff.mp hk
  subst hv3
  refine seqG fun v4 hv4 => ?_
  simp only [dSeq, dNext, dRet, dRetN, dIfS, dAsg, dAsgG, dDrop, dPar2, dPar3, dAug, dAugS, dFor, dOp, dVar, dC, dTest, dChain, dAnd, dOr, dNot, dAndV, dOrV, dNotV, dIf, dTup, dLst, dNil, dCons, dStar, dCB, dCall, dSl, dNoPart, dPart, dBM, dRev, dNeg, dIsi, dListRg, dTupRg, dRg1, dRg2, dLc, dIt, dEnum, dZip2, dZip3, dRng1, dRng2, dYes, gN, gT, gsNil, gsCons, gSb, oI, oI0, oAdd, oMulA, oSub, oFdiv, oMod, oPow, oLt, oLe, oGt, oGe, oEq, oNe, oIsN, oNotN, oIsB, oNotB, oIx, oSl, oLen, oSum, oAll, oAny, oAbs, o1I, o2I, oMin2, oMax2, oMin, oMax, oMinL, oMaxL, oInt, oBool, oList, oTuple, oSorted, oIn, oAddI, oGet, oSet, oAppend, oExtend, oPop, oPopAt, oIndexL, oIndexT, oInsert, oRemove, dTupX, dBMX, dLenSet, newL, startD, wipeD, D.tyN, List.map_cons, List.map_nil, List.cons_append, List.nil_append, List.length_cons, List.length_nil, List.getElem?_cons_zero, List.getElem?_cons_succ, List.set_cons_zero, List.set_cons_succ, List.replicate, Nat.sub_self, Nat.reduceSub, Nat.reduceAdd, Nat.zero_add, kb_ii, kb_ib, kb_it, kb_is, kb_bi, kb_bb, kb_bt, kb_bs, kb_tt, kb_ti, kb_ts, kb_ss, kb_si, kb_st, kb_nt, kb_ni, kb_ns, kb_lt, kb_li, kb_ls, ex_some, seq_tup, seq_tpx, itOf_tpx, seq_lst, seq_fz, list_lst, lsts_lst, lsts_fz, itOf_tup, itOf_lst, itOf_fz, now_int, now_bl, now_non, now_str, now_tup, now_lst, isNon_non, isNon_int, isNon_tup, isNon_ref, isNon_lst, isNon_str, isNon_bl, a30, a31, a32]
  refine ⟨⟨okn_str (by decide +kernel), okn_str (by decide +kernel)⟩, ?_⟩
  rw [eqD_refl (n := 8) (okn_str (by decide +kernel))]
  simp only [Bool.not_true, dSeq, dNext, dRet, dRetN, dIfS, dAsg, dAsgG, dDrop, dPar2, dPar3, dAug, dAugS, dFor, dOp, dVar, dC, dTest, dChain, dAnd, dOr, dNot, dAndV, dOrV, dNotV, dIf, dTup, dLst, dNil, dCons, dStar, dCB, dCall, dSl, dNoPart, dPart, dBM, dRev, dNeg, dIsi, dListRg, dTupRg, dRg1, dRg2, dLc, dIt, dEnum, dZip2, dZip3, dRng1, dRng2, dYes, gN, gT, gsNil, gsCons, gSb, oI, oI0, oAdd, oMulA, oSub, oFdiv, oMod, oPow, oLt, oLe, oGt, oGe, oEq, oNe, oIsN, oNotN, oIsB, oNotB, oIx, oSl, oLen, oSum, oAll, oAny, oAbs, o1I, o2I, oMin2, oMax2, oMin, oMax, oMinL, oMaxL, oInt, oBool, oList, oTuple, oSorted, oIn, oAddI, oGet, oSet, oAppend, oExtend, oPop, oPopAt, oIndexL, oIndexT, oInsert, oRemove, dTupX, dBMX, dLenSet, newL, startD, wipeD, D.tyN, List.map_cons, List.map_nil, List.cons_append, List.nil_append, List.length_cons, List.length_nil, List.getElem?_cons_zero, List.getElem?_cons_succ, List.set_cons_zero, List.set_cons_succ, List.replicate, Nat.sub_self, Nat.reduceSub, Nat.reduceAdd, Nat.zero_add, kb_ii, kb_ib, kb_it, kb_is, kb_bi, kb_bb, kb_bt, kb_bs, kb_tt, kb_ti, kb_ts, kb_ss, kb_si, kb_st, kb_nt, kb_ni, kb_ns, kb_lt, kb_li, kb_ls, ex_some, seq_tup, seq_tpx, itOf_tpx, seq_lst, seq_fz, list_lst, lsts_lst, lsts_fz, itOf_tup, itOf_lst, itOf_fz, now_int, now_bl, now_non, now_str, now_tup, now_lst, isNon_non, isNon_int, isNon_tup, isNon_ref, isNon_lst, isNon_str, isNon_bl, eJs]
  refine ⟨_, .tpx (.same .nil), o, J.length, by rw [List.length_map], h, by omega, ?_⟩
  simp only [Bool.not_true, dSeq, dNext, dRet, dRetN, dIfS, dAsg, dAsgG, dDrop, dPar2, dPar3, dAug, dAugS, dFor, dOp, dVar, dC, dTest, dChain, dAnd, dOr, dNot, dAndV, dOrV, dNotV, dIf, dTup, dLst, dNil, dCons, dStar, dCB, dCall, dSl, dNoPart, dPart, dBM, dRev, dNeg, dIsi, dListRg, dTupRg, dRg1, dRg2, dLc, dIt, dEnum, dZip2, dZip3, dRng1, dRng2, dYes, gN, gT, gsNil, gsCons, gSb, oI, oI0, oAdd, oMulA, oSub, oFdiv, oMod, oPow, oLt, oLe, oGt, oGe, oEq, oNe, oIsN, oNotN, oIsB, oNotB, oIx, oSl, oLen, oSum, oAll, oAny, oAbs, o1I, o2I, oMin2, oMax2, oMin, oMax, oMinL, oMaxL, oInt, oBool, oList, oTuple, oSorted, oIn, oAddI, oGet, oSet, oAppend, oExtend, oPop, oPopAt, oIndexL, oIndexT, oInsert, oRemove, dTupX, dBMX, dLenSet, newL, startD, wipeD, D.tyN, List.map_cons, List.map_nil, List.cons_append, List.nil_append, List.length_cons, List.length_nil, List.getElem?_cons_zero, List.getElem?_cons_succ, List.set_cons_zero, List.set_cons_succ, List.replicate, Nat.sub_self, Nat.reduceSub, Nat.reduceAdd, Nat.zero_add, kb_ii, kb_ib, kb_it, kb_is, kb_bi, kb_bb, kb_bt, kb_bs, kb_tt, kb_ti, kb_ts, kb_ss, kb_si, kb_st, kb_nt, kb_ni, kb_ns, kb_lt, kb_li, kb_ls, ex_some, seq_tup, seq_tpx, itOf_tpx, seq_lst, seq_fz, list_lst, lsts_lst, lsts_fz, itOf_tup, itOf_lst, itOf_fz, now_int, now_bl, now_non, now_str, now_tup, now_lst, isNon_non, isNon_int, isNon_tup, isNon_ref, isNon_lst, isNon_str, isNon_bl]
  refine ⟨_, .same (.same (.same .nil)), (one : Nat), 0, ((J.map eP).length : Nat) - 1, rfl, ?_⟩
  rw [List.length_map, decide_eq_true (by omega), decide_eq_true (by omega)]
  simp only [Bool.and_true, Bool.not_true]
  subst hv4
  refine seqG fun v5 hv5 => ?_
  simp only [dSeq, dNext, dRet, dRetN, dIfS, dAsg, dAsgG, dDrop, dPar2, dPar3, dAug, dAugS, dFor, dOp, dVar, dC, dTest, dChain, dAnd, dOr, dNot, dAndV, dOrV, dNotV, dIf, dTup, dLst, dNil, dCons, dStar, dCB, dCall, dSl, dNoPart, dPart, dBM, dRev, dNeg, dIsi, dListRg, dTupRg, dRg1, dRg2, dLc, dIt, dEnum, dZip2, dZip3, dRng1, dRng2, dYes, gN, gT, gsNil, gsCons, gSb, oI, oI0, oAdd, oMulA, oSub, oFdiv, oMod, oPow, oLt, oLe, oGt, oGe, oEq, oNe, oIsN, oNotN, oIsB, oNotB, oIx, oSl, oLen, oSum, oAll, oAny, oAbs, o1I, o2I, oMin2, oMax2, oMin, oMax, oMinL, oMaxL, oInt, oBool, oList, oTuple, oSorted, oIn, oAddI, oGet, oSet, oAppend, oExtend, oPop, oPopAt, oIndexL, oIndexT, oInsert, oRemove, dTupX, dBMX, dLenSet, newL, startD, wipeD, D.tyN, List.map_cons, List.map_nil, List.cons_append, List.nil_append, List.length_cons, List.length_nil, List.getElem?_cons_zero, List.getElem?_cons_succ, List.set_cons_zero, List.set_cons_succ, List.replicate, Nat.sub_self, Nat.reduceSub, Nat.reduceAdd, Nat.zero_add, kb_ii, kb_ib, kb_it, kb_is, kb_bi, kb_bb, kb_bt, kb_bs, kb_tt, kb_ti, kb_ts, kb_ss, kb_si, kb_st, kb_nt, kb_ni, kb_ns, kb_lt, kb_li, kb_ls, ex_some, seq_tup, seq_tpx, itOf_tpx, seq_lst, seq_fz, list_lst, lsts_lst, lsts_fz, itOf_tup, itOf_lst, itOf_fz, now_int, now_bl, now_non, now_str, now_tup, now_lst, isNon_non, isNon_int, isNon_tup, isNon_ref, isNon_lst, isNon_str, isNon_bl, a31, a32]
  rw [nI_c]
  refine ⟨⟨_, rfl⟩, cI o, k, rfl, first_nd h.nd hk, ?_⟩
  subst hv5
  refine seqG fun v6 hv6 => ?_
  simp only [dSeq, dNext, dRet, dRetN, dIfS, dAsg, dAsgG, dDrop, dPar2, dPar3, dAug, dAugS, dFor, dOp, dVar, dC, dTest, dChain, dAnd, dOr, dNot, dAndV, dOrV, dNotV, dIf, dTup, dLst, dNil, dCons, dStar, dCB, dCall, dSl, dNoPart, dPart, dBM, dRev, dNeg, dIsi, dListRg, dTupRg, dRg1, dRg2, dLc, dIt, dEnum, dZip2, dZip3, dRng1, dRng2, dYes, gN, gT, gsNil, gsCons, gSb, oI, oI0, oAdd, oMulA, oSub, oFdiv, oMod, oPow, oLt, oLe, oGt, oGe, oEq, oNe, oIsN, oNotN, oIsB, oNotB, oIx, oSl, oLen, oSum, oAll, oAny, oAbs, o1I, o2I, oMin2, oMax2, oMin, oMax, oMinL, oMaxL, oInt, oBool, oList, oTuple, oSorted, oIn, oAddI, oGet, oSet, oAppend, oExtend, oPop, oPopAt, oIndexL, oIndexT, oInsert, oRemove, dTupX, dBMX, dLenSet, newL, startD, wipeD, D.tyN, List.map_cons, List.map_nil, List.cons_append, List.nil_append, List.length_cons, List.length_nil, List.getElem?_cons_zero, List.getElem?_cons_succ, List.set_cons_zero, List.set_cons_succ, List.replicate, Nat.sub_self, Nat.reduceSub, Nat.reduceAdd, Nat.zero_add, kb_ii, kb_ib, kb_it, kb_is, kb_bi, kb_bb, kb_bt, kb_bs, kb_tt, kb_ti, kb_ts, kb_ss, kb_si, kb_st, kb_nt, kb_ni, kb_ns, kb_lt, kb_li, kb_ls, ex_some, seq_tup, seq_tpx, itOf_tpx, seq_lst, seq_fz, list_lst, lsts_lst, lsts_fz, itOf_tup, itOf_lst, itOf_fz, now_int, now_bl, now_non, now_str, now_tup, now_lst, isNon_non, isNon_int, isNon_tup, isNon_ref, isNon_lst, isNon_str, isNon_bl, a31]
  rw [← nI_c, cut_to _ _ (by omega), cut_from _ _ (by omega) (by rw [List.length_map]; omega), Int.toNat_natCast, show ((k : Int) + 1).toNat = k + 1 by omega, ← List.map_take, ← List.map_drop]
  subst hv6
  simp only [dSeq, dNext, dRet, dRetN, dIfS, dAsg, dAsgG, dDrop, dPar2, dPar3, dAug, dAugS, dFor, dOp, dVar, dC, dTest, dChain, dAnd, dOr, dNot, dAndV, dOrV, dNotV, dIf, dTup, dLst, dNil, dCons, dStar, dCB, dCall, dSl, dNoPart, dPart, dBM, dRev, dNeg, dIsi, dListRg, dTupRg, dRg1, dRg2, dLc, dIt, dEnum, dZip2, dZip3, dRng1, dRng2, dYes, gN, gT, gsNil, gsCons, gSb, oI, oI0, oAdd, oMulA, oSub, oFdiv, oMod, oPow, oLt, oLe, oGt, oGe, oEq, oNe, oIsN, oNotN, oIsB, oNotB, oIx, oSl, oLen, oSum, oAll, oAny, oAbs, o1I, o2I, oMin2, oMax2, oMin, oMax, oMinL, oMaxL, oInt, oBool, oList, oTuple, oSorted, oIn, oAddI, oGet, oSet, oAppend, oExtend, oPop, oPopAt, oIndexL, oIndexT, oInsert, oRemove, dTupX, dBMX, dLenSet, newL, startD, wipeD, D.tyN, List.map_cons, List.map_nil, List.cons_append, List.nil_append, List.length_cons, List.length_nil, List.getElem?_cons_zero, List.getElem?_cons_succ, List.set_cons_zero, List.set_cons_succ, List.replicate, Nat.sub_self, Nat.reduceSub, Nat.reduceAdd, Nat.zero_add, kb_ii, kb_ib, kb_it, kb_is, kb_bi, kb_bb, kb_bt, kb_bs, kb_tt, kb_ti, kb_ts, kb_ss, kb_si, kb_st, kb_nt, kb_ni, kb_ns, kb_lt, kb_li, kb_ls, ex_some, seq_tup, seq_tpx, itOf_tpx, seq_lst, seq_fz, list_lst, lsts_lst, lsts_fz, itOf_tup, itOf_lst, itOf_fz, now_int, now_bl, now_non, now_str, now_tup, now_lst, isNon_non, isNon_int, isNon_tup, isNon_ref, isNon_lst, isNon_str, isNon_bl]
  refine lc_mapE (o.take (k + 1)) nI (fun i => D.int (cA_ J i)) (fun _ _ => trivial) (small (by have := h.len; rw [List.length_take]; omega)) (fun i hi2 S' e N M hN => ?_) ?_
  · have hlt := h.lt (List.mem_of_mem_take hi2)
    simp only [dSeq, dNext, dRet, dRetN, dIfS, dAsg, dAsgG, dDrop, dPar2, dPar3, dAug, dAugS, dFor, dOp, dVar, dC, dTest, dChain, dAnd, dOr, dNot, dAndV, dOrV, dNotV, dIf, dTup, dLst, dNil, dCons, dStar, dCB, dCall, dSl, dNoPart, dPart, dBM, dRev, dNeg, dIsi, dListRg, dTupRg, dRg1, dRg2, dLc, dIt, dEnum, dZip2, dZip3, dRng1, dRng2, dYes, gN, gT, gsNil, gsCons, gSb, oI, oI0, oAdd, oMulA, oSub, oFdiv, oMod, oPow, oLt, oLe, oGt, oGe, oEq, oNe, oIsN, oNotN, oIsB, oNotB, oIx, oSl, oLen, oSum, oAll, oAny, oAbs, o1I, o2I, oMin2, oMax2, oMin, oMax, oMinL, oMaxL, oInt, oBool, oList, oTuple, oSorted, oIn, oAddI, oGet, oSet, oAppend, oExtend, oPop, oPopAt, oIndexL, oIndexT, oInsert, oRemove, dTupX, dBMX, dLenSet, newL, startD, wipeD, D.tyN, List.map_cons, List.map_nil, List.cons_append, List.nil_append, List.length_cons, List.length_nil, List.getElem?_cons_zero, List.getElem?_cons_succ, List.set_cons_zero, List.set_cons_succ, List.replicate, Nat.sub_self, Nat.reduceSub, Nat.reduceAdd, Nat.zero_add, kb_ii, kb_ib, kb_it, kb_is, kb_bi, kb_bb, kb_bt, kb_bs, kb_tt, kb_ti, kb_ts, kb_ss, kb_si, kb_st, kb_nt, kb_ni, kb_ns, kb_lt, kb_li, kb_ls, ex_some, seq_tup, seq_tpx, itOf_tpx, seq_lst, seq_fz, list_lst, lsts_lst, lsts_fz, itOf_tup, itOf_lst, itOf_fz, now_int, now_bl, now_non, now_str, now_tup, now_lst, isNon_non, isNon_int, isNon_tup, isNon_ref, isNon_lst, isNon_str, isNon_bl, nI, ix_job hlt, a20]
    exact hN
  simp only [dSeq, dNext, dRet, dRetN, dIfS, dAsg, dAsgG, dDrop, dPar2, dPar3, dAug, dAugS, dFor, dOp, dVar, dC, dTest, dChain, dAnd, dOr, dNot, dAndV, dOrV, dNotV, dIf, dTup, dLst, dNil, dCons, dStar, dCB, dCall, dSl, dNoPart, dPart, dBM, dRev, dNeg, dIsi, dListRg, dTupRg, dRg1, dRg2, dLc, dIt, dEnum, dZip2, dZip3, dRng1, dRng2, dYes, gN, gT, gsNil, gsCons, gSb, oI, oI0, oAdd, oMulA, oSub, oFdiv, oMod, oPow, oLt, oLe, oGt, oGe, oEq, oNe, oIsN, oNotN, oIsB, oNotB, oIx, oSl, oLen, oSum, oAll, oAny, oAbs, o1I, o2I, oMin2, oMax2, oMin, oMax, oMinL, oMaxL, oInt, oBool, oList, oTuple, oSorted, oIn, oAddI, oGet, oSet, oAppend, oExtend, oPop, oPopAt, oIndexL, oIndexT, oInsert, oRemove, dTupX, dBMX, dLenSet, newL, startD, wipeD, D.tyN, List.map_cons, List.map_nil, List.cons_append, List.nil_append, List.length_cons, List.length_nil, List.getElem?_cons_zero, List.getElem?_cons_succ, List.set_cons_zero, List.set_cons_succ, List.replicate, Nat.sub_self, Nat.reduceSub, Nat.reduceAdd, Nat.zero_add, kb_ii, kb_ib, kb_it, kb_is, kb_bi, kb_bb, kb_bt, kb_bs, kb_tt, kb_ti, kb_ts, kb_ss, kb_si, kb_st, kb_nt, kb_ni, kb_ns, kb_lt, kb_li, kb_ls, ex_some, seq_tup, seq_tpx, itOf_tpx, seq_lst, seq_fz, list_lst, lsts_lst, lsts_fz, itOf_tup, itOf_lst, itOf_fz, now_int, now_bl, now_non, now_str, now_tup, now_lst, isNon_non, isNon_int, isNon_tup, isNon_ref, isNon_lst, isNon_str, isNon_bl]
  refine ⟨(o.take (k + 1)).map fun i => cA_ J i, by rw [List.map_map]; rfl, ?_⟩
  refine lc_mapE (o.drop k) nI (fun i => D.int (cB_ J i)) (fun _ _ => trivial) (small (by have := h.len; rw [List.length_drop]; omega)) (fun i hi2 S' e N M hN => ?_) ?_
  · have hlt := h.lt (List.mem_of_mem_drop hi2)
    simp only [dSeq, dNext, dRet, dRetN, dIfS, dAsg, dAsgG, dDrop, dPar2, dPar3, dAug, dAugS, dFor, dOp, dVar, dC, dTest, dChain, dAnd, dOr, dNot, dAndV, dOrV, dNotV, dIf, dTup, dLst, dNil, dCons, dStar, dCB, dCall, dSl, dNoPart, dPart, dBM, dRev, dNeg, dIsi, dListRg, dTupRg, dRg1, dRg2, dLc, dIt, dEnum, dZip2, dZip3, dRng1, dRng2, dYes, gN, gT, gsNil, gsCons, gSb, oI, oI0, oAdd, oMulA, oSub, oFdiv, oMod, oPow, oLt, oLe, oGt, oGe, oEq, oNe, oIsN, oNotN, oIsB, oNotB, oIx, oSl, oLen, oSum, oAll, oAny, oAbs, o1I, o2I, oMin2, oMax2, oMin, oMax, oMinL, oMaxL, oInt, oBool, oList, oTuple, oSorted, oIn, oAddI, oGet, oSet, oAppend, oExtend, oPop, oPopAt, oIndexL, oIndexT, oInsert, oRemove, dTupX, dBMX, dLenSet, newL, startD, wipeD, D.tyN, List.map_cons, List.map_nil, List.cons_append, List.nil_append, List.length_cons, List.length_nil, List.getElem?_cons_zero, List.getElem?_cons_succ, List.set_cons_zero, List.set_cons_succ, List.replicate, Nat.sub_self, Nat.reduceSub, Nat.reduceAdd, Nat.zero_add, kb_ii, kb_ib, kb_it, kb_is, kb_bi, kb_bb, kb_bt, kb_bs, kb_tt, kb_ti, kb_ts, kb_ss, kb_si, kb_st, kb_nt, kb_ni, kb_ns, kb_lt, kb_li, kb_ls, ex_some, seq_tup, seq_tpx, itOf_tpx, seq_lst, seq_fz, list_lst, lsts_lst, lsts_fz, itOf_tup, itOf_lst, itOf_fz, now_int, now_bl, now_non, now_str, now_tup, now_lst, isNon_non, isNon_int, isNon_tup, isNon_ref, isNon_lst, isNon_str, isNon_bl, nI, ix_job hlt, a21]
    exact hN
  simp only [dSeq, dNext, dRet, dRetN, dIfS, dAsg, dAsgG, dDrop, dPar2, dPar3, dAug, dAugS, dFor, dOp, dVar, dC, dTest, dChain, dAnd, dOr, dNot, dAndV, dOrV, dNotV, dIf, dTup, dLst, dNil, dCons, dStar, dCB, dCall, dSl, dNoPart, dPart, dBM, dRev, dNeg, dIsi, dListRg, dTupRg, dRg1, dRg2, dLc, dIt, dEnum, dZip2, dZip3, dRng1, dRng2, dYes, gN, gT, gsNil, gsCons, gSb, oI, oI0, oAdd, oMulA, oSub, oFdiv, oMod, oPow, oLt, oLe, oGt, oGe, oEq, oNe, oIsN, oNotN, oIsB, oNotB, oIx, oSl, oLen, oSum, oAll, oAny, oAbs, o1I, o2I, oMin2, oMax2, oMin, oMax, oMinL, oMaxL, oInt, oBool, oList, oTuple, oSorted, oIn, oAddI, oGet, oSet, oAppend, oExtend, oPop, oPopAt, oIndexL, oIndexT, oInsert, oRemove, dTupX, dBMX, dLenSet, newL, startD, wipeD, D.tyN, List.map_cons, List.map_nil, List.cons_append, List.nil_append, List.length_cons, List.length_nil, List.getElem?_cons_zero, List.getElem?_cons_succ, List.set_cons_zero, List.set_cons_succ, List.replicate, Nat.sub_self, Nat.reduceSub, Nat.reduceAdd, Nat.zero_add, kb_ii, kb_ib, kb_it, kb_is, kb_bi, kb_bb, kb_bt, kb_bs, kb_tt, kb_ti, kb_ts, kb_ss, kb_si, kb_st, kb_nt, kb_ni, kb_ns, kb_lt, kb_li, kb_ls, ex_some, seq_tup, seq_tpx, itOf_tpx, seq_lst, seq_fz, list_lst, lsts_lst, lsts_fz, itOf_tup, itOf_lst, itOf_fz, now_int, now_bl, now_non, now_str, now_tup, now_lst, isNon_non, isNon_int, isNon_tup, isNon_ref, isNon_lst, isNon_str, isNon_bl]
  refine ⟨(o.drop k).map fun i => cB_ J i, by rw [List.map_map]; rfl, ?_⟩
  exact .here q
end L73
namespace L73
open PySem PySem.Spec PySem.W PyProof.Rows L2 PL
def shs (J : List Jb) : List Nat := (List.range J.length).filter fun i => decide (cA_ J i < cB_ J i)
def lgs (J : List Jb) : List Nat := (List.range J.length).filter fun i => decide (cA_ J i ≥ cB_ J i)
def bs (J : List Jb) : List Nat := (shs J).mergeSort (leK (cA_ J)) ++ (lgs J).mergeSort (leK fun i => - cB_ J i)
theorem bs_perm (J : List Jb) : Perm_ J.length (bs J) := by
  have e : lgs J = (List.range J.length).filter fun i => !decide (cA_ J i < cB_ J i) := by
    unfold lgs
    refine List.filter_congr fun i _ => ?_
    by_cases h : cA_ J i < cB_ J i
    · rw [decide_eq_true h, decide_eq_false (by omega)]; rfl
    · rw [decide_eq_false h, decide_eq_true (by omega)]; rfl
  refine ((List.mergeSort_perm _ _).append (List.mergeSort_perm _ _)).trans ?_
  rw [e]
  exact List.filter_append_perm _ _
theorem leK_sorted (k : Nat → Int) (l : List Nat) : (l.mergeSort (leK k)).Pairwise fun i j => k i ≤ k j := by
  have := List.pairwise_mergeSort (le := leK k) (fun a b c h1 h2 => by simp only [leK, decide_eq_true_eq] at *; omega) (fun a b => by simp only [leK, Bool.or_eq_true, decide_eq_true_eq]; omega) l
  exact this.imp fun h => by simp only [leK, decide_eq_true_eq] at h; omega
theorem leK_pairs (k : Nat → Int) (l : List Nat) : (l.map fun i => (k i, (i : Int))).mergeSort leP = (l.mergeSort (leK k)).map fun i => (k i, (i : Int)) := by
  refine (sort_maps (fun i : Nat => (k i, (i : Int))) fun a _ b _ => ?_).symm
  unfold leK leP
  congr 1
  apply propext
  simp only
  omega
theorem mem_shs {J : List Jb} {i : Nat} (h : i ∈ (shs J).mergeSort (leK (cA_ J))) : Sh J i := by
  have := (List.mem_filter.mp (List.mem_mergeSort.mp h)).2
  simp only [decide_eq_true_eq] at this
  exact this
theorem mem_lgs {J : List Jb} {i : Nat} (h : i ∈ (lgs J).mergeSort (leK fun i => - cB_ J i)) : ¬ Sh J i := by
  have := of_decide_eq_true (List.mem_filter.mp (List.mem_mergeSort.mp h)).2
  unfold Sh; omega
theorem bs_john (J : List Jb) : John J (bs J) := by
  unfold John bs
  rw [List.pairwise_append]
  refine ⟨?_, ?_, fun a ha b hb => ⟨fun z => absurd (mem_shs ha) z, fun _ z => absurd z (mem_lgs hb), fun z => absurd (mem_shs ha) z⟩⟩
  · refine (leK_sorted (cA_ J) (shs J)).imp_of_mem fun {a b} ha hb h => ⟨fun z => absurd (mem_shs ha) z, fun _ _ => h, fun z => absurd (mem_shs ha) z⟩
  · refine (leK_sorted (fun i => - cB_ J i) (lgs J)).imp_of_mem fun {a b} ha hb h => ⟨fun _ => mem_lgs hb, fun z => absurd z (mem_lgs ha), fun _ _ => by omega⟩
def sp_told_best : DSp := fun ds S Q => ∃ J : List Jb, ds = [eJs J] ∧ GJ J ∧ Q (eO (bs J)) S
theorem pure_told_best : ∀ ds S Q, sp_told_best ds S Q → t_told_best (DeN Q) (startD N_told_best ds) S := by
  rintro ds S Q ⟨J, rfl, g, q⟩
  have h60 := g.n60
  unfold t_told_best
  refine seqG fun v hv => ?_
  simp only [dSeq, dNext, dRet, dRetN, dIfS, dAsg, dAsgG, dDrop, dPar2, dPar3, dAug, dAugS, dFor, dOp, dVar, dC, dTest, dChain, dAnd, dOr, dNot, dAndV, dOrV, dNotV, dIf, dTup, dLst, dNil, dCons, dStar, dCB, dCall, dSl, dNoPart, dPart, dBM, dRev, dNeg, dIsi, dListRg, dTupRg, dRg1, dRg2, dLc, dIt, dEnum, dZip2, dZip3, dRng1, dRng2, dYes, gN, gT, gsNil, gsCons, gSb, oI, oI0, oAdd, oMulA, oSub, oFdiv, oMod, oPow, oLt, oLe, oGt, oGe, oEq, oNe, oIsN, oNotN, oIsB, oNotB, oIx, oSl, oLen, oSum, oAll, oAny, oAbs, o1I, o2I, oMin2, oMax2, oMin, oMax, oMinL, oMaxL, oInt, oBool, oList, oTuple, oSorted, oIn, oAddI, oGet, oSet, oAppend, oExtend, oPop, oPopAt, oIndexL, oIndexT, oInsert, oRemove, dTupX, dBMX, dLenSet, newL, startD, wipeD, D.tyN, List.map_cons, List.map_nil, List.cons_append, List.nil_append, List.length_cons, List.length_nil, List.getElem?_cons_zero, List.getElem?_cons_succ, List.set_cons_zero, List.set_cons_succ, List.replicate, Nat.sub_self, Nat.reduceSub, Nat.reduceAdd, Nat.zero_add, kb_ii, kb_ib, kb_it, kb_is, kb_bi, kb_bb, kb_bt, kb_bs, kb_tt, kb_ti, kb_ts, kb_ss, kb_si, kb_st, kb_nt, kb_ni, kb_ns, kb_lt, kb_li, kb_ls, ex_some, seq_tup, seq_tpx, itOf_tpx, seq_lst, seq_fz, list_lst, lsts_lst, lsts_fz, itOf_tup, itOf_lst, itOf_fz, now_int, now_bl, now_non, now_str, now_tup, now_lst, isNon_non, isNon_int, isNon_tup, isNon_ref, isNon_lst, isNon_str, isNon_bl, eJs, enum_range]
  refine lc_mapK (List.range J.length) (fun i => D.tup [.int (i : Nat), .tup [.int (cA_ J i), .int (cB_ J i)]]) (fun i => decide (cA_ J i < cB_ J i)) (fun i => eP (cA_ J i, (i : Int))) (fun _ _ => trivial) (small (by rw [List.length_range]; omega)) (fun i hi S' e N M h1 h2 => ?_) ?_
  · simp only [dSeq, dNext, dRet, dRetN, dIfS, dAsg, dAsgG, dDrop, dPar2, dPar3, dAug, dAugS, dFor, dOp, dVar, dC, dTest, dChain, dAnd, dOr, dNot, dAndV, dOrV, dNotV, dIf, dTup, dLst, dNil, dCons, dStar, dCB, dCall, dSl, dNoPart, dPart, dBM, dRev, dNeg, dIsi, dListRg, dTupRg, dRg1, dRg2, dLc, dIt, dEnum, dZip2, dZip3, dRng1, dRng2, dYes, gN, gT, gsNil, gsCons, gSb, oI, oI0, oAdd, oMulA, oSub, oFdiv, oMod, oPow, oLt, oLe, oGt, oGe, oEq, oNe, oIsN, oNotN, oIsB, oNotB, oIx, oSl, oLen, oSum, oAll, oAny, oAbs, o1I, o2I, oMin2, oMax2, oMin, oMax, oMinL, oMaxL, oInt, oBool, oList, oTuple, oSorted, oIn, oAddI, oGet, oSet, oAppend, oExtend, oPop, oPopAt, oIndexL, oIndexT, oInsert, oRemove, dTupX, dBMX, dLenSet, newL, startD, wipeD, D.tyN, List.map_cons, List.map_nil, List.cons_append, List.nil_append, List.length_cons, List.length_nil, List.getElem?_cons_zero, List.getElem?_cons_succ, List.set_cons_zero, List.set_cons_succ, List.replicate, Nat.sub_self, Nat.reduceSub, Nat.reduceAdd, Nat.zero_add, kb_ii, kb_ib, kb_it, kb_is, kb_bi, kb_bb, kb_bt, kb_bs, kb_tt, kb_ti, kb_ts, kb_ss, kb_si, kb_st, kb_nt, kb_ni, kb_ns, kb_lt, kb_li, kb_ls, ex_some, seq_tup, seq_tpx, itOf_tpx, seq_lst, seq_fz, list_lst, lsts_lst, lsts_fz, itOf_tup, itOf_lst, itOf_fz, now_int, now_bl, now_non, now_str, now_tup, now_lst, isNon_non, isNon_int, isNon_tup, isNon_ref, isNon_lst, isNon_str, isNon_bl, a20, a21]
    refine ⟨trivial, ?_⟩
    by_cases y : cA_ J i < cB_ J i
    · rw [decide_eq_true y] at *
      exact ⟨small (by omega), h1 rfl⟩
    · rw [decide_eq_false y] at *
      exact h2 rfl
  simp only [dSeq, dNext, dRet, dRetN, dIfS, dAsg, dAsgG, dDrop, dPar2, dPar3, dAug, dAugS, dFor, dOp, dVar, dC, dTest, dChain, dAnd, dOr, dNot, dAndV, dOrV, dNotV, dIf, dTup, dLst, dNil, dCons, dStar, dCB, dCall, dSl, dNoPart, dPart, dBM, dRev, dNeg, dIsi, dListRg, dTupRg, dRg1, dRg2, dLc, dIt, dEnum, dZip2, dZip3, dRng1, dRng2, dYes, gN, gT, gsNil, gsCons, gSb, oI, oI0, oAdd, oMulA, oSub, oFdiv, oMod, oPow, oLt, oLe, oGt, oGe, oEq, oNe, oIsN, oNotN, oIsB, oNotB, oIx, oSl, oLen, oSum, oAll, oAny, oAbs, o1I, o2I, oMin2, oMax2, oMin, oMax, oMinL, oMaxL, oInt, oBool, oList, oTuple, oSorted, oIn, oAddI, oGet, oSet, oAppend, oExtend, oPop, oPopAt, oIndexL, oIndexT, oInsert, oRemove, dTupX, dBMX, dLenSet, newL, startD, wipeD, D.tyN, List.map_cons, List.map_nil, List.cons_append, List.nil_append, List.length_cons, List.length_nil, List.getElem?_cons_zero, List.getElem?_cons_succ, List.set_cons_zero, List.set_cons_succ, List.replicate, Nat.sub_self, Nat.reduceSub, Nat.reduceAdd, Nat.zero_add, kb_ii, kb_ib, kb_it, kb_is, kb_bi, kb_bb, kb_bt, kb_bs, kb_tt, kb_ti, kb_ts, kb_ss, kb_si, kb_st, kb_nt, kb_ni, kb_ns, kb_lt, kb_li, kb_ls, ex_some, seq_tup, seq_tpx, itOf_tpx, seq_lst, seq_fz, list_lst, lsts_lst, lsts_fz, itOf_tup, itOf_lst, itOf_fz, now_int, now_bl, now_non, now_str, now_tup, now_lst, isNon_non, isNon_int, isNon_tup, isNon_ref, isNon_lst, isNon_str, isNon_bl]
  have pm : ∀ (k : Nat → Int) (l : List Nat), l.map (fun i => eP (k i, (i : Int))) = (l.map fun i => (k i, (i : Int))).map eP := fun k l => by rw [List.map_map]; rfl
  have l1 : (shs J).length ≤ 60 := by have := List.length_filter_le (fun i => decide (cA_ J i < cB_ J i)) (List.range J.length); rw [List.length_range] at this; unfold shs; omega
  have l2 : (lgs J).length ≤ 60 := by have := List.length_filter_le (fun i => decide (cA_ J i ≥ cB_ J i)) (List.range J.length); rw [List.length_range] at this; unfold lgs; omega
  have es : (List.range J.length).filter (fun i => decide (cA_ J i < cB_ J i)) = shs J := rfl
  have el : (List.range J.length).filter (fun i => decide (cA_ J i ≥ cB_ J i)) = lgs J := rfl
  rw [es, pm, sort_pairs, leK_pairs]
  refine ⟨⟨okn_pairs, akin_pairs, sortable_pairs, small (by simp; omega)⟩, ?_⟩
  subst hv
  refine seqG fun v2 hv2 => ?_
  simp only [dSeq, dNext, dRet, dRetN, dIfS, dAsg, dAsgG, dDrop, dPar2, dPar3, dAug, dAugS, dFor, dOp, dVar, dC, dTest, dChain, dAnd, dOr, dNot, dAndV, dOrV, dNotV, dIf, dTup, dLst, dNil, dCons, dStar, dCB, dCall, dSl, dNoPart, dPart, dBM, dRev, dNeg, dIsi, dListRg, dTupRg, dRg1, dRg2, dLc, dIt, dEnum, dZip2, dZip3, dRng1, dRng2, dYes, gN, gT, gsNil, gsCons, gSb, oI, oI0, oAdd, oMulA, oSub, oFdiv, oMod, oPow, oLt, oLe, oGt, oGe, oEq, oNe, oIsN, oNotN, oIsB, oNotB, oIx, oSl, oLen, oSum, oAll, oAny, oAbs, o1I, o2I, oMin2, oMax2, oMin, oMax, oMinL, oMaxL, oInt, oBool, oList, oTuple, oSorted, oIn, oAddI, oGet, oSet, oAppend, oExtend, oPop, oPopAt, oIndexL, oIndexT, oInsert, oRemove, dTupX, dBMX, dLenSet, newL, startD, wipeD, D.tyN, List.map_cons, List.map_nil, List.cons_append, List.nil_append, List.length_cons, List.length_nil, List.getElem?_cons_zero, List.getElem?_cons_succ, List.set_cons_zero, List.set_cons_succ, List.replicate, Nat.sub_self, Nat.reduceSub, Nat.reduceAdd, Nat.zero_add, kb_ii, kb_ib, kb_it, kb_is, kb_bi, kb_bb, kb_bt, kb_bs, kb_tt, kb_ti, kb_ts, kb_ss, kb_si, kb_st, kb_nt, kb_ni, kb_ns, kb_lt, kb_li, kb_ls, ex_some, seq_tup, seq_tpx, itOf_tpx, seq_lst, seq_fz, list_lst, lsts_lst, lsts_fz, itOf_tup, itOf_lst, itOf_fz, now_int, now_bl, now_non, now_str, now_tup, now_lst, isNon_non, isNon_int, isNon_tup, isNon_ref, isNon_lst, isNon_str, isNon_bl, enum_range]
  refine lc_mapK (List.range J.length) (fun i => D.tup [.int (i : Nat), .tup [.int (cA_ J i), .int (cB_ J i)]]) (fun i => decide (cA_ J i ≥ cB_ J i)) (fun i => eP (- cB_ J i, (i : Int))) (fun _ _ => trivial) (small (by rw [List.length_range]; omega)) (fun i hi S' e N M h1 h2 => ?_) ?_
  · simp only [dSeq, dNext, dRet, dRetN, dIfS, dAsg, dAsgG, dDrop, dPar2, dPar3, dAug, dAugS, dFor, dOp, dVar, dC, dTest, dChain, dAnd, dOr, dNot, dAndV, dOrV, dNotV, dIf, dTup, dLst, dNil, dCons, dStar, dCB, dCall, dSl, dNoPart, dPart, dBM, dRev, dNeg, dIsi, dListRg, dTupRg, dRg1, dRg2, dLc, dIt, dEnum, dZip2, dZip3, dRng1, dRng2, dYes, gN, gT, gsNil, gsCons, gSb, oI, oI0, oAdd, oMulA, oSub, oFdiv, oMod, oPow, oLt, oLe, oGt, oGe, oEq, oNe, oIsN, oNotN, oIsB, oNotB, oIx, oSl, oLen, oSum, oAll, oAny, oAbs, o1I, o2I, oMin2, oMax2, oMin, oMax, oMinL, oMaxL, oInt, oBool, oList, oTuple, oSorted, oIn, oAddI, oGet, oSet, oAppend, oExtend, oPop, oPopAt, oIndexL, oIndexT, oInsert, oRemove, dTupX, dBMX, dLenSet, newL, startD, wipeD, D.tyN, List.map_cons, List.map_nil, List.cons_append, List.nil_append, List.length_cons, List.length_nil, List.getElem?_cons_zero, List.getElem?_cons_succ, List.set_cons_zero, List.set_cons_succ, List.replicate, Nat.sub_self, Nat.reduceSub, Nat.reduceAdd, Nat.zero_add, kb_ii, kb_ib, kb_it, kb_is, kb_bi, kb_bb, kb_bt, kb_bs, kb_tt, kb_ti, kb_ts, kb_ss, kb_si, kb_st, kb_nt, kb_ni, kb_ns, kb_lt, kb_li, kb_ls, ex_some, seq_tup, seq_tpx, itOf_tpx, seq_lst, seq_fz, list_lst, lsts_lst, lsts_fz, itOf_tup, itOf_lst, itOf_fz, now_int, now_bl, now_non, now_str, now_tup, now_lst, isNon_non, isNon_int, isNon_tup, isNon_ref, isNon_lst, isNon_str, isNon_bl, a20, a21]
    refine ⟨trivial, ?_⟩
    by_cases y : cA_ J i ≥ cB_ J i
    · rw [decide_eq_true y] at *
      exact ⟨small (by omega), h1 rfl⟩
    · rw [decide_eq_false y] at *
      exact h2 rfl
  simp only [dSeq, dNext, dRet, dRetN, dIfS, dAsg, dAsgG, dDrop, dPar2, dPar3, dAug, dAugS, dFor, dOp, dVar, dC, dTest, dChain, dAnd, dOr, dNot, dAndV, dOrV, dNotV, dIf, dTup, dLst, dNil, dCons, dStar, dCB, dCall, dSl, dNoPart, dPart, dBM, dRev, dNeg, dIsi, dListRg, dTupRg, dRg1, dRg2, dLc, dIt, dEnum, dZip2, dZip3, dRng1, dRng2, dYes, gN, gT, gsNil, gsCons, gSb, oI, oI0, oAdd, oMulA, oSub, oFdiv, oMod, oPow, oLt, oLe, oGt, oGe, oEq, oNe, oIsN, oNotN, oIsB, oNotB, oIx, oSl, oLen, oSum, oAll, oAny, oAbs, o1I, o2I, oMin2, oMax2, oMin, oMax, oMinL, oMaxL, oInt, oBool, oList, oTuple, oSorted, oIn, oAddI, oGet, oSet, oAppend, oExtend, oPop, oPopAt, oIndexL, oIndexT, oInsert, oRemove, dTupX, dBMX, dLenSet, newL, startD, wipeD, D.tyN, List.map_cons, List.map_nil, List.cons_append, List.nil_append, List.length_cons, List.length_nil, List.getElem?_cons_zero, List.getElem?_cons_succ, List.set_cons_zero, List.set_cons_succ, List.replicate, Nat.sub_self, Nat.reduceSub, Nat.reduceAdd, Nat.zero_add, kb_ii, kb_ib, kb_it, kb_is, kb_bi, kb_bb, kb_bt, kb_bs, kb_tt, kb_ti, kb_ts, kb_ss, kb_si, kb_st, kb_nt, kb_ni, kb_ns, kb_lt, kb_li, kb_ls, ex_some, seq_tup, seq_tpx, itOf_tpx, seq_lst, seq_fz, list_lst, lsts_lst, lsts_fz, itOf_tup, itOf_lst, itOf_fz, now_int, now_bl, now_non, now_str, now_tup, now_lst, isNon_non, isNon_int, isNon_tup, isNon_ref, isNon_lst, isNon_str, isNon_bl]
  rw [el, pm (fun i => - cB_ J i), sort_pairs, leK_pairs (fun i => - cB_ J i)]
  refine ⟨⟨okn_pairs, akin_pairs, sortable_pairs, small (by simp; omega)⟩, ?_⟩
  subst hv2
  simp only [dSeq, dNext, dRet, dRetN, dIfS, dAsg, dAsgG, dDrop, dPar2, dPar3, dAug, dAugS, dFor, dOp, dVar, dC, dTest, dChain, dAnd, dOr, dNot, dAndV, dOrV, dNotV, dIf, dTup, dLst, dNil, dCons, dStar, dCB, dCall, dSl, dNoPart, dPart, dBM, dRev, dNeg, dIsi, dListRg, dTupRg, dRg1, dRg2, dLc, dIt, dEnum, dZip2, dZip3, dRng1, dRng2, dYes, gN, gT, gsNil, gsCons, gSb, oI, oI0, oAdd, oMulA, oSub, oFdiv, oMod, oPow, oLt, oLe, oGt, oGe, oEq, oNe, oIsN, oNotN, oIsB, oNotB, oIx, oSl, oLen, oSum, oAll, oAny, oAbs, o1I, o2I, oMin2, oMax2, oMin, oMax, oMinL, oMaxL, oInt, oBool, oList, oTuple, oSorted, oIn, oAddI, oGet, oSet, oAppend, oExtend, oPop, oPopAt, oIndexL, oIndexT, oInsert, oRemove, dTupX, dBMX, dLenSet, newL, startD, wipeD, D.tyN, List.map_cons, List.map_nil, List.cons_append, List.nil_append, List.length_cons, List.length_nil, List.getElem?_cons_zero, List.getElem?_cons_succ, List.set_cons_zero, List.set_cons_succ, List.replicate, Nat.sub_self, Nat.reduceSub, Nat.reduceAdd, Nat.zero_add, kb_ii, kb_ib, kb_it, kb_is, kb_bi, kb_bb, kb_bt, kb_bs, kb_tt, kb_ti, kb_ts, kb_ss, kb_si, kb_st, kb_nt, kb_ni, kb_ns, kb_lt, kb_li, kb_ls, ex_some, seq_tup, seq_tpx, itOf_tpx, seq_lst, seq_fz, list_lst, lsts_lst, lsts_fz, itOf_tup, itOf_lst, itOf_fz, now_int, now_bl, now_non, now_str, now_tup, now_lst, isNon_non, isNon_int, isNon_tup, isNon_ref, isNon_lst, isNon_str, isNon_bl]
  rw [List.append_nil, ← List.map_append]
  have lb : (bs J).length = J.length := (bs_perm J).len
  have hb := lb
  unfold bs at hb
  rw [List.length_append] at hb
  refine ⟨small (by simp at hb ⊢; omega), ?_⟩
  refine lc_mapE _ eP (fun p => D.int p.2) (fun _ _ => trivial) (small (by simp at hb ⊢; omega)) (fun p hp S' e N M hN => ?_) ?_
  · simp only [dSeq, dNext, dRet, dRetN, dIfS, dAsg, dAsgG, dDrop, dPar2, dPar3, dAug, dAugS, dFor, dOp, dVar, dC, dTest, dChain, dAnd, dOr, dNot, dAndV, dOrV, dNotV, dIf, dTup, dLst, dNil, dCons, dStar, dCB, dCall, dSl, dNoPart, dPart, dBM, dRev, dNeg, dIsi, dListRg, dTupRg, dRg1, dRg2, dLc, dIt, dEnum, dZip2, dZip3, dRng1, dRng2, dYes, gN, gT, gsNil, gsCons, gSb, oI, oI0, oAdd, oMulA, oSub, oFdiv, oMod, oPow, oLt, oLe, oGt, oGe, oEq, oNe, oIsN, oNotN, oIsB, oNotB, oIx, oSl, oLen, oSum, oAll, oAny, oAbs, o1I, o2I, oMin2, oMax2, oMin, oMax, oMinL, oMaxL, oInt, oBool, oList, oTuple, oSorted, oIn, oAddI, oGet, oSet, oAppend, oExtend, oPop, oPopAt, oIndexL, oIndexT, oInsert, oRemove, dTupX, dBMX, dLenSet, newL, startD, wipeD, D.tyN, List.map_cons, List.map_nil, List.cons_append, List.nil_append, List.length_cons, List.length_nil, List.getElem?_cons_zero, List.getElem?_cons_succ, List.set_cons_zero, List.set_cons_succ, List.replicate, Nat.sub_self, Nat.reduceSub, Nat.reduceAdd, Nat.zero_add, kb_ii, kb_ib, kb_it, kb_is, kb_bi, kb_bb, kb_bt, kb_bs, kb_tt, kb_ti, kb_ts, kb_ss, kb_si, kb_st, kb_nt, kb_ni, kb_ns, kb_lt, kb_li, kb_ls, ex_some, seq_tup, seq_tpx, itOf_tpx, seq_lst, seq_fz, list_lst, lsts_lst, lsts_fz, itOf_tup, itOf_lst, itOf_fz, now_int, now_bl, now_non, now_str, now_tup, now_lst, isNon_non, isNon_int, isNon_tup, isNon_ref, isNon_lst, isNon_str, isNon_bl, eP]
    exact ⟨trivial, hN⟩
  simp only [dSeq, dNext, dRet, dRetN, dIfS, dAsg, dAsgG, dDrop, dPar2, dPar3, dAug, dAugS, dFor, dOp, dVar, dC, dTest, dChain, dAnd, dOr, dNot, dAndV, dOrV, dNotV, dIf, dTup, dLst, dNil, dCons, dStar, dCB, dCall, dSl, dNoPart, dPart, dBM, dRev, dNeg, dIsi, dListRg, dTupRg, dRg1, dRg2, dLc, dIt, dEnum, dZip2, dZip3, dRng1, dRng2, dYes, gN, gT, gsNil, gsCons, gSb, oI, oI0, oAdd, oMulA, oSub, oFdiv, oMod, oPow, oLt, oLe, oGt, oGe, oEq, oNe, oIsN, oNotN, oIsB, oNotB, oIx, oSl, oLen, oSum, oAll, oAny, oAbs, o1I, o2I, oMin2, oMax2, oMin, oMax, oMinL, oMaxL, oInt, oBool, oList, oTuple, oSorted, oIn, oAddI, oGet, oSet, oAppend, oExtend, oPop, oPopAt, oIndexL, oIndexT, oInsert, oRemove, dTupX, dBMX, dLenSet, newL, startD, wipeD, D.tyN, List.map_cons, List.map_nil, List.cons_append, List.nil_append, List.length_cons, List.length_nil, List.getElem?_cons_zero, List.getElem?_cons_succ, List.set_cons_zero, List.set_cons_succ, List.replicate, Nat.sub_self, Nat.reduceSub, Nat.reduceAdd, Nat.zero_add, kb_ii, kb_ib, kb_it, kb_is, kb_bi, kb_bb, kb_bt, kb_bs, kb_tt, kb_ti, kb_ts, kb_ss, kb_si, kb_st, kb_nt, kb_ni, kb_ns, kb_lt, kb_li, kb_ls, ex_some, seq_tup, seq_tpx, itOf_tpx, seq_lst, seq_fz, list_lst, lsts_lst, lsts_fz, itOf_tup, itOf_lst, itOf_fz, now_int, now_bl, now_non, now_str, now_tup, now_lst, isNon_non, isNon_int, isNon_tup, isNon_ref, isNon_lst, isNon_str, isNon_bl]
  have e : (((shs J).mergeSort (leK (cA_ J))).map (fun i => (cA_ J i, (i : Int))) ++ ((lgs J).mergeSort (leK fun i => - cB_ J i)).map (fun i => (- cB_ J i, (i : Int)))).map (fun p => D.int p.2) = (bs J).map nI := by
    unfold bs
    rw [List.map_append, List.map_append, List.map_map, List.map_map]; rfl
  rw [e]
  exact .here q
end L73
namespace L73
open PySem PySem.Spec PySem.W PyProof.Rows L2 PL
/-- the least end -/
def best (J : List Jb) : Int := en J (bs J)
theorem best_le {J : List Jb} (g : GJ J) {o : List Nat} (h : Perm_ J.length o) : best J ≤ en J o :=
  john_le g (bs_john J) (bs_perm J).nd ((bs_perm J).trans h.symm) (g.ne (bs_perm J))
def sp_best_sequence : DSp := fun ds S Q => ∃ J : List Jb, ds = [eJs J] ∧ GJ J ∧ Q (.tup [.int (best J), eO (bs J)]) S
theorem pure_best_sequence : ∀ ds S Q, sp_best_sequence ds S Q → t_best_sequence sp_look_at_jobs sp_told_best sp_told_ends (DeN Q) (startD N_best_sequence ds) S := by
  rintro ds S Q ⟨J, rfl, g, q⟩
  have h := bs_perm J
  simp only [t_best_sequence, dSeq, dNext, dRet, dRetN, dIfS, dAsg, dAsgG, dDrop, dPar2, dPar3, dAug, dAugS, dFor, dOp, dVar, dC, dTest, dChain, dAnd, dOr, dNot, dAndV, dOrV, dNotV, dIf, dTup, dLst, dNil, dCons, dStar, dCB, dCall, dSl, dNoPart, dPart, dBM, dRev, dNeg, dIsi, dListRg, dTupRg, dRg1, dRg2, dLc, dIt, dEnum, dZip2, dZip3, dRng1, dRng2, dYes, gN, gT, gsNil, gsCons, gSb, oI, oI0, oAdd, oMulA, oSub, oFdiv, oMod, oPow, oLt, oLe, oGt, oGe, oEq, oNe, oIsN, oNotN, oIsB, oNotB, oIx, oSl, oLen, oSum, oAll, oAny, oAbs, o1I, o2I, oMin2, oMax2, oMin, oMax, oMinL, oMaxL, oInt, oBool, oList, oTuple, oSorted, oIn, oAddI, oGet, oSet, oAppend, oExtend, oPop, oPopAt, oIndexL, oIndexT, oInsert, oRemove, dTupX, dBMX, dLenSet, newL, startD, wipeD, D.tyN, List.map_cons, List.map_nil, List.cons_append, List.nil_append, List.length_cons, List.length_nil, List.getElem?_cons_zero, List.getElem?_cons_succ, List.set_cons_zero, List.set_cons_succ, List.replicate, Nat.sub_self, Nat.reduceSub, Nat.reduceAdd, Nat.zero_add, kb_ii, kb_ib, kb_it, kb_is, kb_bi, kb_bb, kb_bt, kb_bs, kb_tt, kb_ti, kb_ts, kb_ss, kb_si, kb_st, kb_nt, kb_ni, kb_ns, kb_lt, kb_li, kb_ls, ex_some, seq_tup, seq_tpx, itOf_tpx, seq_lst, seq_fz, list_lst, lsts_lst, lsts_fz, itOf_tup, itOf_lst, itOf_fz, now_int, now_bl, now_non, now_str, now_tup, now_lst, isNon_non, isNon_int, isNon_tup, isNon_ref, isNon_lst, isNon_str, isNon_bl]
  refine ⟨J, rfl, g, J, rfl, g, J, bs J, rfl, fun i hi => h.lt hi, by rw [h.len]; have := g.n60; omega, ?_⟩
  simp only [dSeq, dNext, dRet, dRetN, dIfS, dAsg, dAsgG, dDrop, dPar2, dPar3, dAug, dAugS, dFor, dOp, dVar, dC, dTest, dChain, dAnd, dOr, dNot, dAndV, dOrV, dNotV, dIf, dTup, dLst, dNil, dCons, dStar, dCB, dCall, dSl, dNoPart, dPart, dBM, dRev, dNeg, dIsi, dListRg, dTupRg, dRg1, dRg2, dLc, dIt, dEnum, dZip2, dZip3, dRng1, dRng2, dYes, gN, gT, gsNil, gsCons, gSb, oI, oI0, oAdd, oMulA, oSub, oFdiv, oMod, oPow, oLt, oLe, oGt, oGe, oEq, oNe, oIsN, oNotN, oIsB, oNotB, oIx, oSl, oLen, oSum, oAll, oAny, oAbs, o1I, o2I, oMin2, oMax2, oMin, oMax, oMinL, oMaxL, oInt, oBool, oList, oTuple, oSorted, oIn, oAddI, oGet, oSet, oAppend, oExtend, oPop, oPopAt, oIndexL, oIndexT, oInsert, oRemove, dTupX, dBMX, dLenSet, newL, startD, wipeD, D.tyN, List.map_cons, List.map_nil, List.cons_append, List.nil_append, List.length_cons, List.length_nil, List.getElem?_cons_zero, List.getElem?_cons_succ, List.set_cons_zero, List.set_cons_succ, List.replicate, Nat.sub_self, Nat.reduceSub, Nat.reduceAdd, Nat.zero_add, kb_ii, kb_ib, kb_it, kb_is, kb_bi, kb_bb, kb_bt, kb_bs, kb_tt, kb_ti, kb_ts, kb_ss, kb_si, kb_st, kb_nt, kb_ni, kb_ns, kb_lt, kb_li, kb_ls, ex_some, seq_tup, seq_tpx, itOf_tpx, seq_lst, seq_fz, list_lst, lsts_lst, lsts_fz, itOf_tup, itOf_lst, itOf_fz, now_int, now_bl, now_non, now_str, now_tup, now_lst, isNon_non, isNon_int, isNon_tup, isNon_ref, isNon_lst, isNon_str, isNon_bl, ends_at_last (g.ne h), a21]
  exact ⟨small (by omega), .here q⟩
def sp_shows_best_sequence : DSp := fun ds S Q => ∃ (J : List Jb) (o : List Nat) (e : Int), ds = [eJs J, .tup [.int e, eO o]] ∧ GJ J ∧ Perm_ J.length o ∧ en J o = e ∧ best J = e ∧ Q (.bl true) S
theorem pure_shows_best_sequence : ∀ ds S Q, sp_shows_best_sequence ds S Q → t_shows_best_sequence sp_look_at_jobs sp_told_ends sp_told_best sp_is_int sp_is_order (DeN Q) (startD N_shows_best_sequence ds) S := by
  rintro ds S Q ⟨J, o, e, rfl, g, h, he, hbe, q⟩
  have h60 := g.n60
  have hb := bs_perm J
  unfold t_shows_best_sequence
  refine seqG fun v hv => ?_
  simp only [dSeq, dNext, dRet, dRetN, dIfS, dAsg, dAsgG, dDrop, dPar2, dPar3, dAug, dAugS, dFor, dOp, dVar, dC, dTest, dChain, dAnd, dOr, dNot, dAndV, dOrV, dNotV, dIf, dTup, dLst, dNil, dCons, dStar, dCB, dCall, dSl, dNoPart, dPart, dBM, dRev, dNeg, dIsi, dListRg, dTupRg, dRg1, dRg2, dLc, dIt, dEnum, dZip2, dZip3, dRng1, dRng2, dYes, gN, gT, gsNil, gsCons, gSb, oI, oI0, oAdd, oMulA, oSub, oFdiv, oMod, oPow, oLt, oLe, oGt, oGe, oEq, oNe, oIsN, oNotN, oIsB, oNotB, oIx, oSl, oLen, oSum, oAll, oAny, oAbs, o1I, o2I, oMin2, oMax2, oMin, oMax, oMinL, oMaxL, oInt, oBool, oList, oTuple, oSorted, oIn, oAddI, oGet, oSet, oAppend, oExtend, oPop, oPopAt, oIndexL, oIndexT, oInsert, oRemove, dTupX, dBMX, dLenSet, newL, startD, wipeD, D.tyN, List.map_cons, List.map_nil, List.cons_append, List.nil_append, List.length_cons, List.length_nil, List.getElem?_cons_zero, List.getElem?_cons_succ, List.set_cons_zero, List.set_cons_succ, List.replicate, Nat.sub_self, Nat.reduceSub, Nat.reduceAdd, Nat.zero_add, kb_ii, kb_ib, kb_it, kb_is, kb_bi, kb_bb, kb_bt, kb_bs, kb_tt, kb_ti, kb_ts, kb_ss, kb_si, kb_st, kb_nt, kb_ni, kb_ns, kb_lt, kb_li, kb_ls, ex_some, seq_tup, seq_tpx, itOf_tpx, seq_lst, seq_fz, list_lst, lsts_lst, lsts_fz, itOf_tup, itOf_lst, itOf_fz, now_int, now_bl, now_non, now_str, now_tup, now_lst, isNon_non, isNon_int, isNon_tup, isNon_ref, isNon_lst, isNon_str, isNon_bl]
  refine ⟨J, rfl, g, ?_⟩
  subst hv
  refine seqG fun v2 hv2 => ?_
  simp only [dSeq, dNext, dRet, dRetN, dIfS, dAsg, dAsgG, dDrop, dPar2, dPar3, dAug, dAugS, dFor, dOp, dVar, dC, dTest, dChain, dAnd, dOr, dNot, dAndV, dOrV, dNotV, dIf, dTup, dLst, dNil, dCons, dStar, dCB, dCall, dSl, dNoPart, dPart, dBM, dRev, dNeg, dIsi, dListRg, dTupRg, dRg1, dRg2, dLc, dIt, dEnum, dZip2, dZip3, dRng1, dRng2, dYes, gN, gT, gsNil, gsCons, gSb, oI, oI0, oAdd, oMulA, oSub, oFdiv, oMod, oPow, oLt, oLe, oGt, oGe, oEq, oNe, oIsN, oNotN, oIsB, oNotB, oIx, oSl, oLen, oSum, oAll, oAny, oAbs, o1I, o2I, oMin2, oMax2, oMin, oMax, oMinL, oMaxL, oInt, oBool, oList, oTuple, oSorted, oIn, oAddI, oGet, oSet, oAppend, oExtend, oPop, oPopAt, oIndexL, oIndexT, oInsert, oRemove, dTupX, dBMX, dLenSet, newL, startD, wipeD, D.tyN, List.map_cons, List.map_nil, List.cons_append, List.nil_append, List.length_cons, List.length_nil, List.getElem?_cons_zero, List.getElem?_cons_succ, List.set_cons_zero, List.set_cons_succ, List.replicate, Nat.sub_self, Nat.reduceSub, Nat.reduceAdd, Nat.zero_add, kb_ii, kb_ib, kb_it, kb_is, kb_bi, kb_bb, kb_bt, kb_bs, kb_tt, kb_ti, kb_ts, kb_ss, kb_si, kb_st, kb_nt, kb_ni, kb_ns, kb_lt, kb_li, kb_ls, ex_some, seq_tup, seq_tpx, itOf_tpx, seq_lst, seq_fz, list_lst, lsts_lst, lsts_fz, itOf_tup, itOf_lst, itOf_fz, now_int, now_bl, now_non, now_str, now_tup, now_lst, isNon_non, isNon_int, isNon_tup, isNon_ref, isNon_lst, isNon_str, isNon_bl]
  refine ⟨J, rfl, g, J, bs J, rfl, fun i hi => hb.lt hi, by rw [hb.len]; omega, ?_⟩
  simp only [dSeq, dNext, dRet, dRetN, dIfS, dAsg, dAsgG, dDrop, dPar2, dPar3, dAug, dAugS, dFor, dOp, dVar, dC, dTest, dChain, dAnd, dOr, dNot, dAndV, dOrV, dNotV, dIf, dTup, dLst, dNil, dCons, dStar, dCB, dCall, dSl, dNoPart, dPart, dBM, dRev, dNeg, dIsi, dListRg, dTupRg, dRg1, dRg2, dLc, dIt, dEnum, dZip2, dZip3, dRng1, dRng2, dYes, gN, gT, gsNil, gsCons, gSb, oI, oI0, oAdd, oMulA, oSub, oFdiv, oMod, oPow, oLt, oLe, oGt, oGe, oEq, oNe, oIsN, oNotN, oIsB, oNotB, oIx, oSl, oLen, oSum, oAll, oAny, oAbs, o1I, o2I, oMin2, oMax2, oMin, oMax, oMinL, oMaxL, oInt, oBool, oList, oTuple, oSorted, oIn, oAddI, oGet, oSet, oAppend, oExtend, oPop, oPopAt, oIndexL, oIndexT, oInsert, oRemove, dTupX, dBMX, dLenSet, newL, startD, wipeD, D.tyN, List.map_cons, List.map_nil, List.cons_append, List.nil_append, List.length_cons, List.length_nil, List.getElem?_cons_zero, List.getElem?_cons_succ, List.set_cons_zero, List.set_cons_succ, List.replicate, Nat.sub_self, Nat.reduceSub, Nat.reduceAdd, Nat.zero_add, kb_ii, kb_ib, kb_it, kb_is, kb_bi, kb_bb, kb_bt, kb_bs, kb_tt, kb_ti, kb_ts, kb_ss, kb_si, kb_st, kb_nt, kb_ni, kb_ns, kb_lt, kb_li, kb_ls, ex_some, seq_tup, seq_tpx, itOf_tpx, seq_lst, seq_fz, list_lst, lsts_lst, lsts_fz, itOf_tup, itOf_lst, itOf_fz, now_int, now_bl, now_non, now_str, now_tup, now_lst, isNon_non, isNon_int, isNon_tup, isNon_ref, isNon_lst, isNon_str, isNon_bl, ends_at_last (g.ne hb), a21]
  rw [show en J (bs J) = e from hbe]
  subst hv2
  refine seqG fun v3 hv3 => ?_
  simp only [dSeq, dNext, dRet, dRetN, dIfS, dAsg, dAsgG, dDrop, dPar2, dPar3, dAug, dAugS, dFor, dOp, dVar, dC, dTest, dChain, dAnd, dOr, dNot, dAndV, dOrV, dNotV, dIf, dTup, dLst, dNil, dCons, dStar, dCB, dCall, dSl, dNoPart, dPart, dBM, dRev, dNeg, dIsi, dListRg, dTupRg, dRg1, dRg2, dLc, dIt, dEnum, dZip2, dZip3, dRng1, dRng2, dYes, gN, gT, gsNil, gsCons, gSb, oI, oI0, oAdd, oMulA, oSub, oFdiv, oMod, oPow, oLt, oLe, oGt, oGe, oEq, oNe, oIsN, oNotN, oIsB, oNotB, oIx, oSl, oLen, oSum, oAll, oAny, oAbs, o1I, o2I, oMin2, oMax2, oMin, oMax, oMinL, oMaxL, oInt, oBool, oList, oTuple, oSorted, oIn, oAddI, oGet, oSet, oAppend, oExtend, oPop, oPopAt, oIndexL, oIndexT, oInsert, oRemove, dTupX, dBMX, dLenSet, newL, startD, wipeD, D.tyN, List.map_cons, List.map_nil, List.cons_append, List.nil_append, List.length_cons, List.length_nil, List.getElem?_cons_zero, List.getElem?_cons_succ, List.set_cons_zero, List.set_cons_succ, List.replicate, Nat.sub_self, Nat.reduceSub, Nat.reduceAdd, Nat.zero_add, kb_ii, kb_ib, kb_it, kb_is, kb_bi, kb_bb, kb_bt, kb_bs, kb_tt, kb_ti, kb_ts, kb_ss, kb_si, kb_st, kb_nt, kb_ni, kb_ns, kb_lt, kb_li, kb_ls, ex_some, seq_tup, seq_tpx, itOf_tpx, seq_lst, seq_fz, list_lst, lsts_lst, lsts_fz, itOf_tup, itOf_lst, itOf_fz, now_int, now_bl, now_non, now_str, now_tup, now_lst, isNon_non, isNon_int, isNon_tup, isNon_ref, isNon_lst, isNon_str, isNon_bl, a20, a21]
  rw [eqD_int, decide_eq_true (show (((2 : Nat) : Int) = 2) from rfl)]
  simp only [Bool.not_true, Bool.not_false]
  refine ⟨⟨okn_int, okn_int⟩, e, e, e, rfl, ?_⟩
  rw [decide_eq_true (Int.le_refl e)]
  simp only [Bool.and_true, Bool.not_true]
  subst hv3
  simp only [dSeq, dNext, dRet, dRetN, dIfS, dAsg, dAsgG, dDrop, dPar2, dPar3, dAug, dAugS, dFor, dOp, dVar, dC, dTest, dChain, dAnd, dOr, dNot, dAndV, dOrV, dNotV, dIf, dTup, dLst, dNil, dCons, dStar, dCB, dCall, dSl, dNoPart, dPart, dBM, dRev, dNeg, dIsi, dListRg, dTupRg, dRg1, dRg2, dLc, dIt, dEnum, dZip2, dZip3, dRng1, dRng2, dYes, gN, gT, gsNil, gsCons, gSb, oI, oI0, oAdd, oMulA, oSub, oFdiv, oMod, oPow, oLt, oLe, oGt, oGe, oEq, oNe, oIsN, oNotN, oIsB, oNotB, oIx, oSl, oLen, oSum, oAll, oAny, oAbs, o1I, o2I, oMin2, oMax2, oMin, oMax, oMinL, oMaxL, oInt, oBool, oList, oTuple, oSorted, oIn, oAddI, oGet, oSet, oAppend, oExtend, oPop, oPopAt, oIndexL, oIndexT, oInsert, oRemove, dTupX, dBMX, dLenSet, newL, startD, wipeD, D.tyN, List.map_cons, List.map_nil, List.cons_append, List.nil_append, List.length_cons, List.length_nil, List.getElem?_cons_zero, List.getElem?_cons_succ, List.set_cons_zero, List.set_cons_succ, List.replicate, Nat.sub_self, Nat.reduceSub, Nat.reduceAdd, Nat.zero_add, kb_ii, kb_ib, kb_it, kb_is, kb_bi, kb_bb, kb_bt, kb_bs, kb_tt, kb_ti, kb_ts, kb_ss, kb_si, kb_st, kb_nt, kb_ni, kb_ns, kb_lt, kb_li, kb_ls, ex_some, seq_tup, seq_tpx, itOf_tpx, seq_lst, seq_fz, list_lst, lsts_lst, lsts_fz, itOf_tup, itOf_lst, itOf_fz, now_int, now_bl, now_non, now_str, now_tup, now_lst, isNon_non, isNon_int, isNon_tup, isNon_ref, isNon_lst, isNon_str, isNon_bl, a21, eO, eJs]
  refine ⟨o, J.length, by rw [List.length_map], h, by omega, ?_⟩
  simp only [dSeq, dNext, dRet, dRetN, dIfS, dAsg, dAsgG, dDrop, dPar2, dPar3, dAug, dAugS, dFor, dOp, dVar, dC, dTest, dChain, dAnd, dOr, dNot, dAndV, dOrV, dNotV, dIf, dTup, dLst, dNil, dCons, dStar, dCB, dCall, dSl, dNoPart, dPart, dBM, dRev, dNeg, dIsi, dListRg, dTupRg, dRg1, dRg2, dLc, dIt, dEnum, dZip2, dZip3, dRng1, dRng2, dYes, gN, gT, gsNil, gsCons, gSb, oI, oI0, oAdd, oMulA, oSub, oFdiv, oMod, oPow, oLt, oLe, oGt, oGe, oEq, oNe, oIsN, oNotN, oIsB, oNotB, oIx, oSl, oLen, oSum, oAll, oAny, oAbs, o1I, o2I, oMin2, oMax2, oMin, oMax, oMinL, oMaxL, oInt, oBool, oList, oTuple, oSorted, oIn, oAddI, oGet, oSet, oAppend, oExtend, oPop, oPopAt, oIndexL, oIndexT, oInsert, oRemove, dTupX, dBMX, dLenSet, newL, startD, wipeD, D.tyN, List.map_cons, List.map_nil, List.cons_append, List.nil_append, List.length_cons, List.length_nil, List.getElem?_cons_zero, List.getElem?_cons_succ, List.set_cons_zero, List.set_cons_succ, List.replicate, Nat.sub_self, Nat.reduceSub, Nat.reduceAdd, Nat.zero_add, kb_ii, kb_ib, kb_it, kb_is, kb_bi, kb_bb, kb_bt, kb_bs, kb_tt, kb_ti, kb_ts, kb_ss, kb_si, kb_st, kb_nt, kb_ni, kb_ns, kb_lt, kb_li, kb_ls, ex_some, seq_tup, seq_tpx, itOf_tpx, seq_lst, seq_fz, list_lst, lsts_lst, lsts_fz, itOf_tup, itOf_lst, itOf_fz, now_int, now_bl, now_non, now_str, now_tup, now_lst, isNon_non, isNon_int, isNon_tup, isNon_ref, isNon_lst, isNon_str, isNon_bl]
  refine ⟨J, o, rfl, fun i hi => h.lt hi, by rw [h.len]; omega, ?_⟩
  simp only [dSeq, dNext, dRet, dRetN, dIfS, dAsg, dAsgG, dDrop, dPar2, dPar3, dAug, dAugS, dFor, dOp, dVar, dC, dTest, dChain, dAnd, dOr, dNot, dAndV, dOrV, dNotV, dIf, dTup, dLst, dNil, dCons, dStar, dCB, dCall, dSl, dNoPart, dPart, dBM, dRev, dNeg, dIsi, dListRg, dTupRg, dRg1, dRg2, dLc, dIt, dEnum, dZip2, dZip3, dRng1, dRng2, dYes, gN, gT, gsNil, gsCons, gSb, oI, oI0, oAdd, oMulA, oSub, oFdiv, oMod, oPow, oLt, oLe, oGt, oGe, oEq, oNe, oIsN, oNotN, oIsB, oNotB, oIx, oSl, oLen, oSum, oAll, oAny, oAbs, o1I, o2I, oMin2, oMax2, oMin, oMax, oMinL, oMaxL, oInt, oBool, oList, oTuple, oSorted, oIn, oAddI, oGet, oSet, oAppend, oExtend, oPop, oPopAt, oIndexL, oIndexT, oInsert, oRemove, dTupX, dBMX, dLenSet, newL, startD, wipeD, D.tyN, List.map_cons, List.map_nil, List.cons_append, List.nil_append, List.length_cons, List.length_nil, List.getElem?_cons_zero, List.getElem?_cons_succ, List.set_cons_zero, List.set_cons_succ, List.replicate, Nat.sub_self, Nat.reduceSub, Nat.reduceAdd, Nat.zero_add, kb_ii, kb_ib, kb_it, kb_is, kb_bi, kb_bb, kb_bt, kb_bs, kb_tt, kb_ti, kb_ts, kb_ss, kb_si, kb_st, kb_nt, kb_ni, kb_ns, kb_lt, kb_li, kb_ls, ex_some, seq_tup, seq_tpx, itOf_tpx, seq_lst, seq_fz, list_lst, lsts_lst, lsts_fz, itOf_tup, itOf_lst, itOf_fz, now_int, now_bl, now_non, now_str, now_tup, now_lst, isNon_non, isNon_int, isNon_tup, isNon_ref, isNon_lst, isNon_str, isNon_bl, ends_at_last (g.ne h), a21]
  rw [he, eqD_int, decide_eq_true rfl]
  exact ⟨⟨okn_int, okn_int⟩, .here q⟩
end L73
namespace L73
open PySem PySem.Spec PySem.W PyProof.Rows L2 PL
def sp__law_of : DSp := fun ds S Q => ∃ (p : Addr) (ns : List Int) (b : Nat) (o : MO), ds = [.ref p, .lst (ns.map .int)] ∧ 1 ≤ ns.length ∧ ns.length ≤ 100 ∧ S p = some o ∧ PotO b o ∧ b ≤ 1000000 ∧ ∀ z ∈ ns, ∀ o', PotO (b + 1) o' → Q (.int z) (S.up p o')
theorem pure__law_of : ∀ ds S Q, sp__law_of ds S Q → t__law_of sp__law_take (DeN Q) (startD N__law_of ds) S := by
  rintro ds S Q ⟨p, ns, b, o, rfl, h1, h2, hS, hp, hb, q⟩
  simp only [t__law_of, dSeq, dNext, dRet, dRetN, dIfS, dAsg, dAsgG, dDrop, dPar2, dPar3, dAug, dAugS, dFor, dOp, dVar, dC, dTest, dChain, dAnd, dOr, dNot, dAndV, dOrV, dNotV, dIf, dTup, dLst, dNil, dCons, dStar, dCB, dCall, dSl, dNoPart, dPart, dBM, dRev, dNeg, dIsi, dListRg, dTupRg, dRg1, dRg2, dLc, dIt, dEnum, dZip2, dZip3, dRng1, dRng2, dYes, gN, gT, gsNil, gsCons, gSb, oI, oI0, oAdd, oMulA, oSub, oFdiv, oMod, oPow, oLt, oLe, oGt, oGe, oEq, oNe, oIsN, oNotN, oIsB, oNotB, oIx, oSl, oLen, oSum, oAll, oAny, oAbs, o1I, o2I, oMin2, oMax2, oMin, oMax, oMinL, oMaxL, oInt, oBool, oList, oTuple, oSorted, oIn, oAddI, oGet, oSet, oAppend, oExtend, oPop, oPopAt, oIndexL, oIndexT, oInsert, oRemove, dTupX, dBMX, dLenSet, newL, startD, wipeD, D.tyN, List.map_cons, List.map_nil, List.cons_append, List.nil_append, List.length_cons, List.length_nil, List.getElem?_cons_zero, List.getElem?_cons_succ, List.set_cons_zero, List.set_cons_succ, List.replicate, Nat.sub_self, Nat.reduceSub, Nat.reduceAdd, Nat.zero_add, kb_ii, kb_ib, kb_it, kb_is, kb_bi, kb_bb, kb_bt, kb_bs, kb_tt, kb_ti, kb_ts, kb_ss, kb_si, kb_st, kb_nt, kb_ni, kb_ns, kb_lt, kb_li, kb_ls, ex_some, seq_tup, seq_tpx, itOf_tpx, seq_lst, seq_fz, list_lst, lsts_lst, lsts_fz, itOf_tup, itOf_lst, itOf_fz, now_int, now_bl, now_non, now_str, now_tup, now_lst, isNon_non, isNon_int, isNon_tup, isNon_ref, isNon_lst, isNon_str, isNon_bl, List.length_map]
  refine ⟨p, ns.length, b, o, rfl, by omega, by omega, hS, hp, hb, fun k o' k0 k1 hp' => ?_⟩
  simp only [dSeq, dNext, dRet, dRetN, dIfS, dAsg, dAsgG, dDrop, dPar2, dPar3, dAug, dAugS, dFor, dOp, dVar, dC, dTest, dChain, dAnd, dOr, dNot, dAndV, dOrV, dNotV, dIf, dTup, dLst, dNil, dCons, dStar, dCB, dCall, dSl, dNoPart, dPart, dBM, dRev, dNeg, dIsi, dListRg, dTupRg, dRg1, dRg2, dLc, dIt, dEnum, dZip2, dZip3, dRng1, dRng2, dYes, gN, gT, gsNil, gsCons, gSb, oI, oI0, oAdd, oMulA, oSub, oFdiv, oMod, oPow, oLt, oLe, oGt, oGe, oEq, oNe, oIsN, oNotN, oIsB, oNotB, oIx, oSl, oLen, oSum, oAll, oAny, oAbs, o1I, o2I, oMin2, oMax2, oMin, oMax, oMinL, oMaxL, oInt, oBool, oList, oTuple, oSorted, oIn, oAddI, oGet, oSet, oAppend, oExtend, oPop, oPopAt, oIndexL, oIndexT, oInsert, oRemove, dTupX, dBMX, dLenSet, newL, startD, wipeD, D.tyN, List.map_cons, List.map_nil, List.cons_append, List.nil_append, List.length_cons, List.length_nil, List.getElem?_cons_zero, List.getElem?_cons_succ, List.set_cons_zero, List.set_cons_succ, List.replicate, Nat.sub_self, Nat.reduceSub, Nat.reduceAdd, Nat.zero_add, kb_ii, kb_ib, kb_it, kb_is, kb_bi, kb_bb, kb_bt, kb_bs, kb_tt, kb_ti, kb_ts, kb_ss, kb_si, kb_st, kb_nt, kb_ni, kb_ns, kb_lt, kb_li, kb_ls, ex_some, seq_tup, seq_tpx, itOf_tpx, seq_lst, seq_fz, list_lst, lsts_lst, lsts_fz, itOf_tup, itOf_lst, itOf_fz, now_int, now_bl, now_non, now_str, now_tup, now_lst, isNon_non, isNon_int, isNon_tup, isNon_ref, isNon_lst, isNon_str, isNon_bl]
  rw [atI_map, atI_nn (0 : Int) k0 (by omega)]
  simp only [dSeq, dNext, dRet, dRetN, dIfS, dAsg, dAsgG, dDrop, dPar2, dPar3, dAug, dAugS, dFor, dOp, dVar, dC, dTest, dChain, dAnd, dOr, dNot, dAndV, dOrV, dNotV, dIf, dTup, dLst, dNil, dCons, dStar, dCB, dCall, dSl, dNoPart, dPart, dBM, dRev, dNeg, dIsi, dListRg, dTupRg, dRg1, dRg2, dLc, dIt, dEnum, dZip2, dZip3, dRng1, dRng2, dYes, gN, gT, gsNil, gsCons, gSb, oI, oI0, oAdd, oMulA, oSub, oFdiv, oMod, oPow, oLt, oLe, oGt, oGe, oEq, oNe, oIsN, oNotN, oIsB, oNotB, oIx, oSl, oLen, oSum, oAll, oAny, oAbs, o1I, o2I, oMin2, oMax2, oMin, oMax, oMinL, oMaxL, oInt, oBool, oList, oTuple, oSorted, oIn, oAddI, oGet, oSet, oAppend, oExtend, oPop, oPopAt, oIndexL, oIndexT, oInsert, oRemove, dTupX, dBMX, dLenSet, newL, startD, wipeD, D.tyN, List.map_cons, List.map_nil, List.cons_append, List.nil_append, List.length_cons, List.length_nil, List.getElem?_cons_zero, List.getElem?_cons_succ, List.set_cons_zero, List.set_cons_succ, List.replicate, Nat.sub_self, Nat.reduceSub, Nat.reduceAdd, Nat.zero_add, kb_ii, kb_ib, kb_it, kb_is, kb_bi, kb_bb, kb_bt, kb_bs, kb_tt, kb_ti, kb_ts, kb_ss, kb_si, kb_st, kb_nt, kb_ni, kb_ns, kb_lt, kb_li, kb_ls, ex_some, seq_tup, seq_tpx, itOf_tpx, seq_lst, seq_fz, list_lst, lsts_lst, lsts_fz, itOf_tup, itOf_lst, itOf_fz, now_int, now_bl, now_non, now_str, now_tup, now_lst, isNon_non, isNon_int, isNon_tup, isNon_ref, isNon_lst, isNon_str, isNon_bl, Option.map_some]
  refine .here (q _ ?_ o' hp')
  rw [List.getD_eq_getElem?_getD, List.getElem?_eq_getElem (show k.toNat < ns.length by omega)]
  exact List.getElem_mem _
def sp__law_some : DSp := fun ds S Q => ∃ (p : Addr) (n : Nat) (b : Nat) (o : MO), ds = [.ref p, .lst ((List.range n).map nI), .int (n : Nat)] ∧ n ≤ 1000 ∧ S p = some o ∧ PotO b o ∧ b ≤ 100000 ∧ ∀ F o', Perm_ n F → PotO (b + n) o' → Q (.lst (F.map nI)) (S.up p o')
theorem pure__law_some : ∀ ds S Q, sp__law_some ds S Q → t__law_some sp__law_take (DeN Q) (startD N__law_some ds) S := by
  rintro ds S Q ⟨p, n, b, o, rfl, hn, hS, hp, hb, q⟩
  unfold t__law_some
  refine seqG fun v hv => ?_
  simp only [dSeq, dNext, dRet, dRetN, dIfS, dAsg, dAsgG, dDrop, dPar2, dPar3, dAug, dAugS, dFor, dOp, dVar, dC, dTest, dChain, dAnd, dOr, dNot, dAndV, dOrV, dNotV, dIf, dTup, dLst, dNil, dCons, dStar, dCB, dCall, dSl, dNoPart, dPart, dBM, dRev, dNeg, dIsi, dListRg, dTupRg, dRg1, dRg2, dLc, dIt, dEnum, dZip2, dZip3, dRng1, dRng2, dYes, gN, gT, gsNil, gsCons, gSb, oI, oI0, oAdd, oMulA, oSub, oFdiv, oMod, oPow, oLt, oLe, oGt, oGe, oEq, oNe, oIsN, oNotN, oIsB, oNotB, oIx, oSl, oLen, oSum, oAll, oAny, oAbs, o1I, o2I, oMin2, oMax2, oMin, oMax, oMinL, oMaxL, oInt, oBool, oList, oTuple, oSorted, oIn, oAddI, oGet, oSet, oAppend, oExtend, oPop, oPopAt, oIndexL, oIndexT, oInsert, oRemove, dTupX, dBMX, dLenSet, newL, startD, wipeD, D.tyN, List.map_cons, List.map_nil, List.cons_append, List.nil_append, List.length_cons, List.length_nil, List.getElem?_cons_zero, List.getElem?_cons_succ, List.set_cons_zero, List.set_cons_succ, List.replicate, Nat.sub_self, Nat.reduceSub, Nat.reduceAdd, Nat.zero_add, kb_ii, kb_ib, kb_it, kb_is, kb_bi, kb_bb, kb_bt, kb_bs, kb_tt, kb_ti, kb_ts, kb_ss, kb_si, kb_st, kb_nt, kb_ni, kb_ns, kb_lt, kb_li, kb_ls, ex_some, seq_tup, seq_tpx, itOf_tpx, seq_lst, seq_fz, list_lst, lsts_lst, lsts_fz, itOf_tup, itOf_lst, itOf_fz, now_int, now_bl, now_non, now_str, now_tup, now_lst, isNon_non, isNon_int, isNon_tup, isNon_ref, isNon_lst, isNon_str, isNon_bl]
  intro pr hpr
  refine ⟨Nat.zero_le _, fun pf hpf => ?_⟩
  have hrp : pr ≠ p := fun z => by subst z; rw [hpr] at hS; cases hS
  have hfr : pr ≠ pf := ne_of_in Sto.up_same hpf
  have hpf0 : S pf = none := (Ext.up hpr).none hpf
  have hfp : pf ≠ p := fun z => by subst z; rw [hpf0] at hS; cases hS
  subst hv
  refine seqG fun v2 hv2 => ?_
  refine forG fun τ hτ => ?_
  simp only [dSeq, dNext, dRet, dRetN, dIfS, dAsg, dAsgG, dDrop, dPar2, dPar3, dAug, dAugS, dFor, dOp, dVar, dC, dTest, dChain, dAnd, dOr, dNot, dAndV, dOrV, dNotV, dIf, dTup, dLst, dNil, dCons, dStar, dCB, dCall, dSl, dNoPart, dPart, dBM, dRev, dNeg, dIsi, dListRg, dTupRg, dRg1, dRg2, dLc, dIt, dEnum, dZip2, dZip3, dRng1, dRng2, dYes, gN, gT, gsNil, gsCons, gSb, oI, oI0, oAdd, oMulA, oSub, oFdiv, oMod, oPow, oLt, oLe, oGt, oGe, oEq, oNe, oIsN, oNotN, oIsB, oNotB, oIx, oSl, oLen, oSum, oAll, oAny, oAbs, o1I, o2I, oMin2, oMax2, oMin, oMax, oMinL, oMaxL, oInt, oBool, oList, oTuple, oSorted, oIn, oAddI, oGet, oSet, oAppend, oExtend, oPop, oPopAt, oIndexL, oIndexT, oInsert, oRemove, dTupX, dBMX, dLenSet, newL, startD, wipeD, D.tyN, List.map_cons, List.map_nil, List.cons_append, List.nil_append, List.length_cons, List.length_nil, List.getElem?_cons_zero, List.getElem?_cons_succ, List.set_cons_zero, List.set_cons_succ, List.replicate, Nat.sub_self, Nat.reduceSub, Nat.reduceAdd, Nat.zero_add, kb_ii, kb_ib, kb_it, kb_is, kb_bi, kb_bb, kb_bt, kb_bs, kb_tt, kb_ti, kb_ts, kb_ss, kb_si, kb_st, kb_nt, kb_ni, kb_ns, kb_lt, kb_li, kb_ls, ex_some, seq_tup, seq_tpx, itOf_tpx, seq_lst, seq_fz, list_lst, lsts_lst, lsts_fz, itOf_tup, itOf_lst, itOf_fz, now_int, now_bl, now_non, now_str, now_tup, now_lst, isNon_non, isNon_int, isNon_tup, isNon_ref, isNon_lst, isNon_str, isNon_bl]
  refine ⟨⟨by omega, by omega⟩, trivial, ?_⟩
  rw [Int.toNat_natCast]
  refine loopD_invE (α := Nat) (fun i => .int (0 + (i : Int))) (fun xs ρ S' => ∃ o5 Rl F o', ρ = [some (.ref p), some (.lst ((List.range n).map nI)), some (.int (n : Nat)), some (.ref pr), some (.ref pf), o5] ∧ F.length + xs.length = n ∧ Perm_ n (F ++ Rl) ∧ S' p = some o' ∧ PotO (b + F.length) o' ∧ S' pr = some (.lst (Rl.map nI)) ∧ S' pf = some (.lst (F.map nI)) ∧ Fr p S S') ?_ ?_ _ _ _
    ⟨none, List.range n, [], o, rfl, by simp, List.Perm.refl _, by rw [Sto.up_ne (Ne.symm hfp), Sto.up_ne (Ne.symm hrp)]; exact hS, hp, by rw [Sto.up_ne hfr]; exact Sto.up_same, Sto.up_same, (Fr.refl.new hpr).new hpf⟩ trivial
  · rintro x xs ρ S' ⟨o5, Rl, F, o', rfl, hlen, hP, hS', hp', hr', hf', hfrm⟩ _ N hN
    rw [List.length_cons] at hlen
    have hl2 := hP.len
    rw [List.length_append] at hl2
    subst hτ
    simp only [gN, List.set_cons_zero, List.set_cons_succ]
    simp only [dSeq, dNext, dRet, dRetN, dIfS, dAsg, dAsgG, dDrop, dPar2, dPar3, dAug, dAugS, dFor, dOp, dVar, dC, dTest, dChain, dAnd, dOr, dNot, dAndV, dOrV, dNotV, dIf, dTup, dLst, dNil, dCons, dStar, dCB, dCall, dSl, dNoPart, dPart, dBM, dRev, dNeg, dIsi, dListRg, dTupRg, dRg1, dRg2, dLc, dIt, dEnum, dZip2, dZip3, dRng1, dRng2, dYes, gN, gT, gsNil, gsCons, gSb, oI, oI0, oAdd, oMulA, oSub, oFdiv, oMod, oPow, oLt, oLe, oGt, oGe, oEq, oNe, oIsN, oNotN, oIsB, oNotB, oIx, oSl, oLen, oSum, oAll, oAny, oAbs, o1I, o2I, oMin2, oMax2, oMin, oMax, oMinL, oMaxL, oInt, oBool, oList, oTuple, oSorted, oIn, oAddI, oGet, oSet, oAppend, oExtend, oPop, oPopAt, oIndexL, oIndexT, oInsert, oRemove, dTupX, dBMX, dLenSet, newL, startD, wipeD, D.tyN, List.map_cons, List.map_nil, List.cons_append, List.nil_append, List.length_cons, List.length_nil, List.getElem?_cons_zero, List.getElem?_cons_succ, List.set_cons_zero, List.set_cons_succ, List.replicate, Nat.sub_self, Nat.reduceSub, Nat.reduceAdd, Nat.zero_add, kb_ii, kb_ib, kb_it, kb_is, kb_bi, kb_bb, kb_bt, kb_bs, kb_tt, kb_ti, kb_ts, kb_ss, kb_si, kb_st, kb_nt, kb_ni, kb_ns, kb_lt, kb_li, kb_ls, ex_some, seq_tup, seq_tpx, itOf_tpx, seq_lst, seq_fz, list_lst, lsts_lst, lsts_fz, itOf_tup, itOf_lst, itOf_fz, now_int, now_bl, now_non, now_str, now_tup, now_lst, isNon_non, isNon_int, isNon_tup, isNon_ref, isNon_lst, isNon_str, isNon_bl, list_ref hf', list_ref hr', seq_ref hr', List.length_map]
    refine ⟨⟨_, rfl⟩, ⟨_, rfl⟩, p, _, b + F.length, o', rfl, by omega, by omega, hS', hp', by omega, fun k o2 k0 k1 hp2 => ?_⟩
    have hr2 : S'.up p o2 pr = some (.lst (Rl.map nI)) := by rw [Sto.up_ne hrp]; exact hr'
    simp only [dSeq, dNext, dRet, dRetN, dIfS, dAsg, dAsgG, dDrop, dPar2, dPar3, dAug, dAugS, dFor, dOp, dVar, dC, dTest, dChain, dAnd, dOr, dNot, dAndV, dOrV, dNotV, dIf, dTup, dLst, dNil, dCons, dStar, dCB, dCall, dSl, dNoPart, dPart, dBM, dRev, dNeg, dIsi, dListRg, dTupRg, dRg1, dRg2, dLc, dIt, dEnum, dZip2, dZip3, dRng1, dRng2, dYes, gN, gT, gsNil, gsCons, gSb, oI, oI0, oAdd, oMulA, oSub, oFdiv, oMod, oPow, oLt, oLe, oGt, oGe, oEq, oNe, oIsN, oNotN, oIsB, oNotB, oIx, oSl, oLen, oSum, oAll, oAny, oAbs, o1I, o2I, oMin2, oMax2, oMin, oMax, oMinL, oMaxL, oInt, oBool, oList, oTuple, oSorted, oIn, oAddI, oGet, oSet, oAppend, oExtend, oPop, oPopAt, oIndexL, oIndexT, oInsert, oRemove, dTupX, dBMX, dLenSet, newL, startD, wipeD, D.tyN, List.map_cons, List.map_nil, List.cons_append, List.nil_append, List.length_cons, List.length_nil, List.getElem?_cons_zero, List.getElem?_cons_succ, List.set_cons_zero, List.set_cons_succ, List.replicate, Nat.sub_self, Nat.reduceSub, Nat.reduceAdd, Nat.zero_add, kb_ii, kb_ib, kb_it, kb_is, kb_bi, kb_bb, kb_bt, kb_bs, kb_tt, kb_ti, kb_ts, kb_ss, kb_si, kb_st, kb_nt, kb_ni, kb_ns, kb_lt, kb_li, kb_ls, ex_some, seq_tup, seq_tpx, itOf_tpx, seq_lst, seq_fz, list_lst, lsts_lst, lsts_fz, itOf_tup, itOf_lst, itOf_fz, now_int, now_bl, now_non, now_str, now_tup, now_lst, isNon_non, isNon_int, isNon_tup, isNon_ref, isNon_lst, isNon_str, isNon_bl, trk_ref hr2, List.length_map]
    have hk : k.toNat < Rl.length := by omega
    refine ⟨small (by omega), k.toNat, nI Rl[k.toNat], ixN_nn k0 (by omega), by rw [List.getElem?_map, List.getElem?_eq_getElem hk]; rfl, ?_⟩
    rw [erase_nI]
    have hf2 : ((S'.up p o2).up pr (MO.lst ((Rl.eraseIdx k.toNat).map nI))) pf = some (.lst (F.map nI)) := by rw [Sto.up_ne (Ne.symm hfr), Sto.up_ne hfp]; exact hf'
    simp only [trk_ref hf2, List.length_map]
    refine ⟨by rw [sizeLine_eq]; omega, ?_⟩
    refine hN _ _ trivial ⟨_, Rl.eraseIdx k.toNat, F ++ [Rl[k.toNat]], o2, rfl, by simp; omega, ?_, ?_, ?_, ?_, ?_, ?_⟩
    · refine List.Perm.trans ?_ hP
      rw [List.append_assoc]
      exact List.Perm.append_left F (cons_erase Rl k.toNat hk)
    · rw [Sto.up_ne (Ne.symm hfp), Sto.up_ne (Ne.symm hrp)]; exact Sto.up_same
    · rw [List.length_append]; exact hp2
    · rw [Sto.up_ne hfr]; exact Sto.up_same
    · rw [Sto.up_same, List.map_append]; rfl
    · exact ((hfrm.own).old hpr).old hpf0
  · rintro ρ S' ⟨o5, Rl, F, o', rfl, hlen, hP, hS', hp', hr', hf', hfrm⟩
    rw [List.length_nil, Nat.add_zero] at hlen
    have hl2 := hP.len
    rw [List.length_append] at hl2
    have : Rl = [] := List.eq_nil_of_length_eq_zero (by omega)
    subst this
    rw [List.append_nil] at hP
    rw [hlen] at hp'
    show v2 _ _ _
    subst hv2
    simp only [dSeq, dNext, dRet, dRetN, dIfS, dAsg, dAsgG, dDrop, dPar2, dPar3, dAug, dAugS, dFor, dOp, dVar, dC, dTest, dChain, dAnd, dOr, dNot, dAndV, dOrV, dNotV, dIf, dTup, dLst, dNil, dCons, dStar, dCB, dCall, dSl, dNoPart, dPart, dBM, dRev, dNeg, dIsi, dListRg, dTupRg, dRg1, dRg2, dLc, dIt, dEnum, dZip2, dZip3, dRng1, dRng2, dYes, gN, gT, gsNil, gsCons, gSb, oI, oI0, oAdd, oMulA, oSub, oFdiv, oMod, oPow, oLt, oLe, oGt, oGe, oEq, oNe, oIsN, oNotN, oIsB, oNotB, oIx, oSl, oLen, oSum, oAll, oAny, oAbs, o1I, o2I, oMin2, oMax2, oMin, oMax, oMinL, oMaxL, oInt, oBool, oList, oTuple, oSorted, oIn, oAddI, oGet, oSet, oAppend, oExtend, oPop, oPopAt, oIndexL, oIndexT, oInsert, oRemove, dTupX, dBMX, dLenSet, newL, startD, wipeD, D.tyN, List.map_cons, List.map_nil, List.cons_append, List.nil_append, List.length_cons, List.length_nil, List.getElem?_cons_zero, List.getElem?_cons_succ, List.set_cons_zero, List.set_cons_succ, List.replicate, Nat.sub_self, Nat.reduceSub, Nat.reduceAdd, Nat.zero_add, kb_ii, kb_ib, kb_it, kb_is, kb_bi, kb_bb, kb_bt, kb_bs, kb_tt, kb_ti, kb_ts, kb_ss, kb_si, kb_st, kb_nt, kb_ni, kb_ns, kb_lt, kb_li, kb_ls, ex_some, seq_tup, seq_tpx, itOf_tpx, seq_lst, seq_fz, list_lst, lsts_lst, lsts_fz, itOf_tup, itOf_lst, itOf_fz, now_int, now_bl, now_non, now_str, now_tup, now_lst, isNon_non, isNon_int, isNon_tup, isNon_ref, isNon_lst, isNon_str, isNon_bl]
    refine FzQ.extL (S := S.up p o') (fun a u h => ?_) hf' (by rw [Sto.up_ne hfp]; exact hpf0) (q F o' hP hp')
    by_cases e : a = p
    · subst e; rw [Sto.up_same] at h; rw [hS']; exact h
    · rw [Sto.up_ne e] at h; exact hfrm a u e h

end L73
namespace L73
open PySem PySem.Spec PySem.W PyProof.Rows L2 PL
def sp__law_sums : DSp := fun ds S Q => ∃ (J : List Jb) (o : List Nat), ds = [eJs J, .tup (o.map nI)] ∧ GJ J ∧ Perm_ J.length o ∧ Q (.lst ((sm J o).map D.int)) S
theorem pure__law_sums : ∀ ds S Q, sp__law_sums ds S Q → t__law_sums (DeN Q) (startD N__law_sums ds) S := by
  rintro ds S0 Q ⟨J, o, rfl, g, h, q⟩
  have h60 := g.n60
  have hl := h.len
  unfold t__law_sums
  refine seqG fun v2 hv2 => ?_
  simp only [dSeq, dNext, dRet, dRetN, dIfS, dAsg, dAsgG, dDrop, dPar2, dPar3, dAug, dAugS, dFor, dOp, dVar, dC, dTest, dChain, dAnd, dOr, dNot, dAndV, dOrV, dNotV, dIf, dTup, dLst, dNil, dCons, dStar, dCB, dCall, dSl, dNoPart, dPart, dBM, dRev, dNeg, dIsi, dListRg, dTupRg, dRg1, dRg2, dLc, dIt, dEnum, dZip2, dZip3, dRng1, dRng2, dYes, gN, gT, gsNil, gsCons, gSb, oI, oI0, oAdd, oMulA, oSub, oFdiv, oMod, oPow, oLt, oLe, oGt, oGe, oEq, oNe, oIsN, oNotN, oIsB, oNotB, oIx, oSl, oLen, oSum, oAll, oAny, oAbs, o1I, o2I, oMin2, oMax2, oMin, oMax, oMinL, oMaxL, oInt, oBool, oList, oTuple, oSorted, oIn, oAddI, oGet, oSet, oAppend, oExtend, oPop, oPopAt, oIndexL, oIndexT, oInsert, oRemove, dTupX, dBMX, dLenSet, newL, startD, wipeD, D.tyN, List.map_cons, List.map_nil, List.cons_append, List.nil_append, List.length_cons, List.length_nil, List.getElem?_cons_zero, List.getElem?_cons_succ, List.set_cons_zero, List.set_cons_succ, List.replicate, Nat.sub_self, Nat.reduceSub, Nat.reduceAdd, Nat.zero_add, kb_ii, kb_ib, kb_it, kb_is, kb_bi, kb_bb, kb_bt, kb_bs, kb_tt, kb_ti, kb_ts, kb_ss, kb_si, kb_st, kb_nt, kb_ni, kb_ns, kb_lt, kb_li, kb_ls, ex_some, seq_tup, seq_tpx, itOf_tpx, seq_lst, seq_fz, list_lst, lsts_lst, lsts_fz, itOf_tup, itOf_lst, itOf_fz, now_int, now_bl, now_non, now_str, now_tup, now_lst, isNon_non, isNon_int, isNon_tup, isNon_ref, isNon_lst, isNon_str, isNon_bl]
  refine ⟨Nat.zero_le _, fun p hp => ?_⟩
  subst hv2
  refine seqG fun v3 hv3 => ?_
  refine forG fun τ hτ => ?_
  simp only [dSeq, dNext, dRet, dRetN, dIfS, dAsg, dAsgG, dDrop, dPar2, dPar3, dAug, dAugS, dFor, dOp, dVar, dC, dTest, dChain, dAnd, dOr, dNot, dAndV, dOrV, dNotV, dIf, dTup, dLst, dNil, dCons, dStar, dCB, dCall, dSl, dNoPart, dPart, dBM, dRev, dNeg, dIsi, dListRg, dTupRg, dRg1, dRg2, dLc, dIt, dEnum, dZip2, dZip3, dRng1, dRng2, dYes, gN, gT, gsNil, gsCons, gSb, oI, oI0, oAdd, oMulA, oSub, oFdiv, oMod, oPow, oLt, oLe, oGt, oGe, oEq, oNe, oIsN, oNotN, oIsB, oNotB, oIx, oSl, oLen, oSum, oAll, oAny, oAbs, o1I, o2I, oMin2, oMax2, oMin, oMax, oMinL, oMaxL, oInt, oBool, oList, oTuple, oSorted, oIn, oAddI, oGet, oSet, oAppend, oExtend, oPop, oPopAt, oIndexL, oIndexT, oInsert, oRemove, dTupX, dBMX, dLenSet, newL, startD, wipeD, D.tyN, List.map_cons, List.map_nil, List.cons_append, List.nil_append, List.length_cons, List.length_nil, List.getElem?_cons_zero, List.getElem?_cons_succ, List.set_cons_zero, List.set_cons_succ, List.replicate, Nat.sub_self, Nat.reduceSub, Nat.reduceAdd, Nat.zero_add, kb_ii, kb_ib, kb_it, kb_is, kb_bi, kb_bb, kb_bt, kb_bs, kb_tt, kb_ti, kb_ts, kb_ss, kb_si, kb_st, kb_nt, kb_ni, kb_ns, kb_lt, kb_li, kb_ls, ex_some, seq_tup, seq_tpx, itOf_tpx, seq_lst, seq_fz, list_lst, lsts_lst, lsts_fz, itOf_tup, itOf_lst, itOf_fz, now_int, now_bl, now_non, now_str, now_tup, now_lst, isNon_non, isNon_int, isNon_tup, isNon_ref, isNon_lst, isNon_str, isNon_bl]
  refine ⟨by simp; omega, trivial, ?_⟩
  rw [Int.toNat_natCast, List.length_map]
  refine loopD_invE (α := Nat) (fun i => .int (0 + (i : Int))) (fun xs ρ S => ∃ o3 o4 o5 k, ρ = [some (eJs J), some (.tup (o.map nI)), some (.ref p), o3, o4, o5] ∧ xs = (List.range o.length).drop k ∧ k ≤ o.length ∧ Ext S0 S ∧ S p = some (.lst (((List.range k).map fun k => crit J o k).map D.int))) ?_ ?_ _ _ _ ⟨none, none, none, 0, rfl, rfl, Nat.zero_le _, Ext.up hp, Sto.up_same⟩ trivial
  · rintro a xs ρ S ⟨o3, o4, o5, k, rfl, hx, hk, hE, hS⟩ _ N hN
    obtain ⟨hi, ea, er⟩ := drop_at hx
    rw [List.length_range] at hi
    rw [List.getElem_range] at ea
    subst ea
    subst hτ
    simp only [gN, List.set_cons_zero, List.set_cons_succ]
    refine seqG fun v4 hv4 => ?_
    simp only [dSeq, dNext, dRet, dRetN, dIfS, dAsg, dAsgG, dDrop, dPar2, dPar3, dAug, dAugS, dFor, dOp, dVar, dC, dTest, dChain, dAnd, dOr, dNot, dAndV, dOrV, dNotV, dIf, dTup, dLst, dNil, dCons, dStar, dCB, dCall, dSl, dNoPart, dPart, dBM, dRev, dNeg, dIsi, dListRg, dTupRg, dRg1, dRg2, dLc, dIt, dEnum, dZip2, dZip3, dRng1, dRng2, dYes, gN, gT, gsNil, gsCons, gSb, oI, oI0, oAdd, oMulA, oSub, oFdiv, oMod, oPow, oLt, oLe, oGt, oGe, oEq, oNe, oIsN, oNotN, oIsB, oNotB, oIx, oSl, oLen, oSum, oAll, oAny, oAbs, o1I, o2I, oMin2, oMax2, oMin, oMax, oMinL, oMaxL, oInt, oBool, oList, oTuple, oSorted, oIn, oAddI, oGet, oSet, oAppend, oExtend, oPop, oPopAt, oIndexL, oIndexT, oInsert, oRemove, dTupX, dBMX, dLenSet, newL, startD, wipeD, D.tyN, List.map_cons, List.map_nil, List.cons_append, List.nil_append, List.length_cons, List.length_nil, List.getElem?_cons_zero, List.getElem?_cons_succ, List.set_cons_zero, List.set_cons_succ, List.replicate, Nat.sub_self, Nat.reduceSub, Nat.reduceAdd, Nat.zero_add, kb_ii, kb_ib, kb_it, kb_is, kb_bi, kb_bb, kb_bt, kb_bs, kb_tt, kb_ti, kb_ts, kb_ss, kb_si, kb_st, kb_nt, kb_ni, kb_ns, kb_lt, kb_li, kb_ls, ex_some, seq_tup, seq_tpx, itOf_tpx, seq_lst, seq_fz, list_lst, lsts_lst, lsts_fz, itOf_tup, itOf_lst, itOf_fz, now_int, now_bl, now_non, now_str, now_tup, now_lst, isNon_non, isNon_int, isNon_tup, isNon_ref, isNon_lst, isNon_str, isNon_bl, Int.zero_add]
    rw [cut_to _ _ (by omega), show ((a : Int) + 1).toNat = a + 1 by omega, ← List.map_take]
    refine lc_mapE (o.take (a + 1)) nI (fun i => D.int (cA_ J i)) (fun _ _ => trivial) (small (by rw [List.length_take]; omega)) (fun i hi2 S' e N M hN => ?_) ?_
    · have hlt := h.lt (List.mem_of_mem_take hi2)
      simp only [dSeq, dNext, dRet, dRetN, dIfS, dAsg, dAsgG, dDrop, dPar2, dPar3, dAug, dAugS, dFor, dOp, dVar, dC, dTest, dChain, dAnd, dOr, dNot, dAndV, dOrV, dNotV, dIf, dTup, dLst, dNil, dCons, dStar, dCB, dCall, dSl, dNoPart, dPart, dBM, dRev, dNeg, dIsi, dListRg, dTupRg, dRg1, dRg2, dLc, dIt, dEnum, dZip2, dZip3, dRng1, dRng2, dYes, gN, gT, gsNil, gsCons, gSb, oI, oI0, oAdd, oMulA, oSub, oFdiv, oMod, oPow, oLt, oLe, oGt, oGe, oEq, oNe, oIsN, oNotN, oIsB, oNotB, oIx, oSl, oLen, oSum, oAll, oAny, oAbs, o1I, o2I, oMin2, oMax2, oMin, oMax, oMinL, oMaxL, oInt, oBool, oList, oTuple, oSorted, oIn, oAddI, oGet, oSet, oAppend, oExtend, oPop, oPopAt, oIndexL, oIndexT, oInsert, oRemove, dTupX, dBMX, dLenSet, newL, startD, wipeD, D.tyN, List.map_cons, List.map_nil, List.cons_append, List.nil_append, List.length_cons, List.length_nil, List.getElem?_cons_zero, List.getElem?_cons_succ, List.set_cons_zero, List.set_cons_succ, List.replicate, Nat.sub_self, Nat.reduceSub, Nat.reduceAdd, Nat.zero_add, kb_ii, kb_ib, kb_it, kb_is, kb_bi, kb_bb, kb_bt, kb_bs, kb_tt, kb_ti, kb_ts, kb_ss, kb_si, kb_st, kb_nt, kb_ni, kb_ns, kb_lt, kb_li, kb_ls, ex_some, seq_tup, seq_tpx, itOf_tpx, seq_lst, seq_fz, list_lst, lsts_lst, lsts_fz, itOf_tup, itOf_lst, itOf_fz, now_int, now_bl, now_non, now_str, now_tup, now_lst, isNon_non, isNon_int, isNon_tup, isNon_ref, isNon_lst, isNon_str, isNon_bl, nI, eJs, ix_job hlt, a20]
      exact hN
    simp only [dSeq, dNext, dRet, dRetN, dIfS, dAsg, dAsgG, dDrop, dPar2, dPar3, dAug, dAugS, dFor, dOp, dVar, dC, dTest, dChain, dAnd, dOr, dNot, dAndV, dOrV, dNotV, dIf, dTup, dLst, dNil, dCons, dStar, dCB, dCall, dSl, dNoPart, dPart, dBM, dRev, dNeg, dIsi, dListRg, dTupRg, dRg1, dRg2, dLc, dIt, dEnum, dZip2, dZip3, dRng1, dRng2, dYes, gN, gT, gsNil, gsCons, gSb, oI, oI0, oAdd, oMulA, oSub, oFdiv, oMod, oPow, oLt, oLe, oGt, oGe, oEq, oNe, oIsN, oNotN, oIsB, oNotB, oIx, oSl, oLen, oSum, oAll, oAny, oAbs, o1I, o2I, oMin2, oMax2, oMin, oMax, oMinL, oMaxL, oInt, oBool, oList, oTuple, oSorted, oIn, oAddI, oGet, oSet, oAppend, oExtend, oPop, oPopAt, oIndexL, oIndexT, oInsert, oRemove, dTupX, dBMX, dLenSet, newL, startD, wipeD, D.tyN, List.map_cons, List.map_nil, List.cons_append, List.nil_append, List.length_cons, List.length_nil, List.getElem?_cons_zero, List.getElem?_cons_succ, List.set_cons_zero, List.set_cons_succ, List.replicate, Nat.sub_self, Nat.reduceSub, Nat.reduceAdd, Nat.zero_add, kb_ii, kb_ib, kb_it, kb_is, kb_bi, kb_bb, kb_bt, kb_bs, kb_tt, kb_ti, kb_ts, kb_ss, kb_si, kb_st, kb_nt, kb_ni, kb_ns, kb_lt, kb_li, kb_ls, ex_some, seq_tup, seq_tpx, itOf_tpx, seq_lst, seq_fz, list_lst, lsts_lst, lsts_fz, itOf_tup, itOf_lst, itOf_fz, now_int, now_bl, now_non, now_str, now_tup, now_lst, isNon_non, isNon_int, isNon_tup, isNon_ref, isNon_lst, isNon_str, isNon_bl]
    refine ⟨(o.take (a + 1)).map fun i => cA_ J i, by rw [List.map_map]; rfl, ?_⟩
    subst hv4
    simp only [dSeq, dNext, dRet, dRetN, dIfS, dAsg, dAsgG, dDrop, dPar2, dPar3, dAug, dAugS, dFor, dOp, dVar, dC, dTest, dChain, dAnd, dOr, dNot, dAndV, dOrV, dNotV, dIf, dTup, dLst, dNil, dCons, dStar, dCB, dCall, dSl, dNoPart, dPart, dBM, dRev, dNeg, dIsi, dListRg, dTupRg, dRg1, dRg2, dLc, dIt, dEnum, dZip2, dZip3, dRng1, dRng2, dYes, gN, gT, gsNil, gsCons, gSb, oI, oI0, oAdd, oMulA, oSub, oFdiv, oMod, oPow, oLt, oLe, oGt, oGe, oEq, oNe, oIsN, oNotN, oIsB, oNotB, oIx, oSl, oLen, oSum, oAll, oAny, oAbs, o1I, o2I, oMin2, oMax2, oMin, oMax, oMinL, oMaxL, oInt, oBool, oList, oTuple, oSorted, oIn, oAddI, oGet, oSet, oAppend, oExtend, oPop, oPopAt, oIndexL, oIndexT, oInsert, oRemove, dTupX, dBMX, dLenSet, newL, startD, wipeD, D.tyN, List.map_cons, List.map_nil, List.cons_append, List.nil_append, List.length_cons, List.length_nil, List.getElem?_cons_zero, List.getElem?_cons_succ, List.set_cons_zero, List.set_cons_succ, List.replicate, Nat.sub_self, Nat.reduceSub, Nat.reduceAdd, Nat.zero_add, kb_ii, kb_ib, kb_it, kb_is, kb_bi, kb_bb, kb_bt, kb_bs, kb_tt, kb_ti, kb_ts, kb_ss, kb_si, kb_st, kb_nt, kb_ni, kb_ns, kb_lt, kb_li, kb_ls, ex_some, seq_tup, seq_tpx, itOf_tpx, seq_lst, seq_fz, list_lst, lsts_lst, lsts_fz, itOf_tup, itOf_lst, itOf_fz, now_int, now_bl, now_non, now_str, now_tup, now_lst, isNon_non, isNon_int, isNon_tup, isNon_ref, isNon_lst, isNon_str, isNon_bl, list_ref hS]
    refine ⟨⟨_, rfl⟩, ?_⟩
    rw [cut_from _ _ (by omega) (by rw [List.length_map]; omega), Int.toNat_natCast, ← List.map_drop]
    refine lc_mapE (o.drop a) nI (fun i => D.int (cB_ J i)) (fun _ _ => trivial) (small (by rw [List.length_drop]; omega)) (fun i hi2 S' e N M hN => ?_) ?_
    · have hlt := h.lt (List.mem_of_mem_drop hi2)
      simp only [dSeq, dNext, dRet, dRetN, dIfS, dAsg, dAsgG, dDrop, dPar2, dPar3, dAug, dAugS, dFor, dOp, dVar, dC, dTest, dChain, dAnd, dOr, dNot, dAndV, dOrV, dNotV, dIf, dTup, dLst, dNil, dCons, dStar, dCB, dCall, dSl, dNoPart, dPart, dBM, dRev, dNeg, dIsi, dListRg, dTupRg, dRg1, dRg2, dLc, dIt, dEnum, dZip2, dZip3, dRng1, dRng2, dYes, gN, gT, gsNil, gsCons, gSb, oI, oI0, oAdd, oMulA, oSub, oFdiv, oMod, oPow, oLt, oLe, oGt, oGe, oEq, oNe, oIsN, oNotN, oIsB, oNotB, oIx, oSl, oLen, oSum, oAll, oAny, oAbs, o1I, o2I, oMin2, oMax2, oMin, oMax, oMinL, oMaxL, oInt, oBool, oList, oTuple, oSorted, oIn, oAddI, oGet, oSet, oAppend, oExtend, oPop, oPopAt, oIndexL, oIndexT, oInsert, oRemove, dTupX, dBMX, dLenSet, newL, startD, wipeD, D.tyN, List.map_cons, List.map_nil, List.cons_append, List.nil_append, List.length_cons, List.length_nil, List.getElem?_cons_zero, List.getElem?_cons_succ, List.set_cons_zero, List.set_cons_succ, List.replicate, Nat.sub_self, Nat.reduceSub, Nat.reduceAdd, Nat.zero_add, kb_ii, kb_ib, kb_it, kb_is, kb_bi, kb_bb, kb_bt, kb_bs, kb_tt, kb_ti, kb_ts, kb_ss, kb_si, kb_st, kb_nt, kb_ni, kb_ns, kb_lt, kb_li, kb_ls, ex_some, seq_tup, seq_tpx, itOf_tpx, seq_lst, seq_fz, list_lst, lsts_lst, lsts_fz, itOf_tup, itOf_lst, itOf_fz, now_int, now_bl, now_non, now_str, now_tup, now_lst, isNon_non, isNon_int, isNon_tup, isNon_ref, isNon_lst, isNon_str, isNon_bl, nI, eJs, ix_job hlt, a21]
      exact hN
    simp only [dSeq, dNext, dRet, dRetN, dIfS, dAsg, dAsgG, dDrop, dPar2, dPar3, dAug, dAugS, dFor, dOp, dVar, dC, dTest, dChain, dAnd, dOr, dNot, dAndV, dOrV, dNotV, dIf, dTup, dLst, dNil, dCons, dStar, dCB, dCall, dSl, dNoPart, dPart, dBM, dRev, dNeg, dIsi, dListRg, dTupRg, dRg1, dRg2, dLc, dIt, dEnum, dZip2, dZip3, dRng1, dRng2, dYes, gN, gT, gsNil, gsCons, gSb, oI, oI0, oAdd, oMulA, oSub, oFdiv, oMod, oPow, oLt, oLe, oGt, oGe, oEq, oNe, oIsN, oNotN, oIsB, oNotB, oIx, oSl, oLen, oSum, oAll, oAny, oAbs, o1I, o2I, oMin2, oMax2, oMin, oMax, oMinL, oMaxL, oInt, oBool, oList, oTuple, oSorted, oIn, oAddI, oGet, oSet, oAppend, oExtend, oPop, oPopAt, oIndexL, oIndexT, oInsert, oRemove, dTupX, dBMX, dLenSet, newL, startD, wipeD, D.tyN, List.map_cons, List.map_nil, List.cons_append, List.nil_append, List.length_cons, List.length_nil, List.getElem?_cons_zero, List.getElem?_cons_succ, List.set_cons_zero, List.set_cons_succ, List.replicate, Nat.sub_self, Nat.reduceSub, Nat.reduceAdd, Nat.zero_add, kb_ii, kb_ib, kb_it, kb_is, kb_bi, kb_bb, kb_bt, kb_bs, kb_tt, kb_ti, kb_ts, kb_ss, kb_si, kb_st, kb_nt, kb_ni, kb_ns, kb_lt, kb_li, kb_ls, ex_some, seq_tup, seq_tpx, itOf_tpx, seq_lst, seq_fz, list_lst, lsts_lst, lsts_fz, itOf_tup, itOf_lst, itOf_fz, now_int, now_bl, now_non, now_str, now_tup, now_lst, isNon_non, isNon_int, isNon_tup, isNon_ref, isNon_lst, isNon_str, isNon_bl]
    refine ⟨(o.drop a).map fun i => cB_ J i, by rw [List.map_map]; rfl, ?_⟩
    simp only [dSeq, dNext, dRet, dRetN, dIfS, dAsg, dAsgG, dDrop, dPar2, dPar3, dAug, dAugS, dFor, dOp, dVar, dC, dTest, dChain, dAnd, dOr, dNot, dAndV, dOrV, dNotV, dIf, dTup, dLst, dNil, dCons, dStar, dCB, dCall, dSl, dNoPart, dPart, dBM, dRev, dNeg, dIsi, dListRg, dTupRg, dRg1, dRg2, dLc, dIt, dEnum, dZip2, dZip3, dRng1, dRng2, dYes, gN, gT, gsNil, gsCons, gSb, oI, oI0, oAdd, oMulA, oSub, oFdiv, oMod, oPow, oLt, oLe, oGt, oGe, oEq, oNe, oIsN, oNotN, oIsB, oNotB, oIx, oSl, oLen, oSum, oAll, oAny, oAbs, o1I, o2I, oMin2, oMax2, oMin, oMax, oMinL, oMaxL, oInt, oBool, oList, oTuple, oSorted, oIn, oAddI, oGet, oSet, oAppend, oExtend, oPop, oPopAt, oIndexL, oIndexT, oInsert, oRemove, dTupX, dBMX, dLenSet, newL, startD, wipeD, D.tyN, List.map_cons, List.map_nil, List.cons_append, List.nil_append, List.length_cons, List.length_nil, List.getElem?_cons_zero, List.getElem?_cons_succ, List.set_cons_zero, List.set_cons_succ, List.replicate, Nat.sub_self, Nat.reduceSub, Nat.reduceAdd, Nat.zero_add, kb_ii, kb_ib, kb_it, kb_is, kb_bi, kb_bb, kb_bt, kb_bs, kb_tt, kb_ti, kb_ts, kb_ss, kb_si, kb_st, kb_nt, kb_ni, kb_ns, kb_lt, kb_li, kb_ls, ex_some, seq_tup, seq_tpx, itOf_tpx, seq_lst, seq_fz, list_lst, lsts_lst, lsts_fz, itOf_tup, itOf_lst, itOf_fz, now_int, now_bl, now_non, now_str, now_tup, now_lst, isNon_non, isNon_int, isNon_tup, isNon_ref, isNon_lst, isNon_str, isNon_bl, trk_ref hS]
    refine ⟨by rw [List.length_map, List.length_map, List.length_range, sizeLine_eq]; omega, hN _ _ trivial ⟨_, _, _, a + 1, rfl, er, hi, hE.set hp, ?_⟩⟩
    rw [Sto.up_same, List.range_succ, List.map_append, List.map_append]; rfl
  · rintro ρ S ⟨o3, o4, o5, k, rfl, hx, hk, hE, hS⟩
    have hk2 : k = o.length := by
      have := congrArg List.length hx
      rw [List.length_drop, List.length_range, List.length_nil] at this
      omega
    subst hk2
    show v3 _ _ _
    subst hv3
    simp only [dSeq, dNext, dRet, dRetN, dIfS, dAsg, dAsgG, dDrop, dPar2, dPar3, dAug, dAugS, dFor, dOp, dVar, dC, dTest, dChain, dAnd, dOr, dNot, dAndV, dOrV, dNotV, dIf, dTup, dLst, dNil, dCons, dStar, dCB, dCall, dSl, dNoPart, dPart, dBM, dRev, dNeg, dIsi, dListRg, dTupRg, dRg1, dRg2, dLc, dIt, dEnum, dZip2, dZip3, dRng1, dRng2, dYes, gN, gT, gsNil, gsCons, gSb, oI, oI0, oAdd, oMulA, oSub, oFdiv, oMod, oPow, oLt, oLe, oGt, oGe, oEq, oNe, oIsN, oNotN, oIsB, oNotB, oIx, oSl, oLen, oSum, oAll, oAny, oAbs, o1I, o2I, oMin2, oMax2, oMin, oMax, oMinL, oMaxL, oInt, oBool, oList, oTuple, oSorted, oIn, oAddI, oGet, oSet, oAppend, oExtend, oPop, oPopAt, oIndexL, oIndexT, oInsert, oRemove, dTupX, dBMX, dLenSet, newL, startD, wipeD, D.tyN, List.map_cons, List.map_nil, List.cons_append, List.nil_append, List.length_cons, List.length_nil, List.getElem?_cons_zero, List.getElem?_cons_succ, List.set_cons_zero, List.set_cons_succ, List.replicate, Nat.sub_self, Nat.reduceSub, Nat.reduceAdd, Nat.zero_add, kb_ii, kb_ib, kb_it, kb_is, kb_bi, kb_bb, kb_bt, kb_bs, kb_tt, kb_ti, kb_ts, kb_ss, kb_si, kb_st, kb_nt, kb_ni, kb_ns, kb_lt, kb_li, kb_ls, ex_some, seq_tup, seq_tpx, itOf_tpx, seq_lst, seq_fz, list_lst, lsts_lst, lsts_fz, itOf_tup, itOf_lst, itOf_fz, now_int, now_bl, now_non, now_str, now_tup, now_lst, isNon_non, isNon_int, isNon_tup, isNon_ref, isNon_lst, isNon_str, isNon_bl]
    exact FzQ.extL hE hS hp q
end L73
namespace L73
open PySem PySem.Spec PySem.W PyProof.Rows L2 PL
/-! ### the end is the greatest sum by places -/
theorem crit_cut {J : List Jb} {o : List Nat} {k : Nat} (h : k < o.length) : crit J o k = cut J (o.take k) o[k] (o.drop (k + 1)) := by
  unfold crit cut
  rw [List.take_add_one, List.getElem?_eq_getElem h, List.drop_eq_getElem_cons h, bsum_cons]
  show asum J (List.take k o ++ [o[k]]) + _ = _
  rw [asum_app, asum_cons, asum_nil]
  omega
theorem crit_le {J : List Jb} {o : List Nat} {k : Nat} (h : k < o.length) : crit J o k ≤ en J o := by
  rw [crit_cut h]
  have := en_ge J (o.take k) o[k] (o.drop (k + 1))
  rw [← List.drop_eq_getElem_cons h, List.take_append_drop] at this
  exact this
theorem sm_le {J : List Jb} {o : List Nat} {x : Int} (h : x ∈ sm J o) : x ≤ en J o := by
  obtain ⟨k, hk, rfl⟩ := List.mem_map.mp h
  exact crit_le (List.mem_range.mp hk)
theorem en_mem {J : List Jb} (g : GJ J) {o : List Nat} (h : o ≠ []) : en J o ∈ sm J o := by
  obtain ⟨p, d, q, rfl, e⟩ := en_is g h
  refine List.mem_map.mpr ⟨p.length, List.mem_range.mpr (by simp), ?_⟩
  have hl : p.length < (p ++ d :: q).length := by simp
  rw [crit_cut hl, e]
  simp
theorem sm_len (J : List Jb) (o : List Nat) : (sm J o).length = o.length := by unfold sm; rw [List.length_map, List.length_range]
theorem sm_at {J : List Jb} {o : List Nat} {k : Nat} {z : Int} (h : (sm J o)[k]? = some z) : k < o.length ∧ crit J o k = z := by
  unfold sm at h
  rw [List.getElem?_map] at h
  by_cases hk : k < o.length
  · rw [List.getElem?_range hk] at h
    exact ⟨hk, Option.some.inj h⟩
  · rw [List.getElem?_eq_none (by simp; omega)] at h; cases h
/-! ### checks exchanged -/
def back (J : List Jb) : List Jb := J.map fun j => (j.2, j.1)
theorem back_len (J : List Jb) : (back J).length = J.length := List.length_map ..
theorem gj_map (f : Jb → Jb) (h : f (0, 0) = (0, 0)) (J : List Jb) (i : Nat) : gj (J.map f) i = f (gj J i) := by
  unfold gj
  rw [List.getD_eq_getElem?_getD, List.getD_eq_getElem?_getD, List.getElem?_map]
  cases J[i]? with
  | none => exact h.symm
  | some x => rfl
theorem back_A (J : List Jb) (i : Nat) : cA_ (back J) i = cB_ J i := by unfold cA_ cB_ back; rw [gj_map _ rfl]
theorem back_B (J : List Jb) (i : Nat) : cB_ (back J) i = cA_ J i := by unfold cA_ cB_ back; rw [gj_map _ rfl]
theorem GJ.back {J : List Jb} (g : GJ J) : GJ (back J) := ⟨by rw [back_len]; exact g.n1, by rw [back_len]; exact g.n60,
  fun j hj => by obtain ⟨i, hi, rfl⟩ := List.mem_map.mp hj; exact g.b i hi, fun j hj => by obtain ⟨i, hi, rfl⟩ := List.mem_map.mp hj; exact g.a i hi⟩
theorem back_back (J : List Jb) : L73.back (L73.back J) = J := by unfold L73.back; rw [List.map_map]; exact List.map_id J
theorem back_asum (J : List Jb) (o : List Nat) : asum (back J) o = bsum J o := gs_eq fun i _ => back_A J i
theorem back_bsum (J : List Jb) (o : List Nat) : bsum (back J) o = asum J o := gs_eq fun i _ => back_B J i
theorem gs_rev (w : Nat → Int) (o : List Nat) : gs w o.reverse = gs w o := gs_perm (List.reverse_perm o)
theorem back_le {J : List Jb} (g : GJ J) {o : List Nat} (h : o ≠ []) : en J o ≤ en (back J) o.reverse := by
  obtain ⟨p, d, q, rfl, e⟩ := en_is g h
  rw [e]
  have := en_ge (back J) q.reverse d p.reverse
  have er : (p ++ d :: q).reverse = q.reverse ++ d :: p.reverse := by simp
  rw [er]
  unfold cut at *
  rw [back_asum, back_bsum, bsum_gs, asum_gs, gs_rev, gs_rev, back_A, back_B] at this
  rw [asum_gs, bsum_gs]
  omega
theorem back_en {J : List Jb} (g : GJ J) {o : List Nat} (h : o ≠ []) : en (back J) o.reverse = en J o := by
  have h1 := back_le g h
  have h2 := back_le g.back (o := o.reverse) (by simpa using h)
  rw [back_back, List.reverse_reverse] at h2
  omega
theorem perm_rev {n : Nat} {o : List Nat} (h : Perm_ n o) : Perm_ n o.reverse := (List.reverse_perm o).trans h
theorem back_best {J : List Jb} (g : GJ J) : best (back J) = best J := by
  have hb := bs_perm J
  have hb2 := bs_perm (back J)
  have h1 := best_le g.back (o := (bs J).reverse) (by rw [back_len]; exact perm_rev hb)
  rw [back_en g (g.ne hb)] at h1
  have h2 := best_le g (o := (bs (back J)).reverse) (by have := perm_rev hb2; rw [back_len] at this; exact this)
  have h3 := back_en g.back (g.back.ne hb2)
  rw [back_back] at h3
  rw [h3] at h2
  unfold best at *
  omega
theorem back_mx (J : List Jb) (i : Nat) : mxw (back J) i = mxw J i := by unfold mxw; rw [back_A, back_B]; omega
theorem back_mn (J : List Jb) (i : Nat) : mnw (back J) i = mnw J i := by unfold mnw; rw [back_A, back_B]; omega
theorem Worst.back {J : List Jb} {e : Int} {i : Nat} (w : Worst J e i) : Worst (back J) e i := by
  refine ⟨by rw [back_len]; exact w.lt, ?_, fun k hk => ?_⟩
  · rw [w.is, back_mn]
    congr 1
    unfold great
    rw [back_len]
    exact (gs_eq fun i _ => back_mx J i).symm
  · rw [back_mn, back_mn]; exact w.most k (by rw [back_len] at hk; exact hk)
/-! ### ticks so many times as many -/
def far (t : Int) (J : List Jb) : List Jb := J.map fun j => (t * j.1, t * j.2)
theorem far_len (t : Int) (J : List Jb) : (far t J).length = J.length := List.length_map ..
theorem far_A (t : Int) (J : List Jb) (i : Nat) : cA_ (far t J) i = t * cA_ J i := by unfold cA_ far; rw [gj_map _ (by simp)]
theorem far_B (t : Int) (J : List Jb) (i : Nat) : cB_ (far t J) i = t * cB_ J i := by unfold cB_ far; rw [gj_map _ (by simp)]
theorem gs_mul (t : Int) (w : Nat → Int) : ∀ o, gs (fun i => t * w i) o = t * gs w o
  | [] => by unfold gs; simp
  | a :: o => by rw [gs_cons, gs_cons, gs_mul t w o, Int.mul_add]
theorem far_cut (t : Int) (J : List Jb) (p : List Nat) (d : Nat) (q : List Nat) : cut (far t J) p d q = t * cut J p d q := by
  unfold cut
  have e1 : asum (far t J) p = t * asum J p := (gs_eq fun i _ => far_A t J i).trans (gs_mul t (cA_ J) p)
  have e2 : bsum (far t J) q = t * bsum J q := (gs_eq fun i _ => far_B t J i).trans (gs_mul t (cB_ J) q)
  rw [e1, e2, far_A, far_B, Int.mul_add, Int.mul_add, Int.mul_add]
theorem far_en {t : Int} (ht : 0 ≤ t) {J : List Jb} (g : GJ J) (gf : GJ (far t J)) {o : List Nat} (h : o ≠ []) : en (far t J) o = t * en J o := by
  apply Int.le_antisymm
  · obtain ⟨p, d, q, rfl, e⟩ := en_is gf h
    rw [e, far_cut]
    exact Int.mul_le_mul_of_nonneg_left (en_ge J p d q) ht
  · obtain ⟨p, d, q, rfl, e⟩ := en_is g h
    rw [e, ← far_cut]
    exact en_ge _ p d q
theorem far_best {t : Int} (ht : 0 ≤ t) {J : List Jb} (g : GJ J) (gf : GJ (far t J)) : best (far t J) = t * best J := by
  have hb := bs_perm J
  have hb2 := bs_perm (far t J)
  have h1 := best_le gf (o := bs J) (by rw [far_len]; exact hb)
  rw [far_en ht g gf (g.ne hb)] at h1
  have hb3 : Perm_ J.length (bs (far t J)) := by rw [far_len] at hb2; exact hb2
  have h2 := Int.mul_le_mul_of_nonneg_left (best_le g hb3) ht
  rw [← far_en ht g gf (g.ne hb3)] at h2
  unfold best at *
  omega
theorem GJ.far {J : List Jb} (g : GJ J) {u t : Int} (hA : ∀ j ∈ J, j.1 < u ∧ j.2 < u) (h1 : 1 ≤ t) (h : (t = 1 ∨ (t ≤ 3 ∧ u < 100))) : GJ (far t J) := by
  refine ⟨by rw [far_len]; exact g.n1, by rw [far_len]; exact g.n60, fun j hj => ?_, fun j hj => ?_⟩
  · obtain ⟨i, hi, rfl⟩ := List.mem_map.mp hj
    have := g.a i hi
    have := hA i hi
    rcases h with rfl | ⟨h3, hu⟩
    · simp only [Int.one_mul]; omega
    · have : t = 1 ∨ t = 2 ∨ t = 3 := by omega
      rcases this with rfl | rfl | rfl <;> simp only <;> omega
  · obtain ⟨i, hi, rfl⟩ := List.mem_map.mp hj
    have := g.b i hi
    have := hA i hi
    rcases h with rfl | ⟨h3, hu⟩
    · simp only [Int.one_mul]; omega
    · have : t = 1 ∨ t = 2 ∨ t = 3 := by omega
      rcases this with rfl | rfl | rfl <;> simp only <;> omega
/-! ### quicker jobs -/
structure Quick (Z J : List Jb) : Prop where
  len : Z.length = J.length
  A : ∀ i, cA_ Z i ≤ cA_ J i
  B : ∀ i, cB_ Z i ≤ cB_ J i
theorem Quick.en {Z J : List Jb} (k : Quick Z J) (gz : GJ Z) {o : List Nat} (h : o ≠ []) : en Z o ≤ L73.en J o := by
  obtain ⟨p, d, q, rfl, e⟩ := en_is gz h
  rw [e]
  have := en_ge J p d q
  unfold cut at *
  have h1 : asum Z p ≤ asum J p := gs_le fun i _ => k.A i
  have h2 : bsum Z q ≤ bsum J q := gs_le fun i _ => k.B i
  have := k.A d
  have := k.B d
  omega
theorem Quick.best {Z J : List Jb} (k : Quick Z J) (gz : GJ Z) : best Z ≤ L73.best J := by
  have hb : Perm_ Z.length (bs J) := by rw [k.len]; exact bs_perm J
  exact Int.le_trans (best_le gz hb) (k.en gz (gz.ne hb))
theorem Quick.worst {Z J : List Jb} (k : Quick Z J) (gz : GJ Z) (g : GJ J) {e e' : Int} {i i' : Nat} (w' : Worst Z e' i') (w : Worst J e i) : e' ≤ e := by
  have hp := wo_perm w'.lt
  rw [← w'.wo gz]
  refine Int.le_trans (k.en gz (gz.ne hp)) (w.le g ?_)
  rw [← k.len]; exact hp
/-! ### a family more -/
theorem fin_sub {J M : List Jb} (gm : GJ M) {o' o : List Nat} (hs : o'.Sublist o) : ∀ {f s f' s' : Int}, f ≤ f' → s ≤ s' → (∀ i ∈ o', cA_ J i = cA_ M i ∧ cB_ J i = cB_ M i) → (fin J (f, s) o').2 ≤ (fin M (f', s') o).2 := by
  induction hs with
  | slnil => intro f s f' s' _ h _; exact h
  | cons a hs ih =>
    intro f s f' s' h1 h2 hi
    rw [fin]
    have := gm.A a
    have := gm.B a
    exact ih (by show f ≤ f' + _; omega) (by show s ≤ max (f' + _) s' + _; omega) hi
  | cons_cons a hs ih =>
    intro f s f' s' h1 h2 hi
    have h0 := hi a List.mem_cons_self
    rw [fin, fin]
    simp only
    exact ih (by omega) (by omega) fun i h => hi i (List.mem_cons_of_mem _ h)
theorem app_A (J : List Jb) (x : Jb) {i : Nat} (h : i < J.length) : cA_ J i = cA_ (J ++ [x]) i ∧ cB_ J i = cB_ (J ++ [x]) i := by
  unfold cA_ cB_ gj
  rw [List.getD_eq_getElem?_getD, List.getD_eq_getElem?_getD, List.getElem?_append_left h]
  exact ⟨rfl, rfl⟩
theorem more_best {J : List Jb} {x : Jb} (g : GJ J) (gm : GJ (J ++ [x])) : best J ≤ best (J ++ [x]) := by
  have hb := bs_perm (J ++ [x])
  rw [List.length_append] at hb
  have hp : Perm_ J.length ((bs (J ++ [x])).filter fun i => decide (i < J.length)) := by
    refine (List.perm_ext_iff_of_nodup (hb.nd.filter _) List.nodup_range).mpr fun a => ?_
    rw [List.mem_filter, List.mem_range]
    have : a ∈ bs (J ++ [x]) ↔ a < J.length + 1 := by rw [hb.mem_iff, List.mem_range]; rfl
    rw [this, decide_eq_true_eq]; omega
  refine Int.le_trans (best_le g hp) ?_
  unfold en best en
  exact fin_sub gm List.filter_sublist (Int.le_refl _) (Int.le_refl _) fun i hi => app_A J x (hp.lt hi)
theorem more_worst {J : List Jb} {x : Jb} (g : GJ J) (gm : GJ (J ++ [x])) {e e' : Int} {i i' : Nat} (w : Worst J e i) (w' : Worst (J ++ [x]) e' i') : e ≤ e' := by
  have hp := wo_perm w.lt
  have hp2 : Perm_ (J ++ [x]).length (wo J i ++ [J.length]) := by
    unfold Perm_
    rw [List.length_append, List.length_cons, List.length_nil, List.range_succ]
    exact List.Perm.append hp (List.Perm.refl _)
  have h1 := w'.le gm hp2
  rw [← w.wo g]
  refine Int.le_trans ?_ h1
  unfold en
  exact fin_sub gm (List.sublist_append_left _ _) (Int.le_refl _) (Int.le_refl _) fun i hi => app_A J x (hp.lt hi)
/-! ### sums -/
theorem asum_all {J : List Jb} {o : List Nat} (h : Perm_ J.length o) : asum J o = (J.map fun j => j.1).sum := by
  rw [asum_gs, gs_perm h]
  unfold gs
  congr 1
  refine List.ext_getElem (by simp) fun i h1 h2 => ?_
  rw [List.getElem_map, List.getElem_map, List.getElem_range]
  unfold cA_ gj
  rw [List.getD_eq_getElem?_getD, List.getElem?_eq_getElem (by simpa using h2)]; rfl
theorem bsum_all {J : List Jb} {o : List Nat} (h : Perm_ J.length o) : bsum J o = (J.map fun j => j.2).sum := by
  rw [bsum_gs, gs_perm h]
  unfold gs
  congr 1
  refine List.ext_getElem (by simp) fun i h1 h2 => ?_
  rw [List.getElem_map, List.getElem_map, List.getElem_range]
  unfold cB_ gj
  rw [List.getD_eq_getElem?_getD, List.getElem?_eq_getElem (by simpa using h2)]; rfl
theorem en_sums {J : List Jb} (g : GJ J) {o : List Nat} (h : Perm_ J.length o) : (J.map fun j => j.1).sum ≤ en J o ∧ (J.map fun j => j.2).sum ≤ en J o := by
  have hne := g.ne h
  refine ⟨?_, ?_⟩
  · rw [← asum_all h]
    rcases List.eq_nil_or_concat o with rfl | ⟨o', a, rfl⟩
    · exact absurd rfl hne
    · rw [List.concat_eq_append]
      have := en_ge J o' a []
      have := (g.B a).1
      unfold cut at *
      rw [asum_app, asum_cons, asum_nil]
      rw [bsum_nil] at *
      omega
  · rw [← bsum_all h]
    obtain ⟨a, r, rfl⟩ := List.exists_cons_of_ne_nil hne
    have := en_ge J [] a r
    have := (g.A a).1
    unfold cut at *
    rw [List.nil_append, asum_nil] at *
    rw [bsum_cons]
    omega
theorem mnw_mem {J : List Jb} {i : Nat} (h : i < J.length) : mnw J i ∈ J.map fun j => min j.1 j.2 := by
  refine List.mem_map.mpr ⟨gj J i, gj_mem h, rfl⟩
theorem en_ge_0 {J : List Jb} (g : GJ J) {o : List Nat} (h : Perm_ J.length o) : 0 ≤ en J o := by
  have := (en_sums g h).1
  have h2 : 0 ≤ (J.map fun j => j.1).sum := by
    rw [← asum_all h]
    have : gs (fun _ => 0) o ≤ gs (cA_ J) o := gs_le fun i _ => (g.A i).1
    have e : gs (fun _ => 0) o = 0 := by unfold gs; rw [List.map_const']; simp
    rw [e] at this
    exact this
  omega
theorem Worst.up {J : List Jb} {e : Int} {i : Nat} (w : Worst J e i) (g : GJ J) : e ≤ 610000 := by
  rw [w.is]
  have h1 : great J ≤ gs (fun _ => 10000) (List.range J.length) := gs_le fun k _ => by have := g.A k; have := g.B k; unfold mxw; omega
  have e : gs (fun _ => 10000) (List.range J.length) = 10000 * (J.length : Int) := by unfold gs; rw [List.map_const']; simp; omega
  have := g.n60
  have := g.A i
  have := g.B i
  unfold mnw
  omega
end L73
namespace L73
open PySem PySem.Spec PySem.W PyProof.Rows L2 PL
theorem quick_of {Z J : List Jb} (h : All2 (fun (j z : Jb) => z.2 = j.2 ∧ 0 ≤ z.1 ∧ z.1 ≤ j.1) J Z) : Quick Z J := by
  have hl := h.len
  have key : ∀ i, (gj Z i).1 ≤ (gj J i).1 ∧ (gj Z i).2 ≤ (gj J i).2 := fun i => by
    unfold gj
    rw [List.getD_eq_getElem?_getD, List.getD_eq_getElem?_getD]
    cases hz : Z[i]? with
    | none =>
      rw [List.getElem?_eq_none_iff] at hz
      rw [List.getElem?_eq_none (by omega)]
      exact ⟨Int.le_refl _, Int.le_refl _⟩
    | some z =>
      obtain ⟨j, hj, r1, r2, r3⟩ := h.at i z hz
      rw [hj]
      show z.1 ≤ j.1 ∧ z.2 ≤ j.2
      omega
  exact ⟨hl, fun i => (key i).1, fun i => (key i).2⟩
theorem eqi {a b : Int} {X Y : Prop} (h : a = b) (y : Y) : (D.okn 8 (D.int a) = true ∧ D.okn 8 (D.int b) = true) ∧ (match !eqD (D.int a) (D.int b) with | true => X | false => Y) := by
  refine ⟨⟨okn_int, okn_int⟩, ?_⟩
  rw [eqD_int, decide_eq_true h]
  exact y
def sp__law_right : DSp := fun ds S Q => ∃ (p : Addr) (o : MO), ds = [.ref p] ∧ S p = some o ∧ PotO 0 o ∧ ∀ o', Q (.bl true) (S.up p o')
theorem pure__law_right : ∀ ds S Q, sp__law_right ds S Q → t__law_right sp__law_of sp__law_take sp__law_some sp__law_sums sp_end_of sp_critical_of sp_best_sequence sp_worst_sequence sp_ends_of sp_between_of sp_shows_best_sequence sp_shows_worst_sequence sp_always_done sp_shows_always_done (DeN Q) (startD N__law_right ds) S := by
  rintro ds S0 Q ⟨p, o0, rfl, hS0, hp0, q⟩
  unfold t__law_right
  refine seqG fun v hv => ?_
  refine forG fun τ hτ => ?_
  simp only [dSeq, dNext, dRet, dRetN, dIfS, dAsg, dAsgG, dDrop, dPar2, dPar3, dAug, dAugS, dFor, dOp, dVar, dC, dTest, dChain, dAnd, dOr, dNot, dAndV, dOrV, dNotV, dIf, dTup, dLst, dNil, dCons, dStar, dCB, dCall, dSl, dNoPart, dPart, dBM, dRev, dNeg, dIsi, dListRg, dTupRg, dRg1, dRg2, dLc, dIt, dEnum, dZip2, dZip3, dRng1, dRng2, dYes, gN, gT, gsNil, gsCons, gSb, oI, oI0, oAdd, oMulA, oSub, oFdiv, oMod, oPow, oLt, oLe, oGt, oGe, oEq, oNe, oIsN, oNotN, oIsB, oNotB, oIx, oSl, oLen, oSum, oAll, oAny, oAbs, o1I, o2I, oMin2, oMax2, oMin, oMax, oMinL, oMaxL, oInt, oBool, oList, oTuple, oSorted, oIn, oAddI, oGet, oSet, oAppend, oExtend, oPop, oPopAt, oIndexL, oIndexT, oInsert, oRemove, dTupX, dBMX, dLenSet, newL, startD, wipeD, D.tyN, List.map_cons, List.map_nil, List.cons_append, List.nil_append, List.length_cons, List.length_nil, List.getElem?_cons_zero, List.getElem?_cons_succ, List.set_cons_zero, List.set_cons_succ, List.replicate, Nat.sub_self, Nat.reduceSub, Nat.reduceAdd, Nat.zero_add, kb_ii, kb_ib, kb_it, kb_is, kb_bi, kb_bb, kb_bt, kb_bs, kb_tt, kb_ti, kb_ts, kb_ss, kb_si, kb_st, kb_nt, kb_ni, kb_ns, kb_lt, kb_li, kb_ls, ex_some, seq_tup, seq_tpx, itOf_tpx, seq_lst, seq_fz, list_lst, lsts_lst, lsts_fz, itOf_tup, itOf_lst, itOf_fz, now_int, now_bl, now_non, now_str, now_tup, now_lst, isNon_non, isNon_int, isNon_tup, isNon_ref, isNon_lst, isNon_str, isNon_bl]
  refine ⟨by decide, trivial, ?_⟩
  refine loopD_invE (α := Nat) (fun i => .int (0 + (i : Int))) (fun xs ρ S => ∃ o1 o2 o3 o4 o5 o6 o7 o8 o9 o10 o11 o12 o13 o14 o15 o16 o17 o18 o19 o20 o21 o22 o, ρ = [some (.ref p), o1, o2, o3, o4, o5, o6, o7, o8, o9, o10, o11, o12, o13, o14, o15, o16, o17, o18, o19, o20, o21, o22] ∧ S p = some o ∧ PotO (400 * (8 - xs.length)) o ∧ Fr p S0 S ∧ xs.length ≤ 8) ?_ ?_ _ _ _
    ⟨none, none, none, none, none, none, none, none, none, none, none, none, none, none, none, none, none, none, none, none, none, none, o0, rfl, hS0, hp0.mono (Nat.zero_le _), Fr.refl, Nat.le_refl _⟩ trivial
  · rintro x xs ρ S ⟨o1, o2, o3, o4, o5, o6, o7, o8, o9, o10, o11, o12, o13, o14, o15, o16, o17, o18, o19, o20, o21, o22, o, rfl, hS, hp, hfr, hxl⟩ _ N hN
    rw [List.length_cons] at hp hxl
    generalize hb : 400 * (8 - (xs.length + 1)) = b at hp
    have hb2 : b ≤ 4000 := by omega
    subst hτ
    simp only [gN, List.set_cons_zero, List.set_cons_succ]
    refine seqG fun v1 hv1 => ?_
    simp only [dSeq, dNext, dRet, dRetN, dIfS, dAsg, dAsgG, dDrop, dPar2, dPar3, dAug, dAugS, dFor, dOp, dVar, dC, dTest, dChain, dAnd, dOr, dNot, dAndV, dOrV, dNotV, dIf, dTup, dLst, dNil, dCons, dStar, dCB, dCall, dSl, dNoPart, dPart, dBM, dRev, dNeg, dIsi, dListRg, dTupRg, dRg1, dRg2, dLc, dIt, dEnum, dZip2, dZip3, dRng1, dRng2, dYes, gN, gT, gsNil, gsCons, gSb, oI, oI0, oAdd, oMulA, oSub, oFdiv, oMod, oPow, oLt, oLe, oGt, oGe, oEq, oNe, oIsN, oNotN, oIsB, oNotB, oIx, oSl, oLen, oSum, oAll, oAny, oAbs, o1I, o2I, oMin2, oMax2, oMin, oMax, oMinL, oMaxL, oInt, oBool, oList, oTuple, oSorted, oIn, oAddI, oGet, oSet, oAppend, oExtend, oPop, oPopAt, oIndexL, oIndexT, oInsert, oRemove, dTupX, dBMX, dLenSet, newL, startD, wipeD, D.tyN, List.map_cons, List.map_nil, List.cons_append, List.nil_append, List.length_cons, List.length_nil, List.getElem?_cons_zero, List.getElem?_cons_succ, List.set_cons_zero, List.set_cons_succ, List.replicate, Nat.sub_self, Nat.reduceSub, Nat.reduceAdd, Nat.zero_add, kb_ii, kb_ib, kb_it, kb_is, kb_bi, kb_bb, kb_bt, kb_bs, kb_tt, kb_ti, kb_ts, kb_ss, kb_si, kb_st, kb_nt, kb_ni, kb_ns, kb_lt, kb_li, kb_ls, ex_some, seq_tup, seq_tpx, itOf_tpx, seq_lst, seq_fz, list_lst, lsts_lst, lsts_fz, itOf_tup, itOf_lst, itOf_fz, now_int, now_bl, now_non, now_str, now_tup, now_lst, isNon_non, isNon_int, isNon_tup, isNon_ref, isNon_lst, isNon_str, isNon_bl]
    refine ⟨⟨by decide, by decide, by decide +kernel⟩, small (by decide), _, .same (.same .nil), p, [3, 20, 10 ^ Int.toNat 4], b, o, rfl, by decide, by decide, hS, hp, by omega, fun u hu oa hpa => ?_⟩
    refine ⟨small (by decide), _, .same (.same .nil), p, [5, 60], b + 1, oa, rfl, by decide, by decide, Sto.up_same, hpa, by omega, fun m hm ob hpb => ?_⟩
    have hu : u = 3 ∨ u = 20 ∨ u = 10000 := by
      rcases List.mem_cons.mp hu with z | z
      · exact .inl z
      · rcases List.mem_cons.mp z with z | z
        · exact .inr (.inl z)
        · exact .inr (.inr ((List.mem_singleton.mp z).trans (by decide)))
    have hm : m = 5 ∨ m = 60 := by
      rcases List.mem_cons.mp hm with z | z
      · exact .inl z
      · exact .inr (List.mem_singleton.mp z)
    refine ⟨_, .same (.same .nil), p, m, b + 1 + 1, ob, rfl, by omega, by omega, Sto.up_same, hpb, by omega, fun k oc hk0 hk1 hpc => ?_⟩
    simp only [Sto.up_up, dSeq, dNext, dRet, dRetN, dIfS, dAsg, dAsgG, dDrop, dPar2, dPar3, dAug, dAugS, dFor, dOp, dVar, dC, dTest, dChain, dAnd, dOr, dNot, dAndV, dOrV, dNotV, dIf, dTup, dLst, dNil, dCons, dStar, dCB, dCall, dSl, dNoPart, dPart, dBM, dRev, dNeg, dIsi, dListRg, dTupRg, dRg1, dRg2, dLc, dIt, dEnum, dZip2, dZip3, dRng1, dRng2, dYes, gN, gT, gsNil, gsCons, gSb, oI, oI0, oAdd, oMulA, oSub, oFdiv, oMod, oPow, oLt, oLe, oGt, oGe, oEq, oNe, oIsN, oNotN, oIsB, oNotB, oIx, oSl, oLen, oSum, oAll, oAny, oAbs, o1I, o2I, oMin2, oMax2, oMin, oMax, oMinL, oMaxL, oInt, oBool, oList, oTuple, oSorted, oIn, oAddI, oGet, oSet, oAppend, oExtend, oPop, oPopAt, oIndexL, oIndexT, oInsert, oRemove, dTupX, dBMX, dLenSet, newL, startD, wipeD, D.tyN, List.map_cons, List.map_nil, List.cons_append, List.nil_append, List.length_cons, List.length_nil, List.getElem?_cons_zero, List.getElem?_cons_succ, List.set_cons_zero, List.set_cons_succ, List.replicate, Nat.sub_self, Nat.reduceSub, Nat.reduceAdd, Nat.zero_add, kb_ii, kb_ib, kb_it, kb_is, kb_bi, kb_bb, kb_bt, kb_bs, kb_tt, kb_ti, kb_ts, kb_ss, kb_si, kb_st, kb_nt, kb_ni, kb_ns, kb_lt, kb_li, kb_ls, ex_some, seq_tup, seq_tpx, itOf_tpx, seq_lst, seq_fz, list_lst, lsts_lst, lsts_fz, itOf_tup, itOf_lst, itOf_fz, now_int, now_bl, now_non, now_str, now_tup, now_lst, isNon_non, isNon_int, isNon_tup, isNon_ref, isNon_lst, isNon_str, isNon_bl]
    refine ⟨by rw [sizeLine_eq]; omega, trivial, ?_⟩
    obtain ⟨mn, hmn⟩ : ∃ mn : Nat, 1 + k = (mn : Nat) := ⟨(1 + k).toNat, by omega⟩
    have hmn1 : 1 ≤ mn := by omega
    have hmn60 : mn ≤ 60 := by omega
    rw [hmn]
    have hSb : (S.up p oc) p = some oc := Sto.up_same
    have hfb : Fr p S0 (S.up p oc) := hfr.own
    generalize S.up p oc = Sb at hSb hfb ⊢
    subst hv1
    refine seqG fun v2 hv2 => ?_
    simp only [dSeq, dNext, dRet, dRetN, dIfS, dAsg, dAsgG, dDrop, dPar2, dPar3, dAug, dAugS, dFor, dOp, dVar, dC, dTest, dChain, dAnd, dOr, dNot, dAndV, dOrV, dNotV, dIf, dTup, dLst, dNil, dCons, dStar, dCB, dCall, dSl, dNoPart, dPart, dBM, dRev, dNeg, dIsi, dListRg, dTupRg, dRg1, dRg2, dLc, dIt, dEnum, dZip2, dZip3, dRng1, dRng2, dYes, gN, gT, gsNil, gsCons, gSb, oI, oI0, oAdd, oMulA, oSub, oFdiv, oMod, oPow, oLt, oLe, oGt, oGe, oEq, oNe, oIsN, oNotN, oIsB, oNotB, oIx, oSl, oLen, oSum, oAll, oAny, oAbs, o1I, o2I, oMin2, oMax2, oMin, oMax, oMinL, oMaxL, oInt, oBool, oList, oTuple, oSorted, oIn, oAddI, oGet, oSet, oAppend, oExtend, oPop, oPopAt, oIndexL, oIndexT, oInsert, oRemove, dTupX, dBMX, dLenSet, newL, startD, wipeD, D.tyN, List.map_cons, List.map_nil, List.cons_append, List.nil_append, List.length_cons, List.length_nil, List.getElem?_cons_zero, List.getElem?_cons_succ, List.set_cons_zero, List.set_cons_succ, List.replicate, Nat.sub_self, Nat.reduceSub, Nat.reduceAdd, Nat.zero_add, kb_ii, kb_ib, kb_it, kb_is, kb_bi, kb_bb, kb_bt, kb_bs, kb_tt, kb_ti, kb_ts, kb_ss, kb_si, kb_st, kb_nt, kb_ni, kb_ns, kb_lt, kb_li, kb_ls, ex_some, seq_tup, seq_tpx, itOf_tpx, seq_lst, seq_fz, list_lst, lsts_lst, lsts_fz, itOf_tup, itOf_lst, itOf_fz, now_int, now_bl, now_non, now_str, now_tup, now_lst, isNon_non, isNon_int, isNon_tup, isNon_ref, isNon_lst, isNon_str, isNon_bl]
    refine ⟨by omega, ?_⟩
    unfold rangeD
    rw [Int.toNat_natCast]
    refine lc_drawsG (c := 2) (b := b + 1 + 1 + 1) (o := oc) (List.range mn) (fun (i : Nat) => D.int (0 + (i : Int))) eP (fun _ (y : Jb) => (0 ≤ y.1 ∧ y.1 < u) ∧ (0 ≤ y.2 ∧ y.2 < u)) hSb hpc (by rw [List.length_range]; omega) (by decide) (fun i hi S' N o0 b0 hS' hp' hb0 hN => ?_) (by omega) (fun J od S' hJ hS' hp' hfr' => ?_)
    · simp only [dSeq, dNext, dRet, dRetN, dIfS, dAsg, dAsgG, dDrop, dPar2, dPar3, dAug, dAugS, dFor, dOp, dVar, dC, dTest, dChain, dAnd, dOr, dNot, dAndV, dOrV, dNotV, dIf, dTup, dLst, dNil, dCons, dStar, dCB, dCall, dSl, dNoPart, dPart, dBM, dRev, dNeg, dIsi, dListRg, dTupRg, dRg1, dRg2, dLc, dIt, dEnum, dZip2, dZip3, dRng1, dRng2, dYes, gN, gT, gsNil, gsCons, gSb, oI, oI0, oAdd, oMulA, oSub, oFdiv, oMod, oPow, oLt, oLe, oGt, oGe, oEq, oNe, oIsN, oNotN, oIsB, oNotB, oIx, oSl, oLen, oSum, oAll, oAny, oAbs, o1I, o2I, oMin2, oMax2, oMin, oMax, oMinL, oMaxL, oInt, oBool, oList, oTuple, oSorted, oIn, oAddI, oGet, oSet, oAppend, oExtend, oPop, oPopAt, oIndexL, oIndexT, oInsert, oRemove, dTupX, dBMX, dLenSet, newL, startD, wipeD, D.tyN, List.map_cons, List.map_nil, List.cons_append, List.nil_append, List.length_cons, List.length_nil, List.getElem?_cons_zero, List.getElem?_cons_succ, List.set_cons_zero, List.set_cons_succ, List.replicate, Nat.sub_self, Nat.reduceSub, Nat.reduceAdd, Nat.zero_add, kb_ii, kb_ib, kb_it, kb_is, kb_bi, kb_bb, kb_bt, kb_bs, kb_tt, kb_ti, kb_ts, kb_ss, kb_si, kb_st, kb_nt, kb_ni, kb_ns, kb_lt, kb_li, kb_ls, ex_some, seq_tup, seq_tpx, itOf_tpx, seq_lst, seq_fz, list_lst, lsts_lst, lsts_fz, itOf_tup, itOf_lst, itOf_fz, now_int, now_bl, now_non, now_str, now_tup, now_lst, isNon_non, isNon_int, isNon_tup, isNon_ref, isNon_lst, isNon_str, isNon_bl]
      refine ⟨_, .same (.same .nil), p, u, b0, o0, rfl, by omega, by omega, hS', hp', by omega, fun k1 oe hk10 hk11 hpe => ?_⟩
      simp only [dSeq, dNext, dRet, dRetN, dIfS, dAsg, dAsgG, dDrop, dPar2, dPar3, dAug, dAugS, dFor, dOp, dVar, dC, dTest, dChain, dAnd, dOr, dNot, dAndV, dOrV, dNotV, dIf, dTup, dLst, dNil, dCons, dStar, dCB, dCall, dSl, dNoPart, dPart, dBM, dRev, dNeg, dIsi, dListRg, dTupRg, dRg1, dRg2, dLc, dIt, dEnum, dZip2, dZip3, dRng1, dRng2, dYes, gN, gT, gsNil, gsCons, gSb, oI, oI0, oAdd, oMulA, oSub, oFdiv, oMod, oPow, oLt, oLe, oGt, oGe, oEq, oNe, oIsN, oNotN, oIsB, oNotB, oIx, oSl, oLen, oSum, oAll, oAny, oAbs, o1I, o2I, oMin2, oMax2, oMin, oMax, oMinL, oMaxL, oInt, oBool, oList, oTuple, oSorted, oIn, oAddI, oGet, oSet, oAppend, oExtend, oPop, oPopAt, oIndexL, oIndexT, oInsert, oRemove, dTupX, dBMX, dLenSet, newL, startD, wipeD, D.tyN, List.map_cons, List.map_nil, List.cons_append, List.nil_append, List.length_cons, List.length_nil, List.getElem?_cons_zero, List.getElem?_cons_succ, List.set_cons_zero, List.set_cons_succ, List.replicate, Nat.sub_self, Nat.reduceSub, Nat.reduceAdd, Nat.zero_add, kb_ii, kb_ib, kb_it, kb_is, kb_bi, kb_bb, kb_bt, kb_bs, kb_tt, kb_ti, kb_ts, kb_ss, kb_si, kb_st, kb_nt, kb_ni, kb_ns, kb_lt, kb_li, kb_ls, ex_some, seq_tup, seq_tpx, itOf_tpx, seq_lst, seq_fz, list_lst, lsts_lst, lsts_fz, itOf_tup, itOf_lst, itOf_fz, now_int, now_bl, now_non, now_str, now_tup, now_lst, isNon_non, isNon_int, isNon_tup, isNon_ref, isNon_lst, isNon_str, isNon_bl]
      refine ⟨_, .same (.same .nil), p, u, b0 + 1, oe, rfl, by omega, by omega, Sto.up_same, hpe, by omega, fun k2 og hk20 hk21 hpg => ?_⟩
      simp only [dSeq, dNext, dRet, dRetN, dIfS, dAsg, dAsgG, dDrop, dPar2, dPar3, dAug, dAugS, dFor, dOp, dVar, dC, dTest, dChain, dAnd, dOr, dNot, dAndV, dOrV, dNotV, dIf, dTup, dLst, dNil, dCons, dStar, dCB, dCall, dSl, dNoPart, dPart, dBM, dRev, dNeg, dIsi, dListRg, dTupRg, dRg1, dRg2, dLc, dIt, dEnum, dZip2, dZip3, dRng1, dRng2, dYes, gN, gT, gsNil, gsCons, gSb, oI, oI0, oAdd, oMulA, oSub, oFdiv, oMod, oPow, oLt, oLe, oGt, oGe, oEq, oNe, oIsN, oNotN, oIsB, oNotB, oIx, oSl, oLen, oSum, oAll, oAny, oAbs, o1I, o2I, oMin2, oMax2, oMin, oMax, oMinL, oMaxL, oInt, oBool, oList, oTuple, oSorted, oIn, oAddI, oGet, oSet, oAppend, oExtend, oPop, oPopAt, oIndexL, oIndexT, oInsert, oRemove, dTupX, dBMX, dLenSet, newL, startD, wipeD, D.tyN, List.map_cons, List.map_nil, List.cons_append, List.nil_append, List.length_cons, List.length_nil, List.getElem?_cons_zero, List.getElem?_cons_succ, List.set_cons_zero, List.set_cons_succ, List.replicate, Nat.sub_self, Nat.reduceSub, Nat.reduceAdd, Nat.zero_add, kb_ii, kb_ib, kb_it, kb_is, kb_bi, kb_bb, kb_bt, kb_bs, kb_tt, kb_ti, kb_ts, kb_ss, kb_si, kb_st, kb_nt, kb_ni, kb_ns, kb_lt, kb_li, kb_ls, ex_some, seq_tup, seq_tpx, itOf_tpx, seq_lst, seq_fz, list_lst, lsts_lst, lsts_fz, itOf_tup, itOf_lst, itOf_fz, now_int, now_bl, now_non, now_str, now_tup, now_lst, isNon_non, isNon_int, isNon_tup, isNon_ref, isNon_lst, isNon_str, isNon_bl, Sto.up_up]
      exact ⟨small (by decide), hN (k1, k2) og ⟨⟨hk10, hk11⟩, ⟨hk20, hk21⟩⟩ hpg⟩
    have hJl : J.length = mn := by rw [hJ.len, List.length_range]
    have hJu : ∀ j ∈ J, (0 ≤ j.1 ∧ j.1 < u) ∧ (0 ≤ j.2 ∧ j.2 < u) := fun j hj => by obtain ⟨_, _, h⟩ := hJ.mem j hj; exact h
    have g : GJ J := ⟨by omega, by omega, fun j hj => by have := (hJu j hj).1; omega, fun j hj => by have := (hJu j hj).2; omega⟩
    rw [List.length_range] at hp'
    have hfc : Fr p S0 S' := hfb.trans hfr'
    generalize hb3 : b + 1 + 1 + 1 + 2 * mn = b3 at hp'
    simp only [dSeq, dNext, dRet, dRetN, dIfS, dAsg, dAsgG, dDrop, dPar2, dPar3, dAug, dAugS, dFor, dOp, dVar, dC, dTest, dChain, dAnd, dOr, dNot, dAndV, dOrV, dNotV, dIf, dTup, dLst, dNil, dCons, dStar, dCB, dCall, dSl, dNoPart, dPart, dBM, dRev, dNeg, dIsi, dListRg, dTupRg, dRg1, dRg2, dLc, dIt, dEnum, dZip2, dZip3, dRng1, dRng2, dYes, gN, gT, gsNil, gsCons, gSb, oI, oI0, oAdd, oMulA, oSub, oFdiv, oMod, oPow, oLt, oLe, oGt, oGe, oEq, oNe, oIsN, oNotN, oIsB, oNotB, oIx, oSl, oLen, oSum, oAll, oAny, oAbs, o1I, o2I, oMin2, oMax2, oMin, oMax, oMinL, oMaxL, oInt, oBool, oList, oTuple, oSorted, oIn, oAddI, oGet, oSet, oAppend, oExtend, oPop, oPopAt, oIndexL, oIndexT, oInsert, oRemove, dTupX, dBMX, dLenSet, newL, startD, wipeD, D.tyN, List.map_cons, List.map_nil, List.cons_append, List.nil_append, List.length_cons, List.length_nil, List.getElem?_cons_zero, List.getElem?_cons_succ, List.set_cons_zero, List.set_cons_succ, List.replicate, Nat.sub_self, Nat.reduceSub, Nat.reduceAdd, Nat.zero_add, kb_ii, kb_ib, kb_it, kb_is, kb_bi, kb_bb, kb_bt, kb_bs, kb_tt, kb_ti, kb_ts, kb_ss, kb_si, kb_st, kb_nt, kb_ni, kb_ns, kb_lt, kb_li, kb_ls, ex_some, seq_tup, seq_tpx, itOf_tpx, seq_lst, seq_fz, list_lst, lsts_lst, lsts_fz, itOf_tup, itOf_lst, itOf_fz, now_int, now_bl, now_non, now_str, now_tup, now_lst, isNon_non, isNon_int, isNon_tup, isNon_ref, isNon_lst, isNon_str, isNon_bl]
    subst hv2
    refine seqG fun v3 hv3 => ?_
    simp only [dSeq, dNext, dRet, dRetN, dIfS, dAsg, dAsgG, dDrop, dPar2, dPar3, dAug, dAugS, dFor, dOp, dVar, dC, dTest, dChain, dAnd, dOr, dNot, dAndV, dOrV, dNotV, dIf, dTup, dLst, dNil, dCons, dStar, dCB, dCall, dSl, dNoPart, dPart, dBM, dRev, dNeg, dIsi, dListRg, dTupRg, dRg1, dRg2, dLc, dIt, dEnum, dZip2, dZip3, dRng1, dRng2, dYes, gN, gT, gsNil, gsCons, gSb, oI, oI0, oAdd, oMulA, oSub, oFdiv, oMod, oPow, oLt, oLe, oGt, oGe, oEq, oNe, oIsN, oNotN, oIsB, oNotB, oIx, oSl, oLen, oSum, oAll, oAny, oAbs, o1I, o2I, oMin2, oMax2, oMin, oMax, oMinL, oMaxL, oInt, oBool, oList, oTuple, oSorted, oIn, oAddI, oGet, oSet, oAppend, oExtend, oPop, oPopAt, oIndexL, oIndexT, oInsert, oRemove, dTupX, dBMX, dLenSet, newL, startD, wipeD, D.tyN, List.map_cons, List.map_nil, List.cons_append, List.nil_append, List.length_cons, List.length_nil, List.getElem?_cons_zero, List.getElem?_cons_succ, List.set_cons_zero, List.set_cons_succ, List.replicate, Nat.sub_self, Nat.reduceSub, Nat.reduceAdd, Nat.zero_add, kb_ii, kb_ib, kb_it, kb_is, kb_bi, kb_bb, kb_bt, kb_bs, kb_tt, kb_ti, kb_ts, kb_ss, kb_si, kb_st, kb_nt, kb_ni, kb_ns, kb_lt, kb_li, kb_ls, ex_some, seq_tup, seq_tpx, itOf_tpx, seq_lst, seq_fz, list_lst, lsts_lst, lsts_fz, itOf_tup, itOf_lst, itOf_fz, now_int, now_bl, now_non, now_str, now_tup, now_lst, isNon_non, isNon_int, isNon_tup, isNon_ref, isNon_lst, isNon_str, isNon_bl]
    refine ⟨.of_le (by decide) (by omega) (by decide) (by omega), _, .same (.same (.same .nil)), p, mn, b3, od, by rw [rg_nI], by omega, hS', hp', by omega, fun F oh hF hph => ?_⟩
    simp only [dSeq, dNext, dRet, dRetN, dIfS, dAsg, dAsgG, dDrop, dPar2, dPar3, dAug, dAugS, dFor, dOp, dVar, dC, dTest, dChain, dAnd, dOr, dNot, dAndV, dOrV, dNotV, dIf, dTup, dLst, dNil, dCons, dStar, dCB, dCall, dSl, dNoPart, dPart, dBM, dRev, dNeg, dIsi, dListRg, dTupRg, dRg1, dRg2, dLc, dIt, dEnum, dZip2, dZip3, dRng1, dRng2, dYes, gN, gT, gsNil, gsCons, gSb, oI, oI0, oAdd, oMulA, oSub, oFdiv, oMod, oPow, oLt, oLe, oGt, oGe, oEq, oNe, oIsN, oNotN, oIsB, oNotB, oIx, oSl, oLen, oSum, oAll, oAny, oAbs, o1I, o2I, oMin2, oMax2, oMin, oMax, oMinL, oMaxL, oInt, oBool, oList, oTuple, oSorted, oIn, oAddI, oGet, oSet, oAppend, oExtend, oPop, oPopAt, oIndexL, oIndexT, oInsert, oRemove, dTupX, dBMX, dLenSet, newL, startD, wipeD, D.tyN, List.map_cons, List.map_nil, List.cons_append, List.nil_append, List.length_cons, List.length_nil, List.getElem?_cons_zero, List.getElem?_cons_succ, List.set_cons_zero, List.set_cons_succ, List.replicate, Nat.sub_self, Nat.reduceSub, Nat.reduceAdd, Nat.zero_add, kb_ii, kb_ib, kb_it, kb_is, kb_bi, kb_bb, kb_bt, kb_bs, kb_tt, kb_ti, kb_ts, kb_ss, kb_si, kb_st, kb_nt, kb_ni, kb_ns, kb_lt, kb_li, kb_ls, ex_some, seq_tup, seq_tpx, itOf_tpx, seq_lst, seq_fz, list_lst, lsts_lst, lsts_fz, itOf_tup, itOf_lst, itOf_fz, now_int, now_bl, now_non, now_str, now_tup, now_lst, isNon_non, isNon_int, isNon_tup, isNon_ref, isNon_lst, isNon_str, isNon_bl]
    refine lc_mapE F nI nI (fun _ _ => trivial) (small (by rw [hF.len]; omega)) (fun i hi S'' e N M hN => ?_) ?_
    · simp only [dSeq, dNext, dRet, dRetN, dIfS, dAsg, dAsgG, dDrop, dPar2, dPar3, dAug, dAugS, dFor, dOp, dVar, dC, dTest, dChain, dAnd, dOr, dNot, dAndV, dOrV, dNotV, dIf, dTup, dLst, dNil, dCons, dStar, dCB, dCall, dSl, dNoPart, dPart, dBM, dRev, dNeg, dIsi, dListRg, dTupRg, dRg1, dRg2, dLc, dIt, dEnum, dZip2, dZip3, dRng1, dRng2, dYes, gN, gT, gsNil, gsCons, gSb, oI, oI0, oAdd, oMulA, oSub, oFdiv, oMod, oPow, oLt, oLe, oGt, oGe, oEq, oNe, oIsN, oNotN, oIsB, oNotB, oIx, oSl, oLen, oSum, oAll, oAny, oAbs, o1I, o2I, oMin2, oMax2, oMin, oMax, oMinL, oMaxL, oInt, oBool, oList, oTuple, oSorted, oIn, oAddI, oGet, oSet, oAppend, oExtend, oPop, oPopAt, oIndexL, oIndexT, oInsert, oRemove, dTupX, dBMX, dLenSet, newL, startD, wipeD, D.tyN, List.map_cons, List.map_nil, List.cons_append, List.nil_append, List.length_cons, List.length_nil, List.getElem?_cons_zero, List.getElem?_cons_succ, List.set_cons_zero, List.set_cons_succ, List.replicate, Nat.sub_self, Nat.reduceSub, Nat.reduceAdd, Nat.zero_add, kb_ii, kb_ib, kb_it, kb_is, kb_bi, kb_bb, kb_bt, kb_bs, kb_tt, kb_ti, kb_ts, kb_ss, kb_si, kb_st, kb_nt, kb_ni, kb_ns, kb_lt, kb_li, kb_ls, ex_some, seq_tup, seq_tpx, itOf_tpx, seq_lst, seq_fz, list_lst, lsts_lst, lsts_fz, itOf_tup, itOf_lst, itOf_fz, now_int, now_bl, now_non, now_str, now_tup, now_lst, isNon_non, isNon_int, isNon_tup, isNon_ref, isNon_lst, isNon_str, isNon_bl, nI]
      exact hN
    simp only [dSeq, dNext, dRet, dRetN, dIfS, dAsg, dAsgG, dDrop, dPar2, dPar3, dAug, dAugS, dFor, dOp, dVar, dC, dTest, dChain, dAnd, dOr, dNot, dAndV, dOrV, dNotV, dIf, dTup, dLst, dNil, dCons, dStar, dCB, dCall, dSl, dNoPart, dPart, dBM, dRev, dNeg, dIsi, dListRg, dTupRg, dRg1, dRg2, dLc, dIt, dEnum, dZip2, dZip3, dRng1, dRng2, dYes, gN, gT, gsNil, gsCons, gSb, oI, oI0, oAdd, oMulA, oSub, oFdiv, oMod, oPow, oLt, oLe, oGt, oGe, oEq, oNe, oIsN, oNotN, oIsB, oNotB, oIx, oSl, oLen, oSum, oAll, oAny, oAbs, o1I, o2I, oMin2, oMax2, oMin, oMax, oMinL, oMaxL, oInt, oBool, oList, oTuple, oSorted, oIn, oAddI, oGet, oSet, oAppend, oExtend, oPop, oPopAt, oIndexL, oIndexT, oInsert, oRemove, dTupX, dBMX, dLenSet, newL, startD, wipeD, D.tyN, List.map_cons, List.map_nil, List.cons_append, List.nil_append, List.length_cons, List.length_nil, List.getElem?_cons_zero, List.getElem?_cons_succ, List.set_cons_zero, List.set_cons_succ, List.replicate, Nat.sub_self, Nat.reduceSub, Nat.reduceAdd, Nat.zero_add, kb_ii, kb_ib, kb_it, kb_is, kb_bi, kb_bb, kb_bt, kb_bs, kb_tt, kb_ti, kb_ts, kb_ss, kb_si, kb_st, kb_nt, kb_ni, kb_ns, kb_lt, kb_li, kb_ls, ex_some, seq_tup, seq_tpx, itOf_tpx, seq_lst, seq_fz, list_lst, lsts_lst, lsts_fz, itOf_tup, itOf_lst, itOf_fz, now_int, now_bl, now_non, now_str, now_tup, now_lst, isNon_non, isNon_int, isNon_tup, isNon_ref, isNon_lst, isNon_str, isNon_bl]
    have hSd : (S'.up p oh) p = some oh := Sto.up_same
    have hfd : Fr p S0 (S'.up p oh) := hfc.own
    generalize S'.up p oh = Sd at hSd hfd ⊢
    subst hv3
    rw [← hJl] at hF
    refine seqG fun v4 hv4 => ?_
    simp only [dSeq, dNext, dRet, dRetN, dIfS, dAsg, dAsgG, dDrop, dPar2, dPar3, dAug, dAugS, dFor, dOp, dVar, dC, dTest, dChain, dAnd, dOr, dNot, dAndV, dOrV, dNotV, dIf, dTup, dLst, dNil, dCons, dStar, dCB, dCall, dSl, dNoPart, dPart, dBM, dRev, dNeg, dIsi, dListRg, dTupRg, dRg1, dRg2, dLc, dIt, dEnum, dZip2, dZip3, dRng1, dRng2, dYes, gN, gT, gsNil, gsCons, gSb, oI, oI0, oAdd, oMulA, oSub, oFdiv, oMod, oPow, oLt, oLe, oGt, oGe, oEq, oNe, oIsN, oNotN, oIsB, oNotB, oIx, oSl, oLen, oSum, oAll, oAny, oAbs, o1I, o2I, oMin2, oMax2, oMin, oMax, oMinL, oMaxL, oInt, oBool, oList, oTuple, oSorted, oIn, oAddI, oGet, oSet, oAppend, oExtend, oPop, oPopAt, oIndexL, oIndexT, oInsert, oRemove, dTupX, dBMX, dLenSet, newL, startD, wipeD, D.tyN, List.map_cons, List.map_nil, List.cons_append, List.nil_append, List.length_cons, List.length_nil, List.getElem?_cons_zero, List.getElem?_cons_succ, List.set_cons_zero, List.set_cons_succ, List.replicate, Nat.sub_self, Nat.reduceSub, Nat.reduceAdd, Nat.zero_add, kb_ii, kb_ib, kb_it, kb_is, kb_bi, kb_bb, kb_bt, kb_bs, kb_tt, kb_ti, kb_ts, kb_ss, kb_si, kb_st, kb_nt, kb_ni, kb_ns, kb_lt, kb_li, kb_ls, ex_some, seq_tup, seq_tpx, itOf_tpx, seq_lst, seq_fz, list_lst, lsts_lst, lsts_fz, itOf_tup, itOf_lst, itOf_fz, now_int, now_bl, now_non, now_str, now_tup, now_lst, isNon_non, isNon_int, isNon_tup, isNon_ref, isNon_lst, isNon_str, isNon_bl]
    refine ⟨_, .same (.tpx .nil), J, F, rfl, g, hF, ?_⟩
    refine ⟨_, .same (.tpx .nil), J, F, rfl, g, hF, ?_⟩
    subst hv4
    refine seqG fun v5 hv5 => ?_
    simp only [dSeq, dNext, dRet, dRetN, dIfS, dAsg, dAsgG, dDrop, dPar2, dPar3, dAug, dAugS, dFor, dOp, dVar, dC, dTest, dChain, dAnd, dOr, dNot, dAndV, dOrV, dNotV, dIf, dTup, dLst, dNil, dCons, dStar, dCB, dCall, dSl, dNoPart, dPart, dBM, dRev, dNeg, dIsi, dListRg, dTupRg, dRg1, dRg2, dLc, dIt, dEnum, dZip2, dZip3, dRng1, dRng2, dYes, gN, gT, gsNil, gsCons, gSb, oI, oI0, oAdd, oMulA, oSub, oFdiv, oMod, oPow, oLt, oLe, oGt, oGe, oEq, oNe, oIsN, oNotN, oIsB, oNotB, oIx, oSl, oLen, oSum, oAll, oAny, oAbs, o1I, o2I, oMin2, oMax2, oMin, oMax, oMinL, oMaxL, oInt, oBool, oList, oTuple, oSorted, oIn, oAddI, oGet, oSet, oAppend, oExtend, oPop, oPopAt, oIndexL, oIndexT, oInsert, oRemove, dTupX, dBMX, dLenSet, newL, startD, wipeD, D.tyN, List.map_cons, List.map_nil, List.cons_append, List.nil_append, List.length_cons, List.length_nil, List.getElem?_cons_zero, List.getElem?_cons_succ, List.set_cons_zero, List.set_cons_succ, List.replicate, Nat.sub_self, Nat.reduceSub, Nat.reduceAdd, Nat.zero_add, kb_ii, kb_ib, kb_it, kb_is, kb_bi, kb_bb, kb_bt, kb_bs, kb_tt, kb_ti, kb_ts, kb_ss, kb_si, kb_st, kb_nt, kb_ni, kb_ns, kb_lt, kb_li, kb_ls, ex_some, seq_tup, seq_tpx, itOf_tpx, seq_lst, seq_fz, list_lst, lsts_lst, lsts_fz, itOf_tup, itOf_lst, itOf_fz, now_int, now_bl, now_non, now_str, now_tup, now_lst, isNon_non, isNon_int, isNon_tup, isNon_ref, isNon_lst, isNon_str, isNon_bl]
    obtain ⟨j0, hj0⟩ := mem_first (en_mem g (g.ne hF))
    have mx : ∀ mD : D, mD ∈ (sm J F).map D.int → (∀ y : D, y ∈ (sm J F).map D.int → ltD mD y = false) → mD = .int (en J F) := by
      intro mD h1 h2
      obtain ⟨z, hz, rfl⟩ := mem_int h1
      have a1 := sm_le hz
      have a2 := h2 _ (List.mem_map.mpr ⟨_, en_mem g (g.ne hF), rfl⟩)
      rw [ltD_int] at a2
      have := of_decide_eq_false a2
      rw [show z = en J F by omega]
    refine ⟨⟨fun z => ?_, okn_ints, akin_ints⟩, fun mD hm1 hm2 => ?_⟩
    · have := congrArg List.length z
      rw [List.length_map, sm_len, hF.len, List.length_nil] at this
      omega
    rw [mx mD hm1 hm2]
    simp only [dSeq, dNext, dRet, dRetN, dIfS, dAsg, dAsgG, dDrop, dPar2, dPar3, dAug, dAugS, dFor, dOp, dVar, dC, dTest, dChain, dAnd, dOr, dNot, dAndV, dOrV, dNotV, dIf, dTup, dLst, dNil, dCons, dStar, dCB, dCall, dSl, dNoPart, dPart, dBM, dRev, dNeg, dIsi, dListRg, dTupRg, dRg1, dRg2, dLc, dIt, dEnum, dZip2, dZip3, dRng1, dRng2, dYes, gN, gT, gsNil, gsCons, gSb, oI, oI0, oAdd, oMulA, oSub, oFdiv, oMod, oPow, oLt, oLe, oGt, oGe, oEq, oNe, oIsN, oNotN, oIsB, oNotB, oIx, oSl, oLen, oSum, oAll, oAny, oAbs, o1I, o2I, oMin2, oMax2, oMin, oMax, oMinL, oMaxL, oInt, oBool, oList, oTuple, oSorted, oIn, oAddI, oGet, oSet, oAppend, oExtend, oPop, oPopAt, oIndexL, oIndexT, oInsert, oRemove, dTupX, dBMX, dLenSet, newL, startD, wipeD, D.tyN, List.map_cons, List.map_nil, List.cons_append, List.nil_append, List.length_cons, List.length_nil, List.getElem?_cons_zero, List.getElem?_cons_succ, List.set_cons_zero, List.set_cons_succ, List.replicate, Nat.sub_self, Nat.reduceSub, Nat.reduceAdd, Nat.zero_add, kb_ii, kb_ib, kb_it, kb_is, kb_bi, kb_bb, kb_bt, kb_bs, kb_tt, kb_ti, kb_ts, kb_ss, kb_si, kb_st, kb_nt, kb_ni, kb_ns, kb_lt, kb_li, kb_ls, ex_some, seq_tup, seq_tpx, itOf_tpx, seq_lst, seq_fz, list_lst, lsts_lst, lsts_fz, itOf_tup, itOf_lst, itOf_fz, now_int, now_bl, now_non, now_str, now_tup, now_lst, isNon_non, isNon_int, isNon_tup, isNon_ref, isNon_lst, isNon_str, isNon_bl]
    refine ⟨⟨okn_int, okn_int⟩, ?_⟩
    rw [eqD_int, decide_eq_true rfl]
    simp only [Bool.not_true]
    refine ⟨_, .same (.tpx .nil), J, F, rfl, g, hF, fun m2 j2 hm2 hj2 => ?_⟩
    have em2 : m2 = en J F := by
      have a1 := hm2 _ (en_mem g (g.ne hF))
      have a2 := sm_le (List.mem_of_getElem? hj2.1)
      omega
    subst em2
    obtain rfl := first_uniq hj2 hj0
    refine ⟨⟨_, rfl⟩, sm J F, j2, rfl, hj0, ?_⟩
    simp only [dSeq, dNext, dRet, dRetN, dIfS, dAsg, dAsgG, dDrop, dPar2, dPar3, dAug, dAugS, dFor, dOp, dVar, dC, dTest, dChain, dAnd, dOr, dNot, dAndV, dOrV, dNotV, dIf, dTup, dLst, dNil, dCons, dStar, dCB, dCall, dSl, dNoPart, dPart, dBM, dRev, dNeg, dIsi, dListRg, dTupRg, dRg1, dRg2, dLc, dIt, dEnum, dZip2, dZip3, dRng1, dRng2, dYes, gN, gT, gsNil, gsCons, gSb, oI, oI0, oAdd, oMulA, oSub, oFdiv, oMod, oPow, oLt, oLe, oGt, oGe, oEq, oNe, oIsN, oNotN, oIsB, oNotB, oIx, oSl, oLen, oSum, oAll, oAny, oAbs, o1I, o2I, oMin2, oMax2, oMin, oMax, oMinL, oMaxL, oInt, oBool, oList, oTuple, oSorted, oIn, oAddI, oGet, oSet, oAppend, oExtend, oPop, oPopAt, oIndexL, oIndexT, oInsert, oRemove, dTupX, dBMX, dLenSet, newL, startD, wipeD, D.tyN, List.map_cons, List.map_nil, List.cons_append, List.nil_append, List.length_cons, List.length_nil, List.getElem?_cons_zero, List.getElem?_cons_succ, List.set_cons_zero, List.set_cons_succ, List.replicate, Nat.sub_self, Nat.reduceSub, Nat.reduceAdd, Nat.zero_add, kb_ii, kb_ib, kb_it, kb_is, kb_bi, kb_bb, kb_bt, kb_bs, kb_tt, kb_ti, kb_ts, kb_ss, kb_si, kb_st, kb_nt, kb_ni, kb_ns, kb_lt, kb_li, kb_ls, ex_some, seq_tup, seq_tpx, itOf_tpx, seq_lst, seq_fz, list_lst, lsts_lst, lsts_fz, itOf_tup, itOf_lst, itOf_fz, now_int, now_bl, now_non, now_str, now_tup, now_lst, isNon_non, isNon_int, isNon_tup, isNon_ref, isNon_lst, isNon_str, isNon_bl]
    refine ⟨⟨okn_int, okn_int⟩, ?_⟩
    rw [eqD_int, decide_eq_true rfl]
    simp only [Bool.not_true]
    subst hv5
    refine seqG fun v6 hv6 => ?_
    simp only [dSeq, dNext, dRet, dRetN, dIfS, dAsg, dAsgG, dDrop, dPar2, dPar3, dAug, dAugS, dFor, dOp, dVar, dC, dTest, dChain, dAnd, dOr, dNot, dAndV, dOrV, dNotV, dIf, dTup, dLst, dNil, dCons, dStar, dCB, dCall, dSl, dNoPart, dPart, dBM, dRev, dNeg, dIsi, dListRg, dTupRg, dRg1, dRg2, dLc, dIt, dEnum, dZip2, dZip3, dRng1, dRng2, dYes, gN, gT, gsNil, gsCons, gSb, oI, oI0, oAdd, oMulA, oSub, oFdiv, oMod, oPow, oLt, oLe, oGt, oGe, oEq, oNe, oIsN, oNotN, oIsB, oNotB, oIx, oSl, oLen, oSum, oAll, oAny, oAbs, o1I, o2I, oMin2, oMax2, oMin, oMax, oMinL, oMaxL, oInt, oBool, oList, oTuple, oSorted, oIn, oAddI, oGet, oSet, oAppend, oExtend, oPop, oPopAt, oIndexL, oIndexT, oInsert, oRemove, dTupX, dBMX, dLenSet, newL, startD, wipeD, D.tyN, List.map_cons, List.map_nil, List.cons_append, List.nil_append, List.length_cons, List.length_nil, List.getElem?_cons_zero, List.getElem?_cons_succ, List.set_cons_zero, List.set_cons_succ, List.replicate, Nat.sub_self, Nat.reduceSub, Nat.reduceAdd, Nat.zero_add, kb_ii, kb_ib, kb_it, kb_is, kb_bi, kb_bb, kb_bt, kb_bs, kb_tt, kb_ti, kb_ts, kb_ss, kb_si, kb_st, kb_nt, kb_ni, kb_ns, kb_lt, kb_li, kb_ls, ex_some, seq_tup, seq_tpx, itOf_tpx, seq_lst, seq_fz, list_lst, lsts_lst, lsts_fz, itOf_tup, itOf_lst, itOf_fz, now_int, now_bl, now_non, now_str, now_tup, now_lst, isNon_non, isNon_int, isNon_tup, isNon_ref, isNon_lst, isNon_str, isNon_bl]
    refine ⟨_, .same .nil, J, rfl, g, _, .same .nil, J, rfl, g, fun e one w => ?_⟩
    subst hv6
    refine seqG fun v7 hv7 => ?_
    simp only [dSeq, dNext, dRet, dRetN, dIfS, dAsg, dAsgG, dDrop, dPar2, dPar3, dAug, dAugS, dFor, dOp, dVar, dC, dTest, dChain, dAnd, dOr, dNot, dAndV, dOrV, dNotV, dIf, dTup, dLst, dNil, dCons, dStar, dCB, dCall, dSl, dNoPart, dPart, dBM, dRev, dNeg, dIsi, dListRg, dTupRg, dRg1, dRg2, dLc, dIt, dEnum, dZip2, dZip3, dRng1, dRng2, dYes, gN, gT, gsNil, gsCons, gSb, oI, oI0, oAdd, oMulA, oSub, oFdiv, oMod, oPow, oLt, oLe, oGt, oGe, oEq, oNe, oIsN, oNotN, oIsB, oNotB, oIx, oSl, oLen, oSum, oAll, oAny, oAbs, o1I, o2I, oMin2, oMax2, oMin, oMax, oMinL, oMaxL, oInt, oBool, oList, oTuple, oSorted, oIn, oAddI, oGet, oSet, oAppend, oExtend, oPop, oPopAt, oIndexL, oIndexT, oInsert, oRemove, dTupX, dBMX, dLenSet, newL, startD, wipeD, D.tyN, List.map_cons, List.map_nil, List.cons_append, List.nil_append, List.length_cons, List.length_nil, List.getElem?_cons_zero, List.getElem?_cons_succ, List.set_cons_zero, List.set_cons_succ, List.replicate, Nat.sub_self, Nat.reduceSub, Nat.reduceAdd, Nat.zero_add, kb_ii, kb_ib, kb_it, kb_is, kb_bi, kb_bb, kb_bt, kb_bs, kb_tt, kb_ti, kb_ts, kb_ss, kb_si, kb_st, kb_nt, kb_ni, kb_ns, kb_lt, kb_li, kb_ls, ex_some, seq_tup, seq_tpx, itOf_tpx, seq_lst, seq_fz, list_lst, lsts_lst, lsts_fz, itOf_tup, itOf_lst, itOf_fz, now_int, now_bl, now_non, now_str, now_tup, now_lst, isNon_non, isNon_int, isNon_tup, isNon_ref, isNon_lst, isNon_str, isNon_bl, a20, a21]
    have hbp := bs_perm J
    have hwp := wo_perm w.lt
    have hbe := best_le g hF
    have hwe := w.le g hF
    rw [decide_eq_true hbe]
    simp only [decide_eq_true hwe, Bool.not_true]
    refine ⟨_, .same (.same .nil), J, bs J, rfl, g, hbp, ?_⟩
    refine eqi (show en J (bs J) = best J from rfl) ?_
    refine ⟨_, .same (.same .nil), J, wo J one, rfl, g, hwp, ?_⟩
    refine eqi (w.wo g) ?_
    subst hv7
    refine seqG fun v8 hv8 => ?_
    simp only [dSeq, dNext, dRet, dRetN, dIfS, dAsg, dAsgG, dDrop, dPar2, dPar3, dAug, dAugS, dFor, dOp, dVar, dC, dTest, dChain, dAnd, dOr, dNot, dAndV, dOrV, dNotV, dIf, dTup, dLst, dNil, dCons, dStar, dCB, dCall, dSl, dNoPart, dPart, dBM, dRev, dNeg, dIsi, dListRg, dTupRg, dRg1, dRg2, dLc, dIt, dEnum, dZip2, dZip3, dRng1, dRng2, dYes, gN, gT, gsNil, gsCons, gSb, oI, oI0, oAdd, oMulA, oSub, oFdiv, oMod, oPow, oLt, oLe, oGt, oGe, oEq, oNe, oIsN, oNotN, oIsB, oNotB, oIx, oSl, oLen, oSum, oAll, oAny, oAbs, o1I, o2I, oMin2, oMax2, oMin, oMax, oMinL, oMaxL, oInt, oBool, oList, oTuple, oSorted, oIn, oAddI, oGet, oSet, oAppend, oExtend, oPop, oPopAt, oIndexL, oIndexT, oInsert, oRemove, dTupX, dBMX, dLenSet, newL, startD, wipeD, D.tyN, List.map_cons, List.map_nil, List.cons_append, List.nil_append, List.length_cons, List.length_nil, List.getElem?_cons_zero, List.getElem?_cons_succ, List.set_cons_zero, List.set_cons_succ, List.replicate, Nat.sub_self, Nat.reduceSub, Nat.reduceAdd, Nat.zero_add, kb_ii, kb_ib, kb_it, kb_is, kb_bi, kb_bb, kb_bt, kb_bs, kb_tt, kb_ti, kb_ts, kb_ss, kb_si, kb_st, kb_nt, kb_ni, kb_ns, kb_lt, kb_li, kb_ls, ex_some, seq_tup, seq_tpx, itOf_tpx, seq_lst, seq_fz, list_lst, lsts_lst, lsts_fz, itOf_tup, itOf_lst, itOf_fz, now_int, now_bl, now_non, now_str, now_tup, now_lst, isNon_non, isNon_int, isNon_tup, isNon_ref, isNon_lst, isNon_str, isNon_bl]
    refine ⟨_, .same (.tpx .nil), J, F, rfl, g, hF, ?_⟩
    subst hv8
    refine seqG fun v9 hv9 => ?_
    simp only [dSeq, dNext, dRet, dRetN, dIfS, dAsg, dAsgG, dDrop, dPar2, dPar3, dAug, dAugS, dFor, dOp, dVar, dC, dTest, dChain, dAnd, dOr, dNot, dAndV, dOrV, dNotV, dIf, dTup, dLst, dNil, dCons, dStar, dCB, dCall, dSl, dNoPart, dPart, dBM, dRev, dNeg, dIsi, dListRg, dTupRg, dRg1, dRg2, dLc, dIt, dEnum, dZip2, dZip3, dRng1, dRng2, dYes, gN, gT, gsNil, gsCons, gSb, oI, oI0, oAdd, oMulA, oSub, oFdiv, oMod, oPow, oLt, oLe, oGt, oGe, oEq, oNe, oIsN, oNotN, oIsB, oNotB, oIx, oSl, oLen, oSum, oAll, oAny, oAbs, o1I, o2I, oMin2, oMax2, oMin, oMax, oMinL, oMaxL, oInt, oBool, oList, oTuple, oSorted, oIn, oAddI, oGet, oSet, oAppend, oExtend, oPop, oPopAt, oIndexL, oIndexT, oInsert, oRemove, dTupX, dBMX, dLenSet, newL, startD, wipeD, D.tyN, List.map_cons, List.map_nil, List.cons_append, List.nil_append, List.length_cons, List.length_nil, List.getElem?_cons_zero, List.getElem?_cons_succ, List.set_cons_zero, List.set_cons_succ, List.replicate, Nat.sub_self, Nat.reduceSub, Nat.reduceAdd, Nat.zero_add, kb_ii, kb_ib, kb_it, kb_is, kb_bi, kb_bb, kb_bt, kb_bs, kb_tt, kb_ti, kb_ts, kb_ss, kb_si, kb_st, kb_nt, kb_ni, kb_ns, kb_lt, kb_li, kb_ls, ex_some, seq_tup, seq_tpx, itOf_tpx, seq_lst, seq_fz, list_lst, lsts_lst, lsts_fz, itOf_tup, itOf_lst, itOf_fz, now_int, now_bl, now_non, now_str, now_tup, now_lst, isNon_non, isNon_int, isNon_tup, isNon_ref, isNon_lst, isNon_str, isNon_bl]
    refine ⟨_, .same (.tpx .nil), J, F, rfl, g, hF, ?_⟩
    subst hv9
    refine seqG fun v10 hv10 => ?_
    simp only [dSeq, dNext, dRet, dRetN, dIfS, dAsg, dAsgG, dDrop, dPar2, dPar3, dAug, dAugS, dFor, dOp, dVar, dC, dTest, dChain, dAnd, dOr, dNot, dAndV, dOrV, dNotV, dIf, dTup, dLst, dNil, dCons, dStar, dCB, dCall, dSl, dNoPart, dPart, dBM, dRev, dNeg, dIsi, dListRg, dTupRg, dRg1, dRg2, dLc, dIt, dEnum, dZip2, dZip3, dRng1, dRng2, dYes, gN, gT, gsNil, gsCons, gSb, oI, oI0, oAdd, oMulA, oSub, oFdiv, oMod, oPow, oLt, oLe, oGt, oGe, oEq, oNe, oIsN, oNotN, oIsB, oNotB, oIx, oSl, oLen, oSum, oAll, oAny, oAbs, o1I, o2I, oMin2, oMax2, oMin, oMax, oMinL, oMaxL, oInt, oBool, oList, oTuple, oSorted, oIn, oAddI, oGet, oSet, oAppend, oExtend, oPop, oPopAt, oIndexL, oIndexT, oInsert, oRemove, dTupX, dBMX, dLenSet, newL, startD, wipeD, D.tyN, List.map_cons, List.map_nil, List.cons_append, List.nil_append, List.length_cons, List.length_nil, List.getElem?_cons_zero, List.getElem?_cons_succ, List.set_cons_zero, List.set_cons_succ, List.replicate, Nat.sub_self, Nat.reduceSub, Nat.reduceAdd, Nat.zero_add, kb_ii, kb_ib, kb_it, kb_is, kb_bi, kb_bb, kb_bt, kb_bs, kb_tt, kb_ti, kb_ts, kb_ss, kb_si, kb_st, kb_nt, kb_ni, kb_ns, kb_lt, kb_li, kb_ls, ex_some, seq_tup, seq_tpx, itOf_tpx, seq_lst, seq_fz, list_lst, lsts_lst, lsts_fz, itOf_tup, itOf_lst, itOf_fz, now_int, now_bl, now_non, now_str, now_tup, now_lst, isNon_non, isNon_int, isNon_tup, isNon_ref, isNon_lst, isNon_str, isNon_bl]
    have hbt : Sd.itOf (eI (bt J F)) = some ⟨(bt J F).map D.int, fun _ => True⟩ := rfl
    simp only [hbt, zip3_map]
    refine lc_mapE (ok := fun _ => True ∧ True ∧ True) (List.zip F (List.zip (bt J F) (ends J (0, 0) F))) (fun q => D.tup [nI q.1, D.int q.2.1, eP q.2.2]) (fun _ => D.bl false) (fun _ _ => ⟨trivial, trivial, trivial⟩) (small (by rw [List.length_zip, hF.len]; omega)) (fun z hz S' e' N' M hN' => ?_) ?_
    · obtain ⟨kk, h1, h2, h3⟩ := zip3_mem hz
      have hlt := hF.lt (List.mem_of_getElem? h1)
      have hv : z.2.1 = z.2.2.2 - cB_ J z.1 - z.2.2.1 := by
        unfold bt at h2
        have e1 : (List.zip F (ends J (0, 0) F))[kk]? = some (z.1, z.2.2) := List.getElem?_zip_eq_some.mpr ⟨h1, h3⟩
        rw [List.getElem?_map, e1] at h2
        exact (Option.some.inj h2).symm
      have hix := ix_job hlt
      simp only [dSeq, dNext, dRet, dRetN, dIfS, dAsg, dAsgG, dDrop, dPar2, dPar3, dAug, dAugS, dFor, dOp, dVar, dC, dTest, dChain, dAnd, dOr, dNot, dAndV, dOrV, dNotV, dIf, dTup, dLst, dNil, dCons, dStar, dCB, dCall, dSl, dNoPart, dPart, dBM, dRev, dNeg, dIsi, dListRg, dTupRg, dRg1, dRg2, dLc, dIt, dEnum, dZip2, dZip3, dRng1, dRng2, dYes, gN, gT, gsNil, gsCons, gSb, oI, oI0, oAdd, oMulA, oSub, oFdiv, oMod, oPow, oLt, oLe, oGt, oGe, oEq, oNe, oIsN, oNotN, oIsB, oNotB, oIx, oSl, oLen, oSum, oAll, oAny, oAbs, o1I, o2I, oMin2, oMax2, oMin, oMax, oMinL, oMaxL, oInt, oBool, oList, oTuple, oSorted, oIn, oAddI, oGet, oSet, oAppend, oExtend, oPop, oPopAt, oIndexL, oIndexT, oInsert, oRemove, dTupX, dBMX, dLenSet, newL, startD, wipeD, D.tyN, List.map_cons, List.map_nil, List.cons_append, List.nil_append, List.length_cons, List.length_nil, List.getElem?_cons_zero, List.getElem?_cons_succ, List.set_cons_zero, List.set_cons_succ, List.replicate, Nat.sub_self, Nat.reduceSub, Nat.reduceAdd, Nat.zero_add, kb_ii, kb_ib, kb_it, kb_is, kb_bi, kb_bb, kb_bt, kb_bs, kb_tt, kb_ti, kb_ts, kb_ss, kb_si, kb_st, kb_nt, kb_ni, kb_ns, kb_lt, kb_li, kb_ls, ex_some, seq_tup, seq_tpx, itOf_tpx, seq_lst, seq_fz, list_lst, lsts_lst, lsts_fz, itOf_tup, itOf_lst, itOf_fz, now_int, now_bl, now_non, now_str, now_tup, now_lst, isNon_non, isNon_int, isNon_tup, isNon_ref, isNon_lst, isNon_str, isNon_bl, nI, eP]
      simp only [hix, dSeq, dNext, dRet, dRetN, dIfS, dAsg, dAsgG, dDrop, dPar2, dPar3, dAug, dAugS, dFor, dOp, dVar, dC, dTest, dChain, dAnd, dOr, dNot, dAndV, dOrV, dNotV, dIf, dTup, dLst, dNil, dCons, dStar, dCB, dCall, dSl, dNoPart, dPart, dBM, dRev, dNeg, dIsi, dListRg, dTupRg, dRg1, dRg2, dLc, dIt, dEnum, dZip2, dZip3, dRng1, dRng2, dYes, gN, gT, gsNil, gsCons, gSb, oI, oI0, oAdd, oMulA, oSub, oFdiv, oMod, oPow, oLt, oLe, oGt, oGe, oEq, oNe, oIsN, oNotN, oIsB, oNotB, oIx, oSl, oLen, oSum, oAll, oAny, oAbs, o1I, o2I, oMin2, oMax2, oMin, oMax, oMinL, oMaxL, oInt, oBool, oList, oTuple, oSorted, oIn, oAddI, oGet, oSet, oAppend, oExtend, oPop, oPopAt, oIndexL, oIndexT, oInsert, oRemove, dTupX, dBMX, dLenSet, newL, startD, wipeD, D.tyN, List.map_cons, List.map_nil, List.cons_append, List.nil_append, List.length_cons, List.length_nil, List.getElem?_cons_zero, List.getElem?_cons_succ, List.set_cons_zero, List.set_cons_succ, List.replicate, Nat.sub_self, Nat.reduceSub, Nat.reduceAdd, Nat.zero_add, kb_ii, kb_ib, kb_it, kb_is, kb_bi, kb_bb, kb_bt, kb_bs, kb_tt, kb_ti, kb_ts, kb_ss, kb_si, kb_st, kb_nt, kb_ni, kb_ns, kb_lt, kb_li, kb_ls, ex_some, seq_tup, seq_tpx, itOf_tpx, seq_lst, seq_fz, list_lst, lsts_lst, lsts_fz, itOf_tup, itOf_lst, itOf_fz, now_int, now_bl, now_non, now_str, now_tup, now_lst, isNon_non, isNon_int, isNon_tup, isNon_ref, isNon_lst, isNon_str, isNon_bl, a21]
      refine ⟨trivial, trivial, ⟨okn_int, okn_int⟩, ?_⟩
      rw [eqD_int, decide_eq_true (by omega)]
      exact hN'
    simp only [dSeq, dNext, dRet, dRetN, dIfS, dAsg, dAsgG, dDrop, dPar2, dPar3, dAug, dAugS, dFor, dOp, dVar, dC, dTest, dChain, dAnd, dOr, dNot, dAndV, dOrV, dNotV, dIf, dTup, dLst, dNil, dCons, dStar, dCB, dCall, dSl, dNoPart, dPart, dBM, dRev, dNeg, dIsi, dListRg, dTupRg, dRg1, dRg2, dLc, dIt, dEnum, dZip2, dZip3, dRng1, dRng2, dYes, gN, gT, gsNil, gsCons, gSb, oI, oI0, oAdd, oMulA, oSub, oFdiv, oMod, oPow, oLt, oLe, oGt, oGe, oEq, oNe, oIsN, oNotN, oIsB, oNotB, oIx, oSl, oLen, oSum, oAll, oAny, oAbs, o1I, o2I, oMin2, oMax2, oMin, oMax, oMinL, oMaxL, oInt, oBool, oList, oTuple, oSorted, oIn, oAddI, oGet, oSet, oAppend, oExtend, oPop, oPopAt, oIndexL, oIndexT, oInsert, oRemove, dTupX, dBMX, dLenSet, newL, startD, wipeD, D.tyN, List.map_cons, List.map_nil, List.cons_append, List.nil_append, List.length_cons, List.length_nil, List.getElem?_cons_zero, List.getElem?_cons_succ, List.set_cons_zero, List.set_cons_succ, List.replicate, Nat.sub_self, Nat.reduceSub, Nat.reduceAdd, Nat.zero_add, kb_ii, kb_ib, kb_it, kb_is, kb_bi, kb_bb, kb_bt, kb_bs, kb_tt, kb_ti, kb_ts, kb_ss, kb_si, kb_st, kb_nt, kb_ni, kb_ns, kb_lt, kb_li, kb_ls, ex_some, seq_tup, seq_tpx, itOf_tpx, seq_lst, seq_fz, list_lst, lsts_lst, lsts_fz, itOf_tup, itOf_lst, itOf_fz, now_int, now_bl, now_non, now_str, now_tup, now_lst, isNon_non, isNon_int, isNon_tup, isNon_ref, isNon_lst, isNon_str, isNon_bl]
    refine ⟨(List.zip F (List.zip (bt J F) (ends J (0, 0) F))).map fun _ => false, by rw [List.map_map]; rfl, ?_⟩
    have hany : ∀ (α : Type) (l : List α), (l.map fun _ => false).any id = false := fun α l => by rw [List.any_map]; exact List.any_eq_false.mpr fun _ _ => by simp
    rw [hany]
    simp only []
    subst hv10
    refine seqG fun v11 hv11 => ?_
    simp only [dSeq, dNext, dRet, dRetN, dIfS, dAsg, dAsgG, dDrop, dPar2, dPar3, dAug, dAugS, dFor, dOp, dVar, dC, dTest, dChain, dAnd, dOr, dNot, dAndV, dOrV, dNotV, dIf, dTup, dLst, dNil, dCons, dStar, dCB, dCall, dSl, dNoPart, dPart, dBM, dRev, dNeg, dIsi, dListRg, dTupRg, dRg1, dRg2, dLc, dIt, dEnum, dZip2, dZip3, dRng1, dRng2, dYes, gN, gT, gsNil, gsCons, gSb, oI, oI0, oAdd, oMulA, oSub, oFdiv, oMod, oPow, oLt, oLe, oGt, oGe, oEq, oNe, oIsN, oNotN, oIsB, oNotB, oIx, oSl, oLen, oSum, oAll, oAny, oAbs, o1I, o2I, oMin2, oMax2, oMin, oMax, oMinL, oMaxL, oInt, oBool, oList, oTuple, oSorted, oIn, oAddI, oGet, oSet, oAppend, oExtend, oPop, oPopAt, oIndexL, oIndexT, oInsert, oRemove, dTupX, dBMX, dLenSet, newL, startD, wipeD, D.tyN, List.map_cons, List.map_nil, List.cons_append, List.nil_append, List.length_cons, List.length_nil, List.getElem?_cons_zero, List.getElem?_cons_succ, List.set_cons_zero, List.set_cons_succ, List.replicate, Nat.sub_self, Nat.reduceSub, Nat.reduceAdd, Nat.zero_add, kb_ii, kb_ib, kb_it, kb_is, kb_bi, kb_bb, kb_bt, kb_bs, kb_tt, kb_ti, kb_ts, kb_ss, kb_si, kb_st, kb_nt, kb_ni, kb_ns, kb_lt, kb_li, kb_ls, ex_some, seq_tup, seq_tpx, itOf_tpx, seq_lst, seq_fz, list_lst, lsts_lst, lsts_fz, itOf_tup, itOf_lst, itOf_fz, now_int, now_bl, now_non, now_str, now_tup, now_lst, isNon_non, isNon_int, isNon_tup, isNon_ref, isNon_lst, isNon_str, isNon_bl]
    refine lc_mapE J eP (fun j => eP (j.2, j.1)) (fun _ _ => trivial) (small (by omega)) (fun j hj S'' e' N' M hN' => ?_) ?_
    · simp only [dSeq, dNext, dRet, dRetN, dIfS, dAsg, dAsgG, dDrop, dPar2, dPar3, dAug, dAugS, dFor, dOp, dVar, dC, dTest, dChain, dAnd, dOr, dNot, dAndV, dOrV, dNotV, dIf, dTup, dLst, dNil, dCons, dStar, dCB, dCall, dSl, dNoPart, dPart, dBM, dRev, dNeg, dIsi, dListRg, dTupRg, dRg1, dRg2, dLc, dIt, dEnum, dZip2, dZip3, dRng1, dRng2, dYes, gN, gT, gsNil, gsCons, gSb, oI, oI0, oAdd, oMulA, oSub, oFdiv, oMod, oPow, oLt, oLe, oGt, oGe, oEq, oNe, oIsN, oNotN, oIsB, oNotB, oIx, oSl, oLen, oSum, oAll, oAny, oAbs, o1I, o2I, oMin2, oMax2, oMin, oMax, oMinL, oMaxL, oInt, oBool, oList, oTuple, oSorted, oIn, oAddI, oGet, oSet, oAppend, oExtend, oPop, oPopAt, oIndexL, oIndexT, oInsert, oRemove, dTupX, dBMX, dLenSet, newL, startD, wipeD, D.tyN, List.map_cons, List.map_nil, List.cons_append, List.nil_append, List.length_cons, List.length_nil, List.getElem?_cons_zero, List.getElem?_cons_succ, List.set_cons_zero, List.set_cons_succ, List.replicate, Nat.sub_self, Nat.reduceSub, Nat.reduceAdd, Nat.zero_add, kb_ii, kb_ib, kb_it, kb_is, kb_bi, kb_bb, kb_bt, kb_bs, kb_tt, kb_ti, kb_ts, kb_ss, kb_si, kb_st, kb_nt, kb_ni, kb_ns, kb_lt, kb_li, kb_ls, ex_some, seq_tup, seq_tpx, itOf_tpx, seq_lst, seq_fz, list_lst, lsts_lst, lsts_fz, itOf_tup, itOf_lst, itOf_fz, now_int, now_bl, now_non, now_str, now_tup, now_lst, isNon_non, isNon_int, isNon_tup, isNon_ref, isNon_lst, isNon_str, isNon_bl, eP]
      exact ⟨trivial, small (by decide), hN'⟩
    have ebk : J.map (fun j => eP (j.2, j.1)) = (back J).map eP := by unfold back; rw [List.map_map]; rfl
    rw [ebk]
    simp only [dSeq, dNext, dRet, dRetN, dIfS, dAsg, dAsgG, dDrop, dPar2, dPar3, dAug, dAugS, dFor, dOp, dVar, dC, dTest, dChain, dAnd, dOr, dNot, dAndV, dOrV, dNotV, dIf, dTup, dLst, dNil, dCons, dStar, dCB, dCall, dSl, dNoPart, dPart, dBM, dRev, dNeg, dIsi, dListRg, dTupRg, dRg1, dRg2, dLc, dIt, dEnum, dZip2, dZip3, dRng1, dRng2, dYes, gN, gT, gsNil, gsCons, gSb, oI, oI0, oAdd, oMulA, oSub, oFdiv, oMod, oPow, oLt, oLe, oGt, oGe, oEq, oNe, oIsN, oNotN, oIsB, oNotB, oIx, oSl, oLen, oSum, oAll, oAny, oAbs, o1I, o2I, oMin2, oMax2, oMin, oMax, oMinL, oMaxL, oInt, oBool, oList, oTuple, oSorted, oIn, oAddI, oGet, oSet, oAppend, oExtend, oPop, oPopAt, oIndexL, oIndexT, oInsert, oRemove, dTupX, dBMX, dLenSet, newL, startD, wipeD, D.tyN, List.map_cons, List.map_nil, List.cons_append, List.nil_append, List.length_cons, List.length_nil, List.getElem?_cons_zero, List.getElem?_cons_succ, List.set_cons_zero, List.set_cons_succ, List.replicate, Nat.sub_self, Nat.reduceSub, Nat.reduceAdd, Nat.zero_add, kb_ii, kb_ib, kb_it, kb_is, kb_bi, kb_bb, kb_bt, kb_bs, kb_tt, kb_ti, kb_ts, kb_ss, kb_si, kb_st, kb_nt, kb_ni, kb_ns, kb_lt, kb_li, kb_ls, ex_some, seq_tup, seq_tpx, itOf_tpx, seq_lst, seq_fz, list_lst, lsts_lst, lsts_fz, itOf_tup, itOf_lst, itOf_fz, now_int, now_bl, now_non, now_str, now_tup, now_lst, isNon_non, isNon_int, isNon_tup, isNon_ref, isNon_lst, isNon_str, isNon_bl]
    subst hv11
    refine seqG fun v12 hv12 => ?_
    simp only [dSeq, dNext, dRet, dRetN, dIfS, dAsg, dAsgG, dDrop, dPar2, dPar3, dAug, dAugS, dFor, dOp, dVar, dC, dTest, dChain, dAnd, dOr, dNot, dAndV, dOrV, dNotV, dIf, dTup, dLst, dNil, dCons, dStar, dCB, dCall, dSl, dNoPart, dPart, dBM, dRev, dNeg, dIsi, dListRg, dTupRg, dRg1, dRg2, dLc, dIt, dEnum, dZip2, dZip3, dRng1, dRng2, dYes, gN, gT, gsNil, gsCons, gSb, oI, oI0, oAdd, oMulA, oSub, oFdiv, oMod, oPow, oLt, oLe, oGt, oGe, oEq, oNe, oIsN, oNotN, oIsB, oNotB, oIx, oSl, oLen, oSum, oAll, oAny, oAbs, o1I, o2I, oMin2, oMax2, oMin, oMax, oMinL, oMaxL, oInt, oBool, oList, oTuple, oSorted, oIn, oAddI, oGet, oSet, oAppend, oExtend, oPop, oPopAt, oIndexL, oIndexT, oInsert, oRemove, dTupX, dBMX, dLenSet, newL, startD, wipeD, D.tyN, List.map_cons, List.map_nil, List.cons_append, List.nil_append, List.length_cons, List.length_nil, List.getElem?_cons_zero, List.getElem?_cons_succ, List.set_cons_zero, List.set_cons_succ, List.replicate, Nat.sub_self, Nat.reduceSub, Nat.reduceAdd, Nat.zero_add, kb_ii, kb_ib, kb_it, kb_is, kb_bi, kb_bb, kb_bt, kb_bs, kb_tt, kb_ti, kb_ts, kb_ss, kb_si, kb_st, kb_nt, kb_ni, kb_ns, kb_lt, kb_li, kb_ls, ex_some, seq_tup, seq_tpx, itOf_tpx, seq_lst, seq_fz, list_lst, lsts_lst, lsts_fz, itOf_tup, itOf_lst, itOf_fz, now_int, now_bl, now_non, now_str, now_tup, now_lst, isNon_non, isNon_int, isNon_tup, isNon_ref, isNon_lst, isNon_str, isNon_bl]
    have gb := g.back
    have hrev : ∀ {o : List Nat}, Perm_ J.length o → Perm_ (back J).length o.reverse := fun h => by rw [back_len]; exact perm_rev h
    rw [show (F.map nI).reverse = F.reverse.map nI from List.map_reverse.symm]
    refine ⟨_, .same (.same .nil), back J, F.reverse, rfl, gb, hrev hF, ?_⟩
    refine eqi (back_en g (g.ne hF)) ?_
    refine ⟨_, .same .nil, back J, rfl, gb, ?_⟩
    simp only [dSeq, dNext, dRet, dRetN, dIfS, dAsg, dAsgG, dDrop, dPar2, dPar3, dAug, dAugS, dFor, dOp, dVar, dC, dTest, dChain, dAnd, dOr, dNot, dAndV, dOrV, dNotV, dIf, dTup, dLst, dNil, dCons, dStar, dCB, dCall, dSl, dNoPart, dPart, dBM, dRev, dNeg, dIsi, dListRg, dTupRg, dRg1, dRg2, dLc, dIt, dEnum, dZip2, dZip3, dRng1, dRng2, dYes, gN, gT, gsNil, gsCons, gSb, oI, oI0, oAdd, oMulA, oSub, oFdiv, oMod, oPow, oLt, oLe, oGt, oGe, oEq, oNe, oIsN, oNotN, oIsB, oNotB, oIx, oSl, oLen, oSum, oAll, oAny, oAbs, o1I, o2I, oMin2, oMax2, oMin, oMax, oMinL, oMaxL, oInt, oBool, oList, oTuple, oSorted, oIn, oAddI, oGet, oSet, oAppend, oExtend, oPop, oPopAt, oIndexL, oIndexT, oInsert, oRemove, dTupX, dBMX, dLenSet, newL, startD, wipeD, D.tyN, List.map_cons, List.map_nil, List.cons_append, List.nil_append, List.length_cons, List.length_nil, List.getElem?_cons_zero, List.getElem?_cons_succ, List.set_cons_zero, List.set_cons_succ, List.replicate, Nat.sub_self, Nat.reduceSub, Nat.reduceAdd, Nat.zero_add, kb_ii, kb_ib, kb_it, kb_is, kb_bi, kb_bb, kb_bt, kb_bs, kb_tt, kb_ti, kb_ts, kb_ss, kb_si, kb_st, kb_nt, kb_ni, kb_ns, kb_lt, kb_li, kb_ls, ex_some, seq_tup, seq_tpx, itOf_tpx, seq_lst, seq_fz, list_lst, lsts_lst, lsts_fz, itOf_tup, itOf_lst, itOf_fz, now_int, now_bl, now_non, now_str, now_tup, now_lst, isNon_non, isNon_int, isNon_tup, isNon_ref, isNon_lst, isNon_str, isNon_bl, a20]
    refine eqi (back_best g) ?_
    refine ⟨_, .same .nil, back J, rfl, gb, fun e2 one2 w2 => ?_⟩
    simp only [dSeq, dNext, dRet, dRetN, dIfS, dAsg, dAsgG, dDrop, dPar2, dPar3, dAug, dAugS, dFor, dOp, dVar, dC, dTest, dChain, dAnd, dOr, dNot, dAndV, dOrV, dNotV, dIf, dTup, dLst, dNil, dCons, dStar, dCB, dCall, dSl, dNoPart, dPart, dBM, dRev, dNeg, dIsi, dListRg, dTupRg, dRg1, dRg2, dLc, dIt, dEnum, dZip2, dZip3, dRng1, dRng2, dYes, gN, gT, gsNil, gsCons, gSb, oI, oI0, oAdd, oMulA, oSub, oFdiv, oMod, oPow, oLt, oLe, oGt, oGe, oEq, oNe, oIsN, oNotN, oIsB, oNotB, oIx, oSl, oLen, oSum, oAll, oAny, oAbs, o1I, o2I, oMin2, oMax2, oMin, oMax, oMinL, oMaxL, oInt, oBool, oList, oTuple, oSorted, oIn, oAddI, oGet, oSet, oAppend, oExtend, oPop, oPopAt, oIndexL, oIndexT, oInsert, oRemove, dTupX, dBMX, dLenSet, newL, startD, wipeD, D.tyN, List.map_cons, List.map_nil, List.cons_append, List.nil_append, List.length_cons, List.length_nil, List.getElem?_cons_zero, List.getElem?_cons_succ, List.set_cons_zero, List.set_cons_succ, List.replicate, Nat.sub_self, Nat.reduceSub, Nat.reduceAdd, Nat.zero_add, kb_ii, kb_ib, kb_it, kb_is, kb_bi, kb_bb, kb_bt, kb_bs, kb_tt, kb_ti, kb_ts, kb_ss, kb_si, kb_st, kb_nt, kb_ni, kb_ns, kb_lt, kb_li, kb_ls, ex_some, seq_tup, seq_tpx, itOf_tpx, seq_lst, seq_fz, list_lst, lsts_lst, lsts_fz, itOf_tup, itOf_lst, itOf_fz, now_int, now_bl, now_non, now_str, now_tup, now_lst, isNon_non, isNon_int, isNon_tup, isNon_ref, isNon_lst, isNon_str, isNon_bl, a20]
    refine eqi (w2.uniq w.back) ?_
    subst hv12
    refine seqG fun v13 hv13 => ?_
    simp only [dSeq, dNext, dRet, dRetN, dIfS, dAsg, dAsgG, dDrop, dPar2, dPar3, dAug, dAugS, dFor, dOp, dVar, dC, dTest, dChain, dAnd, dOr, dNot, dAndV, dOrV, dNotV, dIf, dTup, dLst, dNil, dCons, dStar, dCB, dCall, dSl, dNoPart, dPart, dBM, dRev, dNeg, dIsi, dListRg, dTupRg, dRg1, dRg2, dLc, dIt, dEnum, dZip2, dZip3, dRng1, dRng2, dYes, gN, gT, gsNil, gsCons, gSb, oI, oI0, oAdd, oMulA, oSub, oFdiv, oMod, oPow, oLt, oLe, oGt, oGe, oEq, oNe, oIsN, oNotN, oIsB, oNotB, oIx, oSl, oLen, oSum, oAll, oAny, oAbs, o1I, o2I, oMin2, oMax2, oMin, oMax, oMinL, oMaxL, oInt, oBool, oList, oTuple, oSorted, oIn, oAddI, oGet, oSet, oAppend, oExtend, oPop, oPopAt, oIndexL, oIndexT, oInsert, oRemove, dTupX, dBMX, dLenSet, newL, startD, wipeD, D.tyN, List.map_cons, List.map_nil, List.cons_append, List.nil_append, List.length_cons, List.length_nil, List.getElem?_cons_zero, List.getElem?_cons_succ, List.set_cons_zero, List.set_cons_succ, List.replicate, Nat.sub_self, Nat.reduceSub, Nat.reduceAdd, Nat.zero_add, kb_ii, kb_ib, kb_it, kb_is, kb_bi, kb_bb, kb_bt, kb_bs, kb_tt, kb_ti, kb_ts, kb_ss, kb_si, kb_st, kb_nt, kb_ni, kb_ns, kb_lt, kb_li, kb_ls, ex_some, seq_tup, seq_tpx, itOf_tpx, seq_lst, seq_fz, list_lst, lsts_lst, lsts_fz, itOf_tup, itOf_lst, itOf_fz, now_int, now_bl, now_non, now_str, now_tup, now_lst, isNon_non, isNon_int, isNon_tup, isNon_ref, isNon_lst, isNon_str, isNon_bl, a20, a21, eO]
    rw [show ((bs J).map nI).reverse = (bs J).reverse.map nI from List.map_reverse.symm]
    refine ⟨small (by decide), _, .same (.same .nil), back J, (bs J).reverse, best J, rfl, gb, hrev hbp, back_en g (g.ne hbp), back_best g, ?_⟩
    simp only [dSeq, dNext, dRet, dRetN, dIfS, dAsg, dAsgG, dDrop, dPar2, dPar3, dAug, dAugS, dFor, dOp, dVar, dC, dTest, dChain, dAnd, dOr, dNot, dAndV, dOrV, dNotV, dIf, dTup, dLst, dNil, dCons, dStar, dCB, dCall, dSl, dNoPart, dPart, dBM, dRev, dNeg, dIsi, dListRg, dTupRg, dRg1, dRg2, dLc, dIt, dEnum, dZip2, dZip3, dRng1, dRng2, dYes, gN, gT, gsNil, gsCons, gSb, oI, oI0, oAdd, oMulA, oSub, oFdiv, oMod, oPow, oLt, oLe, oGt, oGe, oEq, oNe, oIsN, oNotN, oIsB, oNotB, oIx, oSl, oLen, oSum, oAll, oAny, oAbs, o1I, o2I, oMin2, oMax2, oMin, oMax, oMinL, oMaxL, oInt, oBool, oList, oTuple, oSorted, oIn, oAddI, oGet, oSet, oAppend, oExtend, oPop, oPopAt, oIndexL, oIndexT, oInsert, oRemove, dTupX, dBMX, dLenSet, newL, startD, wipeD, D.tyN, List.map_cons, List.map_nil, List.cons_append, List.nil_append, List.length_cons, List.length_nil, List.getElem?_cons_zero, List.getElem?_cons_succ, List.set_cons_zero, List.set_cons_succ, List.replicate, Nat.sub_self, Nat.reduceSub, Nat.reduceAdd, Nat.zero_add, kb_ii, kb_ib, kb_it, kb_is, kb_bi, kb_bb, kb_bt, kb_bs, kb_tt, kb_ti, kb_ts, kb_ss, kb_si, kb_st, kb_nt, kb_ni, kb_ns, kb_lt, kb_li, kb_ls, ex_some, seq_tup, seq_tpx, itOf_tpx, seq_lst, seq_fz, list_lst, lsts_lst, lsts_fz, itOf_tup, itOf_lst, itOf_fz, now_int, now_bl, now_non, now_str, now_tup, now_lst, isNon_non, isNon_int, isNon_tup, isNon_ref, isNon_lst, isNon_str, isNon_bl]
    simp only [decide_true, Bool.not_true]
    subst hv13
    refine seqG fun v14 hv14 => ?_
    simp only [dSeq, dNext, dRet, dRetN, dIfS, dAsg, dAsgG, dDrop, dPar2, dPar3, dAug, dAugS, dFor, dOp, dVar, dC, dTest, dChain, dAnd, dOr, dNot, dAndV, dOrV, dNotV, dIf, dTup, dLst, dNil, dCons, dStar, dCB, dCall, dSl, dNoPart, dPart, dBM, dRev, dNeg, dIsi, dListRg, dTupRg, dRg1, dRg2, dLc, dIt, dEnum, dZip2, dZip3, dRng1, dRng2, dYes, gN, gT, gsNil, gsCons, gSb, oI, oI0, oAdd, oMulA, oSub, oFdiv, oMod, oPow, oLt, oLe, oGt, oGe, oEq, oNe, oIsN, oNotN, oIsB, oNotB, oIx, oSl, oLen, oSum, oAll, oAny, oAbs, o1I, o2I, oMin2, oMax2, oMin, oMax, oMinL, oMaxL, oInt, oBool, oList, oTuple, oSorted, oIn, oAddI, oGet, oSet, oAppend, oExtend, oPop, oPopAt, oIndexL, oIndexT, oInsert, oRemove, dTupX, dBMX, dLenSet, newL, startD, wipeD, D.tyN, List.map_cons, List.map_nil, List.cons_append, List.nil_append, List.length_cons, List.length_nil, List.getElem?_cons_zero, List.getElem?_cons_succ, List.set_cons_zero, List.set_cons_succ, List.replicate, Nat.sub_self, Nat.reduceSub, Nat.reduceAdd, Nat.zero_add, kb_ii, kb_ib, kb_it, kb_is, kb_bi, kb_bb, kb_bt, kb_bs, kb_tt, kb_ti, kb_ts, kb_ss, kb_si, kb_st, kb_nt, kb_ni, kb_ns, kb_lt, kb_li, kb_ls, ex_some, seq_tup, seq_tpx, itOf_tpx, seq_lst, seq_fz, list_lst, lsts_lst, lsts_fz, itOf_tup, itOf_lst, itOf_fz, now_int, now_bl, now_non, now_str, now_tup, now_lst, isNon_non, isNon_int, isNon_tup, isNon_ref, isNon_lst, isNon_str, isNon_bl, a20, a21]
    rw [show ((wo J one).map nI).reverse = (wo J one).reverse.map nI from List.map_reverse.symm]
    refine ⟨small (by decide), _, .same (.same .nil), back J, (wo J one).reverse, e, rfl, gb, hrev hwp, (back_en g (g.ne hwp)).trans (w.wo g), ⟨one, w.back⟩, ?_⟩
    simp only [dSeq, dNext, dRet, dRetN, dIfS, dAsg, dAsgG, dDrop, dPar2, dPar3, dAug, dAugS, dFor, dOp, dVar, dC, dTest, dChain, dAnd, dOr, dNot, dAndV, dOrV, dNotV, dIf, dTup, dLst, dNil, dCons, dStar, dCB, dCall, dSl, dNoPart, dPart, dBM, dRev, dNeg, dIsi, dListRg, dTupRg, dRg1, dRg2, dLc, dIt, dEnum, dZip2, dZip3, dRng1, dRng2, dYes, gN, gT, gsNil, gsCons, gSb, oI, oI0, oAdd, oMulA, oSub, oFdiv, oMod, oPow, oLt, oLe, oGt, oGe, oEq, oNe, oIsN, oNotN, oIsB, oNotB, oIx, oSl, oLen, oSum, oAll, oAny, oAbs, o1I, o2I, oMin2, oMax2, oMin, oMax, oMinL, oMaxL, oInt, oBool, oList, oTuple, oSorted, oIn, oAddI, oGet, oSet, oAppend, oExtend, oPop, oPopAt, oIndexL, oIndexT, oInsert, oRemove, dTupX, dBMX, dLenSet, newL, startD, wipeD, D.tyN, List.map_cons, List.map_nil, List.cons_append, List.nil_append, List.length_cons, List.length_nil, List.getElem?_cons_zero, List.getElem?_cons_succ, List.set_cons_zero, List.set_cons_succ, List.replicate, Nat.sub_self, Nat.reduceSub, Nat.reduceAdd, Nat.zero_add, kb_ii, kb_ib, kb_it, kb_is, kb_bi, kb_bb, kb_bt, kb_bs, kb_tt, kb_ti, kb_ts, kb_ss, kb_si, kb_st, kb_nt, kb_ni, kb_ns, kb_lt, kb_li, kb_ls, ex_some, seq_tup, seq_tpx, itOf_tpx, seq_lst, seq_fz, list_lst, lsts_lst, lsts_fz, itOf_tup, itOf_lst, itOf_fz, now_int, now_bl, now_non, now_str, now_tup, now_lst, isNon_non, isNon_int, isNon_tup, isNon_ref, isNon_lst, isNon_str, isNon_bl, decide_true, Bool.not_true]
    subst hv14
    refine seqG fun v15 hv15 => ?_
    simp only [dSeq, dNext, dRet, dRetN, dIfS, dAsg, dAsgG, dDrop, dPar2, dPar3, dAug, dAugS, dFor, dOp, dVar, dC, dTest, dChain, dAnd, dOr, dNot, dAndV, dOrV, dNotV, dIf, dTup, dLst, dNil, dCons, dStar, dCB, dCall, dSl, dNoPart, dPart, dBM, dRev, dNeg, dIsi, dListRg, dTupRg, dRg1, dRg2, dLc, dIt, dEnum, dZip2, dZip3, dRng1, dRng2, dYes, gN, gT, gsNil, gsCons, gSb, oI, oI0, oAdd, oMulA, oSub, oFdiv, oMod, oPow, oLt, oLe, oGt, oGe, oEq, oNe, oIsN, oNotN, oIsB, oNotB, oIx, oSl, oLen, oSum, oAll, oAny, oAbs, o1I, o2I, oMin2, oMax2, oMin, oMax, oMinL, oMaxL, oInt, oBool, oList, oTuple, oSorted, oIn, oAddI, oGet, oSet, oAppend, oExtend, oPop, oPopAt, oIndexL, oIndexT, oInsert, oRemove, dTupX, dBMX, dLenSet, newL, startD, wipeD, D.tyN, List.map_cons, List.map_nil, List.cons_append, List.nil_append, List.length_cons, List.length_nil, List.getElem?_cons_zero, List.getElem?_cons_succ, List.set_cons_zero, List.set_cons_succ, List.replicate, Nat.sub_self, Nat.reduceSub, Nat.reduceAdd, Nat.zero_add, kb_ii, kb_ib, kb_it, kb_is, kb_bi, kb_bb, kb_bt, kb_bs, kb_tt, kb_ti, kb_ts, kb_ss, kb_si, kb_st, kb_nt, kb_ni, kb_ns, kb_lt, kb_li, kb_ls, ex_some, seq_tup, seq_tpx, itOf_tpx, seq_lst, seq_fz, list_lst, lsts_lst, lsts_fz, itOf_tup, itOf_lst, itOf_fz, now_int, now_bl, now_non, now_str, now_tup, now_lst, isNon_non, isNon_int, isNon_tup, isNon_ref, isNon_lst, isNon_str, isNon_bl]
    suffices key : ∀ (t : Int) (oi : MO) (Si : Sto), 1 ≤ t → (t = 1 ∨ (t ≤ 3 ∧ u < 100)) → Si p = some oi → PotO (b3 + mn + 1) oi → Fr p S0 Si → v15 { nx := N, rt := FzQ Q, bk := fun ρ' S' => v (DeN Q) ρ' S', ct := N }
      [some (D.ref p), some (D.int (0 + (x : Int))), some (D.int u), some (D.int (mn : Int)), some (D.tup (J.map eP)), o5, some (D.tpx (F.map nI)), o7, some (D.lst ((sm J F).map D.int)), some (D.int (en J F)), some (D.tup [D.int (best J), D.tup ((bs J).map nI)]), some (D.tup [D.int e, D.tup ((wo J one).map nI)]), some (D.tup ((ends J (0,0) F).map eP)), some (eI (bt J F)), o14, o15, o16, some (D.tup ((back J).map eP)), some (D.int t), o19, o20, o21, o22] Si by
      by_cases hu100 : u < 100
      · rw [decide_eq_true hu100]
        refine ⟨_, .same (.same .nil), p, 3, _, oh, rfl, by decide, by decide, hSd, hph, by omega, fun kt oi h0 h1 hpi => ?_⟩
        exact key (1 + kt) oi _ (by omega) (.inr ⟨by omega, hu100⟩) Sto.up_same hpi hfd.own
      · rw [decide_eq_false hu100]
        exact key 1 oh Sd (by omega) (.inl rfl) hSd (hph.mono (by omega)) hfd
    intro t oi Si ht1 ht3 hSi hpi hfi
    subst hv15
    refine seqG fun v16 hv16 => ?_
    simp only [dSeq, dNext, dRet, dRetN, dIfS, dAsg, dAsgG, dDrop, dPar2, dPar3, dAug, dAugS, dFor, dOp, dVar, dC, dTest, dChain, dAnd, dOr, dNot, dAndV, dOrV, dNotV, dIf, dTup, dLst, dNil, dCons, dStar, dCB, dCall, dSl, dNoPart, dPart, dBM, dRev, dNeg, dIsi, dListRg, dTupRg, dRg1, dRg2, dLc, dIt, dEnum, dZip2, dZip3, dRng1, dRng2, dYes, gN, gT, gsNil, gsCons, gSb, oI, oI0, oAdd, oMulA, oSub, oFdiv, oMod, oPow, oLt, oLe, oGt, oGe, oEq, oNe, oIsN, oNotN, oIsB, oNotB, oIx, oSl, oLen, oSum, oAll, oAny, oAbs, o1I, o2I, oMin2, oMax2, oMin, oMax, oMinL, oMaxL, oInt, oBool, oList, oTuple, oSorted, oIn, oAddI, oGet, oSet, oAppend, oExtend, oPop, oPopAt, oIndexL, oIndexT, oInsert, oRemove, dTupX, dBMX, dLenSet, newL, startD, wipeD, D.tyN, List.map_cons, List.map_nil, List.cons_append, List.nil_append, List.length_cons, List.length_nil, List.getElem?_cons_zero, List.getElem?_cons_succ, List.set_cons_zero, List.set_cons_succ, List.replicate, Nat.sub_self, Nat.reduceSub, Nat.reduceAdd, Nat.zero_add, kb_ii, kb_ib, kb_it, kb_is, kb_bi, kb_bb, kb_bt, kb_bs, kb_tt, kb_ti, kb_ts, kb_ss, kb_si, kb_st, kb_nt, kb_ni, kb_ns, kb_lt, kb_li, kb_ls, ex_some, seq_tup, seq_tpx, itOf_tpx, seq_lst, seq_fz, list_lst, lsts_lst, lsts_fz, itOf_tup, itOf_lst, itOf_fz, now_int, now_bl, now_non, now_str, now_tup, now_lst, isNon_non, isNon_int, isNon_tup, isNon_ref, isNon_lst, isNon_str, isNon_bl]
    have gf : GJ (far t J) := g.far (fun j hj => ⟨(hJu j hj).1.2, (hJu j hj).2.2⟩) ht1 ht3
    have t0 : 0 ≤ t := by omega

    have hup := w.up g
    have hf0 := en_ge_0 g hF
    have hb0' : 0 ≤ best J := en_ge_0 g hbp
    have tmul : ∀ z : Int, 0 ≤ z → z ≤ 1000000 → CMul' t z := fun z h0 h1 => cmul_small (n := 3) (m := 1000000) (by omega) (by omega) (by decide +kernel) (by decide +kernel)
    refine lc_mapE J eP (fun j => eP (t * j.1, t * j.2)) (fun _ _ => trivial) (small (by omega)) (fun j hj S'' e' N' M hN' => ?_) ?_
    · simp only [dSeq, dNext, dRet, dRetN, dIfS, dAsg, dAsgG, dDrop, dPar2, dPar3, dAug, dAugS, dFor, dOp, dVar, dC, dTest, dChain, dAnd, dOr, dNot, dAndV, dOrV, dNotV, dIf, dTup, dLst, dNil, dCons, dStar, dCB, dCall, dSl, dNoPart, dPart, dBM, dRev, dNeg, dIsi, dListRg, dTupRg, dRg1, dRg2, dLc, dIt, dEnum, dZip2, dZip3, dRng1, dRng2, dYes, gN, gT, gsNil, gsCons, gSb, oI, oI0, oAdd, oMulA, oSub, oFdiv, oMod, oPow, oLt, oLe, oGt, oGe, oEq, oNe, oIsN, oNotN, oIsB, oNotB, oIx, oSl, oLen, oSum, oAll, oAny, oAbs, o1I, o2I, oMin2, oMax2, oMin, oMax, oMinL, oMaxL, oInt, oBool, oList, oTuple, oSorted, oIn, oAddI, oGet, oSet, oAppend, oExtend, oPop, oPopAt, oIndexL, oIndexT, oInsert, oRemove, dTupX, dBMX, dLenSet, newL, startD, wipeD, D.tyN, List.map_cons, List.map_nil, List.cons_append, List.nil_append, List.length_cons, List.length_nil, List.getElem?_cons_zero, List.getElem?_cons_succ, List.set_cons_zero, List.set_cons_succ, List.replicate, Nat.sub_self, Nat.reduceSub, Nat.reduceAdd, Nat.zero_add, kb_ii, kb_ib, kb_it, kb_is, kb_bi, kb_bb, kb_bt, kb_bs, kb_tt, kb_ti, kb_ts, kb_ss, kb_si, kb_st, kb_nt, kb_ni, kb_ns, kb_lt, kb_li, kb_ls, ex_some, seq_tup, seq_tpx, itOf_tpx, seq_lst, seq_fz, list_lst, lsts_lst, lsts_fz, itOf_tup, itOf_lst, itOf_fz, now_int, now_bl, now_non, now_str, now_tup, now_lst, isNon_non, isNon_int, isNon_tup, isNon_ref, isNon_lst, isNon_str, isNon_bl, eP]
      have := g.a j hj
      have := g.b j hj
      exact ⟨trivial, tmul _ (by omega) (by omega), tmul _ (by omega) (by omega), small (by decide), hN'⟩
    have efr : J.map (fun j => eP (t * j.1, t * j.2)) = (far t J).map eP := by unfold far; rw [List.map_map]; rfl
    rw [efr]
    simp only [dSeq, dNext, dRet, dRetN, dIfS, dAsg, dAsgG, dDrop, dPar2, dPar3, dAug, dAugS, dFor, dOp, dVar, dC, dTest, dChain, dAnd, dOr, dNot, dAndV, dOrV, dNotV, dIf, dTup, dLst, dNil, dCons, dStar, dCB, dCall, dSl, dNoPart, dPart, dBM, dRev, dNeg, dIsi, dListRg, dTupRg, dRg1, dRg2, dLc, dIt, dEnum, dZip2, dZip3, dRng1, dRng2, dYes, gN, gT, gsNil, gsCons, gSb, oI, oI0, oAdd, oMulA, oSub, oFdiv, oMod, oPow, oLt, oLe, oGt, oGe, oEq, oNe, oIsN, oNotN, oIsB, oNotB, oIx, oSl, oLen, oSum, oAll, oAny, oAbs, o1I, o2I, oMin2, oMax2, oMin, oMax, oMinL, oMaxL, oInt, oBool, oList, oTuple, oSorted, oIn, oAddI, oGet, oSet, oAppend, oExtend, oPop, oPopAt, oIndexL, oIndexT, oInsert, oRemove, dTupX, dBMX, dLenSet, newL, startD, wipeD, D.tyN, List.map_cons, List.map_nil, List.cons_append, List.nil_append, List.length_cons, List.length_nil, List.getElem?_cons_zero, List.getElem?_cons_succ, List.set_cons_zero, List.set_cons_succ, List.replicate, Nat.sub_self, Nat.reduceSub, Nat.reduceAdd, Nat.zero_add, kb_ii, kb_ib, kb_it, kb_is, kb_bi, kb_bb, kb_bt, kb_bs, kb_tt, kb_ti, kb_ts, kb_ss, kb_si, kb_st, kb_nt, kb_ni, kb_ns, kb_lt, kb_li, kb_ls, ex_some, seq_tup, seq_tpx, itOf_tpx, seq_lst, seq_fz, list_lst, lsts_lst, lsts_fz, itOf_tup, itOf_lst, itOf_fz, now_int, now_bl, now_non, now_str, now_tup, now_lst, isNon_non, isNon_int, isNon_tup, isNon_ref, isNon_lst, isNon_str, isNon_bl]
    subst hv16
    refine seqG fun v17 hv17 => ?_
    simp only [dSeq, dNext, dRet, dRetN, dIfS, dAsg, dAsgG, dDrop, dPar2, dPar3, dAug, dAugS, dFor, dOp, dVar, dC, dTest, dChain, dAnd, dOr, dNot, dAndV, dOrV, dNotV, dIf, dTup, dLst, dNil, dCons, dStar, dCB, dCall, dSl, dNoPart, dPart, dBM, dRev, dNeg, dIsi, dListRg, dTupRg, dRg1, dRg2, dLc, dIt, dEnum, dZip2, dZip3, dRng1, dRng2, dYes, gN, gT, gsNil, gsCons, gSb, oI, oI0, oAdd, oMulA, oSub, oFdiv, oMod, oPow, oLt, oLe, oGt, oGe, oEq, oNe, oIsN, oNotN, oIsB, oNotB, oIx, oSl, oLen, oSum, oAll, oAny, oAbs, o1I, o2I, oMin2, oMax2, oMin, oMax, oMinL, oMaxL, oInt, oBool, oList, oTuple, oSorted, oIn, oAddI, oGet, oSet, oAppend, oExtend, oPop, oPopAt, oIndexL, oIndexT, oInsert, oRemove, dTupX, dBMX, dLenSet, newL, startD, wipeD, D.tyN, List.map_cons, List.map_nil, List.cons_append, List.nil_append, List.length_cons, List.length_nil, List.getElem?_cons_zero, List.getElem?_cons_succ, List.set_cons_zero, List.set_cons_succ, List.replicate, Nat.sub_self, Nat.reduceSub, Nat.reduceAdd, Nat.zero_add, kb_ii, kb_ib, kb_it, kb_is, kb_bi, kb_bb, kb_bt, kb_bs, kb_tt, kb_ti, kb_ts, kb_ss, kb_si, kb_st, kb_nt, kb_ni, kb_ns, kb_lt, kb_li, kb_ls, ex_some, seq_tup, seq_tpx, itOf_tpx, seq_lst, seq_fz, list_lst, lsts_lst, lsts_fz, itOf_tup, itOf_lst, itOf_fz, now_int, now_bl, now_non, now_str, now_tup, now_lst, isNon_non, isNon_int, isNon_tup, isNon_ref, isNon_lst, isNon_str, isNon_bl]
    refine ⟨_, .same (.tpx .nil), far t J, F, rfl, gf, by rw [far_len]; exact hF, tmul _ hf0 (by omega), ?_⟩
    refine eqi (far_en t0 g gf (g.ne hF)) ?_
    refine ⟨_, .same .nil, far t J, rfl, gf, ?_⟩
    simp only [dSeq, dNext, dRet, dRetN, dIfS, dAsg, dAsgG, dDrop, dPar2, dPar3, dAug, dAugS, dFor, dOp, dVar, dC, dTest, dChain, dAnd, dOr, dNot, dAndV, dOrV, dNotV, dIf, dTup, dLst, dNil, dCons, dStar, dCB, dCall, dSl, dNoPart, dPart, dBM, dRev, dNeg, dIsi, dListRg, dTupRg, dRg1, dRg2, dLc, dIt, dEnum, dZip2, dZip3, dRng1, dRng2, dYes, gN, gT, gsNil, gsCons, gSb, oI, oI0, oAdd, oMulA, oSub, oFdiv, oMod, oPow, oLt, oLe, oGt, oGe, oEq, oNe, oIsN, oNotN, oIsB, oNotB, oIx, oSl, oLen, oSum, oAll, oAny, oAbs, o1I, o2I, oMin2, oMax2, oMin, oMax, oMinL, oMaxL, oInt, oBool, oList, oTuple, oSorted, oIn, oAddI, oGet, oSet, oAppend, oExtend, oPop, oPopAt, oIndexL, oIndexT, oInsert, oRemove, dTupX, dBMX, dLenSet, newL, startD, wipeD, D.tyN, List.map_cons, List.map_nil, List.cons_append, List.nil_append, List.length_cons, List.length_nil, List.getElem?_cons_zero, List.getElem?_cons_succ, List.set_cons_zero, List.set_cons_succ, List.replicate, Nat.sub_self, Nat.reduceSub, Nat.reduceAdd, Nat.zero_add, kb_ii, kb_ib, kb_it, kb_is, kb_bi, kb_bb, kb_bt, kb_bs, kb_tt, kb_ti, kb_ts, kb_ss, kb_si, kb_st, kb_nt, kb_ni, kb_ns, kb_lt, kb_li, kb_ls, ex_some, seq_tup, seq_tpx, itOf_tpx, seq_lst, seq_fz, list_lst, lsts_lst, lsts_fz, itOf_tup, itOf_lst, itOf_fz, now_int, now_bl, now_non, now_str, now_tup, now_lst, isNon_non, isNon_int, isNon_tup, isNon_ref, isNon_lst, isNon_str, isNon_bl, a20]
    refine ⟨tmul _ hb0' (by omega), ?_⟩
    refine eqi (far_best t0 g gf) ?_
    subst hv17
    refine seqG fun v18 hv18 => ?_
    simp only [dSeq, dNext, dRet, dRetN, dIfS, dAsg, dAsgG, dDrop, dPar2, dPar3, dAug, dAugS, dFor, dOp, dVar, dC, dTest, dChain, dAnd, dOr, dNot, dAndV, dOrV, dNotV, dIf, dTup, dLst, dNil, dCons, dStar, dCB, dCall, dSl, dNoPart, dPart, dBM, dRev, dNeg, dIsi, dListRg, dTupRg, dRg1, dRg2, dLc, dIt, dEnum, dZip2, dZip3, dRng1, dRng2, dYes, gN, gT, gsNil, gsCons, gSb, oI, oI0, oAdd, oMulA, oSub, oFdiv, oMod, oPow, oLt, oLe, oGt, oGe, oEq, oNe, oIsN, oNotN, oIsB, oNotB, oIx, oSl, oLen, oSum, oAll, oAny, oAbs, o1I, o2I, oMin2, oMax2, oMin, oMax, oMinL, oMaxL, oInt, oBool, oList, oTuple, oSorted, oIn, oAddI, oGet, oSet, oAppend, oExtend, oPop, oPopAt, oIndexL, oIndexT, oInsert, oRemove, dTupX, dBMX, dLenSet, newL, startD, wipeD, D.tyN, List.map_cons, List.map_nil, List.cons_append, List.nil_append, List.length_cons, List.length_nil, List.getElem?_cons_zero, List.getElem?_cons_succ, List.set_cons_zero, List.set_cons_succ, List.replicate, Nat.sub_self, Nat.reduceSub, Nat.reduceAdd, Nat.zero_add, kb_ii, kb_ib, kb_it, kb_is, kb_bi, kb_bb, kb_bt, kb_bs, kb_tt, kb_ti, kb_ts, kb_ss, kb_si, kb_st, kb_nt, kb_ni, kb_ns, kb_lt, kb_li, kb_ls, ex_some, seq_tup, seq_tpx, itOf_tpx, seq_lst, seq_fz, list_lst, lsts_lst, lsts_fz, itOf_tup, itOf_lst, itOf_fz, now_int, now_bl, now_non, now_str, now_tup, now_lst, isNon_non, isNon_int, isNon_tup, isNon_ref, isNon_lst, isNon_str, isNon_bl]
    refine lc_drawsG (c := 1) (b := b3 + mn + 1) (o := oi) J eP eP (fun (j z : Jb) => z.2 = j.2 ∧ 0 ≤ z.1 ∧ z.1 ≤ j.1) hSi hpi (by omega) (by decide) (fun j hj S' N' o0 b0 hS' hp' hb0 hN' => ?_) (by omega) (fun Z oj Sj hZ hSj hpj hfrj => ?_)
    · simp only [dSeq, dNext, dRet, dRetN, dIfS, dAsg, dAsgG, dDrop, dPar2, dPar3, dAug, dAugS, dFor, dOp, dVar, dC, dTest, dChain, dAnd, dOr, dNot, dAndV, dOrV, dNotV, dIf, dTup, dLst, dNil, dCons, dStar, dCB, dCall, dSl, dNoPart, dPart, dBM, dRev, dNeg, dIsi, dListRg, dTupRg, dRg1, dRg2, dLc, dIt, dEnum, dZip2, dZip3, dRng1, dRng2, dYes, gN, gT, gsNil, gsCons, gSb, oI, oI0, oAdd, oMulA, oSub, oFdiv, oMod, oPow, oLt, oLe, oGt, oGe, oEq, oNe, oIsN, oNotN, oIsB, oNotB, oIx, oSl, oLen, oSum, oAll, oAny, oAbs, o1I, o2I, oMin2, oMax2, oMin, oMax, oMinL, oMaxL, oInt, oBool, oList, oTuple, oSorted, oIn, oAddI, oGet, oSet, oAppend, oExtend, oPop, oPopAt, oIndexL, oIndexT, oInsert, oRemove, dTupX, dBMX, dLenSet, newL, startD, wipeD, D.tyN, List.map_cons, List.map_nil, List.cons_append, List.nil_append, List.length_cons, List.length_nil, List.getElem?_cons_zero, List.getElem?_cons_succ, List.set_cons_zero, List.set_cons_succ, List.replicate, Nat.sub_self, Nat.reduceSub, Nat.reduceAdd, Nat.zero_add, kb_ii, kb_ib, kb_it, kb_is, kb_bi, kb_bb, kb_bt, kb_bs, kb_tt, kb_ti, kb_ts, kb_ss, kb_si, kb_st, kb_nt, kb_ni, kb_ns, kb_lt, kb_li, kb_ls, ex_some, seq_tup, seq_tpx, itOf_tpx, seq_lst, seq_fz, list_lst, lsts_lst, lsts_fz, itOf_tup, itOf_lst, itOf_fz, now_int, now_bl, now_non, now_str, now_tup, now_lst, isNon_non, isNon_int, isNon_tup, isNon_ref, isNon_lst, isNon_str, isNon_bl, eP]
      refine ⟨trivial, _, .same (.same .nil), p, 3, b0, o0, rfl, by decide, by decide, hS', hp', by omega, fun kq oq h0 h1 hpq => ?_⟩
      simp only []
      have hj0 := g.a j hj
      refine ⟨small (by decide), hN' (if j.1 - kq > 0 then j.1 - kq else 0, j.2) oq ⟨rfl, ?_, ?_⟩ hpq⟩
      · show 0 ≤ (if j.1 - kq > 0 then j.1 - kq else 0)
        split <;> omega
      · show (if j.1 - kq > 0 then j.1 - kq else 0) ≤ j.1
        split <;> omega
    simp only [dSeq, dNext, dRet, dRetN, dIfS, dAsg, dAsgG, dDrop, dPar2, dPar3, dAug, dAugS, dFor, dOp, dVar, dC, dTest, dChain, dAnd, dOr, dNot, dAndV, dOrV, dNotV, dIf, dTup, dLst, dNil, dCons, dStar, dCB, dCall, dSl, dNoPart, dPart, dBM, dRev, dNeg, dIsi, dListRg, dTupRg, dRg1, dRg2, dLc, dIt, dEnum, dZip2, dZip3, dRng1, dRng2, dYes, gN, gT, gsNil, gsCons, gSb, oI, oI0, oAdd, oMulA, oSub, oFdiv, oMod, oPow, oLt, oLe, oGt, oGe, oEq, oNe, oIsN, oNotN, oIsB, oNotB, oIx, oSl, oLen, oSum, oAll, oAny, oAbs, o1I, o2I, oMin2, oMax2, oMin, oMax, oMinL, oMaxL, oInt, oBool, oList, oTuple, oSorted, oIn, oAddI, oGet, oSet, oAppend, oExtend, oPop, oPopAt, oIndexL, oIndexT, oInsert, oRemove, dTupX, dBMX, dLenSet, newL, startD, wipeD, D.tyN, List.map_cons, List.map_nil, List.cons_append, List.nil_append, List.length_cons, List.length_nil, List.getElem?_cons_zero, List.getElem?_cons_succ, List.set_cons_zero, List.set_cons_succ, List.replicate, Nat.sub_self, Nat.reduceSub, Nat.reduceAdd, Nat.zero_add, kb_ii, kb_ib, kb_it, kb_is, kb_bi, kb_bb, kb_bt, kb_bs, kb_tt, kb_ti, kb_ts, kb_ss, kb_si, kb_st, kb_nt, kb_ni, kb_ns, kb_lt, kb_li, kb_ls, ex_some, seq_tup, seq_tpx, itOf_tpx, seq_lst, seq_fz, list_lst, lsts_lst, lsts_fz, itOf_tup, itOf_lst, itOf_fz, now_int, now_bl, now_non, now_str, now_tup, now_lst, isNon_non, isNon_int, isNon_tup, isNon_ref, isNon_lst, isNon_str, isNon_bl]
    have hZl := hZ.len
    have gz : GJ Z := ⟨by omega, by omega, fun z hz => by
        obtain ⟨j, hj, r1, r2, r3⟩ := hZ.mem z hz
        have := g.a j hj
        omega, fun z hz => by
        obtain ⟨j, hj, r1, r2, r3⟩ := hZ.mem z hz
        have := g.b j hj
        omega⟩
    have qk : Quick Z J := quick_of hZ
    have hfj : Fr p S0 Sj := hfi.trans hfrj
    subst hv18
    refine seqG fun v19 hv19 => ?_
    simp only [dSeq, dNext, dRet, dRetN, dIfS, dAsg, dAsgG, dDrop, dPar2, dPar3, dAug, dAugS, dFor, dOp, dVar, dC, dTest, dChain, dAnd, dOr, dNot, dAndV, dOrV, dNotV, dIf, dTup, dLst, dNil, dCons, dStar, dCB, dCall, dSl, dNoPart, dPart, dBM, dRev, dNeg, dIsi, dListRg, dTupRg, dRg1, dRg2, dLc, dIt, dEnum, dZip2, dZip3, dRng1, dRng2, dYes, gN, gT, gsNil, gsCons, gSb, oI, oI0, oAdd, oMulA, oSub, oFdiv, oMod, oPow, oLt, oLe, oGt, oGe, oEq, oNe, oIsN, oNotN, oIsB, oNotB, oIx, oSl, oLen, oSum, oAll, oAny, oAbs, o1I, o2I, oMin2, oMax2, oMin, oMax, oMinL, oMaxL, oInt, oBool, oList, oTuple, oSorted, oIn, oAddI, oGet, oSet, oAppend, oExtend, oPop, oPopAt, oIndexL, oIndexT, oInsert, oRemove, dTupX, dBMX, dLenSet, newL, startD, wipeD, D.tyN, List.map_cons, List.map_nil, List.cons_append, List.nil_append, List.length_cons, List.length_nil, List.getElem?_cons_zero, List.getElem?_cons_succ, List.set_cons_zero, List.set_cons_succ, List.replicate, Nat.sub_self, Nat.reduceSub, Nat.reduceAdd, Nat.zero_add, kb_ii, kb_ib, kb_it, kb_is, kb_bi, kb_bb, kb_bt, kb_bs, kb_tt, kb_ti, kb_ts, kb_ss, kb_si, kb_st, kb_nt, kb_ni, kb_ns, kb_lt, kb_li, kb_ls, ex_some, seq_tup, seq_tpx, itOf_tpx, seq_lst, seq_fz, list_lst, lsts_lst, lsts_fz, itOf_tup, itOf_lst, itOf_fz, now_int, now_bl, now_non, now_str, now_tup, now_lst, isNon_non, isNon_int, isNon_tup, isNon_ref, isNon_lst, isNon_str, isNon_bl]
    refine ⟨_, .same .nil, Z, rfl, gz, ?_⟩
    simp only [dSeq, dNext, dRet, dRetN, dIfS, dAsg, dAsgG, dDrop, dPar2, dPar3, dAug, dAugS, dFor, dOp, dVar, dC, dTest, dChain, dAnd, dOr, dNot, dAndV, dOrV, dNotV, dIf, dTup, dLst, dNil, dCons, dStar, dCB, dCall, dSl, dNoPart, dPart, dBM, dRev, dNeg, dIsi, dListRg, dTupRg, dRg1, dRg2, dLc, dIt, dEnum, dZip2, dZip3, dRng1, dRng2, dYes, gN, gT, gsNil, gsCons, gSb, oI, oI0, oAdd, oMulA, oSub, oFdiv, oMod, oPow, oLt, oLe, oGt, oGe, oEq, oNe, oIsN, oNotN, oIsB, oNotB, oIx, oSl, oLen, oSum, oAll, oAny, oAbs, o1I, o2I, oMin2, oMax2, oMin, oMax, oMinL, oMaxL, oInt, oBool, oList, oTuple, oSorted, oIn, oAddI, oGet, oSet, oAppend, oExtend, oPop, oPopAt, oIndexL, oIndexT, oInsert, oRemove, dTupX, dBMX, dLenSet, newL, startD, wipeD, D.tyN, List.map_cons, List.map_nil, List.cons_append, List.nil_append, List.length_cons, List.length_nil, List.getElem?_cons_zero, List.getElem?_cons_succ, List.set_cons_zero, List.set_cons_succ, List.replicate, Nat.sub_self, Nat.reduceSub, Nat.reduceAdd, Nat.zero_add, kb_ii, kb_ib, kb_it, kb_is, kb_bi, kb_bb, kb_bt, kb_bs, kb_tt, kb_ti, kb_ts, kb_ss, kb_si, kb_st, kb_nt, kb_ni, kb_ns, kb_lt, kb_li, kb_ls, ex_some, seq_tup, seq_tpx, itOf_tpx, seq_lst, seq_fz, list_lst, lsts_lst, lsts_fz, itOf_tup, itOf_lst, itOf_fz, now_int, now_bl, now_non, now_str, now_tup, now_lst, isNon_non, isNon_int, isNon_tup, isNon_ref, isNon_lst, isNon_str, isNon_bl, a20]
    rw [decide_eq_false (Int.not_lt.mpr (qk.best gz))]
    simp only []
    refine ⟨_, .same .nil, Z, rfl, gz, fun e3 one3 w3 => ?_⟩
    simp only [dSeq, dNext, dRet, dRetN, dIfS, dAsg, dAsgG, dDrop, dPar2, dPar3, dAug, dAugS, dFor, dOp, dVar, dC, dTest, dChain, dAnd, dOr, dNot, dAndV, dOrV, dNotV, dIf, dTup, dLst, dNil, dCons, dStar, dCB, dCall, dSl, dNoPart, dPart, dBM, dRev, dNeg, dIsi, dListRg, dTupRg, dRg1, dRg2, dLc, dIt, dEnum, dZip2, dZip3, dRng1, dRng2, dYes, gN, gT, gsNil, gsCons, gSb, oI, oI0, oAdd, oMulA, oSub, oFdiv, oMod, oPow, oLt, oLe, oGt, oGe, oEq, oNe, oIsN, oNotN, oIsB, oNotB, oIx, oSl, oLen, oSum, oAll, oAny, oAbs, o1I, o2I, oMin2, oMax2, oMin, oMax, oMinL, oMaxL, oInt, oBool, oList, oTuple, oSorted, oIn, oAddI, oGet, oSet, oAppend, oExtend, oPop, oPopAt, oIndexL, oIndexT, oInsert, oRemove, dTupX, dBMX, dLenSet, newL, startD, wipeD, D.tyN, List.map_cons, List.map_nil, List.cons_append, List.nil_append, List.length_cons, List.length_nil, List.getElem?_cons_zero, List.getElem?_cons_succ, List.set_cons_zero, List.set_cons_succ, List.replicate, Nat.sub_self, Nat.reduceSub, Nat.reduceAdd, Nat.zero_add, kb_ii, kb_ib, kb_it, kb_is, kb_bi, kb_bb, kb_bt, kb_bs, kb_tt, kb_ti, kb_ts, kb_ss, kb_si, kb_st, kb_nt, kb_ni, kb_ns, kb_lt, kb_li, kb_ls, ex_some, seq_tup, seq_tpx, itOf_tpx, seq_lst, seq_fz, list_lst, lsts_lst, lsts_fz, itOf_tup, itOf_lst, itOf_fz, now_int, now_bl, now_non, now_str, now_tup, now_lst, isNon_non, isNon_int, isNon_tup, isNon_ref, isNon_lst, isNon_str, isNon_bl, a20]
    rw [decide_eq_false (Int.not_lt.mpr (qk.worst gz g w3 w))]
    simp only []
    have hFz : Perm_ Z.length F := by rw [hZl]; exact hF
    refine ⟨_, .same (.tpx .nil), Z, F, rfl, gz, hFz, ?_⟩
    simp only []
    rw [decide_eq_false (Int.not_lt.mpr (qk.en gz (gz.ne hFz)))]
    simp only []
    subst hv19
    refine seqG fun v20 hv20 => ?_
    simp only [dSeq, dNext, dRet, dRetN, dIfS, dAsg, dAsgG, dDrop, dPar2, dPar3, dAug, dAugS, dFor, dOp, dVar, dC, dTest, dChain, dAnd, dOr, dNot, dAndV, dOrV, dNotV, dIf, dTup, dLst, dNil, dCons, dStar, dCB, dCall, dSl, dNoPart, dPart, dBM, dRev, dNeg, dIsi, dListRg, dTupRg, dRg1, dRg2, dLc, dIt, dEnum, dZip2, dZip3, dRng1, dRng2, dYes, gN, gT, gsNil, gsCons, gSb, oI, oI0, oAdd, oMulA, oSub, oFdiv, oMod, oPow, oLt, oLe, oGt, oGe, oEq, oNe, oIsN, oNotN, oIsB, oNotB, oIx, oSl, oLen, oSum, oAll, oAny, oAbs, o1I, o2I, oMin2, oMax2, oMin, oMax, oMinL, oMaxL, oInt, oBool, oList, oTuple, oSorted, oIn, oAddI, oGet, oSet, oAppend, oExtend, oPop, oPopAt, oIndexL, oIndexT, oInsert, oRemove, dTupX, dBMX, dLenSet, newL, startD, wipeD, D.tyN, List.map_cons, List.map_nil, List.cons_append, List.nil_append, List.length_cons, List.length_nil, List.getElem?_cons_zero, List.getElem?_cons_succ, List.set_cons_zero, List.set_cons_succ, List.replicate, Nat.sub_self, Nat.reduceSub, Nat.reduceAdd, Nat.zero_add, kb_ii, kb_ib, kb_it, kb_is, kb_bi, kb_bb, kb_bt, kb_bs, kb_tt, kb_ti, kb_ts, kb_ss, kb_si, kb_st, kb_nt, kb_ni, kb_ns, kb_lt, kb_li, kb_ls, ex_some, seq_tup, seq_tpx, itOf_tpx, seq_lst, seq_fz, list_lst, lsts_lst, lsts_fz, itOf_tup, itOf_lst, itOf_fz, now_int, now_bl, now_non, now_str, now_tup, now_lst, isNon_non, isNon_int, isNon_tup, isNon_ref, isNon_lst, isNon_str, isNon_bl]
    suffices key2 : ∀ (o21 : Option D) (ok : MO) (Sk : Sto), Sk p = some ok → PotO (b3 + mn + 1 + mn + 2) ok → Fr p S0 Sk → v20 { nx := N, rt := FzQ Q, bk := fun ρ' S' => v (DeN Q) ρ' S', ct := N }
      [some (D.ref p), some (D.int (0 + (x : Int))), some (D.int u), some (D.int (mn : Int)), some (D.tup (J.map eP)), o5, some (D.tpx (F.map nI)), o7, some (D.lst ((sm J F).map D.int)), some (D.int (en J F)), some (D.tup [D.int (best J), D.tup ((bs J).map nI)]), some (D.tup [D.int e, D.tup ((wo J one).map nI)]), some (D.tup ((ends J (0,0) F).map eP)), some (eI (bt J F)), o14, o15, o16, some (D.tup ((back J).map eP)), some (D.int t), some (D.tup ((far t J).map eP)), some (D.tup (Z.map eP)), o21, o22] Sk by
      by_cases h60 : (mn : Int) < 60
      · rw [decide_eq_true h60]
        refine ⟨_, .same (.same .nil), p, u, _, oj, rfl, by omega, by omega, hSj, hpj, by omega, fun k1 oi2 h10 h11 hpi2 => ?_⟩
        simp only [dSeq, dNext, dRet, dRetN, dIfS, dAsg, dAsgG, dDrop, dPar2, dPar3, dAug, dAugS, dFor, dOp, dVar, dC, dTest, dChain, dAnd, dOr, dNot, dAndV, dOrV, dNotV, dIf, dTup, dLst, dNil, dCons, dStar, dCB, dCall, dSl, dNoPart, dPart, dBM, dRev, dNeg, dIsi, dListRg, dTupRg, dRg1, dRg2, dLc, dIt, dEnum, dZip2, dZip3, dRng1, dRng2, dYes, gN, gT, gsNil, gsCons, gSb, oI, oI0, oAdd, oMulA, oSub, oFdiv, oMod, oPow, oLt, oLe, oGt, oGe, oEq, oNe, oIsN, oNotN, oIsB, oNotB, oIx, oSl, oLen, oSum, oAll, oAny, oAbs, o1I, o2I, oMin2, oMax2, oMin, oMax, oMinL, oMaxL, oInt, oBool, oList, oTuple, oSorted, oIn, oAddI, oGet, oSet, oAppend, oExtend, oPop, oPopAt, oIndexL, oIndexT, oInsert, oRemove, dTupX, dBMX, dLenSet, newL, startD, wipeD, D.tyN, List.map_cons, List.map_nil, List.cons_append, List.nil_append, List.length_cons, List.length_nil, List.getElem?_cons_zero, List.getElem?_cons_succ, List.set_cons_zero, List.set_cons_succ, List.replicate, Nat.sub_self, Nat.reduceSub, Nat.reduceAdd, Nat.zero_add, kb_ii, kb_ib, kb_it, kb_is, kb_bi, kb_bb, kb_bt, kb_bs, kb_tt, kb_ti, kb_ts, kb_ss, kb_si, kb_st, kb_nt, kb_ni, kb_ns, kb_lt, kb_li, kb_ls, ex_some, seq_tup, seq_tpx, itOf_tpx, seq_lst, seq_fz, list_lst, lsts_lst, lsts_fz, itOf_tup, itOf_lst, itOf_fz, now_int, now_bl, now_non, now_str, now_tup, now_lst, isNon_non, isNon_int, isNon_tup, isNon_ref, isNon_lst, isNon_str, isNon_bl]
        refine ⟨_, .same (.same .nil), p, u, _, oi2, rfl, by omega, by omega, Sto.up_same, hpi2, by omega, fun k2 oi3 h20 h21 hpi3 => ?_⟩
        simp only [dSeq, dNext, dRet, dRetN, dIfS, dAsg, dAsgG, dDrop, dPar2, dPar3, dAug, dAugS, dFor, dOp, dVar, dC, dTest, dChain, dAnd, dOr, dNot, dAndV, dOrV, dNotV, dIf, dTup, dLst, dNil, dCons, dStar, dCB, dCall, dSl, dNoPart, dPart, dBM, dRev, dNeg, dIsi, dListRg, dTupRg, dRg1, dRg2, dLc, dIt, dEnum, dZip2, dZip3, dRng1, dRng2, dYes, gN, gT, gsNil, gsCons, gSb, oI, oI0, oAdd, oMulA, oSub, oFdiv, oMod, oPow, oLt, oLe, oGt, oGe, oEq, oNe, oIsN, oNotN, oIsB, oNotB, oIx, oSl, oLen, oSum, oAll, oAny, oAbs, o1I, o2I, oMin2, oMax2, oMin, oMax, oMinL, oMaxL, oInt, oBool, oList, oTuple, oSorted, oIn, oAddI, oGet, oSet, oAppend, oExtend, oPop, oPopAt, oIndexL, oIndexT, oInsert, oRemove, dTupX, dBMX, dLenSet, newL, startD, wipeD, D.tyN, List.map_cons, List.map_nil, List.cons_append, List.nil_append, List.length_cons, List.length_nil, List.getElem?_cons_zero, List.getElem?_cons_succ, List.set_cons_zero, List.set_cons_succ, List.replicate, Nat.sub_self, Nat.reduceSub, Nat.reduceAdd, Nat.zero_add, kb_ii, kb_ib, kb_it, kb_is, kb_bi, kb_bb, kb_bt, kb_bs, kb_tt, kb_ti, kb_ts, kb_ss, kb_si, kb_st, kb_nt, kb_ni, kb_ns, kb_lt, kb_li, kb_ls, ex_some, seq_tup, seq_tpx, itOf_tpx, seq_lst, seq_fz, list_lst, lsts_lst, lsts_fz, itOf_tup, itOf_lst, itOf_fz, now_int, now_bl, now_non, now_str, now_tup, now_lst, isNon_non, isNon_int, isNon_tup, isNon_ref, isNon_lst, isNon_str, isNon_bl, Sto.up_up]
        have em : J.map eP ++ [D.tup [D.int k1, D.int k2]] = (J ++ [(k1, k2)]).map eP := by rw [List.map_append]; rfl
        rw [em]
        have gm : GJ (J ++ [(k1, k2)]) := ⟨by simp, by simp; omega, fun j hj => by
            rcases List.mem_append.mp hj with z | z
            · exact g.a j z
            · rw [List.mem_singleton.mp z]; show 0 ≤ k1 ∧ k1 ≤ 10000; omega, fun j hj => by
            rcases List.mem_append.mp hj with z | z
            · exact g.b j z
            · rw [List.mem_singleton.mp z]; show 0 ≤ k2 ∧ k2 ≤ 10000; omega⟩
        refine ⟨small (by decide), small (by decide), small (by rw [List.length_map]; omega), _, .same .nil, _, rfl, gm, ?_⟩
        simp only [dSeq, dNext, dRet, dRetN, dIfS, dAsg, dAsgG, dDrop, dPar2, dPar3, dAug, dAugS, dFor, dOp, dVar, dC, dTest, dChain, dAnd, dOr, dNot, dAndV, dOrV, dNotV, dIf, dTup, dLst, dNil, dCons, dStar, dCB, dCall, dSl, dNoPart, dPart, dBM, dRev, dNeg, dIsi, dListRg, dTupRg, dRg1, dRg2, dLc, dIt, dEnum, dZip2, dZip3, dRng1, dRng2, dYes, gN, gT, gsNil, gsCons, gSb, oI, oI0, oAdd, oMulA, oSub, oFdiv, oMod, oPow, oLt, oLe, oGt, oGe, oEq, oNe, oIsN, oNotN, oIsB, oNotB, oIx, oSl, oLen, oSum, oAll, oAny, oAbs, o1I, o2I, oMin2, oMax2, oMin, oMax, oMinL, oMaxL, oInt, oBool, oList, oTuple, oSorted, oIn, oAddI, oGet, oSet, oAppend, oExtend, oPop, oPopAt, oIndexL, oIndexT, oInsert, oRemove, dTupX, dBMX, dLenSet, newL, startD, wipeD, D.tyN, List.map_cons, List.map_nil, List.cons_append, List.nil_append, List.length_cons, List.length_nil, List.getElem?_cons_zero, List.getElem?_cons_succ, List.set_cons_zero, List.set_cons_succ, List.replicate, Nat.sub_self, Nat.reduceSub, Nat.reduceAdd, Nat.zero_add, kb_ii, kb_ib, kb_it, kb_is, kb_bi, kb_bb, kb_bt, kb_bs, kb_tt, kb_ti, kb_ts, kb_ss, kb_si, kb_st, kb_nt, kb_ni, kb_ns, kb_lt, kb_li, kb_ls, ex_some, seq_tup, seq_tpx, itOf_tpx, seq_lst, seq_fz, list_lst, lsts_lst, lsts_fz, itOf_tup, itOf_lst, itOf_fz, now_int, now_bl, now_non, now_str, now_tup, now_lst, isNon_non, isNon_int, isNon_tup, isNon_ref, isNon_lst, isNon_str, isNon_bl, a20]
        rw [decide_eq_false (Int.not_lt.mpr (more_best g gm))]
        simp only []
        refine ⟨_, .same .nil, _, rfl, gm, fun e4 one4 w4 => ?_⟩
        simp only [dSeq, dNext, dRet, dRetN, dIfS, dAsg, dAsgG, dDrop, dPar2, dPar3, dAug, dAugS, dFor, dOp, dVar, dC, dTest, dChain, dAnd, dOr, dNot, dAndV, dOrV, dNotV, dIf, dTup, dLst, dNil, dCons, dStar, dCB, dCall, dSl, dNoPart, dPart, dBM, dRev, dNeg, dIsi, dListRg, dTupRg, dRg1, dRg2, dLc, dIt, dEnum, dZip2, dZip3, dRng1, dRng2, dYes, gN, gT, gsNil, gsCons, gSb, oI, oI0, oAdd, oMulA, oSub, oFdiv, oMod, oPow, oLt, oLe, oGt, oGe, oEq, oNe, oIsN, oNotN, oIsB, oNotB, oIx, oSl, oLen, oSum, oAll, oAny, oAbs, o1I, o2I, oMin2, oMax2, oMin, oMax, oMinL, oMaxL, oInt, oBool, oList, oTuple, oSorted, oIn, oAddI, oGet, oSet, oAppend, oExtend, oPop, oPopAt, oIndexL, oIndexT, oInsert, oRemove, dTupX, dBMX, dLenSet, newL, startD, wipeD, D.tyN, List.map_cons, List.map_nil, List.cons_append, List.nil_append, List.length_cons, List.length_nil, List.getElem?_cons_zero, List.getElem?_cons_succ, List.set_cons_zero, List.set_cons_succ, List.replicate, Nat.sub_self, Nat.reduceSub, Nat.reduceAdd, Nat.zero_add, kb_ii, kb_ib, kb_it, kb_is, kb_bi, kb_bb, kb_bt, kb_bs, kb_tt, kb_ti, kb_ts, kb_ss, kb_si, kb_st, kb_nt, kb_ni, kb_ns, kb_lt, kb_li, kb_ls, ex_some, seq_tup, seq_tpx, itOf_tpx, seq_lst, seq_fz, list_lst, lsts_lst, lsts_fz, itOf_tup, itOf_lst, itOf_fz, now_int, now_bl, now_non, now_str, now_tup, now_lst, isNon_non, isNon_int, isNon_tup, isNon_ref, isNon_lst, isNon_str, isNon_bl, a20]
        rw [decide_eq_false (Int.not_lt.mpr (more_worst g gm w w4))]
        simp only []
        exact key2 _ _ _ Sto.up_same (hpi3.mono (by omega)) hfj.own
      · rw [decide_eq_false h60]
        exact key2 _ _ _ hSj (hpj.mono (by omega)) hfj
    intro o21' ok Sk hSk hpk hfk
    subst hv20
    refine seqG fun v21 hv21 => ?_
    simp only [dSeq, dNext, dRet, dRetN, dIfS, dAsg, dAsgG, dDrop, dPar2, dPar3, dAug, dAugS, dFor, dOp, dVar, dC, dTest, dChain, dAnd, dOr, dNot, dAndV, dOrV, dNotV, dIf, dTup, dLst, dNil, dCons, dStar, dCB, dCall, dSl, dNoPart, dPart, dBM, dRev, dNeg, dIsi, dListRg, dTupRg, dRg1, dRg2, dLc, dIt, dEnum, dZip2, dZip3, dRng1, dRng2, dYes, gN, gT, gsNil, gsCons, gSb, oI, oI0, oAdd, oMulA, oSub, oFdiv, oMod, oPow, oLt, oLe, oGt, oGe, oEq, oNe, oIsN, oNotN, oIsB, oNotB, oIx, oSl, oLen, oSum, oAll, oAny, oAbs, o1I, o2I, oMin2, oMax2, oMin, oMax, oMinL, oMaxL, oInt, oBool, oList, oTuple, oSorted, oIn, oAddI, oGet, oSet, oAppend, oExtend, oPop, oPopAt, oIndexL, oIndexT, oInsert, oRemove, dTupX, dBMX, dLenSet, newL, startD, wipeD, D.tyN, List.map_cons, List.map_nil, List.cons_append, List.nil_append, List.length_cons, List.length_nil, List.getElem?_cons_zero, List.getElem?_cons_succ, List.set_cons_zero, List.set_cons_succ, List.replicate, Nat.sub_self, Nat.reduceSub, Nat.reduceAdd, Nat.zero_add, kb_ii, kb_ib, kb_it, kb_is, kb_bi, kb_bb, kb_bt, kb_bs, kb_tt, kb_ti, kb_ts, kb_ss, kb_si, kb_st, kb_nt, kb_ni, kb_ns, kb_lt, kb_li, kb_ls, ex_some, seq_tup, seq_tpx, itOf_tpx, seq_lst, seq_fz, list_lst, lsts_lst, lsts_fz, itOf_tup, itOf_lst, itOf_fz, now_int, now_bl, now_non, now_str, now_tup, now_lst, isNon_non, isNon_int, isNon_tup, isNon_ref, isNon_lst, isNon_str, isNon_bl]
    refine lc_mapE J eP (fun j => D.int j.1) (fun _ _ => trivial) (small (by omega)) (fun j hj S'' e' N' M hN' => ?_) ?_
    · simp only [dSeq, dNext, dRet, dRetN, dIfS, dAsg, dAsgG, dDrop, dPar2, dPar3, dAug, dAugS, dFor, dOp, dVar, dC, dTest, dChain, dAnd, dOr, dNot, dAndV, dOrV, dNotV, dIf, dTup, dLst, dNil, dCons, dStar, dCB, dCall, dSl, dNoPart, dPart, dBM, dRev, dNeg, dIsi, dListRg, dTupRg, dRg1, dRg2, dLc, dIt, dEnum, dZip2, dZip3, dRng1, dRng2, dYes, gN, gT, gsNil, gsCons, gSb, oI, oI0, oAdd, oMulA, oSub, oFdiv, oMod, oPow, oLt, oLe, oGt, oGe, oEq, oNe, oIsN, oNotN, oIsB, oNotB, oIx, oSl, oLen, oSum, oAll, oAny, oAbs, o1I, o2I, oMin2, oMax2, oMin, oMax, oMinL, oMaxL, oInt, oBool, oList, oTuple, oSorted, oIn, oAddI, oGet, oSet, oAppend, oExtend, oPop, oPopAt, oIndexL, oIndexT, oInsert, oRemove, dTupX, dBMX, dLenSet, newL, startD, wipeD, D.tyN, List.map_cons, List.map_nil, List.cons_append, List.nil_append, List.length_cons, List.length_nil, List.getElem?_cons_zero, List.getElem?_cons_succ, List.set_cons_zero, List.set_cons_succ, List.replicate, Nat.sub_self, Nat.reduceSub, Nat.reduceAdd, Nat.zero_add, kb_ii, kb_ib, kb_it, kb_is, kb_bi, kb_bb, kb_bt, kb_bs, kb_tt, kb_ti, kb_ts, kb_ss, kb_si, kb_st, kb_nt, kb_ni, kb_ns, kb_lt, kb_li, kb_ls, ex_some, seq_tup, seq_tpx, itOf_tpx, seq_lst, seq_fz, list_lst, lsts_lst, lsts_fz, itOf_tup, itOf_lst, itOf_fz, now_int, now_bl, now_non, now_str, now_tup, now_lst, isNon_non, isNon_int, isNon_tup, isNon_ref, isNon_lst, isNon_str, isNon_bl, eP, a20]
      exact hN'
    simp only [dSeq, dNext, dRet, dRetN, dIfS, dAsg, dAsgG, dDrop, dPar2, dPar3, dAug, dAugS, dFor, dOp, dVar, dC, dTest, dChain, dAnd, dOr, dNot, dAndV, dOrV, dNotV, dIf, dTup, dLst, dNil, dCons, dStar, dCB, dCall, dSl, dNoPart, dPart, dBM, dRev, dNeg, dIsi, dListRg, dTupRg, dRg1, dRg2, dLc, dIt, dEnum, dZip2, dZip3, dRng1, dRng2, dYes, gN, gT, gsNil, gsCons, gSb, oI, oI0, oAdd, oMulA, oSub, oFdiv, oMod, oPow, oLt, oLe, oGt, oGe, oEq, oNe, oIsN, oNotN, oIsB, oNotB, oIx, oSl, oLen, oSum, oAll, oAny, oAbs, o1I, o2I, oMin2, oMax2, oMin, oMax, oMinL, oMaxL, oInt, oBool, oList, oTuple, oSorted, oIn, oAddI, oGet, oSet, oAppend, oExtend, oPop, oPopAt, oIndexL, oIndexT, oInsert, oRemove, dTupX, dBMX, dLenSet, newL, startD, wipeD, D.tyN, List.map_cons, List.map_nil, List.cons_append, List.nil_append, List.length_cons, List.length_nil, List.getElem?_cons_zero, List.getElem?_cons_succ, List.set_cons_zero, List.set_cons_succ, List.replicate, Nat.sub_self, Nat.reduceSub, Nat.reduceAdd, Nat.zero_add, kb_ii, kb_ib, kb_it, kb_is, kb_bi, kb_bb, kb_bt, kb_bs, kb_tt, kb_ti, kb_ts, kb_ss, kb_si, kb_st, kb_nt, kb_ni, kb_ns, kb_lt, kb_li, kb_ls, ex_some, seq_tup, seq_tpx, itOf_tpx, seq_lst, seq_fz, list_lst, lsts_lst, lsts_fz, itOf_tup, itOf_lst, itOf_fz, now_int, now_bl, now_non, now_str, now_tup, now_lst, isNon_non, isNon_int, isNon_tup, isNon_ref, isNon_lst, isNon_str, isNon_bl]
    refine ⟨J.map fun j => j.1, by rw [List.map_map]; rfl, ?_⟩
    refine lc_mapE J eP (fun j => D.int j.2) (fun _ _ => trivial) (small (by omega)) (fun j hj S'' e' N' M hN' => ?_) ?_
    · simp only [dSeq, dNext, dRet, dRetN, dIfS, dAsg, dAsgG, dDrop, dPar2, dPar3, dAug, dAugS, dFor, dOp, dVar, dC, dTest, dChain, dAnd, dOr, dNot, dAndV, dOrV, dNotV, dIf, dTup, dLst, dNil, dCons, dStar, dCB, dCall, dSl, dNoPart, dPart, dBM, dRev, dNeg, dIsi, dListRg, dTupRg, dRg1, dRg2, dLc, dIt, dEnum, dZip2, dZip3, dRng1, dRng2, dYes, gN, gT, gsNil, gsCons, gSb, oI, oI0, oAdd, oMulA, oSub, oFdiv, oMod, oPow, oLt, oLe, oGt, oGe, oEq, oNe, oIsN, oNotN, oIsB, oNotB, oIx, oSl, oLen, oSum, oAll, oAny, oAbs, o1I, o2I, oMin2, oMax2, oMin, oMax, oMinL, oMaxL, oInt, oBool, oList, oTuple, oSorted, oIn, oAddI, oGet, oSet, oAppend, oExtend, oPop, oPopAt, oIndexL, oIndexT, oInsert, oRemove, dTupX, dBMX, dLenSet, newL, startD, wipeD, D.tyN, List.map_cons, List.map_nil, List.cons_append, List.nil_append, List.length_cons, List.length_nil, List.getElem?_cons_zero, List.getElem?_cons_succ, List.set_cons_zero, List.set_cons_succ, List.replicate, Nat.sub_self, Nat.reduceSub, Nat.reduceAdd, Nat.zero_add, kb_ii, kb_ib, kb_it, kb_is, kb_bi, kb_bb, kb_bt, kb_bs, kb_tt, kb_ti, kb_ts, kb_ss, kb_si, kb_st, kb_nt, kb_ni, kb_ns, kb_lt, kb_li, kb_ls, ex_some, seq_tup, seq_tpx, itOf_tpx, seq_lst, seq_fz, list_lst, lsts_lst, lsts_fz, itOf_tup, itOf_lst, itOf_fz, now_int, now_bl, now_non, now_str, now_tup, now_lst, isNon_non, isNon_int, isNon_tup, isNon_ref, isNon_lst, isNon_str, isNon_bl, eP, a21]
      exact hN'
    simp only [dSeq, dNext, dRet, dRetN, dIfS, dAsg, dAsgG, dDrop, dPar2, dPar3, dAug, dAugS, dFor, dOp, dVar, dC, dTest, dChain, dAnd, dOr, dNot, dAndV, dOrV, dNotV, dIf, dTup, dLst, dNil, dCons, dStar, dCB, dCall, dSl, dNoPart, dPart, dBM, dRev, dNeg, dIsi, dListRg, dTupRg, dRg1, dRg2, dLc, dIt, dEnum, dZip2, dZip3, dRng1, dRng2, dYes, gN, gT, gsNil, gsCons, gSb, oI, oI0, oAdd, oMulA, oSub, oFdiv, oMod, oPow, oLt, oLe, oGt, oGe, oEq, oNe, oIsN, oNotN, oIsB, oNotB, oIx, oSl, oLen, oSum, oAll, oAny, oAbs, o1I, o2I, oMin2, oMax2, oMin, oMax, oMinL, oMaxL, oInt, oBool, oList, oTuple, oSorted, oIn, oAddI, oGet, oSet, oAppend, oExtend, oPop, oPopAt, oIndexL, oIndexT, oInsert, oRemove, dTupX, dBMX, dLenSet, newL, startD, wipeD, D.tyN, List.map_cons, List.map_nil, List.cons_append, List.nil_append, List.length_cons, List.length_nil, List.getElem?_cons_zero, List.getElem?_cons_succ, List.set_cons_zero, List.set_cons_succ, List.replicate, Nat.sub_self, Nat.reduceSub, Nat.reduceAdd, Nat.zero_add, kb_ii, kb_ib, kb_it, kb_is, kb_bi, kb_bb, kb_bt, kb_bs, kb_tt, kb_ti, kb_ts, kb_ss, kb_si, kb_st, kb_nt, kb_ni, kb_ns, kb_lt, kb_li, kb_ls, ex_some, seq_tup, seq_tpx, itOf_tpx, seq_lst, seq_fz, list_lst, lsts_lst, lsts_fz, itOf_tup, itOf_lst, itOf_fz, now_int, now_bl, now_non, now_str, now_tup, now_lst, isNon_non, isNon_int, isNon_tup, isNon_ref, isNon_lst, isNon_str, isNon_bl]
    refine ⟨J.map fun j => j.2, by rw [List.map_map]; rfl, ?_⟩
    have hsm := en_sums g hbp
    have hsm2 : en J (bs J) = best J := rfl
    rw [hsm2] at hsm
    rw [decide_eq_false (by split; exact Int.not_lt.mpr hsm.2; exact Int.not_lt.mpr hsm.1)]
    simp only []
    subst hv21
    refine seqG fun v22 hv22 => ?_
    simp only [dSeq, dNext, dRet, dRetN, dIfS, dAsg, dAsgG, dDrop, dPar2, dPar3, dAug, dAugS, dFor, dOp, dVar, dC, dTest, dChain, dAnd, dOr, dNot, dAndV, dOrV, dNotV, dIf, dTup, dLst, dNil, dCons, dStar, dCB, dCall, dSl, dNoPart, dPart, dBM, dRev, dNeg, dIsi, dListRg, dTupRg, dRg1, dRg2, dLc, dIt, dEnum, dZip2, dZip3, dRng1, dRng2, dYes, gN, gT, gsNil, gsCons, gSb, oI, oI0, oAdd, oMulA, oSub, oFdiv, oMod, oPow, oLt, oLe, oGt, oGe, oEq, oNe, oIsN, oNotN, oIsB, oNotB, oIx, oSl, oLen, oSum, oAll, oAny, oAbs, o1I, o2I, oMin2, oMax2, oMin, oMax, oMinL, oMaxL, oInt, oBool, oList, oTuple, oSorted, oIn, oAddI, oGet, oSet, oAppend, oExtend, oPop, oPopAt, oIndexL, oIndexT, oInsert, oRemove, dTupX, dBMX, dLenSet, newL, startD, wipeD, D.tyN, List.map_cons, List.map_nil, List.cons_append, List.nil_append, List.length_cons, List.length_nil, List.getElem?_cons_zero, List.getElem?_cons_succ, List.set_cons_zero, List.set_cons_succ, List.replicate, Nat.sub_self, Nat.reduceSub, Nat.reduceAdd, Nat.zero_add, kb_ii, kb_ib, kb_it, kb_is, kb_bi, kb_bb, kb_bt, kb_bs, kb_tt, kb_ti, kb_ts, kb_ss, kb_si, kb_st, kb_nt, kb_ni, kb_ns, kb_lt, kb_li, kb_ls, ex_some, seq_tup, seq_tpx, itOf_tpx, seq_lst, seq_fz, list_lst, lsts_lst, lsts_fz, itOf_tup, itOf_lst, itOf_fz, now_int, now_bl, now_non, now_str, now_tup, now_lst, isNon_non, isNon_int, isNon_tup, isNon_ref, isNon_lst, isNon_str, isNon_bl, a20]
    refine lc_mapE J eP (fun j => D.int (max j.1 j.2)) (fun _ _ => trivial) (small (by omega)) (fun j hj S'' e' N' M hN' => ?_) ?_
    · simp only [dSeq, dNext, dRet, dRetN, dIfS, dAsg, dAsgG, dDrop, dPar2, dPar3, dAug, dAugS, dFor, dOp, dVar, dC, dTest, dChain, dAnd, dOr, dNot, dAndV, dOrV, dNotV, dIf, dTup, dLst, dNil, dCons, dStar, dCB, dCall, dSl, dNoPart, dPart, dBM, dRev, dNeg, dIsi, dListRg, dTupRg, dRg1, dRg2, dLc, dIt, dEnum, dZip2, dZip3, dRng1, dRng2, dYes, gN, gT, gsNil, gsCons, gSb, oI, oI0, oAdd, oMulA, oSub, oFdiv, oMod, oPow, oLt, oLe, oGt, oGe, oEq, oNe, oIsN, oNotN, oIsB, oNotB, oIx, oSl, oLen, oSum, oAll, oAny, oAbs, o1I, o2I, oMin2, oMax2, oMin, oMax, oMinL, oMaxL, oInt, oBool, oList, oTuple, oSorted, oIn, oAddI, oGet, oSet, oAppend, oExtend, oPop, oPopAt, oIndexL, oIndexT, oInsert, oRemove, dTupX, dBMX, dLenSet, newL, startD, wipeD, D.tyN, List.map_cons, List.map_nil, List.cons_append, List.nil_append, List.length_cons, List.length_nil, List.getElem?_cons_zero, List.getElem?_cons_succ, List.set_cons_zero, List.set_cons_succ, List.replicate, Nat.sub_self, Nat.reduceSub, Nat.reduceAdd, Nat.zero_add, kb_ii, kb_ib, kb_it, kb_is, kb_bi, kb_bb, kb_bt, kb_bs, kb_tt, kb_ti, kb_ts, kb_ss, kb_si, kb_st, kb_nt, kb_ni, kb_ns, kb_lt, kb_li, kb_ls, ex_some, seq_tup, seq_tpx, itOf_tpx, seq_lst, seq_fz, list_lst, lsts_lst, lsts_fz, itOf_tup, itOf_lst, itOf_fz, now_int, now_bl, now_non, now_str, now_tup, now_lst, isNon_non, isNon_int, isNon_tup, isNon_ref, isNon_lst, isNon_str, isNon_bl, eP]
      refine ⟨ok_pair, fun m hm hmx => ?_⟩
      rw [max_pair hm hmx]
      exact hN'
    simp only [dSeq, dNext, dRet, dRetN, dIfS, dAsg, dAsgG, dDrop, dPar2, dPar3, dAug, dAugS, dFor, dOp, dVar, dC, dTest, dChain, dAnd, dOr, dNot, dAndV, dOrV, dNotV, dIf, dTup, dLst, dNil, dCons, dStar, dCB, dCall, dSl, dNoPart, dPart, dBM, dRev, dNeg, dIsi, dListRg, dTupRg, dRg1, dRg2, dLc, dIt, dEnum, dZip2, dZip3, dRng1, dRng2, dYes, gN, gT, gsNil, gsCons, gSb, oI, oI0, oAdd, oMulA, oSub, oFdiv, oMod, oPow, oLt, oLe, oGt, oGe, oEq, oNe, oIsN, oNotN, oIsB, oNotB, oIx, oSl, oLen, oSum, oAll, oAny, oAbs, o1I, o2I, oMin2, oMax2, oMin, oMax, oMinL, oMaxL, oInt, oBool, oList, oTuple, oSorted, oIn, oAddI, oGet, oSet, oAppend, oExtend, oPop, oPopAt, oIndexL, oIndexT, oInsert, oRemove, dTupX, dBMX, dLenSet, newL, startD, wipeD, D.tyN, List.map_cons, List.map_nil, List.cons_append, List.nil_append, List.length_cons, List.length_nil, List.getElem?_cons_zero, List.getElem?_cons_succ, List.set_cons_zero, List.set_cons_succ, List.replicate, Nat.sub_self, Nat.reduceSub, Nat.reduceAdd, Nat.zero_add, kb_ii, kb_ib, kb_it, kb_is, kb_bi, kb_bb, kb_bt, kb_bs, kb_tt, kb_ti, kb_ts, kb_ss, kb_si, kb_st, kb_nt, kb_ni, kb_ns, kb_lt, kb_li, kb_ls, ex_some, seq_tup, seq_tpx, itOf_tpx, seq_lst, seq_fz, list_lst, lsts_lst, lsts_fz, itOf_tup, itOf_lst, itOf_fz, now_int, now_bl, now_non, now_str, now_tup, now_lst, isNon_non, isNon_int, isNon_tup, isNon_ref, isNon_lst, isNon_str, isNon_bl]
    refine ⟨J.map fun j => max j.1 j.2, by rw [List.map_map]; rfl, ?_⟩
    refine lc_mapE J eP (fun j => D.int (min j.1 j.2)) (fun _ _ => trivial) (small (by omega)) (fun j hj S'' e' N' M hN' => ?_) ?_
    · simp only [dSeq, dNext, dRet, dRetN, dIfS, dAsg, dAsgG, dDrop, dPar2, dPar3, dAug, dAugS, dFor, dOp, dVar, dC, dTest, dChain, dAnd, dOr, dNot, dAndV, dOrV, dNotV, dIf, dTup, dLst, dNil, dCons, dStar, dCB, dCall, dSl, dNoPart, dPart, dBM, dRev, dNeg, dIsi, dListRg, dTupRg, dRg1, dRg2, dLc, dIt, dEnum, dZip2, dZip3, dRng1, dRng2, dYes, gN, gT, gsNil, gsCons, gSb, oI, oI0, oAdd, oMulA, oSub, oFdiv, oMod, oPow, oLt, oLe, oGt, oGe, oEq, oNe, oIsN, oNotN, oIsB, oNotB, oIx, oSl, oLen, oSum, oAll, oAny, oAbs, o1I, o2I, oMin2, oMax2, oMin, oMax, oMinL, oMaxL, oInt, oBool, oList, oTuple, oSorted, oIn, oAddI, oGet, oSet, oAppend, oExtend, oPop, oPopAt, oIndexL, oIndexT, oInsert, oRemove, dTupX, dBMX, dLenSet, newL, startD, wipeD, D.tyN, List.map_cons, List.map_nil, List.cons_append, List.nil_append, List.length_cons, List.length_nil, List.getElem?_cons_zero, List.getElem?_cons_succ, List.set_cons_zero, List.set_cons_succ, List.replicate, Nat.sub_self, Nat.reduceSub, Nat.reduceAdd, Nat.zero_add, kb_ii, kb_ib, kb_it, kb_is, kb_bi, kb_bb, kb_bt, kb_bs, kb_tt, kb_ti, kb_ts, kb_ss, kb_si, kb_st, kb_nt, kb_ni, kb_ns, kb_lt, kb_li, kb_ls, ex_some, seq_tup, seq_tpx, itOf_tpx, seq_lst, seq_fz, list_lst, lsts_lst, lsts_fz, itOf_tup, itOf_lst, itOf_fz, now_int, now_bl, now_non, now_str, now_tup, now_lst, isNon_non, isNon_int, isNon_tup, isNon_ref, isNon_lst, isNon_str, isNon_bl, eP]
      refine ⟨ok_pair, fun m hm hmx => ?_⟩
      rw [min_pair hm hmx]
      exact hN'
    simp only [dSeq, dNext, dRet, dRetN, dIfS, dAsg, dAsgG, dDrop, dPar2, dPar3, dAug, dAugS, dFor, dOp, dVar, dC, dTest, dChain, dAnd, dOr, dNot, dAndV, dOrV, dNotV, dIf, dTup, dLst, dNil, dCons, dStar, dCB, dCall, dSl, dNoPart, dPart, dBM, dRev, dNeg, dIsi, dListRg, dTupRg, dRg1, dRg2, dLc, dIt, dEnum, dZip2, dZip3, dRng1, dRng2, dYes, gN, gT, gsNil, gsCons, gSb, oI, oI0, oAdd, oMulA, oSub, oFdiv, oMod, oPow, oLt, oLe, oGt, oGe, oEq, oNe, oIsN, oNotN, oIsB, oNotB, oIx, oSl, oLen, oSum, oAll, oAny, oAbs, o1I, o2I, oMin2, oMax2, oMin, oMax, oMinL, oMaxL, oInt, oBool, oList, oTuple, oSorted, oIn, oAddI, oGet, oSet, oAppend, oExtend, oPop, oPopAt, oIndexL, oIndexT, oInsert, oRemove, dTupX, dBMX, dLenSet, newL, startD, wipeD, D.tyN, List.map_cons, List.map_nil, List.cons_append, List.nil_append, List.length_cons, List.length_nil, List.getElem?_cons_zero, List.getElem?_cons_succ, List.set_cons_zero, List.set_cons_succ, List.replicate, Nat.sub_self, Nat.reduceSub, Nat.reduceAdd, Nat.zero_add, kb_ii, kb_ib, kb_it, kb_is, kb_bi, kb_bb, kb_bt, kb_bs, kb_tt, kb_ti, kb_ts, kb_ss, kb_si, kb_st, kb_nt, kb_ni, kb_ns, kb_lt, kb_li, kb_ls, ex_some, seq_tup, seq_tpx, itOf_tpx, seq_lst, seq_fz, list_lst, lsts_lst, lsts_fz, itOf_tup, itOf_lst, itOf_fz, now_int, now_bl, now_non, now_str, now_tup, now_lst, isNon_non, isNon_int, isNon_tup, isNon_ref, isNon_lst, isNon_str, isNon_bl]
    have emn : J.map (fun j => D.int (min j.1 j.2)) = (J.map fun j => min j.1 j.2).map D.int := by rw [List.map_map]; rfl
    rw [emn]
    refine ⟨⟨fun z => ?_, okn_ints, akin_ints⟩, fun mD hm1 hm2 => ?_⟩
    · have := congrArg List.length z
      rw [List.length_map, List.length_map, List.length_nil] at this
      omega
    obtain ⟨mm, hmm, rfl⟩ := mem_int hm1
    have hone := hm2 _ (List.mem_map.mpr ⟨_, mnw_mem w.lt, rfl⟩)
    rw [ltD_int] at hone
    have hone := of_decide_eq_false hone
    have hwis := w.is
    rw [great_sum] at hwis
    simp only []
    rw [decide_eq_false (Int.not_lt.mpr (Int.le_trans (Int.le_of_eq hwis) (Int.add_le_add_left (by omega) _)))]
    simp only []
    subst hv22
    refine seqG fun v23 hv23 => ?_
    simp only [dSeq, dNext, dRet, dRetN, dIfS, dAsg, dAsgG, dDrop, dPar2, dPar3, dAug, dAugS, dFor, dOp, dVar, dC, dTest, dChain, dAnd, dOr, dNot, dAndV, dOrV, dNotV, dIf, dTup, dLst, dNil, dCons, dStar, dCB, dCall, dSl, dNoPart, dPart, dBM, dRev, dNeg, dIsi, dListRg, dTupRg, dRg1, dRg2, dLc, dIt, dEnum, dZip2, dZip3, dRng1, dRng2, dYes, gN, gT, gsNil, gsCons, gSb, oI, oI0, oAdd, oMulA, oSub, oFdiv, oMod, oPow, oLt, oLe, oGt, oGe, oEq, oNe, oIsN, oNotN, oIsB, oNotB, oIx, oSl, oLen, oSum, oAll, oAny, oAbs, o1I, o2I, oMin2, oMax2, oMin, oMax, oMinL, oMaxL, oInt, oBool, oList, oTuple, oSorted, oIn, oAddI, oGet, oSet, oAppend, oExtend, oPop, oPopAt, oIndexL, oIndexT, oInsert, oRemove, dTupX, dBMX, dLenSet, newL, startD, wipeD, D.tyN, List.map_cons, List.map_nil, List.cons_append, List.nil_append, List.length_cons, List.length_nil, List.getElem?_cons_zero, List.getElem?_cons_succ, List.set_cons_zero, List.set_cons_succ, List.replicate, Nat.sub_self, Nat.reduceSub, Nat.reduceAdd, Nat.zero_add, kb_ii, kb_ib, kb_it, kb_is, kb_bi, kb_bb, kb_bt, kb_bs, kb_tt, kb_ti, kb_ts, kb_ss, kb_si, kb_st, kb_nt, kb_ni, kb_ns, kb_lt, kb_li, kb_ls, ex_some, seq_tup, seq_tpx, itOf_tpx, seq_lst, seq_fz, list_lst, lsts_lst, lsts_fz, itOf_tup, itOf_lst, itOf_fz, now_int, now_bl, now_non, now_str, now_tup, now_lst, isNon_non, isNon_int, isNon_tup, isNon_ref, isNon_lst, isNon_str, isNon_bl, a20]
    have he0 : 0 ≤ e := by omega
    obtain ⟨E, hE⟩ : ∃ E : Int, (if e - 1 > 0 then e - 1 else 0) = E := ⟨_, rfl⟩
    have hE1 : 0 ≤ E ∧ E ≤ 1000000 ∧ (0 < e → E < e) ∧ (¬ 0 < e → e ≤ E) := by subst hE; split <;> omega
    rw [hE]
    refine ⟨_, .same (.same .nil), J, E, rfl, g, hE1.1, hE1.2.1, fun m5 one5 w5 => ?_⟩
    have em5 := w5.uniq w
    rw [em5]
    have hwp5 := wo_perm w5.lt
    suffices key3 : ∀ d : D, (¬ 0 < e ∨ d = .tup [.str "late", eO (wo J one5), .int (one5 : Nat)]) → v23 { nx := N, rt := FzQ Q, bk := fun ρ' S' => v (DeN Q) ρ' S', ct := N }
      [some (D.ref p), some (D.int (0 + (x : Int))), some (D.int u), some (D.int (mn : Int)), some (D.tup (J.map eP)), o5, some (D.tpx (F.map nI)), o7, some (D.lst ((sm J F).map D.int)), some (D.int (en J F)), some (D.tup [D.int (best J), D.tup ((bs J).map nI)]), some (D.tup [D.int e, D.tup ((wo J one).map nI)]), some (D.tup ((ends J (0,0) F).map eP)), some (eI (bt J F)), o14, o15, o16, some (D.tup ((back J).map eP)), some (D.int t), some (D.tup ((far t J).map eP)), some (D.tup (Z.map eP)), o21', some d] Sk from
      ⟨fun hle => key3 _ (.inl fun z => by have := hE1.2.2.1 z; omega), fun _ => key3 _ (.inr rfl)⟩
    intro d hd
    subst hv23
    refine seqG fun v24 hv24 => ?_
    suffices key4 : v24 { nx := N, rt := FzQ Q, bk := fun ρ' S' => v (DeN Q) ρ' S', ct := N }
      [some (D.ref p), some (D.int (0 + (x : Int))), some (D.int u), some (D.int (mn : Int)), some (D.tup (J.map eP)), o5, some (D.tpx (F.map nI)), o7, some (D.lst ((sm J F).map D.int)), some (D.int (en J F)), some (D.tup [D.int (best J), D.tup ((bs J).map nI)]), some (D.tup [D.int e, D.tup ((wo J one).map nI)]), some (D.tup ((ends J (0,0) F).map eP)), some (eI (bt J F)), o14, o15, o16, some (D.tup ((back J).map eP)), some (D.int t), some (D.tup ((far t J).map eP)), some (D.tup (Z.map eP)), o21', some d] Sk by
      simp only [dSeq, dNext, dRet, dRetN, dIfS, dAsg, dAsgG, dDrop, dPar2, dPar3, dAug, dAugS, dFor, dOp, dVar, dC, dTest, dChain, dAnd, dOr, dNot, dAndV, dOrV, dNotV, dIf, dTup, dLst, dNil, dCons, dStar, dCB, dCall, dSl, dNoPart, dPart, dBM, dRev, dNeg, dIsi, dListRg, dTupRg, dRg1, dRg2, dLc, dIt, dEnum, dZip2, dZip3, dRng1, dRng2, dYes, gN, gT, gsNil, gsCons, gSb, oI, oI0, oAdd, oMulA, oSub, oFdiv, oMod, oPow, oLt, oLe, oGt, oGe, oEq, oNe, oIsN, oNotN, oIsB, oNotB, oIx, oSl, oLen, oSum, oAll, oAny, oAbs, o1I, o2I, oMin2, oMax2, oMin, oMax, oMinL, oMaxL, oInt, oBool, oList, oTuple, oSorted, oIn, oAddI, oGet, oSet, oAppend, oExtend, oPop, oPopAt, oIndexL, oIndexT, oInsert, oRemove, dTupX, dBMX, dLenSet, newL, startD, wipeD, D.tyN, List.map_cons, List.map_nil, List.cons_append, List.nil_append, List.length_cons, List.length_nil, List.getElem?_cons_zero, List.getElem?_cons_succ, List.set_cons_zero, List.set_cons_succ, List.replicate, Nat.sub_self, Nat.reduceSub, Nat.reduceAdd, Nat.zero_add, kb_ii, kb_ib, kb_it, kb_is, kb_bi, kb_bb, kb_bt, kb_bs, kb_tt, kb_ti, kb_ts, kb_ss, kb_si, kb_st, kb_nt, kb_ni, kb_ns, kb_lt, kb_li, kb_ls, ex_some, seq_tup, seq_tpx, itOf_tpx, seq_lst, seq_fz, list_lst, lsts_lst, lsts_fz, itOf_tup, itOf_lst, itOf_fz, now_int, now_bl, now_non, now_str, now_tup, now_lst, isNon_non, isNon_int, isNon_tup, isNon_ref, isNon_lst, isNon_str, isNon_bl, a20]
      by_cases h0 : 0 < e
      · rw [decide_eq_true h0]
        obtain rfl := hd.resolve_left fun z => z h0
        simp only [dSeq, dNext, dRet, dRetN, dIfS, dAsg, dAsgG, dDrop, dPar2, dPar3, dAug, dAugS, dFor, dOp, dVar, dC, dTest, dChain, dAnd, dOr, dNot, dAndV, dOrV, dNotV, dIf, dTup, dLst, dNil, dCons, dStar, dCB, dCall, dSl, dNoPart, dPart, dBM, dRev, dNeg, dIsi, dListRg, dTupRg, dRg1, dRg2, dLc, dIt, dEnum, dZip2, dZip3, dRng1, dRng2, dYes, gN, gT, gsNil, gsCons, gSb, oI, oI0, oAdd, oMulA, oSub, oFdiv, oMod, oPow, oLt, oLe, oGt, oGe, oEq, oNe, oIsN, oNotN, oIsB, oNotB, oIx, oSl, oLen, oSum, oAll, oAny, oAbs, o1I, o2I, oMin2, oMax2, oMin, oMax, oMinL, oMaxL, oInt, oBool, oList, oTuple, oSorted, oIn, oAddI, oGet, oSet, oAppend, oExtend, oPop, oPopAt, oIndexL, oIndexT, oInsert, oRemove, dTupX, dBMX, dLenSet, newL, startD, wipeD, D.tyN, List.map_cons, List.map_nil, List.cons_append, List.nil_append, List.length_cons, List.length_nil, List.getElem?_cons_zero, List.getElem?_cons_succ, List.set_cons_zero, List.set_cons_succ, List.replicate, Nat.sub_self, Nat.reduceSub, Nat.reduceAdd, Nat.zero_add, kb_ii, kb_ib, kb_it, kb_is, kb_bi, kb_bb, kb_bt, kb_bs, kb_tt, kb_ti, kb_ts, kb_ss, kb_si, kb_st, kb_nt, kb_ni, kb_ns, kb_lt, kb_li, kb_ls, ex_some, seq_tup, seq_tpx, itOf_tpx, seq_lst, seq_fz, list_lst, lsts_lst, lsts_fz, itOf_tup, itOf_lst, itOf_fz, now_int, now_bl, now_non, now_str, now_tup, now_lst, isNon_non, isNon_int, isNon_tup, isNon_ref, isNon_lst, isNon_str, isNon_bl, a30, a31]
        refine ⟨⟨okn_str (by decide +kernel), okn_str (by decide +kernel)⟩, ?_⟩
        rw [eqD_refl (n := 8) (okn_str (by decide +kernel))]
        simp only [Bool.not_true]
        refine ⟨_, .same (.same .nil), J, wo J one5, rfl, g, hwp5, ?_⟩
        simp only []
        rw [(w5.wo g).trans em5, decide_eq_false (by omega)]
        exact key4
      · rw [decide_eq_false h0]
        exact key4
    subst hv24
    refine seqG fun v25 hv25 => ?_
    simp only [dSeq, dNext, dRet, dRetN, dIfS, dAsg, dAsgG, dDrop, dPar2, dPar3, dAug, dAugS, dFor, dOp, dVar, dC, dTest, dChain, dAnd, dOr, dNot, dAndV, dOrV, dNotV, dIf, dTup, dLst, dNil, dCons, dStar, dCB, dCall, dSl, dNoPart, dPart, dBM, dRev, dNeg, dIsi, dListRg, dTupRg, dRg1, dRg2, dLc, dIt, dEnum, dZip2, dZip3, dRng1, dRng2, dYes, gN, gT, gsNil, gsCons, gSb, oI, oI0, oAdd, oMulA, oSub, oFdiv, oMod, oPow, oLt, oLe, oGt, oGe, oEq, oNe, oIsN, oNotN, oIsB, oNotB, oIx, oSl, oLen, oSum, oAll, oAny, oAbs, o1I, o2I, oMin2, oMax2, oMin, oMax, oMinL, oMaxL, oInt, oBool, oList, oTuple, oSorted, oIn, oAddI, oGet, oSet, oAppend, oExtend, oPop, oPopAt, oIndexL, oIndexT, oInsert, oRemove, dTupX, dBMX, dLenSet, newL, startD, wipeD, D.tyN, List.map_cons, List.map_nil, List.cons_append, List.nil_append, List.length_cons, List.length_nil, List.getElem?_cons_zero, List.getElem?_cons_succ, List.set_cons_zero, List.set_cons_succ, List.replicate, Nat.sub_self, Nat.reduceSub, Nat.reduceAdd, Nat.zero_add, kb_ii, kb_ib, kb_it, kb_is, kb_bi, kb_bb, kb_bt, kb_bs, kb_tt, kb_ti, kb_ts, kb_ss, kb_si, kb_st, kb_nt, kb_ni, kb_ns, kb_lt, kb_li, kb_ls, ex_some, seq_tup, seq_tpx, itOf_tpx, seq_lst, seq_fz, list_lst, lsts_lst, lsts_fz, itOf_tup, itOf_lst, itOf_fz, now_int, now_bl, now_non, now_str, now_tup, now_lst, isNon_non, isNon_int, isNon_tup, isNon_ref, isNon_lst, isNon_str, isNon_bl, a20]
    have oke : D.okn 8 (D.tup [D.str "every"]) = true := by rw [okn_tup, List.all_cons, okn_str (by decide +kernel)]; rfl
    refine ⟨_, .same (.same .nil), J, e, rfl, g, he0, by omega, fun m6 one6 w6 => ⟨fun _ => ?_, fun hlt => by have := w6.uniq w; omega⟩⟩
    simp only [dSeq, dNext, dRet, dRetN, dIfS, dAsg, dAsgG, dDrop, dPar2, dPar3, dAug, dAugS, dFor, dOp, dVar, dC, dTest, dChain, dAnd, dOr, dNot, dAndV, dOrV, dNotV, dIf, dTup, dLst, dNil, dCons, dStar, dCB, dCall, dSl, dNoPart, dPart, dBM, dRev, dNeg, dIsi, dListRg, dTupRg, dRg1, dRg2, dLc, dIt, dEnum, dZip2, dZip3, dRng1, dRng2, dYes, gN, gT, gsNil, gsCons, gSb, oI, oI0, oAdd, oMulA, oSub, oFdiv, oMod, oPow, oLt, oLe, oGt, oGe, oEq, oNe, oIsN, oNotN, oIsB, oNotB, oIx, oSl, oLen, oSum, oAll, oAny, oAbs, o1I, o2I, oMin2, oMax2, oMin, oMax, oMinL, oMaxL, oInt, oBool, oList, oTuple, oSorted, oIn, oAddI, oGet, oSet, oAppend, oExtend, oPop, oPopAt, oIndexL, oIndexT, oInsert, oRemove, dTupX, dBMX, dLenSet, newL, startD, wipeD, D.tyN, List.map_cons, List.map_nil, List.cons_append, List.nil_append, List.length_cons, List.length_nil, List.getElem?_cons_zero, List.getElem?_cons_succ, List.set_cons_zero, List.set_cons_succ, List.replicate, Nat.sub_self, Nat.reduceSub, Nat.reduceAdd, Nat.zero_add, kb_ii, kb_ib, kb_it, kb_is, kb_bi, kb_bb, kb_bt, kb_bs, kb_tt, kb_ti, kb_ts, kb_ss, kb_si, kb_st, kb_nt, kb_ni, kb_ns, kb_lt, kb_li, kb_ls, ex_some, seq_tup, seq_tpx, itOf_tpx, seq_lst, seq_fz, list_lst, lsts_lst, lsts_fz, itOf_tup, itOf_lst, itOf_fz, now_int, now_bl, now_non, now_str, now_tup, now_lst, isNon_non, isNon_int, isNon_tup, isNon_ref, isNon_lst, isNon_str, isNon_bl]
    refine ⟨small (by decide), ⟨oke, oke⟩, ?_⟩
    rw [eqD_refl oke]
    simp only [Bool.not_true]
    subst hv25
    simp only [dSeq, dNext, dRet, dRetN, dIfS, dAsg, dAsgG, dDrop, dPar2, dPar3, dAug, dAugS, dFor, dOp, dVar, dC, dTest, dChain, dAnd, dOr, dNot, dAndV, dOrV, dNotV, dIf, dTup, dLst, dNil, dCons, dStar, dCB, dCall, dSl, dNoPart, dPart, dBM, dRev, dNeg, dIsi, dListRg, dTupRg, dRg1, dRg2, dLc, dIt, dEnum, dZip2, dZip3, dRng1, dRng2, dYes, gN, gT, gsNil, gsCons, gSb, oI, oI0, oAdd, oMulA, oSub, oFdiv, oMod, oPow, oLt, oLe, oGt, oGe, oEq, oNe, oIsN, oNotN, oIsB, oNotB, oIx, oSl, oLen, oSum, oAll, oAny, oAbs, o1I, o2I, oMin2, oMax2, oMin, oMax, oMinL, oMaxL, oInt, oBool, oList, oTuple, oSorted, oIn, oAddI, oGet, oSet, oAppend, oExtend, oPop, oPopAt, oIndexL, oIndexT, oInsert, oRemove, dTupX, dBMX, dLenSet, newL, startD, wipeD, D.tyN, List.map_cons, List.map_nil, List.cons_append, List.nil_append, List.length_cons, List.length_nil, List.getElem?_cons_zero, List.getElem?_cons_succ, List.set_cons_zero, List.set_cons_succ, List.replicate, Nat.sub_self, Nat.reduceSub, Nat.reduceAdd, Nat.zero_add, kb_ii, kb_ib, kb_it, kb_is, kb_bi, kb_bb, kb_bt, kb_bs, kb_tt, kb_ti, kb_ts, kb_ss, kb_si, kb_st, kb_nt, kb_ni, kb_ns, kb_lt, kb_li, kb_ls, ex_some, seq_tup, seq_tpx, itOf_tpx, seq_lst, seq_fz, list_lst, lsts_lst, lsts_fz, itOf_tup, itOf_lst, itOf_fz, now_int, now_bl, now_non, now_str, now_tup, now_lst, isNon_non, isNon_int, isNon_tup, isNon_ref, isNon_lst, isNon_str, isNon_bl]
    obtain ⟨hjl, hcr⟩ := sm_at hj0.1
    have hat : atI (F.map nI) ((j2 : Nat) : Int) = some (nI F[j2]) := by
      rw [atI_map, atI_nn 0 (by omega) (by omega), Int.toNat_natCast, List.getD_eq_getElem?_getD, List.getElem?_eq_getElem hjl]; rfl
    refine ⟨⟨_, rfl⟩, sm J F, j2, rfl, hj0, ?_⟩
    simp only [hat]
    obtain ⟨E2, hE2⟩ : ∃ E : Int, (if en J F - 1 > 0 then en J F - 1 else 0) = E := ⟨_, rfl⟩
    have hE3 : 0 ≤ E2 ∧ E2 ≤ 1000000 ∧ (en J F > E2 ↔ 0 < en J F) := by subst hE2; split <;> omega
    rw [hE2]
    refine ⟨small (by decide), _, .same (.same (.same .nil)), J, E2, F, j2, F[j2], rfl, g, hE3.1, hE3.2.1, hF, List.getElem?_eq_getElem hjl, ?_⟩
    rw [hcr]
    simp only [dSeq, dNext, dRet, dRetN, dIfS, dAsg, dAsgG, dDrop, dPar2, dPar3, dAug, dAugS, dFor, dOp, dVar, dC, dTest, dChain, dAnd, dOr, dNot, dAndV, dOrV, dNotV, dIf, dTup, dLst, dNil, dCons, dStar, dCB, dCall, dSl, dNoPart, dPart, dBM, dRev, dNeg, dIsi, dListRg, dTupRg, dRg1, dRg2, dLc, dIt, dEnum, dZip2, dZip3, dRng1, dRng2, dYes, gN, gT, gsNil, gsCons, gSb, oI, oI0, oAdd, oMulA, oSub, oFdiv, oMod, oPow, oLt, oLe, oGt, oGe, oEq, oNe, oIsN, oNotN, oIsB, oNotB, oIx, oSl, oLen, oSum, oAll, oAny, oAbs, o1I, o2I, oMin2, oMax2, oMin, oMax, oMinL, oMaxL, oInt, oBool, oList, oTuple, oSorted, oIn, oAddI, oGet, oSet, oAppend, oExtend, oPop, oPopAt, oIndexL, oIndexT, oInsert, oRemove, dTupX, dBMX, dLenSet, newL, startD, wipeD, D.tyN, List.map_cons, List.map_nil, List.cons_append, List.nil_append, List.length_cons, List.length_nil, List.getElem?_cons_zero, List.getElem?_cons_succ, List.set_cons_zero, List.set_cons_succ, List.replicate, Nat.sub_self, Nat.reduceSub, Nat.reduceAdd, Nat.zero_add, kb_ii, kb_ib, kb_it, kb_is, kb_bi, kb_bb, kb_bt, kb_bs, kb_tt, kb_ti, kb_ts, kb_ss, kb_si, kb_st, kb_nt, kb_ni, kb_ns, kb_lt, kb_li, kb_ls, ex_some, seq_tup, seq_tpx, itOf_tpx, seq_lst, seq_fz, list_lst, lsts_lst, lsts_fz, itOf_tup, itOf_lst, itOf_fz, now_int, now_bl, now_non, now_str, now_tup, now_lst, isNon_non, isNon_int, isNon_tup, isNon_ref, isNon_lst, isNon_str, isNon_bl]
    have okb : ∀ b : Bool, D.okn 8 (.bl b) = true := fun b => rfl
    rw [show decide (en J F > E2) = decide (0 < en J F) from decide_eq_decide.mpr hE3.2.2]
    refine ⟨⟨okb _, okb _⟩, ?_⟩
    rw [eqD_refl (okb _)]
    simp only [Bool.not_true]
    exact hN _ _ trivial ⟨_, _, _, _, _, _, _, _, _, _, _, _, _, _, _, _, _, _, _, _, _, _, ok, rfl, hSk, hpk.mono (by omega), hfk, by omega⟩
  · rintro ρ S ⟨o1, o2, o3, o4, o5, o6, o7, o8, o9, o10, o11, o12, o13, o14, o15, o16, o17, o18, o19, o20, o21, o22, o, rfl, hS, hp, hfr, hxl⟩
    subst hv
    simp only [dSeq, dNext, dRet, dRetN, dIfS, dAsg, dAsgG, dDrop, dPar2, dPar3, dAug, dAugS, dFor, dOp, dVar, dC, dTest, dChain, dAnd, dOr, dNot, dAndV, dOrV, dNotV, dIf, dTup, dLst, dNil, dCons, dStar, dCB, dCall, dSl, dNoPart, dPart, dBM, dRev, dNeg, dIsi, dListRg, dTupRg, dRg1, dRg2, dLc, dIt, dEnum, dZip2, dZip3, dRng1, dRng2, dYes, gN, gT, gsNil, gsCons, gSb, oI, oI0, oAdd, oMulA, oSub, oFdiv, oMod, oPow, oLt, oLe, oGt, oGe, oEq, oNe, oIsN, oNotN, oIsB, oNotB, oIx, oSl, oLen, oSum, oAll, oAny, oAbs, o1I, o2I, oMin2, oMax2, oMin, oMax, oMinL, oMaxL, oInt, oBool, oList, oTuple, oSorted, oIn, oAddI, oGet, oSet, oAppend, oExtend, oPop, oPopAt, oIndexL, oIndexT, oInsert, oRemove, dTupX, dBMX, dLenSet, newL, startD, wipeD, D.tyN, List.map_cons, List.map_nil, List.cons_append, List.nil_append, List.length_cons, List.length_nil, List.getElem?_cons_zero, List.getElem?_cons_succ, List.set_cons_zero, List.set_cons_succ, List.replicate, Nat.sub_self, Nat.reduceSub, Nat.reduceAdd, Nat.zero_add, kb_ii, kb_ib, kb_it, kb_is, kb_bi, kb_bb, kb_bt, kb_bs, kb_tt, kb_ti, kb_ts, kb_ss, kb_si, kb_st, kb_nt, kb_ni, kb_ns, kb_lt, kb_li, kb_ls, ex_some, seq_tup, seq_tpx, itOf_tpx, seq_lst, seq_fz, list_lst, lsts_lst, lsts_fz, itOf_tup, itOf_lst, itOf_fz, now_int, now_bl, now_non, now_str, now_tup, now_lst, isNon_non, isNon_int, isNon_tup, isNon_ref, isNon_lst, isNon_str, isNon_bl]
    refine FzQ.ext (S := S0.up p o) (fun a u h => ?_) (q o)
    by_cases e : a = p
    · subst e; rw [Sto.up_same] at h; rw [hS]; exact h
    · rw [Sto.up_ne e] at h; exact hfr a u e h
def sp_law : DSp := fun ds S Q => ∃ ns : List Int, ds = [.fz (ns.map .int)] ∧ ns.length ≤ 63 ∧ ∀ S', Q (.bl true) S'
theorem pure_law : ∀ ds S Q, sp_law ds S Q → t_law sp__law_cells sp__law_right sp__law_pot (DeN Q) (startD N_law ds) S := by
  rintro ds S Q ⟨ns, rfl, hl, q⟩
  simp only [t_law, dSeq, dNext, dRet, dRetN, dIfS, dAsg, dAsgG, dDrop, dPar2, dPar3, dAug, dAugS, dFor, dOp, dVar, dC, dTest, dChain, dAnd, dOr, dNot, dAndV, dOrV, dNotV, dIf, dTup, dLst, dNil, dCons, dStar, dCB, dCall, dSl, dNoPart, dPart, dBM, dRev, dNeg, dIsi, dListRg, dTupRg, dRg1, dRg2, dLc, dIt, dEnum, dZip2, dZip3, dRng1, dRng2, dYes, gN, gT, gsNil, gsCons, gSb, oI, oI0, oAdd, oMulA, oSub, oFdiv, oMod, oPow, oLt, oLe, oGt, oGe, oEq, oNe, oIsN, oNotN, oIsB, oNotB, oIx, oSl, oLen, oSum, oAll, oAny, oAbs, o1I, o2I, oMin2, oMax2, oMin, oMax, oMinL, oMaxL, oInt, oBool, oList, oTuple, oSorted, oIn, oAddI, oGet, oSet, oAppend, oExtend, oPop, oPopAt, oIndexL, oIndexT, oInsert, oRemove, dTupX, dBMX, dLenSet, newL, startD, wipeD, D.tyN, List.map_cons, List.map_nil, List.cons_append, List.nil_append, List.length_cons, List.length_nil, List.getElem?_cons_zero, List.getElem?_cons_succ, List.set_cons_zero, List.set_cons_succ, List.replicate, Nat.sub_self, Nat.reduceSub, Nat.reduceAdd, Nat.zero_add, kb_ii, kb_ib, kb_it, kb_is, kb_bi, kb_bb, kb_bt, kb_bs, kb_tt, kb_ti, kb_ts, kb_ss, kb_si, kb_st, kb_nt, kb_ni, kb_ns, kb_lt, kb_li, kb_ls, ex_some, seq_tup, seq_tpx, itOf_tpx, seq_lst, seq_fz, list_lst, lsts_lst, lsts_fz, itOf_tup, itOf_lst, itOf_fz, now_int, now_bl, now_non, now_str, now_tup, now_lst, isNon_non, isNon_int, isNon_tup, isNon_ref, isNon_lst, isNon_str, isNon_bl]
  refine ⟨ns, rfl, by omega, fun n hn => ?_⟩
  simp only [dSeq, dNext, dRet, dRetN, dIfS, dAsg, dAsgG, dDrop, dPar2, dPar3, dAug, dAugS, dFor, dOp, dVar, dC, dTest, dChain, dAnd, dOr, dNot, dAndV, dOrV, dNotV, dIf, dTup, dLst, dNil, dCons, dStar, dCB, dCall, dSl, dNoPart, dPart, dBM, dRev, dNeg, dIsi, dListRg, dTupRg, dRg1, dRg2, dLc, dIt, dEnum, dZip2, dZip3, dRng1, dRng2, dYes, gN, gT, gsNil, gsCons, gSb, oI, oI0, oAdd, oMulA, oSub, oFdiv, oMod, oPow, oLt, oLe, oGt, oGe, oEq, oNe, oIsN, oNotN, oIsB, oNotB, oIx, oSl, oLen, oSum, oAll, oAny, oAbs, o1I, o2I, oMin2, oMax2, oMin, oMax, oMinL, oMaxL, oInt, oBool, oList, oTuple, oSorted, oIn, oAddI, oGet, oSet, oAppend, oExtend, oPop, oPopAt, oIndexL, oIndexT, oInsert, oRemove, dTupX, dBMX, dLenSet, newL, startD, wipeD, D.tyN, List.map_cons, List.map_nil, List.cons_append, List.nil_append, List.length_cons, List.length_nil, List.getElem?_cons_zero, List.getElem?_cons_succ, List.set_cons_zero, List.set_cons_succ, List.replicate, Nat.sub_self, Nat.reduceSub, Nat.reduceAdd, Nat.zero_add, kb_ii, kb_ib, kb_it, kb_is, kb_bi, kb_bb, kb_bt, kb_bs, kb_tt, kb_ti, kb_ts, kb_ss, kb_si, kb_st, kb_nt, kb_ni, kb_ns, kb_lt, kb_li, kb_ls, ex_some, seq_tup, seq_tpx, itOf_tpx, seq_lst, seq_fz, list_lst, lsts_lst, lsts_fz, itOf_tup, itOf_lst, itOf_fz, now_int, now_bl, now_non, now_str, now_tup, now_lst, isNon_non, isNon_int, isNon_tup, isNon_ref, isNon_lst, isNon_str, isNon_bl]
  have inv := lc_run (r := false) (ρ0 := [some (.fz (ns.map D.int)), none]) (γ := gN 1) (t := dYes) (el := dCall sp__law_right (dCons (dCall sp__law_pot (dCons (dVar 0) (dCons (dVar 1) dNil))) dNil)) (it := ⟨(List.range n).map fun (i : Nat) => D.int ((0 : Int) + (i : Nat)), fun _ => True⟩) (S := S)
    (Q := fun x S1 => oAll [x] S1 (FzQ Q)) (fun xs acc S' => ∃ k i, acc = (List.replicate k true).map D.bl ∧ k + xs.length = n ∧ xs = ((List.range n).drop i).map fun (i : Nat) => D.int ((0 : Int) + (i : Nat)))
    (fun _ => trivial) (small (by simp; omega)) (fun Dl hD => ⟨0, 0, rfl, by simp, rfl⟩) ?_ ?_ ?_
  · simp only [dSeq, dNext, dRet, dRetN, dIfS, dAsg, dAsgG, dDrop, dPar2, dPar3, dAug, dAugS, dFor, dOp, dVar, dC, dTest, dChain, dAnd, dOr, dNot, dAndV, dOrV, dNotV, dIf, dTup, dLst, dNil, dCons, dStar, dCB, dCall, dSl, dNoPart, dPart, dBM, dRev, dNeg, dIsi, dListRg, dTupRg, dRg1, dRg2, dLc, dIt, dEnum, dZip2, dZip3, dRng1, dRng2, dYes, gN, gT, gsNil, gsCons, gSb, oI, oI0, oAdd, oMulA, oSub, oFdiv, oMod, oPow, oLt, oLe, oGt, oGe, oEq, oNe, oIsN, oNotN, oIsB, oNotB, oIx, oSl, oLen, oSum, oAll, oAny, oAbs, o1I, o2I, oMin2, oMax2, oMin, oMax, oMinL, oMaxL, oInt, oBool, oList, oTuple, oSorted, oIn, oAddI, oGet, oSet, oAppend, oExtend, oPop, oPopAt, oIndexL, oIndexT, oInsert, oRemove, dTupX, dBMX, dLenSet, newL, startD, wipeD, D.tyN, List.map_cons, List.map_nil, List.cons_append, List.nil_append, List.length_cons, List.length_nil, List.getElem?_cons_zero, List.getElem?_cons_succ, List.set_cons_zero, List.set_cons_succ, List.replicate, Nat.sub_self, Nat.reduceSub, Nat.reduceAdd, Nat.zero_add, kb_ii, kb_ib, kb_it, kb_is, kb_bi, kb_bb, kb_bt, kb_bs, kb_tt, kb_ti, kb_ts, kb_ss, kb_si, kb_st, kb_nt, kb_ni, kb_ns, kb_lt, kb_li, kb_ls, ex_some, seq_tup, seq_tpx, itOf_tpx, seq_lst, seq_fz, list_lst, lsts_lst, lsts_fz, itOf_tup, itOf_lst, itOf_fz, now_int, now_bl, now_non, now_str, now_tup, now_lst, isNon_non, isNon_int, isNon_tup, isNon_ref, isNon_lst, isNon_str, isNon_bl] at inv
    exact inv
  · rintro x xs acc S' _ ⟨k, i, rfl, hk, hx⟩ Dl hD hDl N M hN
    cases hd : (List.range n).drop i with
    | nil => rw [hd] at hx; cases hx
    | cons a re =>
      obtain ⟨hi, ea, er⟩ := drop_at hd.symm
      rw [List.getElem_range] at ea
      subst ea
      rw [List.length_range] at hi
      rw [hd, List.map_cons] at hx
      obtain ⟨rfl, rfl⟩ := List.cons.inj hx
      rw [List.length_cons] at hk
      simp only [dSeq, dNext, dRet, dRetN, dIfS, dAsg, dAsgG, dDrop, dPar2, dPar3, dAug, dAugS, dFor, dOp, dVar, dC, dTest, dChain, dAnd, dOr, dNot, dAndV, dOrV, dNotV, dIf, dTup, dLst, dNil, dCons, dStar, dCB, dCall, dSl, dNoPart, dPart, dBM, dRev, dNeg, dIsi, dListRg, dTupRg, dRg1, dRg2, dLc, dIt, dEnum, dZip2, dZip3, dRng1, dRng2, dYes, gN, gT, gsNil, gsCons, gSb, oI, oI0, oAdd, oMulA, oSub, oFdiv, oMod, oPow, oLt, oLe, oGt, oGe, oEq, oNe, oIsN, oNotN, oIsB, oNotB, oIx, oSl, oLen, oSum, oAll, oAny, oAbs, o1I, o2I, oMin2, oMax2, oMin, oMax, oMinL, oMaxL, oInt, oBool, oList, oTuple, oSorted, oIn, oAddI, oGet, oSet, oAppend, oExtend, oPop, oPopAt, oIndexL, oIndexT, oInsert, oRemove, dTupX, dBMX, dLenSet, newL, startD, wipeD, D.tyN, List.map_cons, List.map_nil, List.cons_append, List.nil_append, List.length_cons, List.length_nil, List.getElem?_cons_zero, List.getElem?_cons_succ, List.set_cons_zero, List.set_cons_succ, List.replicate, Nat.sub_self, Nat.reduceSub, Nat.reduceAdd, Nat.zero_add, kb_ii, kb_ib, kb_it, kb_is, kb_bi, kb_bb, kb_bt, kb_bs, kb_tt, kb_ti, kb_ts, kb_ss, kb_si, kb_st, kb_nt, kb_ni, kb_ns, kb_lt, kb_li, kb_ls, ex_some, seq_tup, seq_tpx, itOf_tpx, seq_lst, seq_fz, list_lst, lsts_lst, lsts_fz, itOf_tup, itOf_lst, itOf_fz, now_int, now_bl, now_non, now_str, now_tup, now_lst, isNon_non, isNon_int, isNon_tup, isNon_ref, isNon_lst, isNon_str, isNon_bl, Int.zero_add]
      refine ⟨ns, a, rfl, by omega, fun p o hp ho => ?_⟩
      have hDp : Dl ≠ p := ne_of_in hDl hp
      refine ⟨p, o, rfl, Sto.up_same, ho, fun o' => ?_⟩
      refine hN _ _ (by rw [Sto.up_ne hDp, Sto.up_ne hDp]; exact hDl) (by rw [List.length_map, List.length_replicate, sizeLine_eq]; omega) ⟨k + 1, a + 1, ?_, by omega, by rw [er]⟩
      rw [List.replicate_succ', List.map_append]; rfl
  · rintro x xs acc S' ⟨k, i, rfl, hk, hx⟩
    simp
    rw [List.length_cons] at hk
    omega
  · rintro Dl acc S' hD ⟨k, i, rfl, hk, hx⟩ hDl
    show oAll [.lst _] _ _
    simp only [dSeq, dNext, dRet, dRetN, dIfS, dAsg, dAsgG, dDrop, dPar2, dPar3, dAug, dAugS, dFor, dOp, dVar, dC, dTest, dChain, dAnd, dOr, dNot, dAndV, dOrV, dNotV, dIf, dTup, dLst, dNil, dCons, dStar, dCB, dCall, dSl, dNoPart, dPart, dBM, dRev, dNeg, dIsi, dListRg, dTupRg, dRg1, dRg2, dLc, dIt, dEnum, dZip2, dZip3, dRng1, dRng2, dYes, gN, gT, gsNil, gsCons, gSb, oI, oI0, oAdd, oMulA, oSub, oFdiv, oMod, oPow, oLt, oLe, oGt, oGe, oEq, oNe, oIsN, oNotN, oIsB, oNotB, oIx, oSl, oLen, oSum, oAll, oAny, oAbs, o1I, o2I, oMin2, oMax2, oMin, oMax, oMinL, oMaxL, oInt, oBool, oList, oTuple, oSorted, oIn, oAddI, oGet, oSet, oAppend, oExtend, oPop, oPopAt, oIndexL, oIndexT, oInsert, oRemove, dTupX, dBMX, dLenSet, newL, startD, wipeD, D.tyN, List.map_cons, List.map_nil, List.cons_append, List.nil_append, List.length_cons, List.length_nil, List.getElem?_cons_zero, List.getElem?_cons_succ, List.set_cons_zero, List.set_cons_succ, List.replicate, Nat.sub_self, Nat.reduceSub, Nat.reduceAdd, Nat.zero_add, kb_ii, kb_ib, kb_it, kb_is, kb_bi, kb_bb, kb_bt, kb_bs, kb_tt, kb_ti, kb_ts, kb_ss, kb_si, kb_st, kb_nt, kb_ni, kb_ns, kb_lt, kb_li, kb_ls, ex_some, seq_tup, seq_tpx, itOf_tpx, seq_lst, seq_fz, list_lst, lsts_lst, lsts_fz, itOf_tup, itOf_lst, itOf_fz, now_int, now_bl, now_non, now_str, now_tup, now_lst, isNon_non, isNon_int, isNon_tup, isNon_ref, isNon_lst, isNon_str, isNon_bl]
    refine ⟨List.replicate k true, rfl, .here ?_⟩
    have : (List.replicate k true).all id = true := by simp
    rw [this]
    exact q _
end L73
set_option maxHeartbeats 0
namespace L73
open PySem PySem.Spec PyProof.Rows L2 PL
def top (i : Nat) : Stmt := PySem.Challenge.pw_nobodywaitsbeyond_k73_whole_two_checks_c.main.body.getD i (.Pass ⟨0, 0, 0, 0⟩)
abbrev s_is_int : Stmt := top 6
abbrev s_are_ints : Stmt := top 7
abbrev s_is_told : Stmt := top 8
abbrev s_is_order : Stmt := top 9
abbrev s_look_at_jobs : Stmt := top 17
abbrev s_look_at_sequence_of : Stmt := top 18
abbrev s_told_ends : Stmt := top 19
abbrev s_ends_of : Stmt := top 20
abbrev s_end_of : Stmt := top 21
abbrev s_between_of : Stmt := top 22
abbrev s_critical_of : Stmt := top 23
abbrev s_told_best : Stmt := top 24
abbrev s_best_sequence : Stmt := top 25
abbrev s_shows_best_sequence : Stmt := top 26
abbrev s_told_worst : Stmt := top 27
abbrev s_told_worst_order : Stmt := top 28
abbrev s_worst_sequence : Stmt := top 29
abbrev s_shows_worst_sequence : Stmt := top 30
abbrev s_look_at_end : Stmt := top 31
abbrev s_always_done : Stmt := top 32
abbrev s_shows_always_done : Stmt := top 33
abbrev s__law_pot : Stmt := top 35
abbrev s__law_take : Stmt := top 36
abbrev s__law_of : Stmt := top 37
abbrev s__law_cells : Stmt := top 38
abbrev s__law_some : Stmt := top 39
abbrev s__law_sums : Stmt := top 40
abbrev s__law_right : Stmt := top 41
abbrev s_law : Stmt := top 42
def mkD (x : Str) (st : Stmt) : He.DefD := ⟨(x, none), x, x, defArgs st, defBody st, defScope st, [], []⟩
def fn0 : List He.DefD := [mkD "is_int" s_is_int, mkD "are_ints" s_are_ints, mkD "is_told" s_is_told, mkD "is_order" s_is_order, mkD "look_at_jobs" s_look_at_jobs, mkD "look_at_sequence_of" s_look_at_sequence_of, mkD "told_ends" s_told_ends, mkD "ends_of" s_ends_of, mkD "end_of" s_end_of, mkD "between_of" s_between_of, mkD "critical_of" s_critical_of, mkD "told_best" s_told_best, mkD "best_sequence" s_best_sequence, mkD "shows_best_sequence" s_shows_best_sequence, mkD "told_worst" s_told_worst, mkD "told_worst_order" s_told_worst_order, mkD "worst_sequence" s_worst_sequence, mkD "shows_worst_sequence" s_shows_worst_sequence, mkD "look_at_end" s_look_at_end, mkD "always_done" s_always_done, mkD "shows_always_done" s_shows_always_done, mkD "_law_pot" s__law_pot, mkD "_law_take" s__law_take, mkD "_law_of" s__law_of, mkD "_law_cells" s__law_cells, mkD "_law_some" s__law_some, mkD "_law_sums" s__law_sums, mkD "_law_right" s__law_right, mkD "law" s_law]
def fn : List He.DefD := fn0
def fa0 : List He.Fa := [.glo "is_int", .glo "are_ints", .glo "is_told", .glo "is_order", .glo "look_at_jobs", .glo "look_at_sequence_of", .glo "told_ends", .glo "ends_of", .glo "end_of", .glo "between_of", .glo "critical_of", .glo "told_best", .glo "best_sequence", .glo "shows_best_sequence", .glo "told_worst", .glo "told_worst_order", .glo "worst_sequence", .glo "shows_worst_sequence", .glo "look_at_end", .glo "always_done", .glo "shows_always_done", .glo "_law_pot", .glo "_law_take", .glo "_law_of", .glo "_law_cells", .glo "_law_some", .glo "_law_sums", .glo "_law_right", .glo "law", .free "abs"]
def fa1 : List He.Fa := [.free "all", .free "any", .free "bool", .free "enumerate", .free "int", .free "isinstance", .free "len", .free "list", .free "max", .free "min", .free "range", .free "set", .free "sorted", .free "str", .free "sum", .free "tuple", .free "zip", .int "MOST_JOBS" 60, .int "MOST_LONG" 10000, .int "MOST_END" 1000000, .int "THREE" 3, .str "EVERY" "every", .str "LATE" "late"]
def fa : List He.Fa := fa0 ++ fa1
def lo0 : List Str := ["BorderError", "BadInt", "BadPlan", "BadNumbers", "is_int", "are_ints", "is_told", "is_order", "MOST_JOBS", "MOST_LONG", "MOST_END", "THREE", "EVERY", "LATE", "look_at_jobs", "look_at_sequence_of", "told_ends", "ends_of", "end_of", "between_of", "critical_of", "told_best", "best_sequence", "shows_best_sequence", "told_worst", "told_worst_order", "worst_sequence", "shows_worst_sequence", "look_at_end", "always_done"]
def lo1 : List Str := ["shows_always_done", "_law_pot", "_law_take", "_law_of", "_law_cells", "_law_some", "_law_sums", "_law_right"]
def loose : List Str := lo0 ++ lo1
abbrev R : PySem.W.OpenRow := PySem.W.OpenLaw.row PySem.Challenge.rw_nobodywaitsbeyond_k73_whole_two_checks_c
abbrev hk : PySem.W.Hook := He.hookD 4 fa fn
def ob (s : PySem.W.SharedT) : He.AlD := He.obsDG 4 fa fn (HandSHeadRun.getT s)
theorem ob_eq (s : PySem.W.SharedT) : ob s = hk.obs s.abs := He.obsDG_eq (HandSHeadRun.getT_eq s)
theorem run (w : World) : HandSHeadRun.RunEq R (PySem.W.view R.prog [42]) hk ob 3000 loose w := by
  intro os
  kernel_rfl

theorem len_is_int : ∀ ds S Q, sp_is_int ds S Q → ds.length = 3 := by
  intro ds S Q h
  unfold sp_is_int at h
  repeat (obtain ⟨_, h⟩ := h)
  subst_vars
  rfl
theorem len_are_ints : ∀ ds S Q, sp_are_ints ds S Q → ds.length = 3 := by
  intro ds S Q h
  unfold sp_are_ints at h
  repeat (obtain ⟨_, h⟩ := h)
  subst_vars
  rfl
theorem len_is_told : ∀ ds S Q, sp_is_told ds S Q → ds.length = 2 := by
  intro ds S Q h
  unfold sp_is_told at h
  repeat (obtain ⟨_, h⟩ := h)
  subst_vars
  rfl
theorem len_is_order : ∀ ds S Q, sp_is_order ds S Q → ds.length = 2 := by
  intro ds S Q h
  unfold sp_is_order at h
  repeat (obtain ⟨_, h⟩ := h)
  subst_vars
  rfl
theorem len_look_at_jobs : ∀ ds S Q, sp_look_at_jobs ds S Q → ds.length = 1 := by
  intro ds S Q h
  unfold sp_look_at_jobs at h
  repeat (obtain ⟨_, h⟩ := h)
  subst_vars
  rfl
theorem len_look_at_sequence_of : ∀ ds S Q, sp_look_at_sequence_of ds S Q → ds.length = 2 := by
  intro ds S Q h
  unfold sp_look_at_sequence_of at h
  repeat (obtain ⟨_, h⟩ := h)
  subst_vars
  rfl
theorem len_told_ends : ∀ ds S Q, sp_told_ends ds S Q → ds.length = 2 := by
  intro ds S Q h
  unfold sp_told_ends at h
  repeat (obtain ⟨_, h⟩ := h)
  subst_vars
  rfl
theorem len_ends_of : ∀ ds S Q, sp_ends_of ds S Q → ds.length = 2 := by
  intro ds S Q h
  unfold sp_ends_of at h
  repeat (obtain ⟨_, h⟩ := h)
  subst_vars
  rfl
theorem len_end_of : ∀ ds S Q, sp_end_of ds S Q → ds.length = 2 := by
  intro ds S Q h
  unfold sp_end_of at h
  repeat (obtain ⟨_, h⟩ := h)
  subst_vars
  rfl
theorem len_between_of : ∀ ds S Q, sp_between_of ds S Q → ds.length = 2 := by
  intro ds S Q h
  unfold sp_between_of at h
  repeat (obtain ⟨_, h⟩ := h)
  subst_vars
  rfl
theorem len_critical_of : ∀ ds S Q, sp_critical_of ds S Q → ds.length = 2 := by
  intro ds S Q h
  unfold sp_critical_of at h
  repeat (obtain ⟨_, h⟩ := h)
  subst_vars
  rfl
theorem len_told_best : ∀ ds S Q, sp_told_best ds S Q → ds.length = 1 := by
  intro ds S Q h
  unfold sp_told_best at h
  repeat (obtain ⟨_, h⟩ := h)
  subst_vars
  rfl
theorem len_best_sequence : ∀ ds S Q, sp_best_sequence ds S Q → ds.length = 1 := by
  intro ds S Q h
  unfold sp_best_sequence at h
  repeat (obtain ⟨_, h⟩ := h)
  subst_vars
  rfl
theorem len_shows_best_sequence : ∀ ds S Q, sp_shows_best_sequence ds S Q → ds.length = 2 := by
  intro ds S Q h
  unfold sp_shows_best_sequence at h
  repeat (obtain ⟨_, h⟩ := h)
  subst_vars
  rfl
theorem len_told_worst : ∀ ds S Q, sp_told_worst ds S Q → ds.length = 1 := by
  intro ds S Q h
  unfold sp_told_worst at h
  repeat (obtain ⟨_, h⟩ := h)
  subst_vars
  rfl
theorem len_told_worst_order : ∀ ds S Q, sp_told_worst_order ds S Q → ds.length = 2 := by
  intro ds S Q h
  unfold sp_told_worst_order at h
  repeat (obtain ⟨_, h⟩ := h)
  subst_vars
  rfl
theorem len_worst_sequence : ∀ ds S Q, sp_worst_sequence ds S Q → ds.length = 1 := by
  intro ds S Q h
  unfold sp_worst_sequence at h
  repeat (obtain ⟨_, h⟩ := h)
  subst_vars
  rfl
theorem len_shows_worst_sequence : ∀ ds S Q, sp_shows_worst_sequence ds S Q → ds.length = 2 := by
  intro ds S Q h
  unfold sp_shows_worst_sequence at h
  repeat (obtain ⟨_, h⟩ := h)
  subst_vars
  rfl
theorem len_look_at_end : ∀ ds S Q, sp_look_at_end ds S Q → ds.length = 2 := by
  intro ds S Q h
  unfold sp_look_at_end at h
  repeat (obtain ⟨_, h⟩ := h)
  subst_vars
  rfl
theorem len_always_done : ∀ ds S Q, sp_always_done ds S Q → ds.length = 2 := by
  intro ds S Q h
  unfold sp_always_done at h
  repeat (obtain ⟨_, h⟩ := h)
  subst_vars
  rfl
theorem len_shows_always_done : ∀ ds S Q, sp_shows_always_done ds S Q → ds.length = 3 := by
  intro ds S Q h
  unfold sp_shows_always_done at h
  repeat (obtain ⟨_, h⟩ := h)
  subst_vars
  rfl
theorem len__law_pot : ∀ ds S Q, sp__law_pot ds S Q → ds.length = 2 := by
  intro ds S Q h
  unfold sp__law_pot at h
  repeat (obtain ⟨_, h⟩ := h)
  subst_vars
  rfl
theorem len__law_take : ∀ ds S Q, sp__law_take ds S Q → ds.length = 2 := by
  intro ds S Q h
  unfold sp__law_take at h
  repeat (obtain ⟨_, h⟩ := h)
  subst_vars
  rfl
theorem len__law_of : ∀ ds S Q, sp__law_of ds S Q → ds.length = 2 := by
  intro ds S Q h
  unfold sp__law_of at h
  repeat (obtain ⟨_, h⟩ := h)
  subst_vars
  rfl
theorem len__law_cells : ∀ ds S Q, sp__law_cells ds S Q → ds.length = 2 := by
  intro ds S Q h
  unfold sp__law_cells at h
  repeat (obtain ⟨_, h⟩ := h)
  subst_vars
  rfl
theorem len__law_some : ∀ ds S Q, sp__law_some ds S Q → ds.length = 3 := by
  intro ds S Q h
  unfold sp__law_some at h
  repeat (obtain ⟨_, h⟩ := h)
  subst_vars
  rfl
theorem len__law_sums : ∀ ds S Q, sp__law_sums ds S Q → ds.length = 2 := by
  intro ds S Q h
  unfold sp__law_sums at h
  repeat (obtain ⟨_, h⟩ := h)
  subst_vars
  rfl
theorem len__law_right : ∀ ds S Q, sp__law_right ds S Q → ds.length = 1 := by
  intro ds S Q h
  unfold sp__law_right at h
  repeat (obtain ⟨_, h⟩ := h)
  subst_vars
  rfl
theorem len_law : ∀ ds S Q, sp_law ds S Q → ds.length = 1 := by
  intro ds S Q h
  unfold sp_law at h
  repeat (obtain ⟨_, h⟩ := h)
  subst_vars
  rfl
section
variable {P : Program} {w : World} {K : PySem.W.Frag} {mg : Str → Option Value} {base : Heap}
structure Blt (mg : Str → Option Value) : Prop where
  b_abs : mg "abs" = none
  b_all : mg "all" = none
  b_any : mg "any" = none
  b_bool : mg "bool" = none
  b_enumerate : mg "enumerate" = none
  b_int : mg "int" = none
  b_isinstance : mg "isinstance" = none
  b_len : mg "len" = none
  b_list : mg "list" = none
  b_max : mg "max" = none
  b_min : mg "min" = none
  b_range : mg "range" = none
  b_set : mg "set" = none
  b_sorted : mg "sorted" = none
  b_str : mg "str" = none
  b_sum : mg "sum" = none
  b_tuple : mg "tuple" = none
  b_zip : mg "zip" = none
  c_EVERY : ∃ t, mg "EVERY" = some (.str "every" t)
  c_LATE : ∃ t, mg "LATE" = some (.str "late" t)
  c_MOST_END : ∃ t, mg "MOST_END" = some (.int 1000000 t)
  c_MOST_JOBS : ∃ t, mg "MOST_JOBS" = some (.int 60 t)
  c_MOST_LONG : ∃ t, mg "MOST_LONG" = some (.int 10000 t)
  c_THREE : ∃ t, mg "THREE" = some (.int 3 t)
theorem sc_is_int : FnScope N_is_int ["value", "low", "high"] (defScope s_is_int) := ⟨rfl, rfl, rfl, by decide +kernel, rfl, by decide +kernel, by decide +kernel⟩
theorem ok_is_int (B : Blt mg) (O : Own K mg "is_int" s_is_int)  : Has P w K mg base 1 "is_int" ["value", "low", "high"] sp_is_int :=
  has_of (N := N_is_int) (τ := t_is_int ) O sc_is_int (len_is_int) (fun _ _ _ _ _ _ us hl => match us, hl with | [_, _, _], _ => rfl) (fun f cdv A outer s H E hr =>
  (dss_one (ds_ret (de_and (de_isi "int" B.b_isinstance B.b_int (by decide +kernel) (dv 0)) (de_and (de_not (de_isi "bool" B.b_isinstance B.b_bool (by decide +kernel) (dv 0))) (de_one (de_chain p_le p_le (dv 1) (dv 0) (dv 2)))))))) pure_is_int
theorem sc_are_ints : FnScope N_are_ints ["value", "low", "high"] (defScope s_are_ints) := ⟨rfl, rfl, rfl, by decide +kernel, rfl, by decide +kernel, by decide +kernel⟩
theorem ok_are_ints (B : Blt mg) (O : Own K mg "are_ints" s_are_ints) (H_is_int : Has P w K mg base 1 "is_int" ["value", "low", "high"] sp_is_int) : Has P w K mg base 2 "are_ints" ["value", "low", "high"] sp_are_ints :=
  has_of (N := N_are_ints) (τ := t_are_ints sp_is_int) O sc_are_ints (len_are_ints) (fun _ _ _ _ _ _ us hl => match us, hl with | [_, _, _], _ => rfl) (fun f cdv A outer s H E hr =>
  (dss_one (ds_ret (de_and (de_isi "tuple" B.b_isinstance B.b_tuple (by decide +kernel) (dv 0)) (de_one (de_callB (p_all rfl) B.b_all (by decide +kernel) (da_cons (de_lc (r := false) (own := [("one", 3)]) sc_are_ints.nd (di_sq (dv 0)) (blk_of (by kernel_rfl)) (by decide) (fun _ _ _ _ _ => (dg_name 3 sc_are_ints.nd)) (fun _ _ _ _ _ => dts_nil) (fun _ _ _ _ _ => (de_own H_is_int hr (da_cons (dv 3) (da_cons (dv 1) (da_cons (dv 2) da_nil)))))) da_nil))))))) pure_are_ints
theorem sc_is_told : FnScope N_is_told ["value", "sizes"] (defScope s_is_told) := ⟨rfl, rfl, rfl, by decide +kernel, rfl, by decide +kernel, by decide +kernel⟩
theorem ok_is_told (B : Blt mg) (O : Own K mg "is_told" s_is_told)  : Has P w K mg base 1 "is_told" ["value", "sizes"] sp_is_told :=
  has_of (N := N_is_told) (τ := t_is_told ) O sc_is_told (len_is_told) (fun _ _ _ _ _ _ us hl => match us, hl with | [_, _], _ => rfl) (fun f cdv A outer s H E hr =>
  (dss_one (ds_ret (de_and (de_isi "tuple" B.b_isinstance B.b_tuple (by decide +kernel) (dv 0)) (de_and (de_cmp (p_in hr.units) (de_callB p_len B.b_len (by decide +kernel) (da_cons (dv 0) da_nil)) (dv 1) rfl) (de_one (de_isi "str" B.b_isinstance B.b_str (by decide +kernel) (de_ix p_ix (dv 0) de_int)))))))) pure_is_told
theorem sc_is_order : FnScope N_is_order ["value", "many"] (defScope s_is_order) := ⟨rfl, rfl, rfl, by decide +kernel, rfl, by decide +kernel, by decide +kernel⟩
theorem ok_is_order (B : Blt mg) (O : Own K mg "is_order" s_is_order) (H_are_ints : Has P w K mg base 2 "are_ints" ["value", "low", "high"] sp_are_ints) : Has P w K mg base 3 "is_order" ["value", "many"] sp_is_order :=
  has_of (N := N_is_order) (τ := t_is_order sp_are_ints) O sc_is_order (len_is_order) (fun _ _ _ _ _ _ us hl => match us, hl with | [_, _], _ => rfl) (fun f cdv A outer s H E hr =>
  (dss_one (ds_ret (de_and (de_own H_are_ints hr (da_cons (dv 0) (da_cons de_int (da_cons (de_op p_sub (dv 1) de_int) da_nil)))) (de_and (de_cmp (p_eq hr.units) (de_callB p_len B.b_len (by decide +kernel) (da_cons (dv 0) da_nil)) (dv 1) rfl) (de_one (de_cmp (p_eq hr.units) (de_lenSet B.b_len B.b_set (dv 0)) (dv 1) rfl))))))) pure_is_order
theorem sc_look_at_jobs : FnScope N_look_at_jobs ["jobs"] (defScope s_look_at_jobs) := ⟨rfl, rfl, rfl, by decide +kernel, rfl, by decide +kernel, by decide +kernel⟩
theorem ok_look_at_jobs (B : Blt mg) (O : Own K mg "look_at_jobs" s_look_at_jobs) (H_are_ints : Has P w K mg base 2 "are_ints" ["value", "low", "high"] sp_are_ints) : Has P w K mg base 3 "look_at_jobs" ["jobs"] sp_look_at_jobs :=
  has_of (N := N_look_at_jobs) (τ := t_look_at_jobs sp_are_ints) O sc_look_at_jobs (len_look_at_jobs) (fun _ _ _ _ _ _ us hl => match us, hl with | [_], _ => rfl) (fun f cdv A outer s H E hr =>
  (dss_cons (ds_if (dt_w (dw_or (dt_not (dt_val (de_isi "tuple" B.b_isinstance B.b_tuple (by decide +kernel) (dv 0)))) (dw_or1 (dt_not (dt_chain p_le p_le de_int (de_callB p_len B.b_len (by decide +kernel) (da_cons (dv 0) da_nil)) (de_gint B.c_MOST_JOBS)))))) (dss_one ds_never) dss_nil)
  (dss_one (ds_if (dt_not (dt_val (de_callB (p_all rfl) B.b_all (by decide +kernel) (da_cons (de_lc (r := false) (own := [("job", 1)]) sc_look_at_jobs.nd (di_sq (dv 0)) (blk_of (by kernel_rfl)) (by decide) (fun _ _ _ _ _ => (dg_name 1 sc_look_at_jobs.nd)) (fun _ _ _ _ _ => dts_nil) (fun _ _ _ _ _ => (de_and (de_own H_are_ints hr (da_cons (dv 1) (da_cons de_int (da_cons (de_gint B.c_MOST_LONG) da_nil)))) (de_one (de_cmp (p_eq hr.units) (de_callB p_len B.b_len (by decide +kernel) (da_cons (dv 1) da_nil)) de_int rfl))))) da_nil)))) (dss_one ds_never) dss_nil)))) pure_look_at_jobs
theorem sc_look_at_sequence_of : FnScope N_look_at_sequence_of ["jobs", "order"] (defScope s_look_at_sequence_of) := ⟨rfl, rfl, rfl, by decide +kernel, rfl, by decide +kernel, by decide +kernel⟩
theorem ok_look_at_sequence_of (B : Blt mg) (O : Own K mg "look_at_sequence_of" s_look_at_sequence_of) (H_look_at_jobs : Has P w K mg base 3 "look_at_jobs" ["jobs"] sp_look_at_jobs) (H_is_order : Has P w K mg base 3 "is_order" ["value", "many"] sp_is_order) : Has P w K mg base 4 "look_at_sequence_of" ["jobs", "order"] sp_look_at_sequence_of :=
  has_of (N := N_look_at_sequence_of) (τ := t_look_at_sequence_of sp_look_at_jobs sp_is_order) O sc_look_at_sequence_of (len_look_at_sequence_of) (fun _ _ _ _ _ _ us hl => match us, hl with | [_, _], _ => rfl) (fun f cdv A outer s H E hr =>
  (dss_cons (ds_expr (de_own H_look_at_jobs hr (da_cons (dv 0) da_nil)))
  (dss_one (ds_if (dt_not (dt_val (de_own H_is_order hr (da_cons (dv 1) (da_cons (de_callB p_len B.b_len (by decide +kernel) (da_cons (dv 0) da_nil)) da_nil))))) (dss_one ds_never) dss_nil)))) pure_look_at_sequence_of
theorem sc_told_ends : FnScope N_told_ends ["jobs", "order"] (defScope s_told_ends) := ⟨rfl, rfl, rfl, by decide +kernel, rfl, by decide +kernel, by decide +kernel⟩
theorem ok_told_ends (B : Blt mg) (O : Own K mg "told_ends" s_told_ends)  : Has P w K mg base 1 "told_ends" ["jobs", "order"] sp_told_ends :=
  has_of (N := N_told_ends) (τ := t_told_ends ) O sc_told_ends (len_told_ends) (fun _ _ _ _ _ _ us hl => match us, hl with | [_, _], _ => rfl) (fun f cdv A outer s H E hr =>
  (dss_cons (ds_par3 2 3 4 sc_told_ends.nd (da_cons (de_lst (r := true) da_nil) (da_cons de_int (da_cons de_int da_nil))))
  (dss_cons (ds_for PassesOwn.never (di_sq (dv 1)) (dg_name 5 sc_told_ends.nd)
  (dss_cons (ds_aug 3 sc_told_ends.nd p_iadd (de_ix p_ix (de_ix p_ix (dv 0) (dv 5)) de_int))
  (dss_cons (ds_set 4 sc_told_ends.nd (de_op (p_add (r := false)) (de_callB (p_max hr.units rfl) B.b_max (by decide +kernel) (da_cons (dv 3) (da_cons (dv 4) da_nil))) (de_ix p_ix (de_ix p_ix (dv 0) (dv 5)) de_int)))
  (dss_one (ds_expr (de_bm PySem.F.plainAttrs_list PySem.F.slot_list_append PySem.F.type_list_append m_append (dv 2) (da_cons (de_tup (da_cons (dv 3) (da_cons (dv 4) da_nil))) da_nil)))))))
  (dss_one (ds_ret (dv 2)))))) pure_told_ends
theorem sc_ends_of : FnScope N_ends_of ["jobs", "order"] (defScope s_ends_of) := ⟨rfl, rfl, rfl, by decide +kernel, rfl, by decide +kernel, by decide +kernel⟩
theorem ok_ends_of (B : Blt mg) (O : Own K mg "ends_of" s_ends_of) (H_look_at_sequence_of : Has P w K mg base 4 "look_at_sequence_of" ["jobs", "order"] sp_look_at_sequence_of) (H_told_ends : Has P w K mg base 1 "told_ends" ["jobs", "order"] sp_told_ends) : Has P w K mg base 5 "ends_of" ["jobs", "order"] sp_ends_of :=
  has_of (N := N_ends_of) (τ := t_ends_of sp_look_at_sequence_of sp_told_ends) O sc_ends_of (len_ends_of) (fun _ _ _ _ _ _ us hl => match us, hl with | [_, _], _ => rfl) (fun f cdv A outer s H E hr =>
  (dss_cons (ds_expr (de_own H_look_at_sequence_of hr (da_cons (dv 0) (da_cons (dv 1) da_nil))))
  (dss_one (ds_ret (de_callTy p_tuple B.b_tuple (by decide +kernel) (da_cons (de_own H_told_ends hr (da_cons (dv 0) (da_cons (dv 1) da_nil))) da_nil)))))) pure_ends_of
theorem sc_end_of : FnScope N_end_of ["jobs", "order"] (defScope s_end_of) := ⟨rfl, rfl, rfl, by decide +kernel, rfl, by decide +kernel, by decide +kernel⟩
theorem ok_end_of (B : Blt mg) (O : Own K mg "end_of" s_end_of) (H_look_at_sequence_of : Has P w K mg base 4 "look_at_sequence_of" ["jobs", "order"] sp_look_at_sequence_of) (H_told_ends : Has P w K mg base 1 "told_ends" ["jobs", "order"] sp_told_ends) : Has P w K mg base 5 "end_of" ["jobs", "order"] sp_end_of :=
  has_of (N := N_end_of) (τ := t_end_of sp_look_at_sequence_of sp_told_ends) O sc_end_of (len_end_of) (fun _ _ _ _ _ _ us hl => match us, hl with | [_, _], _ => rfl) (fun f cdv A outer s H E hr =>
  (dss_cons (ds_expr (de_own H_look_at_sequence_of hr (da_cons (dv 0) (da_cons (dv 1) da_nil))))
  (dss_one (ds_ret (de_ix p_ix (de_ix p_ix (de_own H_told_ends hr (da_cons (dv 0) (da_cons (dv 1) da_nil))) (de_neg de_int)) de_int))))) pure_end_of
theorem sc_between_of : FnScope N_between_of ["jobs", "order"] (defScope s_between_of) := ⟨rfl, rfl, rfl, by decide +kernel, rfl, by decide +kernel, by decide +kernel⟩
theorem ok_between_of (B : Blt mg) (O : Own K mg "between_of" s_between_of) (H_look_at_sequence_of : Has P w K mg base 4 "look_at_sequence_of" ["jobs", "order"] sp_look_at_sequence_of) (H_told_ends : Has P w K mg base 1 "told_ends" ["jobs", "order"] sp_told_ends) : Has P w K mg base 5 "between_of" ["jobs", "order"] sp_between_of :=
  has_of (N := N_between_of) (τ := t_between_of sp_look_at_sequence_of sp_told_ends) O sc_between_of (len_between_of) (fun _ _ _ _ _ _ us hl => match us, hl with | [_, _], _ => rfl) (fun f cdv A outer s H E hr =>
  (dss_cons (ds_expr (de_own H_look_at_sequence_of hr (da_cons (dv 0) (da_cons (dv 1) da_nil))))
  (dss_one (ds_ret (de_callTy p_tuple B.b_tuple (by decide +kernel) (da_cons (de_lc (r := false) (own := [("one", 2), ("first", 3), ("second", 4)]) sc_between_of.nd (di_zip2 B.b_zip (dv 1) (de_own H_told_ends hr (da_cons (dv 0) (da_cons (dv 1) da_nil)))) (blk_of (by kernel_rfl)) (by decide) (fun _ _ _ _ _ => (dg_tup (dgs_cons (dg_name 2 sc_between_of.nd) (dgs_cons (dg_tup (dgs_cons (dg_name 3 sc_between_of.nd) (dgs_cons (dg_name 4 sc_between_of.nd) dgs_nil))) dgs_nil)))) (fun _ _ _ _ _ => dts_nil) (fun _ _ _ _ _ => (de_op p_sub (de_op p_sub (dv 4) (de_ix p_ix (de_ix p_ix (dv 0) (dv 2)) de_int)) (dv 3)))) da_nil)))))) pure_between_of
theorem sc_critical_of : FnScope N_critical_of ["jobs", "order"] (defScope s_critical_of) := ⟨rfl, rfl, rfl, by decide +kernel, rfl, by decide +kernel, by decide +kernel⟩
theorem ok_critical_of (B : Blt mg) (O : Own K mg "critical_of" s_critical_of) (H_look_at_sequence_of : Has P w K mg base 4 "look_at_sequence_of" ["jobs", "order"] sp_look_at_sequence_of) : Has P w K mg base 5 "critical_of" ["jobs", "order"] sp_critical_of :=
  has_of (N := N_critical_of) (τ := t_critical_of sp_look_at_sequence_of) O sc_critical_of (len_critical_of) (fun _ _ _ _ _ _ us hl => match us, hl with | [_, _], _ => rfl) (fun f cdv A outer s H E hr =>
  (dss_cons (ds_expr (de_own H_look_at_sequence_of hr (da_cons (dv 0) (da_cons (dv 1) da_nil))))
  (dss_cons (ds_set 2 sc_critical_of.nd (de_lst (r := true) da_nil))
  (dss_cons (ds_for PassesOwn.never (di_range1 B.b_range (de_callB p_len B.b_len (by decide +kernel) (da_cons (dv 1) da_nil))) (dg_name 3 sc_critical_of.nd)
  (dss_cons (ds_par2 4 5 sc_critical_of.nd (da_cons (de_slice (p_sl (r := false)) (dv 1) do_none (do_some (de_op (p_add (r := false)) (dv 3) de_int))) (da_cons (de_slice (p_sl (r := false)) (dv 1) (do_some (dv 3)) do_none) da_nil)))
  (dss_one (ds_expr (de_bm PySem.F.plainAttrs_list PySem.F.slot_list_append PySem.F.type_list_append m_append (dv 2) (da_cons (de_op (p_add (r := false)) (de_callB (p_sum rfl) B.b_sum (by decide +kernel) (da_cons (de_lc (r := false) (own := [("one", 6)]) sc_critical_of.nd (di_sq (dv 4)) (blk_of (by kernel_rfl)) (by decide) (fun _ _ _ _ _ => (dg_name 6 sc_critical_of.nd)) (fun _ _ _ _ _ => dts_nil) (fun _ _ _ _ _ => (de_ix p_ix (de_ix p_ix (dv 0) (dv 6)) de_int))) da_nil)) (de_callB (p_sum rfl) B.b_sum (by decide +kernel) (da_cons (de_lc (r := false) (own := [("one", 6)]) sc_critical_of.nd (di_sq (dv 5)) (blk_of (by kernel_rfl)) (by decide) (fun _ _ _ _ _ => (dg_name 6 sc_critical_of.nd)) (fun _ _ _ _ _ => dts_nil) (fun _ _ _ _ _ => (de_ix p_ix (de_ix p_ix (dv 0) (dv 6)) de_int))) da_nil))) da_nil))))))
  (dss_one (ds_ret (de_bm PySem.F.plainAttrs_list PySem.F.slot_list_index PySem.F.type_list_index m_index (dv 2) (da_cons (de_callB (p_max hr.units rfl) B.b_max (by decide +kernel) (da_cons (dv 2) da_nil)) da_nil)))))))) pure_critical_of
theorem sc_told_best : FnScope N_told_best ["jobs"] (defScope s_told_best) := ⟨rfl, rfl, rfl, by decide +kernel, rfl, by decide +kernel, by decide +kernel⟩
theorem ok_told_best (B : Blt mg) (O : Own K mg "told_best" s_told_best)  : Has P w K mg base 1 "told_best" ["jobs"] sp_told_best :=
  has_of (N := N_told_best) (τ := t_told_best ) O sc_told_best (len_told_best) (fun _ _ _ _ _ _ us hl => match us, hl with | [_], _ => rfl) (fun f cdv A outer s H E hr =>
  (dss_cons (ds_set 1 sc_told_best.nd (de_callB (p_sorted hr.units (r := false)) B.b_sorted (by decide +kernel) (da_cons (de_lc (r := false) (own := [("at", 2), ("one", 3)]) sc_told_best.nd (di_enum B.b_enumerate (dv 0)) (blk_of (by kernel_rfl)) (by decide) (fun _ _ _ _ _ => (dg_tup (dgs_cons (dg_name 2 sc_told_best.nd) (dgs_cons (dg_name 3 sc_told_best.nd) dgs_nil)))) (fun _ _ _ _ _ => (dts_one (dt_cmp p_lt (de_ix p_ix (dv 3) de_int) (de_ix p_ix (dv 3) de_int) rfl))) (fun _ _ _ _ _ => (de_tup (da_cons (de_ix p_ix (dv 3) de_int) (da_cons (dv 2) da_nil))))) da_nil)))
  (dss_cons (ds_set 4 sc_told_best.nd (de_callB (p_sorted hr.units (r := false)) B.b_sorted (by decide +kernel) (da_cons (de_lc (r := false) (own := [("at", 2), ("one", 3)]) sc_told_best.nd (di_enum B.b_enumerate (dv 0)) (blk_of (by kernel_rfl)) (by decide) (fun _ _ _ _ _ => (dg_tup (dgs_cons (dg_name 2 sc_told_best.nd) (dgs_cons (dg_name 3 sc_told_best.nd) dgs_nil)))) (fun _ _ _ _ _ => (dts_one (dt_cmp p_ge (de_ix p_ix (dv 3) de_int) (de_ix p_ix (dv 3) de_int) rfl))) (fun _ _ _ _ _ => (de_tup (da_cons (de_neg (de_ix p_ix (dv 3) de_int)) (da_cons (dv 2) da_nil))))) da_nil)))
  (dss_one (ds_ret (de_callTy p_tuple B.b_tuple (by decide +kernel) (da_cons (de_lc (r := false) (own := [("ticks", 5), ("at", 2)]) sc_told_best.nd (di_sq (de_lst (r := false) (da_star (dv 1) (da_star (dv 4) da_nil)))) (blk_of (by kernel_rfl)) (by decide) (fun _ _ _ _ _ => (dg_tup (dgs_cons (dg_name 5 sc_told_best.nd) (dgs_cons (dg_name 2 sc_told_best.nd) dgs_nil)))) (fun _ _ _ _ _ => dts_nil) (fun _ _ _ _ _ => (dv 2))) da_nil))))))) pure_told_best
theorem sc_best_sequence : FnScope N_best_sequence ["jobs"] (defScope s_best_sequence) := ⟨rfl, rfl, rfl, by decide +kernel, rfl, by decide +kernel, by decide +kernel⟩
theorem ok_best_sequence (B : Blt mg) (O : Own K mg "best_sequence" s_best_sequence) (H_look_at_jobs : Has P w K mg base 3 "look_at_jobs" ["jobs"] sp_look_at_jobs) (H_told_best : Has P w K mg base 1 "told_best" ["jobs"] sp_told_best) (H_told_ends : Has P w K mg base 1 "told_ends" ["jobs", "order"] sp_told_ends) : Has P w K mg base 4 "best_sequence" ["jobs"] sp_best_sequence :=
  has_of (N := N_best_sequence) (τ := t_best_sequence sp_look_at_jobs sp_told_best sp_told_ends) O sc_best_sequence (len_best_sequence) (fun _ _ _ _ _ _ us hl => match us, hl with | [_], _ => rfl) (fun f cdv A outer s H E hr =>
  (dss_cons (ds_expr (de_own H_look_at_jobs hr (da_cons (dv 0) da_nil)))
  (dss_cons (ds_set 1 sc_best_sequence.nd (de_own H_told_best hr (da_cons (dv 0) da_nil)))
  (dss_one (ds_ret (de_tup (da_cons (de_ix p_ix (de_ix p_ix (de_own H_told_ends hr (da_cons (dv 0) (da_cons (dv 1) da_nil))) (de_neg de_int)) de_int) (da_cons (dv 1) da_nil)))))))) pure_best_sequence
theorem sc_shows_best_sequence : FnScope N_shows_best_sequence ["jobs", "value"] (defScope s_shows_best_sequence) := ⟨rfl, rfl, rfl, by decide +kernel, rfl, by decide +kernel, by decide +kernel⟩
theorem ok_shows_best_sequence (B : Blt mg) (O : Own K mg "shows_best_sequence" s_shows_best_sequence) (H_look_at_jobs : Has P w K mg base 3 "look_at_jobs" ["jobs"] sp_look_at_jobs) (H_told_ends : Has P w K mg base 1 "told_ends" ["jobs", "order"] sp_told_ends) (H_told_best : Has P w K mg base 1 "told_best" ["jobs"] sp_told_best) (H_is_int : Has P w K mg base 1 "is_int" ["value", "low", "high"] sp_is_int) (H_is_order : Has P w K mg base 3 "is_order" ["value", "many"] sp_is_order) : Has P w K mg base 4 "shows_best_sequence" ["jobs", "value"] sp_shows_best_sequence :=
  has_of (N := N_shows_best_sequence) (τ := t_shows_best_sequence sp_look_at_jobs sp_told_ends sp_told_best sp_is_int sp_is_order) O sc_shows_best_sequence (len_shows_best_sequence) (fun _ _ _ _ _ _ us hl => match us, hl with | [_, _], _ => rfl) (fun f cdv A outer s H E hr =>
  (dss_cons (ds_expr (de_own H_look_at_jobs hr (da_cons (dv 0) da_nil)))
  (dss_cons (ds_set 2 sc_shows_best_sequence.nd (de_ix p_ix (de_ix p_ix (de_own H_told_ends hr (da_cons (dv 0) (da_cons (de_own H_told_best hr (da_cons (dv 0) da_nil)) da_nil))) (de_neg de_int)) de_int))
  (dss_cons (ds_if (dt_w (dw_or (dt_not (dt_val (de_isi "tuple" B.b_isinstance B.b_tuple (by decide +kernel) (dv 1)))) (dw_or (dt_cmp (p_ne hr.units) (de_callB p_len B.b_len (by decide +kernel) (da_cons (dv 1) da_nil)) de_int rfl) (dw_or1 (dt_not (dt_val (de_own H_is_int hr (da_cons (de_ix p_ix (dv 1) de_int) (da_cons (dv 2) (da_cons (dv 2) da_nil)))))))))) (dss_one (ds_ret de_bl)) dss_nil)
  (dss_one (ds_ret (de_and (de_own H_is_order hr (da_cons (de_ix p_ix (dv 1) de_int) (da_cons (de_callB p_len B.b_len (by decide +kernel) (da_cons (dv 0) da_nil)) da_nil))) (de_one (de_cmp (p_eq hr.units) (de_ix p_ix (de_ix p_ix (de_own H_told_ends hr (da_cons (dv 0) (da_cons (de_ix p_ix (dv 1) de_int) da_nil))) (de_neg de_int)) de_int) (dv 2) rfl))))))))) pure_shows_best_sequence
theorem sc_told_worst : FnScope N_told_worst ["jobs"] (defScope s_told_worst) := ⟨rfl, rfl, rfl, by decide +kernel, rfl, by decide +kernel, by decide +kernel⟩
theorem ok_told_worst (B : Blt mg) (O : Own K mg "told_worst" s_told_worst)  : Has P w K mg base 1 "told_worst" ["jobs"] sp_told_worst :=
  has_of (N := N_told_worst) (τ := t_told_worst ) O sc_told_worst (len_told_worst) (fun _ _ _ _ _ _ us hl => match us, hl with | [_], _ => rfl) (fun f cdv A outer s H E hr =>
  (dss_cons (ds_set 1 sc_told_worst.nd (de_callB (p_sum rfl) B.b_sum (by decide +kernel) (da_cons (de_lc (r := false) (own := [("job", 2)]) sc_told_worst.nd (di_sq (dv 0)) (blk_of (by kernel_rfl)) (by decide) (fun _ _ _ _ _ => (dg_name 2 sc_told_worst.nd)) (fun _ _ _ _ _ => dts_nil) (fun _ _ _ _ _ => (de_callB (p_max hr.units rfl) B.b_max (by decide +kernel) (da_cons (dv 2) da_nil)))) da_nil)))
  (dss_cons (ds_setLc 3 (r := false) (own := [("at", 4), ("job", 2)]) sc_told_worst.nd (di_enum B.b_enumerate (dv 0)) (blk_of (by kernel_rfl)) (by decide) (fun _ _ _ _ _ => (dg_tup (dgs_cons (dg_name 4 sc_told_worst.nd) (dgs_cons (dg_name 2 sc_told_worst.nd) dgs_nil)))) (fun _ _ _ _ _ => dts_nil) (fun _ _ _ _ _ => (de_tup (da_cons (de_op (p_add (r := false)) (de_op p_sub (dv 1) (de_callB (p_max hr.units rfl) B.b_max (by decide +kernel) (da_cons (dv 2) da_nil))) (de_callB (p_sum rfl) B.b_sum (by decide +kernel) (da_cons (dv 2) da_nil))) (da_cons (de_neg (dv 4)) da_nil)))))
  (dss_cons (ds_asg (de_callB (p_max hr.units rfl) B.b_max (by decide +kernel) (da_cons (dv 3) da_nil)) (dg_tup (dgs_cons (dg_name 5 sc_told_worst.nd) (dgs_cons (dg_name 4 sc_told_worst.nd) dgs_nil))))
  (dss_one (ds_ret (de_tup (da_cons (dv 5) (da_cons (de_neg (dv 4)) da_nil))))))))) pure_told_worst
theorem sc_told_worst_order : FnScope N_told_worst_order ["jobs", "one"] (defScope s_told_worst_order) := ⟨rfl, rfl, rfl, by decide +kernel, rfl, by decide +kernel, by decide +kernel⟩
theorem ok_told_worst_order (B : Blt mg) (O : Own K mg "told_worst_order" s_told_worst_order)  : Has P w K mg base 1 "told_worst_order" ["jobs", "one"] sp_told_worst_order :=
  has_of (N := N_told_worst_order) (τ := t_told_worst_order ) O sc_told_worst_order (len_told_worst_order) (fun _ _ _ _ _ _ us hl => match us, hl with | [_, _], _ => rfl) (fun f cdv A outer s H E hr =>
  (dss_cons (ds_setLc 2 (r := false) (own := [("at", 3), ("job", 4)]) sc_told_worst_order.nd (di_enum B.b_enumerate (dv 0)) (blk_of (by kernel_rfl)) (by decide) (fun _ _ _ _ _ => (dg_tup (dgs_cons (dg_name 3 sc_told_worst_order.nd) (dgs_cons (dg_name 4 sc_told_worst_order.nd) dgs_nil)))) (fun _ _ _ _ _ => (dts_one (dt_w (dw_and (dt_cmp (p_ne hr.units) (dv 3) (dv 1) rfl) (dw_and1 (dt_cmp p_ge (de_ix p_ix (dv 4) de_int) (de_ix p_ix (dv 4) de_int) rfl)))))) (fun _ _ _ _ _ => (dv 3)))
  (dss_cons (ds_setLc 5 (r := false) (own := [("at", 3), ("job", 4)]) sc_told_worst_order.nd (di_enum B.b_enumerate (dv 0)) (blk_of (by kernel_rfl)) (by decide) (fun _ _ _ _ _ => (dg_tup (dgs_cons (dg_name 3 sc_told_worst_order.nd) (dgs_cons (dg_name 4 sc_told_worst_order.nd) dgs_nil)))) (fun _ _ _ _ _ => (dts_one (dt_w (dw_and (dt_cmp (p_ne hr.units) (dv 3) (dv 1) rfl) (dw_and1 (dt_cmp p_lt (de_ix p_ix (dv 4) de_int) (de_ix p_ix (dv 4) de_int) rfl)))))) (fun _ _ _ _ _ => (dv 3)))
  (dss_one (ds_ret (de_tup (da_star (dv 2) (da_cons (dv 1) (da_star (dv 5) da_nil))))))))) pure_told_worst_order
theorem sc_worst_sequence : FnScope N_worst_sequence ["jobs"] (defScope s_worst_sequence) := ⟨rfl, rfl, rfl, by decide +kernel, rfl, by decide +kernel, by decide +kernel⟩
theorem ok_worst_sequence (B : Blt mg) (O : Own K mg "worst_sequence" s_worst_sequence) (H_look_at_jobs : Has P w K mg base 3 "look_at_jobs" ["jobs"] sp_look_at_jobs) (H_told_worst : Has P w K mg base 1 "told_worst" ["jobs"] sp_told_worst) (H_told_worst_order : Has P w K mg base 1 "told_worst_order" ["jobs", "one"] sp_told_worst_order) : Has P w K mg base 4 "worst_sequence" ["jobs"] sp_worst_sequence :=
  has_of (N := N_worst_sequence) (τ := t_worst_sequence sp_look_at_jobs sp_told_worst sp_told_worst_order) O sc_worst_sequence (len_worst_sequence) (fun _ _ _ _ _ _ us hl => match us, hl with | [_], _ => rfl) (fun f cdv A outer s H E hr =>
  (dss_cons (ds_expr (de_own H_look_at_jobs hr (da_cons (dv 0) da_nil)))
  (dss_cons (ds_asg (de_own H_told_worst hr (da_cons (dv 0) da_nil)) (dg_tup (dgs_cons (dg_name 1 sc_worst_sequence.nd) (dgs_cons (dg_name 2 sc_worst_sequence.nd) dgs_nil))))
  (dss_one (ds_ret (de_tup (da_cons (dv 1) (da_cons (de_own H_told_worst_order hr (da_cons (dv 0) (da_cons (dv 2) da_nil))) da_nil)))))))) pure_worst_sequence
theorem sc_shows_worst_sequence : FnScope N_shows_worst_sequence ["jobs", "value"] (defScope s_shows_worst_sequence) := ⟨rfl, rfl, rfl, by decide +kernel, rfl, by decide +kernel, by decide +kernel⟩
theorem ok_shows_worst_sequence (B : Blt mg) (O : Own K mg "shows_worst_sequence" s_shows_worst_sequence) (H_look_at_jobs : Has P w K mg base 3 "look_at_jobs" ["jobs"] sp_look_at_jobs) (H_told_worst : Has P w K mg base 1 "told_worst" ["jobs"] sp_told_worst) (H_is_int : Has P w K mg base 1 "is_int" ["value", "low", "high"] sp_is_int) (H_told_ends : Has P w K mg base 1 "told_ends" ["jobs", "order"] sp_told_ends) (H_is_order : Has P w K mg base 3 "is_order" ["value", "many"] sp_is_order) : Has P w K mg base 4 "shows_worst_sequence" ["jobs", "value"] sp_shows_worst_sequence :=
  has_of (N := N_shows_worst_sequence) (τ := t_shows_worst_sequence sp_look_at_jobs sp_told_worst sp_is_int sp_told_ends sp_is_order) O sc_shows_worst_sequence (len_shows_worst_sequence) (fun _ _ _ _ _ _ us hl => match us, hl with | [_, _], _ => rfl) (fun f cdv A outer s H E hr =>
  (dss_cons (ds_expr (de_own H_look_at_jobs hr (da_cons (dv 0) da_nil)))
  (dss_cons (ds_set 2 sc_shows_worst_sequence.nd (de_ix p_ix (de_own H_told_worst hr (da_cons (dv 0) da_nil)) de_int))
  (dss_cons (ds_if (dt_w (dw_or (dt_not (dt_val (de_isi "tuple" B.b_isinstance B.b_tuple (by decide +kernel) (dv 1)))) (dw_or (dt_cmp (p_ne hr.units) (de_callB p_len B.b_len (by decide +kernel) (da_cons (dv 1) da_nil)) de_int rfl) (dw_or1 (dt_not (dt_val (de_own H_is_int hr (da_cons (de_ix p_ix (dv 1) de_int) (da_cons (dv 2) (da_cons (dv 2) da_nil)))))))))) (dss_one (ds_ret de_bl)) dss_nil)
  (dss_one (ds_ret (de_and (de_own H_is_order hr (da_cons (de_ix p_ix (dv 1) de_int) (da_cons (de_callB p_len B.b_len (by decide +kernel) (da_cons (dv 0) da_nil)) da_nil))) (de_one (de_cmp (p_eq hr.units) (de_ix p_ix (de_ix p_ix (de_own H_told_ends hr (da_cons (dv 0) (da_cons (de_ix p_ix (dv 1) de_int) da_nil))) (de_neg de_int)) de_int) (dv 2) rfl))))))))) pure_shows_worst_sequence
theorem sc_look_at_end : FnScope N_look_at_end ["jobs", "end"] (defScope s_look_at_end) := ⟨rfl, rfl, rfl, by decide +kernel, rfl, by decide +kernel, by decide +kernel⟩
theorem ok_look_at_end (B : Blt mg) (O : Own K mg "look_at_end" s_look_at_end) (H_look_at_jobs : Has P w K mg base 3 "look_at_jobs" ["jobs"] sp_look_at_jobs) (H_is_int : Has P w K mg base 1 "is_int" ["value", "low", "high"] sp_is_int) : Has P w K mg base 4 "look_at_end" ["jobs", "end"] sp_look_at_end :=
  has_of (N := N_look_at_end) (τ := t_look_at_end sp_look_at_jobs sp_is_int) O sc_look_at_end (len_look_at_end) (fun _ _ _ _ _ _ us hl => match us, hl with | [_, _], _ => rfl) (fun f cdv A outer s H E hr =>
  (dss_cons (ds_expr (de_own H_look_at_jobs hr (da_cons (dv 0) da_nil)))
  (dss_one (ds_if (dt_not (dt_val (de_own H_is_int hr (da_cons (dv 1) (da_cons de_int (da_cons (de_gint B.c_MOST_END) da_nil)))))) (dss_one ds_never) dss_nil)))) pure_look_at_end
theorem sc_always_done : FnScope N_always_done ["jobs", "end"] (defScope s_always_done) := ⟨rfl, rfl, rfl, by decide +kernel, rfl, by decide +kernel, by decide +kernel⟩
theorem ok_always_done (B : Blt mg) (O : Own K mg "always_done" s_always_done) (H_look_at_end : Has P w K mg base 4 "look_at_end" ["jobs", "end"] sp_look_at_end) (H_told_worst : Has P w K mg base 1 "told_worst" ["jobs"] sp_told_worst) (H_told_worst_order : Has P w K mg base 1 "told_worst_order" ["jobs", "one"] sp_told_worst_order) : Has P w K mg base 5 "always_done" ["jobs", "end"] sp_always_done :=
  has_of (N := N_always_done) (τ := t_always_done sp_look_at_end sp_told_worst sp_told_worst_order) O sc_always_done (len_always_done) (fun _ _ _ _ _ _ us hl => match us, hl with | [_, _], _ => rfl) (fun f cdv A outer s H E hr =>
  (dss_cons (ds_expr (de_own H_look_at_end hr (da_cons (dv 0) (da_cons (dv 1) da_nil))))
  (dss_cons (ds_asg (de_own H_told_worst hr (da_cons (dv 0) da_nil)) (dg_tup (dgs_cons (dg_name 2 sc_always_done.nd) (dgs_cons (dg_name 3 sc_always_done.nd) dgs_nil))))
  (dss_one (ds_ret (de_if (dt_cmp p_le (dv 2) (dv 1) rfl) (de_tup (da_cons (de_gstr B.c_EVERY) da_nil)) (de_tup (da_cons (de_gstr B.c_LATE) (da_cons (de_own H_told_worst_order hr (da_cons (dv 0) (da_cons (dv 3) da_nil))) (da_cons (dv 3) da_nil)))))))))) pure_always_done
theorem sc_shows_always_done : FnScope N_shows_always_done ["jobs", "end", "value"] (defScope s_shows_always_done) := ⟨rfl, rfl, rfl, by decide +kernel, rfl, by decide +kernel, by decide +kernel⟩
theorem ok_shows_always_done (B : Blt mg) (O : Own K mg "shows_always_done" s_shows_always_done) (H_look_at_end : Has P w K mg base 4 "look_at_end" ["jobs", "end"] sp_look_at_end) (H_is_told : Has P w K mg base 1 "is_told" ["value", "sizes"] sp_is_told) (H_told_worst : Has P w K mg base 1 "told_worst" ["jobs"] sp_told_worst) (H_is_order : Has P w K mg base 3 "is_order" ["value", "many"] sp_is_order) (H_is_int : Has P w K mg base 1 "is_int" ["value", "low", "high"] sp_is_int) : Has P w K mg base 5 "shows_always_done" ["jobs", "end", "value"] sp_shows_always_done :=
  has_of (N := N_shows_always_done) (τ := t_shows_always_done sp_look_at_end sp_is_told sp_told_worst sp_is_order sp_is_int) O sc_shows_always_done (len_shows_always_done) (fun _ _ _ _ _ _ us hl => match us, hl with | [_, _, _], _ => rfl) (fun f cdv A outer s H E hr =>
  (dss_cons (ds_expr (de_own H_look_at_end.weak hr (da_cons (dv 0) (da_cons (dv 1) da_nil))))
  (dss_cons (ds_if (dt_not (dt_val (de_own H_is_told.weak hr (da_cons (dv 2) (da_cons (de_tup (da_cons de_int (da_cons (de_gint B.c_THREE) da_nil))) da_nil))))) (dss_one (ds_ret de_bl)) dss_nil)
  (dss_cons (ds_if (dt_cmp (p_eq hr.units) (de_callB p_len B.b_len (by decide +kernel) (da_cons (dv 2) da_nil)) de_int rfl) (dss_one (ds_ret (de_and (de_cmp (p_eq hr.units) (de_ix p_ix (dv 2) de_int) (de_gstr B.c_EVERY) rfl) (de_one (de_cmp p_le (de_ix p_ix (de_own H_told_worst.weak hr (da_cons (dv 0) da_nil)) de_int) (dv 1) rfl))))) dss_nil)
  (dss_cons (ds_if (dt_w (dw_or (dt_cmp (p_ne hr.units) (de_ix p_ix (dv 2) de_int) (de_gstr B.c_LATE) rfl) (dw_or (dt_not (dt_val (de_own H_is_order.weak hr (da_cons (de_ix p_ix (dv 2) de_int) (da_cons (de_callB p_len B.b_len (by decide +kernel) (da_cons (dv 0) da_nil)) da_nil))))) (dw_or1 (dt_not (dt_val (de_own H_is_int.weak hr (da_cons (de_ix p_ix (dv 2) de_int) (da_cons de_int (da_cons (de_op p_sub (de_callB p_len B.b_len (by decide +kernel) (da_cons (dv 0) da_nil)) de_int) da_nil)))))))))) (dss_one (ds_ret de_bl)) dss_nil)
  (dss_cons (ds_set 3 sc_shows_always_done.nd (de_bmX PySem.F.plainAttrs_tuple PySem.F.slot_tuple_index PySem.F.type_tuple_index m_indexT (de_ix p_ix (dv 2) de_int) (da_cons (de_ix p_ix (dv 2) de_int) da_nil)))
  (dss_cons (ds_par2 4 5 sc_shows_always_done.nd (da_cons (de_slice (p_sl (r := false)) (de_ix p_ix (dv 2) de_int) do_none (do_some (de_op (p_add (r := false)) (dv 3) de_int))) (da_cons (de_slice (p_sl (r := false)) (de_ix p_ix (dv 2) de_int) (do_some (dv 3)) do_none) da_nil)))
  (dss_one (ds_ret (de_cmp p_gt (de_op (p_add (r := false)) (de_callB (p_sum rfl) B.b_sum (by decide +kernel) (da_cons (de_lc (r := false) (own := [("one", 6)]) sc_shows_always_done.nd (di_sq (dv 4)) (blk_of (by kernel_rfl)) (by decide) (fun _ _ _ _ _ => (dg_name 6 sc_shows_always_done.nd)) (fun _ _ _ _ _ => dts_nil) (fun _ _ _ _ _ => (de_ix p_ix (de_ix p_ix (dv 0) (dv 6)) de_int))) da_nil)) (de_callB (p_sum rfl) B.b_sum (by decide +kernel) (da_cons (de_lc (r := false) (own := [("one", 6)]) sc_shows_always_done.nd (di_sq (dv 5)) (blk_of (by kernel_rfl)) (by decide) (fun _ _ _ _ _ => (dg_name 6 sc_shows_always_done.nd)) (fun _ _ _ _ _ => dts_nil) (fun _ _ _ _ _ => (de_ix p_ix (de_ix p_ix (dv 0) (dv 6)) de_int))) da_nil))) (dv 1) rfl)))))))))) pure_shows_always_done
theorem sc__law_pot : FnScope N__law_pot ["script", "place"] (defScope s__law_pot) := ⟨rfl, rfl, rfl, by decide +kernel, rfl, by decide +kernel, by decide +kernel⟩
theorem ok__law_pot (B : Blt mg) (O : Own K mg "_law_pot" s__law_pot)  : Has P w K mg base 1 "_law_pot" ["script", "place"] sp__law_pot :=
  has_of (N := N__law_pot) (τ := t__law_pot ) O sc__law_pot (len__law_pot) (fun _ _ _ _ _ _ us hl => match us, hl with | [_, _], _ => rfl) (fun f cdv A outer s H E hr =>
  (dss_cons (ds_set 2 sc__law_pot.nd (de_if (dt_cmp p_lt (dv 1) (de_callB p_len B.b_len (by decide +kernel) (da_cons (dv 0) da_nil)) rfl) (de_ix p_ix (dv 0) (dv 1)) (de_op (p_add (r := false)) (de_op (p_add (r := false)) (de_op p_mod (de_callTy p_int B.b_int (by decide +kernel) (da_cons (de_callB (p_sum rfl) B.b_sum (by decide +kernel) (da_cons (de_slice (p_sl (r := false)) (dv 0) do_none (do_some de_int)) da_nil)) da_nil)) de_int) (de_op (p_mulA (r := false)) de_int (dv 1))) de_int)))
  (dss_cons (ds_set 3 sc__law_pot.nd (de_op (p_mulA (r := false)) (de_op p_mod (de_callTy p_int B.b_int (by decide +kernel) (da_cons (de_callB p_abs B.b_abs (by decide +kernel) (da_cons (dv 2) da_nil)) da_nil)) (de_op p_pow (de_op p_pow de_int de_int) de_int)) (de_callTy p_int B.b_int (by decide +kernel) (da_cons (de_cmp p_ge (de_callB p_abs B.b_abs (by decide +kernel) (da_cons (dv 2) da_nil)) (de_op p_pow de_int de_int) rfl) da_nil))))
  (dss_cons (ds_set 4 sc__law_pot.nd (de_op p_mod (de_callTy p_int B.b_int (by decide +kernel) (da_cons (dv 2) da_nil)) de_int))
  (dss_one (ds_ret (de_lst (r := true) (da_cons (dv 3) (da_cons (de_op p_mod (de_callTy p_int B.b_int (by decide +kernel) (da_cons (de_op (p_add (r := false)) (de_op (p_add (r := false)) (de_op (p_mulA (r := false)) (dv 4) de_int) (de_op (p_mulA (r := false)) (de_op (p_mulA (r := false)) de_int (dv 1)) (dv 1))) de_int) da_nil)) de_int) (da_cons de_int da_nil)))))))))) pure__law_pot
theorem sc__law_take : FnScope N__law_take ["pot", "upto"] (defScope s__law_take) := ⟨rfl, rfl, rfl, by decide +kernel, rfl, by decide +kernel, by decide +kernel⟩
theorem ok__law_take (B : Blt mg) (O : Own K mg "_law_take" s__law_take)  : Has P w K mg base 1 "_law_take" ["pot", "upto"] sp__law_take :=
  has_of (N := N__law_take) (τ := t__law_take ) O sc__law_take (len__law_take) (fun _ _ _ _ _ _ us hl => match us, hl with | [_, _], _ => rfl) (fun f cdv A outer s H E hr =>
  (dss_cons (ds_if (dt_cmp p_gt (de_ix p_ix (dv 0) de_int) de_int rfl) (dss_cons (ds_set 2 sc__law_take.nd (de_op p_mod (de_callTy p_int B.b_int (by decide +kernel) (da_cons (de_ix p_ix (dv 0) de_int) da_nil)) (dv 1)))
  (dss_cons (ds_asg (de_op p_fdiv (de_ix p_ix (dv 0) de_int) (dv 1)) (dg_sub (dv 0) de_int p_set))
  (dss_one (ds_ret (dv 2))))) dss_nil)
  (dss_cons (ds_asg (de_op (p_add (r := false)) (de_ix p_ix (dv 0) de_int) de_int) (dg_sub (dv 0) de_int p_set))
  (dss_cons (ds_set 3 sc__law_take.nd (de_ix p_ix (de_lst (r := false) (da_cons de_int (da_cons de_int (da_cons de_int (da_cons de_int (da_cons de_int da_nil)))))) (de_op p_mod (de_callTy p_int B.b_int (by decide +kernel) (da_cons (de_ix p_ix (dv 0) de_int) da_nil)) de_int)))
  (dss_cons (ds_set 4 sc__law_take.nd (de_op p_mod (de_callTy p_int B.b_int (by decide +kernel) (da_cons (de_op p_pow (de_callTy p_int B.b_int (by decide +kernel) (da_cons (de_op (p_add (r := false)) (de_op (p_add (r := false)) (de_ix p_ix (dv 0) de_int) (de_op (p_mulA (r := false)) (de_op (p_mulA (r := false)) de_int (de_ix p_ix (dv 0) de_int)) (de_ix p_ix (dv 0) de_int))) de_int) da_nil)) de_int) da_nil)) (dv 3)))
  (dss_cons (ds_set 4 sc__law_take.nd (de_op p_mod (de_callTy p_int B.b_int (by decide +kernel) (da_cons (de_op (p_mulA (r := false)) (dv 4) (de_op (p_add (r := false)) (de_op p_mod (de_callTy p_int B.b_int (by decide +kernel) (da_cons (dv 4) da_nil)) de_int) (de_op (p_mulA (r := false)) de_int (de_ix p_ix (dv 0) de_int)))) da_nil)) de_int))
  (dss_one (ds_ret (de_op p_mod (de_callTy p_int B.b_int (by decide +kernel) (da_cons (de_op p_fdiv (dv 4) de_int) da_nil)) (dv 1)))))))))) pure__law_take
theorem sc__law_of : FnScope N__law_of ["pot", "some"] (defScope s__law_of) := ⟨rfl, rfl, rfl, by decide +kernel, rfl, by decide +kernel, by decide +kernel⟩
theorem ok__law_of (B : Blt mg) (O : Own K mg "_law_of" s__law_of) (H__law_take : Has P w K mg base 1 "_law_take" ["pot", "upto"] sp__law_take) : Has P w K mg base 2 "_law_of" ["pot", "some"] sp__law_of :=
  has_of (N := N__law_of) (τ := t__law_of sp__law_take) O sc__law_of (len__law_of) (fun _ _ _ _ _ _ us hl => match us, hl with | [_, _], _ => rfl) (fun f cdv A outer s H E hr =>
  (dss_one (ds_ret (de_ix p_ix (dv 1) (de_own H__law_take hr (da_cons (dv 0) (da_cons (de_callB p_len B.b_len (by decide +kernel) (da_cons (dv 1) da_nil)) da_nil))))))) pure__law_of
theorem sc__law_cells : FnScope N__law_cells ["script", "most"] (defScope s__law_cells) := ⟨rfl, rfl, rfl, by decide +kernel, rfl, by decide +kernel, by decide +kernel⟩
theorem ok__law_cells (B : Blt mg) (O : Own K mg "_law_cells" s__law_cells)  : Has P w K mg base 1 "_law_cells" ["script", "most"] sp__law_cells :=
  has_of (N := N__law_cells) (τ := t__law_cells ) O sc__law_cells (len__law_cells) (fun _ _ _ _ _ _ us hl => match us, hl with | [_, _], _ => rfl) (fun f cdv A outer s H E hr =>
  (dss_one (ds_ret (de_listRg (r := false) rfl B.b_list (drg_1 B.b_range (de_callB (p_max hr.units rfl) B.b_max (by decide +kernel) (da_cons de_int (da_cons (de_callB (p_min hr.units rfl) B.b_min (by decide +kernel) (da_cons (dv 1) (da_cons (de_callB p_len B.b_len (by decide +kernel) (da_cons (dv 0) da_nil)) da_nil))) da_nil)))))))) pure__law_cells
theorem sc__law_some : FnScope N__law_some ["pot", "pool", "many"] (defScope s__law_some) := ⟨rfl, rfl, rfl, by decide +kernel, rfl, by decide +kernel, by decide +kernel⟩
theorem ok__law_some (B : Blt mg) (O : Own K mg "_law_some" s__law_some) (H__law_take : Has P w K mg base 1 "_law_take" ["pot", "upto"] sp__law_take) : Has P w K mg base 2 "_law_some" ["pot", "pool", "many"] sp__law_some :=
  has_of (N := N__law_some) (τ := t__law_some sp__law_take) O sc__law_some (len__law_some) (fun _ _ _ _ _ _ us hl => match us, hl with | [_, _, _], _ => rfl) (fun f cdv A outer s H E hr =>
  (dss_cons (ds_par2 3 4 sc__law_some.nd (da_cons (de_callTy (p_list (r := true)) B.b_list (by decide +kernel) (da_cons (dv 1) da_nil)) (da_cons (de_lst (r := true) da_nil) da_nil)))
  (dss_cons (ds_for PassesOwn.never (di_range1 B.b_range (dv 2)) (dg_name 5 sc__law_some.nd)
  (dss_one (ds_expr (de_bm PySem.F.plainAttrs_list PySem.F.slot_list_append PySem.F.type_list_append m_append (dv 4) (da_cons (de_bm PySem.F.plainAttrs_list PySem.F.slot_list_pop PySem.F.type_list_pop m_popAt (dv 3) (da_cons (de_own H__law_take hr (da_cons (dv 0) (da_cons (de_callB p_len B.b_len (by decide +kernel) (da_cons (dv 3) da_nil)) da_nil))) da_nil)) da_nil)))))
  (dss_one (ds_ret (dv 4)))))) pure__law_some
theorem sc__law_sums : FnScope N__law_sums ["jobs", "order"] (defScope s__law_sums) := ⟨rfl, rfl, rfl, by decide +kernel, rfl, by decide +kernel, by decide +kernel⟩
theorem ok__law_sums (B : Blt mg) (O : Own K mg "_law_sums" s__law_sums)  : Has P w K mg base 1 "_law_sums" ["jobs", "order"] sp__law_sums :=
  has_of (N := N__law_sums) (τ := t__law_sums ) O sc__law_sums (len__law_sums) (fun _ _ _ _ _ _ us hl => match us, hl with | [_, _], _ => rfl) (fun f cdv A outer s H E hr =>
  (dss_cons (ds_set 2 sc__law_sums.nd (de_lst (r := true) da_nil))
  (dss_cons (ds_for PassesOwn.never (di_range1 B.b_range (de_callB p_len B.b_len (by decide +kernel) (da_cons (dv 1) da_nil))) (dg_name 3 sc__law_sums.nd)
  (dss_cons (ds_set 4 sc__law_sums.nd (de_callB (p_sum rfl) B.b_sum (by decide +kernel) (da_cons (de_lc (r := false) (own := [("one", 5)]) sc__law_sums.nd (di_sq (de_slice (p_sl (r := false)) (dv 1) do_none (do_some (de_op (p_add (r := false)) (dv 3) de_int)))) (blk_of (by kernel_rfl)) (by decide) (fun _ _ _ _ _ => (dg_name 5 sc__law_sums.nd)) (fun _ _ _ _ _ => dts_nil) (fun _ _ _ _ _ => (de_ix p_ix (de_ix p_ix (dv 0) (dv 5)) de_int))) da_nil)))
  (dss_one (ds_expr (de_bm PySem.F.plainAttrs_list PySem.F.slot_list_append PySem.F.type_list_append m_append (dv 2) (da_cons (de_op (p_add (r := false)) (dv 4) (de_callB (p_sum rfl) B.b_sum (by decide +kernel) (da_cons (de_lc (r := false) (own := [("one", 5)]) sc__law_sums.nd (di_sq (de_slice (p_sl (r := false)) (dv 1) (do_some (dv 3)) do_none)) (blk_of (by kernel_rfl)) (by decide) (fun _ _ _ _ _ => (dg_name 5 sc__law_sums.nd)) (fun _ _ _ _ _ => dts_nil) (fun _ _ _ _ _ => (de_ix p_ix (de_ix p_ix (dv 0) (dv 5)) de_int))) da_nil))) da_nil))))))
  (dss_one (ds_ret (dv 2)))))) pure__law_sums
theorem sc__law_right : FnScope N__law_right ["pot"] (defScope s__law_right) := ⟨rfl, rfl, rfl, by decide +kernel, rfl, by decide +kernel, by decide +kernel⟩
theorem ok__law_right (B : Blt mg) (O : Own K mg "_law_right" s__law_right) (H__law_of : Has P w K mg base 2 "_law_of" ["pot", "some"] sp__law_of) (H__law_take : Has P w K mg base 1 "_law_take" ["pot", "upto"] sp__law_take) (H__law_some : Has P w K mg base 2 "_law_some" ["pot", "pool", "many"] sp__law_some) (H__law_sums : Has P w K mg base 1 "_law_sums" ["jobs", "order"] sp__law_sums) (H_end_of : Has P w K mg base 5 "end_of" ["jobs", "order"] sp_end_of) (H_critical_of : Has P w K mg base 5 "critical_of" ["jobs", "order"] sp_critical_of) (H_best_sequence : Has P w K mg base 4 "best_sequence" ["jobs"] sp_best_sequence) (H_worst_sequence : Has P w K mg base 4 "worst_sequence" ["jobs"] sp_worst_sequence) (H_ends_of : Has P w K mg base 5 "ends_of" ["jobs", "order"] sp_ends_of) (H_between_of : Has P w K mg base 5 "between_of" ["jobs", "order"] sp_between_of) (H_shows_best_sequence : Has P w K mg base 4 "shows_best_sequence" ["jobs", "value"] sp_shows_best_sequence) (H_shows_worst_sequence : Has P w K mg base 4 "shows_worst_sequence" ["jobs", "value"] sp_shows_worst_sequence) (H_always_done : Has P w K mg base 5 "always_done" ["jobs", "end"] sp_always_done) (H_shows_always_done : Has P w K mg base 5 "shows_always_done" ["jobs", "end", "value"] sp_shows_always_done) : Has P w K mg base 6 "_law_right" ["pot"] sp__law_right :=
  has_of (N := N__law_right) (τ := t__law_right sp__law_of sp__law_take sp__law_some sp__law_sums sp_end_of sp_critical_of sp_best_sequence sp_worst_sequence sp_ends_of sp_between_of sp_shows_best_sequence sp_shows_worst_sequence sp_always_done sp_shows_always_done) O sc__law_right (len__law_right) (fun _ _ _ _ _ _ us hl => match us, hl with | [_], _ => rfl) (fun f cdv A outer s H E hr =>
  (dss_cons (ds_for PassesOwn.never (di_range1 B.b_range de_int) (dg_name 1 sc__law_right.nd)
  (dss_cons (ds_asg (de_tup (da_cons (de_own H__law_of.weak hr (da_cons (dv 0) (da_cons (de_lst (r := false) (da_cons de_int (da_cons de_int (da_cons (de_op p_pow de_int de_int) da_nil)))) da_nil))) (da_cons (de_op (p_add (r := false)) de_int (de_callTy p_int B.b_int (by decide +kernel) (da_cons (de_own H__law_take.weak hr (da_cons (dv 0) (da_cons (de_own H__law_of.weak hr (da_cons (dv 0) (da_cons (de_lst (r := false) (da_cons de_int (da_cons de_int da_nil))) da_nil))) da_nil))) da_nil))) da_nil))) (dg_tup (dgs_cons (dg_name 2 sc__law_right.nd) (dgs_cons (dg_name 3 sc__law_right.nd) dgs_nil))))
  (dss_cons (ds_set 4 sc__law_right.nd (de_callTy p_tuple B.b_tuple (by decide +kernel) (da_cons (de_lc (r := false) (own := [("job", 5)]) sc__law_right.nd (di_range1 B.b_range (dv 3)) (blk_of (by kernel_rfl)) (by decide) (fun _ _ _ _ _ => (dg_name 5 sc__law_right.nd)) (fun _ _ _ _ _ => dts_nil) (fun _ _ _ _ _ => (de_tup (da_cons (de_callTy p_int B.b_int (by decide +kernel) (da_cons (de_own H__law_take.weak hr (da_cons (dv 0) (da_cons (dv 2) da_nil))) da_nil)) (da_cons (de_callTy p_int B.b_int (by decide +kernel) (da_cons (de_own H__law_take.weak hr (da_cons (dv 0) (da_cons (dv 2) da_nil))) da_nil)) da_nil))))) da_nil)))
  (dss_cons (ds_set 6 sc__law_right.nd (de_tupX B.b_tuple (de_lc (r := false) (own := [("one", 7)]) sc__law_right.nd (di_sq (de_own H__law_some.weak hr (da_cons (dv 0) (da_cons (de_listRg (r := false) rfl B.b_list (drg_1 B.b_range (dv 3))) (da_cons (dv 3) da_nil))))) (blk_of (by kernel_rfl)) (by decide) (fun _ _ _ _ _ => (dg_name 7 sc__law_right.nd)) (fun _ _ _ _ _ => dts_nil) (fun _ _ _ _ _ => (de_callTy p_int B.b_int (by decide +kernel) (da_cons (dv 7) da_nil))))))
  (dss_cons (ds_par2 8 9 sc__law_right.nd (da_cons (de_own H__law_sums.weak hr (da_cons (dv 4) (da_cons (dv 6) da_nil))) (da_cons (de_own H_end_of.weak hr (da_cons (dv 4) (da_cons (dv 6) da_nil))) da_nil)))
  (dss_cons (ds_if (dt_w (dw_or (dt_cmp (p_ne hr.units) (dv 9) (de_callB (p_max hr.units rfl) B.b_max (by decide +kernel) (da_cons (dv 8) da_nil)) rfl) (dw_or1 (dt_cmp (p_ne hr.units) (de_own H_critical_of.weak hr (da_cons (dv 4) (da_cons (dv 6) da_nil))) (de_bm PySem.F.plainAttrs_list PySem.F.slot_list_index PySem.F.type_list_index m_index (dv 8) (da_cons (dv 9) da_nil)) rfl)))) (dss_one (ds_ret de_bl)) dss_nil)
  (dss_cons (ds_par2 10 11 sc__law_right.nd (da_cons (de_own H_best_sequence.weak hr (da_cons (dv 4) da_nil)) (da_cons (de_own H_worst_sequence.weak hr (da_cons (dv 4) da_nil)) da_nil)))
  (dss_cons (ds_if (dt_w (dw_or (dt_not (dt_chain p_le p_le (de_ix p_ix (dv 10) de_int) (dv 9) (de_ix p_ix (dv 11) de_int))) (dw_or (dt_cmp (p_ne hr.units) (de_own H_end_of.weak hr (da_cons (dv 4) (da_cons (de_ix p_ix (dv 10) de_int) da_nil))) (de_ix p_ix (dv 10) de_int) rfl) (dw_or1 (dt_cmp (p_ne hr.units) (de_own H_end_of.weak hr (da_cons (dv 4) (da_cons (de_ix p_ix (dv 11) de_int) da_nil))) (de_ix p_ix (dv 11) de_int) rfl))))) (dss_one (ds_ret de_bl)) dss_nil)
  (dss_cons (ds_set 12 sc__law_right.nd (de_own H_ends_of.weak hr (da_cons (dv 4) (da_cons (dv 6) da_nil))))
  (dss_cons (ds_set 13 sc__law_right.nd (de_own H_between_of.weak hr (da_cons (dv 4) (da_cons (dv 6) da_nil))))
  (dss_cons (ds_if (dt_val (de_callB (p_any rfl) B.b_any (by decide +kernel) (da_cons (de_lc (r := false) (own := [("one", 7), ("wait", 14), ("first", 15), ("second", 16)]) sc__law_right.nd (di_zip3 B.b_zip (dv 6) (dv 13) (dv 12)) (blk_of (by kernel_rfl)) (by decide) (fun _ _ _ _ _ => (dg_tup (dgs_cons (dg_name 7 sc__law_right.nd) (dgs_cons (dg_name 14 sc__law_right.nd) (dgs_cons (dg_tup (dgs_cons (dg_name 15 sc__law_right.nd) (dgs_cons (dg_name 16 sc__law_right.nd) dgs_nil))) dgs_nil))))) (fun _ _ _ _ _ => dts_nil) (fun _ _ _ _ _ => (de_cmp (p_ne hr.units) (de_op p_sub (dv 16) (dv 15)) (de_op (p_add (r := false)) (dv 14) (de_ix p_ix (de_ix p_ix (dv 4) (dv 7)) de_int)) rfl))) da_nil))) (dss_one (ds_ret de_bl)) dss_nil)
  (dss_cons (ds_set 17 sc__law_right.nd (de_callTy p_tuple B.b_tuple (by decide +kernel) (da_cons (de_lc (r := false) (own := [("first", 15), ("second", 16)]) sc__law_right.nd (di_sq (dv 4)) (blk_of (by kernel_rfl)) (by decide) (fun _ _ _ _ _ => (dg_tup (dgs_cons (dg_name 15 sc__law_right.nd) (dgs_cons (dg_name 16 sc__law_right.nd) dgs_nil)))) (fun _ _ _ _ _ => dts_nil) (fun _ _ _ _ _ => (de_tup (da_cons (dv 16) (da_cons (dv 15) da_nil))))) da_nil)))
  (dss_cons (ds_if (dt_w (dw_or (dt_cmp (p_ne hr.units) (de_own H_end_of.weak hr (da_cons (dv 17) (da_cons (de_rev (r := false) (dv 6)) da_nil))) (dv 9) rfl) (dw_or (dt_cmp (p_ne hr.units) (de_ix p_ix (de_own H_best_sequence.weak hr (da_cons (dv 17) da_nil)) de_int) (de_ix p_ix (dv 10) de_int) rfl) (dw_or1 (dt_cmp (p_ne hr.units) (de_ix p_ix (de_own H_worst_sequence.weak hr (da_cons (dv 17) da_nil)) de_int) (de_ix p_ix (dv 11) de_int) rfl))))) (dss_one (ds_ret de_bl)) dss_nil)
  (dss_cons (ds_if (dt_cmp p_notB (de_own H_shows_best_sequence.weak hr (da_cons (dv 17) (da_cons (de_tup (da_cons (de_ix p_ix (dv 10) de_int) (da_cons (de_rev (r := false) (de_ix p_ix (dv 10) de_int)) da_nil))) da_nil))) de_bl rfl) (dss_one (ds_ret de_bl)) dss_nil)
  (dss_cons (ds_if (dt_cmp p_notB (de_own H_shows_worst_sequence.weak hr (da_cons (dv 17) (da_cons (de_tup (da_cons (de_ix p_ix (dv 11) de_int) (da_cons (de_rev (r := false) (de_ix p_ix (dv 11) de_int)) da_nil))) da_nil))) de_bl rfl) (dss_one (ds_ret de_bl)) dss_nil)
  (dss_cons (ds_set 18 sc__law_right.nd (de_if (dt_cmp p_lt (dv 2) de_int rfl) (de_op (p_add (r := false)) de_int (de_callTy p_int B.b_int (by decide +kernel) (da_cons (de_own H__law_take.weak hr (da_cons (dv 0) (da_cons de_int da_nil))) da_nil))) de_int))
  (dss_cons (ds_set 19 sc__law_right.nd (de_callTy p_tuple B.b_tuple (by decide +kernel) (da_cons (de_lc (r := false) (own := [("first", 15), ("second", 16)]) sc__law_right.nd (di_sq (dv 4)) (blk_of (by kernel_rfl)) (by decide) (fun _ _ _ _ _ => (dg_tup (dgs_cons (dg_name 15 sc__law_right.nd) (dgs_cons (dg_name 16 sc__law_right.nd) dgs_nil)))) (fun _ _ _ _ _ => dts_nil) (fun _ _ _ _ _ => (de_tup (da_cons (de_op (p_mulA (r := false)) (dv 18) (dv 15)) (da_cons (de_op (p_mulA (r := false)) (dv 18) (dv 16)) da_nil))))) da_nil)))
  (dss_cons (ds_if (dt_w (dw_or (dt_cmp (p_ne hr.units) (de_own H_end_of.weak hr (da_cons (dv 19) (da_cons (dv 6) da_nil))) (de_op (p_mulA (r := false)) (dv 18) (dv 9)) rfl) (dw_or1 (dt_cmp (p_ne hr.units) (de_ix p_ix (de_own H_best_sequence.weak hr (da_cons (dv 19) da_nil)) de_int) (de_op (p_mulA (r := false)) (dv 18) (de_ix p_ix (dv 10) de_int)) rfl)))) (dss_one (ds_ret de_bl)) dss_nil)
  (dss_cons (ds_set 20 sc__law_right.nd (de_callTy p_tuple B.b_tuple (by decide +kernel) (da_cons (de_lc (r := false) (own := [("first", 15), ("second", 16)]) sc__law_right.nd (di_sq (dv 4)) (blk_of (by kernel_rfl)) (by decide) (fun _ _ _ _ _ => (dg_tup (dgs_cons (dg_name 15 sc__law_right.nd) (dgs_cons (dg_name 16 sc__law_right.nd) dgs_nil)))) (fun _ _ _ _ _ => dts_nil) (fun _ _ _ _ _ => (de_tup (da_cons (de_callB (p_max hr.units rfl) B.b_max (by decide +kernel) (da_cons de_int (da_cons (de_op p_sub (dv 15) (de_callTy p_int B.b_int (by decide +kernel) (da_cons (de_own H__law_take.weak hr (da_cons (dv 0) (da_cons de_int da_nil))) da_nil))) da_nil))) (da_cons (dv 16) da_nil))))) da_nil)))
  (dss_cons (ds_if (dt_w (dw_or (dt_cmp p_gt (de_ix p_ix (de_own H_best_sequence.weak hr (da_cons (dv 20) da_nil)) de_int) (de_ix p_ix (dv 10) de_int) rfl) (dw_or (dt_cmp p_gt (de_ix p_ix (de_own H_worst_sequence.weak hr (da_cons (dv 20) da_nil)) de_int) (de_ix p_ix (dv 11) de_int) rfl) (dw_or1 (dt_cmp p_gt (de_own H_end_of.weak hr (da_cons (dv 20) (da_cons (dv 6) da_nil))) (dv 9) rfl))))) (dss_one (ds_ret de_bl)) dss_nil)
  (dss_cons (ds_if (dt_cmp p_lt (dv 3) de_int rfl) (dss_cons (ds_set 21 sc__law_right.nd (de_op (p_add (r := false)) (dv 4) (de_tup (da_cons (de_tup (da_cons (de_callTy p_int B.b_int (by decide +kernel) (da_cons (de_own H__law_take.weak hr (da_cons (dv 0) (da_cons (dv 2) da_nil))) da_nil)) (da_cons (de_callTy p_int B.b_int (by decide +kernel) (da_cons (de_own H__law_take.weak hr (da_cons (dv 0) (da_cons (dv 2) da_nil))) da_nil)) da_nil))) da_nil))))
  (dss_one (ds_if (dt_w (dw_or (dt_cmp p_lt (de_ix p_ix (de_own H_best_sequence.weak hr (da_cons (dv 21) da_nil)) de_int) (de_ix p_ix (dv 10) de_int) rfl) (dw_or1 (dt_cmp p_lt (de_ix p_ix (de_own H_worst_sequence.weak hr (da_cons (dv 21) da_nil)) de_int) (de_ix p_ix (dv 11) de_int) rfl)))) (dss_one (ds_ret de_bl)) dss_nil))) dss_nil)
  (dss_cons (ds_if (dt_cmp p_lt (de_ix p_ix (dv 10) de_int) (de_callB (p_max hr.units rfl) B.b_max (by decide +kernel) (da_cons (de_callB (p_sum rfl) B.b_sum (by decide +kernel) (da_cons (de_lc (r := false) (own := [("job", 5)]) sc__law_right.nd (di_sq (dv 4)) (blk_of (by kernel_rfl)) (by decide) (fun _ _ _ _ _ => (dg_name 5 sc__law_right.nd)) (fun _ _ _ _ _ => dts_nil) (fun _ _ _ _ _ => (de_ix p_ix (dv 5) de_int))) da_nil)) (da_cons (de_callB (p_sum rfl) B.b_sum (by decide +kernel) (da_cons (de_lc (r := false) (own := [("job", 5)]) sc__law_right.nd (di_sq (dv 4)) (blk_of (by kernel_rfl)) (by decide) (fun _ _ _ _ _ => (dg_name 5 sc__law_right.nd)) (fun _ _ _ _ _ => dts_nil) (fun _ _ _ _ _ => (de_ix p_ix (dv 5) de_int))) da_nil)) da_nil))) rfl) (dss_one (ds_ret de_bl)) dss_nil)
  (dss_cons (ds_if (dt_cmp p_gt (de_ix p_ix (dv 11) de_int) (de_op (p_add (r := false)) (de_callB (p_sum rfl) B.b_sum (by decide +kernel) (da_cons (de_lc (r := false) (own := [("job", 5)]) sc__law_right.nd (di_sq (dv 4)) (blk_of (by kernel_rfl)) (by decide) (fun _ _ _ _ _ => (dg_name 5 sc__law_right.nd)) (fun _ _ _ _ _ => dts_nil) (fun _ _ _ _ _ => (de_callB (p_max hr.units rfl) B.b_max (by decide +kernel) (da_cons (dv 5) da_nil)))) da_nil)) (de_callB (p_max hr.units rfl) B.b_max (by decide +kernel) (da_cons (de_lc (r := false) (own := [("job", 5)]) sc__law_right.nd (di_sq (dv 4)) (blk_of (by kernel_rfl)) (by decide) (fun _ _ _ _ _ => (dg_name 5 sc__law_right.nd)) (fun _ _ _ _ _ => dts_nil) (fun _ _ _ _ _ => (de_callB (p_min hr.units rfl) B.b_min (by decide +kernel) (da_cons (dv 5) da_nil)))) da_nil))) rfl) (dss_one (ds_ret de_bl)) dss_nil)
  (dss_cons (ds_set 22 sc__law_right.nd (de_own H_always_done.weak hr (da_cons (dv 4) (da_cons (de_callB (p_max hr.units rfl) B.b_max (by decide +kernel) (da_cons de_int (da_cons (de_op p_sub (de_ix p_ix (dv 11) de_int) de_int) da_nil))) da_nil))))
  (dss_cons (ds_if (dt_w (dw_and (dt_cmp p_gt (de_ix p_ix (dv 11) de_int) de_int rfl) (dw_and1 (dt_w (dw_or (dt_cmp (p_ne hr.units) (de_ix p_ix (dv 22) de_int) de_str rfl) (dw_or1 (dt_cmp p_lt (de_own H_end_of.weak hr (da_cons (dv 4) (da_cons (de_ix p_ix (dv 22) de_int) da_nil))) (de_ix p_ix (dv 11) de_int) rfl))))))) (dss_one (ds_ret de_bl)) dss_nil)
  (dss_cons (ds_if (dt_cmp (p_ne hr.units) (de_own H_always_done.weak hr (da_cons (dv 4) (da_cons (de_ix p_ix (dv 11) de_int) da_nil))) (de_tup (da_cons de_str da_nil)) rfl) (dss_one (ds_ret de_bl)) dss_nil)
  (dss_one (ds_if (dt_cmp (p_ne hr.units) (de_own H_shows_always_done.weak hr (da_cons (dv 4) (da_cons (de_callB (p_max hr.units rfl) B.b_max (by decide +kernel) (da_cons de_int (da_cons (de_op p_sub (dv 9) de_int) da_nil))) (da_cons (de_tup (da_cons de_str (da_cons (dv 6) (da_cons (de_ix p_ix (dv 6) (de_bm PySem.F.plainAttrs_list PySem.F.slot_list_index PySem.F.type_list_index m_index (dv 8) (da_cons (dv 9) da_nil))) da_nil)))) da_nil)))) (de_cmp p_gt (dv 9) de_int rfl) rfl) (dss_one (ds_ret de_bl)) dss_nil))))))))))))))))))))))))))))
  (dss_one (ds_ret de_bl)))) pure__law_right
theorem sc_law : FnScope N_law ["script"] (defScope s_law) := ⟨rfl, rfl, rfl, by decide +kernel, rfl, by decide +kernel, by decide +kernel⟩
theorem ok_law {f0 : Addr} {fd : FuncData} (B : Blt mg) (O : FnP K "law" s_law f0 fd) (H__law_cells : Has P w K mg base 1 "_law_cells" ["script", "most"] sp__law_cells) (H__law_right : Has P w K mg base 6 "_law_right" ["pot"] sp__law_right) (H__law_pot : Has P w K mg base 1 "_law_pot" ["script", "place"] sp__law_pot) : FnOk P w K mg base CX0 7 f0 fd ["script"] (LSp K sp_law) :=
  fn_def (N := N_law) (τ := t_law sp__law_cells sp__law_right sp__law_pot) O sc_law (len_law) (fun f cdv A outer s H E hr =>
  (dss_one (ds_ret (de_callB (p_all rfl) B.b_all (by decide +kernel) (da_cons (de_lc (r := false) (own := [("at", 1)]) sc_law.nd (di_sq (de_own H__law_cells hr (da_cons (dv 0) (da_cons de_int da_nil)))) (blk_of (by kernel_rfl)) (by decide) (fun _ _ _ _ _ => (dg_name 1 sc_law.nd)) (fun _ _ _ _ _ => dts_nil) (fun _ _ _ _ _ => (de_own H__law_right hr (da_cons (de_own H__law_pot hr (da_cons (dv 0) (da_cons (dv 1) da_nil))) da_nil)))) da_nil))))) pure_law
end
theorem facts {P : Program} {w : World} {K : PySem.W.Frag} {h : Heap} {mg : Str → Option Value} {f : Addr} (X : K.In h) (G : h.Ns mainGlobals mg) (hfa : mg ("law" : Str) = some (.ref f)) (c : He.SaysD fa fn K) :
    ∃ fd : FuncData, (∀ (s : Shared) (v : Value), BindsTo s fd ⟨[v], []⟩ [("script", v)]) ∧ ∀ base : Heap, K.In base → base.Ns mainGlobals mg → FnOk P w K mg base CX0 7 f fd ["script"] (LSp K sp_law) := by
  obtain ⟨fd, F⟩ := c.def_ 28 (d := mkD "law" s_law) rfl
  have e := hfa.symm.trans (He.glo_ok X G (c.fact 28 (f := .glo "law") rfl))
  cases e
  have b := FunD.bindsA (ps := ["script"]) F fun _ _ _ _ _ _ us hl => match us, hl with | [_], _ => rfl
  have B : Blt mg := ⟨He.free_ok X G (c.fact 29 (f := .free "abs") rfl),
    He.free_ok X G (c.fact 30 (f := .free "all") rfl),
    He.free_ok X G (c.fact 31 (f := .free "any") rfl),
    He.free_ok X G (c.fact 32 (f := .free "bool") rfl),
    He.free_ok X G (c.fact 33 (f := .free "enumerate") rfl),
    He.free_ok X G (c.fact 34 (f := .free "int") rfl),
    He.free_ok X G (c.fact 35 (f := .free "isinstance") rfl),
    He.free_ok X G (c.fact 36 (f := .free "len") rfl),
    He.free_ok X G (c.fact 37 (f := .free "list") rfl),
    He.free_ok X G (c.fact 38 (f := .free "max") rfl),
    He.free_ok X G (c.fact 39 (f := .free "min") rfl),
    He.free_ok X G (c.fact 40 (f := .free "range") rfl),
    He.free_ok X G (c.fact 41 (f := .free "set") rfl),
    He.free_ok X G (c.fact 42 (f := .free "sorted") rfl),
    He.free_ok X G (c.fact 43 (f := .free "str") rfl),
    He.free_ok X G (c.fact 44 (f := .free "sum") rfl),
    He.free_ok X G (c.fact 45 (f := .free "tuple") rfl),
    He.free_ok X G (c.fact 46 (f := .free "zip") rfl),
    He.str_ok X G (c.fact 51 (f := .str "EVERY" "every") rfl),
    He.str_ok X G (c.fact 52 (f := .str "LATE" "late") rfl),
    He.int_ok X G (c.fact 49 (f := .int "MOST_END" 1000000) rfl),
    He.int_ok X G (c.fact 47 (f := .int "MOST_JOBS" 60) rfl),
    He.int_ok X G (c.fact 48 (f := .int "MOST_LONG" 10000) rfl),
    He.int_ok X G (c.fact 50 (f := .int "THREE" 3) rfl)⟩
  have O_is_int : Own K mg "is_int" s_is_int := by
    obtain ⟨fd, F⟩ := c.def_ 0 (d := mkD "is_int" s_is_int) rfl
    exact ⟨_, fd, F, He.glo_ok X G (c.fact 0 (f := .glo "is_int") rfl)⟩
  have O_are_ints : Own K mg "are_ints" s_are_ints := by
    obtain ⟨fd, F⟩ := c.def_ 1 (d := mkD "are_ints" s_are_ints) rfl
    exact ⟨_, fd, F, He.glo_ok X G (c.fact 1 (f := .glo "are_ints") rfl)⟩
  have O_is_told : Own K mg "is_told" s_is_told := by
    obtain ⟨fd, F⟩ := c.def_ 2 (d := mkD "is_told" s_is_told) rfl
    exact ⟨_, fd, F, He.glo_ok X G (c.fact 2 (f := .glo "is_told") rfl)⟩
  have O_is_order : Own K mg "is_order" s_is_order := by
    obtain ⟨fd, F⟩ := c.def_ 3 (d := mkD "is_order" s_is_order) rfl
    exact ⟨_, fd, F, He.glo_ok X G (c.fact 3 (f := .glo "is_order") rfl)⟩
  have O_look_at_jobs : Own K mg "look_at_jobs" s_look_at_jobs := by
    obtain ⟨fd, F⟩ := c.def_ 4 (d := mkD "look_at_jobs" s_look_at_jobs) rfl
    exact ⟨_, fd, F, He.glo_ok X G (c.fact 4 (f := .glo "look_at_jobs") rfl)⟩
  have O_look_at_sequence_of : Own K mg "look_at_sequence_of" s_look_at_sequence_of := by
    obtain ⟨fd, F⟩ := c.def_ 5 (d := mkD "look_at_sequence_of" s_look_at_sequence_of) rfl
    exact ⟨_, fd, F, He.glo_ok X G (c.fact 5 (f := .glo "look_at_sequence_of") rfl)⟩
  have O_told_ends : Own K mg "told_ends" s_told_ends := by
    obtain ⟨fd, F⟩ := c.def_ 6 (d := mkD "told_ends" s_told_ends) rfl
    exact ⟨_, fd, F, He.glo_ok X G (c.fact 6 (f := .glo "told_ends") rfl)⟩
  have O_ends_of : Own K mg "ends_of" s_ends_of := by
    obtain ⟨fd, F⟩ := c.def_ 7 (d := mkD "ends_of" s_ends_of) rfl
    exact ⟨_, fd, F, He.glo_ok X G (c.fact 7 (f := .glo "ends_of") rfl)⟩
  have O_end_of : Own K mg "end_of" s_end_of := by
    obtain ⟨fd, F⟩ := c.def_ 8 (d := mkD "end_of" s_end_of) rfl
    exact ⟨_, fd, F, He.glo_ok X G (c.fact 8 (f := .glo "end_of") rfl)⟩
  have O_between_of : Own K mg "between_of" s_between_of := by
    obtain ⟨fd, F⟩ := c.def_ 9 (d := mkD "between_of" s_between_of) rfl
    exact ⟨_, fd, F, He.glo_ok X G (c.fact 9 (f := .glo "between_of") rfl)⟩
  have O_critical_of : Own K mg "critical_of" s_critical_of := by
    obtain ⟨fd, F⟩ := c.def_ 10 (d := mkD "critical_of" s_critical_of) rfl
    exact ⟨_, fd, F, He.glo_ok X G (c.fact 10 (f := .glo "critical_of") rfl)⟩
  have O_told_best : Own K mg "told_best" s_told_best := by
    obtain ⟨fd, F⟩ := c.def_ 11 (d := mkD "told_best" s_told_best) rfl
    exact ⟨_, fd, F, He.glo_ok X G (c.fact 11 (f := .glo "told_best") rfl)⟩
  have O_best_sequence : Own K mg "best_sequence" s_best_sequence := by
    obtain ⟨fd, F⟩ := c.def_ 12 (d := mkD "best_sequence" s_best_sequence) rfl
    exact ⟨_, fd, F, He.glo_ok X G (c.fact 12 (f := .glo "best_sequence") rfl)⟩
  have O_shows_best_sequence : Own K mg "shows_best_sequence" s_shows_best_sequence := by
    obtain ⟨fd, F⟩ := c.def_ 13 (d := mkD "shows_best_sequence" s_shows_best_sequence) rfl
    exact ⟨_, fd, F, He.glo_ok X G (c.fact 13 (f := .glo "shows_best_sequence") rfl)⟩
  have O_told_worst : Own K mg "told_worst" s_told_worst := by
    obtain ⟨fd, F⟩ := c.def_ 14 (d := mkD "told_worst" s_told_worst) rfl
    exact ⟨_, fd, F, He.glo_ok X G (c.fact 14 (f := .glo "told_worst") rfl)⟩
  have O_told_worst_order : Own K mg "told_worst_order" s_told_worst_order := by
    obtain ⟨fd, F⟩ := c.def_ 15 (d := mkD "told_worst_order" s_told_worst_order) rfl
    exact ⟨_, fd, F, He.glo_ok X G (c.fact 15 (f := .glo "told_worst_order") rfl)⟩
  have O_worst_sequence : Own K mg "worst_sequence" s_worst_sequence := by
    obtain ⟨fd, F⟩ := c.def_ 16 (d := mkD "worst_sequence" s_worst_sequence) rfl
    exact ⟨_, fd, F, He.glo_ok X G (c.fact 16 (f := .glo "worst_sequence") rfl)⟩
  have O_shows_worst_sequence : Own K mg "shows_worst_sequence" s_shows_worst_sequence := by
    obtain ⟨fd, F⟩ := c.def_ 17 (d := mkD "shows_worst_sequence" s_shows_worst_sequence) rfl
    exact ⟨_, fd, F, He.glo_ok X G (c.fact 17 (f := .glo "shows_worst_sequence") rfl)⟩
  have O_look_at_end : Own K mg "look_at_end" s_look_at_end := by
    obtain ⟨fd, F⟩ := c.def_ 18 (d := mkD "look_at_end" s_look_at_end) rfl
    exact ⟨_, fd, F, He.glo_ok X G (c.fact 18 (f := .glo "look_at_end") rfl)⟩
  have O_always_done : Own K mg "always_done" s_always_done := by
    obtain ⟨fd, F⟩ := c.def_ 19 (d := mkD "always_done" s_always_done) rfl
    exact ⟨_, fd, F, He.glo_ok X G (c.fact 19 (f := .glo "always_done") rfl)⟩
  have O_shows_always_done : Own K mg "shows_always_done" s_shows_always_done := by
    obtain ⟨fd, F⟩ := c.def_ 20 (d := mkD "shows_always_done" s_shows_always_done) rfl
    exact ⟨_, fd, F, He.glo_ok X G (c.fact 20 (f := .glo "shows_always_done") rfl)⟩
  have O__law_pot : Own K mg "_law_pot" s__law_pot := by
    obtain ⟨fd, F⟩ := c.def_ 21 (d := mkD "_law_pot" s__law_pot) rfl
    exact ⟨_, fd, F, He.glo_ok X G (c.fact 21 (f := .glo "_law_pot") rfl)⟩
  have O__law_take : Own K mg "_law_take" s__law_take := by
    obtain ⟨fd, F⟩ := c.def_ 22 (d := mkD "_law_take" s__law_take) rfl
    exact ⟨_, fd, F, He.glo_ok X G (c.fact 22 (f := .glo "_law_take") rfl)⟩
  have O__law_of : Own K mg "_law_of" s__law_of := by
    obtain ⟨fd, F⟩ := c.def_ 23 (d := mkD "_law_of" s__law_of) rfl
    exact ⟨_, fd, F, He.glo_ok X G (c.fact 23 (f := .glo "_law_of") rfl)⟩
  have O__law_cells : Own K mg "_law_cells" s__law_cells := by
    obtain ⟨fd, F⟩ := c.def_ 24 (d := mkD "_law_cells" s__law_cells) rfl
    exact ⟨_, fd, F, He.glo_ok X G (c.fact 24 (f := .glo "_law_cells") rfl)⟩
  have O__law_some : Own K mg "_law_some" s__law_some := by
    obtain ⟨fd, F⟩ := c.def_ 25 (d := mkD "_law_some" s__law_some) rfl
    exact ⟨_, fd, F, He.glo_ok X G (c.fact 25 (f := .glo "_law_some") rfl)⟩
  have O__law_sums : Own K mg "_law_sums" s__law_sums := by
    obtain ⟨fd, F⟩ := c.def_ 26 (d := mkD "_law_sums" s__law_sums) rfl
    exact ⟨_, fd, F, He.glo_ok X G (c.fact 26 (f := .glo "_law_sums") rfl)⟩
  have O__law_right : Own K mg "_law_right" s__law_right := by
    obtain ⟨fd, F⟩ := c.def_ 27 (d := mkD "_law_right" s__law_right) rfl
    exact ⟨_, fd, F, He.glo_ok X G (c.fact 27 (f := .glo "_law_right") rfl)⟩
  refine ⟨fd, fun s v => b s [v] rfl, fun base _ _ => ?_⟩
  have H_is_int : Has P w K mg base 1 "is_int" ["value", "low", "high"] sp_is_int := ok_is_int B O_is_int 
  have H_are_ints : Has P w K mg base 2 "are_ints" ["value", "low", "high"] sp_are_ints := ok_are_ints B O_are_ints H_is_int
  have H_is_told : Has P w K mg base 1 "is_told" ["value", "sizes"] sp_is_told := ok_is_told B O_is_told 
  have H_is_order : Has P w K mg base 3 "is_order" ["value", "many"] sp_is_order := ok_is_order B O_is_order H_are_ints
  have H_look_at_jobs : Has P w K mg base 3 "look_at_jobs" ["jobs"] sp_look_at_jobs := ok_look_at_jobs B O_look_at_jobs H_are_ints
  have H_look_at_sequence_of : Has P w K mg base 4 "look_at_sequence_of" ["jobs", "order"] sp_look_at_sequence_of := ok_look_at_sequence_of B O_look_at_sequence_of H_look_at_jobs H_is_order
  have H_told_ends : Has P w K mg base 1 "told_ends" ["jobs", "order"] sp_told_ends := ok_told_ends B O_told_ends 
  have H_ends_of : Has P w K mg base 5 "ends_of" ["jobs", "order"] sp_ends_of := ok_ends_of B O_ends_of H_look_at_sequence_of H_told_ends
  have H_end_of : Has P w K mg base 5 "end_of" ["jobs", "order"] sp_end_of := ok_end_of B O_end_of H_look_at_sequence_of H_told_ends
  have H_between_of : Has P w K mg base 5 "between_of" ["jobs", "order"] sp_between_of := ok_between_of B O_between_of H_look_at_sequence_of H_told_ends
  have H_critical_of : Has P w K mg base 5 "critical_of" ["jobs", "order"] sp_critical_of := ok_critical_of B O_critical_of H_look_at_sequence_of
  have H_told_best : Has P w K mg base 1 "told_best" ["jobs"] sp_told_best := ok_told_best B O_told_best 
  have H_best_sequence : Has P w K mg base 4 "best_sequence" ["jobs"] sp_best_sequence := ok_best_sequence B O_best_sequence H_look_at_jobs H_told_best H_told_ends
  have H_shows_best_sequence : Has P w K mg base 4 "shows_best_sequence" ["jobs", "value"] sp_shows_best_sequence := ok_shows_best_sequence B O_shows_best_sequence H_look_at_jobs H_told_ends H_told_best H_is_int H_is_order
  have H_told_worst : Has P w K mg base 1 "told_worst" ["jobs"] sp_told_worst := ok_told_worst B O_told_worst 
  have H_told_worst_order : Has P w K mg base 1 "told_worst_order" ["jobs", "one"] sp_told_worst_order := ok_told_worst_order B O_told_worst_order 
  have H_worst_sequence : Has P w K mg base 4 "worst_sequence" ["jobs"] sp_worst_sequence := ok_worst_sequence B O_worst_sequence H_look_at_jobs H_told_worst H_told_worst_order
  have H_shows_worst_sequence : Has P w K mg base 4 "shows_worst_sequence" ["jobs", "value"] sp_shows_worst_sequence := ok_shows_worst_sequence B O_shows_worst_sequence H_look_at_jobs H_told_worst H_is_int H_told_ends H_is_order
  have H_look_at_end : Has P w K mg base 4 "look_at_end" ["jobs", "end"] sp_look_at_end := ok_look_at_end B O_look_at_end H_look_at_jobs H_is_int
  have H_always_done : Has P w K mg base 5 "always_done" ["jobs", "end"] sp_always_done := ok_always_done B O_always_done H_look_at_end H_told_worst H_told_worst_order
  have H_shows_always_done : Has P w K mg base 5 "shows_always_done" ["jobs", "end", "value"] sp_shows_always_done := ok_shows_always_done B O_shows_always_done H_look_at_end H_is_told H_told_worst H_is_order H_is_int
  have H__law_pot : Has P w K mg base 1 "_law_pot" ["script", "place"] sp__law_pot := ok__law_pot B O__law_pot 
  have H__law_take : Has P w K mg base 1 "_law_take" ["pot", "upto"] sp__law_take := ok__law_take B O__law_take 
  have H__law_of : Has P w K mg base 2 "_law_of" ["pot", "some"] sp__law_of := ok__law_of B O__law_of H__law_take
  have H__law_cells : Has P w K mg base 1 "_law_cells" ["script", "most"] sp__law_cells := ok__law_cells B O__law_cells 
  have H__law_some : Has P w K mg base 2 "_law_some" ["pot", "pool", "many"] sp__law_some := ok__law_some B O__law_some H__law_take
  have H__law_sums : Has P w K mg base 1 "_law_sums" ["jobs", "order"] sp__law_sums := ok__law_sums B O__law_sums 
  have H__law_right : Has P w K mg base 6 "_law_right" ["pot"] sp__law_right := ok__law_right B O__law_right H__law_of H__law_take H__law_some H__law_sums H_end_of H_critical_of H_best_sequence H_worst_sequence H_ends_of H_between_of H_shows_best_sequence H_shows_worst_sequence H_always_done H_shows_always_done
  exact ok_law B F H__law_cells H__law_right H__law_pot
end L73
open PySem PySem.W PySem.Calls PyProof.Rows
theorem PySem.Challenge.cw_nobodywaitsbeyond_k73_whole_two_checks_c_holds : PySem.Challenge.rw_nobodywaitsbeyond_k73_whole_two_checks_c.Holds := by
  w_on; o_law
  refine HandSHeadRun.head_any (r := OpenLaw.row PySem.Challenge.rw_nobodywaitsbeyond_k73_whole_two_checks_c) (q := view (OpenLaw.row PySem.Challenge.rw_nobodywaitsbeyond_k73_whole_two_checks_c).prog [42]) (H := L73.hk) (ob := L73.ob) (M := 3000) (loose := L73.loose) (d := HandSHeadRun.topDef (OpenLaw.row PySem.Challenge.rw_nobodywaitsbeyond_k73_whole_two_checks_c).prog 42) (kwd := []) L73.ob_eq
    (by kernel_rfl) (fun s => by kernel_rfl) L73.run (by kernel_rfl) (by kernel_rfl) (by kernel_rfl) (by rfl) (by first | assumption | decide +kernel) (by decide +kernel) ⟨rfl, rfl, rfl, rfl, rfl, by decide +kernel⟩ ?hw ?hc
  case hw => w_witness2
  case hc =>
    refine L2.walk_ofE (l := PySem.Challenge.rw_nobodywaitsbeyond_k73_whole_two_checks_c) (n := 63) (k := 7) (x := "script") (CX := L2.CX0) rfl (by decide) (by kernel_rfl) ⟨rfl, by decide, by decide⟩ ?F (fun _ _ _ _ z => z)
    intro w mg fa h Y G hmg0
    obtain ⟨K, KX, c⟩ := Y
    have hmg : mg ("law" : PySem.Str) = some (.ref fa) := by
      have e : (HandSHeadRun.topDef (OpenLaw.row PySem.Challenge.rw_nobodywaitsbeyond_k73_whole_two_checks_c).prog 42).name = ("law" : PySem.Str) := by kernel_rfl
      rw [← e]
      exact hmg0
    obtain ⟨fd, hb, hF⟩ := L73.facts (P := (PySem.Challenge.rw_nobodywaitsbeyond_k73_whole_two_checks_c).prog) (w := w) KX G hmg c
    exact ⟨K, fd, PL.LSp K L73.sp_law, KX, hb, fun H a ns hl hO hS => ⟨_, _, fun d _ => d = PL.D.bl true, PL.script_rd hO hS, PL.rs_empty, ⟨ns, rfl, hl, fun _ => rfl⟩, fun d S' v H' q g r => by subst q; rw [PL.RD] at r; exact r⟩, hF⟩
